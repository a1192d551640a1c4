import PyProof.Rows.All
import Wide.All
import OpenK.AllK
import Wide.FinOn
import HandS.ForMost
import HandS.ForExc
import HandS.Lambda
import HandS.IsInst
import HandS.ExcCtx
import HandS.HotCalls
import HandS.ExcIs
import HandS.Wide
import HandS.Deep
import HandS.Style
import HandS.TupMul
import HandS.TupAny
import HandS.More
import KE.DataEq
import HandS.SortInts
import HandS.Nested
import HandS.EndTab
import PySem.Challenge.RW_noughtsums_k10_whole_numbers
set_option Elab.async false
set_option linter.all false
set_option maxRecDepth 100000
set_option maxHeartbeats 1000000
/-! Data: a layer over the hand layer. Values are read as plain data (PyData); what a def leaves alone is said once. -/
namespace DL
open PySem L2 LamX
abbrev D := PyData
/-- a value: data; a list or dict of one's own that may still be changed; the script -/
inductive Vl where
  | d (x : D)
  | o (x : D)
  | s (ns : List Int)
def keyD : Key → D
  | .inl i => .int i
  | .inr s => .str s
mutual
inductive Dt (K : PySem.W.Frag) (H : Hp) : V → D → Prop
  | non : Dt K H .non .none
  | bl (b : Bool) : Dt K H (.bl b) (.bool b)
  | int (i : Int) : Dt K H (.int i) (.int i)
  | str (x : Str) : Dt K H (.str x) (.str x)
  | lst {a : Addr} {xs : List V} {ds : List D} : H a = some (.lst xs) → DtA K H xs ds → Dt K H (.ref a) (.list ds)
  | tup {a : Addr} {xs : List V} {ds : List D} : H a = some (.tup xs) → DtA K H xs ds → Dt K H (.ref a) (.tuple ds)
  | dct {a : Addr} {kvs : List (Key × V)} {es : List (D × D)} : Rd H a (.dK kvs) → DtK K H kvs es → Dt K H (.ref a) (.dict es)
inductive DtA (K : PySem.W.Frag) (H : Hp) : List V → List D → Prop
  | nil : DtA K H [] []
  | cons {v : V} {vs : List V} {d : D} {ds : List D} : Dt K H v d → DtA K H vs ds → DtA K H (v :: vs) (d :: ds)
inductive DtK (K : PySem.W.Frag) (H : Hp) : List (Key × V) → List (D × D) → Prop
  | nil : DtK K H [] []
  | cons {k : Key} {v : V} {kvs : List (Key × V)} {d : D} {es : List (D × D)} : Dt K H v d → DtK K H kvs es → DtK K H ((k, v) :: kvs) ((keyD k, d) :: es)
end
/-- all of one heap stands in the other -/
def Sub (H H' : Hp) : Prop := ∀ b o, H b = some o → H' b = some o
theorem Sub.refl (H : Hp) : Sub H H := fun _ _ h => h
theorem Sub.trans {H H1 H2 : Hp} (a : Sub H H1) (b : Sub H1 H2) : Sub H H2 := fun c o h => b c o (a c o h)
theorem Sub.free {H H' : Hp} (e : Sub H H') {l : Addr} (h : H' l = none) : H l = none := by
  cases q : H l with
  | none => rfl
  | some o => rw [e l o q] at h; cases h
theorem Sub.new {H : Hp} {p : Addr} {o : HO} (h : H p = none) : Sub H (upd H p o) := fun a u e => by
  rw [upd_ne (ne_of_none e h)]; exact e
theorem Sub.upd {H H' : Hp} {p : Addr} {o : HO} (e : Sub H H') : Sub (upd H p o) (upd H' p o) := fun a u h => by
  by_cases q : a = p
  · subst q; rw [upd_same] at h ⊢; exact h
  · rw [upd_ne q] at h ⊢; exact e a u h
theorem Sub.right {H H' : Hp} {p : Addr} {o : HO} (e : Sub H H') (h : H p = none) : Sub H (L2.upd H' p o) := fun a u q => by
  rw [upd_ne (ne_of_none q h)]; exact e a u q
theorem Sub.rd {H H' : Hp} (e : Sub H H') {a : Addr} {u : HO} (h : Rd H a u) : Rd H' a u := by
  rcases h with h | ⟨o, h⟩
  · exact .inl (e _ _ h)
  · exact .inr ⟨o, e _ _ h⟩
section
variable {K : PySem.W.Frag} {H H' : Hp}
theorem Sub.l (e : Sub H H') {a : Addr} {xs : List V} (h : SqL K H a xs) : SqL K H' a xs := by
  rcases h with h | h
  · exact .inl (e.rd h)
  · exact .inr h
theorem Sub.t (e : Sub H H') {a : Addr} {xs : List V} (h : SqT K H a xs) : SqT K H' a xs := by
  rcases h with h | h
  · exact .inl (e.rd h)
  · exact .inr h
mutual
theorem Dt.mono (e : Sub H H') : ∀ {v : V} {d : D}, Dt K H v d → Dt K H' v d
  | _, _, .non => .non
  | _, _, .bl b => .bl b
  | _, _, .int i => .int i
  | _, _, .str x => .str x
  | _, _, .lst h a => .lst (e _ _ h) (DtA.mono e a)
  | _, _, .tup h a => .tup (e _ _ h) (DtA.mono e a)
  | _, _, .dct h a => .dct (e.rd h) (DtK.mono e a)
theorem DtA.mono (e : Sub H H') : ∀ {vs : List V} {ds : List D}, DtA K H vs ds → DtA K H' vs ds
  | _, _, .nil => .nil
  | _, _, .cons h t => .cons (Dt.mono e h) (DtA.mono e t)
theorem DtK.mono (e : Sub H H') : ∀ {kvs : List (Key × V)} {es : List (D × D)}, DtK K H kvs es → DtK K H' kvs es
  | _, _, .nil => .nil
  | _, _, .cons h t => .cons (Dt.mono e h) (DtK.mono e t)
end
theorem DtA.length : ∀ {vs : List V} {ds : List D}, DtA K H vs ds → vs.length = ds.length
  | _, _, .nil => rfl
  | _, _, .cons _ t => by simp [DtA.length t]
theorem DtA.append : ∀ {vs ws : List V} {ds es : List D}, DtA K H vs ds → DtA K H ws es → DtA K H (vs ++ ws) (ds ++ es)
  | _, _, _, _, .nil, b => b
  | _, _, _, _, .cons h t, b => .cons h (DtA.append t b)
theorem DtA.get : ∀ {vs : List V} {ds : List D} {i : Nat} {d : D}, DtA K H vs ds → ds[i]? = some d → ∃ v, vs[i]? = some v ∧ Dt K H v d
  | _, _, _, _, .nil, e => by simp at e
  | _, _, 0, _, .cons h _, e => by simp at e; subst e; exact ⟨_, rfl, h⟩
  | _, _, i + 1, _, .cons _ t, e => by
    obtain ⟨v, h1, h2⟩ := DtA.get (i := i) t (by simpa using e)
    exact ⟨v, by simpa using h1, h2⟩
theorem DtA.getV : ∀ {vs : List V} {ds : List D} {i : Nat} {v : V}, DtA K H vs ds → vs[i]? = some v → ∃ d, ds[i]? = some d ∧ Dt K H v d
  | _, _, _, _, .nil, e => by simp at e
  | _, _, 0, _, .cons h _, e => by simp at e; subst e; exact ⟨_, rfl, h⟩
  | _, _, i + 1, _, .cons _ t, e => by
    obtain ⟨d, h1, h2⟩ := DtA.getV (i := i) t (by simpa using e)
    exact ⟨d, by simpa using h1, h2⟩
theorem DtA.drop : ∀ {vs : List V} {ds : List D} (n : Nat), DtA K H vs ds → DtA K H (vs.drop n) (ds.drop n)
  | _, _, 0, h => h
  | _, _, _ + 1, .nil => .nil
  | _, _, n + 1, .cons _ t => DtA.drop n t
theorem DtA.take : ∀ {vs : List V} {ds : List D} (n : Nat), DtA K H vs ds → DtA K H (vs.take n) (ds.take n)
  | _, _, 0, _ => .nil
  | _, _, _ + 1, .nil => .nil
  | _, _, n + 1, .cons h t => .cons h (DtA.take n t)
theorem DtA.set {v : V} {d : D} (h : Dt K H v d) : ∀ {vs : List V} {ds : List D} (n : Nat), DtA K H vs ds → DtA K H (vs.set n v) (ds.set n d)
  | _, _, _, .nil => .nil
  | _, _, 0, .cons _ t => .cons h t
  | _, _, n + 1, .cons g t => .cons g (DtA.set h n t)
theorem DtA.reverse : ∀ {vs : List V} {ds : List D}, DtA K H vs ds → DtA K H vs.reverse ds.reverse
  | _, _, .nil => .nil
  | _, _, .cons h t => by
    rw [List.reverse_cons, List.reverse_cons]
    exact (DtA.reverse t).append (.cons h .nil)
theorem DtK.length : ∀ {vs : List (Key × V)} {ds : List (D × D)}, DtK K H vs ds → vs.length = ds.length
  | _, _, .nil => rfl
  | _, _, .cons _ t => by simp [DtK.length t]
end
/-! ### the state -/
/-- what is told once: the tables of code objects, the classes of refusals by their names -/
structure Wd where
  tb : List (Addr × Str)
  ca : Str → Addr
def NoT (H : Hp) : Prop := ∀ b ps, H b ≠ some (.tbl ps)
theorem NoT.upd {H : Hp} {p : Addr} {o : HO} (h : NoT H) (ho : ∀ ps, o ≠ .tbl ps) : NoT (L2.upd H p o) := fun b ps z => by
  by_cases q : b = p
  · subst q; rw [upd_same] at z; exact ho ps (Option.some.inj z)
  · rw [upd_ne q] at z; exact h b ps z
abbrev DSt := List (Option Vl)
/-- what stands at an object of one's own -/
def OwnAt (K : PySem.W.Frag) (Hd H : Hp) (p : Addr) : D → Prop
  | .list ds => ∃ xs, H p = some (.lst xs) ∧ DtA K Hd xs ds
  | .dict es => ∃ kvs, H p = some (.dK kvs) ∧ DtK K Hd kvs es
  | _ => False
def SlotOk (K : PySem.W.Frag) (Fr Hd H : Hp) (v : V) : Vl → Prop
  | .d x => Dt K Hd v x
  | .o x => ∃ p, v = .ref p ∧ Hd p = none ∧ Fr p = none ∧ OwnAt K Hd H p x
  | .s ns => ∃ p, v = .ref p ∧ SqL K Hd p (ns.map V.int)
structure Sat (K : PySem.W.Frag) (T : Wd) (Fr H0 : Hp) (ρ : DSt) (σ : St) (Hd H : Hp) : Prop where
  len : σ.length = ρ.length
  base : Sub H0 Hd
  keep : Sub Hd H
  ntb : NoT Hd
  tabs : Tabs T.tb H
  frame : ∀ b o, Fr b = some o → (∀ ps, o ≠ .tbl ps) ∧ H b = some o ∧ Hd b = none
  slot : ∀ (i : Nat) (s : Vl), ρ[i]? = some (some s) → ∃ v, σ[i]? = some (some v) ∧ SlotOk K Fr Hd H v s
  sep : ∀ (i j : Nat) (x y : D) (v : V), ρ[i]? = some (some (.o x)) → ρ[j]? = some (some (.o y)) → σ[i]? = some (some v) → σ[j]? = some (some v) → i = j
def VlOk (K : PySem.W.Frag) (Hd : Hp) (ρ : DSt) (σ : St) (v : V) : Vl → Prop
  | .d x => Dt K Hd v x
  | .o x => ∃ i : Nat, ρ[i]? = some (some (.o x)) ∧ σ[i]? = some (some v)
  | .s ns => ∃ p, v = .ref p ∧ SqL K Hd p (ns.map V.int)
theorem VlOk.mono {K : PySem.W.Frag} {Hd Hd' : Hp} {ρ : DSt} {σ : St} {v : V} (e : Sub Hd Hd') : ∀ {x : Vl}, VlOk K Hd ρ σ v x → VlOk K Hd' ρ σ v x
  | .d _, h => Dt.mono e h
  | .o _, h => h
  | .s _, ⟨p, h1, h2⟩ => ⟨p, h1, e.l h2⟩
abbrev DX := Str → Prop
abbrev DE := DX → DSt → (Vl → Prop) → Prop
abbrev DT := DX → DSt → (Bool → Prop) → Prop
abbrev DA := DX → DSt → (List Vl → Prop) → Prop
structure DEnds where
  nx : DSt → Prop
  rt : D → Prop
  bk : DSt → Prop := fun _ => False
  ct : DSt → Prop := fun _ => False
  xc : DX := fun _ => False
abbrev DS := DEnds → DSt → Prop
section
variable (K : PySem.W.Frag) (T : Wd) (E : XK)
def XOk (E : XK) (Fr H0 : Hp) (ρ : DSt) (σ : St) (xc : DX) : Prop := ∀ C Hd H, Sat K T Fr H0 ρ σ Hd H → xc C → E (.ref (T.ca C)) none H
def LE (t : DE) : TE := fun σ H Q => ∃ (xc : DX) (Fr H0 : Hp) (ρ : DSt) (Hd : Hp) (q : Vl → Prop), Sat K T Fr H0 ρ σ Hd H ∧ t xc ρ q ∧ XOk K T E Fr H0 ρ σ xc ∧
  ∀ v x Hd' H', Sat K T Fr H0 ρ σ Hd' H' → Sub Hd Hd' → VlOk K Hd' ρ σ v x → q x → Q v H'
def LT (t : DT) : TT := fun σ H Q => ∃ (xc : DX) (Fr H0 : Hp) (ρ : DSt) (Hd : Hp) (q : Bool → Prop), Sat K T Fr H0 ρ σ Hd H ∧ t xc ρ q ∧ XOk K T E Fr H0 ρ σ xc ∧
  ∀ b Hd' H', Sat K T Fr H0 ρ σ Hd' H' → Sub Hd Hd' → q b → Q b H'
inductive VlsOk (K : PySem.W.Frag) (Hd : Hp) (ρ : DSt) (σ : St) : List V → List Vl → Prop
  | nil : VlsOk K Hd ρ σ [] []
  | cons {v : V} {vs : List V} {x : Vl} {xs : List Vl} : VlOk K Hd ρ σ v x → VlsOk K Hd ρ σ vs xs → VlsOk K Hd ρ σ (v :: vs) (x :: xs)
def LA (t : DA) : TA := fun σ H Q => ∃ (xc : DX) (Fr H0 : Hp) (ρ : DSt) (Hd : Hp) (q : List Vl → Prop), Sat K T Fr H0 ρ σ Hd H ∧ t xc ρ q ∧ XOk K T E Fr H0 ρ σ xc ∧
  ∀ vs xs Hd' H', Sat K T Fr H0 ρ σ Hd' H' → Sub Hd Hd' → VlsOk K Hd' ρ σ vs xs → q xs → Q vs H'
/-- where a def ends: the heap alone -/
structure Out (T : Wd) (Fr H0 Hd H : Hp) : Prop where
  base : Sub H0 Hd
  keep : Sub Hd H
  ntb : NoT Hd
  tabs : Tabs T.tb H
  frame : ∀ b o, Fr b = some o → (∀ ps, o ≠ .tbl ps) ∧ H b = some o ∧ Hd b = none
structure EndsOk (Fr H0 : Hp) (n : Nat) (e : DEnds) (De : Ends) : Prop where
  nx : ∀ ρ σ Hd H, Sat K T Fr H0 ρ σ Hd H → ρ.length = n → e.nx ρ → De.nx σ H
  bk : ∀ ρ σ Hd H, Sat K T Fr H0 ρ σ Hd H → ρ.length = n → e.bk ρ → De.bk σ H
  ct : ∀ ρ σ Hd H, Sat K T Fr H0 ρ σ Hd H → ρ.length = n → e.ct ρ → De.ct σ H
  rt : ∀ d v Hd H, Out T Fr H0 Hd H → Dt K Hd v d → e.rt d → De.rt v H
  xc : ∀ C Hd H, Out T Fr H0 Hd H → e.xc C → E (.ref (T.ca C)) none H
def LS (t : DS) : TS := fun De σ H => ∃ (e : DEnds) (Fr H0 : Hp) (ρ : DSt) (Hd : Hp), Sat K T Fr H0 ρ σ Hd H ∧ EndsOk K T E Fr H0 ρ.length e De ∧ t e ρ
end
def ED (X : Cx) (T : Wd) (E : XK) (e : Expr) (t : DE) : Prop := PE X e (LE X.K T E t)
def TD (X : Cx) (T : Wd) (E : XK) (e : Expr) (t : DT) : Prop := PT X e (LT X.K T E t)
def WD (X : Cx) (T : Wd) (E : XK) (e : Expr) (t : DT) : Prop := PW X e (LT X.K T E t)
def AD (X : Cx) (T : Wd) (E : XK) (es : List Expr) (t : DA) : Prop := PA X es (LA X.K T E t)
def SD (X : Cx) (T : Wd) (E : XK) (st : Stmt) (t : DS) : Prop := PS X st (LS X.K T E t)
def BD (X : Cx) (T : Wd) (E : XK) (sts : List Stmt) (t : DS) : Prop := PSs X sts (LS X.K T E t)
theorem pe_imp {X : Cx} {e : Expr} {t t' : TE} (h : PE X e t) (k : ∀ σ H Q, t' σ H Q → t σ H Q) : PE X e t' := ⟨fun pins s σ H Q I w => h.run pins s σ H Q I (k σ H Q w)⟩
theorem pt_imp {X : Cx} {e : Expr} {t t' : TT} (h : PT X e t) (k : ∀ σ H Q, t' σ H Q → t σ H Q) : PT X e t' := ⟨fun pins s σ H Q I w => h.run pins s σ H Q I (k σ H Q w)⟩
theorem pw_imp {X : Cx} {e : Expr} {t t' : TT} (h : PW X e t) (k : ∀ σ H Q, t' σ H Q → t σ H Q) : PW X e t' := ⟨fun wh pins s σ H Q I w => h.run wh pins s σ H Q I (k σ H Q w)⟩
theorem pa_imp {X : Cx} {es : List Expr} {t t' : TA} (h : PA X es t) (k : ∀ σ H Q, t' σ H Q → t σ H Q) : PA X es t' := ⟨fun pos pins s σ H Q I w => h.run pos pins s σ H Q I (k σ H Q w)⟩
theorem ps_imp {X : Cx} {st : Stmt} {t t' : TS} (h : PS X st t) (k : ∀ De σ H, t' De σ H → t De σ H) : PS X st t' := ⟨fun pins s σ H De I w => h.run pins s σ H De I (k De σ H w)⟩
theorem pss_imp {X : Cx} {sts : List Stmt} {t t' : TS} (h : PSs X sts t) (k : ∀ De σ H, t' De σ H → t De σ H) : PSs X sts t' := ⟨fun pins s σ H De I w => h.run pins s σ H De I (k De σ H w)⟩
/-! ### the state is kept -/
section
variable {K : PySem.W.Frag} {T : Wd} {Fr H0 : Hp} {ρ : DSt} {σ : St} {Hd H : Hp}
theorem Sat.out (s : Sat K T Fr H0 ρ σ Hd H) : Out T Fr H0 Hd H := ⟨s.base, s.keep, s.ntb, s.tabs, s.frame⟩
theorem SlotOk.ext {Fr' Hd' H' : Hp} (e : Sub Hd Hd') (h : ∀ b o, Hd b = none → H b = some o → (∀ ps, o ≠ .tbl ps) → Fr b = none → Hd' b = none ∧ H' b = some o ∧ Fr' b = none) {v : V} {s : Vl} (q : SlotOk K Fr Hd H v s) : SlotOk K Fr' Hd' H' v s := by
  cases s with
  | d y => exact Dt.mono e q
  | s y => obtain ⟨p, h1, h2⟩ := q; exact ⟨p, h1, e.l h2⟩
  | o y =>
    obtain ⟨p, e1, h1, hf, q⟩ := q
    cases y with
    | list ds =>
      obtain ⟨xs, h2, h3⟩ := q
      obtain ⟨k1, k2, k3⟩ := h p _ h1 h2 (fun ps z => by cases z) hf
      exact ⟨p, e1, k1, k3, xs, k2, h3.mono e⟩
    | dict ds =>
      obtain ⟨xs, h2, h3⟩ := q
      obtain ⟨k1, k2, k3⟩ := h p _ h1 h2 (fun ps z => by cases z) hf
      exact ⟨p, e1, k1, k3, xs, k2, h3.mono e⟩
    | none => exact (show False from q).elim
    | bool _ => exact (show False from q).elim
    | int _ => exact (show False from q).elim
    | str _ => exact (show False from q).elim
    | tuple _ => exact (show False from q).elim
/-- a new object, laid among the data -/
theorem Sat.lay {p : Addr} {o : HO} (s : Sat K T Fr H0 ρ σ Hd H) (hp : H p = none) (ho : ∀ ps, o ≠ .tbl ps := by intro ps z; cases z) : Sat K T Fr H0 ρ σ (upd Hd p o) (upd H p o) := by
  have hd := s.keep.free hp
  refine ⟨s.len, s.base.trans (Sub.new hd), s.keep.upd, s.ntb.upd ho, s.tabs.ext (Sub.new hp), fun b u e => ?_, fun i v e => ?_, s.sep⟩
  · obtain ⟨h0, h1, h2⟩ := s.frame b u e
    have n : b ≠ p := ne_of_none h1 hp
    exact ⟨h0, by rw [upd_ne n]; exact h1, by rw [upd_ne n]; exact h2⟩
  · obtain ⟨w, h1, h2⟩ := s.slot i v e
    refine ⟨w, h1, h2.ext (Sub.new hd) fun b u hb hu _ hf => ?_⟩
    have n : b ≠ p := ne_of_none hu hp
    exact ⟨by rw [upd_ne n]; exact hb, by rw [upd_ne n]; exact hu, hf⟩
/-- the data of a value, but the script's -/
def Vl.dat : Vl → Option D
  | .d x => some x
  | .o x => some x
  | .s _ => none
theorem OwnAt.full (s : Sub Hd H) {p : Addr} {d : D} (h : OwnAt K Hd H p d) : Dt K H (.ref p) d := by
  cases d with
  | list ds => obtain ⟨xs, e3, e4⟩ := h; exact .lst e3 (e4.mono s)
  | dict es => obtain ⟨xs, e3, e4⟩ := h; exact .dct (.inl e3) (e4.mono s)
  | none => exact (show False from h).elim
  | bool _ => exact (show False from h).elim
  | int _ => exact (show False from h).elim
  | str _ => exact (show False from h).elim
  | tuple _ => exact (show False from h).elim
theorem VlOk.full (s : Sat K T Fr H0 ρ σ Hd H) {v : V} {d : D} {x : Vl} (h : VlOk K Hd ρ σ v x) (e : x.dat = some d) : Dt K H v d := by
  cases x with
  | d y => cases e; exact Dt.mono s.keep h
  | o y =>
    cases e
    obtain ⟨i, h1, h2⟩ := h
    obtain ⟨w, e1, p, e2, _, _, e3⟩ := s.slot i _ h1
    rw [h2] at e1; cases e1; subst e2
    exact e3.full s.keep
  | s y => cases e
/-- a list, data or one's own: where it stands, its items data -/
theorem VlOk.list (s : Sat K T Fr H0 ρ σ Hd H) {v : V} {ds : List D} {x : Vl} (hx : x.dat = some (.list ds)) (h : VlOk K Hd ρ σ v x) : ∃ p xs, v = .ref p ∧ H p = some (.lst xs) ∧ DtA K Hd xs ds := by
  cases x with
  | d y =>
    cases hx
    have h : Dt K Hd v (.list ds) := h
    cases h with
    | lst h1 h2 => exact ⟨_, _, rfl, s.keep _ _ h1, h2⟩
  | o y =>
    cases hx
    obtain ⟨i, h1, h2⟩ := h
    obtain ⟨w, e1, p, e2, _, _, xs, e3, e4⟩ := s.slot i _ h1
    rw [h2] at e1; cases e1
    exact ⟨p, xs, e2, e3, e4⟩
  | s ns => cases hx
theorem VlOk.tup (s : Sat K T Fr H0 ρ σ Hd H) {v : V} {ds : List D} {x : Vl} (hx : x.dat = some (.tuple ds)) (h : VlOk K Hd ρ σ v x) : ∃ p xs, v = .ref p ∧ H p = some (.tup xs) ∧ DtA K Hd xs ds := by
  cases x with
  | d y =>
    cases hx
    have h : Dt K Hd v (.tuple ds) := h
    cases h with
    | tup h1 h2 => exact ⟨_, _, rfl, s.keep _ _ h1, h2⟩
  | o y =>
    cases hx
    obtain ⟨i, h1, h2⟩ := h
    obtain ⟨w, e1, p, e2, _, _, z⟩ := s.slot i _ h1
    exact z.elim
  | s ns => cases hx
theorem VlOk.int {v : V} {i : Int} {x : Vl} (s : Sat K T Fr H0 ρ σ Hd H) (hx : x.dat = some (.int i)) (h : VlOk K Hd ρ σ v x) : v = .int i := by
  have q := h.full s hx
  cases q; rfl
theorem VlOk.bl {v : V} {i : Bool} {x : Vl} (s : Sat K T Fr H0 ρ σ Hd H) (hx : x.dat = some (.bool i)) (h : VlOk K Hd ρ σ v x) : v = .bl i := by
  have q := h.full s hx
  cases q; rfl
theorem VlOk.str {v : V} {i : Str} {x : Vl} (s : Sat K T Fr H0 ρ σ Hd H) (hx : x.dat = some (.str i)) (h : VlOk K Hd ρ σ v x) : v = .str i := by
  have q := h.full s hx
  cases q; rfl
theorem VlOk.non {v : V} {x : Vl} (s : Sat K T Fr H0 ρ σ Hd H) (hx : x.dat = some .none) (h : VlOk K Hd ρ σ v x) : v = .non := by
  have q := h.full s hx
  cases q; rfl
end
end DL

/-! Data: expressions. -/
namespace DL
open PySem L2 LamX
section
variable {X : Cx} {T : Wd} {E : XK} {a b c e : Expr} {es rest : List Expr} {pos p p2 : Pos} {Ta Tb Tc Te : DE} {ta tb tc : DT} {Al : DA}
/-! ### names, constants -/
def gVar (o : Option (Option Vl)) (Q : Vl → Prop) : Prop := match o with
  | some (some s) => Q s
  | _ => False
def dVar (i : Nat) : DE := fun _ ρ Q => gVar ρ[i]? Q
def dC (x : D) : DE := fun _ _ Q => Q (.d x)
theorem de_var {i : Nat} {x : Str} (h : PE X (.Name x pos) (tVar i)) : ED X T E (.Name x pos) (dVar i) := by
  refine pe_imp h fun σ H Q ⟨xc, Fr, H0, ρ, Hd, q, s, w, hx, k⟩ => ?_
  unfold dVar gVar at w
  split at w
  · rename_i v e1
    obtain ⟨u, h1, h2⟩ := s.slot i v e1
    refine ⟨u, h1, k u v Hd H s (Sub.refl _) ?_ w⟩
    cases v with
    | d y => exact h2
    | o y => exact ⟨i, e1, h1⟩
    | s y => exact h2
  · exact w.elim
theorem de_c {v : V} {x : D} (h : PE X e (tC v)) (hd : ∀ K Hd, Dt K Hd v x) : ED X T E e (dC x) :=
  pe_imp h fun σ H Q ⟨xc, Fr, H0, ρ, Hd, q, s, w, hx, k⟩ => k v (.d x) Hd H s (Sub.refl _) (hd _ _) w
theorem de_int {i : Int} {j : Nat} : ED X T E (.Constant (.int i) j pos) (dC (.int i)) := de_c pe_int fun _ _ => .int i
theorem de_bl {i : Bool} {j : Nat} : ED X T E (.Constant (.bool i) j pos) (dC (.bool i)) := de_c pe_bl fun _ _ => .bl i
theorem de_non {j : Nat} : ED X T E (.Constant .none j pos) (dC .none) := de_c pe_non fun _ _ => .non
theorem de_str {i : Str} {j : Nat} : ED X T E (.Constant (.str i) j pos) (dC (.str i)) := de_c pe_str fun _ _ => .str i
theorem de_globI {x : Str} {i : Int} {u : Value} (hm : X.mg x = some u) (r : RelV (.int i) u) (hg : Gl X x := by rfl) (hd : (x == ("__debug__" : Str)) = false := by decide) : ED X T E (.Name x pos) (dC (.int i)) := de_c (pe_glob hg hm r hd) fun _ _ => .int i
theorem de_globS {x : Str} {i : Str} {u : Value} (hm : X.mg x = some u) (r : RelV (.str i) u) (hg : Gl X x := by rfl) (hd : (x == ("__debug__" : Str)) = false := by decide) : ED X T E (.Name x pos) (dC (.str i)) := de_c (pe_glob hg hm r hd) fun _ _ => .str i
/-! ### operations on values -/
abbrev G2 := Vl → Vl → (Vl → Prop) → Prop
def OpD (K : PySem.W.Frag) (T : Wd) (r : R2) (g : G2) : Prop := ∀ (Fr H0 : Hp) (ρ : DSt) (σ : St) (Hd H : Hp) (vx vy : V) (x y : Vl) (q : Vl → Prop) (Q : VK),
  Sat K T Fr H0 ρ σ Hd H → VlOk K Hd ρ σ vx x → VlOk K Hd ρ σ vy y → g x y q → (∀ v z Hd' H', Sat K T Fr H0 ρ σ Hd' H' → Sub Hd Hd' → VlOk K Hd' ρ σ v z → q z → Q v H') → r vx vy H Q
def dOp (g : G2) (Ta Tb : DE) : DE := fun xc ρ Q => Ta xc ρ fun x => Tb xc ρ fun y => g x y Q
theorem le_op {K : PySem.W.Frag} {r : R2} {g : G2} (hd : OpD K T r g) {σ : St} {H : Hp} {Q : VK} (h : LE K T E (dOp g Ta Tb) σ H Q) : tOp r (LE K T E Ta) (LE K T E Tb) σ H Q := by
  obtain ⟨xc, Fr, H0, ρ, Hd, q, s, w, hx, k⟩ := h
  exact ⟨xc, Fr, H0, ρ, Hd, _, s, w, hx, fun v x Hd1 H1 s1 b1 ok1 w1 => ⟨xc, Fr, H0, ρ, Hd1, _, s1, w1, hx, fun v2 y Hd2 H2 s2 b2 ok2 w2 =>
    hd Fr H0 ρ σ Hd2 H2 v v2 x y q Q s2 (ok1.mono b2) ok2 w2 fun v3 z Hd3 H3 s3 b3 ok3 w3 => k v3 z Hd3 H3 s3 ((b1.trans b2).trans b3) ok3 w3⟩⟩
theorem de_op {op : Operator} {r : R2} {g : G2} (ho : OpR X (binaryOp op) r) (hd : OpD X.K T r g) (ha : ED X T E a Ta) (hb : ED X T E b Tb) : ED X T E (.BinOp a op b pos) (dOp g Ta Tb) :=
  pe_imp (pe_op ho ha hb) fun _ _ _ h => le_op hd h
theorem de_cmp {op : CmpOp} {r : R2} {g : G2} (ho : OpR X (compareOp op) r) (hd : OpD X.K T r g) (ha : ED X T E a Ta) (hb : ED X T E b Tb) (hm : behindInMarks op b = false) : ED X T E (.Compare a [op] [b] pos) (dOp g Ta Tb) :=
  pe_imp (pe_cmpR ho ha hb hm) fun _ _ _ h => le_op hd h
theorem de_ix {r : R2} {g : G2} (hr : IxR X r) (hd : OpD X.K T r g) (ha : ED X T E a Ta) (hb : ED X T E b Tb) (hs : PlainIx b) : ED X T E (.Subscript a b pos) (dOp g Ta Tb) :=
  pe_imp (pe_ix hr ha hb hs) fun _ _ _ h => le_op hd h
/-! ### tests -/
def vB (v : Vl) (k : Bool → Prop) : Prop := match v with
  | .d (.bool b) => k b
  | _ => False
def bc (b : Bool) (A B : Prop) : Prop := match b with
  | true => A
  | false => B
theorem vB_ok {K : PySem.W.Frag} {Hd : Hp} {ρ : DSt} {σ : St} {v : V} {x : Vl} {k : Bool → Prop} (h : VlOk K Hd ρ σ v x) (w : vB x k) : ∃ b, v = .bl b ∧ x = .d (.bool b) ∧ k b := by
  unfold vB at w
  split at w
  · rename_i b
    have h : Dt K Hd v (.bool b) := h
    cases h
    exact ⟨b, rfl, rfl, w⟩
  · exact w.elim
def dTest (t : DE) : DT := fun xc ρ Q => t xc ρ fun v => vB v Q
theorem lt_test {K : PySem.W.Frag} {σ : St} {H : Hp} {Q : Bool → Hp → Prop} (h : LT K T E (dTest Te) σ H Q) : tTest (LE K T E Te) σ H Q := by
  obtain ⟨xc, Fr, H0, ρ, Hd, q, s, w, hx, k⟩ := h
  refine ⟨xc, Fr, H0, ρ, Hd, _, s, w, hx, fun v x Hd1 H1 s1 b1 ok1 w1 => ?_⟩
  obtain ⟨u, rfl, rfl, w1⟩ := vB_ok ok1 w1
  exact ⟨u, rfl, k u Hd1 H1 s1 b1 w1⟩
theorem tt_mono {t t' : TE} (h : ∀ σ H Q, t' σ H Q → t σ H Q) {σ : St} {H : Hp} {Q : Bool → Hp → Prop} (q : tTest t' σ H Q) : tTest t σ H Q := h _ _ _ q
theorem td_cmp {op : CmpOp} {r : R2} {g : G2} (ho : OpR X (compareOp op) r) (hd : OpD X.K T r g) (ha : ED X T E a Ta) (hb : ED X T E b Tb) (hm : behindInMarks op b = false) : TD X T E (.Compare a [op] [b] pos) (dTest (dOp g Ta Tb)) :=
  pt_imp (pt_cmpR ho ha hb hm) fun _ _ _ h => tt_mono (fun _ _ _ h => le_op hd h) (lt_test h)
/-- a op1 b op2 c -/
def dChain (g g' : G2) (Ta Tb Tc : DE) : DE := fun xc ρ Q => Ta xc ρ fun x => Tb xc ρ fun y => g x y fun z => vB z fun k => bc k (Tc xc ρ fun w => g' y w Q) (Q (.d (.bool false)))
theorem le_chain {K : PySem.W.Frag} {r r' : R2} {g g' : G2} (hd : OpD K T r g) (hd' : OpD K T r' g') {σ : St} {H : Hp} {Q : VK} (h : LE K T E (dChain g g' Ta Tb Tc) σ H Q) : tChain r r' (LE K T E Ta) (LE K T E Tb) (LE K T E Tc) σ H Q := by
  obtain ⟨xc, Fr, H0, ρ, Hd, q, s, w, hx, k⟩ := h
  refine ⟨xc, Fr, H0, ρ, Hd, _, s, w, hx, fun v x Hd1 H1 s1 b1 ok1 w1 => ⟨xc, Fr, H0, ρ, Hd1, _, s1, w1, hx, fun v2 y Hd2 H2 s2 b2 ok2 w2 =>
    hd Fr H0 ρ σ Hd2 H2 v v2 x y _ _ s2 (ok1.mono b2) ok2 w2 fun v3 z Hd3 H3 s3 b3 ok3 w3 => ?_⟩⟩
  obtain ⟨u3, rfl, rfl, w3⟩ := vB_ok ok3 w3
  cases u3 with
  | true =>
    refine ⟨true, rfl, ?_⟩
    rw [if_pos rfl]
    exact ⟨xc, Fr, H0, ρ, Hd3, _, s3, w3, hx, fun v4 u Hd4 H4 s4 b4 ok4 w4 => hd' Fr H0 ρ σ Hd4 H4 v2 v4 y u q Q s4 (ok2.mono (b3.trans b4)) ok4 w4 fun v5 z5 Hd5 H5 s5 b5 ok5 w5 =>
      k v5 z5 Hd5 H5 s5 ((((b1.trans b2).trans b3).trans b4).trans b5) ok5 w5⟩
  | false =>
    refine ⟨false, rfl, ?_⟩
    rw [if_neg Bool.false_ne_true]
    exact k _ (.d (.bool false)) Hd3 H3 s3 ((b1.trans b2).trans b3) (Dt.bl false) w3
theorem de_chain {op op' : CmpOp} {r r' : R2} {g g' : G2} (ho : OpR X (compareOp op) r) (hd : OpD X.K T r g) (ho' : OpR X (compareOp op') r') (hd' : OpD X.K T r' g') (ha : ED X T E a Ta) (hb : ED X T E b Tb) (hc : ED X T E c Tc)
    (hm : lastMarks [op, op'] [b, c] = false := by with_unfolding_all rfl) : ED X T E (.Compare a [op, op'] [b, c] pos) (dChain g g' Ta Tb Tc) :=
  pe_imp (pe_chain ho ho' ha hb hc hm) fun _ _ _ h => le_chain hd hd' h
theorem td_chain {op op' : CmpOp} {r r' : R2} {g g' : G2} (ho : OpR X (compareOp op) r) (hd : OpD X.K T r g) (ho' : OpR X (compareOp op') r') (hd' : OpD X.K T r' g') (ha : ED X T E a Ta) (hb : ED X T E b Tb) (hc : ED X T E c Tc)
    (hm : lastMarks [op, op'] [b, c] = false := by with_unfolding_all rfl) : TD X T E (.Compare a [op, op'] [b, c] pos) (dTest (dChain g g' Ta Tb Tc)) :=
  pt_imp (pt_chain ho ho' ha hb hc hm) fun _ _ _ h => tt_mono (fun _ _ _ h => le_chain hd hd' h) (lt_test h)
/-- an expression that gives a truth, as a test -/
theorem td_val (h : ED X T E e Te) (he : ∀ whole, isTrue e X.env whole = (do let v ← whole; standAt e.pos; holding [v] (truthy v)) := by intro _; rfl) : TD X T E e (dTest Te) :=
  pt_imp (pt_val h he) fun _ _ _ h => lt_test h
/-! ### and, or, not -/
def dAnd (t u : DT) : DT := fun xc ρ Q => t xc ρ fun k => bc k (u xc ρ Q) (Q false)
def dOr (t u : DT) : DT := fun xc ρ Q => t xc ρ fun k => bc k (Q true) (u xc ρ Q)
def dNot (t : DT) : DT := fun xc ρ Q => t xc ρ fun k => Q (!k)
theorem wd_and1 (h : TD X T E a ta) : WD X T E (.BoolOp .And [a] pos) ta := pw_and1 h
theorem wd_or1 (h : TD X T E a ta) : WD X T E (.BoolOp .Or [a] pos) ta := pw_or1 h
theorem wd_and (ha : TD X T E a ta) (hb : WD X T E (.BoolOp .And (b :: rest) pos) tb) : WD X T E (.BoolOp .And (a :: b :: rest) pos) (dAnd ta tb) := by
  refine pw_imp (pw_and ha hb) fun σ H Q ⟨xc, Fr, H0, ρ, Hd, q, s, w, hx, k⟩ => ⟨xc, Fr, H0, ρ, Hd, _, s, w, hx, fun u Hd1 H1 s1 b1 w1 => ?_⟩
  cases u with
  | true => exact iteT ⟨xc, Fr, H0, ρ, Hd1, _, s1, w1, hx, fun u2 Hd2 H2 s2 b2 w2 => k u2 Hd2 H2 s2 (b1.trans b2) w2⟩
  | false => exact iteF (k _ Hd1 H1 s1 b1 w1)
theorem wd_or (ha : TD X T E a ta) (hb : WD X T E (.BoolOp .Or (b :: rest) pos) tb) : WD X T E (.BoolOp .Or (a :: b :: rest) pos) (dOr ta tb) := by
  refine pw_imp (pw_or ha hb) fun σ H Q ⟨xc, Fr, H0, ρ, Hd, q, s, w, hx, k⟩ => ⟨xc, Fr, H0, ρ, Hd, _, s, w, hx, fun u Hd1 H1 s1 b1 w1 => ?_⟩
  cases u with
  | true => exact iteT (k _ Hd1 H1 s1 b1 w1)
  | false => exact iteF ⟨xc, Fr, H0, ρ, Hd1, _, s1, w1, hx, fun u2 Hd2 H2 s2 b2 w2 => k u2 Hd2 H2 s2 (b1.trans b2) w2⟩
theorem WD.td (h : WD X T E e ta) : TD X T E e ta := PW.pt h
theorem td_not (ha : TD X T E a ta) : TD X T E (.UnaryOp .Not a pos) (dNot ta) :=
  pt_imp (pt_not ha) fun σ H Q ⟨xc, Fr, H0, ρ, Hd, q, s, w, hx, k⟩ => ⟨xc, Fr, H0, ρ, Hd, _, s, w, hx, fun u Hd1 H1 s1 b1 w1 => k _ Hd1 H1 s1 b1 w1⟩
/-- as values: all but the last are truths -/
def dAndV (Ta Tb : DE) : DE := fun xc ρ Q => Ta xc ρ fun v => vB v fun k => bc k (Tb xc ρ Q) (Q (.d (.bool false)))
def dOrV (Ta Tb : DE) : DE := fun xc ρ Q => Ta xc ρ fun v => vB v fun k => bc k (Q (.d (.bool true))) (Tb xc ρ Q)
def dNotV (Ta : DE) : DE := fun xc ρ Q => Ta xc ρ fun v => vB v fun k => Q (.d (.bool (!k)))
theorem de_one {op} (h : ED X T E a Ta) : ED X T E (.BoolOp op [a] pos) Ta := pe_one h
theorem de_and (ha : ED X T E a Ta) (hb : ED X T E (.BoolOp .And (b :: rest) pos) Tb) : ED X T E (.BoolOp .And (a :: b :: rest) pos) (dAndV Ta Tb) := by
  refine pe_imp (pe_and ha hb) fun σ H Q ⟨xc, Fr, H0, ρ, Hd, q, s, w, hx, k⟩ => ⟨xc, Fr, H0, ρ, Hd, _, s, w, hx, fun v x Hd1 H1 s1 b1 ok1 w1 => ?_⟩
  obtain ⟨u, rfl, rfl, w1⟩ := vB_ok ok1 w1
  cases u with
  | true => exact ⟨true, rfl, iteT ⟨xc, Fr, H0, ρ, Hd1, _, s1, w1, hx, fun v2 y Hd2 H2 s2 b2 ok2 w2 => k v2 y Hd2 H2 s2 (b1.trans b2) ok2 w2⟩⟩
  | false => exact ⟨false, rfl, iteF (k _ (.d (.bool false)) Hd1 H1 s1 b1 (Dt.bl false) w1)⟩
theorem de_or (ha : ED X T E a Ta) (hb : ED X T E (.BoolOp .Or (b :: rest) pos) Tb) : ED X T E (.BoolOp .Or (a :: b :: rest) pos) (dOrV Ta Tb) := by
  refine pe_imp (pe_or ha hb) fun σ H Q ⟨xc, Fr, H0, ρ, Hd, q, s, w, hx, k⟩ => ⟨xc, Fr, H0, ρ, Hd, _, s, w, hx, fun v x Hd1 H1 s1 b1 ok1 w1 => ?_⟩
  obtain ⟨u, rfl, rfl, w1⟩ := vB_ok ok1 w1
  cases u with
  | true => exact ⟨true, rfl, iteT (k _ (.d (.bool true)) Hd1 H1 s1 b1 (Dt.bl true) w1)⟩
  | false => exact ⟨false, rfl, iteF ⟨xc, Fr, H0, ρ, Hd1, _, s1, w1, hx, fun v2 y Hd2 H2 s2 b2 ok2 w2 => k v2 y Hd2 H2 s2 (b1.trans b2) ok2 w2⟩⟩
theorem de_not (ha : ED X T E a Ta) : ED X T E (.UnaryOp .Not a pos) (dNotV Ta) := by
  refine pe_imp (pe_not ha) fun σ H Q ⟨xc, Fr, H0, ρ, Hd, q, s, w, hx, k⟩ => ⟨xc, Fr, H0, ρ, Hd, _, s, w, hx, fun v x Hd1 H1 s1 b1 ok1 w1 => ?_⟩
  obtain ⟨u, rfl, rfl, w1⟩ := vB_ok ok1 w1
  exact ⟨u, rfl, k _ (.d (.bool _)) Hd1 H1 s1 b1 (Dt.bl _) w1⟩
def dIfE (t : DT) (Ta Tb : DE) : DE := fun xc ρ Q => t xc ρ fun k => bc k (Ta xc ρ Q) (Tb xc ρ Q)
theorem de_ifExp (hc : TD X T E c ta) (ha : ED X T E a Ta) (hb : ED X T E b Tb) : ED X T E (.IfExp c a b pos) (dIfE ta Ta Tb) := by
  refine pe_imp (pe_ifExp hc ha hb) fun σ H Q ⟨xc, Fr, H0, ρ, Hd, q, s, w, hx, k⟩ => ⟨xc, Fr, H0, ρ, Hd, _, s, w, hx, fun u Hd1 H1 s1 b1 w1 => ?_⟩
  cases u with
  | true => exact iteT ⟨xc, Fr, H0, ρ, Hd1, _, s1, w1, hx, fun v2 y Hd2 H2 s2 b2 ok2 w2 => k v2 y Hd2 H2 s2 (b1.trans b2) ok2 w2⟩
  | false => exact iteF ⟨xc, Fr, H0, ρ, Hd1, _, s1, w1, hx, fun v2 y Hd2 H2 s2 b2 ok2 w2 => k v2 y Hd2 H2 s2 (b1.trans b2) ok2 w2⟩
/-! ### argument lists, displays -/
def dNil : DA := fun _ _ Q => Q []
def dCons (Ta : DE) (Al : DA) : DA := fun xc ρ Q => Ta xc ρ fun x => Al xc ρ fun xs => Q (x :: xs)
theorem VlsOk.mono {K : PySem.W.Frag} {Hd Hd' : Hp} {ρ : DSt} {σ : St} (e : Sub Hd Hd') : ∀ {vs : List V} {xs : List Vl}, VlsOk K Hd ρ σ vs xs → VlsOk K Hd' ρ σ vs xs
  | _, _, .nil => .nil
  | _, _, .cons h t => .cons (h.mono e) (VlsOk.mono e t)
theorem ad_nil : AD X T E [] dNil := pa_imp pa_nil fun σ H Q ⟨xc, Fr, H0, ρ, Hd, q, s, w, hx, k⟩ => k [] [] Hd H s (Sub.refl _) .nil w
theorem ad_cons (ha : ED X T E e Ta) (hr : AD X T E es Al) (hs : starEach (e :: es) X.env = (false, eval e X.env) :: starEach es X.env := by rfl) : AD X T E (e :: es) (dCons Ta Al) :=
  pa_imp (pa_cons ha hr hs) fun σ H Q ⟨xc, Fr, H0, ρ, Hd, q, s, w, hx, k⟩ => ⟨xc, Fr, H0, ρ, Hd, _, s, w, hx, fun v x Hd1 H1 s1 b1 ok1 w1 => ⟨xc, Fr, H0, ρ, Hd1, _, s1, w1, hx, fun vs xs Hd2 H2 s2 b2 ok2 w2 =>
    k (v :: vs) (x :: xs) Hd2 H2 s2 (b1.trans b2) (.cons (ok1.mono b2) ok2) w2⟩⟩
def allD : List Vl → Option (List D)
  | [] => some []
  | .d x :: r => match allD r with
    | some ds => some (x :: ds)
    | none => none
  | _ => none
theorem allD_ok {K : PySem.W.Frag} {Hd : Hp} {ρ : DSt} {σ : St} : ∀ {vs : List V} {xs : List Vl} {ds : List D}, VlsOk K Hd ρ σ vs xs → allD xs = some ds → DtA K Hd vs ds
  | _, _, _, .nil, e => by cases e; exact .nil
  | _, .d x :: r, ds, .cons h t, e => by
    cases q : allD r with
    | none => simp [allD, q] at e
    | some es =>
      simp [allD, q] at e
      subst e
      exact .cons h (allD_ok t q)
  | _, .o x :: r, ds, .cons h t, e => by simp [allD] at e
  | _, .s x :: r, ds, .cons h t, e => by simp [allD] at e
def gTup (xs : List Vl) (Q : Vl → Prop) : Prop := match allD xs with
  | some ds => ds.length ≤ sizeLine ∧ Q (.d (.tuple ds))
  | none => False
def gLst (xs : List Vl) (Q : Vl → Prop) : Prop := match allD xs with
  | some ds => ds.length ≤ sizeLine ∧ Q (.d (.list ds))
  | none => False
def dTup (Al : DA) : DE := fun xc ρ Q => Al xc ρ fun xs => gTup xs Q
def dLst (Al : DA) : DE := fun xc ρ Q => Al xc ρ fun xs => gLst xs Q
theorem de_tup {x1} (h : AD X T E es Al) : ED X T E (.Tuple es x1 pos) (dTup Al) := by
  refine pe_imp (pe_tup h) fun σ H Q ⟨xc, Fr, H0, ρ, Hd, q, s, w, hx, k⟩ => ⟨xc, Fr, H0, ρ, Hd, _, s, w, hx, fun vs xs Hd1 H1 s1 b1 ok1 w1 => ?_⟩
  unfold gTup at w1
  split at w1
  · rename_i ds e1
    have hA := allD_ok ok1 e1
    refine ⟨by rw [hA.length]; exact w1.1, fun p hp => k _ (.d (.tuple ds)) _ _ (s1.lay (o := .tup vs) hp) (b1.trans (Sub.new (s1.keep.free hp))) (Dt.tup upd_same (hA.mono (Sub.new (s1.keep.free hp)))) w1.2⟩
  · exact w1.elim
theorem de_lst (h : AD X T E es Al) : ED X T E (.List es pos) (dLst Al) := by
  refine pe_imp (pe_lst h) fun σ H Q ⟨xc, Fr, H0, ρ, Hd, q, s, w, hx, k⟩ => ⟨xc, Fr, H0, ρ, Hd, _, s, w, hx, fun vs xs Hd1 H1 s1 b1 ok1 w1 => ?_⟩
  unfold gLst at w1
  split at w1
  · rename_i ds e1
    have hA := allD_ok ok1 e1
    refine ⟨by rw [hA.length]; exact w1.1, fun p hp => k _ (.d (.list ds)) _ _ (s1.lay (o := .lst vs) hp) (b1.trans (Sub.new (s1.keep.free hp))) (Dt.lst upd_same (hA.mono (Sub.new (s1.keep.free hp)))) w1.2⟩
  · exact w1.elim
/-! ### built-ins called by name -/
abbrev GN := List Vl → (Vl → Prop) → Prop
def CallD (K : PySem.W.Frag) (T : Wd) (r : List V → Hp → VK → Prop) (g : GN) : Prop := ∀ (Fr H0 : Hp) (ρ : DSt) (σ : St) (Hd H : Hp) (vs : List V) (xs : List Vl) (q : Vl → Prop) (Q : VK),
  Sat K T Fr H0 ρ σ Hd H → VlsOk K Hd ρ σ vs xs → g xs q → (∀ v z Hd' H', Sat K T Fr H0 ρ σ Hd' H' → Sub Hd Hd' → VlOk K Hd' ρ σ v z → q z → Q v H') → r vs H Q
def dCB (g : GN) (Al : DA) : DE := fun xc ρ Q => Al xc ρ fun xs => g xs Q
theorem le_cb {K : PySem.W.Frag} {r : List V → Hp → VK → Prop} {g : GN} (hd : CallD K T r g) {σ : St} {H : Hp} {Q : VK} (h : LE K T E (dCB g Al) σ H Q) : tCB r (LA K T E Al) σ H Q := by
  obtain ⟨xc, Fr, H0, ρ, Hd, q, s, w, hx, k⟩ := h
  exact ⟨xc, Fr, H0, ρ, Hd, _, s, w, hx, fun vs xs Hd1 H1 s1 b1 ok1 w1 => hd Fr H0 ρ σ Hd1 H1 vs xs q Q s1 ok1 w1 fun v z Hd2 H2 s2 b2 ok2 w2 => k v z Hd2 H2 s2 (b1.trans b2) ok2 w2⟩
theorem de_callB {x : Str} {id : String} {r : List V → Hp → VK → Prop} {g : GN} (hc : CallR X (.builtin id) r) (hd : CallD X.K T r g) (hm : X.mg x = none) (ha : AD X T E (e :: es) Al) (hg : Gl X x := by rfl) (hv : bootBuiltins x = some (.builtin id) := by decide +kernel) (hn : x ≠ "__name__" := by decide) (hdb : (x == ("__debug__" : Str)) = false := by decide)
    (he : starEach (e :: es) X.env = (false, eval e X.env) :: starEach es X.env := by rfl) (hpl : (backTo pos (starEach es X.env)).any (·.1) = false := by rfl) : ED X T E (.Call (.Name x p) (e :: es) [] pos) (dCB g Al) :=
  pe_imp (pe_callB hc hg hm hv ha hn hdb he hpl) fun _ _ _ h => le_cb hd h
theorem de_callTy {x : Str} {Ty : String} {r : List V → Hp → VK → Prop} {g : GN} (hc : CallR X (.type Ty) r) (hd : CallD X.K T r g) (hm : X.mg x = none) (ha : AD X T E (e :: es) Al) (hg : Gl X x := by rfl) (hv : bootBuiltins x = some (.type Ty) := by decide +kernel) (hn : x ≠ "__name__" := by decide) (hdb : (x == ("__debug__" : Str)) = false := by decide)
    (he : starEach (e :: es) X.env = (false, eval e X.env) :: starEach es X.env := by rfl) (hpl : (backTo pos (starEach es X.env)).any (·.1) = false := by rfl) : ED X T E (.Call (.Name x p) (e :: es) [] pos) (dCB g Al) :=
  pe_imp (pe_callTy hc hg hm hv ha hn hdb he hpl) fun _ _ _ h => le_cb hd h
end
end DL

/-! Data: what operators and built-ins give. -/
namespace DL
open PySem L2 LamX
/-! ### data without dicts, not too deep -/
def okD : Nat → D → Bool
  | _, .none => true
  | _, .bool _ => true
  | _, .int _ => true
  | _, .str _ => true
  | n + 1, .list xs => xs.all (okD n)
  | n + 1, .tuple xs => xs.all (okD n)
  | 0, .list _ => false
  | 0, .tuple _ => false
  | _, .dict _ => false
theorem plainAll_of {p : D → Bool} (h : ∀ d, p d = true → d.plain = true) : ∀ xs : List D, xs.all p = true → PyData.plainAll xs = true
  | [], _ => rfl
  | x :: xs, q => by
    rw [List.all_cons, Bool.and_eq_true] at q
    simp only [PyData.plainAll, h x q.1, plainAll_of h xs q.2, Bool.and_self]
theorem depthAll_of {p : D → Bool} {n : Nat} (h : ∀ d, p d = true → d.depth ≤ n) : ∀ xs : List D, xs.all p = true → PyData.depthAll xs ≤ n
  | [], _ => by simp [PyData.depthAll]
  | x :: xs, q => by
    rw [List.all_cons, Bool.and_eq_true] at q
    have h1 := h x q.1
    have h2 := depthAll_of h xs q.2
    simp only [PyData.depthAll]
    omega
theorem okD_plain : ∀ (n : Nat) (d : D), okD n d = true → d.plain = true
  | _, .none, _ => rfl
  | _, .bool _, _ => rfl
  | _, .int _, _ => rfl
  | _, .str _, _ => rfl
  | n + 1, .list xs, h => by
    simp only [okD] at h
    simp only [PyData.plain]
    exact plainAll_of (okD_plain n) xs h
  | n + 1, .tuple xs, h => by
    simp only [okD] at h
    simp only [PyData.plain]
    exact plainAll_of (okD_plain n) xs h
  | 0, .list _, h => by simp [okD] at h
  | 0, .tuple _, h => by simp [okD] at h
  | 0, .dict _, h => by simp [okD] at h
  | n + 1, .dict _, h => by simp [okD] at h
theorem okD_depth : ∀ (n : Nat) (d : D), okD n d = true → d.depth ≤ n + 1
  | _, .none, _ => by simp [PyData.depth]
  | _, .bool _, _ => by simp [PyData.depth]
  | _, .int _, _ => by simp [PyData.depth]
  | _, .str _, _ => by simp [PyData.depth]
  | n + 1, .list xs, h => by
    simp only [okD] at h
    have q := depthAll_of (okD_depth n) xs h
    simp only [PyData.depth]
    omega
  | n + 1, .tuple xs, h => by
    simp only [okD] at h
    have q := depthAll_of (okD_depth n) xs h
    simp only [PyData.depth]
    omega
  | 0, .list _, h => by simp [okD] at h
  | 0, .tuple _, h => by simp [okD] at h
  | 0, .dict _, h => by simp [okD] at h
  | n + 1, .dict _, h => by simp [okD] at h
mutual
theorem Dt.dp {K : PySem.W.Frag} {H : Hp} : ∀ {v : V} {d : D}, Dt K H v d → d.plain = true → Dp K H v d
  | _, _, .non, _ => .non
  | _, _, .bl b, _ => .bl b
  | _, _, .int i, _ => .int i
  | _, _, .str x, _ => .str x
  | _, _, .lst h a, p => .lst (SqL.of h) (DtA.dp a (by simpa [PyData.plain] using p))
  | _, _, .tup h a, p => .tup (SqT.of h) (DtA.dp a (by simpa [PyData.plain] using p))
  | _, _, .dct h a, p => by simp [PyData.plain] at p
theorem DtA.dp {K : PySem.W.Frag} {H : Hp} : ∀ {vs : List V} {ds : List D}, DtA K H vs ds → PyData.plainAll ds = true → DpAll K H vs ds
  | _, _, .nil, _ => .nil
  | _, _, .cons h t, p => by
    simp only [PyData.plainAll, Bool.and_eq_true] at p
    exact .cons (Dt.dp h p.1) (DtA.dp t p.2)
end
theorem dpAll_ints {K : PySem.W.Frag} {H : Hp} : ∀ ns : List Int, DpAll K H (ns.map V.int) (ns.map PyData.int)
  | [] => .nil
  | n :: ns => .cons (.int n) (dpAll_ints ns)
/-- the data of a value, the script's too -/
def Vl.all : Vl → D
  | .d x => x
  | .o x => x
  | .s ns => .list (ns.map .int)
section
variable {K : PySem.W.Frag} {T : Wd} {Fr H0 : Hp} {ρ : DSt} {σ : St} {Hd H : Hp}
theorem VlOk.dp (s : Sat K T Fr H0 ρ σ Hd H) {v : V} {x : Vl} (h : VlOk K Hd ρ σ v x) (p : x.all.plain = true) : Dp K H v x.all := by
  cases x with
  | d y => exact (h.full s rfl).dp p
  | o y => exact (h.full s rfl).dp p
  | s ns =>
    obtain ⟨q, e, hq⟩ := h
    subst e
    exact .lst (s.keep.l hq) (dpAll_ints ns)
end
section
variable {X : Cx} {T : Wd}
/-! ### == and != -/
def rEqP (K : PySem.W.Frag) : R2 := fun x y H Q => ∃ d e, Dp K H x d ∧ Dp K H y e ∧ d.plain = true ∧ e.plain = true ∧ min d.depth e.depth ≤ 60 ∧ Q (.bl (PyData.eqv d e)) H
def rNeP (K : PySem.W.Frag) : R2 := fun x y H Q => ∃ d e, Dp K H x d ∧ Dp K H y e ∧ d.plain = true ∧ e.plain = true ∧ min d.depth e.depth ≤ 60 ∧ Q (.bl (!PyData.eqv d e)) H
theorem op_eqP (hu : X.A.units + 64 < cLine) : OpR X (compareOp .Eq) (rEqP X.K) := by
  intro pins s σ H x y v u Q I rx ry h
  obtain ⟨d, e, hd, he, sd, se, hm, q⟩ := h
  obtain ⟨as, r1⟩ := Dp.reads I d x v hd rx
  obtain ⟨bs, r2⟩ := Dp.reads I e y u he ry
  exact SeqAt.eq_plain r1 r2 sd se (by omega) ⟨.bl _, H, I, rfl, q⟩
theorem op_neP (hu : X.A.units + 64 < cLine) : OpR X (compareOp .NotEq) (rNeP X.K) := by
  intro pins s σ H x y v u Q I rx ry h
  obtain ⟨d, e, hd, he, sd, se, hm, q⟩ := h
  obtain ⟨as, r1⟩ := Dp.reads I d x v hd rx
  obtain ⟨bs, r2⟩ := Dp.reads I e y u he ry
  exact SeqAt.ne_plain r1 r2 sd se (by omega) ⟨.bl _, H, I, rfl, q⟩
def gEq : G2 := fun x y Q => okD 40 x.all = true ∧ okD 40 y.all = true ∧ Q (.d (.bool (PyData.eqv x.all y.all)))
def gNe : G2 := fun x y Q => okD 40 x.all = true ∧ okD 40 y.all = true ∧ Q (.d (.bool (!PyData.eqv x.all y.all)))
theorem od_eq : OpD X.K T (rEqP X.K) gEq := fun Fr H0 ρ σ Hd H vx vy x y q Q s hx hy ⟨w1, w2, w⟩ k => by
  have p1 := okD_plain _ _ w1
  have p2 := okD_plain _ _ w2
  have d1 := okD_depth _ _ w1
  exact ⟨_, _, hx.dp s p1, hy.dp s p2, p1, p2, by omega, k _ (.d (.bool _)) Hd H s (Sub.refl _) (Dt.bl _) w⟩
theorem od_ne : OpD X.K T (rNeP X.K) gNe := fun Fr H0 ρ σ Hd H vx vy x y q Q s hx hy ⟨w1, w2, w⟩ k => by
  have p1 := okD_plain _ _ w1
  have p2 := okD_plain _ _ w2
  have d1 := okD_depth _ _ w1
  exact ⟨_, _, hx.dp s p1, hy.dp s p2, p1, p2, by omega, k _ (.d (.bool _)) Hd H s (Sub.refl _) (Dt.bl _) w⟩
/-! ### ints -/
def gI (C : Int → Int → Prop) (f : Int → Int → D) : G2 := fun x y Q => match x, y with
  | .d (.int i), .d (.int j) => C i j ∧ Q (.d (f i j))
  | _, _ => False
theorem od_I {C : Int → Int → Prop} {g : Int → Int → V} {f : Int → Int → D} (h : ∀ K Hd i j, Dt K Hd (g i j) (f i j)) : OpD X.K T (rI C g) (gI C f) := fun Fr H0 ρ σ Hd H vx vy x y q Q s hx hy w k => by
  unfold gI at w
  split at w
  · rename_i i j
    exact ⟨i, j, hx.int s rfl, hy.int s rfl, w.1, k _ (.d (f i j)) Hd H s (Sub.refl _) (h _ _ _ _) w.2⟩
  · exact w.elim
def gI0 (f : Int → Int → D) : G2 := fun x y Q => match x, y with
  | .d (.int i), .d (.int j) => Q (.d (f i j))
  | _, _ => False
theorem od_I0 {g : Int → Int → V} {f : Int → Int → D} (h : ∀ K Hd i j, Dt K Hd (g i j) (f i j)) : OpD X.K T (rI0 g) (gI0 f) := fun Fr H0 ρ σ Hd H vx vy x y q Q s hx hy w k => by
  unfold gI0 at w
  split at w
  · rename_i i j
    exact ⟨i, j, hx.int s rfl, hy.int s rfl, k _ (.d (f i j)) Hd H s (Sub.refl _) (h _ _ _ _) w⟩
  · exact w.elim
def gSub : G2 := gI0 fun i j => .int (i - j)
def gLt : G2 := gI0 fun i j => .bool (decide (i < j))
def gLe : G2 := gI0 fun i j => .bool (decide (i ≤ j))
def gGt : G2 := gI0 fun i j => .bool (decide (j < i))
def gGe : G2 := gI0 fun i j => .bool (decide (j ≤ i))
theorem od_sub : OpD X.K T (rI0 fun i j => .int (i - j)) gSub := od_I0 fun _ _ _ _ => .int _
theorem od_lt : OpD X.K T (rI0 fun i j => .bl (decide (i < j))) gLt := od_I0 fun _ _ _ _ => .bl _
theorem od_le : OpD X.K T (rI0 fun i j => .bl (decide (i ≤ j))) gLe := od_I0 fun _ _ _ _ => .bl _
theorem od_gt : OpD X.K T (rI0 fun i j => .bl (decide (j < i))) gGt := od_I0 fun _ _ _ _ => .bl _
theorem od_ge : OpD X.K T (rI0 fun i j => .bl (decide (j ≤ i))) gGe := od_I0 fun _ _ _ _ => .bl _
/-- a divisor that is not nought and not too great -/
def CDv (_ j : Int) : Prop := j ≠ 0 ∧ j.natAbs.log2 < 9000
theorem op_fdivD : OpR X (binaryOp .FloorDiv) (rI CDv fun i j => .int (i.fdiv j)) := opI fun i j _ _ _ _ _ hc q => PyProof.Rows.floordiv_int hc.1 q (.inl (PyProof.noPylong_of_log2 hc.2))
def gFdiv : G2 := gI CDv fun i j => .int (i.fdiv j)
theorem od_fdiv : OpD X.K T (rI CDv fun i j => .int (i.fdiv j)) gFdiv := od_I fun _ _ _ _ => .int _
def gMod : G2 := gI (fun _ j => j ≠ 0) fun i j => .int (i.fmod j)
theorem od_mod : OpD X.K T (rI (fun _ j => j ≠ 0) fun i j => .int (i.fmod j)) gMod := od_I fun _ _ _ _ => .int _
def gPow : G2 := gI CPow fun i j => .int (i ^ j.toNat)
theorem od_pow : OpD X.K T (rI CPow fun i j => .int (i ^ j.toNat)) gPow := od_I fun _ _ _ _ => .int _
/-! ### + -/
def rAdS : R2 := fun x y H Q => ∃ i j, x = .str i ∧ y = .str j ∧ i.length + j.length ≤ sizeLine ∧ Q (.str (i ++ j)) H
def rAd (K : PySem.W.Frag) : R2 := fun x y H Q => rI0 (fun i j => .int (i + j)) x y H Q ∨ rAdS x y H Q ∨ rCat x y H Q ∨ rCatA K x y H Q
theorem op_ad : OpR X (binaryOp .Add) (rAd X.K) := op_add.or (op_add_str.or (op_cat.or op_catA))
def gAdd : G2 := fun x y Q => match x.dat, y.dat with
  | some (.int i), some (.int j) => Q (.d (.int (i + j)))
  | some (.str i), some (.str j) => i.length + j.length ≤ sizeLine ∧ Q (.d (.str (i ++ j)))
  | some (.list a), some (.list b) => a.length + b.length ≤ sizeLine ∧ Q (.d (.list (a ++ b)))
  | some (.tuple a), some (.tuple b) => a.length + b.length ≤ sizeLine ∧ Q (.d (.tuple (a ++ b)))
  | _, _ => False
theorem DtA.nil_of {K : PySem.W.Frag} {H : Hp} {xs : List V} {ds : List D} (h : DtA K H xs ds) (e : xs = []) : ds = [] := by subst e; cases h; rfl
theorem od_add : OpD X.K T (rAd X.K) gAdd := fun Fr H0 ρ σ Hd H vx vy x y q Q s hx hy w k => by
  unfold gAdd at w
  split at w
  · rename_i i j ex ey
    exact .inl ⟨i, j, hx.int s ex, hy.int s ey, k _ (.d (.int (i + j))) Hd H s (Sub.refl _) (Dt.int _) w⟩
  · rename_i i j ex ey
    exact .inr (.inl ⟨i, j, hx.str s ex, hy.str s ey, w.1, k _ (.d (.str (i ++ j))) Hd H s (Sub.refl _) (Dt.str _) w.2⟩)
  · rename_i a b ex ey
    obtain ⟨p1, xs, rfl, h1, a1⟩ := hx.list s ex
    obtain ⟨p2, ys, rfl, h2, a2⟩ := hy.list s ey
    refine .inr (.inr (.inl ⟨p1, p2, xs, ys, rfl, rfl, h1, h2, by rw [a1.length, a2.length]; exact w.1, fun p hp => ?_⟩))
    exact k _ (.d (.list (a ++ b))) _ _ (s.lay (o := .lst (xs ++ ys)) hp) (Sub.new (s.keep.free hp)) (Dt.lst upd_same ((a1.append a2).mono (Sub.new (s.keep.free hp)))) w.2
  · rename_i a b ex ey
    obtain ⟨p1, xs, rfl, h1, a1⟩ := hx.tup s ex
    obtain ⟨p2, ys, rfl, h2, a2⟩ := hy.tup s ey
    have t1 : Dt X.K Hd (.ref p1) (.tuple a) := by
      cases x with
      | d z => cases ex; exact hx
      | o z => cases ex; obtain ⟨i, e1, e2⟩ := hx; obtain ⟨_, _, _, _, _, _, z⟩ := s.slot i _ e1; exact z.elim
      | s z => cases ex
    have t2 : Dt X.K Hd (.ref p2) (.tuple b) := by
      cases y with
      | d z => cases ey; exact hy
      | o z => cases ey; obtain ⟨i, e1, e2⟩ := hy; obtain ⟨_, _, _, _, _, _, z⟩ := s.slot i _ e1; exact z.elim
      | s z => cases ey
    refine .inr (.inr (.inr ⟨p1, p2, xs, ys, rfl, rfl, SqT.of h1, SqT.of h2, by rw [a1.length, a2.length]; exact w.1, fun e1 => ?_, fun e1 e2 => ?_, fun e1 e2 p hp => ?_⟩))
    · have z := a1.nil_of e1
      subst z
      rw [List.nil_append] at w
      exact k _ (.d (.tuple b)) Hd H s (Sub.refl _) t2 w.2
    · have z := a2.nil_of e2
      subst z
      rw [List.append_nil] at w
      exact k _ (.d (.tuple a)) Hd H s (Sub.refl _) t1 w.2
    · exact k _ (.d (.tuple (a ++ b))) _ _ (s.lay (o := .tup (xs ++ ys)) hp) (Sub.new (s.keep.free hp)) (Dt.tup upd_same ((a1.append a2).mono (Sub.new (s.keep.free hp)))) w.2
  · exact w.elim
/-! ### * -/
def CMl (i j : Int) : Prop := CMul i j ∨ CMulW i j
theorem op_mulB : OpR X (binaryOp .Mult) (rI CMl fun i j => .int (i * j)) := opI fun _ _ _ _ _ _ _ hc q => PyProof.Rows.mul_int q (hc.elim CMul.ok CMulW.ok)
def rMl (K : PySem.W.Frag) : R2 := fun x y H Q => rI CMl (fun i j => .int (i * j)) x y H Q ∨ rRep x y H Q ∨ rRepT K x y H Q
theorem op_ml : OpR X (binaryOp .Mult) (rMl X.K) := op_mulB.or (op_rep.or op_repT)
theorem DtA.rep {K : PySem.W.Frag} {H : Hp} {xs : List V} {ds : List D} (h : DtA K H xs ds) : ∀ n : Nat, DtA K H (List.replicate n xs).flatten (List.replicate n ds).flatten
  | 0 => by simpa using .nil
  | n + 1 => by
    rw [List.replicate_succ, List.replicate_succ, List.flatten_cons, List.flatten_cons]
    exact h.append (DtA.rep h n)
def gMul : G2 := fun x y Q => match x.dat, y.dat with
  | some (.int i), some (.int j) => CMl i j ∧ Q (.d (.int (i * j)))
  | some (.list a), some (.int j) => (-(2 ^ 63) ≤ j ∧ j < 2 ^ 63 ∧ a.length * j.toNat ≤ sizeLine) ∧ Q (.d (.list (List.replicate j.toNat a).flatten))
  | some (.tuple a), some (.int j) => (a ≠ [] ∧ 2 ≤ j ∧ j ≤ 1000 ∧ a.length ≤ 1000) ∧ Q (.d (.tuple (List.replicate j.toNat a).flatten))
  | _, _ => False
theorem od_mul : OpD X.K T (rMl X.K) gMul := fun Fr H0 ρ σ Hd H vx vy x y q Q s hx hy w k => by
  unfold gMul at w
  split at w
  · rename_i i j ex ey
    exact .inl ⟨i, j, hx.int s ex, hy.int s ey, w.1, k _ (.d (.int (i * j))) Hd H s (Sub.refl _) (Dt.int _) w.2⟩
  · rename_i a j ex ey
    obtain ⟨p1, xs, rfl, h1, a1⟩ := hx.list s ex
    refine .inr (.inl ⟨p1, j, xs, rfl, hy.int s ey, h1, w.1.1, w.1.2.1, by rw [a1.length]; exact w.1.2.2, fun p hp => ?_⟩)
    exact k _ (.d (.list _)) _ _ (s.lay (o := .lst _) hp) (Sub.new (s.keep.free hp)) (Dt.lst upd_same ((a1.rep j.toNat).mono (Sub.new (s.keep.free hp)))) w.2
  · rename_i a j ex ey
    obtain ⟨p1, xs, rfl, h1, a1⟩ := hx.tup s ex
    refine .inr (.inr ⟨p1, j, xs, rfl, hy.int s ey, SqT.of h1, fun z => w.1.1 (a1.nil_of z), w.1.2.1, w.1.2.2.1, by rw [a1.length]; exact w.1.2.2.2, fun p hp => ?_⟩)
    exact k _ (.d (.tuple _)) _ _ (s.lay (o := .tup _) hp) (Sub.new (s.keep.free hp)) (Dt.tup upd_same ((a1.rep j.toNat).mono (Sub.new (s.keep.free hp)))) w.2
  · exact w.elim
/-! ### items -/
theorem DtA.atI {K : PySem.W.Frag} {H : Hp} {xs : List V} {ds : List D} (h : DtA K H xs ds) {i : Int} {d : D} (e : L2.atI ds i = some d) : ∃ v, L2.atI xs i = some v ∧ Dt K H v d := by
  unfold L2.atI at e ⊢
  rw [h.length]
  cases q : ixN ds.length i with
  | none => rw [q] at e; cases e
  | some j =>
    rw [q] at e
    obtain ⟨v, h1, h2⟩ := h.get (show ds[j]? = some d from e)
    exact ⟨v, h1, h2⟩
theorem atI_map {α β : Type} (f : α → β) (xs : List α) (i : Int) : L2.atI (xs.map f) i = (L2.atI xs i).map f := by
  unfold L2.atI
  rw [List.length_map]
  cases ixN xs.length i with
  | none => rfl
  | some j => simp
def gIx : G2 := fun x y Q => match x, y with
  | .s ns, .d (.int i) => match L2.atI ns i with
    | some v => Q (.d (.int v))
    | none => False
  | x, .d (.int i) => match x.dat with
    | some (.list ds) => match L2.atI ds i with
      | some v => Q (.d v)
      | none => False
    | some (.tuple ds) => match L2.atI ds i with
      | some v => Q (.d v)
      | none => False
    | some (.str z) => z.length ≤ sizeLine ∧ match L2.atI z.cps.toList i with
      | some c => Q (.d (.str ⟨#[c]⟩))
      | none => False
    | _ => False
  | _, _ => False
theorem od_ix : OpD X.K T (rIx X.K) gIx := fun Fr H0 ρ σ Hd H vx vy x y q Q s hx hy w k => by
  unfold gIx at w
  split at w
  · rename_i ns i
    split at w
    · rename_i v ev
      obtain ⟨p, rfl, hp⟩ := hx
      refine .inl ⟨p, _, i, .int v, rfl, hy.int s rfl, s.keep.l hp, ?_, k _ (.d (.int v)) Hd H s (Sub.refl _) (Dt.int _) w⟩
      rw [atI_map, ev]; rfl
    · exact w.elim
  · rename_i x' i hns
    split at w
    · rename_i ds ex
      split at w
      · rename_i d ed
        obtain ⟨p1, xs, rfl, h1, a1⟩ := hx.list s ex
        obtain ⟨v, h2, h3⟩ := a1.atI ed
        exact .inl ⟨p1, xs, i, v, rfl, hy.int s rfl, SqL.of h1, h2, k _ (.d d) Hd H s (Sub.refl _) h3 w⟩
      · exact w.elim
    · rename_i ds ex
      split at w
      · rename_i d ed
        obtain ⟨p1, xs, rfl, h1, a1⟩ := hx.tup s ex
        obtain ⟨v, h2, h3⟩ := a1.atI ed
        exact .inr (.inl ⟨p1, xs, i, v, rfl, hy.int s rfl, SqT.of h1, h2, k _ (.d d) Hd H s (Sub.refl _) h3 w⟩)
      · exact w.elim
    · rename_i z ex
      obtain ⟨hz, w⟩ := w
      split at w
      · rename_i c ed
        exact .inr (.inr ⟨z, i, c, hx.str s ex, hy.int s rfl, hz, ed, k _ (.d (.str _)) Hd H s (Sub.refl _) (Dt.str _) w⟩)
      · exact w.elim
    · exact w.elim
  · exact w.elim
/-! ### is None, is True -/
def rIs : R2 := fun x y H Q => (y = .non ∧ Q (.bl (decide (x = .non))) H) ∨ rIsB x y H Q
def rIsNot : R2 := fun x y H Q => (y = .non ∧ Q (.bl (!decide (x = .non))) H) ∨ rNotB x y H Q
theorem op_is : OpR X (compareOp .Is) rIs := op_isN.or op_isBl
theorem op_isnot : OpR X (compareOp .IsNot) rIsNot := op_notN.or op_notBl
def isNone : Vl → Bool
  | .d .none => true
  | _ => false
def gIs : G2 := fun x y Q => match x, y with
  | .d (.bool a), .d (.bool b) => Q (.d (.bool (decide (a = b))))
  | x, .d .none => Q (.d (.bool (isNone x)))
  | _, _ => False
def gIsNot : G2 := fun x y Q => match x, y with
  | .d (.bool a), .d (.bool b) => Q (.d (.bool (!decide (a = b))))
  | x, .d .none => Q (.d (.bool (!isNone x)))
  | _, _ => False
theorem isNone_ok {K : PySem.W.Frag} {Fr H0 : Hp} {ρ : DSt} {σ : St} {Hd H : Hp} (s : Sat K T Fr H0 ρ σ Hd H) {v : V} {x : Vl} (h : VlOk K Hd ρ σ v x) : decide (v = .non) = isNone x := by
  cases x with
  | s ns => obtain ⟨p, rfl, _⟩ := h; rfl
  | o y =>
    obtain ⟨i, h1, h2⟩ := h
    obtain ⟨w, e1, p, e2, _⟩ := s.slot i _ h1
    rw [h2] at e1; cases e1; subst e2; rfl
  | d y =>
    have h : Dt K Hd v y := h
    cases h <;> rfl
theorem od_is : OpD X.K T rIs gIs := fun Fr H0 ρ σ Hd H vx vy x y q Q s hx hy w k => by
  unfold gIs at w
  split at w
  · rename_i a b
    exact .inr ⟨a, b, hx.bl s rfl, hy.bl s rfl, k _ (.d (.bool _)) Hd H s (Sub.refl _) (Dt.bl _) w⟩
  · refine .inl ⟨hy.non s rfl, ?_⟩
    rw [isNone_ok s hx]
    exact k _ (.d (.bool _)) Hd H s (Sub.refl _) (Dt.bl _) w
  · exact w.elim
theorem od_isnot : OpD X.K T rIsNot gIsNot := fun Fr H0 ρ σ Hd H vx vy x y q Q s hx hy w k => by
  unfold gIsNot at w
  split at w
  · rename_i a b
    exact .inr ⟨a, b, hx.bl s rfl, hy.bl s rfl, k _ (.d (.bool _)) Hd H s (Sub.refl _) (Dt.bl _) w⟩
  · refine .inl ⟨hy.non s rfl, ?_⟩
    rw [isNone_ok s hx]
    exact k _ (.d (.bool _)) Hd H s (Sub.refl _) (Dt.bl _) w
  · exact w.elim
/-! ### len, abs, min, max, int, isinstance -/
def gLen : GN := fun xs Q => match xs with
  | [.s ns] => Q (.d (.int ns.length))
  | [x] => match x.dat with
    | some (.list ds) => Q (.d (.int ds.length))
    | some (.tuple ds) => Q (.d (.int ds.length))
    | some (.str z) => z.length ≤ sizeLine ∧ Q (.d (.int z.length))
    | _ => False
  | _ => False
theorem vls1 {K : PySem.W.Frag} {Hd : Hp} {ρ : DSt} {σ : St} {vs : List V} {x : Vl} (h : VlsOk K Hd ρ σ vs [x]) : ∃ v, vs = [v] ∧ VlOk K Hd ρ σ v x := by
  cases h with
  | cons a b => cases b; exact ⟨_, rfl, a⟩
theorem vls2 {K : PySem.W.Frag} {Hd : Hp} {ρ : DSt} {σ : St} {vs : List V} {x y : Vl} (h : VlsOk K Hd ρ σ vs [x, y]) : ∃ v w, vs = [v, w] ∧ VlOk K Hd ρ σ v x ∧ VlOk K Hd ρ σ w y := by
  cases h with
  | cons a b =>
    obtain ⟨w, rfl, h⟩ := vls1 b
    exact ⟨_, w, rfl, a, h⟩
theorem cd_len : CallD X.K T (fun xs H Q => ∃ x n, xs = [x] ∧ LenV X.K x H n ∧ Q (.int n) H) gLen := fun Fr H0 ρ σ Hd H vs xs q Q s hv w k => by
  unfold gLen at w
  split at w
  · rename_i ns
    obtain ⟨v, rfl, p, rfl, hp⟩ := vls1 hv
    exact ⟨_, ns.length, rfl, .inl ⟨_, s.keep.l hp, by simp⟩, k _ (.d (.int _)) Hd H s (Sub.refl _) (Dt.int _) w⟩
  · rename_i x hns
    obtain ⟨v, rfl, h⟩ := vls1 hv
    split at w
    · rename_i ds ex
      obtain ⟨p1, xs, rfl, h1, a1⟩ := h.list s ex
      exact ⟨_, ds.length, rfl, .inl ⟨_, SqL.of h1, a1.length.symm⟩, k _ (.d (.int _)) Hd H s (Sub.refl _) (Dt.int _) w⟩
    · rename_i ds ex
      obtain ⟨p1, xs, rfl, h1, a1⟩ := h.tup s ex
      exact ⟨_, ds.length, rfl, .inr ⟨_, SqT.of h1, a1.length.symm⟩, k _ (.d (.int _)) Hd H s (Sub.refl _) (Dt.int _) w⟩
    · rename_i z ex
      have e := h.str s ex
      subst e
      exact ⟨_, z.length, rfl, ⟨w.1, rfl⟩, k _ (.d (.int _)) Hd H s (Sub.refl _) (Dt.int _) w.2⟩
    · exact w.elim
  · exact w.elim
def gAbs : GN := fun xs Q => match xs with
  | [.d (.int i)] => Q (.d (.int (if i < 0 then -i else i)))
  | _ => False
theorem cd_abs : CallD X.K T (fun xs H Q => ∃ i, xs = [.int i] ∧ Q (.int (if i < 0 then -i else i)) H) gAbs := fun Fr H0 ρ σ Hd H vs xs q Q s hv w k => by
  unfold gAbs at w
  split at w
  · rename_i i
    obtain ⟨v, rfl, h⟩ := vls1 hv
    exact ⟨i, by rw [h.int s rfl], k _ (.d (.int _)) Hd H s (Sub.refl _) (Dt.int _) w⟩
  · exact w.elim
def gMax2 : GN := fun xs Q => match xs with
  | [.d (.int i), .d (.int j)] => Q (.d (.int (if j > i then j else i)))
  | _ => False
def gMin2 : GN := fun xs Q => match xs with
  | [.d (.int i), .d (.int j)] => Q (.d (.int (if j < i then j else i)))
  | _ => False
theorem cd_max2 : CallD X.K T (fun xs H Q => ∃ i j, xs = [.int i, .int j] ∧ Q (.int (if j > i then j else i)) H) gMax2 := fun Fr H0 ρ σ Hd H vs xs q Q s hv w k => by
  unfold gMax2 at w
  split at w
  · rename_i i j
    obtain ⟨v, u, rfl, h1, h2⟩ := vls2 hv
    exact ⟨i, j, by rw [h1.int s rfl, h2.int s rfl], k _ (.d (.int _)) Hd H s (Sub.refl _) (Dt.int _) w⟩
  · exact w.elim
theorem cd_min2 : CallD X.K T (fun xs H Q => ∃ i j, xs = [.int i, .int j] ∧ Q (.int (if j < i then j else i)) H) gMin2 := fun Fr H0 ρ σ Hd H vs xs q Q s hv w k => by
  unfold gMin2 at w
  split at w
  · rename_i i j
    obtain ⟨v, u, rfl, h1, h2⟩ := vls2 hv
    exact ⟨i, j, by rw [h1.int s rfl, h2.int s rfl], k _ (.d (.int _)) Hd H s (Sub.refl _) (Dt.int _) w⟩
  · exact w.elim
def gInt1 : GN := fun xs Q => match xs with
  | [.d (.int i)] => Q (.d (.int i))
  | [.d (.bool k)] => Q (.d (.int (if k then 1 else 0)))
  | _ => False
theorem cd_int1 : CallD X.K T (fun xs H Q => (∃ i, xs = [.int i] ∧ Q (.int i) H) ∨ ∃ k, xs = [.bl k] ∧ Q (.int (if k then 1 else 0)) H) gInt1 := fun Fr H0 ρ σ Hd H vs xs q Q s hv w k => by
  unfold gInt1 at w
  split at w
  · rename_i i
    obtain ⟨v, rfl, h⟩ := vls1 hv
    exact .inl ⟨i, by rw [h.int s rfl], k _ (.d (.int _)) Hd H s (Sub.refl _) (Dt.int _) w⟩
  · rename_i b
    obtain ⟨v, rfl, h⟩ := vls1 hv
    exact .inr ⟨b, by rw [h.bl s rfl], k _ (.d (.int _)) Hd H s (Sub.refl _) (Dt.int _) w⟩
  · exact w.elim
/-- the built-in type of a value -/
def tyD : D → String
  | .none => "NoneType"
  | .bool _ => "bool"
  | .int _ => "int"
  | .str _ => "str"
  | .list _ => "list"
  | .tuple _ => "tuple"
  | .dict _ => "dict"
theorem Dt.ty {K : PySem.W.Frag} {H : Hp} {v : V} {d : D} (h : Dt K H v d) : TyX K H v (.type (tyD d)) := by
  cases h with
  | non => exact .base .non
  | bl b => exact .base (.bl b)
  | int i => exact .base (.int i)
  | str x => exact .base (.str x)
  | lst h _ => exact .base (.lst h)
  | tup h _ => exact .base (.tup h)
  | dct h _ =>
    rcases h with h | ⟨o, h⟩
    · exact .base (.dK h)
    · exact .fDict h
def gIsi (Ty : String) (x : Option D) (Q : Vl → Prop) : Prop := match x with
  | some d => match kitB (tyD d) Ty with
    | some b => Q (.d (.bool b))
    | none => False
  | none => False
def dIsi (Ty : String) (Ta : DE) : DE := fun xc ρ Q => Ta xc ρ fun x => gIsi Ty x.dat Q
theorem de_isi {E : XK} {a : Expr} {Ta : DE} {ty : Str} {Ty : String} {p p2 pos : Pos} (hm : X.mg "isinstance" = none) (hm2 : X.mg ty = none) (ha : ED X T E a Ta) (hv : bootBuiltins ty = some (.type Ty) := by decide +kernel) (hg : Gl X "isinstance" := by rfl) (hg2 : Gl X ty := by rfl)
    (hn : ty ≠ "__name__" := by decide) (hdb : (ty == ("__debug__" : Str)) = false := by decide) (hs : starEach [a, .Name ty p2] X.env = (false, eval a X.env) :: starEach [.Name ty p2] X.env := by rfl) (hs2 : starEach [.Name ty p2] X.env = (false, eval (.Name ty p2) X.env) :: starEach [] X.env := by rfl)
    (hpl : (backTo pos (starEach [.Name ty p2] X.env)).any (·.1) = false := by rfl) :
    ED X T E (.Call (.Name "isinstance" p) [a, .Name ty p2] [] pos) (dIsi Ty Ta) := by
  refine pe_imp (pe_callB call_isi hg hm (by decide +kernel) (pa_cons ha (pa_cons (pe_bltn hg2 hm2 hv (v := .ty Ty) rfl hn hdb) pa_nil hs2) hs) (by decide) (by decide) hs hpl) fun σ H Q ⟨xc, Fr, H0, ρ, Hd, q, s, w, hx, k⟩ => ?_
  refine ⟨xc, Fr, H0, ρ, Hd, _, s, w, hx, fun v x Hd1 H1 s1 b1 ok1 w1 => ?_⟩
  unfold gIsi at w1
  split at w1
  · rename_i d ed
    split at w1
    · rename_i b eb
      exact ⟨v, .ty Ty, .type (tyD d), .type Ty, b, rfl, .ty Ty, (ok1.full s1 ed).ty, kit_ty eb, k _ (.d (.bool b)) Hd1 H1 s1 b1 (Dt.bl b) w1⟩
    · exact w1.elim
  · exact w1.elim
end
end DL

/-! Data: statements, loops, calls of defs. -/
namespace DL
open PySem L2 LamX
/-! ### slots are set -/
section
variable {K : PySem.W.Frag} {T : Wd} {Fr H0 : Hp} {ρ : DSt} {σ : St} {Hd H : Hp}
theorem Sat.set {i : Nat} {v : V} {d : D} (s : Sat K T Fr H0 ρ σ Hd H) (h : Dt K Hd v d) : Sat K T Fr H0 (ρ.set i (some (.d d))) (σ.set i (some v)) Hd H := by
  refine ⟨by rw [List.length_set, List.length_set]; exact s.len, s.base, s.keep, s.ntb, s.tabs, s.frame, fun j u e => ?_, fun j l x y w e1 e2 e3 e4 => ?_⟩
  · by_cases q : i = j
    · subst q
      by_cases hl : i < ρ.length
      · rw [List.getElem?_set_self hl] at e
        cases e
        exact ⟨v, by rw [List.getElem?_set_self (by rw [s.len]; exact hl)], h⟩
      · rw [List.getElem?_eq_none (by simpa using hl)] at e; cases e
    · rw [List.getElem?_set_ne q] at e
      obtain ⟨u', h1, h2⟩ := s.slot j u e
      exact ⟨u', by rw [List.getElem?_set_ne q]; exact h1, h2⟩
  · have n1 : i ≠ j := fun z => by
      subst z
      by_cases hl : i < ρ.length
      · rw [List.getElem?_set_self hl] at e1; cases e1
      · rw [List.getElem?_eq_none (by simpa using hl)] at e1; cases e1
    have n2 : i ≠ l := fun z => by
      subst z
      by_cases hl : i < ρ.length
      · rw [List.getElem?_set_self hl] at e2; cases e2
      · rw [List.getElem?_eq_none (by simpa using hl)] at e2; cases e2
    rw [List.getElem?_set_ne n1] at e1 e3
    rw [List.getElem?_set_ne n2] at e2 e4
    exact s.sep j l x y w e1 e2 e3 e4
/-- a new object of one's own comes into a slot -/
theorem Sat.setOwn {i : Nat} {p : Addr} {o : HO} {d : D} (s : Sat K T Fr H0 ρ σ Hd H) (hp : H p = none) (h : OwnAt K Hd (upd H p o) p d) : Sat K T Fr H0 (ρ.set i (some (.o d))) (σ.set i (some (.ref p))) Hd (upd H p o) := by
  have hd := s.keep.free hp
  have hf : Fr p = none := by
    cases q : Fr p with
    | none => rfl
    | some o => have z := (s.frame p o q).2.1; rw [hp] at z; cases z
  have old : ∀ (j : Nat) (x : D) (w : V), ρ[j]? = some (some (.o x)) → σ[j]? = some (some w) → w ≠ .ref p := fun j x w e1 e2 z => by
    obtain ⟨u', h1, q, h2, h3, h4, h5⟩ := s.slot j _ e1
    rw [e2] at h1; cases h1
    subst z
    cases h2
    cases x with
    | list ds => obtain ⟨xs, h6, _⟩ := h5; rw [hp] at h6; cases h6
    | dict ds => obtain ⟨xs, h6, _⟩ := h5; rw [hp] at h6; cases h6
    | none => exact h5.elim
    | bool _ => exact h5.elim
    | int _ => exact h5.elim
    | str _ => exact h5.elim
    | tuple _ => exact h5.elim
  refine ⟨by rw [List.length_set, List.length_set]; exact s.len, s.base, s.keep.right hd, s.ntb, s.tabs.ext (Sub.new hp), fun b u e => ?_, fun j u e => ?_, fun j l x y w e1 e2 e3 e4 => ?_⟩
  · obtain ⟨h0, h1, h2⟩ := s.frame b u e
    exact ⟨h0, by rw [upd_ne (ne_of_none h1 hp)]; exact h1, h2⟩
  · by_cases q : i = j
    · subst q
      by_cases hl : i < ρ.length
      · rw [List.getElem?_set_self hl] at e
        cases e
        exact ⟨.ref p, by rw [List.getElem?_set_self (by rw [s.len]; exact hl)], p, rfl, hd, hf, h⟩
      · rw [List.getElem?_eq_none (by simpa using hl)] at e; cases e
    · rw [List.getElem?_set_ne q] at e
      obtain ⟨u', h1, h2⟩ := s.slot j u e
      refine ⟨u', by rw [List.getElem?_set_ne q]; exact h1, h2.ext (Sub.refl _) fun b u hb hu _ hf => ?_⟩
      have n : b ≠ p := ne_of_none hu hp
      exact ⟨hb, by rw [upd_ne n]; exact hu, hf⟩
  · by_cases q1 : i = j
    · by_cases q2 : i = l
      · exact q1.symm.trans q2
      · subst q1
        rw [List.getElem?_set_ne q2] at e2 e4
        by_cases hl : i < ρ.length
        · rw [List.getElem?_set_self (by rw [s.len]; exact hl)] at e3
          cases e3
          exact (old l y _ e2 e4 rfl).elim
        · rw [List.getElem?_eq_none (by simpa using hl)] at e1; cases e1
    · rw [List.getElem?_set_ne q1] at e1 e3
      by_cases q2 : i = l
      · subst q2
        by_cases hl : i < ρ.length
        · rw [List.getElem?_set_self (by rw [s.len]; exact hl)] at e4
          cases e4
          exact (old j x _ e1 e3 rfl).elim
        · rw [List.getElem?_eq_none (by simpa using hl)] at e2; cases e2
      · rw [List.getElem?_set_ne q2] at e2 e4
        exact s.sep j l x y w e1 e2 e3 e4
/-- one's own object is changed -/
theorem Sat.mutOwn {i : Nat} {p : Addr} {o : HO} {d d' : D} (s : Sat K T Fr H0 ρ σ Hd H) (hi : ρ[i]? = some (some (.o d))) (hp : σ[i]? = some (some (.ref p))) (h : OwnAt K Hd (upd H p o) p d') : Sat K T Fr H0 (ρ.set i (some (.o d'))) σ Hd (upd H p o) := by
  obtain ⟨u', h1, q, h2, h3, h4, h5⟩ := s.slot i _ hi
  rw [hp] at h1; cases h1; cases h2
  have hl : i < ρ.length := (List.getElem?_eq_some_iff.mp hi).1
  have hst : ∀ ps, H p ≠ some (.tbl ps) := fun ps z => by
    cases d with
    | list ds => obtain ⟨xs, h6, _⟩ := h5; rw [z] at h6; cases h6
    | dict ds => obtain ⟨xs, h6, _⟩ := h5; rw [z] at h6; cases h6
    | none => exact h5.elim
    | bool _ => exact h5.elim
    | int _ => exact h5.elim
    | str _ => exact h5.elim
    | tuple _ => exact h5.elim
  have hsc : ∀ c y, H p ≠ some (CodeO c y) := fun c y z => by
    cases d with
    | list ds => obtain ⟨xs, h6, _⟩ := h5; rw [z] at h6; cases h6
    | dict ds => obtain ⟨xs, h6, _⟩ := h5; rw [z] at h6; cases h6
    | none => exact h5.elim
    | bool _ => exact h5.elim
    | int _ => exact h5.elim
    | str _ => exact h5.elim
    | tuple _ => exact h5.elim
  refine ⟨by rw [List.length_set]; exact s.len, s.base, s.keep.right h3, s.ntb, fun t ht => ?_, fun b u e => ?_, fun j u e => ?_, fun j l x y w e1 e2 e3 e4 => ?_⟩
  · obtain ⟨ps, a1, a2, a3⟩ := s.tabs t ht
    refine ⟨ps, ?_, a2, fun pos cv hc => ?_⟩
    · rw [upd_ne (fun z => hst ps (by rw [← z]; exact a1))]; exact a1
    · obtain ⟨c, b1, b2⟩ := a3 pos cv hc
      exact ⟨c, b1, by rw [upd_ne (fun z => hsc c _ (by rw [← z]; exact b2))]; exact b2⟩
  · obtain ⟨g0, g1, g2⟩ := s.frame b u e
    have n : b ≠ p := fun z => by subst z; rw [h4] at e; cases e
    exact ⟨g0, by rw [upd_ne n]; exact g1, g2⟩
  · by_cases q : i = j
    · subst q
      rw [List.getElem?_set_self hl] at e
      cases e
      exact ⟨.ref p, hp, p, rfl, h3, h4, h⟩
    · rw [List.getElem?_set_ne q] at e
      obtain ⟨u', k1, k2⟩ := s.slot j u e
      refine ⟨u', k1, ?_⟩
      cases u with
      | d y => exact k2
      | s y => exact k2
      | o y =>
        obtain ⟨b, g1, g2, g3, g4⟩ := k2
        have n : b ≠ p := fun z => q (s.sep i j d y (.ref p) hi e hp (by rw [k1, g1, z]))
        refine ⟨b, g1, g2, g3, ?_⟩
        cases y with
        | list ds => obtain ⟨xs, h6, h7⟩ := g4; exact ⟨xs, by rw [upd_ne n]; exact h6, h7⟩
        | dict ds => obtain ⟨xs, h6, h7⟩ := g4; exact ⟨xs, by rw [upd_ne n]; exact h6, h7⟩
        | none => exact g4.elim
        | bool _ => exact g4.elim
        | int _ => exact g4.elim
        | str _ => exact g4.elim
        | tuple _ => exact g4.elim
  · have back : ∀ (m : Nat) (z : D), (ρ.set i (some (.o d')))[m]? = some (some (.o z)) → ∃ z', ρ[m]? = some (some (.o z')) := fun m z e => by
      by_cases q : i = m
      · subst q; exact ⟨d, hi⟩
      · rw [List.getElem?_set_ne q] at e; exact ⟨z, e⟩
    obtain ⟨x', e1'⟩ := back j x e1
    obtain ⟨y', e2'⟩ := back l y e2
    exact s.sep j l x' y' w e1' e2' e3 e4
/-- one's own becomes data -/
theorem Sat.freeze {i : Nat} {d : D} (s : Sat K T Fr H0 ρ σ Hd H) (hi : ρ[i]? = some (some (.o d))) : ∃ Hd', Sub Hd Hd' ∧ Sat K T Fr H0 (ρ.set i (some (.d d))) σ Hd' H ∧ ∀ v, σ[i]? = some (some v) → Dt K Hd' v d := by
  obtain ⟨u', h1, p, rfl, h3, h4, h5⟩ := s.slot i _ hi
  have hl : i < ρ.length := (List.getElem?_eq_some_iff.mp hi).1
  obtain ⟨o, ho⟩ : ∃ o, H p = some o := by
    cases d with
    | list ds => obtain ⟨xs, h6, _⟩ := h5; exact ⟨_, h6⟩
    | dict ds => obtain ⟨xs, h6, _⟩ := h5; exact ⟨_, h6⟩
    | none => exact h5.elim
    | bool _ => exact h5.elim
    | int _ => exact h5.elim
    | str _ => exact h5.elim
    | tuple _ => exact h5.elim
  have sb : Sub Hd (upd Hd p o) := Sub.new h3
  have hot : ∀ ps, o ≠ .tbl ps := fun ps z => by
    subst z
    cases d with
    | list ds => obtain ⟨xs, h6, _⟩ := h5; rw [ho] at h6; cases h6
    | dict ds => obtain ⟨xs, h6, _⟩ := h5; rw [ho] at h6; cases h6
    | none => exact h5.elim
    | bool _ => exact h5.elim
    | int _ => exact h5.elim
    | str _ => exact h5.elim
    | tuple _ => exact h5.elim
  have kp : Sub (upd Hd p o) H := fun b u e => by
    by_cases q : b = p
    · subst q; rw [upd_same] at e; cases e; exact ho
    · rw [upd_ne q] at e; exact s.keep b u e
  have dt : Dt K (upd Hd p o) (.ref p) d := by
    cases d with
    | list ds => obtain ⟨xs, h6, h7⟩ := h5; rw [ho] at h6; cases h6; exact .lst upd_same (h7.mono sb)
    | dict ds => obtain ⟨xs, h6, h7⟩ := h5; rw [ho] at h6; cases h6; exact .dct (.inl upd_same) (h7.mono sb)
    | none => exact h5.elim
    | bool _ => exact h5.elim
    | int _ => exact h5.elim
    | str _ => exact h5.elim
    | tuple _ => exact h5.elim
  refine ⟨upd Hd p o, sb, ⟨by rw [List.length_set]; exact s.len, s.base.trans sb, kp, s.ntb.upd hot, s.tabs, fun b u e => ?_, fun j u e => ?_, fun j l x y w e1 e2 e3 e4 => ?_⟩, fun v hv => by rw [h1] at hv; cases hv; exact dt⟩
  · obtain ⟨g0, g1, g2⟩ := s.frame b u e
    have n : b ≠ p := fun z => by subst z; rw [h4] at e; cases e
    exact ⟨g0, g1, by rw [upd_ne n]; exact g2⟩
  · by_cases q : i = j
    · subst q
      rw [List.getElem?_set_self hl] at e
      cases e
      exact ⟨.ref p, h1, dt⟩
    · rw [List.getElem?_set_ne q] at e
      obtain ⟨u', k1, k2⟩ := s.slot j u e
      refine ⟨u', k1, ?_⟩
      cases u with
      | d y => exact Dt.mono sb k2
      | s y => obtain ⟨b, g1, g2⟩ := k2; exact ⟨b, g1, sb.l g2⟩
      | o y =>
        obtain ⟨b, g1, g2, g3, g4⟩ := k2
        have n : b ≠ p := fun z => q (s.sep i j d y (.ref p) hi e h1 (by rw [k1, g1, z]))
        refine ⟨b, g1, by rw [upd_ne n]; exact g2, g3, ?_⟩
        cases y with
        | list ds => obtain ⟨xs, h6, h7⟩ := g4; exact ⟨xs, h6, h7.mono sb⟩
        | dict ds => obtain ⟨xs, h6, h7⟩ := g4; exact ⟨xs, h6, h7.mono sb⟩
        | none => exact g4.elim
        | bool _ => exact g4.elim
        | int _ => exact g4.elim
        | str _ => exact g4.elim
        | tuple _ => exact g4.elim
  · have back : ∀ (m : Nat) (z : D), (ρ.set i (some (.d d)))[m]? = some (some (.o z)) → ρ[m]? = some (some (.o z)) := fun m z e => by
      by_cases q : i = m
      · subst q; rw [List.getElem?_set_self hl] at e; cases e
      · rw [List.getElem?_set_ne q] at e; exact e
    exact s.sep j l x y w (back j x e1) (back l y e2) e3 e4
theorem Sat.rebase {H1 : Hp} (s : Sat K T Fr H0 ρ σ Hd H) (h : Sub H1 Hd) : Sat K T Fr H1 ρ σ Hd H := ⟨s.len, h, s.keep, s.ntb, s.tabs, s.frame, s.slot, s.sep⟩
end
/-! ### targets -/
inductive Tgt where
  | nm (i : Nat)
  | tp (is : List Nat)
def bindL : List Nat → List D → DSt → Option DSt
  | [], [], ρ => some ρ
  | i :: is, d :: ds, ρ => bindL is ds (ρ.set i (some (.d d)))
  | _, _, _ => none
def bindT : Tgt → D → DSt → Option DSt
  | .nm i, d, ρ => some (ρ.set i (some (.d d)))
  | .tp is, .tuple ds, ρ => bindL is ds ρ
  | .tp _, _, _ => none
def gsOf : List Nat → TGs
  | [] => gNil
  | i :: is => gCons (gName i) (gsOf is)
def gOf (K : PySem.W.Frag) : Tgt → TG
  | .nm i => gName i
  | .tp is => L2.gTup K is.length (gsOf is)
def Tgt.slots : Tgt → List Nat
  | .nm i => [i]
  | .tp is => is
/-- the two differ at these slots at most -/
def But {α : Type} (is : List Nat) (σ σ' : List α) : Prop := σ'.length = σ.length ∧ ∀ j : Nat, j ∉ is → σ'[j]? = σ[j]?
theorem bindL_but : ∀ {is : List Nat} {ds : List D} {ρ ρ' : DSt}, bindL is ds ρ = some ρ' → But is ρ ρ'
  | [], [], ρ, ρ', e => by cases e; exact ⟨rfl, fun _ _ => rfl⟩
  | [], _ :: _, _, _, e => by cases e
  | _ :: _, [], _, _, e => by cases e
  | i :: is, d :: ds, ρ, ρ', e => by
    have b := bindL_but (is := is) (ds := ds) e
    refine ⟨by rw [b.1, List.length_set], fun j hj => ?_⟩
    rw [b.2 j (fun z => hj (List.mem_cons_of_mem _ z)), List.getElem?_set_ne (fun z => hj (by rw [z]; exact List.mem_cons_self))]
theorem bindT_but {t : Tgt} {d : D} {ρ ρ' : DSt} (e : bindT t d ρ = some ρ') : But t.slots ρ ρ' := by
  cases t with
  | nm i => cases e; exact ⟨by rw [List.length_set], fun j hj => by rw [List.getElem?_set_ne (fun z => hj (by rw [z]; exact List.mem_singleton.mpr rfl))]⟩
  | tp is =>
    cases d with
    | tuple ds => exact bindL_but (show bindL is ds ρ = some ρ' from e)
    | none => cases e
    | bool _ => cases e
    | int _ => cases e
    | str _ => cases e
    | list _ => cases e
    | dict _ => cases e
section
variable {K : PySem.W.Frag} {T : Wd} {Fr H0 : Hp} {Hd H : Hp}
theorem bindL_ok : ∀ {is : List Nat} {ds : List D} {vs : List V} {ρ ρ' : DSt} {σ : St} {Q : St → Hp → Prop}, Sat K T Fr H0 ρ σ Hd H → DtA K Hd vs ds → bindL is ds ρ = some ρ' → (∀ σ', Sat K T Fr H0 ρ' σ' Hd H → ρ'.length = ρ.length → But is σ σ' → Q σ' H) → gsOf is vs σ H Q
  | [], _, _, ρ, ρ', σ, Q, s, .nil, e, k => by
    cases e
    exact ⟨rfl, k σ s rfl ⟨rfl, fun _ _ => rfl⟩⟩
  | [], _, _, ρ, ρ', σ, Q, s, .cons h t, e, k => by cases e
  | i :: is, _, _, ρ, ρ', σ, Q, s, .nil, e, k => by cases e
  | i :: is, _, _, ρ, ρ', σ, Q, s, .cons (v := v) (vs := vs) h t, e, k => by
    refine ⟨v, vs, rfl, ?_⟩
    refine bindL_ok (s.set (i := i) h) t e fun σ' s' hl b => k σ' s' (by rw [hl, List.length_set]) ⟨by rw [b.1, List.length_set], fun j hj => ?_⟩
    rw [b.2 j (fun z => hj (List.mem_cons_of_mem _ z)), List.getElem?_set_ne (fun z => hj (by rw [z]; exact List.mem_cons_self))]
theorem bind_ok {t : Tgt} {d : D} {v : V} {ρ ρ' : DSt} {σ : St} {Q : St → Hp → Prop} (s : Sat K T Fr H0 ρ σ Hd H) (h : Dt K Hd v d) (e : bindT t d ρ = some ρ') (k : ∀ σ', Sat K T Fr H0 ρ' σ' Hd H → ρ'.length = ρ.length → But t.slots σ σ' → Q σ' H) : gOf K t v σ H Q := by
  cases t with
  | nm i =>
    cases e
    exact k _ (s.set h) (by rw [List.length_set]) ⟨by rw [List.length_set], fun j hj => by rw [List.getElem?_set_ne (fun z => hj (by rw [z]; exact List.mem_singleton.mpr rfl))]⟩
  | tp is =>
    cases h with
    | tup h1 h2 =>
      rename_i a xs ds
      have e' : bindL is ds ρ = some ρ' := e
      refine ⟨a, xs, rfl, SqT.of (s.keep _ _ h1), ?_, bindL_ok s h2 e' k⟩
      have : ∀ {is : List Nat} {ds : List D} {ρ ρ' : DSt}, bindL is ds ρ = some ρ' → ds.length = is.length := by
        intro is
        induction is with
        | nil => intro ds ρ ρ' e; cases ds with
          | nil => rfl
          | cons => cases e
        | cons i is ih => intro ds ρ ρ' e; cases ds with
          | nil => cases e
          | cons d ds => simp only [List.length_cons]; rw [ih (show bindL is ds (ρ.set i (some (.d d))) = some ρ' from e)]
      rw [h2.length, this e']
    | non => cases e
    | bl => cases e
    | int => cases e
    | str => cases e
    | lst => cases e
    | dct => cases e
end
section
variable {X : Cx} {T : Wd} {E : XK} {a b c e tg iter : Expr} {es rest : List Expr} {pos p p2 : Pos} {Ta Tb Tc Te : DE} {ta tb tc : DT} {Al : DA} {st : Stmt} {sts sts2 : List Stmt} {t u : DS}
/-! ### blocks -/
def dNext : DS := fun e ρ => e.nx ρ
def dSeq (t u : DS) : DS := fun e ρ => t { e with nx := u e } ρ
theorem bd_nil : BD X T E [] dNext := pss_imp pss_nil fun De σ H ⟨e, Fr, H0, ρ, Hd, s, ok, w⟩ => ok.nx ρ σ Hd H s rfl w
theorem bd_cons (h1 : SD X T E st t) (h2 : BD X T E sts u) : BD X T E (st :: sts) (dSeq t u) :=
  pss_imp (pss_cons h1 h2) fun De σ H ⟨e, Fr, H0, ρ, Hd, s, ok, w⟩ => ⟨{ e with nx := u e }, Fr, H0, ρ, Hd, s, ⟨fun ρ' σ' Hd' H' s' hl w' => ⟨e, Fr, H0, ρ', Hd', s', hl ▸ ok, w'⟩, ok.bk, ok.ct, ok.rt, ok.xc⟩, w⟩
theorem bd_one (h1 : SD X T E st t) : BD X T E [st] t := pss_one h1
/-! ### plain statements -/
theorem EndsOk.xok {K : PySem.W.Frag} {Fr H0 : Hp} {ρ : DSt} {σ : St} {e : DEnds} {De : Ends} {n : Nat} (ok : EndsOk K T E Fr H0 n e De) : XOk K T E Fr H0 ρ σ e.xc := fun C Hd H s h => ok.xc C Hd H s.out h
theorem sd_pass : SD X T E (.Pass pos) dNext := ps_imp ps_pass fun De σ H ⟨e, Fr, H0, ρ, Hd, s, ok, w⟩ => ok.nx ρ σ Hd H s rfl w
def dDrop (Te : DE) : DS := fun e ρ => Te e.xc ρ fun _ => e.nx ρ
theorem sd_expr (he : ED X T E e Te) (hs : swapsWith e none pos.line X.env = pure false := by rfl) : SD X T E (.Expr e pos) (dDrop Te) :=
  ps_imp (ps_expr he hs) fun De σ H ⟨e, Fr, H0, ρ, Hd, s, ok, w⟩ => ⟨e.xc, Fr, H0, ρ, Hd, _, s, w, ok.xok, fun v x Hd1 H1 s1 b1 ok1 w1 => ok.nx ρ σ Hd1 H1 s1 rfl w1⟩
def gRet (v : Vl) (e : DEnds) : Prop := match v with
  | .d x => e.rt x
  | .o x => e.rt x
  | .s _ => False
def dRet (Te : DE) : DS := fun e ρ => Te e.xc ρ fun v => gRet v e
theorem sd_ret (he : ED X T E e Te) : SD X T E (.Return (some e) pos) (dRet Te) := by
  refine ps_imp (ps_ret he) fun De σ H ⟨e, Fr, H0, ρ, Hd, s, ok, w⟩ => ⟨e.xc, Fr, H0, ρ, Hd, _, s, w, ok.xok, fun v x Hd1 H1 s1 b1 ok1 w1 => ?_⟩
  cases x with
  | d y => exact ok.rt y v Hd1 H1 s1.out ok1 w1
  | o y =>
    obtain ⟨i, h1, h2⟩ := ok1
    obtain ⟨Hd2, b2, s2, h3⟩ := s1.freeze h1
    exact ok.rt y v Hd2 H1 s2.out (h3 v h2) w1
  | s y => exact (show False from w1).elim
def gSet (i : Nat) (v : Vl) (ρ : DSt) (Q : DSt → Prop) : Prop := match v with
  | .d x => Q (ρ.set i (some (.d x)))
  | _ => False
def dSet (i : Nat) (Te : DE) : DS := fun e ρ => Te e.xc ρ fun v => gSet i v ρ e.nx
theorem ls_set {i : Nat} {K : PySem.W.Frag} {De : Ends} {σ : St} {H : Hp} (h : LS K T E (dSet i Te) De σ H) : tAsg (LE K T E Te) (gName i) De σ H := by
  obtain ⟨e, Fr, H0, ρ, Hd, s, ok, w⟩ := h
  refine ⟨e.xc, Fr, H0, ρ, Hd, _, s, w, ok.xok, fun v x Hd1 H1 s1 b1 ok1 w1 => ?_⟩
  cases x with
  | d y => exact ok.nx _ _ Hd1 H1 (s1.set ok1) (by rw [List.length_set]) w1
  | o y => exact (show False from w1).elim
  | s y => exact (show False from w1).elim
theorem sd_set {x : Str} (i : Nat) (he : ED X T E e Te) (hN : X.N.Nodup) (hi : X.N[i]? = some x := by rfl) (hx : Loc X.env.scope x := by first | exact Or.inl rfl | exact Or.inr rfl) (hs : swapsWith e (some (.Name x p)) pos.line X.env = pure false := by rfl) (hf : X.fn x = true ∨ X.env.scope.names.lookup x = some .local := by first | exact .inl rfl | exact .inr rfl) :
    SD X T E (.Assign [.Name x p] e pos) (dSet i Te) :=
  ps_imp (ps_set hN hi hx he hs hf) fun _ _ _ h => ls_set h
def gAsg (t : Tgt) (v : Vl) (ρ : DSt) (Q : DSt → Prop) : Prop := match v with
  | .d x => match bindT t x ρ with
    | some ρ' => Q ρ'
    | none => False
  | _ => False
def dAsg (t : Tgt) (Te : DE) : DS := fun e ρ => Te e.xc ρ fun v => gAsg t v ρ e.nx
theorem sd_asg {t : Tgt} (he : ED X T E e Te) (hg : PG X tg (gOf X.K t)) (hs : swapsWithSole [tg] e pos.line X.env = pure false := by rfl) (hw : swappedStores [tg] e X.env = pure none := by rfl)
    (h1 : (assignEach [tg] X.env).map (·.2) = [assign tg X.env] := by rfl) : SD X T E (.Assign [tg] e pos) (dAsg t Te) := by
  refine ps_imp (ps_asg he hg hs hw h1) fun De σ H ⟨e, Fr, H0, ρ, Hd, s, ok, w⟩ => ⟨e.xc, Fr, H0, ρ, Hd, _, s, w, ok.xok, fun v x Hd1 H1 s1 b1 ok1 w1 => ?_⟩
  cases x with
  | d y =>
    simp only [gAsg] at w1
    split at w1
    · rename_i ρ' e1
      exact bind_ok s1 ok1 e1 fun σ' s' hl _ => ok.nx ρ' σ' Hd1 H1 s' hl w1
    · exact w1.elim
  | o y => exact (show False from w1).elim
  | s y => exact (show False from w1).elim
def gPar (i j : Nat) (vs : List Vl) (ρ : DSt) (Q : DSt → Prop) : Prop := match vs with
  | [.d x, .d y] => Q ((ρ.set i (some (.d x))).set j (some (.d y)))
  | _ => False
def dPar (i j : Nat) (Al : DA) : DS := fun e ρ => Al e.xc ρ fun vs => gPar i j vs ρ e.nx
theorem sd_par {x y : Str} {px py pt pt2 : Pos} {kt k2} (i j : Nat) (ha : AD X T E [a, b] Al) (hN : X.N.Nodup) (hw : swappedStores [.Tuple [.Name x px, .Name y py] kt pt] (.Tuple [a, b] k2 pt2) X.env = pure (some [x, y]) := by rfl) (hc : X.calm = true := by rfl) (hi : X.N[i]? = some x := by rfl) (hj : X.N[j]? = some y := by rfl) (hij : i ≠ j := by decide)
    (hx : X.env.scope.names.lookup x = some .local := by rfl) (hy : X.env.scope.names.lookup y = some .local := by rfl)
    (hs : swapsWithSole [.Tuple [.Name x px, .Name y py] kt pt] (.Tuple [a, b] k2 pt2) pos.line X.env = pure false := by rfl) :
    SD X T E (.Assign [.Tuple [.Name x px, .Name y py] kt pt] (.Tuple [a, b] k2 pt2) pos) (dPar i j Al) := by
  refine ps_imp (ps_par hc hN hi hj hij hx hy ha hw hs) fun De σ H ⟨e, Fr, H0, ρ, Hd, s, ok, w⟩ => ⟨e.xc, Fr, H0, ρ, Hd, _, s, w, ok.xok, fun vs xs Hd1 H1 s1 b1 ok1 w1 => ?_⟩
  unfold gPar at w1
  split at w1
  · rename_i u v
    obtain ⟨v1, v2, rfl, h1, h2⟩ := vls2 ok1
    exact ⟨v1, v2, rfl, ok.nx _ _ Hd1 H1 ((s1.set h1).set h2) (by rw [List.length_set, List.length_set]) w1⟩
  · exact w1.elim
def dIf (tc : DT) (t u : DS) : DS := fun e ρ => tc e.xc ρ fun k => bc k (t e ρ) (u e ρ)
theorem sd_if (hc : TD X T E c tc) (ha : BD X T E sts t) (hb : BD X T E sts2 u) : SD X T E (.If c sts sts2 pos) (dIf tc t u) := by
  refine ps_imp (ps_if hc ha hb) fun De σ H ⟨e, Fr, H0, ρ, Hd, s, ok, w⟩ => ⟨e.xc, Fr, H0, ρ, Hd, _, s, w, ok.xok, fun k Hd1 H1 s1 b1 w1 => ?_⟩
  cases k with
  | true => exact iteT ⟨e, Fr, H0, ρ, Hd1, s1, ok, w1⟩
  | false => exact iteF ⟨e, Fr, H0, ρ, Hd1, s1, ok, w1⟩
/-- raise C('..') -/
def dRaise (C : Str) : DS := fun e _ => e.xc C
theorem sd_raise {C : Str} {k : St → Hp → XK → Prop} (hk : ∀ σ H Q, Q (.ref (T.ca C)) none H → k σ H Q) (tk : L2N.Takes X (fun cls d _ H => E cls d H)) (he : L2N.PMk X e k) (hc : X.calm = true := by rfl) : SD X T E (.Raise (some e) none pos) (dRaise C) :=
  ps_imp (L2N.ps_raise hc tk he) fun De σ H ⟨e, Fr, H0, ρ, Hd, s, ok, w⟩ => hk _ _ _ (ok.xc C Hd H s.out w)
/-! ### while -/
def whileN (tc : DT) (tb : DS) (e : DEnds) : Nat → DSt → Prop
  | 0, _ => False
  | n + 1, ρ => tc e.xc ρ fun k => bc k (tb { e with nx := whileN tc tb e n, ct := whileN tc tb e n, bk := e.nx } ρ) (e.nx ρ)
def dWhile (tc : DT) (tb : DS) : DS := fun e ρ => ∃ n, whileN tc tb e n ρ
theorem sd_while (hp : PassesOwn (model X.prog X.w) X.A X.env X.xe) (hc : TD X T E c tc) (hb : BD X T E sts t) : SD X T E (.While c sts [] pos) (dWhile tc t) := by
  refine ps_imp (ps_while hp hc hb) fun De σ H ⟨e, Fr, H0, ρ, Hd, s, ok, n, w⟩ => ?_
  refine ⟨fun m σ' H' => ∃ ρ' Hd', Sat X.K T Fr H0 ρ' σ' Hd' H' ∧ ρ'.length = ρ.length ∧ whileN tc t e m ρ', ⟨n, ρ, Hd, s, rfl, w⟩, fun m σ' H' ⟨ρ', Hd', s', hl, w'⟩ => ?_⟩
  cases m with
  | zero => exact w'.elim
  | succ m =>
    refine ⟨e.xc, Fr, H0, ρ', Hd', _, s', w', ok.xok, fun k Hd1 H1 s1 b1 w1 => ?_⟩
    cases k with
    | true =>
      refine iteT ⟨fun σ2 H2 => ∃ ρ2 Hd2, Sat X.K T Fr H0 ρ2 σ2 Hd2 H2 ∧ ρ2.length = ρ.length ∧ whileN tc t e m ρ2, fun σ2 H2 q => ⟨m, Nat.lt_succ_self _, q⟩, ?_⟩
      refine ⟨{ e with nx := whileN tc t e m, ct := whileN tc t e m, bk := e.nx }, Fr, H0, ρ', Hd1, s1, ⟨fun ρ2 σ2 Hd2 H2 s2 l2 w2 => ⟨ρ2, Hd2, s2, l2.trans hl, w2⟩, fun ρ2 σ2 Hd2 H2 s2 l2 w2 => ok.nx ρ2 σ2 Hd2 H2 s2 (l2.trans hl) w2, fun ρ2 σ2 Hd2 H2 s2 l2 w2 => ⟨ρ2, Hd2, s2, l2.trans hl, w2⟩, ok.rt, ok.xc⟩, w1⟩
    | false => exact iteF (ok.nx ρ' σ' Hd1 H1 s1 hl w1)
/-! ### what is walked -/
abbrev DI := DX → DSt → (List D → Prop) → Prop
def IterOk (K : PySem.W.Frag) (T : Wd) (J : It) (Hb : Hp) (ds : List D) : Prop := ∀ (Fr H0 : Hp) (ρ : DSt) (σ : St) (Hd H : Hp) (i : Nat), Sat K T Fr H0 ρ σ Hd H → Sub Hb Hd →
  (∀ d, ds[i]? = some d → J.go i H ∧ ∀ x H', J.yld i H x H' → ∃ Hd', Sat K T Fr H0 ρ σ Hd' H' ∧ Sub Hd Hd' ∧ Dt K Hd' x d) ∧ (ds.length = i → J.stop i H)
def LI (K : PySem.W.Frag) (T : Wd) (E : XK) (t : DI) : TI := fun σ H R => ∃ (xc : DX) (Fr H0 : Hp) (ρ : DSt) (Hd : Hp) (q : List D → Prop), Sat K T Fr H0 ρ σ Hd H ∧ t xc ρ q ∧ XOk K T E Fr H0 ρ σ xc ∧
  ∀ J ds Hd' H', Sat K T Fr H0 ρ σ Hd' H' → Sub Hd Hd' → IterOk K T J Hd' ds → q ds → R J H'
def ID (X : Cx) (T : Wd) (E : XK) (tg e : Expr) (t : DI) : Prop := PI X tg e (LI X.K T E t)
theorem pi_imp {t t' : TI} (h : PI X tg e t) (k : ∀ σ H R, t' σ H R → t σ H R) : PI X tg e t' := ⟨fun pins s σ H R I w => h.run pins s σ H R I (k σ H R w)⟩
def gBnd (o : Option DSt) (k : DSt → Prop) : Prop := match o with
  | some ρ => k ρ
  | none => False
def forL (t : Tgt) (tb : DS) (e : DEnds) : List D → DSt → Prop
  | [], ρ => e.nx ρ
  | d :: r, ρ => gBnd (bindT t d ρ) fun ρ' => tb { e with nx := forL t tb e r, ct := forL t tb e r, bk := e.nx } ρ'
def dFor (ti : DI) (t : Tgt) (tb : DS) : DS := fun e ρ => ti e.xc ρ fun ds => forL t tb e ds ρ
theorem sd_for {ti : DI} {tt : Tgt} {tb : DS} (hp : PassesOwn (model X.prog X.w) X.A X.env X.xe) (hi : ID X T E tg iter ti) (hg : PG X tg (gOf X.K tt)) (hb : BD X T E sts tb) (hc : X.calm = true := by rfl) (hs : ∀ x, foldedSetIterable iter X.env x = pure x := by intro _; rfl) : SD X T E (.For tg iter sts [] pos) (dFor ti tt tb) := by
  refine ps_imp (ps_for hp hc hi hg hb hs) fun De σ H ⟨e, Fr, H0, ρ, Hd, s, ok, w⟩ => ⟨e.xc, Fr, H0, ρ, Hd, _, s, w, ok.xok, fun J ds Hd1 H1 s1 b1 it w1 => ?_⟩
  refine ⟨fun i m σ' H' => m = ds.length - i ∧ i ≤ ds.length ∧ ∃ ρ' Hd', Sat X.K T Fr H0 ρ' σ' Hd' H' ∧ Sub Hd1 Hd' ∧ ρ'.length = ρ.length ∧ forL tt tb e (ds.drop i) ρ', ⟨ds.length, rfl, Nat.zero_le _, ρ, Hd1, s1, Sub.refl _, rfl, w1⟩, ?_⟩
  rintro i m σ' H' ⟨rfl, hil, ρ', Hd', s', b', hl, w'⟩
  obtain ⟨j1, j2⟩ := it Fr H0 ρ' σ' Hd' H' i s' b'
  by_cases hlt : i < ds.length
  · refine .inr ?_
    obtain ⟨d, hd⟩ : ∃ d, ds[i]? = some d := ⟨ds[i], by simp [hlt]⟩
    obtain ⟨g1, g2⟩ := j1 d hd
    refine ⟨g1, fun σ2 H2 => ∃ ρ2 Hd2, Sat X.K T Fr H0 ρ2 σ2 Hd2 H2 ∧ Sub Hd1 Hd2 ∧ ρ2.length = ρ.length ∧ forL tt tb e (ds.drop (i + 1)) ρ2, fun σ2 H2 q => ⟨ds.length - (i + 1), by omega, rfl, hlt, q⟩, fun x H2 y => ?_⟩
    obtain ⟨Hd2, s2, b2, dt2⟩ := g2 x H2 y
    have ed : ds.drop i = d :: ds.drop (i + 1) := by
      rw [List.drop_eq_getElem_cons hlt]
      congr 1
      rw [List.getElem?_eq_getElem hlt] at hd
      exact Option.some.inj hd
    rw [ed] at w'
    simp only [forL, gBnd] at w'
    split at w'
    · rename_i ρ3 e3
      have bb : Sub Hd1 Hd2 := b'.trans b2
      refine bind_ok (s2.rebase bb) dt2 e3 fun σ3 s3 l3 _ => ?_
      have e0 := s'.base.trans b2
      have up : ∀ {ρ4 : DSt} {σ4 : St} {Hd4 H4 : Hp}, Sat X.K T Fr Hd1 ρ4 σ4 Hd4 H4 → Sat X.K T Fr H0 ρ4 σ4 Hd4 H4 := fun s4 => s4.rebase (s1.base.trans s4.base)
      have upO : ∀ {Hd4 H4 : Hp}, Out T Fr Hd1 Hd4 H4 → Out T Fr H0 Hd4 H4 := fun o => ⟨s1.base.trans o.base, o.keep, o.ntb, o.tabs, o.frame⟩
      exact ⟨{ e with nx := forL tt tb e (ds.drop (i + 1)), ct := forL tt tb e (ds.drop (i + 1)), bk := e.nx }, Fr, Hd1, ρ3, Hd2, s3, ⟨fun ρ4 σ4 Hd4 H4 s4 l4 w4 => ⟨ρ4, Hd4, up s4, s4.base, l4.trans (l3.trans hl), w4⟩, fun ρ4 σ4 Hd4 H4 s4 l4 w4 => ok.nx ρ4 σ4 Hd4 H4 (up s4) (l4.trans (l3.trans hl)) w4,
        fun ρ4 σ4 Hd4 H4 s4 l4 w4 => ⟨ρ4, Hd4, up s4, s4.base, l4.trans (l3.trans hl), w4⟩, fun d v Hd4 H4 o => ok.rt d v Hd4 H4 (upO o), fun C Hd4 H4 o => ok.xc C Hd4 H4 (upO o)⟩, w'⟩
    · exact w'.elim
  · have e1 : ds.length = i := by omega
    refine .inl ⟨j2 e1, ?_⟩
    rw [← e1, List.drop_length] at w'
    exact ok.nx ρ' σ' Hd' H' s' hl w'
/-! ### lists, tuples, ranges walked -/
def gSeq (v : Vl) (q : List D → Prop) : Prop := match v with
  | .d (.list ds) => q ds
  | _ => False
def gSeqT (v : Vl) (q : List D → Prop) : Prop := match v with
  | .d (.tuple ds) => q ds
  | _ => False
def dWalk (Te : DE) : DI := fun xc ρ q => Te xc ρ fun v => gSeq v q
def dWalkT (Te : DE) : DI := fun xc ρ q => Te xc ρ fun v => gSeqT v q
theorem DtA.getS {K : PySem.W.Frag} {H : Hp} {vs : List V} {ds : List D} {i : Nat} {v : V} {d : D} (h : DtA K H vs ds) (e1 : vs[i]? = some v) (e2 : ds[i]? = some d) : Dt K H v d := by
  obtain ⟨d', h1, h2⟩ := h.getV e1
  rw [e2] at h1; cases h1; exact h2
theorem id_list (he : ED X T E e Te) : ID X T E tg e (dWalk Te) := by
  refine pi_imp (pi_list he) fun σ H R ⟨xc, Fr, H0, ρ, Hd, q, s, w, hx, k⟩ => ⟨xc, Fr, H0, ρ, Hd, _, s, w, hx, fun v x Hd1 H1 s1 b1 ok1 w1 => ?_⟩
  unfold gSeq at w1
  split at w1
  · rename_i ds
    have ok1 : Dt X.K Hd1 v (.list ds) := ok1
    cases ok1 with
    | lst h1 h2 =>
      rename_i a xs
      refine ⟨a, rfl, ⟨xs, SqL.of (s1.keep _ _ h1)⟩, k _ ds Hd1 H1 s1 b1 (fun Fr H0 ρ σ Hd2 H2 i s2 b2 => ⟨fun d hd => ?_, fun hl => ?_⟩) w1⟩
      · obtain ⟨v, e1, e2⟩ := h2.get hd
        have hq : SqL X.K H2 a xs := SqL.of (s2.keep _ _ (b2 _ _ h1))
        exact ⟨⟨xs, v, hq, e1⟩, fun x H' ⟨y1, y2⟩ => ⟨Hd2, y1 ▸ s2, Sub.refl _, (h2.mono b2).getS (y2 xs hq) hd⟩⟩
      · exact ⟨xs, SqL.of (s2.keep _ _ (b2 _ _ h1)), by rw [h2.length]; omega⟩
  · exact w1.elim
theorem id_tup (he : ED X T E e Te) : ID X T E tg e (dWalkT Te) := by
  refine pi_imp (pi_tup he) fun σ H R ⟨xc, Fr, H0, ρ, Hd, q, s, w, hx, k⟩ => ⟨xc, Fr, H0, ρ, Hd, _, s, w, hx, fun v x Hd1 H1 s1 b1 ok1 w1 => ?_⟩
  unfold gSeqT at w1
  split at w1
  · rename_i ds
    have ok1 : Dt X.K Hd1 v (.tuple ds) := ok1
    cases ok1 with
    | tup h1 h2 =>
      rename_i a xs
      refine ⟨a, rfl, ⟨xs, SqT.of (s1.keep _ _ h1)⟩, k _ ds Hd1 H1 s1 b1 (fun Fr H0 ρ σ Hd2 H2 i s2 b2 => ⟨fun d hd => ?_, fun hl => ?_⟩) w1⟩
      · obtain ⟨v, e1, e2⟩ := h2.get hd
        have hq : SqT X.K H2 a xs := SqT.of (s2.keep _ _ (b2 _ _ h1))
        exact ⟨⟨xs, v, hq, e1⟩, fun x H' ⟨y1, y2⟩ => ⟨Hd2, y1 ▸ s2, Sub.refl _, (h2.mono b2).getS (y2 xs hq) hd⟩⟩
      · exact ⟨xs, SqT.of (s2.keep _ _ (b2 _ _ h1)), by rw [h2.length]; omega⟩
  · exact w1.elim
def rangeD (lo : Int) (n : Nat) : List D := (List.range n).map fun i => .int (lo + (i : Nat))
theorem rangeD_ok {K : PySem.W.Frag} {Hb : Hp} {lo : Int} {n : Nat} : IterOk K T (Itr lo n) Hb (rangeD lo n) := fun Fr H0 ρ σ Hd H i s b => by
  refine ⟨fun d hd => ?_, fun hl => ?_⟩
  · unfold rangeD at hd
    rw [List.getElem?_map] at hd
    cases q : (List.range n)[i]? with
    | none => rw [q] at hd; cases hd
    | some j =>
      rw [q] at hd
      have hj := List.getElem?_eq_some_iff.mp q
      obtain ⟨h1, h2⟩ := hj
      rw [List.getElem_range] at h2
      subst h2
      cases hd
      rw [List.length_range] at h1
      exact ⟨h1, fun x H' ⟨y1, y2⟩ => ⟨Hd, y1 ▸ s, Sub.refl _, y2 ▸ Dt.int _⟩⟩
  · have : (rangeD lo n).length = n := by unfold rangeD; simp
    rw [this] at hl
    exact Nat.le_of_eq hl
def gRng1 (vs : List Vl) (q : List D → Prop) : Prop := match vs with
  | [.d (.int j)] => (-(2 ^ 62) ≤ j ∧ j < 2 ^ 62) ∧ q (rangeD 0 j.toNat)
  | _ => False
def gRng2 (vs : List Vl) (q : List D → Prop) : Prop := match vs with
  | [.d (.int i), .d (.int j)] => (-(2 ^ 62) ≤ i ∧ i < 2 ^ 62 ∧ -(2 ^ 62) ≤ j ∧ j < 2 ^ 62) ∧ q (rangeD i (j - i).toNat)
  | _ => False
def dRng1 (Al : DA) : DI := fun xc ρ q => Al xc ρ fun vs => gRng1 vs q
def dRng2 (Al : DA) : DI := fun xc ρ q => Al xc ρ fun vs => gRng2 vs q
theorem id_range1 (hm : X.mg "range" = none) (ha : AD X T E [a] Al) (hg : Gl X "range" := by rfl) (hs : starEach [a] X.env = [(false, eval a X.env)] := by rfl) : ID X T E tg (.Call (.Name "range" p) [a] [] pos) (dRng1 Al) := by
  refine pi_imp (pi_range1 hg hm ha hs) fun σ H R ⟨xc, Fr, H0, ρ, Hd, q, s, w, hx, k⟩ => ⟨xc, Fr, H0, ρ, Hd, _, s, w, hx, fun vs xs Hd1 H1 s1 b1 ok1 w1 => ?_⟩
  unfold gRng1 at w1
  split at w1
  · rename_i j
    obtain ⟨v, rfl, h⟩ := vls1 ok1
    exact ⟨j, by rw [h.int s1 rfl], w1.1.1, w1.1.2, k _ _ Hd1 H1 s1 b1 rangeD_ok w1.2⟩
  · exact w1.elim
theorem id_range2 (hm : X.mg "range" = none) (ha : AD X T E [a, b] Al) (hg : Gl X "range" := by rfl) (hs : starEach [a, b] X.env = [(false, eval a X.env), (false, eval b X.env)] := by rfl) (hs2 : starEach [b] X.env = [(false, eval b X.env)] := by rfl) : ID X T E tg (.Call (.Name "range" p) [a, b] [] pos) (dRng2 Al) := by
  refine pi_imp (pi_range2 hg hm ha hs hs2) fun σ H R ⟨xc, Fr, H0, ρ, Hd, q, s, w, hx, k⟩ => ⟨xc, Fr, H0, ρ, Hd, _, s, w, hx, fun vs xs Hd1 H1 s1 b1 ok1 w1 => ?_⟩
  unfold gRng2 at w1
  split at w1
  · rename_i i j
    obtain ⟨v, u, rfl, h1, h2⟩ := vls2 ok1
    exact ⟨i, j, by rw [h1.int s1 rfl, h2.int s1 rfl], w1.1, k _ _ Hd1 H1 s1 b1 rangeD_ok w1.2⟩
  · exact w1.elim
end
end DL

/-! Data: a def by its contract; comprehensions; lists of one's own. -/
namespace DL
open PySem L2 LamX
open PyProof.Rows (envOfC)
/-! ### contracts -/
abbrev Ct := List Vl → (D → Prop) → DX → Prop
def ArgOk (K : PySem.W.Frag) (Hd : Hp) (v : V) : Vl → Prop
  | .d x => Dt K Hd v x
  | .s ns => ∃ p, v = .ref p ∧ SqL K Hd p (ns.map V.int)
  | .o _ => False
inductive ArgsOk (K : PySem.W.Frag) (Hd : Hp) : List V → List Vl → Prop
  | nil : ArgsOk K Hd [] []
  | cons {v : V} {vs : List V} {x : Vl} {xs : List Vl} : ArgOk K Hd v x → ArgsOk K Hd vs xs → ArgsOk K Hd (v :: vs) (x :: xs)
theorem ArgsOk.length {K : PySem.W.Frag} {Hd : Hp} : ∀ {vs : List V} {xs : List Vl}, ArgsOk K Hd vs xs → vs.length = xs.length
  | _, _, .nil => rfl
  | _, _, .cons _ t => by simp [ArgsOk.length t]
theorem ArgsOk.get {K : PySem.W.Frag} {Hd : Hp} : ∀ {vs : List V} {xs : List Vl} {i : Nat} {x : Vl}, ArgsOk K Hd vs xs → xs[i]? = some x → ∃ v, vs[i]? = some v ∧ ArgOk K Hd v x
  | _, _, _, _, .nil, e => by simp at e
  | _, _, 0, _, .cons h _, e => by simp at e; subst e; exact ⟨_, rfl, h⟩
  | _, _, i + 1, _, .cons _ t, e => by
    obtain ⟨v, h1, h2⟩ := ArgsOk.get (i := i) t (by simpa using e)
    exact ⟨v, by simpa using h1, h2⟩
structure Grow (T : Wd) (Hd H Hd' H' : Hp) : Prop where
  dat : Sub Hd Hd'
  keep : Sub Hd' H'
  ntb : NoT Hd'
  tabs : Tabs T.tb H'
  prv : ∀ b o, H b = some o → Hd b = none → (∀ ps, o ≠ .tbl ps) → H' b = some o ∧ Hd' b = none
def spD (K : PySem.W.Frag) (T : Wd) (n : Nat) (F : Ct) : Sp := fun vs H Q E => ∃ (Hd : Hp) (xs : List Vl) (q : D → Prop) (xc : DX), Sub Hd H ∧ NoT Hd ∧ Tabs T.tb H ∧ ArgsOk K Hd vs xs ∧ xs.length = n ∧ F xs q xc ∧
  (∀ d v Hd' H', Grow T Hd H Hd' H' → Dt K Hd' v d → q d → Q v H') ∧ ∀ C Hd' H', Grow T Hd H Hd' H' → xc C → E (.ref (T.ca C)) none H'
def noOwn : List Vl → Bool
  | [] => true
  | .o _ :: _ => false
  | _ :: r => noOwn r
section
variable {K : PySem.W.Frag} {T : Wd} {Fr H0 : Hp} {ρ : DSt} {σ : St} {Hd H : Hp}
theorem Sat.grow {Hd' H' : Hp} (s : Sat K T Fr H0 ρ σ Hd H) (g : Grow T Hd H Hd' H') : Sat K T Fr H0 ρ σ Hd' H' := by
  refine ⟨s.len, s.base.trans g.dat, g.keep, g.ntb, g.tabs, fun b o e => ?_, fun i u e => ?_, s.sep⟩
  · obtain ⟨h0, h1, h2⟩ := s.frame b o e
    obtain ⟨k1, k2⟩ := g.prv b o h1 h2 h0
    exact ⟨h0, k1, k2⟩
  · obtain ⟨v, h1, h2⟩ := s.slot i u e
    exact ⟨v, h1, h2.ext g.dat fun b o hb ho hn hf => by
      obtain ⟨k1, k2⟩ := g.prv b o ho hb hn
      exact ⟨k2, k1, hf⟩⟩
theorem noOwn_ok : ∀ {vs : List V} {xs : List Vl}, VlsOk K Hd ρ σ vs xs → noOwn xs = true → ArgsOk K Hd vs xs
  | _, _, .nil, _ => .nil
  | _, .d x :: r, .cons h t, e => .cons h (noOwn_ok t e)
  | _, .s x :: r, .cons h t, e => .cons h (noOwn_ok t e)
  | _, .o x :: r, .cons h t, e => by cases e
end
section
variable {X : Cx} {T : Wd} {E : XK} {a b c e tg iter : Expr} {es rest : List Expr} {pos p p2 : Pos} {Ta Tb Tc Te : DE} {ta tb tc : DT} {Al : DA} {st : Stmt} {sts sts2 : List Stmt} {t u : DS}
def dCall (F : Ct) (Al : DA) : DE := fun xc ρ Q => Al xc ρ fun xs => noOwn xs = true ∧ F xs (fun d => Q (.d d)) xc
theorem le_call {K : PySem.W.Frag} {n : Nat} {F : Ct} (hn : ∀ xs q xc, F xs q xc → xs.length = n) {σ : St} {H : Hp} {Q : VK} (h : LE K T E (dCall F Al) σ H Q) : tCall (spD K T n F) [] E (LA K T E Al) σ H Q := by
  obtain ⟨xc, Fr, H0, ρ, Hd, q, s, w, hx, k⟩ := h
  refine ⟨xc, Fr, H0, ρ, Hd, _, s, w, hx, fun vs xs Hd1 H1 s1 b1 ok1 w1 => ?_⟩
  refine ⟨Hd1, xs, fun d => q (.d d), xc, s1.keep, s1.ntb, s1.tabs, by rw [List.append_nil]; exact noOwn_ok ok1 w1.1, hn _ _ _ w1.2, w1.2, fun d v Hd2 H2 g dt qd => k v (.d d) Hd2 H2 (s1.grow g) (b1.trans g.dat) dt qd, fun C Hd2 H2 g xC => hx C Hd2 H2 (s1.grow g) xC⟩
theorem de_call {x : Str} {k n : Nat} {f : Addr} {fd : FuncData} {ps : List Str} {F : Ct} (G : FnOk X.prog X.w X.K X.mg X.base (L2N.CX X.prog X.w) k f fd ps (spD X.K T n F)) (hn : ∀ xs q xc, F xs q xc → xs.length = n) (hr : Room k X.A) (hm : X.mg x = some (.ref f)) (hk : PySem.W.keepIn X.K (.ref f) = true) (hb : Binds X.K fd ps []) (hx : Passes (L2N.CX X.prog X.w) X E)
    (ha : AD X T E (e :: es) Al) (hg : Gl X x := by rfl) (hdb : (x == ("__debug__" : Str)) = false := by decide) (he : starEach (e :: es) X.env = (false, eval e X.env) :: starEach es X.env := by rfl) (hpl : (backTo pos (starEach es X.env)).any (·.1) = false := by rfl) :
    ED X T E (.Call (.Name x p) (e :: es) [] pos) (dCall F Al) :=
  pe_imp (pe_call G hr hg hm hk hb .nil hx ha hdb he hpl) fun _ _ _ h => le_call hn h
theorem de_call0 {x : Str} {k n : Nat} {f : Addr} {fd : FuncData} {ps : List Str} {F : Ct} (G : FnOk X.prog X.w X.K X.mg X.base (L2N.CX X.prog X.w) k f fd ps (spD X.K T n F)) (hn : ∀ xs q xc, F xs q xc → xs.length = n) (hr : Room k X.A) (hm : X.mg x = some (.ref f)) (hk : PySem.W.keepIn X.K (.ref f) = true) (hb : Binds X.K fd ps []) (hx : Passes (L2N.CX X.prog X.w) X E)
    (hg : Gl X x := by rfl) (hdb : (x == ("__debug__" : Str)) = false := by decide) : ED X T E (.Call (.Name x p) [] [] pos) (dCall F dNil) :=
  pe_imp (pe_call0 G hr hg hm hk hb .nil hx hdb) fun σ H Q ⟨xc, Fr, H0, ρ, Hd, q, s, w, hx, k⟩ =>
    ⟨Hd, [], fun d => q (.d d), xc, s.keep, s.ntb, s.tabs, .nil, hn _ _ _ w.2, w.2, fun d v Hd2 H2 g dt qd => k v (.d d) Hd2 H2 (s.grow g) g.dat dt qd, fun C Hd2 H2 g xC => hx C Hd2 H2 (s.grow g) xC⟩
end
/-! ### a def by its body -/
def dstart (N : List Str) (xs : List Vl) : DSt := xs.map some ++ List.replicate (N.length - xs.length) none
section
variable {P : Program} {w : World} {K : PySem.W.Frag} {mg : Str → Option Value} {base : Heap} {T : Wd}
def prvOf (Hd H : Hp) : Hp := fun b => match Hd b, H b with
  | none, some (.tbl _) => none
  | none, some o => some o
  | _, _ => none
theorem prvOf_some {Hd H : Hp} {b : Addr} {o : HO} (e : prvOf Hd H b = some o) : (∀ ps, o ≠ .tbl ps) ∧ H b = some o ∧ Hd b = none := by
  unfold prvOf at e
  split at e
  · cases e
  · rename_i o' h1 h2 h3
    cases e
    exact ⟨fun ps z => by subst z; exact h1 ps rfl, h3, h2⟩
  · cases e
theorem prvOf_of {Hd H : Hp} {b : Addr} {o : HO} (h1 : H b = some o) (h2 : Hd b = none) (h3 : ∀ ps, o ≠ .tbl ps) : prvOf Hd H b = some o := by
  unfold prvOf
  rw [h1, h2]
  cases o with
  | tbl ps => exact (h3 ps rfl).elim
  | _ => rfl
theorem sat_start {N : List Str} {vs : List V} {xs : List Vl} {Hd H : Hp} (hN : xs.length ≤ N.length) (sb : Sub Hd H) (nt : NoT Hd) (tb : Tabs T.tb H) (ar : ArgsOk K Hd vs xs) : Sat K T (prvOf Hd H) Hd (dstart N xs) (L2.start N vs) Hd H := by
  have hl := ar.length
  refine ⟨?_, Sub.refl _, sb, nt, tb, fun b o e => prvOf_some e, fun i s e => ?_, fun i j x y v e1 e2 _ _ => ?_⟩
  · unfold L2.start dstart
    simp [hl]
  · unfold dstart at e
    by_cases hi : i < xs.length
    · rw [List.getElem?_append_left (by simpa using hi), List.getElem?_map] at e
      obtain ⟨x, hx⟩ : ∃ x, xs[i]? = some x := ⟨xs[i], by simp [hi]⟩
      rw [hx] at e
      simp only [Option.map_some, Option.some.injEq] at e
      subst e
      obtain ⟨v, h1, h2⟩ := ar.get hx
      refine ⟨v, ?_, ?_⟩
      · unfold L2.start
        rw [List.getElem?_append_left (by rw [List.length_map, hl]; exact hi), List.getElem?_map, h1]
        rfl
      · cases x with
        | d y => exact h2
        | s y => exact h2
        | o y => exact (show False from h2).elim
    · rw [List.getElem?_append_right (by simpa using hi), List.getElem?_replicate] at e
      split at e <;> cases e
  · exfalso
    unfold dstart at e1
    by_cases hi : i < xs.length
    · rw [List.getElem?_append_left (by simpa using hi), List.getElem?_map] at e1
      obtain ⟨z, hx⟩ : ∃ x, xs[i]? = some x := ⟨xs[i], by simp [hi]⟩
      rw [hx] at e1
      simp only [Option.map_some, Option.some.injEq] at e1
      subst e1
      obtain ⟨v, h1, h2⟩ := ar.get hx
      exact h2
    · rw [List.getElem?_append_right (by simpa using hi), List.getElem?_replicate] at e1
      split at e1 <;> cases e1
theorem Out.grow {Hd H Hd' H' : Hp} (o : Out T (prvOf Hd H) Hd Hd' H') : Grow T Hd H Hd' H' :=
  ⟨o.base, o.keep, o.ntb, o.tabs, fun b u h1 h2 h3 => (o.frame b u (prvOf_of h1 h2 h3)).2⟩
theorem fn_d {x qual : Str} {st : Stmt} {f : Addr} {fd : FuncData} {N ps : List Str} {k : Nat} {F : Ct} (Fn : Fun K x qual st f fd) (S : FnScope N ps (defScope st))
    (hb : ∀ (cdv : Value) (A : Around) (outer : List Env) (s : Shared) (H : Hp) (E : XK), Room k (A.deeper (envOfC qual (defScope st) s.heap.objs.size f cdv)) →
      ∃ t, BD (cxOf (L2N.CX P w) P w K mg base N qual (defScope st) f cdv A outer s H E) T E (defBody st) t ∧ ∀ xs q xc, F xs q xc → t { nx := fun _ => q .none, rt := q, xc := xc } (dstart N xs)) :
    FnOk P w K mg base (L2N.CX P w) (k + 1) f fd ps (spD K T ps.length F) := by
  obtain ⟨oc, od, kV, doc, pm, an, cdv, ct, osl, e0, lk, hcd⟩ := Fn.ex
  subst e0
  refine fn_of lk hcd S (fun vs H Q E ⟨Hd, xs, q, xc, h1, h0, h2, h3, h4, _⟩ => by rw [h3.length, h4]) (fun A outer s H vs Q E hr h => ?_)
  obtain ⟨Hd, xs, q, xc, sb, nt, tb, ar, hl, hF, hq, hx⟩ := h
  obtain ⟨t, hbd, ht⟩ := hb cdv A outer s H E hr
  have hpl : ps.length ≤ N.length := by
    have z := congrArg List.length S.pre
    rw [List.length_take] at z
    omega
  refine ⟨_, hbd, { nx := fun _ => q .none, rt := q, xc := xc }, prvOf Hd H, Hd, dstart N xs, Hd, sat_start (by omega) sb nt tb ar, ⟨fun ρ σ Hd' H' s' _ w' => hq .none .non Hd' H' s'.out.grow Dt.non w', fun _ _ _ _ _ _ z => z.elim, fun _ _ _ _ _ _ z => z.elim,
    fun d v Hd' H' o dt w' => hq d v Hd' H' o.grow dt w', fun C Hd' H' o w' => hx C Hd' H' o.grow w'⟩, ht xs q xc hF⟩
end
/-! ### states widened and narrowed -/
def wipeD (ρ : DSt) : List Nat → DSt
  | [] => ρ
  | v :: vs => (wipeD ρ vs).set v none
theorem wipeD_length (ρ : DSt) : ∀ vs : List Nat, (wipeD ρ vs).length = ρ.length
  | [] => rfl
  | v :: vs => by unfold wipeD; rw [List.length_set, wipeD_length ρ vs]
theorem wipeD_some {ρ : DSt} {i : Nat} {x : Vl} : ∀ {vs : List Nat}, (wipeD ρ vs)[i]? = some (some x) → ρ[i]? = some (some x) ∧ i ∉ vs
  | [], h => ⟨h, by simp⟩
  | v :: vs, h => by
    unfold wipeD at h
    by_cases hi : v = i
    · subst hi
      by_cases hv : v < (wipeD ρ vs).length
      · rw [List.getElem?_set_self hv] at h; cases h
      · rw [List.getElem?_eq_none (by simpa using hv)] at h; cases h
    · rw [List.getElem?_set_ne hi] at h
      obtain ⟨h1, h2⟩ := wipeD_some h
      exact ⟨h1, by simp only [List.mem_cons, not_or]; exact ⟨fun e => hi e.symm, h2⟩⟩
theorem wipeD_out {ρ : DSt} {i : Nat} : ∀ {vs : List Nat}, i ∉ vs → (wipeD ρ vs)[i]? = ρ[i]?
  | [], _ => rfl
  | v :: vs, h => by
    simp only [List.mem_cons, not_or] at h
    unfold wipeD
    rw [List.getElem?_set_ne (fun z => h.1 z.symm), wipeD_out h.2]
theorem wipe_in {σ : St} {i : Nat} : ∀ {vs : List Nat}, i ∈ vs → i < σ.length → (wipe σ vs)[i]? = some none
  | v :: vs, h, hl => by
    unfold wipe
    by_cases hi : v = i
    · subst hi
      rw [List.getElem?_set_self (by rw [wipe_length]; exact hl)]
    · rw [List.getElem?_set_ne hi]
      rcases List.mem_cons.mp h with z | z
      · exact (hi z.symm).elim
      · exact wipe_in z hl
theorem wipe_but {σ σ' : St} {is vs : List Nat} (b : But is (wipe σ vs) σ') (h : ∀ i ∈ is, i ∈ vs) : wipe σ' vs = wipe σ vs := by
  refine List.ext_getElem? fun i => ?_
  by_cases hi : i ∈ vs
  · by_cases hl : i < σ.length
    · rw [wipe_in hi (by rw [b.1, wipe_length]; exact hl), wipe_in hi hl]
    · rw [List.getElem?_eq_none (by rw [wipe_length, b.1, wipe_length]; omega), List.getElem?_eq_none (by rw [wipe_length]; omega)]
  · rw [wipe_out hi, wipe_out hi, b.2 i (fun z => hi (h i z)), wipe_out hi]
section
variable {K : PySem.W.Frag} {T : Wd} {Fr H0 : Hp} {ρ : DSt} {σ : St} {Hd H : Hp}
theorem Sat.narrow {ρ' : DSt} {σ' : St} (s : Sat K T Fr H0 ρ σ Hd H) (hl : σ'.length = ρ'.length) (h : ∀ (i : Nat) (x : Vl), ρ'[i]? = some (some x) → ρ[i]? = some (some x) ∧ σ'[i]? = σ[i]?) : Sat K T Fr H0 ρ' σ' Hd H := by
  refine ⟨hl, s.base, s.keep, s.ntb, s.tabs, s.frame, fun i x e => ?_, fun i j x y v e1 e2 e3 e4 => ?_⟩
  · obtain ⟨h1, h2⟩ := h i x e
    rw [h2]
    exact s.slot i x h1
  · obtain ⟨h1, h2⟩ := h i _ e1
    obtain ⟨k1, k2⟩ := h j _ e2
    rw [h2] at e3
    rw [k2] at e4
    exact s.sep i j x y v h1 k1 e3 e4
theorem Sat.wipe (s : Sat K T Fr H0 ρ σ Hd H) (vs : List Nat) : Sat K T Fr H0 (wipeD ρ vs) (L2.wipe σ vs) Hd H :=
  s.narrow (by rw [wipe_length, wipeD_length, s.len]) fun i x e => by
    obtain ⟨h1, h2⟩ := wipeD_some e
    exact ⟨h1, wipe_out h2⟩
/-- a new object, held apart -/
theorem Sat.hold {p : Addr} {o : HO} (s : Sat K T Fr H0 ρ σ Hd H) (hp : H p = none) (ho : ∀ ps, o ≠ .tbl ps) : Sat K T (upd Fr p o) H0 ρ σ Hd (upd H p o) := by
  have hd := s.keep.free hp
  refine ⟨s.len, s.base, s.keep.right hd, s.ntb, s.tabs.ext (Sub.new hp), fun b u e => ?_, fun i v e => ?_, s.sep⟩
  · by_cases q : b = p
    · subst q; rw [upd_same] at e ⊢; cases e; exact ⟨ho, rfl, hd⟩
    · rw [upd_ne q] at e ⊢; exact s.frame b u e
  · obtain ⟨w, h1, h2⟩ := s.slot i v e
    refine ⟨w, h1, h2.ext (Sub.refl _) fun b u hb hu _ hf => ?_⟩
    have n : b ≠ p := ne_of_none hu hp
    exact ⟨hb, by rw [upd_ne n]; exact hu, by rw [upd_ne n]; exact hf⟩
/-- what is held apart is changed -/
theorem Sat.rehold {p : Addr} {o o' : HO} (s : Sat K T (upd Fr p o) H0 ρ σ Hd H) (ho : ∀ ps, o' ≠ .tbl ps) (hc : ∀ c y, o ≠ CodeO c y) : Sat K T (upd Fr p o') H0 ρ σ Hd (upd H p o') := by
  obtain ⟨g0, g1, g2⟩ := s.frame p o upd_same
  refine ⟨s.len, s.base, s.keep.right g2, s.ntb, fun t ht => ?_, fun b u e => ?_, fun i v e => ?_, s.sep⟩
  · obtain ⟨ps, a1, a2, a3⟩ := s.tabs t ht
    refine ⟨ps, ?_, a2, fun pos cv hcv => ?_⟩
    · rw [upd_ne (fun z => by rw [z, g1] at a1; cases a1; exact g0 ps rfl)]; exact a1
    · obtain ⟨c, b1, b2⟩ := a3 pos cv hcv
      exact ⟨c, b1, by rw [upd_ne (fun z => by rw [z, g1] at b2; exact hc _ _ (Option.some.inj b2))]; exact b2⟩
  · by_cases q : b = p
    · subst q; rw [upd_same] at e ⊢; cases e; exact ⟨ho, rfl, g2⟩
    · rw [upd_ne q] at e ⊢
      exact s.frame b u (by rw [upd_ne q]; exact e)
  · obtain ⟨w, h1, h2⟩ := s.slot i v e
    refine ⟨w, h1, h2.ext (Sub.refl _) fun b u hb hu _ hf => ?_⟩
    have n : b ≠ p := fun z => by rw [z, upd_same] at hf; cases hf
    rw [upd_ne n] at hf
    exact ⟨hb, by rw [upd_ne n]; exact hu, by rw [upd_ne n]; exact hf⟩
def ownFree (ρ : DSt) (vs : List Nat) : Bool := vs.all fun i => match ρ[i]? with
  | some (some (.o _)) => false
  | _ => true
/-- back behind a comprehension: its list is data now -/
theorem Sat.back {vs : List Nat} {Hd1 H1 Hd2 H2 : Hp} {p : Addr} {o : HO} (s1 : Sat K T Fr H0 ρ σ Hd1 H1) (hp : H1 p = none) (hv : ownFree ρ vs = true) (s2 : Sat K T (upd Fr p o) Hd1 (wipeD ρ vs) (L2.wipe σ vs) Hd2 H2) : Sat K T Fr H0 ρ σ (upd Hd2 p o) H2 := by
  obtain ⟨g0, g1, g2⟩ := s2.frame p o upd_same
  have nf : ∀ b u, Fr b = some u → b ≠ p := fun b u e z => by
    have q := (s1.frame b u e).2.1
    rw [z, hp] at q; cases q
  refine ⟨s1.len, (s1.base.trans s2.base).trans (Sub.new g2), fun b u e => ?_, s2.ntb.upd g0, s2.tabs, fun b u e => ?_, fun i v e => ?_, s1.sep⟩
  · by_cases q : b = p
    · subst q; rw [upd_same] at e; cases e; exact g1
    · rw [upd_ne q] at e; exact s2.keep b u e
  · have n := nf b u e
    obtain ⟨k0, k1, k2⟩ := s2.frame b u (by rw [upd_ne n]; exact e)
    exact ⟨k0, k1, by rw [upd_ne n]; exact k2⟩
  · by_cases hi : i ∈ vs
    · obtain ⟨w, h1, h2⟩ := s1.slot i v e
      refine ⟨w, h1, ?_⟩
      have q := List.all_eq_true.mp hv i hi
      rw [e] at q
      cases v with
      | d y => exact Dt.mono (s2.base.trans (Sub.new g2)) h2
      | s y => obtain ⟨b, e1, e2⟩ := h2; exact ⟨b, e1, (s2.base.trans (Sub.new g2)).l e2⟩
      | o y => cases q
    · obtain ⟨w, h1, h2⟩ := s2.slot i v (by rw [wipeD_out hi]; exact e)
      rw [wipe_out hi] at h1
      refine ⟨w, h1, h2.ext (Sub.new g2) fun b u hb hu _ hf => ?_⟩
      have n : b ≠ p := fun z => by rw [z, upd_same] at hf; cases hf
      rw [upd_ne n] at hf
      exact ⟨by rw [upd_ne n]; exact hb, hu, hf⟩
end
/-! ### comprehensions -/
def noX : DX := fun _ => False
def vD (v : Vl) (k : D → Prop) : Prop := match v with
  | .d x => k x
  | _ => False
def lcL (tt : Tgt) (tc : DT) (te : DE) (ρ : DSt) : List D → List D → (List D → Prop) → Prop
  | [], acc, k => k acc
  | d :: r, acc, k => gBnd (bindT tt d ρ) fun ρ' => tc noX ρ' fun b => bc b (te noX ρ' fun v => vD v fun y => acc.length < sizeLine ∧ lcL tt tc te ρ r (acc ++ [y]) k) (lcL tt tc te ρ r acc k)
def dLc (ti : DI) (tt : Tgt) (tc : DT) (te : DE) (vs : List Nat) : DE := fun xc ρ Q => ownFree ρ vs = true ∧ ti xc ρ fun ds => lcL tt tc te (wipeD ρ vs) ds [] fun acc => Q (.d (.list acc))
section
variable {X : Cx} {T : Wd} {E : XK} {a b c e tg iter elt : Expr} {ifs es rest : List Expr} {pos p p2 : Pos} {Ta Tb Tc Te te : DE} {ta tb tc : DT} {Al : DA} {st : Stmt} {sts sts2 : List Stmt} {t u : DS} {ti : DI} {tt : Tgt} {scope : Scope}
def dYes : DT := fun _ _ Q => Q true
def TsD (X : Cx) (T : Wd) (E : XK) (ifs : List Expr) (t : DT) : Prop := PTs X ifs (LT X.K T E t)
theorem tsd_nil : TsD X T E [] dYes := ⟨fun pins s σ H Q I ⟨xc, Fr, H0, ρ, Hd, q, st, w, hx, k⟩ => pts_nil.run pins s σ H Q I (k true Hd H st (Sub.refl _) w)⟩
theorem tsd_one (h : TD X T E c tc) : TsD X T E [c] tc := pts_one h
theorem le_lc {K : PySem.W.Frag} {vs : List Nat} (hsl : ∀ i ∈ tt.slots, i ∈ vs) {σ : St} {H : Hp} {Q : VK} (h : LE K T E (dLc ti tt tc te vs) σ H Q) : tLc (LI K T E ti) (gOf K tt) (LT K T E0 tc) (LE K T E0 te) vs σ H Q := by
  obtain ⟨xc, Fr, H0, ρ, Hd, q, s, ⟨hv, w⟩, hx, k⟩ := h
  refine ⟨xc, Fr, H0, ρ, Hd, _, s, w, hx, fun J ds Hd1 H1 s1 b1 it w1 => fun Dl hD => ?_⟩
  refine ⟨fun i m H' => m = ds.length - i ∧ i ≤ ds.length ∧ ∃ Hd' av acc, Sat K T (upd Fr Dl (.lst av)) Hd1 (wipeD ρ vs) (L2.wipe σ vs) Hd' H' ∧ DtA K Hd' av acc ∧ lcL tt tc te (wipeD ρ vs) (ds.drop i) acc (fun acc => q (.d (.list acc))),
    ⟨ds.length, rfl, Nat.zero_le _, Hd1, [], [], ((s1.rebase (Sub.refl _)).wipe vs).hold hD (fun ps z => by cases z), .nil, w1⟩, ?_⟩
  rintro i m H' ⟨rfl, hil, Hd', av, acc, s', da, w'⟩
  obtain ⟨j1, j2⟩ := it _ _ _ _ Hd' H' i s' s'.base
  by_cases hlt : i < ds.length
  · refine .inr ?_
    obtain ⟨d, hd⟩ : ∃ d, ds[i]? = some d := ⟨ds[i], by simp [hlt]⟩
    obtain ⟨g1, g2⟩ := j1 d hd
    refine ⟨g1, fun H2 => ∃ Hd2 av2 acc2, Sat K T (upd Fr Dl (.lst av2)) Hd1 (wipeD ρ vs) (L2.wipe σ vs) Hd2 H2 ∧ DtA K Hd2 av2 acc2 ∧ lcL tt tc te (wipeD ρ vs) (ds.drop (i + 1)) acc2 (fun acc => q (.d (.list acc))), fun H2 z => ⟨ds.length - (i + 1), by omega, rfl, hlt, z⟩, fun x H2 y => ?_⟩
    obtain ⟨Hd2, s2, b2, dt2⟩ := g2 x H2 y
    have ed : ds.drop i = d :: ds.drop (i + 1) := by
      rw [List.drop_eq_getElem_cons hlt]
      congr 1
      rw [List.getElem?_eq_getElem hlt] at hd
      exact Option.some.inj hd
    rw [ed] at w'
    simp only [lcL, gBnd] at w'
    split at w'
    · rename_i ρ3 e3
      refine bind_ok s2 dt2 e3 fun σ3 s3 l3 b3 => ⟨wipe_but b3 hsl, ?_⟩
      have bD := bindT_but e3
      have home : ∀ {av2 : List V} {Hd4 H4 : Hp}, Sat K T (upd Fr Dl (.lst av2)) Hd1 ρ3 σ3 Hd4 H4 → Sat K T (upd Fr Dl (.lst av2)) Hd1 (wipeD ρ vs) (L2.wipe σ vs) Hd4 H4 := fun s4 => s4.narrow (by rw [wipe_length, wipeD_length, s.len]) fun j z ez => by
        have hj := (wipeD_some ez).2
        have nj : j ∉ tt.slots := fun y => hj (hsl j y)
        exact ⟨by rw [bD.2 j nj]; exact ez, (b3.2 j nj).symm⟩
      refine ⟨noX, _, Hd1, ρ3, Hd2, _, s3, w', fun _ _ _ _ z => z.elim, fun k1 Hd4 H4 s4 b4 w4 => ?_⟩
      cases k1 with
      | true =>
        refine iteT ⟨noX, _, Hd1, ρ3, Hd4, _, s4, w4, fun _ _ _ _ z => z.elim, fun v5 y5 Hd5 H5 s5 b5 ok5 w5 => ?_⟩
        cases y5 with
        | d y =>
          obtain ⟨h1, h2⟩ := w5
          refine ⟨av, (s5.frame Dl _ upd_same).2.1, by rw [da.length]; exact h1, Hd5, av ++ [v5], acc ++ [y], (home s5).rehold (fun ps z => by cases z) (fun c y z => by unfold CodeO at z; cases z), ?_, h2⟩
          exact (da.mono ((b2.trans b4).trans b5)).append (.cons ok5 .nil)
        | o y => exact w5.elim
        | s y => exact w5.elim
      | false => exact iteF ⟨Hd4, av, acc, home s4, da.mono (b2.trans b4), w4⟩
    · exact w'.elim
  · have e1 : ds.length = i := by omega
    refine .inl ⟨j2 e1, ?_⟩
    rw [← e1, List.drop_length] at w'
    have g2 := (s'.frame Dl _ upd_same).2.2
    exact k (.ref Dl) (.d (.list acc)) (upd Hd' Dl (.lst av)) H' (s1.back hD hv s') (b1.trans (s'.base.trans (Sub.new g2))) (Dt.lst upd_same (da.mono (Sub.new g2))) w'
theorem de_lc (own : List (Str × Nat)) (hN : X.N.Nodup) (hi : ID X T E tg iter ti) (ok : BlkOk X.N X.env.scope scope own)
    (hg : ∀ (s : Shared) (H : Hp) (C : Addr) (cl : List (Str × Addr)) (fp : List Addr), PG (X.blk s H scope (compEnvC scope cl C X.env) fp) tg (gOf X.K tt)) (ht : ∀ (s : Shared) (H : Hp) (C : Addr) (cl : List (Str × Addr)) (fp : List Addr), TsD (X.blk s H scope (compEnvC scope cl C X.env) fp) T E0 ifs tc)
    (he : ∀ (s : Shared) (H : Hp) (C : Addr) (cl : List (Str × Addr)) (fp : List Addr), ED (X.blk s H scope (compEnvC scope cl C X.env) fp) T E0 elt te) (hc : X.calm = true := by rfl) (hsl : ∀ i ∈ tt.slots, i ∈ own.map (·.2) := by decide) (hs : ∀ x, foldedSetIterable iter X.env x = pure x := by intro _; rfl) :
    ED X T E (.ListComp elt [⟨tg, iter, ifs, 0⟩] scope pos) (dLc ti tt tc te (own.map (·.2))) :=
  pe_imp (pe_lc (tt := LT X.K T E0 tc) (te := LE X.K T E0 te) hc hN hi ok hg ht he hs) fun _ _ _ h => le_lc hsl h
theorem sd_setLc {y : Str} {py spos : Pos} (i : Nat) (own : List (Str × Nat)) (hN : X.N.Nodup) (hsw : swapsWith (.ListComp elt [⟨tg, iter, ifs, 0⟩] scope pos) (some (.Name y py)) spos.line X.env = pure true) (hi : ID X T E tg iter ti) (ok : BlkOk X.N X.env.scope scope own)
    (hg : ∀ (s : Shared) (H : Hp) (C : Addr) (cl : List (Str × Addr)) (fp : List Addr), PG (X.blk s H scope (compEnvC scope cl C X.env) fp) tg (gOf X.K tt)) (ht : ∀ (s : Shared) (H : Hp) (C : Addr) (cl : List (Str × Addr)) (fp : List Addr), TsD (X.blk s H scope (compEnvC scope cl C X.env) fp) T E0 ifs tc)
    (he : ∀ (s : Shared) (H : Hp) (C : Addr) (cl : List (Str × Addr)) (fp : List Addr), ED (X.blk s H scope (compEnvC scope cl C X.env) fp) T E0 elt te) (hc : X.calm = true := by rfl) (hy : X.N[i]? = some y := by rfl) (hyl : X.env.scope.names.lookup y = some .local := by rfl) (hsl : ∀ i ∈ tt.slots, i ∈ own.map (·.2) := by decide) (hs : ∀ x, foldedSetIterable iter X.env x = pure x := by intro _; rfl) :
    SD X T E (.Assign [.Name y py] (.ListComp elt [⟨tg, iter, ifs, 0⟩] scope pos) spos) (dSet i (dLc ti tt tc te (own.map (·.2)))) := by
  refine ps_imp (ps_setLc (tt := LT X.K T E0 tc) (te := LE X.K T E0 te) hc hN hy hyl hsw hi ok hg ht he hs) fun De σ H ⟨e, Fr, H0, ρ, Hd, s, ok, w⟩ => le_lc hsl ⟨e.xc, Fr, H0, ρ, Hd, _, s, w, ok.xok, fun v x Hd1 H1 s1 b1 ok1 w1 => ?_⟩
  cases x with
  | d y => exact ok.nx _ _ Hd1 H1 (s1.set ok1) (by rw [List.length_set]) w1
  | o y => exact (show False from w1).elim
  | s y => exact (show False from w1).elim
/-! ### lists of one's own -/
def gOwnL (i : Nat) (xs : List Vl) (ρ : DSt) (Q : DSt → Prop) : Prop := match allD xs with
  | some ds => ds.length ≤ sizeLine ∧ Q (ρ.set i (some (.o (.list ds))))
  | none => False
def dOwnL (i : Nat) (Al : DA) : DS := fun e ρ => Al e.xc ρ fun xs => gOwnL i xs ρ e.nx
theorem sd_ownL {x : Str} (i : Nat) (ha : AD X T E es Al) (hN : X.N.Nodup) (hi : X.N[i]? = some x := by rfl) (hx : Loc X.env.scope x := by first | exact Or.inl rfl | exact Or.inr rfl) (hs : swapsWith (.List es p2) (some (.Name x p)) pos.line X.env = pure false := by rfl) (hf : X.fn x = true ∨ X.env.scope.names.lookup x = some .local := by first | exact .inl rfl | exact .inr rfl) :
    SD X T E (.Assign [.Name x p] (.List es p2) pos) (dOwnL i Al) := by
  refine ps_imp (ps_set hN hi hx (pe_lst ha) hs hf) fun De σ H ⟨e, Fr, H0, ρ, Hd, s, ok, w⟩ => ⟨e.xc, Fr, H0, ρ, Hd, _, s, w, ok.xok, fun vs xs Hd1 H1 s1 b1 ok1 w1 => ?_⟩
  unfold gOwnL at w1
  split at w1
  · rename_i ds e1
    have hA := allD_ok ok1 e1
    refine ⟨by rw [hA.length]; exact w1.1, fun p hp => ?_⟩
    exact ok.nx _ _ Hd1 _ (s1.setOwn (o := .lst vs) (d := .list ds) hp ⟨vs, upd_same, hA⟩) (by rw [List.length_set]) w1.2
  · exact w1.elim
def gApp (i : Nat) (ds : List D) (v : Vl) (ρ : DSt) (Q : DSt → Prop) : Prop := match v with
  | .d x => ds.length < sizeLine ∧ Q (ρ.set i (some (.o (.list (ds ++ [x])))))
  | _ => False
def ownL (o : Option (Option Vl)) (k : List D → Prop) : Prop := match o with
  | some (some (.o (.list ds))) => k ds
  | _ => False
def dApp (i : Nat) (Te : DE) : DS := fun e ρ => ownL ρ[i]? fun ds => Te e.xc ρ fun v => gApp i ds v ρ e.nx
theorem sd_append {x : Str} {px apos cpos : Pos} (i : Nat) (h : PE X (.Call (.Attribute (.Name x px) "append" apos) [e] [] cpos) (tBM X.K "list" rAppend (tVar i) (tCons (LE X.K T E Te) tNil))) (hs : swapsWith (.Call (.Attribute (.Name x px) "append" apos) [e] [] cpos) none pos.line X.env = pure false := by rfl) :
    SD X T E (.Expr (.Call (.Attribute (.Name x px) "append" apos) [e] [] cpos) pos) (dApp i Te) := by
  refine ps_imp (ps_expr h hs) fun De σ H ⟨e, Fr, H0, ρ, Hd, s, ok, w⟩ => ?_
  show tBM X.K "list" rAppend (tVar i) (tCons (LE X.K T E Te) tNil) σ H fun _ H1 => De.nx σ H1
  unfold dApp ownL at w
  split at w
  · rename_i ds hq
    obtain ⟨u, h1, p, rfl, _, _, xs, h2, _⟩ := s.slot i _ hq
    refine ⟨_, h1, .inl ⟨rfl, xs, SqL.of h2⟩, e.xc, Fr, H0, ρ, Hd, _, s, w, ok.xok, fun v x Hd1 H1 s1 b1 ok1 w1 => ?_⟩
    cases x with
    | d y =>
      obtain ⟨u, h1', p', e1, _, _, xs', h2', h3'⟩ := s1.slot i _ hq
      rw [h1] at h1'; cases h1'; cases e1
      refine ⟨p, xs', v, rfl, rfl, h2', by rw [h3'.length]; exact w1.1, ?_⟩
      exact ok.nx _ _ Hd1 _ (s1.mutOwn (d' := .list (ds ++ [y])) hq h1 ⟨xs' ++ [v], upd_same, h3'.append (.cons ok1 .nil)⟩) (by rw [List.length_set]) w1.2
    | o y => exact (show False from w1).elim
    | s y => exact (show False from w1).elim
  · exact w.elim
end
end DL

/-! Data: defs by name; short forms for the printed derivations. -/
namespace DL
open PySem L2 LamX
open PyProof.Rows (envOfC)
/-- a def of the module: its name, level, number of parameters, contract -/
structure Df (P : Program) (w : World) (K : PySem.W.Frag) (mg : Str → Option Value) (base : Heap) (T : Wd) (x : Str) (k n : Nat) (F : Ct) : Prop where
  ex : ∃ (f : Addr) (fd : FuncData) (ps : List Str), FnOk P w K mg base (L2N.CX P w) k f fd ps (spD K T n F) ∧ mg x = some (.ref f) ∧ PySem.W.keepIn K (.ref f) = true ∧ Binds K fd ps []
  hn : ∀ xs q xc, F xs q xc → xs.length = n
section
variable {X : Cx} {T : Wd} {E : XK} {a b c e tg iter : Expr} {es rest : List Expr} {pos p p2 : Pos} {Ta Tb Tc Te : DE} {ta tb tc : DT} {Al : DA} {st : Stmt} {sts sts2 : List Stmt} {t u : DS}
theorem de_fn {x : Str} {k n : Nat} {F : Ct} (G : Df X.prog X.w X.K X.mg X.base T x k n F) (hr : Room k X.A) (hx : Passes (L2N.CX X.prog X.w) X E)
    (ha : AD X T E (e :: es) Al) (hg : Gl X x := by rfl) (hdb : (x == ("__debug__" : Str)) = false := by decide) (he : starEach (e :: es) X.env = (false, eval e X.env) :: starEach es X.env := by rfl) (hpl : (backTo pos (starEach es X.env)).any (·.1) = false := by rfl) :
    ED X T E (.Call (.Name x p) (e :: es) [] pos) (dCall F Al) := by
  obtain ⟨f, fd, ps, h1, h2, h3, h4⟩ := G.ex
  exact de_call h1 G.hn hr h2 h3 h4 hx ha hg hdb he hpl
theorem de_fn0 {x : Str} {k n : Nat} {F : Ct} (G : Df X.prog X.w X.K X.mg X.base T x k n F) (hr : Room k X.A) (hx : Passes (L2N.CX X.prog X.w) X E)
    (hg : Gl X x := by rfl) (hdb : (x == ("__debug__" : Str)) = false := by decide) : ED X T E (.Call (.Name x p) [] [] pos) (dCall F dNil) := by
  obtain ⟨f, fd, ps, h1, h2, h3, h4⟩ := G.ex
  exact de_call0 h1 G.hn hr h2 h3 h4 hx hg hdb
/-! ### operators, short -/
theorem de_add (ha : ED X T E a Ta) (hb : ED X T E b Tb) : ED X T E (.BinOp a .Add b pos) (dOp gAdd Ta Tb) := de_op op_ad od_add ha hb
theorem de_sub (ha : ED X T E a Ta) (hb : ED X T E b Tb) : ED X T E (.BinOp a .Sub b pos) (dOp gSub Ta Tb) := de_op op_sub od_sub ha hb
theorem de_mul (ha : ED X T E a Ta) (hb : ED X T E b Tb) : ED X T E (.BinOp a .Mult b pos) (dOp gMul Ta Tb) := de_op op_ml od_mul ha hb
theorem de_fdiv (ha : ED X T E a Ta) (hb : ED X T E b Tb) : ED X T E (.BinOp a .FloorDiv b pos) (dOp gFdiv Ta Tb) := de_op op_fdivD od_fdiv ha hb
theorem de_mod (ha : ED X T E a Ta) (hb : ED X T E b Tb) : ED X T E (.BinOp a .Mod b pos) (dOp gMod Ta Tb) := de_op op_modN od_mod ha hb
theorem de_pow (ha : ED X T E a Ta) (hb : ED X T E b Tb) : ED X T E (.BinOp a .Pow b pos) (dOp gPow Ta Tb) := de_op op_pow od_pow ha hb
theorem de_idx (ha : ED X T E a Ta) (hb : ED X T E b Tb) (hs : PlainIx b := by exact fun _ _ => rfl) : ED X T E (.Subscript a b pos) (dOp gIx Ta Tb) := de_ix ix_seq od_ix ha hb hs
/-- a comparison's operator: its rule and what it gives -/
structure CmpD (X : Cx) (T : Wd) (op : CmpOp) (g : G2) : Prop where
  ex : ∃ r, OpR X (compareOp op) r ∧ OpD X.K T r g
theorem c_eq {k : Nat} (hr : Room k X.A) : CmpD X T .Eq gEq := ⟨_, op_eqP hr.units, od_eq⟩
theorem c_ne {k : Nat} (hr : Room k X.A) : CmpD X T .NotEq gNe := ⟨_, op_neP hr.units, od_ne⟩
theorem c_lt : CmpD X T .Lt gLt := ⟨_, op_lt, od_lt⟩
theorem c_le : CmpD X T .LtE gLe := ⟨_, op_le, od_le⟩
theorem c_gt : CmpD X T .Gt gGt := ⟨_, op_gt, od_gt⟩
theorem c_ge : CmpD X T .GtE gGe := ⟨_, op_ge, od_ge⟩
theorem c_is : CmpD X T .Is gIs := ⟨_, op_is, od_is⟩
theorem c_isnot : CmpD X T .IsNot gIsNot := ⟨_, op_isnot, od_isnot⟩
theorem de_cm {op : CmpOp} {g : G2} (h : CmpD X T op g) (ha : ED X T E a Ta) (hb : ED X T E b Tb) (hm : behindInMarks op b = false := by rfl) : ED X T E (.Compare a [op] [b] pos) (dOp g Ta Tb) := by
  obtain ⟨r, h1, h2⟩ := h.ex
  exact de_cmp h1 h2 ha hb hm
theorem td_cm {op : CmpOp} {g : G2} (h : CmpD X T op g) (ha : ED X T E a Ta) (hb : ED X T E b Tb) (hm : behindInMarks op b = false := by rfl) : TD X T E (.Compare a [op] [b] pos) (dTest (dOp g Ta Tb)) := by
  obtain ⟨r, h1, h2⟩ := h.ex
  exact td_cmp h1 h2 ha hb hm
theorem de_ch {op op' : CmpOp} {g g' : G2} (h : CmpD X T op g) (h' : CmpD X T op' g') (ha : ED X T E a Ta) (hb : ED X T E b Tb) (hc : ED X T E c Tc) (hm : lastMarks [op, op'] [b, c] = false := by with_unfolding_all rfl) : ED X T E (.Compare a [op, op'] [b, c] pos) (dChain g g' Ta Tb Tc) := by
  obtain ⟨r, h1, h2⟩ := h.ex
  obtain ⟨r', h3, h4⟩ := h'.ex
  exact de_chain h1 h2 h3 h4 ha hb hc hm
theorem td_ch {op op' : CmpOp} {g g' : G2} (h : CmpD X T op g) (h' : CmpD X T op' g') (ha : ED X T E a Ta) (hb : ED X T E b Tb) (hc : ED X T E c Tc) (hm : lastMarks [op, op'] [b, c] = false := by with_unfolding_all rfl) : TD X T E (.Compare a [op, op'] [b, c] pos) (dTest (dChain g g' Ta Tb Tc)) := by
  obtain ⟨r, h1, h2⟩ := h.ex
  obtain ⟨r', h3, h4⟩ := h'.ex
  exact td_chain h1 h2 h3 h4 ha hb hc hm
/-- - a -/
def gNeg (x : Vl) (Q : Vl → Prop) : Prop := match x with
  | .d (.int i) => Q (.d (.int (-i)))
  | _ => False
def dNeg (Ta : DE) : DE := fun xc ρ Q => Ta xc ρ fun x => gNeg x Q
theorem de_neg (ha : ED X T E a Ta) : ED X T E (.UnaryOp .USub a pos) (dNeg Ta) := by
  refine pe_imp (pe_un un_neg ha) fun σ H Q ⟨xc, Fr, H0, ρ, Hd, q, s, w, hx, k⟩ => ⟨xc, Fr, H0, ρ, Hd, _, s, w, hx, fun v x Hd1 H1 s1 b1 ok1 w1 => ?_⟩
  unfold gNeg at w1
  split at w1
  · rename_i i
    exact ⟨i, ok1.int s1 rfl, k _ (.d (.int _)) Hd1 H1 s1 b1 (Dt.int _) w1⟩
  · exact w1.elim
/-- one's own becomes data -/
def frzO (i : Nat) (ρ : DSt) : DSt := match ρ[i]? with
  | some (some (.o d)) => ρ.set i (some (.d d))
  | _ => ρ
def dFrz (i : Nat) (t : DS) : DS := fun e ρ => t e (frzO i ρ)
theorem bd_frz (i : Nat) (h : BD X T E sts t) : BD X T E sts (dFrz i t) := by
  refine pss_imp h fun De σ H ⟨e, Fr, H0, ρ, Hd, s, ok, w⟩ => ?_
  unfold dFrz frzO at w
  split at w
  · rename_i d hd
    obtain ⟨Hd', b, s', _⟩ := s.freeze hd
    exact ⟨e, Fr, H0, _, Hd', s', by rw [List.length_set]; exact ok, w⟩
  · exact ⟨e, Fr, H0, ρ, Hd, s, ok, w⟩
/-! ### targets, short -/
theorem pg_nm {x : Str} (i : Nat) (hN : X.N.Nodup) (hi : X.N[i]? = some x := by rfl) (hx : Loc X.env.scope x := by first | exact Or.inl rfl | exact Or.inr rfl) (hf : X.fn x = true ∨ X.env.scope.names.lookup x = some .local := by first | exact .inl rfl | exact .inr rfl) : PG X (.Name x pos) (gOf X.K (.nm i)) := pg_name hN hi hx hf
/-! ### all, any, sum, sorted, list, tuple -/
def bools? : List D → Option (List Bool)
  | [] => some []
  | .bool b :: r => match bools? r with
    | some bs => some (b :: bs)
    | none => none
  | _ :: _ => none
theorem bools_ok {K : PySem.W.Frag} {H : Hp} : ∀ {vs : List V} {ds : List D} {bs : List Bool}, DtA K H vs ds → bools? ds = some bs → vs = bs.map V.bl
  | _, _, _, .nil, e => by cases e; rfl
  | _, .bool b :: r, bs, .cons h t, e => by
    cases q : bools? r with
    | none => simp [bools?, q] at e
    | some cs =>
      simp [bools?, q] at e
      subst e
      cases h
      rw [bools_ok t q]; rfl
  | _, .none :: r, bs, .cons h t, e => by simp [bools?] at e
  | _, .int _ :: r, bs, .cons h t, e => by simp [bools?] at e
  | _, .str _ :: r, bs, .cons h t, e => by simp [bools?] at e
  | _, .list _ :: r, bs, .cons h t, e => by simp [bools?] at e
  | _, .tuple _ :: r, bs, .cons h t, e => by simp [bools?] at e
  | _, .dict _ :: r, bs, .cons h t, e => by simp [bools?] at e
def ints? : List D → Option (List Int)
  | [] => some []
  | .int b :: r => match ints? r with
    | some bs => some (b :: bs)
    | none => none
  | _ :: _ => none
theorem ints_ok {K : PySem.W.Frag} {H : Hp} : ∀ {vs : List V} {ds : List D} {bs : List Int}, DtA K H vs ds → ints? ds = some bs → vs = bs.map V.int
  | _, _, _, .nil, e => by cases e; rfl
  | _, .int b :: r, bs, .cons h t, e => by
    cases q : ints? r with
    | none => simp [ints?, q] at e
    | some cs =>
      simp [ints?, q] at e
      subst e
      cases h
      rw [ints_ok t q]; rfl
  | _, .none :: r, bs, .cons h t, e => by simp [ints?] at e
  | _, .bool _ :: r, bs, .cons h t, e => by simp [ints?] at e
  | _, .str _ :: r, bs, .cons h t, e => by simp [ints?] at e
  | _, .list _ :: r, bs, .cons h t, e => by simp [ints?] at e
  | _, .tuple _ :: r, bs, .cons h t, e => by simp [ints?] at e
  | _, .dict _ :: r, bs, .cons h t, e => by simp [ints?] at e
theorem ints?_map (ns : List Int) : ints? (ns.map PyData.int) = some ns := by
  induction ns with
  | nil => rfl
  | cons n ns ih => simp [ints?, ih]
theorem bools?_map (ns : List Bool) : bools? (ns.map PyData.bool) = some ns := by
  induction ns with
  | nil => rfl
  | cons n ns ih => simp [bools?, ih]
def gBoolsF (f : List Bool → Bool) (x : Option D) (Q : Vl → Prop) : Prop := match x with
  | some (.list ds) => match bools? ds with
    | some bs => Q (.d (.bool (f bs)))
    | none => False
  | _ => False
def gAll : GN := fun xs Q => match xs with
  | [x] => gBoolsF (fun bs => bs.all id) x.dat Q
  | _ => False
def gAny : GN := fun xs Q => match xs with
  | [x] => gBoolsF (fun bs => bs.any id) x.dat Q
  | _ => False
theorem cd_all : CallD X.K T (rAll X.K) gAll := fun Fr H0 ρ σ Hd H vs xs q Q s hv w k => by
  unfold gAll at w
  split at w
  · rename_i x
    obtain ⟨v, rfl, h⟩ := vls1 hv
    unfold gBoolsF at w
    split at w
    · rename_i ds ex
      split at w
      · rename_i bs eb
        obtain ⟨p1, xs, rfl, h1, a1⟩ := h.list s ex
        have e := bools_ok a1 eb
        subst e
        exact ⟨p1, bs, rfl, SqL.of h1, k _ (.d (.bool _)) Hd H s (Sub.refl _) (Dt.bl _) w⟩
      · exact w.elim
    · exact w.elim
  · exact w.elim
theorem cd_any : CallD X.K T (rAny X.K) gAny := fun Fr H0 ρ σ Hd H vs xs q Q s hv w k => by
  unfold gAny at w
  split at w
  · rename_i x
    obtain ⟨v, rfl, h⟩ := vls1 hv
    unfold gBoolsF at w
    split at w
    · rename_i ds ex
      split at w
      · rename_i bs eb
        obtain ⟨p1, xs, rfl, h1, a1⟩ := h.list s ex
        have e := bools_ok a1 eb
        subst e
        exact ⟨p1, bs, rfl, SqL.of h1, k _ (.d (.bool _)) Hd H s (Sub.refl _) (Dt.bl _) w⟩
      · exact w.elim
    · exact w.elim
  · exact w.elim
def gIntsF (f : List Int → (Vl → Prop) → Prop) (x : Option D) (Q : Vl → Prop) : Prop := match x with
  | some (.list ds) => match ints? ds with
    | some bs => f bs Q
    | none => False
  | _ => False
def gSum : GN := fun xs Q => match xs with
  | [x] => gIntsF (fun bs Q => Q (.d (.int bs.sum))) x.dat Q
  | _ => False
theorem cd_sum : CallD X.K T (rSum X.K) gSum := fun Fr H0 ρ σ Hd H vs xs q Q s hv w k => by
  unfold gSum at w
  split at w
  · rename_i x
    obtain ⟨v, rfl, h⟩ := vls1 hv
    unfold gIntsF at w
    split at w
    · rename_i ds ex
      split at w
      · rename_i bs eb
        obtain ⟨p1, xs, rfl, h1, a1⟩ := h.list s ex
        have e := ints_ok a1 eb
        subst e
        exact ⟨p1, bs, rfl, SqL.of h1, k _ (.d (.int _)) Hd H s (Sub.refl _) (Dt.int _) w⟩
      · exact w.elim
    · exact w.elim
  · exact w.elim
def isort (ns : List Int) : List Int := ns.mergeSort (fun a b => decide (a ≤ b))
theorem isort_perm (ns : List Int) : (isort ns).Perm ns := List.mergeSort_perm ns _
theorem isort_sorted (ns : List Int) : (isort ns).Pairwise (· ≤ ·) := by
  have h := List.pairwise_mergeSort (le := fun (a b : Int) => decide (a ≤ b)) (fun a b c h1 h2 => by simp at *; omega) (fun a b => by simp; omega) ns
  exact h.imp (by intro a b h; simpa using h)
theorem sorted_unique : ∀ {a b : List Int}, a.Perm b → a.Pairwise (· ≤ ·) → b.Pairwise (· ≤ ·) → a = b := fun p h1 h2 => p.eq_of_pairwise (le := fun (a b : Int) => a ≤ b) (fun a b _ _ h1 h2 => Int.le_antisymm h1 h2) h1 h2
theorem dtA_ints {K : PySem.W.Frag} {H : Hp} : ∀ ns : List Int, DtA K H (ns.map V.int) (ns.map PyData.int)
  | [] => .nil
  | n :: ns => .cons (.int n) (dtA_ints ns)
def gSorted : GN := fun xs Q => match xs with
  | [x] => gIntsF (fun bs Q => Q (.d (.list ((isort bs).map .int)))) x.dat Q
  | _ => False
theorem cd_sorted : CallD X.K T (rSortedI X.K) gSorted := fun Fr H0 ρ σ Hd H vs xs q Q s hv w k => by
  unfold gSorted at w
  split at w
  · rename_i x
    obtain ⟨v, rfl, h⟩ := vls1 hv
    unfold gIntsF at w
    split at w
    · rename_i ds ex
      split at w
      · rename_i bs eb
        obtain ⟨p1, xs, rfl, h1, a1⟩ := h.list s ex
        have e := ints_ok a1 eb
        subst e
        refine ⟨p1, bs, rfl, SqL.of h1, fun ns' p hp1 hp2 hp => ?_⟩
        have e2 : ns' = isort bs := sorted_unique (hp1.trans (isort_perm bs).symm) hp2 (isort_sorted bs)
        subst e2
        exact k _ (.d (.list _)) _ _ (s.lay (o := .lst _) hp) (Sub.new (s.keep.free hp)) (Dt.lst upd_same (dtA_ints _)) w
      · exact w.elim
    · exact w.elim
  · exact w.elim
def gListOf : GN := fun xs Q => match xs with
  | [x] => match x.dat with
    | some (.list ds) => Q (.d (.list ds))
    | some (.tuple ds) => Q (.d (.list ds))
    | _ => False
  | _ => False
theorem cd_list : CallD X.K T (fun xs H Q => ∃ p ys, xs = [.ref p] ∧ (SqL X.K H p ys ∨ SqT X.K H p ys) ∧ ∀ l, H l = none → Q (.ref l) (upd H l (.lst ys))) gListOf := fun Fr H0 ρ σ Hd H vs xs q Q s hv w k => by
  unfold gListOf at w
  split at w
  · rename_i x
    obtain ⟨v, rfl, h⟩ := vls1 hv
    split at w
    · rename_i ds ex
      obtain ⟨p1, xs, rfl, h1, a1⟩ := h.list s ex
      exact ⟨p1, xs, rfl, .inl (SqL.of h1), fun p hp => k _ (.d (.list _)) _ _ (s.lay (o := .lst _) hp) (Sub.new (s.keep.free hp)) (Dt.lst upd_same (a1.mono (Sub.new (s.keep.free hp)))) w⟩
    · rename_i ds ex
      obtain ⟨p1, xs, rfl, h1, a1⟩ := h.tup s ex
      exact ⟨p1, xs, rfl, .inr (SqT.of h1), fun p hp => k _ (.d (.list _)) _ _ (s.lay (o := .lst _) hp) (Sub.new (s.keep.free hp)) (Dt.lst upd_same (a1.mono (Sub.new (s.keep.free hp)))) w⟩
    · exact w.elim
  · exact w.elim
def gTupleOf : GN := fun xs Q => match xs with
  | [x] => match x.dat with
    | some (.list ds) => Q (.d (.tuple ds))
    | _ => False
  | _ => False
theorem cd_tuple : CallD X.K T (fun xs H Q => ∃ p ys, xs = [.ref p] ∧ ((SqL X.K H p ys ∧ ∀ l, H l = none → Q (.ref l) (upd H l (.tup ys))) ∨ (SqT X.K H p ys ∧ Q (.ref p) H))) gTupleOf := fun Fr H0 ρ σ Hd H vs xs q Q s hv w k => by
  unfold gTupleOf at w
  split at w
  · rename_i x
    obtain ⟨v, rfl, h⟩ := vls1 hv
    split at w
    · rename_i ds ex
      obtain ⟨p1, xs, rfl, h1, a1⟩ := h.list s ex
      exact ⟨p1, xs, rfl, .inl ⟨SqL.of h1, fun p hp => k _ (.d (.tuple _)) _ _ (s.lay (o := .tup _) hp) (Sub.new (s.keep.free hp)) (Dt.tup upd_same (a1.mono (Sub.new (s.keep.free hp)))) w⟩⟩
    · exact w.elim
  · exact w.elim
/-- the built-ins by name: their rule and what they give -/
structure BltD (X : Cx) (T : Wd) (id : String) (g : GN) : Prop where
  ex : ∃ r, CallR X (.builtin id) r ∧ CallD X.K T r g
structure TyDl (X : Cx) (T : Wd) (id : String) (g : GN) : Prop where
  ex : ∃ r, CallR X (.type id) r ∧ CallD X.K T r g
theorem b_len : BltD X T "len" gLen := ⟨_, call_len, cd_len⟩
theorem b_abs : BltD X T "abs" gAbs := ⟨_, call_abs, cd_abs⟩
theorem b_max2 (hc : X.calm = true := by rfl) : BltD X T "max" gMax2 := ⟨_, call_max2 hc, cd_max2⟩
theorem b_min2 (hc : X.calm = true := by rfl) : BltD X T "min" gMin2 := ⟨_, call_min2 hc, cd_min2⟩
theorem b_all (hc : X.calm = true := by rfl) : BltD X T "all" gAll := ⟨_, cr_all hc, cd_all⟩
theorem b_any (hc : X.calm = true := by rfl) : BltD X T "any" gAny := ⟨_, cr_any hc, cd_any⟩
theorem b_sum (hc : X.calm = true := by rfl) : BltD X T "sum" gSum := ⟨_, cr_sum hc, cd_sum⟩
theorem b_sorted : BltD X T "sorted" gSorted := ⟨_, cr_sortedI, cd_sorted⟩
theorem y_int : TyDl X T "int" gInt1 := ⟨_, call_int1, cd_int1⟩
theorem y_list : TyDl X T "list" gListOf := ⟨_, call_list_of, cd_list⟩
theorem y_tuple : TyDl X T "tuple" gTupleOf := ⟨_, call_tuple_of, cd_tuple⟩
theorem de_b {x : Str} {id : String} {g : GN} (h : BltD X T id g) (hm : X.mg x = none) (ha : AD X T E (e :: es) Al) (hg : Gl X x := by rfl) (hv : bootBuiltins x = some (.builtin id) := by decide +kernel) (hn : x ≠ "__name__" := by decide) (hdb : (x == ("__debug__" : Str)) = false := by decide)
    (he : starEach (e :: es) X.env = (false, eval e X.env) :: starEach es X.env := by rfl) (hpl : (backTo pos (starEach es X.env)).any (·.1) = false := by rfl) : ED X T E (.Call (.Name x p) (e :: es) [] pos) (dCB g Al) := by
  obtain ⟨r, h1, h2⟩ := h.ex
  exact de_callB h1 h2 hm ha hg hv hn hdb he hpl
theorem de_y {x : Str} {id : String} {g : GN} (h : TyDl X T id g) (hm : X.mg x = none) (ha : AD X T E (e :: es) Al) (hg : Gl X x := by rfl) (hv : bootBuiltins x = some (.type id) := by decide +kernel) (hn : x ≠ "__name__" := by decide) (hdb : (x == ("__debug__" : Str)) = false := by decide)
    (he : starEach (e :: es) X.env = (false, eval e X.env) :: starEach es X.env := by rfl) (hpl : (backTo pos (starEach es X.env)).any (·.1) = false := by rfl) : ED X T E (.Call (.Name x p) (e :: es) [] pos) (dCB g Al) := by
  obtain ⟨r, h1, h2⟩ := h.ex
  exact de_callTy h1 h2 hm ha hg hv hn hdb he hpl
end
end DL

/-! Data: while an exception is handled: a list walked, truths counted. -/
namespace DL
open PySem L2 LamX
section
variable {prog : Program} {w : World} {A : Around} {E : Value → Shared → Prop} {s : Shared}
open Builtin in
theorem next_list_end_hot {it l ex : Addr} {i : Nat} {its : Array Value} {Q : Option Value → Shared → Prop} (hot : HotX.HotAt A ex s.heap) (nx : ex ≠ it)
    (a1 : s.heap.IsListIter it l i) (a2 : s.heap.IsList l its) (a3 : its[i]? = none) (k : ∀ h', (∀ b o, b ≠ it → s.heap.get? b = some o → h'.get? b = some o) → Q none { s with heap := h' }) :
    wpAny (model prog w) A (pyNext (.ref it)) Q E s := by
  obtain ⟨ob, b1, b2, b3⟩ := id a1
  obtain ⟨ol, c1, _, nl, c2⟩ := a2
  obtain ⟨hh, o1, vs1, d1, d2, d3⟩ := hot
  unfold pyNext
  refine wpAny_bind (wpAny_attempt (wpAny_callSpecial?_slot (name := Str.ofString "__next__") a1.typeIs slot_listiter_next (wpAny_call_entry slot_listiter_next a1.typeIs entry_listiter_next ?_ (args_listiter_next _))))
  refine wpAny_bind (m := field (.ref it) 0) (wpAny_field b1 b3 (x := .ref l) rfl ?_)
  have q0 : ¬ ((Value.ref l == Value.none) = true) := Bool.false_ne_true
  show wpAny _ A.in1 (if (Value.ref l == Value.none) = true then _ else _) _ _ _
  rw [if_neg q0]
  refine wpAny_bind (m := field (.ref it) 1) (wpAny_field b1 b3 (x := .int i 0) rfl (wpAny_bind (m := seqItems? (.ref l)) (wpAny_seqItems c1 c2 ?_)))
  simp only [Int.toNat_natCast, a3]
  refine wpAny_bind (wpAny_rule (wpAny_bind (wpAny_setField b1 b3 (by simp) (wpAny_bind (m := newExc (.type "StopIteration") []) ?_))))
  simp only [newExc, newTuple]
  refine wpAny_bind (wpAny_newObj_type (wpAny_bind (m := firstArgMember _ _) (wpAny_of_eq (a := Value.none) (by first | rfl | (simp only [firstArgMember]; rfl)) (wpAny_newObj_type ?_ (by size_fits)))) (by size_fits))
  have e1 : ∀ b o, b ≠ it → s.heap.get? b = some o → (s.heap.update it (Obj.mapFields (·.setIfInBounds 0 Value.none))).get? b = some o := fun b o hb q => (Heap.get?_update_other _ _ (Ne.symm hb)).trans q
  have e2 := Heap.get?_push_of_some { cls := .type "StopIteration", data := .fields (#[.ref (s.heap.update it (Obj.mapFields (·.setIfInBounds 0 Value.none))).objs.size, .none, .none, .none, .bool false, .none] ++ ownMembersOf (.type "StopIteration") []) } (Heap.get?_push_of_some { cls := .type "tuple", data := .seq ([] : List Value).toArray } (e1 ex o1 nx d1))
  refine HotX.raiseNew_hot ⟨hh, o1, vs1, e2, d2, d3⟩ (Nat.ne_of_lt (Heap.lt_size (Heap.get?_push_of_some _ (e1 ex o1 nx d1)))) (Heap.get?_push_size _ rfl) rfl (by first | (simp; done) | (simp; omega) | (simp only [Array.size_append]; simp; omega)) ?_
  refine wpAny_bind (wpAny_isInstance (T := "StopIteration") (b := true) ⟨_, Heap.get?_update_self _ (Heap.get?_push_size _ rfl) rfl, rfl⟩ isSubtype_stop (wpAny_pure (k _ fun b o hb q => ?_)))
  have e3 := Heap.get?_push_of_some { cls := .type "tuple", data := .seq ([] : List Value).toArray } (e1 b o hb q)
  rw [Heap.get?_update_other _ _ (Nat.ne_of_gt (Heap.lt_size e3))]
  exact Heap.get?_push_of_some _ e3
/-- a list walked there -/
theorem walks_hot {ex I ax : Addr} {oe : Obj} {vs : Array Value} (hh : A.handled = some (.ref ex)) (d2 : oe.data = .fields vs) (d3 : vs[2]? = some .none) (ne : ax ≠ I) (nx : ex ≠ I) (its : Array Value) :
    Walks prog w A I [I, ax, ex] [I] its.size (fun i v => its[i]? = some v) (fun i h => h.IsListIter I ax i ∧ h.IsList ax its ∧ h.get? ex = some oe) where
  sub := fun b hb => by rw [List.mem_singleton.mp hb]; exact List.mem_cons_self
  frame := fun _ _ _ st hk => ⟨st.1.at fun o e => hk I (by simp) o e, st.2.1.at fun o e => hk ax (by simp) o e, hk ex (by simp) _ st.2.2⟩
  item := fun i s Q E hi st hQ => by
    refine wpAny_pyNext_list_item st.1 st.2.1 (x := its[i]) (by simp [hi]) fun h' p1 p2 => ?_
    exact hQ _ h' s.toks (by simp [hi]) ⟨p1, st.2.1.extBut p2.extBut ne, p2.extBut _ _ nx st.2.2⟩ fun b o hb e => p2.extBut b o (fun z => hb (by simp [z])) e
  done := fun s Q E st hQ => next_list_end_hot ⟨hh, oe, vs, st.2.2, d2, d3⟩ nx st.1 st.2.1 (by simp) fun h' k => hQ h' s.toks fun b o hb e => k b o (fun z => hb (by simp [z])) e
  self := fun _ _ _ _ st hQ => wpAny_pyIter_listiter st.1 hQ
end
end DL

/-! Data: sum([int(flag) for flag in flags]) while an exception is handled. -/
namespace DL
open PySem L2 LamX
open PyProof.Rows (envOfC)
def cntB : List Bool → Int
  | [] => 0
  | b :: r => (if b then 1 else 0) + cntB r
theorem cntB_bounds : ∀ bs : List Bool, 0 ≤ cntB bs ∧ cntB bs ≤ bs.length
  | [] => ⟨Int.le_refl _, Int.le_refl _⟩
  | b :: r => by
    have h := cntB_bounds r
    simp only [cntB, List.length_cons]
    cases b <;> simp <;> omega
theorem preSum_cnt (bs : List Bool) : ∀ n, n ≤ bs.length → preSum (fun i => if bs.getD i false then 1 else 0) n = cntB (bs.take n)
  | 0, _ => by simp [preSum, cntB]
  | n + 1, h => by
    have ih := preSum_cnt bs n (by omega)
    have e : bs.take (n + 1) = bs.take n ++ [bs[n]] := (List.take_append_getElem (by omega)).symm
    have c : ∀ (a : List Bool) (b : Bool), cntB (a ++ [b]) = cntB a + (if b then 1 else 0) := by
      intro a b
      induction a with
      | nil => simp [cntB]
      | cons x a ih => simp only [List.cons_append, cntB, ih]; omega
    rw [e, c]
    simp only [preSum] at ih ⊢
    rw [ih]
    have q : bs.getD n false = bs[n] := by simp [List.getD, List.getElem?_eq_getElem (show n < bs.length by omega)]
    rw [q]
section
variable {X : Cx}
def tCntH (K : PySem.W.Frag) (ti : TE) : TE := fun σ H Q => ti σ H fun v H1 => ∃ (a : Addr) (bs : List Bool), v = .ref a ∧ SqL K H1 a (bs.map V.bl) ∧ bs.length ≤ 1000 ∧ Q (.int (cntB bs)) H1
theorem pe_cntH {p0 : Addr × Obj} (hot : L2H.Hot1 X.A p0) (hp0 : p0 ∈ X.pn) {x : Str} {iter : Expr} {ti : TE} {scope : Scope} {p q1 q2 q3 q4 q5 q6 : Pos} (hi : PE X iter ti) (hg : Gl X "sum") (hm : X.mg "sum" = none) (hmi : X.mg "int" = none)
    (hfree : ∀ y ∈ scope.names, y.2 ≠ .free) (hcell : ∀ y ∈ scope.names, y.2 ≠ .cell) (hkind : scope.kind = .function) (hnames : ∀ y ∈ scope.names, y.2 = .local → scope.names.lookup y.1 = some .local) (hx : scope.names.lookup x = some .local) (hgi : scope.names.lookup ("int" : Str) = some .globalImplicit)
    (hxd : (x == ("__debug__" : Str)) = false) (hs : ∀ v, foldedSetIterable iter X.env v = pure v) (hst : starEach [.ListComp (.Call (.Name "int" q1) [.Name x q2] [] q3) [⟨.Name x q4, iter, [], 0⟩] scope q5] X.env = (false, eval (.ListComp (.Call (.Name "int" q1) [.Name x q2] [] q3) [⟨.Name x q4, iter, [], 0⟩] scope q5) X.env) :: starEach [] X.env)
    (hst2 : ∀ C, starEach [.Name x q2] (compEnv scope C X.env) = (false, eval (.Name x q2) (compEnv scope C X.env)) :: starEach [] (compEnv scope C X.env)) :
    PE X (.Call (.Name "sum" p) [.ListComp (.Call (.Name "int" q1) [.Name x q2] [] q3) [⟨.Name x q4, iter, [], 0⟩] scope q5] [] q6) (tCntH X.K ti) := by
  refine ⟨fun pins s σ H Q I h => ?_⟩
  obtain ⟨hh, vs, d2, d3⟩ := hot
  refine wpAny_Call_Name_kw (ld_blt I hg hm (show bootBuiltins "sum" = some (.builtin "sum") by decide +kernel) ?_)
  refine PyProof.Rows.callWith_builtin1 ?_ hst rfl
  rw [hst]
  refine Calls.spliced_cons ?_
  refine wpAny_ListComp_walk (fun _ => true) (fun u y => ∃ b t, u = .bool b ∧ y = .int (if b then 1 else 0) t) hfree hcell hkind hnames hx ?_ hs
  refine thn (hi.run pins s σ H _ I h) fun u s1 ⟨v, H1, I1, rv, a, bs, ev, hsq, hbl, hQ⟩ => ?_
  subst ev
  obtain rfl : u = Value.ref a := rv
  obtain ⟨its, r1, pl, hz⟩ := I1.list hsq
  have eits : its = bs.map Value.bool := r1.bls
  have hpin := I1.pin p0 (List.mem_append_left _ hp0)
  have hex := hpin.1
  refine iter_any pl.isList fun s2 e2 st ne => ?_
  subst e2
  have nx : p0.1 ≠ s1.heap.objs.size := Nat.ne_of_lt (Heap.lt_size hex)
  refine ⟨_, _, _, _, _, _, rfl, walks_hot (oe := p0.2) hh d2 d3 ne nx its.toArray, ?_, ⟨st.1, st.2, Heap.get?_push_of_some _ hex⟩, ?_, ⟨?_, ?_⟩, ?_⟩
  · rw [List.size_toArray, ← r1.length]; exact hz
  · intro b hb
    have ha := pl.isList
    obtain ⟨oa, ha, _⟩ := ha
    simp only [List.mem_cons, List.mem_nil_iff, or_false] at hb
    show b < (s1.heap.push _).objs.size
    rw [Heap.size_push]
    rcases hb with rfl | rfl | rfl
    · exact Nat.lt_succ_self _
    · exact Nat.lt_succ_of_lt (Heap.lt_size ha)
    · exact Nat.lt_succ_of_lt (Heap.lt_size hex)
  · intro C i v s3 m3 E' hv hn hm3 hk htk
    exact wpAny_tests_nil ⟨rfl, s3.heap, s3.toks, rfl, fun _ _ e => e⟩
  · intro C i v s3 m3 E' hv hpv hn hm3 hk htk
    have hv : its.toArray[i]? = some v := hv
    obtain ⟨b, rfl⟩ : ∃ b, v = .bool b := by
      rw [eits] at hv
      simp only [List.getElem?_toArray, List.getElem?_map] at hv
      cases e : bs[i]? with
      | none => rw [e] at hv; cases hv
      | some b => rw [e] at hv; cases hv; exact ⟨b, rfl⟩
    have old : ∀ b o, X.base.get? b = some o → s3.heap.get? b = some o := fun b o e => by
      have e1 := I1.bk b o e
      exact hk b o (fun z => by rw [List.mem_singleton.mp z] at e1; exact Nat.lt_irrefl _ (Heap.lt_size e1)) (Heap.get?_push_of_some _ e1)
    obtain ⟨mb, h1, h2⟩ := I1.mod.blt
    refine wpAny_Call_Name_kw (Calls.Name_function_global hkind hgi (Calls.loadGlobal_builtin (by show s3.heap.Ns X.env.globals X.mg; rw [I1.ok.glob]; exact I1.mod.glob.keeps old) hmi (by show s3.heap.Ns X.env.builtins mb; rw [I1.ok.blt]; exact h1.keeps old) ((h2 "int" (by decide)).trans (show bootBuiltins "int" = some (.type "int") by decide +kernel)) ?_) (by decide))
    refine PyProof.Rows.callWith_type1 ?_ (hst2 C) rfl
    rw [hst2 C]
    refine Calls.spliced_cons (wpAny_Name (wpAny_loadName_local hkind hx hn hm3 ?_) hxd)
    refine Calls.spliced_nil (call_int_bool ⟨⟨b, _, rfl, rfl⟩, s3.heap, s3.toks + 1, rfl, fun _ _ e => e⟩)
  · intro Dl h' tk ys vs' hD hl hpl hlen hP hF hk
    refine Calls.spliced_nil ?_
    have hvs : vs' = bs.map Value.bool := by
      refine List.ext_getElem? fun j => ?_
      by_cases hj : j < vs'.length
      · have hq := hP j vs'[j] (List.getElem?_eq_getElem hj)
        have hq : its.toArray[j]? = some vs'[j] := hq
        rw [List.getElem?_eq_getElem hj, ← hq, eits]
        simp
      · have l1 : vs'.length = bs.length := by rw [hlen, List.size_toArray, eits, List.length_map]
        rw [List.getElem?_eq_none (by omega), List.getElem?_eq_none (by rw [List.length_map]; omega)]
    have hys : ∀ (i : Nat) (v : Value), ys[i]? = some v → ∃ t, v = .int (if bs.getD i false then 1 else 0) t := by
      have hF2 : Paired (fun u y => ∃ b t, u = .bool b ∧ y = Value.int (if b then 1 else 0) t) (bs.map Value.bool) ys.toList := by
        have := hF
        rw [hvs, List.filter_eq_self.mpr (by intros; rfl)] at this
        exact this
      have gen : ∀ (bs : List Bool) (l : List Value), Paired (fun u y => ∃ b t, u = .bool b ∧ y = Value.int (if b then 1 else 0) t) (bs.map Value.bool) l → ∀ (i : Nat) (v : Value), l[i]? = some v → ∃ t, v = .int (if bs.getD i false then 1 else 0) t := by
        intro bs
        induction bs with
        | nil => intro l hl i v e; cases hl; simp at e
        | cons b bs ih =>
          intro l hl i v e
          cases hl with
          | cons hr ht =>
            cases i with
            | zero =>
              simp at e
              subst e
              obtain ⟨b', t, e1, e2⟩ := hr
              cases e1
              exact ⟨t, by simpa using e2⟩
            | succ i =>
              have := ih _ ht i v (by simpa using e)
              simpa using this
      intro i v e
      exact gen bs ys.toList hF2 i v (by simpa using e)
    have hysz : ys.size = bs.length := by
      have := Paired.length hF
      rw [hvs, List.filter_eq_self.mpr (by intros; rfl), List.length_map, Array.length_toList] at this
      exact this.symm
    have hDI : p0.1 ≠ Dl := fun z => by
      have z1 := Heap.get?_push_of_some { cls := .type "list_iterator", data := .fields #[.ref a, .int 0 0] } hex
      rw [z] at z1
      have z2 : (s1.heap.push { cls := .type "list_iterator", data := .fields #[.ref a, .int 0 0] }).get? Dl = none := hD
      rw [z1] at z2; cases z2
    have hex' : h'.get? p0.1 = some p0.2 := hk _ _ (fun z => nx (List.mem_singleton.mp z)) (Heap.get?_push_of_some _ hex)
    refine call_sum_walk ?_
    refine iter_any hl fun s4 e4 st4 ne4 => ?_
    subst e4
    have nx4 : p0.1 ≠ h'.objs.size := Nat.ne_of_lt (Heap.lt_size hex')
    refine ⟨_, _, _, _, _, _, fun i => if bs.getD i false then 1 else 0, rfl, walks_hot (A := X.A.in1) (oe := p0.2) hh d2 d3 ne4 nx4 ys, ⟨st4.1, st4.2, Heap.get?_push_of_some _ hex'⟩, ?_, hys, ?_, ?_⟩
    · intro b hb
      obtain ⟨ol, hol, _⟩ := hl
      simp only [List.mem_cons, List.mem_nil_iff, or_false] at hb
      show b < (h'.push _).objs.size
      rw [Heap.size_push]
      rcases hb with rfl | rfl | rfl
      · exact Nat.lt_succ_self _
      · exact Nat.lt_succ_of_lt (Heap.lt_size hol)
      · exact Nat.lt_succ_of_lt (Heap.lt_size hex')
    · intro j hj
      rw [hysz] at hj
      have c1 := preSum_cnt bs (j + 1) (by omega)
      have c2 := cntB_bounds (bs.take (j + 1))
      rw [List.length_take] at c2
      have c1' : preSum (fun i => if bs.getD i false = true then 1 else 0) (j + 1) = cntB (bs.take (j + 1)) := c1
      unfold InLong
      rw [c1']
      refine ⟨?_, by omega, by omega⟩
      show -(2 ^ 63) ≤ (if bs.getD j false = true then (1 : Int) else 0) ∧ (if bs.getD j false = true then (1 : Int) else 0) < 2 ^ 63
      by_cases hb : bs.getD j false = true
      · rw [if_pos hb]; decide
      · rw [if_neg hb]; decide
    · intro h2 tk2 t2 hk2
      have c1 := preSum_cnt bs bs.length (Nat.le_refl _)
      rw [List.take_length] at c1
      rw [hysz]
      have c1' : preSum (fun i => if bs.getD i false = true then 1 else 0) bs.length = cntB bs := c1
      rw [c1']
      refine ⟨.int (cntB bs), H1, ?_, ⟨_, rfl⟩, hQ⟩
      refine I1.kept (t' := tk2) fun b o e => hk2 b o (fun z => ?_) (Heap.get?_push_of_some _ (hk b o (fun z => ?_) (Heap.get?_push_of_some _ e)))
      · rw [List.mem_singleton.mp z] at e
        have e5 := hk _ _ (fun z2 => by
          have := List.mem_singleton.mp z2
          rw [this] at e
          exact Nat.lt_irrefl _ (Heap.lt_size e)) (Heap.get?_push_of_some { cls := .type "list_iterator", data := .fields #[.ref a, .int 0 0] } e)
        exact Nat.lt_irrefl _ (Heap.lt_size e5)
      · rw [List.mem_singleton.mp z] at e
        exact Nat.lt_irrefl _ (Heap.lt_size e)
end
end DL

/-! Data: told(lambda: ..), the word of a refusal. -/
namespace DL
open PySem L2 LamX
open PyProof.Rows (envOfC)
section
variable {K : PySem.W.Frag} {T : Wd} {Fr H0 : Hp} {ρ : DSt} {σ : St} {Hd H : Hp}
theorem Sat.widenT {H' : Hp} (s : Sat K T Fr H0 ρ σ Hd H) (e : ExtN H H') (t : Tabs T.tb H') : Sat K T Fr H0 ρ σ Hd H' := by
  refine ⟨s.len, s.base, fun b o q => e b o (s.keep b o q) (fun ps z => s.ntb b ps (by rw [q, z])), s.ntb, t, fun b o q => ?_, fun i u q => ?_, s.sep⟩
  · obtain ⟨h0, h1, h2⟩ := s.frame b o q
    exact ⟨h0, e b o h1 h0, h2⟩
  · obtain ⟨v, h1, h2⟩ := s.slot i u q
    exact ⟨v, h1, h2.ext (Sub.refl _) fun b o hb ho hn hf => ⟨hb, e b o ho hn, hf⟩⟩
theorem Sat.widen {H' : Hp} (s : Sat K T Fr H0 ρ σ Hd H) (e : Sub H H') : Sat K T Fr H0 ρ σ Hd H' := s.widenT (ExtN.of e) (s.tabs.ext e)
end
/-! ### a def called while an exception is handled: that exception is known -/
section
variable {X : Cx} {p : Addr × Obj}
theorem pe_hot {x : Str} {f : Addr} {k : Nat} {N ps : List Str} {qual : Str} {params : Arguments} {body : List Stmt} {scope : Scope} {kV doc pm cdv ct oc : Value} {an od : Option Addr} {osl : Array (Option Value)} {e : Expr} {es : List Expr} {t : TA} {q pos : Pos} {sp : List V → Hp → VK → Prop}
    (hot : L2H.Hot1 X.A p) (hp : p ∈ X.pn) (hg : Gl X x) (hm : X.mg x = some (.ref f)) (hk : PySem.W.keepIn X.K (.ref f) = true)
    (lk : X.K.lookup f = some ⟨oc, od, .func (PySem.W.fnOf x qual params body scope .none kV doc pm an cdv ct), osl⟩) (hcd : PySem.W.codeIn X.K cdv qual = true) (S : FnScope N ps scope) (hb : Binds X.K (PySem.W.fnOf x qual params body scope .none kV doc pm an cdv ct) ps [])
    (hr : L2H.RoomH (k + 1) X.A) (hl : ∀ vs H Q, sp vs H Q → vs.length = ps.length)
    (hbody : ∀ (A : Around) (outer : List Env) (s : Shared) (H : Hp) (vs : List V) (Q : VK), L2H.Hot1 A p → L2H.RoomH k (A.deeper (envOfC qual scope s.heap.objs.size f cdv)) → sp vs H Q →
      ∃ u, PSs (L2H.cxH C8.CX0 X.prog X.w X.K X.mg X.base N qual scope f cdv A outer s H C8.E0 p).nox body u ∧ u { nx := fun _ H' => Q .non H', rt := Q } (L2.start N vs) H)
    (ha : PA X (e :: es) t) (he : starEach (e :: es) X.env = (false, eval e X.env) :: starEach es X.env := by rfl) (hpl : (backTo pos (starEach es X.env)).any (·.1) = false := by rfl) (hdb : (x == ("__debug__" : Str)) = false := by decide) :
    PE X (.Call (.Name x q) (e :: es) [] pos) (fun σ H Q => t σ H fun vs H1 => sp vs H1 Q) := by
  refine ⟨fun pins s σ H Q I h => wpAny_Call_Name_kw (ld_glob I hg hm ?_ hdb)⟩
  refine PySem.W.callWith_K (h₀ := X.base) I.ok.mod.kin hk (thn (ha.run pos pins s σ H _ I h) fun us s1 ⟨vs, H1, I1, r, w1⟩ => ⟨I1.kIn, ?_⟩) he hpl
  have P1 := I1.pin p (List.mem_append_left _ hp)
  have hpin : L2H.PinOk X.stack H1 s1 p := ⟨P1.1, P1.2.1, fun z => (List.mem_cons.mp (I1.stkSub p.1 z)).elim P1.2.2.1 P1.2.2.2.1, P1.2.2.2.2⟩
  have e0 := I1.env0
  have lv : vs.length = ps.length := hl _ _ _ w1
  have bnd := hb s1 us I1.kIn (by rw [List.append_nil, ← r.length]; exact lv)
  rw [List.append_nil] at bnd
  have KX : X.K.In s1.heap := I1.kIn
  have lim : s1.heap.NoLimit := I1.nolimit
  have rc : codeAny (model X.prog X.w) X.A (.call (.ref f) ⟨us, []⟩) (CR C8.CX0 X.stack X.prog X.w H1 s1 Q C8.E0) s1 := by
    refine codeAny_call_function hr.depth (KX _ _ lk) rfl S.co S.gen rfl (PySem.W.codeRec_of KX hcd) (bnd _ _ _ _ ?_)
    refine wpAny_newFunctionEnv_cells S.kind (fun y hy => ?_) fun env hen s2 x2 => ?_
    · rcases S.par y.1 (List.of_mem_zip hy).1 with z | z
      · exact .inl z
      · exact .inr ⟨z, PySem.W.cellsFrom_some _ _ _ (.inl z)⟩
    subst hen
    refine ⟨lim.keeps x2.toInCall.keep, codeAny_func ?_⟩
    obtain ⟨u, hu, hq⟩ := hbody X.A X.stack s1 H1 vs Q hot (hr.deeper _) w1
    have J : L2.Inv (L2H.cxH C8.CX0 X.prog X.w X.K X.mg X.base N qual scope f cdv X.A X.stack s1 H1 C8.E0 p) [] (L2.start N vs) H1 s2 := L2H.inv_startH S hpin e0 lv r x2
    refine wpAny_mono (hu.nox.run [] s2 (L2.start N vs) H1 _ J hq) (fun fl s' hs => ?_) fun _ _ z => z
    cases fl with
    | ret u =>
      obtain ⟨v, σ', H', J', rv, w'⟩ := hs
      exact ⟨v, H', J'.os, J'.bare, J'.base, J'.hok, rv, w'⟩
    | next =>
      obtain ⟨σ', H', J', w'⟩ := hs
      exact ⟨V.non, H', J'.os, J'.bare, J'.base, J'.hok, rfl, w'⟩
    | brk => obtain ⟨_, _, _, z⟩ := hs; exact z.elim
    | cont => obtain ⟨_, _, _, z⟩ := hs; exact z.elim
  refine wpAny_call (codeAny_mono rc fun r s' hq => ?_)
  cases r with
  | error e => exact (show False from hq).elim
  | ok fl =>
    cases fl with
    | ret u => exact I1.after hq
    | next => exact (show False from hq).elim
    | brk => exact (show False from hq).elim
    | cont => exact (show False from hq).elim
/-- isinstance(e, C) of that exception -/
theorem call_isH {a C : Addr} {oe : Obj} (hp : (a, oe) ∈ X.pn) (F : ExcC X.K C) (h1 : oe.cls = .ref C) (h2 : oe.dict = none) (hf : ∃ vs, oe.data = .fields vs) : CallR X (.builtin "isinstance") (rIsE X.K C a) := by
  intro pins s σ H xs us Q I r ⟨c, cv, b, ex, hcv, e, q⟩
  subst ex
  obtain ⟨u1, u2, rfl, r1, r2⟩ := vals2 r
  have e2 := hcv _ r2
  subst e2
  obtain rfl : u1 = Value.ref a := r1
  have hg := (I.pin (a, oe) (List.mem_append_left _ hp)).1
  obtain ⟨vs, hv⟩ := hf
  have J : PySem.W.InstAt s.heap a oe C none := by
    obtain ⟨oc, od, oda, osl⟩ := oe
    dsimp only at h1 h2 hv
    subst h1 h2 hv
    exact ⟨hg, rfl, rfl, trivial⟩
  exact PySem.W.kia_one (PySem.W.handS_kitx_exc F.hg F.hk F.hs F.hd F.ha F.hn F.ht F.hm) I.kIn J e (fun z => nomatch z) fun tk => ⟨.bl b, H, I.kept (t' := tk) fun _ _ z => z, rfl, q⟩
end
/-! ### the lambda's body -/
abbrev lamN (X : Cx) (A : Around) (outer : List Env) (s : Shared) (H : Hp) (E : XK) (scope : Scope) (f c' : Addr) : Cx :=
  (lamCx X A outer s H E scope f c').wish fun e s' => wpAny (model X.prog X.w) (A.deeper (lamEnv X scope s.heap.objs.size f c')) (leaving (lamEnv X scope s.heap.objs.size f c') e) (fun _ s'' => L2N.CX X.prog X.w outer H s E e s'') (fun e' s'' => L2N.CX X.prog X.w outer H s E e' s'') s'
section
variable {X : Cx} {pins : List (Addr × Obj)} {σ : L2.St} {H HZ : Hp} {s s1 : Shared}
/-- x(), in the def that got the lambda -/
theorem pe_deed {Eg : XK} {Ng : List Str} {qg : Str} {sg : Scope} {g f c' : Addr} {cdg pm ctv : Value} {params : Arguments} {body : Expr} {scope : Scope} {k i : Nat} {a : Str} {pn : List (Addr × Obj)} {xe : Value → Shared → Prop} {W : WX} {E : XK} {tb : TE} {p1 p2 : Pos}
    (I : L2.Inv X pins σ H s) (L : LamS X.env.scope scope) (hf : s.heap.get? f = some (PySem.W.kla_obj "<lambda>" (X.env.qual ++ "<lambda>") params body scope (cloFrom X.env.cells scope.names []) pm c' ctv)) (hfn : H f = none) (hfr : f ∉ frs X.stack)
    (hbind : bindArgs (PySem.W.kla_fn "<lambda>" (X.env.qual ++ "<lambda>") params body scope (cloFrom X.env.cells scope.names []) pm (.ref c') ctv) ⟨[], []⟩ = pure [])
    (tk : L2N.Takes ((cxOf C8.CX0 X.prog X.w X.K X.mg X.base Ng qg sg g cdg X.A X.stack s H Eg).nox.tr pn xe) W) (hW : ∀ cls d σ' H', E cls d H' → W cls d σ' H') (hr : Room (k + 1) (X.A.deeper (envOfC qg sg s.heap.objs.size g cdg)))
    (hbody : ∀ (A : Around) (outer : List Env) (s : Shared) (H : Hp), Room k (A.deeper (lamEnv X scope s.heap.objs.size f c')) → PE (lamN X A outer s H E scope f c') body tb)
    (hN : Ng[i]? = some a) (hv : Vis sg a) (hd : (a == ("__debug__" : Str)) = false := by decide) (hcd : (a == ("__classdict__" : Str)) = false := by decide) :
    PE ((cxOf C8.CX0 X.prog X.w X.K X.mg X.base Ng qg sg g cdg X.A X.stack s H Eg).nox.tr pn xe) (.Call (.Name a p1) [] [] p2)
      (fun σZ HZ Q => σZ[i]? = some (some (.ref f)) ∧ HZ c' = some (CodeO c' (X.env.qual ++ "<lambda>")) ∧ tb σ HZ Q) := by
  refine ⟨fun pinsZ sZ σZ HZ Q IZ ⟨w1, w2, w3⟩ => ?_⟩
  have hvar := (pe_var (X := (cxOf C8.CX0 X.prog X.w X.K X.mg X.base Ng qg sg g cdg X.A X.stack s H Eg).nox.tr pn xe) (pos := p1) (i := i) hN hv hd hcd).run pinsZ sZ σZ HZ (fun v H1 => v = .ref f ∧ H1 = HZ) IZ ⟨.ref f, w1, rfl, rfl⟩
  refine wpAny_Call_Name_kw (thn hvar fun u s1 ⟨v, H1, I1, r1, ev, eH⟩ => ?_)
  subst ev
  subst eH
  obtain rfl : u = Value.ref f := r1
  have hf1 : s1.heap.get? f = some (PySem.W.kla_obj "<lambda>" (X.env.qual ++ "<lambda>") params body scope (cloFrom X.env.cells scope.names []) pm c' ctv) := I1.base.keep f _ hf hfn hfr (fun z => nomatch (show f ∈ ([] : List Addr) from z))
  refine PySem.W.callWith_F0 ⟨_, _, _, _, hf1⟩ ?_
  have un : Un (frs X.stack) [] H H1 s.heap s1.heap := I1.base
  obtain ⟨⟨oc, vs, t, hoc, hdc, hvc⟩, _, _⟩ := I1.hok c' _ w2
  have rc : codeAny (model X.prog X.w) (X.A.deeper (envOfC qg sg s.heap.objs.size g cdg)) (.call (.ref f) ⟨[], []⟩) (CR (L2N.CX X.prog X.w) (envOfC qg sg s.heap.objs.size g cdg :: X.stack) X.prog X.w H1 s1 Q E) s1 := by
    refine PySem.W.kla_callFunE hr.depth hf1 rfl L.co L.gen rfl ⟨c', oc, vs, t, rfl, hoc, hdc, hvc⟩ ?_
    rw [hbind]
    refine wpAny_pure (wpAny_newFunctionEnv (fun y hy => (L.own y hy).2) (fun y hy => absurd hy (by simp)) (fun h2 hns hsb => ⟨I1.nolimit.fresh _ hsb, ?_⟩) L.kind)
    show codeAny _ _ (.expr body (lamEnv X scope s1.heap.objs.size f c')) _ _
    have kp : ∀ b o, s1.heap.get? b = some o → h2.get? b = some o := fun b o e => hsb.extBut b o (Nat.ne_of_lt (Heap.lt_size e)) (Heap.get?_push_of_some _ e)
    have J : L2.Inv (lamCx X (X.A.deeper (envOfC qg sg s.heap.objs.size g cdg)) (envOfC qg sg s.heap.objs.size g cdg :: X.stack) s1 H1 E scope f c') [] σ H1 { s1 with heap := h2, toks := s1.toks + ([] : List (Str × Value)).length } :=
      lam_start2 I L I1.env0 hr.hd un hns kp
    refine PySem.W.kla_codeExpr (wpAny_mono ((hbody _ _ s1 H1 (hr.deeper _)).run [] _ _ H1 Q (J.wish _) w3) (fun v s' hq => ?_) fun e s' hq => hq)
    obtain ⟨w', H', J', rv, q⟩ := hq
    exact ⟨w', H', J'.os, J'.bare, J'.base, J'.hok, rv, q⟩
  have hx : Passes (L2N.CX X.prog X.w) ((cxOf C8.CX0 X.prog X.w X.K X.mg X.base Ng qg sg g cdg X.A X.stack s H Eg).nox.tr pn xe) E := L2N.passes_call tk hW
  refine wpAny_call (codeAny_mono rc fun r s' hq => ?_)
  cases r with
  | error e => exact hx pinsZ σZ H1 s1 e s' I1 hq
  | ok fl =>
    cases fl with
    | ret u => exact I1.after hq
    | next => exact (show False from hq).elim
    | brk => exact (show False from hq).elim
    | cont => exact (show False from hq).elim
end
end DL

/-! Data: told(lambda: ..): what the deed tells, or its refusal's name. -/
namespace DL
open PySem L2 LamX
open PyProof.Rows (envOfC)
def dTold (cs : List Str) (Te : DE) : DE := fun _ ρ Q => Te (fun c => cs.contains c = true ∧ Q (.d (.str c))) ρ Q
/-- the word of a refusal, asked while it is handled -/
def WordsOk (P : Program) (w : World) (K : PySem.W.Frag) (mg : Str → Option Value) (base : Heap) (T : Wd) (cs : List Str) : Prop :=
  ∀ (Y : Cx), Y.prog = P → Y.w = w → Y.K = K → Y.mg = mg → Y.base = base → ∀ (a : Addr) (oe : Obj) (c : Str), (a, oe) ∈ Y.pn → L2H.Hot1 Y.A (a, oe) → L2H.RoomH 3 Y.A → Gl Y "_law_word" → cs.contains c = true → oe.cls = .ref (T.ca c) → oe.dict = none → (∃ vs, oe.data = .fields vs) →
    ∀ (e : Expr) (te : TE) (p pos : Pos), PE Y e te → starEach [e] Y.env = (false, eval e Y.env) :: starEach [] Y.env → PE Y (.Call (.Name "_law_word" p) [e] [] pos) (fun σ H Q => te σ H fun v H1 => v = .ref a ∧ ∀ H', Sub H1 H' → Q (.str c) H')
theorem takesN0 {X : Cx} : L2N.Takes X (fun _ _ _ _ => False) := fun _ _ ⟨_, _, _, _, _, _, _, _, _, _, _, _, _, _, _, _, z⟩ => z.elim
structure ToldAt (K : PySem.W.Frag) (mg : Str → Option Value) (base : Heap) (T : Wd) (cs : List Str) (g CN : Addr) (sg : Scope) : Prop where
  mgT : mg "_law_told" = some (.ref g)
  kp : PySem.W.keepIn K (.ref g) = true
  ex : ∃ (pg : Arguments) (p1 p2 p3 p4 p5 p6 p7 p8 p9 p10 : Pos) (kV doc pm cdv ct oc : Value) (an od : Option Addr) (osl : Array (Option Value)),
    K.lookup g = some ⟨oc, od, .func (PySem.W.fnOf "_law_told" "_law_told" pg [.Try [.Return (some (.Call (.Name "deed" p1) [] [] p2)) p3] [.ExceptHandler (some (.Name "NoughtError" p4)) (some "e") [.Return (some (.Call (.Name "_law_word" p5) [.Name "e" p6] [] p7)) p8] p9] [] [] p10] sg .none kV doc pm an cdv ct), osl⟩ ∧
      PySem.W.codeIn K cdv "_law_told" = true ∧ L2.Binds K (PySem.W.fnOf "_law_told" "_law_told" pg [.Try [.Return (some (.Call (.Name "deed" p1) [] [] p2)) p3] [.ExceptHandler (some (.Name "NoughtError" p4)) (some "e") [.Return (some (.Call (.Name "_law_word" p5) [.Name "e" p6] [] p7)) p8] p9] [] [] p10] sg .none kV doc pm an cdv ct) ["deed"] []
  sc : FnScope ["deed", "e"] ["deed"] sg
  lD : sg.names.lookup ("deed" : Str) = some .local
  lE : sg.names.lookup ("e" : Str) = some .local
  lN : sg.names.lookup ("NoughtError" : Str) = some .globalImplicit
  lW : sg.names.lookup ("_law_word" : Str) = some .globalImplicit
  mgN : mg "NoughtError" = some (.ref CN)
  sub : ∀ c, cs.contains c = true → PySem.W.exmOne K (.ref (T.ca c)) (.ref CN) = some true
section
variable {X : Cx} {T : Wd} {E : XK} {cs : List Str}
theorem de_told {g CN c P : Addr} {sg scope : Scope} {params : Arguments} {body : Expr} {Te : DE} {p lpos pos : Pos} {k : Nat} (F : ToldAt X.K X.mg X.base T cs g CN sg) (W : WordsOk X.prog X.w X.K X.mg X.base T cs)
    (TB : TabB X.base X.mg c P) (hcode : X.env.code = .ref c) (hmT : (P, X.env.qual ++ "<lambda>") ∈ T.tb) (hu : ∀ p ∈ T.tb, p.1 = P → p.2 = X.env.qual ++ "<lambda>") (hr : Room (k + 7) X.A) (L : LamS X.env.scope scope)
    (hbody : ∀ (A : Around) (outer : List Env) (s : Shared) (H : Hp) (E' : XK) (f c' : Addr), Room (k + 5) (A.deeper (lamEnv X scope s.heap.objs.size f c')) → ED (lamN X A outer s H E' scope f c') T E' body Te)
    (hg : Gl X "_law_told" := by rfl) (hdef : defaultsOf params X.env = ([], []) := by rfl)
    (hbind : ∀ (q : Str) (cl : List (Str × Addr)) (pm cv ctv : Value), bindArgs (PySem.W.kla_fn "<lambda>" q params body scope cl pm cv ctv) ⟨[], []⟩ = pure [] := by intros; rfl) :
    ED X T E (.Call (.Name "_law_told" p) [.Lambda params body scope lpos] [] pos) (dTold cs Te) := by
  refine ⟨fun pins s σ H Q I ⟨xc, Fr, H0, ρ, Hd, q, sat, w, hx, k0⟩ => ?_⟩
  obtain ⟨pg, p1, p2, p3, p4, p5, p6, p7, p8, p9, p10, kV, doc, pm, cdv, ct, oc, an, od, osl, lk, hcg, hb⟩ := F.ex
  refine wpAny_Call_Name_kw (ld_glob I hg F.mgT ?_)
  refine PySem.W.callWith_K (h₀ := X.base) I.ok.mod.kin F.kp ?_ (by rfl) (by rfl)
  show wpAny _ X.A (spliced ((false, eval (.Lambda params body scope lpos) X.env) :: backTo pos (starEach [] X.env))) _ _ _
  refine Calls.spliced_cons (lam_make2 I TB hcode hmT hu sat.tabs hdef (L.has I.ok) fun f c' pm' ctv H1 s' I1 eN T1 hf hfn hfr hco => Calls.spliced_nil ⟨I1.kIn, ?_⟩)
  have sat1 := sat.widenT eN T1
  have rc : codeAny (model X.prog X.w) X.A (.call (.ref g) ⟨[.ref f], []⟩) (CR C8.CX0 X.stack X.prog X.w H1 s' Q C8.E0) s' := by
    refine run_ofS (k := k + 6) (N := ["deed", "e"]) (ps := ["deed"]) (us := [.ref f]) (vs := [.ref f]) lk hcg F.sc hr I1.env0 (hb s' [.ref f] I1.kIn rfl) (.cons rfl .nil) rfl fun hr' => ?_
    have gN : Gl (cxOf C8.CX0 X.prog X.w X.K X.mg X.base ["deed", "e"] "_law_told" sg g cdv X.A X.stack s' H1 C8.E0).nox "NoughtError" := F.lN
    refine ⟨_, PSs.nox (pss_one (L2N.ps_try_as (X := (cxOf C8.CX0 X.prog X.w X.K X.mg X.base ["deed", "e"] "_law_told" sg g cdv X.A X.stack s' H1 C8.E0).nox) (i := 1) (c := .ref CN)
      (tb := fun W' D σZ HZ => ∃ Ech : XK, (∀ cls d σ' H', Ech cls d H' → W' cls d σ' H') ∧ σZ[0]? = some (some (.ref f)) ∧ HZ c' = some (CodeO c' (X.env.qual ++ "<lambda>")) ∧ LE X.K T Ech Te σ HZ D.rt)
      (ts := fun a cls d D σZ HZ => (σZ.length = 2 → σZ[1]? = some (some (.ref a))) ∧ ∃ c1, cs.contains c1 = true ∧ cls = .ref (T.ca c1) ∧ d = none ∧ ∀ H2, Sub HZ H2 → D.rt (.str c1) H2)
      (Wout := fun _ _ _ _ => False) rfl rfl F.sc.nd rfl F.lE ⟨gN, by decide, .inl F.mgN⟩ takesN0 (fun W' pn xe tk _ => ?_) (fun a oe cls d pn hz hfl => ?_))), ?_⟩
    · refine ⟨fun pinsZ sZ σZ HZ D IZ ⟨Ech, hW, h1, h2, h3⟩ => ?_⟩
      have hd := pe_deed (i := 0) (p1 := p1) (p2 := p2) (E := Ech) (tb := LE X.K T Ech Te) (a := "deed") (Ng := ["deed", "e"]) I1 L hf hfn hfr (hbind _ _ _ _ _) tk hW hr' (fun A outer s2 H2 hr2 => (hbody A outer s2 H2 Ech f c' hr2 : PE _ _ _)) rfl (.inl F.lD)
      exact (pss_one (ps_ret (pos := p3) hd)).run pinsZ sZ σZ HZ D IZ ⟨h1, h2, h3⟩
    · refine ⟨fun pinsZ sZ σZ HZ D IZ ⟨h1, c1, hc1, e1, e2, h3⟩ => ?_⟩
      subst e1
      subst e2
      obtain ⟨fv, hfv⟩ := hfl
      have hvis : PE ((cxOf C8.CX0 X.prog X.w X.K X.mg X.base ["deed", "e"] "_law_told" sg g cdv X.A X.stack s' H1 C8.E0).nox.suite a ((a, oe) :: pn)) (.Name "e" p6) (tVar 1) := pe_var rfl (.inl F.lE)
      have hw := W ((cxOf C8.CX0 X.prog X.w X.K X.mg X.base ["deed", "e"] "_law_told" sg g cdv X.A X.stack s' H1 C8.E0).nox.suite a ((a, oe) :: pn)) rfl rfl rfl rfl rfl a oe c1 List.mem_cons_self ⟨rfl, fv, hfv, hz.2.2 fv hfv⟩
        ((⟨hr'.dp, hr'.un⟩ : L2H.RoomH (k + 6) ((cxOf C8.CX0 X.prog X.w X.K X.mg X.base ["deed", "e"] "_law_told" sg g cdv X.A X.stack s' H1 C8.E0).nox.suite a ((a, oe) :: pn)).A).mono (by omega)) F.lW hc1 hz.1 hz.2.1 ⟨fv, hfv⟩ (.Name "e" p6) (tVar 1) p5 p7 hvis rfl
      exact (pss_one (ps_ret (pos := p8) hw)).run pinsZ sZ σZ HZ D IZ ⟨_, h1 IZ.len, rfl, h3⟩
    · refine ⟨fun cls d H2 => ∃ c1, cs.contains c1 = true ∧ cls = .ref (T.ca c1) ∧ d = none ∧ ∀ H3, Sub H2 H3 → Q (.str c1) H3, fun cls d σ' H2 ⟨c1, h1, h2, h3, h4⟩ => ⟨true, by rw [h2]; exact F.sub c1 h1, fun _ a _ => ⟨fun hl => ?_, c1, h1, h2, h3, h4⟩, fun z => by cases z⟩, rfl, hco, ?_⟩
      · rw [List.length_set] at hl
        rw [List.getElem?_set_self (by omega)]
      · refine ⟨_, Fr, Hd, ρ, Hd, q, sat1.rebase (Sub.refl _), w, fun C Hd2 H2 s2 ⟨hc, hq⟩ => ⟨C, hc, rfl, rfl, fun H3 sb => k0 (.str C) (.d (.str C)) Hd2 H3 ((s2.rebase (sat.base.trans s2.base)).widen sb) s2.base (Dt.str C) hq⟩, fun v x Hd2 H2 s2 b2 ok2 w2 => k0 v x Hd2 H2 (s2.rebase (sat.base.trans s2.base)) b2 ok2 w2⟩
  refine wpAny_call (codeAny_mono rc fun r s2 hq => ?_)
  cases r with
  | error e => exact (show False from hq).elim
  | ok fl =>
    cases fl with
    | ret u => exact I1.after hq
    | next => exact (show False from hq).elim
    | brk => exact (show False from hq).elim
    | cont => exact (show False from hq).elim
end
end DL

/-! Data: refusals, targets, texts, one times a tuple. -/
namespace DL
open PySem PySem.Spec PyProof.Rows L2 LamX
section
variable {X : Cx} {T : Wd} {E : XK}
theorem passN0 : Passes (L2N.CX X.prog X.w) X C8.E0 := fun _ _ _ _ _ _ _ ⟨_, _, _, _, _, _, _, _, _, _, _, _, z⟩ => z.elim
/-- an own class of refusals, known by its name -/
structure ExC (K : PySem.W.Frag) (mg : Str → Option Value) (T : Wd) (x : Str) : Prop where
  ei : PySem.W.excIn K (T.ca x) [.type "ValueError", .type "Exception", .type "BaseException", .type "object"] "ValueError.__new__" = true
  gC : mg x = some (.ref (T.ca x))
  kC : PySem.W.keepIn K (.ref (T.ca x)) = true
  r1 : PySem.W.subIn K (.ref (T.ca x)) (.type "BaseException") = some true
  r2 : PySem.W.typeIn K (.ref (T.ca x)) = some (.type "type")
theorem sd_raiseC {x m : Str} {j : Nat} {p p2 cpos pos : Pos} (F : ExC X.K X.mg T x) (tk : L2N.Takes X (fun cls d _ H => E cls d H)) (hg : Gl X x := by rfl) (hdb : (x == ("__debug__" : Str)) = false := by decide) (hc : X.calm = true := by rfl) :
    SD X T E (.Raise (some (.Call (.Name x p) [.Constant (.str m) j p2] [] cpos)) none pos) (dRaise x) :=
  sd_raise (fun σ H Q h => h) tk (L2N.pmk_own PySem.F.excBase_ValueError F.ei F.gC F.kC (raises_own F.r1 F.r2) hg hdb) hc
theorem pg_tp2 {x y : Str} {p1 p2 pos : Pos} {k : Nat} (i j : Nat) (hN : X.N.Nodup) (hi : X.N[i]? = some x := by rfl) (hj : X.N[j]? = some y := by rfl) (hx : Loc X.env.scope x := by first | exact Or.inl rfl | exact Or.inr rfl) (hy : Loc X.env.scope y := by first | exact Or.inl rfl | exact Or.inr rfl)
    (hf : X.fn x = true ∨ X.env.scope.names.lookup x = some .local := by first | exact .inl rfl | exact .inr rfl) (hf2 : X.fn y = true ∨ X.env.scope.names.lookup y = some .local := by first | exact .inl rfl | exact .inr rfl) (hc : X.calm = true := by rfl) :
    PG X (.Tuple [.Name x p1, .Name y p2] k pos) (gOf X.K (.tp [i, j])) :=
  pg_tup hc (pgs_cons (pg_name hN hi hx hf) (pgs_cons (pg_name hN hj hy hf2) pgs_nil))
theorem pg_tp3 {x y z : Str} {p1 p2 p3 pos : Pos} {k : Nat} (i j l : Nat) (hN : X.N.Nodup) (hi : X.N[i]? = some x := by rfl) (hj : X.N[j]? = some y := by rfl) (hl : X.N[l]? = some z := by rfl) (hx : Loc X.env.scope x := by first | exact Or.inl rfl | exact Or.inr rfl) (hy : Loc X.env.scope y := by first | exact Or.inl rfl | exact Or.inr rfl) (hz : Loc X.env.scope z := by first | exact Or.inl rfl | exact Or.inr rfl)
    (hf : X.fn x = true ∨ X.env.scope.names.lookup x = some .local := by first | exact .inl rfl | exact .inr rfl) (hf2 : X.fn y = true ∨ X.env.scope.names.lookup y = some .local := by first | exact .inl rfl | exact .inr rfl) (hf3 : X.fn z = true ∨ X.env.scope.names.lookup z = some .local := by first | exact .inl rfl | exact .inr rfl) (hc : X.calm = true := by rfl) :
    PG X (.Tuple [.Name x p1, .Name y p2, .Name z p3] k pos) (gOf X.K (.tp [i, j, l])) :=
  pg_tup hc (pgs_cons (pg_name hN hi hx hf) (pgs_cons (pg_name hN hj hy hf2) (pgs_cons (pg_name hN hl hz hf3) pgs_nil)))
/-! ### a text times a number -/
def sRep (x : Str) (n : Nat) : Str := ⟨(List.replicate n x.cps).foldl (· ++ ·) #[]⟩
def rRepS : R2 := fun x y H Q => ∃ a k, x = .str a ∧ y = .int k ∧ 1 ≤ a.length ∧ -(2 ^ 63) ≤ k ∧ k < 2 ^ 63 ∧ a.length * k.toNat ≤ sizeLine ∧ Q (.str (sRep a k.toNat)) H
theorem op_repS : OpR X (binaryOp .Mult) rRepS := by
  intro pins s σ H x y v u Q I rx ry h
  obtain ⟨a, k, rfl, rfl, h0, h1, h2, hz, q⟩ := h
  obtain ⟨t, rfl⟩ := rx
  obtain ⟨t2, rfl⟩ := ry
  have hsl : (sizeLine : Nat) ≤ (2 ^ 63 - 1) := by decide
  refine PySem.P.mul_str (by rw [decide_eq_false (by omega), decide_eq_false (by omega)]; rfl) (fun hk _ => ?_) (fun hk _ => ?_) ?_
  · have hk1 : 1 ≤ k := by omega
    have e : (k.toNat : Int) = k := Int.toNat_of_nonneg (by omega)
    have z : (a.length : Int) * k ≤ 2 ^ 63 - 1 := by
      have z1 : ((a.length * k.toNat : Nat) : Int) ≤ ((2 ^ 63 - 1 : Nat) : Int) := Int.ofNat_le.mpr (Nat.le_trans hz hsl)
      rw [Int.natCast_mul, e] at z1
      exact z1
    have z2 : (a.length : Int) ≤ (2 ^ 63 - 1) / k := (Int.le_ediv_iff_mul_le (by omega)).mpr z
    omega
  · unfold Builtin.Str.tooLong
    exact decide_eq_false (by omega)
  · by_cases hk : k < 1
    · rw [if_pos hk]
      have e : sRep a k.toNat = Str.empty := by
        rw [show k.toNat = 0 by omega]; rfl
      rw [e] at q
      exact ⟨by decide, .str Str.empty, H, I.tok _, ⟨_, rfl⟩, q⟩
    · rw [if_neg hk]
      by_cases h3 : (k == 1 || a.length == 0) = true
      · rw [if_pos h3]
        have k1 : k = 1 := by
          rw [Bool.or_eq_true] at h3
          rcases h3 with h3 | h3
          · exact beq_iff_eq.mp h3
          · have := beq_iff_eq.mp h3; omega
        subst k1
        have e : sRep a (1 : Int).toNat = a := by
          show sRep a 1 = a
          unfold sRep
          simp
        rw [e] at q
        exact ⟨.str a, H, I.tok _, ⟨_, rfl⟩, q⟩
      · rw [if_neg h3]
        exact ⟨fits_reps (x := a) (k := k.toNat) (decide_eq_false (by omega)), .str _, H, I.tok _, ⟨_, rfl⟩, q⟩
def gMulS : G2 := fun x y Q => match x.dat, y.dat with
  | some (.str a), some (.int j) => (1 ≤ a.length ∧ -(2 ^ 63) ≤ j ∧ j < 2 ^ 63 ∧ a.length * j.toNat ≤ sizeLine) ∧ Q (.d (.str (sRep a j.toNat)))
  | _, _ => False
theorem od_mulS : OpD X.K T rRepS gMulS := fun Fr H0 ρ σ Hd H vx vy x y q Q s hx hy w k => by
  unfold gMulS at w
  split at w
  · rename_i a j ex ey
    exact ⟨a, j, hx.str s ex, hy.int s ey, w.1.1, w.1.2.1, w.1.2.2.1, w.1.2.2.2, k _ (.d (.str _)) Hd H s (Sub.refl _) (Dt.str _) w.2⟩
  · exact w.elim
theorem de_mulS {a b : Expr} {Ta Tb : DE} {pos : Pos} (ha : ED X T E a Ta) (hb : ED X T E b Tb) : ED X T E (.BinOp a .Mult b pos) (dOp gMulS Ta Tb) := de_op op_repS od_mulS ha hb
/-! ### a tuple times a number, one too -/
theorem tuple_mul1 (l : Addr) (items : Array Value) (n : Nat) (dd : Option Addr) (sl : Array (Option Value)) (u : Tok) :
    Meets (Builtin.«tuple.__mul__» ⟨[.ref l, .int 1 u], []⟩) (fun _ R s => s.heap.get? l = some { cls := .type "tuple", dict := dd, data := .seq items n, slots := sl } ∧ R (.ok (.ret (Value.ref l))) s) :=
  .of_wp fun prog w A R s h => by
    obtain ⟨hp, g, d, tk, os⟩ := s
    obtain ⟨hl, h⟩ := h
    have f1 := AutoSeq1.idx_int
    have c1 : (items.isEmpty || (1 : Int) == 1) = true := by simp
    wp_walk using wpAny_loadPart' hl
    repeat (first
      | (refine wpAny_ite_false (decide_eq_false (by decide)) ?_; wp_walk using wpAny_loadPart' hl)
      | (refine wpAny_ite_true (decide_eq_true c1) ?_; wp_walk using wpAny_loadPart' hl))
    exact ⟨_, rfl, h⟩
def rRepT1 (K : PySem.W.Frag) : R2 := fun x y H Q => ∃ l xs, x = .ref l ∧ y = .int 1 ∧ SqT K H l xs ∧ Q (.ref l) H
theorem op_repT1 : OpR X (binaryOp .Mult) (rRepT1 X.K) := by
  intro pins s σ H x y v u Q I rx ry h
  obtain ⟨l, xs, rfl, rfl, hT, q⟩ := h
  cases rx
  obtain ⟨t, rfl⟩ := ry
  obtain ⟨its, r, ⟨⟨cls, dd, data, sl⟩, ho, hc, n, hd⟩, hs⟩ := I.tuple hT
  simp only at hc hd
  subst hc hd
  exact wpAny_binaryOp_repeat_ref (T := "tuple") (U := "int") (by decide) ⟨_, ho, rfl⟩ (fun s' => typeIs_int s' 1 t) noFill_tuple_mul F.fills_int_mul F.slot_int_rmul repeat_tuple F.slot_int_index.lookup
    (call_meets F.slot_int_rmul (typeIs_int s 1 t) F.entry_int_rmul (F.args_int_rmul_2 _ _) (int_rmul_tuple 1 t l its.toArray n dd sl)
      ⟨ho, rfl, ⟨_, ho, rfl⟩, call_meets F.slot_tuple_mul ⟨_, ho, rfl⟩ F.entry_tuple_mul (F.args_tuple_mul_2 _ _) (tuple_mul1 l its.toArray n dd sl t) ⟨ho, .ref l, H, I, rfl, q⟩⟩)
def rMlT (K : PySem.W.Frag) : R2 := fun x y H Q => rRepT1 K x y H Q ∨ rRepT K x y H Q
def gMulT : G2 := fun x y Q => match x, y.dat with
  | .d (.tuple a), some (.int j) => (a ≠ [] ∧ 1 ≤ j ∧ j ≤ 1000 ∧ a.length ≤ 1000) ∧ Q (.d (.tuple (List.replicate j.toNat a).flatten))
  | _, _ => False
theorem od_mulT : OpD X.K T (rMlT X.K) gMulT := fun Fr H0 ρ σ Hd H vx vy x y q Q s hx hy w k => by
  unfold gMulT at w
  split at w
  · rename_i a j ey
    obtain ⟨p1, xs, rfl, h1, a1⟩ := hx.tup s rfl
    by_cases hj : j = 1
    · subst hj
      have e : (List.replicate (1 : Int).toNat a).flatten = a := by
        show (List.replicate 1 a).flatten = a
        simp
      refine .inl ⟨p1, xs, rfl, hy.int s ey, SqT.of h1, k _ (.d (.tuple a)) Hd H s (Sub.refl _) hx ?_⟩
      rw [e] at w
      exact w.2
    · refine .inr ⟨p1, j, xs, rfl, hy.int s ey, SqT.of h1, fun z => w.1.1 (a1.nil_of z), by omega, w.1.2.2.1, by rw [a1.length]; exact w.1.2.2.2, fun p hp => ?_⟩
      exact k _ (.d (.tuple _)) _ _ (s.lay (o := .tup _) hp) (Sub.new (s.keep.free hp)) (Dt.tup upd_same ((a1.rep j.toNat).mono (Sub.new (s.keep.free hp)))) w.2
  · exact w.elim
theorem de_mulT {a b : Expr} {Ta Tb : DE} {pos : Pos} (ha : ED X T E a Ta) (hb : ED X T E b Tb) : ED X T E (.BinOp a .Mult b pos) (dOp gMulT Ta Tb) := de_op (op_repT1.or op_repT) od_mulT ha hb
/-! ### numbers and their texts -/
def gStr : GN := fun xs Q => match xs with
  | [.d (.int i)] => i.natAbs.log2 < 1920 ∧ Q (.d (.str (toString i)))
  | _ => False
theorem cd_str : CallD X.K T (fun xs H Q => ∃ i, xs = [.int i] ∧ i.natAbs.log2 < 1920 ∧ Q (.str (toString i)) H) gStr := fun Fr H0 ρ σ Hd H vs xs q Q s hv w k => by
  unfold gStr at w
  split at w
  · rename_i i
    obtain ⟨v, rfl, h⟩ := vls1 hv
    have h : Dt X.K Hd v (.int i) := h
    cases h
    exact ⟨i, rfl, w.1, k _ (.d (.str _)) Hd H s (Sub.refl _) (Dt.str _) w.2⟩
  · exact w.elim
theorem y_str : TyDl X T "str" gStr := ⟨_, call_str_int, cd_str⟩
def gIntS : GN := fun xs Q => match xs with
  | [.d (.str a)] => ∃ n, PySem.intText? a = some n ∧ a.length ≤ 640 ∧ Q (.d (.int n))
  | _ => False
theorem cd_intS : CallD X.K T (fun xs H Q => ∃ a n, xs = [.str a] ∧ PySem.intText? a = some n ∧ a.length ≤ 640 ∧ Q (.int n) H) gIntS := fun Fr H0 ρ σ Hd H vs xs q Q s hv w k => by
  unfold gIntS at w
  split at w
  · rename_i a
    obtain ⟨v, rfl, h⟩ := vls1 hv
    have h : Dt X.K Hd v (.str a) := h
    cases h
    obtain ⟨n, w1, w2, w3⟩ := w
    exact ⟨a, n, rfl, w1, w2, k _ (.d (.int _)) Hd H s (Sub.refl _) (Dt.int _) w3⟩
  · exact w.elim
theorem y_intS : TyDl X T "int" gIntS := ⟨_, call_int_str, cd_intS⟩
end
/-! ### a def whose code object is known -/
section
variable {P : Program} {w : World} {K : PySem.W.Frag} {mg : Str → Option Value} {base : Heap} {T : Wd}
theorem fn_dc {x qual : Str} {st : Stmt} {f c : Addr} {fd : FuncData} {N ps : List Str} {k : Nat} {F : Ct} (Fn : Fun K x qual st f fd) (hc : fd.code = .ref c) (S : FnScope N ps (defScope st))
    (hb : ∀ (A : Around) (outer : List Env) (s : Shared) (H : Hp) (E : XK), Room k (A.deeper (envOfC qual (defScope st) s.heap.objs.size f (.ref c))) →
      ∃ t, BD (cxOf (L2N.CX P w) P w K mg base N qual (defScope st) f (.ref c) A outer s H E) T E (defBody st) t ∧ ∀ xs q xc, F xs q xc → t { nx := fun _ => q .none, rt := q, xc := xc } (dstart N xs)) :
    FnOk P w K mg base (L2N.CX P w) (k + 1) f fd ps (spD K T ps.length F) := by
  obtain ⟨oc, od, kV, doc, pm, an, cdv, ct, osl, e0, lk, hcd⟩ := Fn.ex
  have ec : cdv = .ref c := by
    rw [e0] at hc
    exact hc
  subst ec
  subst e0
  refine fn_of lk hcd S (fun vs H Q E ⟨Hd, xs, q, xc, h1, h0, h2, h3, h4, _⟩ => by rw [h3.length, h4]) (fun A outer s H vs Q E hr h => ?_)
  obtain ⟨Hd, xs, q, xc, sb, nt, tb, ar, hl, hF, hq, hx⟩ := h
  obtain ⟨t, hbd, ht⟩ := hb A outer s H E hr
  have hpl : ps.length ≤ N.length := by
    have z := congrArg List.length S.pre
    rw [List.length_take] at z
    omega
  refine ⟨_, hbd, { nx := fun _ => q .none, rt := q, xc := xc }, prvOf Hd H, Hd, dstart N xs, Hd, sat_start (by omega) sb nt tb ar, ⟨fun ρ σ Hd' H' s' _ w' => hq .none .non Hd' H' s'.out.grow Dt.non w', fun _ _ _ _ _ _ z => z.elim, fun _ _ _ _ _ _ z => z.elim,
    fun d v Hd' H' o dt w' => hq d v Hd' H' o.grow dt w', fun C Hd' H' o w' => hx C Hd' H' o.grow w'⟩, ht xs q xc hF⟩
end
end DL

/-! Data: the facts behind the word of a refusal. -/
namespace DL
open PySem L2 LamX
structure WordK (K : PySem.W.Frag) (mg : Str → Option Value) (T : Wd) (cs al : List Str) : Prop where
  ex : ∀ c, cs.contains c = true → ExcC K (T.ca c)
  is : ∀ c d, cs.contains c = true → al.contains d = true → PySem.W.kitOne K (.ref (T.ca c)) (.ref (T.ca d)) = some (c == d)
  iv : ∀ c, cs.contains c = true → PySem.W.kitOne K (.ref (T.ca c)) (.type "ValueError") = some true
  gC : ∀ d, al.contains d = true → mg d = some (.ref (T.ca d))
  nI : mg "isinstance" = none
  nS : mg "sum" = none
  nN : mg "int" = none
  nV : mg "ValueError" = none
section
variable {X : Cx} {T : Wd} {cs al : List Str} {a : Addr} {oe : Obj} {c : Str}
/-- isinstance(e, d) in the word's def -/
theorem pe_isd (W : WordK X.K X.mg T cs al) (hp : (a, oe) ∈ X.pn) (hc : cs.contains c = true) (h1 : oe.cls = .ref (T.ca c)) (h2 : oe.dict = none) (hf : ∃ vs, oe.data = .fields vs) {x : Expr} {d : Str} {p p2 pos : Pos} (hx : PE X x (tVar 0)) (hd : al.contains d = true := by decide +kernel)
    (hg : Gl X "isinstance" := by rfl) (hg2 : Gl X d := by rfl) (hdb : (d == ("__debug__" : Str)) = false := by decide) (hst : starEach [x, .Name d p2] X.env = (false, eval x X.env) :: starEach [.Name d p2] X.env := by rfl) (hst2 : starEach [.Name d p2] X.env = (false, eval (.Name d p2) X.env) :: starEach [] X.env := by rfl) :
    PE X (.Call (.Name "isinstance" p) [x, .Name d p2] [] pos) (fun σ H Q => σ[0]? = some (some (.ref a)) ∧ Q (.bl (c == d)) H) := by
  refine pe_imp (pe_callB (call_isH hp (W.ex c hc) h1 h2 hf) hg W.nI (by decide +kernel) (pa_cons hx (pa_cons (pe_glob (v := .ref (T.ca d)) hg2 (W.gC d hd) rfl hdb) pa_nil hst2) hst) (he := hst) (hpl := by rw [hst2]; rfl)) fun σ H Q ⟨e, h⟩ => ?_
  exact ⟨_, e, .ref (T.ca d), .ref (T.ca d), c == d, rfl, fun u r => r, W.is c d hc hd, h⟩
theorem pe_isv (W : WordK X.K X.mg T cs al) (hp : (a, oe) ∈ X.pn) (hc : cs.contains c = true) (h1 : oe.cls = .ref (T.ca c)) (h2 : oe.dict = none) (hf : ∃ vs, oe.data = .fields vs) {x : Expr} {p p2 pos : Pos} (hx : PE X x (tVar 0))
    (hg : Gl X "isinstance" := by rfl) (hg2 : Gl X "ValueError" := by rfl) (hst : starEach [x, .Name "ValueError" p2] X.env = (false, eval x X.env) :: starEach [.Name "ValueError" p2] X.env := by rfl) (hst2 : starEach [.Name "ValueError" p2] X.env = (false, eval (.Name "ValueError" p2) X.env) :: starEach [] X.env := by rfl) :
    PE X (.Call (.Name "isinstance" p) [x, .Name "ValueError" p2] [] pos) (fun σ H Q => σ[0]? = some (some (.ref a)) ∧ Q (.bl true) H) := by
  refine pe_imp (pe_callB (call_isH hp (W.ex c hc) h1 h2 hf) hg W.nI (by decide +kernel) (pa_cons hx (pa_cons (pe_bltn (v := .ty "ValueError") hg2 W.nV (by decide +kernel) rfl) pa_nil hst2) hst) (he := hst) (hpl := by rw [hst2]; rfl)) fun σ H Q ⟨e, h⟩ => ?_
  exact ⟨_, e, .ty "ValueError", .type "ValueError", true, rfl, fun u r => r, W.iv c hc, h⟩
end
section
variable {X : Cx} {T : Wd} {E : XK} {pos : Pos}
theorem de_gI {x : Str} {i : Int} (hm : ∃ t, X.mg x = some (.int i t)) (hg : Gl X x := by rfl) (hd : (x == ("__debug__" : Str)) = false := by decide) : ED X T E (.Name x pos) (dC (.int i)) := by
  obtain ⟨t, h⟩ := hm
  exact de_globI h ⟨t, rfl⟩ hg hd
theorem de_gS {x i : Str} (hm : ∃ t, X.mg x = some (.str i t)) (hg : Gl X x := by rfl) (hd : (x == ("__debug__" : Str)) = false := by decide) : ED X T E (.Name x pos) (dC (.str i)) := by
  obtain ⟨t, h⟩ := hm
  exact de_globS h ⟨t, rfl⟩ hg hd
end
end DL

/-! Data: the readings' rules for the simplifier. -/
namespace DL
open PySem L2 LamX
variable {xc : DX} {ρ : DSt} {Q : Vl → Prop} {e : DEnds}
@[simp] theorem s_gVar (s : Vl) : gVar (some (some s)) Q = Q s := rfl
@[simp] theorem s_dVar (i : Nat) : dVar i xc ρ Q = gVar ρ[i]? Q := rfl
@[simp] theorem s_dC (x : D) : dC x xc ρ Q = Q (.d x) := rfl
@[simp] theorem s_dOp (g : G2) (Ta Tb : DE) : dOp g Ta Tb xc ρ Q = Ta xc ρ fun x => Tb xc ρ fun y => g x y Q := rfl
@[simp] theorem s_vB (b : Bool) (k : Bool → Prop) : vB (.d (.bool b)) k = k b := rfl
@[simp] theorem s_bcT (A B : Prop) : bc true A B = A := rfl
@[simp] theorem s_bcF (A B : Prop) : bc false A B = B := rfl
theorem bc_of {b : Bool} {A B : Prop} (h1 : b = true → A) (h2 : b = false → B) : bc b A B := by
  cases b
  · exact h2 rfl
  · exact h1 rfl
@[simp] theorem s_bcD (p : Prop) [Decidable p] (A B : Prop) : bc (decide p) A B = ((p → A) ∧ (¬ p → B)) := by
  by_cases h : p
  · simp [h]
  · simp [h]
@[simp] theorem s_bcN (b : Bool) (A B : Prop) : bc (!b) A B = bc b B A := by cases b <;> rfl
@[simp] theorem s_dTest (t : DE) (k : Bool → Prop) : dTest t xc ρ k = t xc ρ fun v => vB v k := rfl
@[simp] theorem s_dChain (g g' : G2) (Ta Tb Tc : DE) : dChain g g' Ta Tb Tc xc ρ Q = Ta xc ρ fun x => Tb xc ρ fun y => g x y fun z => vB z fun k => bc k (Tc xc ρ fun w => g' y w Q) (Q (.d (.bool false))) := rfl
@[simp] theorem s_dAnd (t u : DT) (k : Bool → Prop) : dAnd t u xc ρ k = t xc ρ fun b => bc b (u xc ρ k) (k false) := rfl
@[simp] theorem s_dOr (t u : DT) (k : Bool → Prop) : dOr t u xc ρ k = t xc ρ fun b => bc b (k true) (u xc ρ k) := rfl
@[simp] theorem s_dNot (t : DT) (k : Bool → Prop) : dNot t xc ρ k = t xc ρ fun b => k (!b) := rfl
@[simp] theorem s_dAndV (Ta Tb : DE) : dAndV Ta Tb xc ρ Q = Ta xc ρ fun v => vB v fun k => bc k (Tb xc ρ Q) (Q (.d (.bool false))) := rfl
@[simp] theorem s_dOrV (Ta Tb : DE) : dOrV Ta Tb xc ρ Q = Ta xc ρ fun v => vB v fun k => bc k (Q (.d (.bool true))) (Tb xc ρ Q) := rfl
@[simp] theorem s_dNotV (Ta : DE) : dNotV Ta xc ρ Q = Ta xc ρ fun v => vB v fun k => Q (.d (.bool (!k))) := rfl
@[simp] theorem s_dIfE (t : DT) (Ta Tb : DE) : dIfE t Ta Tb xc ρ Q = t xc ρ fun k => bc k (Ta xc ρ Q) (Tb xc ρ Q) := rfl
@[simp] theorem s_dNil (k : List Vl → Prop) : dNil xc ρ k = k [] := rfl
@[simp] theorem s_dCons (Ta : DE) (Al : DA) (k : List Vl → Prop) : dCons Ta Al xc ρ k = Ta xc ρ fun x => Al xc ρ fun xs => k (x :: xs) := rfl
@[simp] theorem s_allD0 : allD [] = some [] := rfl
@[simp] theorem s_allD1 (x : D) (r : List Vl) : allD (.d x :: r) = (allD r).map (x :: ·) := by
  show (match allD r with | some ds => some (x :: ds) | none => none) = _
  cases allD r <;> rfl
theorem gTup_of {xs : List Vl} {ds : List D} (e : allD xs = some ds) : gTup xs Q = (ds.length ≤ sizeLine ∧ Q (.d (.tuple ds))) := by unfold gTup; rw [e]
theorem gLst_of {xs : List Vl} {ds : List D} (e : allD xs = some ds) : gLst xs Q = (ds.length ≤ sizeLine ∧ Q (.d (.list ds))) := by unfold gLst; rw [e]
@[simp] theorem s_tup0 : gTup [] Q = Q (.d (.tuple [])) := by rw [gTup_of rfl]; simp
@[simp] theorem s_tup1 (a : D) : gTup [.d a] Q = Q (.d (.tuple [a])) := by rw [gTup_of rfl]; simp; intro _; decide
@[simp] theorem s_tup2 (a b : D) : gTup [.d a, .d b] Q = Q (.d (.tuple [a, b])) := by rw [gTup_of rfl]; simp; intro _; decide
@[simp] theorem s_tup3 (a b c : D) : gTup [.d a, .d b, .d c] Q = Q (.d (.tuple [a, b, c])) := by rw [gTup_of rfl]; simp; intro _; decide
@[simp] theorem s_lst0 : gLst [] Q = Q (.d (.list [])) := by rw [gLst_of rfl]; simp
@[simp] theorem s_lst1 (a : D) : gLst [.d a] Q = Q (.d (.list [a])) := by rw [gLst_of rfl]; simp; intro _; decide
@[simp] theorem s_lst2 (a b : D) : gLst [.d a, .d b] Q = Q (.d (.list [a, b])) := by rw [gLst_of rfl]; simp; intro _; decide
@[simp] theorem s_lst3 (a b c : D) : gLst [.d a, .d b, .d c] Q = Q (.d (.list [a, b, c])) := by rw [gLst_of rfl]; simp; intro _; decide
@[simp] theorem s_lst4 (a b c d : D) : gLst [.d a, .d b, .d c, .d d] Q = Q (.d (.list [a, b, c, d])) := by rw [gLst_of rfl]; simp; intro _; decide
@[simp] theorem s_dTup (Al : DA) : dTup Al xc ρ Q = Al xc ρ fun xs => gTup xs Q := rfl
@[simp] theorem s_dLst (Al : DA) : dLst Al xc ρ Q = Al xc ρ fun xs => gLst xs Q := rfl
@[simp] theorem s_dCB (g : GN) (Al : DA) : dCB g Al xc ρ Q = Al xc ρ fun xs => g xs Q := rfl
/-! operators -/
@[simp] theorem s_gSub (i j : Int) : gSub (.d (.int i)) (.d (.int j)) Q = Q (.d (.int (i - j))) := rfl
@[simp] theorem s_gLt (i j : Int) : gLt (.d (.int i)) (.d (.int j)) Q = Q (.d (.bool (decide (i < j)))) := rfl
@[simp] theorem s_gLe (i j : Int) : gLe (.d (.int i)) (.d (.int j)) Q = Q (.d (.bool (decide (i ≤ j)))) := rfl
@[simp] theorem s_gGt (i j : Int) : gGt (.d (.int i)) (.d (.int j)) Q = Q (.d (.bool (decide (j < i)))) := rfl
@[simp] theorem s_gGe (i j : Int) : gGe (.d (.int i)) (.d (.int j)) Q = Q (.d (.bool (decide (j ≤ i)))) := rfl
theorem gFdiv_i (i j : Int) : gFdiv (.d (.int i)) (.d (.int j)) Q = (CDv i j ∧ Q (.d (.int (i.fdiv j)))) := rfl
@[simp] theorem s_gMod (i j : Int) : gMod (.d (.int i)) (.d (.int j)) Q = (j ≠ 0 ∧ Q (.d (.int (i.fmod j)))) := rfl
@[simp] theorem s_gPow (i j : Int) : gPow (.d (.int i)) (.d (.int j)) Q = (CPow i j ∧ Q (.d (.int (i ^ j.toNat)))) := rfl
@[simp] theorem s_gAddI (i j : Int) : gAdd (.d (.int i)) (.d (.int j)) Q = Q (.d (.int (i + j))) := rfl
@[simp] theorem s_gAddS (i j : Str) : gAdd (.d (.str i)) (.d (.str j)) Q = (i.length + j.length ≤ sizeLine ∧ Q (.d (.str (i ++ j)))) := rfl
@[simp] theorem s_gAddL (a b : List D) : gAdd (.d (.list a)) (.d (.list b)) Q = (a.length + b.length ≤ sizeLine ∧ Q (.d (.list (a ++ b)))) := rfl
@[simp] theorem s_gAddT (a b : List D) : gAdd (.d (.tuple a)) (.d (.tuple b)) Q = (a.length + b.length ≤ sizeLine ∧ Q (.d (.tuple (a ++ b)))) := rfl
theorem gMul_i (i j : Int) : gMul (.d (.int i)) (.d (.int j)) Q = (CMl i j ∧ Q (.d (.int (i * j)))) := rfl
@[simp] theorem s_gMulL (a : List D) (j : Int) : gMul (.d (.list a)) (.d (.int j)) Q = ((-(2 ^ 63) ≤ j ∧ j < 2 ^ 63 ∧ a.length * j.toNat ≤ sizeLine) ∧ Q (.d (.list (List.replicate j.toNat a).flatten))) := rfl
@[simp] theorem s_gMulS (a : Str) (j : Int) : gMulS (.d (.str a)) (.d (.int j)) Q = ((1 ≤ a.length ∧ -(2 ^ 63) ≤ j ∧ j < 2 ^ 63 ∧ a.length * j.toNat ≤ sizeLine) ∧ Q (.d (.str (sRep a j.toNat)))) := rfl
@[simp] theorem s_gMulT (a : List D) (j : Int) : gMulT (.d (.tuple a)) (.d (.int j)) Q = ((a ≠ [] ∧ 1 ≤ j ∧ j ≤ 1000 ∧ a.length ≤ 1000) ∧ Q (.d (.tuple (List.replicate j.toNat a).flatten))) := rfl
theorem gEq_of {x y : Vl} (hx : okD 40 x.all = true) (hy : okD 40 y.all = true) : gEq x y Q = Q (.d (.bool (PyData.eqv x.all y.all))) := by
  show (okD 40 x.all = true ∧ okD 40 y.all = true ∧ _) = _
  simp [hx, hy]
theorem gNe_of {x y : Vl} (hx : okD 40 x.all = true) (hy : okD 40 y.all = true) : gNe x y Q = Q (.d (.bool (!PyData.eqv x.all y.all))) := by
  show (okD 40 x.all = true ∧ okD 40 y.all = true ∧ _) = _
  simp [hx, hy]
@[simp] theorem eqv_int (i j : Int) : PyData.eqv (.int i) (.int j) = decide (i = j) := by
  rw [PyData.eqv]; by_cases h : i = j <;> simp [h]
@[simp] theorem eqv_str (i j : Str) : PyData.eqv (.str i) (.str j) = decide (i = j) := by
  rw [PyData.eqv]; by_cases h : i = j <;> simp [h]
@[simp] theorem eqv_lst (a b : List D) : PyData.eqv (.list a) (.list b) = PyData.eqvAll a b := by rw [PyData.eqv]
@[simp] theorem eqv_tup (a b : List D) : PyData.eqv (.tuple a) (.tuple b) = PyData.eqvAll a b := by rw [PyData.eqv]
@[simp] theorem eqvA_nil : PyData.eqvAll [] [] = true := by rw [PyData.eqvAll]
@[simp] theorem eqvA_cons (x y : D) (a b : List D) : PyData.eqvAll (x :: a) (y :: b) = (PyData.eqv x y && PyData.eqvAll a b) := by rw [PyData.eqvAll]
@[simp] theorem eqvA_l (x : D) (a : List D) : PyData.eqvAll (x :: a) [] = false := by simp [PyData.eqvAll]
@[simp] theorem eqvA_r (x : D) (a : List D) : PyData.eqvAll [] (x :: a) = false := by simp [PyData.eqvAll]
@[simp] theorem s_gEqI (i j : Int) : gEq (.d (.int i)) (.d (.int j)) Q = Q (.d (.bool (decide (i = j)))) := by rw [gEq_of rfl rfl]; simp [Vl.all]
@[simp] theorem s_gNeI (i j : Int) : gNe (.d (.int i)) (.d (.int j)) Q = Q (.d (.bool (!decide (i = j)))) := by rw [gNe_of rfl rfl]; simp [Vl.all]
@[simp] theorem s_gEqS (i j : Str) : gEq (.d (.str i)) (.d (.str j)) Q = Q (.d (.bool (decide (i = j)))) := by rw [gEq_of rfl rfl]; simp [Vl.all]
@[simp] theorem s_gNeS (i j : Str) : gNe (.d (.str i)) (.d (.str j)) Q = Q (.d (.bool (!decide (i = j)))) := by rw [gNe_of rfl rfl]; simp [Vl.all]
/-! items -/
theorem gIx_list {ds : List D} {i : Int} {v : D} (h : L2.atI ds i = some v) : gIx (.d (.list ds)) (.d (.int i)) Q = Q (.d v) := by
  show (match L2.atI ds i with | some v => Q (.d v) | none => False) = _
  rw [h]
theorem gIx_tup {ds : List D} {i : Int} {v : D} (h : L2.atI ds i = some v) : gIx (.d (.tuple ds)) (.d (.int i)) Q = Q (.d v) := by
  show (match L2.atI ds i with | some v => Q (.d v) | none => False) = _
  rw [h]
theorem gIx_own {ds : List D} {i : Int} {v : D} (h : L2.atI ds i = some v) : gIx (.o (.list ds)) (.d (.int i)) Q = Q (.d v) := by
  show (match L2.atI ds i with | some v => Q (.d v) | none => False) = _
  rw [h]
theorem gIx_scr {ns : List Int} {i v : Int} (h : L2.atI ns i = some v) : gIx (.s ns) (.d (.int i)) Q = Q (.d (.int v)) := by
  show (match L2.atI ns i with | some v => Q (.d (.int v)) | none => False) = _
  rw [h]
@[simp] theorem s_ixT0 (a : D) (r : List D) : gIx (.d (.tuple (a :: r))) (.d (.int 0)) Q = Q (.d a) := gIx_tup (L2.atI_nat (j := 0) rfl)
@[simp] theorem s_ixT1 (a b : D) (r : List D) : gIx (.d (.tuple (a :: b :: r))) (.d (.int 1)) Q = Q (.d b) := gIx_tup (L2.atI_nat (j := 1) rfl)
@[simp] theorem s_ixL0 (a : D) (r : List D) : gIx (.d (.list (a :: r))) (.d (.int 0)) Q = Q (.d a) := gIx_list (L2.atI_nat (j := 0) rfl)
@[simp] theorem s_ixL1 (a b : D) (r : List D) : gIx (.d (.list (a :: b :: r))) (.d (.int 1)) Q = Q (.d b) := gIx_list (L2.atI_nat (j := 1) rfl)
@[simp] theorem s_gIsN (x : D) : gIs (.d x) (.d .none) Q = Q (.d (.bool (isNone (.d x)))) := by cases x <;> rfl
@[simp] theorem s_gIsNotN (x : D) : gIsNot (.d x) (.d .none) Q = Q (.d (.bool (!isNone (.d x)))) := by cases x <;> rfl
@[simp] theorem s_isNone : isNone (.d .none) = true := rfl
@[simp] theorem s_isNoneI (i : Int) : isNone (.d (.int i)) = false := rfl
@[simp] theorem s_isNoneL (i : List D) : isNone (.d (.list i)) = false := rfl
@[simp] theorem s_isNoneT (i : List D) : isNone (.d (.tuple i)) = false := rfl
@[simp] theorem s_gLenS (ns : List Int) : gLen [.s ns] Q = Q (.d (.int ns.length)) := rfl
@[simp] theorem s_gLenL (ds : List D) : gLen [.d (.list ds)] Q = Q (.d (.int ds.length)) := rfl
@[simp] theorem s_gLenT (ds : List D) : gLen [.d (.tuple ds)] Q = Q (.d (.int ds.length)) := rfl
@[simp] theorem s_gLenO (ds : List D) : gLen [.o (.list ds)] Q = Q (.d (.int ds.length)) := rfl
@[simp] theorem s_gLenX (z : Str) : gLen [.d (.str z)] Q = (z.length ≤ sizeLine ∧ Q (.d (.int z.length))) := rfl
@[simp] theorem s_gAbs (i : Int) : gAbs [.d (.int i)] Q = Q (.d (.int (if i < 0 then -i else i))) := rfl
@[simp] theorem s_gMax2 (i j : Int) : gMax2 [.d (.int i), .d (.int j)] Q = Q (.d (.int (if j > i then j else i))) := rfl
@[simp] theorem s_gMin2 (i j : Int) : gMin2 [.d (.int i), .d (.int j)] Q = Q (.d (.int (if j < i then j else i))) := rfl
@[simp] theorem s_gInt1 (i : Int) : gInt1 [.d (.int i)] Q = Q (.d (.int i)) := rfl
@[simp] theorem s_gInt1b (i : Bool) : gInt1 [.d (.bool i)] Q = Q (.d (.int (if i then 1 else 0))) := rfl
/-! kinds -/
def isiB (Ty : String) (d : D) : Bool := match kitB (tyD d) Ty with
  | some b => b
  | none => false
def isI : D → Bool
  | .int _ => true
  | .bool _ => true
  | _ => false
def isB : D → Bool
  | .bool _ => true
  | _ => false
def isT : D → Bool
  | .tuple _ => true
  | _ => false
def isL : D → Bool
  | .list _ => true
  | _ => false
def isS : D → Bool
  | .str _ => true
  | _ => false
def isK : D → Bool
  | .dict _ => true
  | _ => false
theorem gIsi_of {Ty : String} {d : D} {b : Bool} (h : kitB (tyD d) Ty = some b) : gIsi Ty (some d) Q = Q (.d (.bool b)) := by
  show (match kitB (tyD d) Ty with | some b => Q (.d (.bool b)) | none => False) = _
  rw [h]
@[simp] theorem s_isI (d : D) : gIsi "int" (some d) Q = Q (.d (.bool (isI d))) := gIsi_of (by cases d <;> (simp only [tyD, isI]; decide +kernel))
@[simp] theorem s_isB (d : D) : gIsi "bool" (some d) Q = Q (.d (.bool (isB d))) := gIsi_of (by cases d <;> (simp only [tyD, isB]; decide +kernel))
@[simp] theorem s_isT (d : D) : gIsi "tuple" (some d) Q = Q (.d (.bool (isT d))) := gIsi_of (by cases d <;> (simp only [tyD, isT]; decide +kernel))
@[simp] theorem s_isL (d : D) : gIsi "list" (some d) Q = Q (.d (.bool (isL d))) := gIsi_of (by cases d <;> (simp only [tyD, isL]; decide +kernel))
@[simp] theorem s_isS (d : D) : gIsi "str" (some d) Q = Q (.d (.bool (isS d))) := gIsi_of (by cases d <;> (simp only [tyD, isS]; decide +kernel))
@[simp] theorem s_isK (d : D) : gIsi "dict" (some d) Q = Q (.d (.bool (isK d))) := gIsi_of (by cases d <;> (simp only [tyD, isK]; decide +kernel))
@[simp] theorem s_dIsi (Ty : String) (Ta : DE) : dIsi Ty Ta xc ρ Q = Ta xc ρ fun x => gIsi Ty x.dat Q := rfl
@[simp] theorem s_datD (x : D) : Vl.dat (.d x) = some x := rfl
@[simp] theorem s_datO (x : D) : Vl.dat (.o x) = some x := rfl
/-! statements -/
@[simp] theorem s_dNext : dNext e ρ = e.nx ρ := rfl
@[simp] theorem s_dSeq (t u : DS) : dSeq t u e ρ = t { e with nx := u e } ρ := rfl
@[simp] theorem s_dDrop (Te : DE) : dDrop Te e ρ = Te e.xc ρ fun _ => e.nx ρ := rfl
@[simp] theorem s_gRet (x : D) : gRet (.d x) e = e.rt x := rfl
@[simp] theorem s_gRetO (x : D) : gRet (.o x) e = e.rt x := rfl
@[simp] theorem s_dRet (Te : DE) : dRet Te e ρ = Te e.xc ρ fun v => gRet v e := rfl
@[simp] theorem s_gSet (i : Nat) (x : D) (k : DSt → Prop) : gSet i (.d x) ρ k = k (ρ.set i (some (.d x))) := rfl
@[simp] theorem s_dSet (i : Nat) (Te : DE) : dSet i Te e ρ = Te e.xc ρ fun v => gSet i v ρ e.nx := rfl
@[simp] theorem s_dAsg (t : Tgt) (Te : DE) : dAsg t Te e ρ = Te e.xc ρ fun v => gAsg t v ρ e.nx := rfl
@[simp] theorem s_gAsg2 (i j : Nat) (a b : D) (k : DSt → Prop) : gAsg (.tp [i, j]) (.d (.tuple [a, b])) ρ k = k ((ρ.set i (some (.d a))).set j (some (.d b))) := rfl
@[simp] theorem s_gAsg3 (i j l : Nat) (a b c : D) (k : DSt → Prop) : gAsg (.tp [i, j, l]) (.d (.tuple [a, b, c])) ρ k = k (((ρ.set i (some (.d a))).set j (some (.d b))).set l (some (.d c))) := rfl
@[simp] theorem s_gPar (i j : Nat) (a b : D) (k : DSt → Prop) : gPar i j [.d a, .d b] ρ k = k ((ρ.set i (some (.d a))).set j (some (.d b))) := rfl
@[simp] theorem s_dPar (i j : Nat) (Al : DA) : dPar i j Al e ρ = Al e.xc ρ fun vs => gPar i j vs ρ e.nx := rfl
@[simp] theorem s_dIf (tc : DT) (t u : DS) : dIf tc t u e ρ = tc e.xc ρ fun k => bc k (t e ρ) (u e ρ) := rfl
@[simp] theorem s_dRaise (C : Str) : dRaise C e ρ = e.xc C := rfl
@[simp] theorem s_dFor (ti : DI) (t : Tgt) (tb : DS) : dFor ti t tb e ρ = ti e.xc ρ fun ds => forL t tb e ds ρ := rfl
@[simp] theorem s_forL0 (t : Tgt) (tb : DS) : forL t tb e [] ρ = e.nx ρ := rfl
@[simp] theorem s_gSeq (ds : List D) (k : List D → Prop) : gSeq (.d (.list ds)) k = k ds := rfl
@[simp] theorem s_gSeqT (ds : List D) (k : List D → Prop) : gSeqT (.d (.tuple ds)) k = k ds := rfl
@[simp] theorem s_dWalk (Te : DE) (k : List D → Prop) : dWalk Te xc ρ k = Te xc ρ fun v => gSeq v k := rfl
@[simp] theorem s_dWalkT (Te : DE) (k : List D → Prop) : dWalkT Te xc ρ k = Te xc ρ fun v => gSeqT v k := rfl
@[simp] theorem s_gRng1 (j : Int) (k : List D → Prop) : gRng1 [.d (.int j)] k = ((-(2 ^ 62) ≤ j ∧ j < 2 ^ 62) ∧ k (rangeD 0 j.toNat)) := rfl
@[simp] theorem s_gRng2 (i j : Int) (k : List D → Prop) : gRng2 [.d (.int i), .d (.int j)] k = ((-(2 ^ 62) ≤ i ∧ i < 2 ^ 62 ∧ -(2 ^ 62) ≤ j ∧ j < 2 ^ 62) ∧ k (rangeD i (j - i).toNat)) := rfl
@[simp] theorem s_dRng1 (Al : DA) (k : List D → Prop) : dRng1 Al xc ρ k = Al xc ρ fun vs => gRng1 vs k := rfl
@[simp] theorem s_dRng2 (Al : DA) (k : List D → Prop) : dRng2 Al xc ρ k = Al xc ρ fun vs => gRng2 vs k := rfl
@[simp] theorem s_dCall (F : Ct) (Al : DA) : dCall F Al xc ρ Q = Al xc ρ fun xs => noOwn xs = true ∧ F xs (fun d => Q (.d d)) xc := rfl
@[simp] theorem s_noOwn0 : noOwn [] = true := rfl
@[simp] theorem s_noOwnD (x : D) (r : List Vl) : noOwn (.d x :: r) = noOwn r := rfl
@[simp] theorem s_noOwnS (x : List Int) (r : List Vl) : noOwn (.s x :: r) = noOwn r := rfl
@[simp] theorem s_dYes (k : Bool → Prop) : dYes xc ρ k = k true := rfl
@[simp] theorem s_dOwnL (i : Nat) (Al : DA) : dOwnL i Al e ρ = Al e.xc ρ fun xs => gOwnL i xs ρ e.nx := rfl
@[simp] theorem s_ownL0 (i : Nat) (k : DSt → Prop) : gOwnL i [] ρ k = k (ρ.set i (some (.o (.list [])))) := by
  show (0 ≤ sizeLine ∧ _) = _
  simp
@[simp] theorem s_ownL1 (i : Nat) (a : D) (k : DSt → Prop) : gOwnL i [.d a] ρ k = k (ρ.set i (some (.o (.list [a])))) := by
  show (1 ≤ sizeLine ∧ _) = _
  simp only [show (1 ≤ sizeLine) = True from eq_true (by decide), true_and]
@[simp] theorem s_gApp (i : Nat) (ds : List D) (x : D) (k : DSt → Prop) : gApp i ds (.d x) ρ k = (ds.length < sizeLine ∧ k (ρ.set i (some (.o (.list (ds ++ [x])))))) := rfl
@[simp] theorem s_ownLo (ds : List D) (k : List D → Prop) : ownL (some (some (.o (.list ds)))) k = k ds := rfl
@[simp] theorem s_dApp (i : Nat) (Te : DE) : dApp i Te e ρ = ownL ρ[i]? fun ds => Te e.xc ρ fun v => gApp i ds v ρ e.nx := rfl
@[simp] theorem s_gNeg (i : Int) : gNeg (.d (.int i)) Q = Q (.d (.int (-i))) := rfl
@[simp] theorem s_dNeg (Ta : DE) : dNeg Ta xc ρ Q = Ta xc ρ fun x => gNeg x Q := rfl
@[simp] theorem s_dTold (cs : List Str) (Te : DE) : dTold cs Te xc ρ Q = Te (fun c => cs.contains c = true ∧ Q (.d (.str c))) ρ Q := rfl
theorem gAll_of {ds : List D} {bs : List Bool} (h : bools? ds = some bs) : gAll [.d (.list ds)] Q = Q (.d (.bool (bs.all id))) := by
  show (match bools? ds with | some bs => Q (.d (.bool (bs.all id))) | none => False) = _
  rw [h]
theorem gAny_of {ds : List D} {bs : List Bool} (h : bools? ds = some bs) : gAny [.d (.list ds)] Q = Q (.d (.bool (bs.any id))) := by
  show (match bools? ds with | some bs => Q (.d (.bool (bs.any id))) | none => False) = _
  rw [h]
theorem gSum_of {ds : List D} {bs : List Int} (h : ints? ds = some bs) : gSum [.d (.list ds)] Q = Q (.d (.int bs.sum)) := by
  show (match ints? ds with | some bs => Q (.d (.int bs.sum)) | none => False) = _
  rw [h]
theorem gSorted_of {ds : List D} {bs : List Int} (h : ints? ds = some bs) : gSorted [.d (.list ds)] Q = Q (.d (.list ((isort bs).map .int))) := by
  show (match ints? ds with | some bs => Q (.d (.list ((isort bs).map .int))) | none => False) = _
  rw [h]
@[simp] theorem s_gListL (ds : List D) : gListOf [.d (.list ds)] Q = Q (.d (.list ds)) := rfl
@[simp] theorem s_gListT (ds : List D) : gListOf [.d (.tuple ds)] Q = Q (.d (.list ds)) := rfl
@[simp] theorem s_gTupleL (ds : List D) : gTupleOf [.d (.list ds)] Q = Q (.d (.tuple ds)) := rfl
@[simp] theorem s_gStr (i : Int) : gStr [.d (.int i)] Q = (i.natAbs.log2 < 1920 ∧ Q (.d (.str (toString i)))) := rfl
theorem gIntS_of {a : Str} {n : Int} (h : PySem.intText? a = some n) (hl : a.length ≤ 640) (hq : Q (.d (.int n))) : gIntS [.d (.str a)] Q := ⟨n, h, hl, hq⟩
/-! comprehensions: each item gives a value -/
theorem lc_map {tt : Tgt} {tc : DT} {te : DE} {f : D → D} {p : D → Bool} : ∀ (ds acc : List D) (k : List D → Prop), acc.length + ds.length ≤ sizeLine →
    (∀ d ∈ ds, ∃ ρ', bindT tt d ρ = some ρ' ∧ ∀ k : Bool → Prop, k (p d) → tc noX ρ' k) → (∀ d ∈ ds, p d = true → ∃ ρ', bindT tt d ρ = some ρ' ∧ ∀ Q : Vl → Prop, Q (.d (f d)) → te noX ρ' Q) →
    k (acc ++ (ds.filter p).map f) → lcL tt tc te ρ ds acc k
  | [], acc, k, _, _, _, h => by simpa [lcL] using h
  | d :: r, acc, k, hl, h1, h2, h => by
    obtain ⟨ρ', e1, t1⟩ := h1 d List.mem_cons_self
    show gBnd (bindT tt d ρ) _
    rw [e1]
    refine t1 _ ?_
    cases hp : p d with
    | true =>
      obtain ⟨ρ2, e2, t2⟩ := h2 d List.mem_cons_self hp
      rw [e1] at e2
      cases e2
      refine t2 _ ?_
      refine ⟨by simp at hl; omega, lc_map r _ k (by simp at hl ⊢; omega) (fun x hx => h1 x (List.mem_cons_of_mem _ hx)) (fun x hx => h2 x (List.mem_cons_of_mem _ hx)) ?_⟩
      simpa [List.filter_cons, hp] using h
    | false =>
      refine lc_map r acc k (by simp at hl ⊢; omega) (fun x hx => h1 x (List.mem_cons_of_mem _ hx)) (fun x hx => h2 x (List.mem_cons_of_mem _ hx)) ?_
      simpa [List.filter_cons, hp] using h
theorem lc_nm {i : Nat} {te : DE} {f : D → D} {ds : List D} {k : List D → Prop} (hl : ds.length ≤ sizeLine) (h : ∀ d ∈ ds, ∀ Q : Vl → Prop, Q (.d (f d)) → te noX (ρ.set i (some (.d d))) Q) (hk : k (ds.map f)) : lcL (.nm i) dYes te ρ ds [] k :=
  lc_map (p := fun _ => true) (f := f) ds [] k (by simpa using hl) (fun d _ => ⟨_, rfl, fun k hk => hk⟩) (fun d hd _ => ⟨_, rfl, fun Q hQ => h d hd Q hQ⟩) (by rw [List.nil_append, List.filter_eq_self.mpr (fun _ _ => rfl)]; exact hk)
theorem lc_nmF {i : Nat} {tc : DT} {te : DE} {f : D → D} {p : D → Bool} {ds : List D} {k : List D → Prop} (hl : ds.length ≤ sizeLine) (h1 : ∀ d ∈ ds, ∀ k : Bool → Prop, k (p d) → tc noX (ρ.set i (some (.d d))) k) (h : ∀ d ∈ ds, p d = true → ∀ Q : Vl → Prop, Q (.d (f d)) → te noX (ρ.set i (some (.d d))) Q) (hk : k ((ds.filter p).map f)) : lcL (.nm i) tc te ρ ds [] k :=
  lc_map (p := p) (f := f) ds [] k (by simpa using hl) (fun d hd => ⟨_, rfl, fun k hk => h1 d hd k hk⟩) (fun d hd hp => ⟨_, rfl, fun Q hQ => h d hd hp Q hQ⟩) (by simpa using hk)
@[simp] theorem s_dLc (ti : DI) (tt : Tgt) (tc : DT) (te : DE) (vs : List Nat) : dLc ti tt tc te vs xc ρ Q = (ownFree ρ vs = true ∧ ti xc ρ fun ds => lcL tt tc te (wipeD ρ vs) ds [] fun acc => Q (.d (.list acc))) := rfl
theorem few {n m : Nat} (h : n ≤ m) (hm : m ≤ 1000000 := by decide) : n ≤ sizeLine := by
  rw [sizeLine_eq]; omega
theorem fewer {n m : Nat} (h : n ≤ m) (hm : m < 1000000 := by decide) : n < sizeLine := by
  rw [sizeLine_eq]; omega
/-- the loop's steps as they stand -/
theorem for_ind {t : Tgt} {tb : DS} (I : List D → DSt → Prop) : ∀ {ds : List D} {ρ : DSt}, I ds ρ → (∀ d r ρ (K : DSt → Prop), I (d :: r) ρ → (∀ ρ, I r ρ → K ρ) → ∃ ρ', bindT t d ρ = some ρ' ∧ tb { e with nx := K, ct := K, bk := e.nx } ρ') → (∀ ρ, I [] ρ → e.nx ρ) → forL t tb e ds ρ
  | [], ρ, h, _, h3 => h3 ρ h
  | d :: r, ρ, h, h2, h3 => by
    obtain ⟨ρ', e1, hb⟩ := h2 d r ρ (forL t tb e r) h (fun ρ h => for_ind I h h2 h3)
    show gBnd (bindT t d ρ) _
    rw [e1]
    exact hb
/-- a while loop: a measure falls -/
theorem while_ind {tc : DT} {tb : DS} (I : Nat → DSt → Prop) (h2 : ∀ n ρ (K : DSt → Prop), I n ρ → (∀ m ρ, m < n → I m ρ → K ρ) → tc e.xc ρ fun k => bc k (tb { e with nx := K, ct := K, bk := e.nx } ρ) (e.nx ρ)) {n : Nat} {ρ : DSt} (h : I n ρ) : dWhile tc tb e ρ := by
  have key : ∀ N n ρ, n < N → I n ρ → whileN tc tb e N ρ := by
    intro N
    induction N with
    | zero => intro n ρ h _; exact absurd h (Nat.not_lt_zero n)
    | succ N ih => intro n ρ hn hI; exact h2 n ρ (whileN tc tb e N) hI fun m ρ' hm hI' => ih m ρ' (by omega) hI'
  exact ⟨n + 1, key (n + 1) n ρ (Nat.lt_succ_self n) h⟩
end DL

/-! Data: the ends. -/
namespace DL
open PySem L2 LamX
def caOf : List (Str × Addr) → Str → Addr
  | [], _ => 0
  | (x, a) :: l, y => if y = x then a else caOf l y
theorem ca1 {x : Str} {a : Addr} {l : List (Str × Addr)} : caOf ((x, a) :: l) x = a := if_pos rfl
theorem ca2 {x y : Str} {a : Addr} {l : List (Str × Addr)} (h : ¬ y = x) : caOf ((x, a) :: l) y = caOf l y := if_neg h
/-- the facts about one class of refusals -/
structure ClsF (K : PySem.W.Frag) (C CN : Addr) : Prop where
  ei : PySem.W.excIn K C [.type "ValueError", .type "Exception", .type "BaseException", .type "object"] "ValueError.__new__" = true
  kC : PySem.W.keepIn K (.ref C) = true
  r1 : PySem.W.subIn K (.ref C) (.type "BaseException") = some true
  r2 : PySem.W.typeIn K (.ref C) = some (.type "type")
  iv : PySem.W.kitOne K (.ref C) (.type "ValueError") = some true
  ex : PySem.W.exmOne K (.ref C) (.ref CN) = some true
  hg : PySem.W.findIn K (.ref C) "__getattribute__" = some (some (.builtin "BaseException.__getattribute__"))
  hk : PySem.W.findIn K (.ref C) "__getattr__" = some none
  hd : PySem.W.hasDictIn K C = true
  ha : PySem.W.findIn K (.ref C) "__class__" = some (some (.builtin "object.__class__"))
  hn : PySem.W.specialIn K (.builtin "object.__class__") "__get__" = some (some (.builtin "getset_descriptor.__get__"))
  ht : PySem.W.takesIn K (.builtin "object.__class__") = some true
  hm : PySem.W.mroIn K C (.type "object") = some true
section
variable {P : Program} {w : World} {K : PySem.W.Frag} {mg : Str → Option Value} {base : Heap} {T : Wd}
theorem ClsF.exC {C CN : Addr} {x : Str} (h : ClsF K C CN) (e : T.ca x = C) (hm : mg x = some (.ref C)) : ExC K mg T x := by
  subst e
  exact ⟨h.ei, hm, h.kC, h.r1, h.r2⟩
theorem ClsF.excC {C CN : Addr} {x : Str} (h : ClsF K C CN) (e : T.ca x = C) : ExcC K (T.ca x) := by
  subst e
  exact ⟨h.hg, h.hk, h.r1, h.hd, h.ha, h.hn, h.ht, h.hm⟩
theorem df_mk {x : Str} {st : Stmt} {f : Addr} {fd : FuncData} {ps : List Str} {k n : Nat} {F : Ct} (Fn : Fun K x x st f fd) (hm : mg x = some (.ref f)) (hb : Binds K fd ps []) (hn : ∀ xs q xc, F xs q xc → xs.length = n) (e : ps.length = n)
    (G : FnOk P w K mg base (L2N.CX P w) k f fd ps (spD K T ps.length F)) : Df P w K mg base T x k n F := by
  subst e
  exact ⟨⟨f, fd, ps, G, hm, Fn.kp, hb⟩, hn⟩
theorem sp_law {F : Ct} {n : Nat} (hF : ∀ ns : List Int, ns.length ≤ n → F [.s ns] (fun d => d = .bool true) fun _ => False) (H : Hp) (a : Addr) (ns : List Int) (hl : ns.length ≤ n) (ht : ∀ p ∈ T.tb, H p.1 = some (.tbl #[])) (hS : SqL K H a (ns.map V.int)) :
    spD K T 1 F [.ref a] H (fun v _ => v = .bl true) fun _ _ _ => False := by
  let Hd : Hp := fun b => match H b with
    | some (.tbl _) => none
    | o => o
  have hd : ∀ b o, H b = some o → (∀ ps, o ≠ .tbl ps) → Hd b = some o := fun b o e h => by
    show (match H b with | some (.tbl _) => none | o => o) = some o
    rw [e]
    split
    · rename_i q _ z
      exact absurd (Option.some.inj z) (h _)
    · rfl
  have hi : ∀ b o, Hd b = some o → H b = some o ∧ ∀ ps, o ≠ .tbl ps := fun b o e => by
    have e : (match H b with | some (.tbl _) => none | o => o) = some o := e
    split at e
    · cases e
    · rename_i q z
      exact ⟨e, fun ps y => z ps (by rw [e, y])⟩
  refine ⟨Hd, [.s ns], fun d => d = .bool true, fun _ => False, fun b o e => (hi b o e).1, fun b ps e => (hi b _ e).2 ps rfl, fun p hp => TabS.nil (ht p hp), .cons ⟨a, rfl, ?_⟩ .nil, rfl, hF ns hl, fun d v Hd' H' g dt e => ?_, fun _ _ _ _ z => z.elim⟩
  · rcases hS with (h | ⟨o, h⟩) | h
    · exact .inl (.inl (hd _ _ h fun ps z => by cases z))
    · exact .inl (.inr ⟨o, hd _ _ h fun ps z => by cases z⟩)
    · exact .inr h
  · subst e
    cases dt
    rfl
end
end DL

namespace DL
open PySem
def t__law_drawn : DS :=
  dSeq (dSet 2 (dOp gMod (dOp gAdd (dOp gMul (dVar 0) (dC (.int 6364136223846793005))) (dOp gMul (dOp gAdd (dVar 1) (dC (.int 1))) (dC (.int 1442695040888963407)))) (dC (.int 340282366920938463463374607431768211507)))) (dSeq (dSet 2 (dOp gMod (dOp gMul (dVar 2) (dVar 2)) (dC (.int 340282366920938463463374607431768211297)))) (dSeq (dSet 2 (dOp gMul (dOp gMul (dOp gAdd (dOp gMod (dVar 2) (dC (.int 18446744073709551557))) (dC (.int 1))) (dOp gAdd (dOp gFdiv (dVar 2) (dC (.int 18446744073709551557))) (dC (.int 1)))) (dVar 2))) (dRet (dOp gMod (dVar 2) (dC (.int 340282366920938463463374607431768211507))))))
def t__law_row (F__law_drawn : Ct) : DS :=
  dSeq (dOwnL 2 (dNil)) (dSeq (dFor (dRng1 (dCons (dOp gAdd (dC (.int 1)) (dOp gMod (dVar 0) (dVar 1))) (dNil))) (.nm 3) (dSeq (dSet 4 (dCall F__law_drawn (dCons (dVar 0) (dCons (dVar 3) (dNil))))) (dSeq (dSet 5 (dOp gIx (dLst (dCons (dC (.int 1)) (dCons (dC (.int 2)) (dCons (dC (.int 8)) (dCons (dC (.int 1)) (dCons (dC (.int 3)) (dCons (dC (.int 12)) (dCons (dC (.int 27)) (dCons (dC (.int 2)) (dCons (dC (.int 5)) (dCons (dC (.int 50)) (dCons (dC (.int 99)) (dCons (dOp gAdd (dC (.int 1)) (dOp gMod (dOp gFdiv (dVar 4) (dOp gPow (dC (.int 2)) (dC (.int 20)))) (dC (.int 99)))) (dNil)))))))))))))) (dOp gMod (dVar 4) (dC (.int 12))))) (dSeq (dSet 6 (dOp gIx (dLst (dCons (dOp gSub (dOp gMod (dOp gFdiv (dVar 4) (dC (.int 64))) (dC (.int 9))) (dC (.int 4))) (dCons (dOp gSub (dOp gMod (dOp gFdiv (dVar 4) (dC (.int 64))) (dC (.int 199))) (dC (.int 99))) (dCons (dOp gAdd (dC (.int 1)) (dOp gMod (dOp gFdiv (dVar 4) (dC (.int 64))) (dC (.int 3)))) (dNil))))) (dOp gMod (dOp gFdiv (dVar 4) (dC (.int 16))) (dC (.int 3))))) (dApp 2 (dTup (dCons (dVar 6) (dCons (dVar 5) (dNil))))))))) (dRet (dVar 2)))
def t__law_cell : DS :=
  dSeq (dIf (dTest (dOp gEq (dVar 0) (dLst (dNil)))) (dRet (dOp gMul (dVar 1) (dC (.int 7919)))) (dNext)) (dRet (dOp gAdd (dOp gIx (dVar 0) (dOp gMod (dVar 1) (dCB gLen (dCons (dVar 0) (dNil))))) (dOp gMul (dOp gFdiv (dVar 1) (dCB gLen (dCons (dVar 0) (dNil)))) (dC (.int 104729)))))
def t_is_count : DS :=
  dRet (dAndV (dIsi "int" (dVar 0)) (dAndV (dNotV (dIsi "bool" (dVar 0))) (dChain gLe gLe (dVar 1) (dVar 0) (dVar 2))))
def t_is_number (F_is_count : Ct) : DS :=
  dSeq (dSet 1 (dAndV (dIsi "tuple" (dVar 0)) (dOp gEq (dCB gLen (dCons (dVar 0) (dNil))) (dC (.int 2))))) (dRet (dAndV (dVar 1) (dAndV (dCall F_is_count (dCons (dOp gIx (dVar 0) (dC (.int 0))) (dCons (dOp gSub (dC (.int 0)) (dC (.int (99)))) (dCons (dC (.int (99))) (dNil))))) (dCall F_is_count (dCons (dOp gIx (dVar 0) (dC (.int 1))) (dCons (dC (.int 1)) (dCons (dC (.int (99))) (dNil))))))))
def t_need_number (F_is_number : Ct) : DS :=
  dIf (dNot (dTest (dCall F_is_number (dCons (dVar 0) (dNil))))) (dRaise "BadNumber") (dNext)
def t_plain_of : DS :=
  dSeq (dAsg (.tp [1, 2]) (dVar 0)) (dSeq (dSet 3 (dC (.int 2))) (dSeq (dWhile (dTest (dOp gLe (dOp gMul (dVar 3) (dVar 3)) (dVar 2))) (dIf (dTest (dOp gEq (dOp gMod (dVar 2) (dOp gMul (dVar 3) (dVar 3))) (dC (.int 0)))) (dPar 1 2 (dCons (dOp gMul (dVar 1) (dVar 3)) (dCons (dOp gFdiv (dVar 2) (dOp gMul (dVar 3) (dVar 3))) (dNil)))) (dSet 3 (dOp gAdd (dVar 3) (dC (.int 1)))))) (dRet (dIfE (dTest (dOp gNe (dVar 1) (dC (.int 0)))) (dTup (dCons (dVar 1) (dCons (dVar 2) (dNil)))) (dTup (dCons (dC (.int 0)) (dCons (dC (.int 1)) (dNil))))))))
def t_plain (F_need_number : Ct) (F_plain_of : Ct) : DS :=
  dSeq (dDrop (dCall F_need_number (dCons (dVar 0) (dNil)))) (dRet (dCall F_plain_of (dCons (dVar 0) (dNil))))
def t_need_row (F_is_number : Ct) : DS :=
  dIf (dOr (dNot (dTest (dIsi "list" (dVar 0)))) (dOr (dNot (dTest (dChain gLe gLe (dC (.int 1)) (dCB gLen (dCons (dVar 0) (dNil))) (dC (.int (5)))))) (dNot (dTest (dCB gAll (dCons (dLc (dWalk (dVar 0)) (.nm 1) (dYes) (dCall F_is_number (dCons (dVar 1) (dNil))) [1]) (dNil))))))) (dRaise "BadRow") (dNext)
def t_need_times (F_is_count : Ct) : DS :=
  dSeq (dSet 2 (dAndV (dIsi "list" (dVar 1)) (dOp gEq (dCB gLen (dCons (dVar 1) (dNil))) (dCB gLen (dCons (dVar 0) (dNil)))))) (dIf (dOr (dNot (dTest (dVar 2))) (dNot (dTest (dCB gAll (dCons (dLc (dWalk (dVar 1)) (.nm 3) (dYes) (dCall F_is_count (dCons (dVar 3) (dCons (dOp gSub (dC (.int 0)) (dC (.int (1000)))) (dCons (dC (.int (1000))) (dNil))))) [3]) (dNil)))))) (dRaise "BadRow") (dNext))
def t_need_count (F_is_count : Ct) : DS :=
  dIf (dNot (dTest (dCall F_is_count (dCons (dVar 0) (dCons (dVar 1) (dCons (dVar 2) (dNil))))))) (dRaise "BadNumber") (dNext)
def t_root_below : DS :=
  dSeq (dPar 1 2 (dCons (dC (.int 0)) (dCons (dOp gAdd (dVar 0) (dC (.int 1))) (dNil)))) (dSeq (dWhile (dTest (dOp gGt (dOp gSub (dVar 2) (dVar 1)) (dC (.int 1)))) (dSeq (dSet 3 (dOp gFdiv (dOp gAdd (dVar 1) (dVar 2)) (dC (.int 2)))) (dIf (dTest (dOp gLe (dOp gMul (dVar 3) (dVar 3)) (dVar 0))) (dSet 1 (dVar 3)) (dSet 2 (dVar 3))))) (dRet (dVar 1)))
def t_power_of : DS :=
  dSeq (dSet 1 (dC (.int 1))) (dSeq (dFor (dRng1 (dCons (dVar 0) (dNil))) (.nm 2) (dSet 1 (dOp gMul (dVar 1) (dC (.int 10))))) (dRet (dVar 1)))
def t_digits_of (F_power_of : Ct) (F_root_below : Ct) : DS :=
  dSeq (dAsg (.tp [2, 3]) (dVar 0)) (dSeq (dSet 4 (dOp gMul (dOp gMul (dOp gMul (dVar 2) (dVar 2)) (dVar 3)) (dCall F_power_of (dCons (dOp gMul (dC (.int 2)) (dVar 1)) (dNil))))) (dSeq (dSet 5 (dCall F_root_below (dCons (dVar 4) (dNil)))) (dSeq (dIf (dTest (dOp gGe (dVar 2) (dC (.int 0)))) (dRet (dVar 5)) (dNext)) (dRet (dIfE (dTest (dOp gEq (dOp gMul (dVar 5) (dVar 5)) (dVar 4))) (dOp gSub (dC (.int 0)) (dVar 5)) (dOp gSub (dOp gSub (dC (.int 0)) (dVar 5)) (dC (.int 1))))))))
def t_digits (F_need_number : Ct) (F_need_count : Ct) (F_digits_of : Ct) : DS :=
  dSeq (dDrop (dCall F_need_number (dCons (dVar 0) (dNil)))) (dSeq (dDrop (dCall F_need_count (dCons (dVar 1) (dCons (dC (.int 0)) (dCons (dC (.int (30))) (dNil)))))) (dRet (dCall F_digits_of (dCons (dVar 0) (dCons (dVar 1) (dNil))))))
def t__law_refused_k10 (cs : List Str) (F_plain : Ct) (F_digits : Ct) (F_need_row : Ct) (F_need_times : Ct) : DS :=
  dSeq (dSet 1 (dLst (dCons (dC .none) (dCons (dTup (dNil)) (dCons (dTup (dCons (dC (.int 1)) (dNil))) (dCons (dLst (dCons (dC (.int 1)) (dCons (dC (.int 2)) (dNil)))) (dCons (dTup (dCons (dC (.int 1)) (dCons (dC (.int 0)) (dNil)))) (dCons (dTup (dCons (dC (.int 1)) (dCons (dC (.int 100)) (dNil)))) (dCons (dTup (dCons (dC (.int 100)) (dCons (dC (.int 1)) (dNil)))) (dCons (dTup (dCons (dNeg (dC (.int 100))) (dCons (dC (.int 1)) (dNil)))) (dCons (dTup (dCons (dC (.bool true)) (dCons (dC (.int 1)) (dNil)))) (dCons (dTup (dCons (dC (.int 1)) (dCons (dC (.bool true)) (dNil)))) (dNil))))))))))))) (dSeq (dFor (dWalk (dOp gAdd (dVar 1) (dLst (dCons (dTup (dCons (dC (.int 1)) (dCons (dC .none) (dNil)))) (dCons (dTup (dCons (dC (.int 1)) (dCons (dC (.int 2)) (dCons (dC (.int 3)) (dNil))))) (dNil)))))) (.nm 2) (dSeq (dOwnL 3 (dCons (dTold cs (dCall F_plain (dCons (dVar 2) (dNil)))) (dNil))) (dSeq (dApp 3 (dTold cs (dCall F_digits (dCons (dVar 2) (dCons (dC .none) (dNil)))))) (dIf (dOr (dTest (dOp gNe (dVar 3) (dOp gMul (dLst (dCons (dC (.str "BadNumber")) (dNil))) (dC (.int 2))))) (dTest (dOp gNe (dTold cs (dCall F_need_row (dCons (dLst (dCons (dVar 2) (dNil))) (dNil)))) (dC (.str "BadRow"))))) (dRet (dC (.bool false))) (dNext))))) (dSeq (dFor (dWalk (dLst (dCons (dNeg (dC (.int 1))) (dCons (dC (.int 31)) (dCons (dC .none) (dCons (dC (.bool true)) (dNil))))))) (.nm 2) (dIf (dTest (dOp gNe (dTold cs (dCall F_digits (dCons (dTup (dCons (dC (.int 1)) (dCons (dC (.int 2)) (dNil)))) (dCons (dVar 2) (dNil))))) (dC (.str "BadNumber")))) (dRet (dC (.bool false))) (dNext))) (dSeq (dFor (dWalk (dLst (dCons (dC .none) (dCons (dTup (dNil)) (dCons (dLst (dNil)) (dCons (dCB gTupleOf (dCons (dVar 0) (dNil))) (dCons (dOp gMul (dLst (dCons (dTup (dCons (dC (.int 1)) (dCons (dC (.int 1)) (dNil)))) (dNil))) (dC (.int 6))) (dNil)))))))) (.nm 2) (dIf (dTest (dOp gNe (dTold cs (dCall F_need_row (dCons (dVar 2) (dNil)))) (dC (.str "BadRow")))) (dRet (dC (.bool false))) (dNext))) (dSeq (dSet 4 (dCB gLen (dCons (dVar 0) (dNil)))) (dSeq (dFor (dWalk (dLst (dCons (dC .none) (dCons (dOp gMulT (dTup (dCons (dC (.int 0)) (dNil))) (dVar 4)) (dCons (dOp gMul (dLst (dCons (dC (.int 0)) (dNil))) (dOp gAdd (dVar 4) (dC (.int 1)))) (dCons (dOp gMul (dLst (dCons (dC (.int 1001)) (dNil))) (dVar 4)) (dCons (dOp gMul (dLst (dCons (dC (.bool true)) (dNil))) (dVar 4)) (dCons (dOp gMul (dLst (dCons (dC .none) (dNil))) (dVar 4)) (dNil))))))))) (.nm 2) (dIf (dTest (dOp gNe (dTold cs (dCall F_need_times (dCons (dVar 0) (dCons (dVar 2) (dNil))))) (dC (.str "BadRow")))) (dRet (dC (.bool false))) (dNext))) (dSeq (dSet 5 (dOp gMul (dLst (dCons (dNeg (dC (.int 1000))) (dNil))) (dCB gLen (dCons (dVar 0) (dNil))))) (dRet (dAndV (dOp gIs (dCall F_need_row (dCons (dVar 0) (dNil))) (dC .none)) (dAndV (dOp gIs (dCall F_need_times (dCons (dVar 0) (dCons (dVar 5) (dNil)))) (dC .none)) (dOp gEq (dVar 5) (dOp gMul (dLst (dCons (dNeg (dC (.int 1000))) (dNil))) (dCB gLen (dCons (dVar 0) (dNil))))))))))))))
def t__law_root : DS :=
  dSeq (dIf (dTest (dOp gLt (dVar 0) (dC (.int 2)))) (dRet (dVar 0)) (dNext)) (dSeq (dSet 1 (dCB gIntS (dCons (dOp gAdd (dC (.str "1")) (dOp gMulS (dC (.str "0")) (dOp gFdiv (dOp gAdd (dCB gLen (dCons (dCB gStr (dCons (dVar 0) (dNil))) (dNil))) (dC (.int 1))) (dC (.int 2))))) (dNil)))) (dSeq (dSet 2 (dOp gFdiv (dOp gAdd (dVar 1) (dOp gFdiv (dVar 0) (dVar 1))) (dC (.int 2)))) (dSeq (dWhile (dTest (dOp gLt (dVar 2) (dVar 1))) (dSeq (dSet 1 (dVar 2)) (dSet 2 (dOp gFdiv (dOp gAdd (dVar 1) (dOp gFdiv (dVar 0) (dVar 1))) (dC (.int 2)))))) (dRet (dVar 1)))))
def t__law_ten : DS :=
  dRet (dCB gIntS (dCons (dOp gAdd (dC (.str "1")) (dOp gMulS (dC (.str "0")) (dVar 0))) (dNil)))
def t__law_spans (F__law_ten : Ct) (F__law_root : Ct) : DS :=
  dSeq (dAsg (.tp [2, 3]) (dVar 0)) (dSeq (dSet 4 (dOp gMul (dOp gMul (dOp gMul (dVar 2) (dVar 2)) (dVar 3)) (dCall F__law_ten (dCons (dOp gMul (dC (.int 2)) (dVar 1)) (dNil))))) (dSeq (dSet 5 (dCall F__law_root (dCons (dVar 4) (dNil)))) (dSeq (dAsg (.tp [6, 7]) (dIfE (dTest (dOp gEq (dOp gMul (dVar 5) (dVar 5)) (dVar 4))) (dTup (dCons (dVar 5) (dCons (dVar 5) (dNil)))) (dTup (dCons (dVar 5) (dCons (dOp gAdd (dVar 5) (dC (.int 1))) (dNil)))))) (dRet (dIfE (dTest (dOp gGe (dVar 2) (dC (.int 0)))) (dTup (dCons (dVar 6) (dCons (dVar 7) (dNil)))) (dTup (dCons (dOp gSub (dC (.int 0)) (dVar 7)) (dCons (dOp gSub (dC (.int 0)) (dVar 6)) (dNil)))))))))
def t_law_k10 (F__law_drawn : Ct) (F__law_cell : Ct) (F__law_row : Ct) (F_plain : Ct) (F__law_spans : Ct) (F_digits : Ct) (F__law_ten : Ct) (F__law_refused_k10 : Ct) : DS :=
  dSeq (dFor (dRng1 (dCons (dCB gMax2 (dCons (dC (.int 1)) (dCons (dCB gMin2 (dCons (dC (.int 4)) (dCons (dCB gLen (dCons (dVar 0) (dNil))) (dNil)))) (dNil)))) (dNil))) (.nm 1) (dSeq (dSet 2 (dCall F__law_drawn (dCons (dCall F__law_cell (dCons (dVar 0) (dCons (dVar 1) (dNil)))) (dCons (dVar 1) (dNil))))) (dSeq (dSet 3 (dCall F__law_row (dCons (dOp gFdiv (dVar 2) (dC (.int 64))) (dCons (dC (.int 5)) (dNil))))) (dSeq (dFor (dWalk (dOp gAdd (dVar 3) (dLst (dCons (dTup (dCons (dC (.int 99)) (dCons (dC (.int 99)) (dNil)))) (dCons (dTup (dCons (dNeg (dC (.int 99))) (dCons (dC (.int 98)) (dNil)))) (dCons (dTup (dCons (dC (.int 0)) (dCons (dC (.int 50)) (dNil)))) (dCons (dTup (dCons (dC (.int 7)) (dCons (dC (.int 64)) (dNil)))) (dNil)))))))) (.nm 4) (dSeq (dAsg (.tp [5, 6]) (dCall F_plain (dCons (dVar 4) (dNil)))) (dSeq (dIf (dOr (dTest (dOp gNe (dOp gMul (dOp gMul (dVar 5) (dVar 5)) (dVar 6)) (dOp gMul (dOp gMul (dOp gIx (dVar 4) (dC (.int 0))) (dOp gIx (dVar 4) (dC (.int 0)))) (dOp gIx (dVar 4) (dC (.int 1)))))) (dTest (dOp gLt (dOp gMul (dVar 5) (dOp gIx (dVar 4) (dC (.int 0)))) (dC (.int 0))))) (dRet (dC (.bool false))) (dNext)) (dSeq (dIf (dOr (dTest (dOp gNe (dLc (dRng2 (dCons (dC (.int 2)) (dCons (dC (.int 10)) (dNil)))) (.nm 11) (dTest (dOp gEq (dOp gMod (dVar 6) (dOp gMul (dVar 11) (dVar 11))) (dC (.int 0)))) (dVar 11) [11]) (dLst (dNil)))) (dAnd (dTest (dOp gEq (dVar 5) (dC (.int 0)))) (dTest (dOp gNe (dVar 6) (dC (.int 1)))))) (dRet (dC (.bool false))) (dNext)) (dFor (dWalk (dLst (dCons (dC (.int 0)) (dCons (dC (.int 1)) (dCons (dC (.int 30)) (dCons (dOp gMod (dVar 2) (dC (.int 31))) (dNil))))))) (.nm 7) (dSeq (dAsg (.tp [8, 9]) (dCall F__law_spans (dCons (dVar 4) (dCons (dVar 7) (dNil))))) (dSeq (dIf (dTest (dOp gNe (dCall F_digits (dCons (dVar 4) (dCons (dVar 7) (dNil)))) (dVar 8))) (dRet (dC (.bool false))) (dNext)) (dSeq (dSet 10 (dOp gMul (dOp gMul (dOp gMul (dOp gIx (dVar 4) (dC (.int 0))) (dOp gIx (dVar 4) (dC (.int 0)))) (dOp gIx (dVar 4) (dC (.int 1)))) (dCall F__law_ten (dCons (dOp gMul (dC (.int 2)) (dVar 7)) (dNil))))) (dIf (dOr (dTest (dOp gGt (dOp gIx (dCB gSorted (dCons (dLst (dCons (dOp gMul (dVar 8) (dVar 8)) (dCons (dOp gMul (dVar 9) (dVar 9)) (dNil)))) (dNil))) (dC (.int 0))) (dVar 10))) (dTest (dOp gLt (dOp gIx (dCB gSorted (dCons (dLst (dCons (dOp gMul (dVar 8) (dVar 8)) (dCons (dOp gMul (dVar 9) (dVar 9)) (dNil)))) (dNil))) (dC (.int 1))) (dVar 10)))) (dRet (dC (.bool false))) (dNext)))))))))) (dIf (dNot (dTest (dCall F__law_refused_k10 (dCons (dVar 3) (dNil))))) (dRet (dC (.bool false))) (dNext)))))) (dRet (dC (.bool true)))
end DL

/-! Plain sums: whole roots, powers of ten as texts, sizes. -/
namespace DL
open PySem L2
/-! ### sizes -/
theorem log2_lt_of {n k : Nat} (h : n < 2 ^ k) (hk : 0 < k) : n.log2 < k := by
  by_cases h0 : n = 0
  · subst h0; simpa using hk
  · exact (Nat.log2_lt h0).mpr h
theorem lt_of_log2 {n k : Nat} (h : n.log2 < k) : n < 2 ^ k := by
  by_cases h0 : n = 0
  · subst h0; exact Nat.two_pow_pos k
  · exact (Nat.log2_lt h0).mp h
theorem log2_mono {a b : Nat} (h : a ≤ b) : a.log2 ≤ b.log2 := by
  have := lt_of_log2 (Nat.lt_succ_self b.log2)
  have := log2_lt_of (Nat.lt_of_le_of_lt h this) (Nat.succ_pos _)
  omega
theorem cml_l {i j : Int} (h1 : -(2 ^ 64) < i) (h2 : i < 2 ^ 64) : CMl i j := .inl (.inl ⟨h1, h2⟩)
theorem cml_r {i j : Int} (h1 : -(2 ^ 64) < j) (h2 : j < 2 ^ 64) : CMl i j := .inl (.inr ⟨h1, h2⟩)
theorem cml_w {i j : Int} (h1 : i.natAbs.log2 < 500000) (h2 : j.natAbs.log2 < 500000) : CMl i j := .inr (by show _ < _; omega)
theorem cdv_of {i j : Int} (h0 : j ≠ 0) (h1 : -(2 ^ 64) < j) (h2 : j < 2 ^ 64) : CDv i j := ⟨h0, by
  have : j.natAbs < 2 ^ 64 := by omega
  have := log2_lt_of this (by decide)
  omega⟩
theorem fdiv_pos {i j : Int} (h : 0 < j) : i.fdiv j = i / j := Int.fdiv_eq_ediv_of_nonneg _ (Int.le_of_lt h)
theorem fmod_pos {i j : Int} (h : 0 < j) : i.fmod j = i % j := Int.fmod_eq_emod_of_nonneg _ (Int.le_of_lt h)
/-! ### whole roots -/
def isqN : Nat → Nat
  | 0 => 0
  | n + 1 => if (isqN n + 1) * (isqN n + 1) ≤ n + 1 then isqN n + 1 else isqN n
theorem isqN_spec : ∀ n : Nat, isqN n * isqN n ≤ n ∧ n < (isqN n + 1) * (isqN n + 1)
  | 0 => by decide
  | n + 1 => by
    have ⟨h1, h2⟩ := isqN_spec n
    unfold isqN
    split
    · rename_i h
      refine ⟨h, ?_⟩
      have e : (isqN n + 1 + 1) * (isqN n + 1 + 1) = (isqN n + 1) * (isqN n + 1) + 2 * (isqN n + 1) + 1 := by simp only [Nat.add_mul, Nat.mul_add]; omega
      omega
    · rename_i h
      omega
def isq (i : Int) : Int := (isqN i.toNat : Nat)
theorem isq_nonneg (i : Int) : 0 ≤ isq i := Int.natCast_nonneg _
theorem isq_le {i : Int} (h : 0 ≤ i) : isq i * isq i ≤ i := by
  have := (isqN_spec i.toNat).1
  unfold isq
  rw [← Int.natCast_mul]
  omega
theorem lt_isq {i : Int} (h : 0 ≤ i) : i < (isq i + 1) * (isq i + 1) := by
  have := (isqN_spec i.toNat).2
  unfold isq
  rw [show ((isqN i.toNat : Nat) : Int) + 1 = ((isqN i.toNat + 1 : Nat) : Int) by simp, ← Int.natCast_mul]
  omega
theorem mul_lt_self {a b : Int} (ha : 0 ≤ a) (h : a < b) : a * a < b * b := by
  have h1 : a * a ≤ a * b := Int.mul_le_mul_of_nonneg_left (Int.le_of_lt h) ha
  have h2 : a * b < b * b := Int.mul_lt_mul_of_pos_right h (by omega)
  omega
theorem mul_le_self {a b : Int} (ha : 0 ≤ a) (h : a ≤ b) : a * a ≤ b * b := by
  rcases Int.lt_or_eq_of_le h with h | rfl
  · exact Int.le_of_lt (mul_lt_self ha h)
  · exact Int.le_refl _
theorem lt_of_sq {a b : Int} (hb : 0 ≤ b) (h : a * a < b * b) : a < b := by
  rcases Int.lt_or_le a b with q | q
  · exact q
  · have := mul_le_self hb q; omega
theorem isq_eq {i r : Int} (h0 : 0 ≤ r) (h1 : r * r ≤ i) (h2 : i < (r + 1) * (r + 1)) : isq i = r := by
  have hi : 0 ≤ i := Int.le_trans (Int.mul_nonneg h0 h0) h1
  have a1 := isq_le hi
  have a2 := lt_isq hi
  have a3 := isq_nonneg i
  have := lt_of_sq (a := r) (b := isq i + 1) (by omega) (by omega)
  have := lt_of_sq (a := isq i) (b := r + 1) (by omega) (by omega)
  omega
theorem le_isq {i r : Int} (h0 : 0 ≤ r) (h1 : r * r ≤ i) : r ≤ isq i := by
  have hi : 0 ≤ i := Int.le_trans (Int.mul_nonneg h0 h0) h1
  have := lt_of_sq (a := r) (b := isq i + 1) (by have := isq_nonneg i; omega) (by have := lt_isq hi; omega)
  omega
theorem isq_le_self {i : Int} (h : 0 ≤ i) : isq i ≤ i := by
  have a1 := isq_le h
  have a3 := isq_nonneg i
  rcases Int.lt_or_le (isq i) 1 with q | q
  · omega
  · have : isq i * 1 ≤ isq i * isq i := Int.mul_le_mul_of_nonneg_left q a3
    omega
/-- one step of the rule of halves -/
theorem newton_ge {S f : Int} (hS : 0 ≤ S) (hf : 1 ≤ f) : isq S ≤ (f + S / f) / 2 := by
  have a1 := isq_le hS
  have h1 : (2 * isq S - f) * f ≤ S := by
    have : 0 ≤ (isq S - f) * (isq S - f) := by
      rcases Int.le_total 0 (isq S - f) with q | q
      · exact Int.mul_nonneg q q
      · exact Int.mul_nonneg_of_nonpos_of_nonpos q q
    have e : (isq S - f) * (isq S - f) = isq S * isq S - (2 * isq S - f) * f := by
      simp only [Int.sub_mul, Int.mul_sub, Int.mul_assoc, Int.mul_comm f (isq S)]; omega
    omega
  have h2 : 2 * isq S - f ≤ S / f := (Int.le_ediv_iff_mul_le (by omega)).mpr h1
  omega
theorem newton_end {S f : Int} (hS : 0 ≤ S) (hf : 1 ≤ f) (hge : isq S ≤ f) (h : f ≤ (f + S / f) / 2) : isq S = f := by
  have h1 : f ≤ S / f := by omega
  have h2 : f * f ≤ S := (Int.le_ediv_iff_mul_le (by omega)).mp h1
  have := le_isq (by omega) h2
  omega
/-! ### texts of numbers -/
theorem foldl_dig : ∀ (n acc : Nat), (List.replicate n 48).foldl (fun acc c => acc * 10 + (c - 48)) acc = acc * 10 ^ n
  | 0, acc => by simp
  | n + 1, acc => by
    rw [List.replicate_succ, List.foldl_cons, foldl_dig n, Nat.pow_succ, Nat.mul_comm (10 ^ n) 10, ← Nat.mul_assoc]
    rfl
theorem sRep_toList (x : Str) : ∀ n : Nat, (sRep x n).cps.toList = (List.replicate n x.cps.toList).flatten := by
  intro n
  have key : ∀ (n : Nat) (acc : Array Nat), ((List.replicate n x.cps).foldl (· ++ ·) acc).toList = acc.toList ++ (List.replicate n x.cps.toList).flatten := by
    intro n
    induction n with
    | zero => intro acc; simp
    | succ n ih =>
      intro acc
      rw [List.replicate_succ, List.foldl_cons, ih, List.replicate_succ, List.flatten_cons]
      simp
  have := key n #[]
  simpa [sRep] using this
theorem ten_toList (n : Nat) : (("1" : Str) ++ sRep "0" n).cps.toList = 49 :: List.replicate n 48 := by
  have e1 : (("1" : Str) ++ sRep "0" n).cps = ("1" : Str).cps ++ (sRep "0" n).cps := rfl
  have e2 : ("1" : Str).cps.toList = [49] := by decide +kernel
  have e3 : ("0" : Str).cps.toList = [48] := by decide +kernel
  rw [e1, Array.toList_append, e2, sRep_toList, e3]
  have : ∀ n : Nat, (List.replicate n [48]).flatten = List.replicate n 48 := fun n => by
    induction n with
    | zero => rfl
    | succ n ih => rw [List.replicate_succ, List.flatten_cons, ih, List.replicate_succ]; rfl
  rw [this]
  rfl
theorem ten_len (n : Nat) : (("1" : Str) ++ sRep "0" n).length = n + 1 := by
  have := congrArg List.length (ten_toList n)
  rw [Array.length_toList, List.length_cons, List.length_replicate] at this
  exact this
theorem ten_text {n : Nat} (h : n < 4300) : PySem.intText? (("1" : Str) ++ sRep "0" n) = some ((10 ^ n : Nat) : Int) := by
  rw [PySem.intText_digits (x := ("1" : Str) ++ sRep "0" n)]
  · rw [ten_toList]
    unfold PySem.NumText.digitsVal
    rw [List.foldl_cons, foldl_dig]
    simp
  · rw [ten_toList]
    intro c hc
    rcases List.mem_cons.mp hc with rfl | hc
    · omega
    · have := List.eq_of_mem_replicate hc; omega
  · rw [ten_toList]; simp
  · rw [ten_len]; omega
theorem digitsVal_lt : ∀ (cs : List Nat) (acc : Nat), PySem.NumText.AllDigits cs → cs.foldl (fun acc c => acc * 10 + (c - 48)) acc < (acc + 1) * 10 ^ cs.length
  | [], acc, _ => by simp
  | c :: cs, acc, h => by
    rw [List.foldl_cons]
    have h1 := digitsVal_lt cs (acc * 10 + (c - 48)) h.tail
    have h2 := h.head
    have h3 : acc * 10 + (c - 48) + 1 ≤ (acc + 1) * 10 := by omega
    have h4 := Nat.mul_le_mul_right (10 ^ cs.length) h3
    rw [List.length_cons, Nat.pow_succ, Nat.mul_comm (10 ^ cs.length) 10, ← Nat.mul_assoc]
    omega
theorem numL_big (n : Nat) : n < 10 ^ (TL.numL n).length := by
  have h := digitsVal_lt (TL.numL n) 0 (TL.numL_digits n)
  have v : (TL.numL n).foldl (fun acc c => acc * 10 + (c - 48)) 0 = n := TL.numL_val n
  rw [v] at h
  simpa using h
theorem len_str {i : Int} (h : 0 ≤ i) : ((toString i : String) : Str).length = (TL.numL i.toNat).length := by
  have e : i = ((i.toNat : Nat) : Int) := by omega
  have := TL.tl_num i.toNat
  rw [← e] at this
  have h2 := congrArg List.length this
  rw [← h2]
  exact (Array.length_toList).symm
end DL

/-! What the small defs compute. -/
namespace DL
open PySem L2 LamX
abbrev En (q : D → Prop) (xc : DX) : DEnds := { nx := fun _ => q .none, rt := q, xc := xc }
def isCnt (x : D) (l h : Int) : Bool := match x with
  | .int i => decide (l ≤ i) && decide (i ≤ h)
  | _ => false
def F_is_count : Ct := fun xs q _ => match xs with
  | [.d x, .d (.int l), .d (.int h)] => q (.bool (isCnt x l h))
  | _ => False
theorem hn_is_count (xs : List Vl) (q : D → Prop) (xc : DX) (h : F_is_count xs q xc) : xs.length = 3 := by
  unfold F_is_count at h; split at h
  · rfl
  · exact h.elim
theorem sem_is_count (xs : List Vl) (q : D → Prop) (xc : DX) (h : F_is_count xs q xc) : t_is_count (En q xc) (dstart ["thing", "low", "high"] xs) := by
  unfold F_is_count at h; split at h
  · rename_i x lo hi
    simp only [t_is_count, dstart]
    cases x <;> simp [isI, isB, isCnt] at h ⊢
    all_goals first | exact h | skip
    rename_i i
    by_cases h1 : lo ≤ i
    · simp [h1] at h; exact ⟨fun _ => h, fun z => absurd h1 (by omega)⟩
    · simp [h1] at h; exact ⟨fun z => absurd z h1, fun _ => h⟩
  · exact h.elim
def F_need_count : Ct := fun xs q xc => match xs with
  | [.d x, .d (.int l), .d (.int h)] => bc (isCnt x l h) (q .none) (xc "BadNumber")
  | _ => False
theorem hn_need_count (xs : List Vl) (q : D → Prop) (xc : DX) (h : F_need_count xs q xc) : xs.length = 3 := by
  unfold F_need_count at h; split at h
  · rfl
  · exact h.elim
theorem sem_need_count (xs : List Vl) (q : D → Prop) (xc : DX) (h : F_need_count xs q xc) : t_need_count F_is_count (En q xc) (dstart ["thing", "low", "high"] xs) := by
  unfold F_need_count at h; split at h
  · rename_i x lo hi
    simp [t_need_count, dstart, F_is_count]
    exact h
  · exact h.elim
def isNum (x : D) : Bool := match x with
  | .tuple [a, b] => isCnt a (-99) 99 && isCnt b 1 99
  | _ => false
def F_is_number : Ct := fun xs q _ => match xs with
  | [.d x] => q (.bool (isNum x))
  | _ => False
theorem hn_is_number (xs : List Vl) (q : D → Prop) (xc : DX) (h : F_is_number xs q xc) : xs.length = 1 := by
  unfold F_is_number at h; split at h
  · rfl
  · exact h.elim
theorem sem_is_number (xs : List Vl) (q : D → Prop) (xc : DX) (h : F_is_number xs q xc) : t_is_number F_is_count (En q xc) (dstart ["thing", "good"] xs) := by
  unfold F_is_number at h; split at h
  · rename_i x
    simp only [t_is_number, dstart]
    cases x
    case tuple ds =>
      match ds, h with
      | [], h => simpa [isT, isNum] using h
      | [a], h => simpa [isT, isNum] using h
      | [a, b], h =>
        simp [isT, isNum, F_is_count] at h ⊢
        cases e1 : isCnt a (-99) 99 <;> simp [e1] at h ⊢ <;> exact h
      | a :: b :: c :: r, h =>
        simp [isT, isNum] at h ⊢
        have : ¬ ((r.length : Int) + 1 + 1 + 1 = 2) := by omega
        simp [this]
        exact h
    all_goals simpa [isT, isNum] using h
  · exact h.elim
def F_need_number : Ct := fun xs q xc => match xs with
  | [.d x] => bc (isNum x) (q .none) (xc "BadNumber")
  | _ => False
theorem hn_need_number (xs : List Vl) (q : D → Prop) (xc : DX) (h : F_need_number xs q xc) : xs.length = 1 := by
  unfold F_need_number at h; split at h
  · rfl
  · exact h.elim
theorem sem_need_number (xs : List Vl) (q : D → Prop) (xc : DX) (h : F_need_number xs q xc) : t_need_number F_is_number (En q xc) (dstart ["number"] xs) := by
  unfold F_need_number at h; split at h
  · rename_i x
    simp [t_need_number, dstart, F_is_number]
    exact h
  · exact h.elim
/-! ### rows -/
def isRow (x : D) : Bool := match x with
  | .list ds => decide (1 ≤ ds.length) && decide (ds.length ≤ 5) && ds.all isNum
  | _ => false
theorem bools_map (ds : List D) (f : D → Bool) : bools? (ds.map fun d => PyData.bool (f d)) = some (ds.map f) := by
  have := bools?_map (ds.map f)
  rw [List.map_map] at this
  exact this
theorem all_map (ds : List D) (f : D → Bool) : (ds.map f).all id = ds.all f := by simp [List.all_map]
def F_need_row : Ct := fun xs q xc => match xs with
  | [.d x] => bc (isRow x) (q .none) (xc "BadRow")
  | _ => False
theorem hn_need_row (xs : List Vl) (q : D → Prop) (xc : DX) (h : F_need_row xs q xc) : xs.length = 1 := by
  unfold F_need_row at h; split at h
  · rfl
  · exact h.elim
theorem sem_need_row (xs : List Vl) (q : D → Prop) (xc : DX) (h : F_need_row xs q xc) : t_need_row F_is_number (En q xc) (dstart ["row", "one"] xs) := by
  unfold F_need_row at h; split at h
  · rename_i x
    simp only [t_need_row, dstart]
    cases x
    case list ds =>
      simp [isL]
      refine ⟨fun a1 => ⟨fun a5 => ⟨rfl, lc_nm (f := fun d => .bool (isNum d)) (few (m := 5) (by omega)) (fun d _ Q hQ => ?_) ?_⟩, fun a5 => ?_⟩, fun a1 => ?_⟩
      · simpa [F_is_number, wipeD] using hQ
      · rw [gAll_of (bools_map ds isNum), all_map]
        have e : isRow (.list ds) = ds.all isNum := by
          have h1 : 1 ≤ ds.length := by omega
          have h5 : ds.length ≤ 5 := by omega
          simp [isRow, h1, h5]
        rw [e] at h
        exact h
      · have e : isRow (.list ds) = false := by
          have h5 : ¬ ds.length ≤ 5 := by omega
          simp [isRow, h5]
        rw [e] at h
        exact h
      · have e : isRow (.list ds) = false := by
          have h5 : ¬ 1 ≤ ds.length := by omega
          simp [isRow, h5]
        rw [e] at h
        exact h
    all_goals simpa [isL, isRow] using h
  · exact h.elim
def isTimes (n : Nat) (x : D) : Bool := match x with
  | .list ds => decide (ds.length = n) && ds.all fun d => isCnt d (-1000) 1000
  | _ => false
def F_need_times : Ct := fun xs q xc => match xs with
  | [.d (.list rs), .d x] => rs.length ≤ 1000 ∧ bc (isTimes rs.length x) (q .none) (xc "BadRow")
  | _ => False
theorem hn_need_times (xs : List Vl) (q : D → Prop) (xc : DX) (h : F_need_times xs q xc) : xs.length = 2 := by
  unfold F_need_times at h; split at h
  · rfl
  · exact h.elim
theorem sem_need_times (xs : List Vl) (q : D → Prop) (xc : DX) (h : F_need_times xs q xc) : t_need_times F_is_count (En q xc) (dstart ["row", "times", "good", "one"] xs) := by
  unfold F_need_times at h; split at h
  · rename_i rs x
    obtain ⟨hl, h⟩ := h
    simp only [t_need_times, dstart]
    cases x
    case list ds =>
      simp [isL]
      refine ⟨fun a1 => ⟨rfl, lc_nm (f := fun d => .bool (isCnt d (-1000) 1000)) (few (m := 1000) (by omega)) (fun d _ Q hQ => ?_) ?_⟩, fun a1 => ?_⟩
      · simpa [F_is_count, wipeD] using hQ
      · rw [gAll_of (bools_map ds _), all_map]
        have e : isTimes rs.length (.list ds) = ds.all fun d => isCnt d (-1000) 1000 := by
          have h1 : ds.length = rs.length := by omega
          simp [isTimes, h1]
        rw [e] at h
        exact h
      · have e : isTimes rs.length (.list ds) = false := by
          have h1 : ¬ ds.length = rs.length := by omega
          simp [isTimes, h1]
        rw [e] at h
        exact h
    all_goals simpa [isL, isTimes] using h
  · exact h.elim
end DL

/-! plain_of, root_below, power_of, digits_of. -/
namespace DL
open PySem L2 LamX
structure PlainOf (t u t' u' : Int) : Prop where
  sq : t' * t' * u' = t * t * u
  sgn : 0 ≤ t' * t
  pos : 1 ≤ u'
  le : u' ≤ u
  free : ∀ b : Int, 2 ≤ b → ¬ b * b ∣ u'
  zero : t = 0 → t' = 0 ∧ u' = 1
  nz : t ≠ 0 → ∃ m : Int, 1 ≤ m ∧ t' = t * m ∧ u' * (m * m) = u
theorem PlainOf.t0 {t u t' u' : Int} (h : PlainOf t u t' u') (e : t' = 0) : u' = 1 := by
  by_cases ht : t = 0
  · exact (h.zero ht).2
  · obtain ⟨m, h1, h2, _⟩ := h.nz ht
    have : t * m ≠ 0 := Int.mul_ne_zero ht (by omega)
    omega
def F_plain_of : Ct := fun xs q _ => match xs with
  | [.d (.tuple [.int t, .int u])] => 1 ≤ u ∧ u < 2 ^ 62 ∧ ∀ t' u', PlainOf t u t' u' → q (.tuple [.int t', .int u'])
  | _ => False
theorem hn_plain_of (xs : List Vl) (q : D → Prop) (xc : DX) (h : F_plain_of xs q xc) : xs.length = 1 := by
  unfold F_plain_of at h; split at h
  · rfl
  · exact h.elim
structure PlI (t u t1 u1 b m : Int) : Prop where
  m1 : 1 ≤ m
  et : t1 = t * m
  eu : u1 * (m * m) = u
  hu : 1 ≤ u1
  b2 : 2 ≤ b
  free : ∀ c : Int, 2 ≤ c → c < b → ¬ c * c ∣ u1
theorem PlI.le {t u t1 u1 b m : Int} (h : PlI t u t1 u1 b m) : u1 ≤ u := by
  have : 1 * 1 ≤ m * m := mul_le_self (by omega) h.m1
  have h2 : u1 * 1 ≤ u1 * (m * m) := Int.mul_le_mul_of_nonneg_left (by omega) (by have := h.hu; omega)
  have := h.eu
  omega
theorem PlI.next {t u t1 u1 b m : Int} (h : PlI t u t1 u1 b m) (hd : b * b ∣ u1) : PlI t u (t1 * b) (u1 / (b * b)) b (m * b) := by
  have hb := h.b2
  have hbb : 0 < b * b := Int.mul_pos (by omega) (by omega)
  obtain ⟨c, hc⟩ := hd
  have e : u1 / (b * b) = c := by rw [hc]; exact Int.mul_ediv_cancel_left _ (by omega)
  have hc1 : 1 ≤ c := by
    rcases Int.lt_or_le c 1 with q | q
    · have : b * b * c ≤ 0 := Int.mul_nonpos_of_nonneg_of_nonpos (by omega) (by omega)
      have := h.hu; omega
    · exact q
  rw [e]
  refine ⟨?_, ?_, ?_, hc1, hb, fun k hk1 hk2 hk3 => h.free k hk1 hk2 ?_⟩
  · have : 1 * 1 ≤ m * b := Int.mul_le_mul h.m1 (by omega) (by omega) (by have := h.m1; omega)
    omega
  · rw [h.et, Int.mul_assoc]
  · rw [← h.eu, hc]
    simp only [Int.mul_assoc, Int.mul_left_comm, Int.mul_comm]
  · rw [hc]; exact Int.dvd_mul_of_dvd_right hk3
theorem PlI.up {t u t1 u1 b m : Int} (h : PlI t u t1 u1 b m) (hd : ¬ b * b ∣ u1) : PlI t u t1 u1 (b + 1) m :=
  ⟨h.m1, h.et, h.eu, h.hu, by have := h.b2; omega, fun c h1 h2 => by
    by_cases hc : c = b
    · subst hc; exact hd
    · exact h.free c h1 (by omega)⟩
theorem PlI.done {t u t1 u1 b m : Int} (h : PlI t u t1 u1 b m) (hb : u1 < b * b) : if t1 ≠ 0 then PlainOf t u t1 u1 else PlainOf t u 0 1 := by
  have hf : ∀ c : Int, 2 ≤ c → ¬ c * c ∣ u1 := fun c h1 h2 => by
    rcases Int.lt_or_le c b with q | q
    · exact h.free c h1 q h2
    · have a1 := mul_le_self (a := b) (b := c) (by have := h.b2; omega) q
      have a2 := Int.le_of_dvd (by have := h.hu; omega) h2
      omega
  split
  · rename_i hne
    have ht : t ≠ 0 := fun e => hne (by rw [h.et, e, Int.zero_mul])
    refine ⟨?_, ?_, h.hu, h.le, hf, fun e => absurd e ht, fun _ => ⟨m, h.m1, h.et, h.eu⟩⟩
    · rw [h.et, ← h.eu]
      simp only [Int.mul_assoc, Int.mul_left_comm, Int.mul_comm]
    · rw [h.et, Int.mul_right_comm]
      exact Int.mul_nonneg (by rcases Int.le_total 0 t with q | q; (· exact Int.mul_nonneg q q); (· exact Int.mul_nonneg_of_nonpos_of_nonpos q q)) (by have := h.m1; omega)
  · rename_i hne
    have ht1 : t1 = 0 := by omega
    have ht : t = 0 := by
      have := h.et
      rw [ht1] at this
      rcases Int.mul_eq_zero.mp this.symm with q | q
      · exact q
      · have := h.m1; omega
    subst ht
    refine ⟨by simp, by simp, by omega, by have := h.le; have := h.hu; omega, fun c h1 h2 => ?_, fun _ => ⟨rfl, rfl⟩, fun z => absurd rfl z⟩
    have a1 := mul_le_self (a := 2) (b := c) (by omega) h1
    have a2 := Int.le_of_dvd (by omega) h2
    omega
theorem sem_plain_of (xs : List Vl) (q : D → Prop) (xc : DX) (h : F_plain_of xs q xc) : t_plain_of (En q xc) (dstart ["number", "times", "under", "by"] xs) := by
  unfold F_plain_of at h; split at h
  · rename_i t u
    obtain ⟨hu, hu2, h⟩ := h
    simp only [t_plain_of, dstart]
    simp
    refine while_ind (fun n ρ => ∃ t1 u1 b m : Int, ρ = [some (.d (.tuple [.int t, .int u])), some (.d (.int t1)), some (.d (.int u1)), some (.d (.int b))] ∧ PlI t u t1 u1 b m ∧ b ≤ u + 2 ∧ n = (2 * u1 - b).toNat) (fun n ρ K hI hK => ?_)
      (n := (2 * u - 2).toNat) ⟨t, u, 2, 1, rfl, ⟨by omega, by omega, by omega, hu, by omega, fun c h1 h2 => by omega⟩, by omega, rfl⟩
    obtain ⟨t1, u1, b, m, rfl, I, hb, hn⟩ := hI
    have hle := I.le
    have hb2 := I.b2
    have hbb : 0 < b * b := Int.mul_pos (by omega) (by omega)
    simp [gMul_i, gFdiv_i]
    refine ⟨cml_l (by omega) (by omega), fun hc => ⟨cml_l (by omega) (by omega), by omega, fun hd => ⟨cml_r (by omega) (by omega), cml_l (by omega) (by omega), ?_, ?_⟩, fun hd => ?_⟩, fun hc => ?_⟩
    · exact cdv_of (by omega) (by omega) (by omega)
    · rw [fmod_pos hbb] at hd
      have hdv : b * b ∣ u1 := Int.dvd_of_emod_eq_zero hd
      rw [fdiv_pos hbb]
      have N := I.next hdv
      have : u1 / (b * b) * 4 ≤ u1 := by
        have a1 : u1 / (b * b) * (b * b) ≤ u1 := Int.ediv_mul_le u1 (by omega)
        have a2 : (4 : Int) ≤ b * b := mul_le_self (a := 2) (b := b) (by omega) hb2
        have a3 : u1 / (b * b) * 4 ≤ u1 / (b * b) * (b * b) := Int.mul_le_mul_of_nonneg_left a2 (by have := N.hu; omega)
        omega
      refine hK (2 * (u1 / (b * b)) - b).toNat _ ?_ ⟨t1 * b, u1 / (b * b), b, m * b, rfl, N, hb, rfl⟩
      have := N.hu
      have : b * 2 ≤ b * b := Int.mul_le_mul_of_nonneg_left hb2 (by omega)
      omega
    · rw [fmod_pos hbb] at hd
      have hdv : ¬ b * b ∣ u1 := fun z => hd (Int.emod_eq_zero_of_dvd z)
      have : b * 2 ≤ b * b := Int.mul_le_mul_of_nonneg_left hb2 (by omega)
      exact hK (2 * u1 - (b + 1)).toNat _ (by omega) ⟨t1, u1, b + 1, m, rfl, I.up hdv, by omega, rfl⟩
    · have := I.done (by omega)
      by_cases h0 : t1 = 0
      · simp [h0] at this ⊢
        exact h _ _ this
      · simp [h0] at this ⊢
        exact h _ _ this
  · exact h.elim
/-! ### plain -/
def F_plain : Ct := fun xs q xc => match xs with
  | [.d x] => bc (isNum x) (F_plain_of [.d x] q xc) (xc "BadNumber")
  | _ => False
theorem hn_plain (xs : List Vl) (q : D → Prop) (xc : DX) (h : F_plain xs q xc) : xs.length = 1 := by
  unfold F_plain at h; split at h
  · rfl
  · exact h.elim
theorem sem_plain (xs : List Vl) (q : D → Prop) (xc : DX) (h : F_plain xs q xc) : t_plain F_need_number F_plain_of (En q xc) (dstart ["number"] xs) := by
  unfold F_plain at h; split at h
  · rename_i x
    simp [t_plain, dstart, F_need_number]
    exact h
  · exact h.elim
/-! ### root_below -/
def F_root_below : Ct := fun xs q _ => match xs with
  | [.d (.int n)] => 0 ≤ n ∧ (n + 1).natAbs.log2 < 400000 ∧ q (.int (isq n))
  | _ => False
theorem hn_root_below (xs : List Vl) (q : D → Prop) (xc : DX) (h : F_root_below xs q xc) : xs.length = 1 := by
  unfold F_root_below at h; split at h
  · rfl
  · exact h.elim
theorem sem_root_below (xs : List Vl) (q : D → Prop) (xc : DX) (h : F_root_below xs q xc) : t_root_below (En q xc) (dstart ["square", "low", "high", "middle"] xs) := by
  unfold F_root_below at h; split at h
  · rename_i n
    obtain ⟨h0, hlog, h⟩ := h
    simp only [t_root_below, dstart]
    simp
    have hbig : n < (n + 1) * (n + 1) := by
      have : (n + 1) * 1 ≤ (n + 1) * (n + 1) := Int.mul_le_mul_of_nonneg_left (by omega) (by omega)
      omega
    refine while_ind (fun k ρ => ∃ (lo hi : Int) (v : Option Vl), ρ = [some (.d (.int n)), some (.d (.int lo)), some (.d (.int hi)), v] ∧ 0 ≤ lo ∧ lo < hi ∧ hi ≤ n + 1 ∧ lo * lo ≤ n ∧ n < hi * hi ∧ k = (hi - lo).toNat) (fun k ρ K hI hK => ?_)
      (n := (n + 1).toNat) ⟨0, n + 1, none, rfl, by omega, by omega, by omega, by omega, hbig, by simp⟩
    obtain ⟨lo, hi, v, rfl, a1, a2, a3, a4, a5, hk⟩ := hI
    simp [gMul_i, gFdiv_i]
    refine ⟨fun hc => ⟨cdv_of (by omega) (by omega) (by omega), ?_⟩, fun hc => ?_⟩
    · rw [fdiv_pos (by omega)]
      have m1 : lo < (lo + hi) / 2 := by omega
      have m2 : (lo + hi) / 2 < hi := by omega
      have hlg : ((lo + hi) / 2).natAbs.log2 < 500000 := by
        have := log2_mono (a := ((lo + hi) / 2).natAbs) (b := (n + 1).natAbs) (by omega)
        omega
      refine ⟨cml_w hlg hlg, fun hm => ?_, fun hm => ?_⟩
      · exact hK (hi - (lo + hi) / 2).toNat _ (by omega) ⟨_, _, _, rfl, by omega, by omega, a3, hm, a5, rfl⟩
      · exact hK ((lo + hi) / 2 - lo).toNat _ (by omega) ⟨_, _, _, rfl, by omega, by omega, by omega, a4, by omega, rfl⟩
    · have e : hi = lo + 1 := by omega
      subst e
      rw [← isq_eq a1 a4 a5]
      exact h
  · exact h.elim
/-! ### power_of -/
def F_power_of : Ct := fun xs q _ => match xs with
  | [.d (.int n)] => -(2 ^ 62) ≤ n ∧ n < 2 ^ 62 ∧ q (.int (10 ^ n.toNat))
  | _ => False
theorem hn_power_of (xs : List Vl) (q : D → Prop) (xc : DX) (h : F_power_of xs q xc) : xs.length = 1 := by
  unfold F_power_of at h; split at h
  · rfl
  · exact h.elim
theorem rangeD_zero (lo : Int) : rangeD lo 0 = [] := rfl
theorem rangeD_succ (lo : Int) (n : Nat) : rangeD lo (n + 1) = .int lo :: rangeD (lo + 1) n := by
  unfold rangeD
  rw [List.range_succ_eq_map, List.map_cons, List.map_map]
  congr 1
  · simp
  · apply List.map_congr_left
    intro a _
    show PyData.int (lo + ((a + 1 : Nat) : Int)) = PyData.int (lo + 1 + (a : Nat))
    congr 1
    omega
theorem rangeD_len (lo : Int) (n : Nat) : (rangeD lo n).length = n := by simp [rangeD]
theorem rangeD_cons {lo : Int} {n : Nat} {d : D} {r : List D} (h : rangeD lo n = d :: r) : d = .int lo ∧ ∃ k, n = k + 1 ∧ r = rangeD (lo + 1) k := by
  cases n with
  | zero => cases h
  | succ k =>
    rw [rangeD_succ] at h
    injection h with h1 h2
    exact ⟨h1.symm, k, rfl, h2.symm⟩
theorem sem_power_of (xs : List Vl) (q : D → Prop) (xc : DX) (h : F_power_of xs q xc) : t_power_of (En q xc) (dstart ["places", "found", "turn"] xs) := by
  unfold F_power_of at h; split at h
  · rename_i n
    obtain ⟨h1, h2, h⟩ := h
    simp only [t_power_of, dstart]
    simp
    refine ⟨⟨h1, h2⟩, for_ind (fun ds ρ => ∃ (k : Nat) (lo : Int) (v : Option Vl), k ≤ n.toNat ∧ ds = rangeD lo (n.toNat - k) ∧ ρ = [some (.d (.int n)), some (.d (.int (10 ^ k))), v]) ⟨0, 0, none, by omega, by simp, by simp⟩ (fun d r ρ K hI hK => ?_) (fun ρ hI => ?_)⟩
    · obtain ⟨k, lo, v, hk, hd, rfl⟩ := hI
      obtain ⟨e1, j, ej, er⟩ := rangeD_cons hd.symm
      refine ⟨_, rfl, ?_⟩
      simp [gMul_i]
      refine ⟨cml_r (by omega) (by omega), hK _ ⟨k + 1, lo + 1, some (.d d), by omega, ?_, ?_⟩⟩
      · rw [er, show n.toNat - (k + 1) = j by omega]
      · rw [Int.pow_succ]
    · obtain ⟨k, lo, v, hk, hd, rfl⟩ := hI
      have : n.toNat - k = 0 := by
        have := congrArg List.length hd
        rw [rangeD_len] at this
        simpa using this.symm
      simp
      rw [show k = n.toNat by omega]
      exact h
  · exact h.elim
/-! ### digits_of -/
def sqF (t u : Int) (p : Nat) : Int := t * t * u * 10 ^ (2 * p)
def digF (t u : Int) (p : Nat) : Int := if 0 ≤ t then isq (sqF t u p) else if isq (sqF t u p) * isq (sqF t u p) = sqF t u p then 0 - isq (sqF t u p) else 0 - isq (sqF t u p) - 1
theorem sq_nonneg (t : Int) : 0 ≤ t * t := by
  rcases Int.le_total 0 t with q | q
  · exact Int.mul_nonneg q q
  · exact Int.mul_nonneg_of_nonpos_of_nonpos q q
theorem ten_pos (n : Nat) : (0 : Int) < 10 ^ n := Int.pow_pos (by omega)
theorem sqF_nonneg {t u : Int} {p : Nat} (h : 0 ≤ u) : 0 ≤ sqF t u p := Int.mul_nonneg (Int.mul_nonneg (sq_nonneg t) h) (Int.le_of_lt (ten_pos _))
theorem ten_log (n : Nat) : (10 ^ n : Nat) ≤ 2 ^ (4 * n) := by
  rw [Nat.pow_mul]
  exact Nat.pow_le_pow_left (by decide) n
theorem sqF_log {t u : Int} {p : Nat} (ht : t.natAbs < 2 ^ 64) (hu : u.natAbs < 2 ^ 64) : (sqF t u p + 1).natAbs.log2 ≤ 192 + 8 * p := by
  have e : (sqF t u p).natAbs = t.natAbs * t.natAbs * u.natAbs * 10 ^ (2 * p) := by
    unfold sqF
    rw [Int.natAbs_mul, Int.natAbs_mul, Int.natAbs_mul, Int.natAbs_pow]
    rfl
  have a1 : t.natAbs * t.natAbs * u.natAbs < 2 ^ 192 := by
    have b1 : t.natAbs * t.natAbs < 2 ^ 64 * 2 ^ 64 := Nat.mul_lt_mul'' ht ht
    have b2 := Nat.mul_lt_mul'' b1 hu
    have b3 : 2 ^ 64 * 2 ^ 64 * 2 ^ 64 = 2 ^ 192 := by decide
    omega
  have a2 := ten_log (2 * p)
  have a3 : t.natAbs * t.natAbs * u.natAbs * 10 ^ (2 * p) < 2 ^ 192 * 2 ^ (4 * (2 * p)) := Nat.mul_lt_mul_of_lt_of_le a1 a2 (Nat.two_pow_pos _)
  rw [← Nat.pow_add] at a3
  have a4 : (sqF t u p + 1).natAbs ≤ 2 ^ (192 + 4 * (2 * p)) := by omega
  have a5 : (sqF t u p + 1).natAbs < 2 ^ (192 + 4 * (2 * p) + 1) := by rw [Nat.pow_succ]; have := Nat.two_pow_pos (192 + 4 * (2 * p)); omega
  have := log2_lt_of a5 (by omega)
  omega
def F_digits_of : Ct := fun xs q _ => match xs with
  | [.d (.tuple [.int t, .int u]), .d (.int p)] => t.natAbs < 2 ^ 60 ∧ 1 ≤ u ∧ u < 2 ^ 60 ∧ 0 ≤ p ∧ p ≤ 10000 ∧ q (.int (digF t u p.toNat))
  | _ => False
theorem hn_digits_of (xs : List Vl) (q : D → Prop) (xc : DX) (h : F_digits_of xs q xc) : xs.length = 2 := by
  unfold F_digits_of at h; split at h
  · rfl
  · exact h.elim
theorem sem_digits_of (xs : List Vl) (q : D → Prop) (xc : DX) (h : F_digits_of xs q xc) : t_digits_of F_power_of F_root_below (En q xc) (dstart ["number", "places", "times", "under", "square", "found"] xs) := by
  unfold F_digits_of at h; split at h
  · rename_i t u p
    obtain ⟨ht, hu1, hu2, hp1, hp2, h⟩ := h
    simp only [t_digits_of, dstart]
    simp [gMul_i, F_power_of, F_root_below]
    have e : t * t * u * 10 ^ (2 * p).toNat = sqF t u p.toNat := by
      unfold sqF
      rw [show (2 * p).toNat = 2 * p.toNat by omega]
    have hs0 : 0 ≤ sqF t u p.toNat := sqF_nonneg (by omega)
    have hlg := sqF_log (t := t) (u := u) (p := p.toNat) (by omega) (by omega)
    have hl2 : (isq (sqF t u p.toNat)).natAbs.log2 < 500000 := by
      have := log2_mono (a := (isq (sqF t u p.toNat)).natAbs) (b := (sqF t u p.toNat + 1).natAbs) (by have := isq_le_self hs0; have := isq_nonneg (sqF t u p.toNat); omega)
      omega
    rw [e]
    refine ⟨cml_l (by omega) (by omega), cml_r (by omega) (by omega), cml_l (by omega) (by omega), by omega, by omega, ?_, hs0, by omega, fun hc => ?_, fun hc => ⟨cml_w hl2 hl2, fun hq => ?_, fun hq => ?_⟩⟩
    · refine .inr ?_
      show _ < _
      have a1 : (t * t * u).natAbs < 2 ^ 192 := by
        rw [Int.natAbs_mul, Int.natAbs_mul]
        have b1 : t.natAbs * t.natAbs < 2 ^ 60 * 2 ^ 60 := Nat.mul_lt_mul'' ht ht
        have b2 := Nat.mul_lt_mul'' b1 (show u.natAbs < 2 ^ 60 by omega)
        have b3 : 2 ^ 60 * 2 ^ 60 * 2 ^ 60 ≤ 2 ^ 192 := by decide
        omega
      have a2 : (10 ^ (2 * p).toNat : Int).natAbs < 2 ^ (4 * (2 * p).toNat + 1) := by
        rw [Int.natAbs_pow]
        have b1 : ((10 : Int).natAbs ^ (2 * p).toNat) ≤ 2 ^ (4 * (2 * p).toNat) := ten_log _
        exact Nat.lt_of_le_of_lt b1 (Nat.pow_lt_pow_right (by decide) (by omega))
      have := log2_lt_of a1 (by decide)
      have := log2_lt_of a2 (by omega)
      omega
    · simp [digF, hc] at h; exact h
    · simp [digF, show ¬ 0 ≤ t by omega, hq] at h; exact h
    · simp [digF, show ¬ 0 ≤ t by omega, hq] at h; exact h
  · exact h.elim
def F_digits : Ct := fun xs q xc => match xs with
  | [.d x, .d p] => bc (isNum x) (bc (isCnt p 0 30) (F_digits_of [.d x, .d p] q xc) (xc "BadNumber")) (xc "BadNumber")
  | _ => False
theorem hn_digits (xs : List Vl) (q : D → Prop) (xc : DX) (h : F_digits xs q xc) : xs.length = 2 := by
  unfold F_digits at h; split at h
  · rfl
  · exact h.elim
theorem sem_digits (xs : List Vl) (q : D → Prop) (xc : DX) (h : F_digits xs q xc) : t_digits F_need_number F_need_count F_digits_of (En q xc) (dstart ["number", "places"] xs) := by
  unfold F_digits at h; split at h
  · rename_i x p
    simp [t_digits, dstart, F_need_number, F_need_count]
    exact h
  · exact h.elim
end DL

/-! the law's own helpers -/
namespace DL
open PySem L2 LamX
/-! ### _law_drawn: some number -/
def F__law_drawn : Ct := fun xs q _ => match xs with
  | [.d (.int c), .d (.int k)] => ∀ r : Int, 0 ≤ r → r < 340282366920938463463374607431768211507 → q (.int r)
  | _ => False
theorem hn__law_drawn (xs : List Vl) (q : D → Prop) (xc : DX) (h : F__law_drawn xs q xc) : xs.length = 2 := by
  unfold F__law_drawn at h; split at h
  · rfl
  · exact h.elim
theorem cml_129 {i j : Int} (h1 : i.natAbs < 2 ^ 250) (h2 : j.natAbs < 2 ^ 250) : CMl i j := by
  have a1 := log2_lt_of h1 (by decide)
  have a2 := log2_lt_of h2 (by decide)
  exact cml_w (by omega) (by omega)
theorem sem__law_drawn (xs : List Vl) (q : D → Prop) (xc : DX) (h : F__law_drawn xs q xc) : t__law_drawn (En q xc) (dstart ["cell", "k", "more"] xs) := by
  unfold F__law_drawn at h; split at h
  · rename_i c k
    simp only [t__law_drawn, dstart]
    simp [gMul_i, gFdiv_i]
    refine ⟨cml_r (by omega) (by omega), cml_r (by omega) (by omega), ?_⟩
    rw [fmod_pos (by omega)]
    generalize e1 : (c * 6364136223846793005 + (k + 1) * 1442695040888963407) % 340282366920938463463374607431768211507 = m1
    have b1 : 0 ≤ m1 ∧ m1 < 340282366920938463463374607431768211507 := by omega
    refine ⟨cml_129 (by omega) (by omega), ?_⟩
    rw [fmod_pos (by omega)]
    generalize e2 : m1 * m1 = m2
    generalize e3 : m2 % 340282366920938463463374607431768211297 = m3
    have b3 : 0 ≤ m3 ∧ m3 < 340282366920938463463374607431768211297 := by omega
    refine ⟨cdv_of (by omega) (by omega) (by omega), ?_⟩
    rw [fmod_pos (by omega), fdiv_pos (by omega)]
    have b4 : 0 ≤ m3 % 18446744073709551557 + 1 ∧ m3 % 18446744073709551557 + 1 < 2 ^ 64 := by omega
    have b5 : 0 ≤ m3 / 18446744073709551557 + 1 ∧ m3 / 18446744073709551557 + 1 < 2 ^ 65 := by omega
    refine ⟨cml_l (by omega) (by omega), ?_, ?_⟩
    · refine cml_129 ?_ (by omega)
      rw [Int.natAbs_mul]
      have : (m3 % 18446744073709551557 + 1).natAbs * (m3 / 18446744073709551557 + 1).natAbs < 2 ^ 64 * 2 ^ 65 := Nat.mul_lt_mul'' (by omega) (by omega)
      omega
    · rw [fmod_pos (by omega)]
      exact h _ (by omega) (by omega)
  · exact h.elim
/-! ### _law_cell: some number -/
def F__law_cell : Ct := fun xs q _ => match xs with
  | [.s ns, .d (.int k)] => 0 ≤ k ∧ k < 2 ^ 60 ∧ ns.length < 2 ^ 60 ∧ ∀ r : Int, q (.int r)
  | _ => False
theorem hn__law_cell (xs : List Vl) (q : D → Prop) (xc : DX) (h : F__law_cell xs q xc) : xs.length = 2 := by
  unfold F__law_cell at h; split at h
  · rfl
  · exact h.elim
theorem okD_ints (ns : List Int) : okD 40 (.list (ns.map .int)) = true := by
  show (ns.map PyData.int).all (okD 39) = true
  simp [List.all_map]
  intro _ _
  rfl
theorem atI_in {α : Type} {xs : List α} {i : Int} (h0 : 0 ≤ i) (h1 : i < xs.length) : ∃ v, v ∈ xs ∧ L2.atI xs i = some v := by
  have hl : i.toNat < xs.length := by omega
  refine ⟨xs[i.toNat], List.getElem_mem hl, ?_⟩
  have := L2.atI_nat (xs := xs) (j := i.toNat) (v := xs[i.toNat]) (List.getElem?_eq_getElem hl)
  rwa [Int.toNat_of_nonneg h0] at this
theorem sem__law_cell (xs : List Vl) (q : D → Prop) (xc : DX) (h : F__law_cell xs q xc) : t__law_cell (En q xc) (dstart ["script", "k"] xs) := by
  unfold F__law_cell at h; split at h
  · rename_i ns k
    obtain ⟨h1, h2, hl, h⟩ := h
    simp only [t__law_cell, dstart]
    simp
    rw [gEq_of (by exact okD_ints ns) rfl]
    cases ns with
    | nil =>
      simp [Vl.all, gMul_i]
      exact ⟨cml_l (by omega) (by omega), h _⟩
    | cons a r =>
      simp [Vl.all]
      have hp : (0 : Int) < (r.length : Int) + 1 := by omega
      rw [fmod_pos hp]
      have hl2 : (r.length : Int) + 1 = ((a :: r).length : Nat) := by simp
      obtain ⟨v, _, hv⟩ := atI_in (xs := a :: r) (i := k % ((r.length : Int) + 1)) (Int.emod_nonneg _ (by omega)) (by have := Int.emod_lt_of_pos k hp; omega)
      rw [gIx_scr hv]
      simp only [List.length_cons] at hl
      simp [gMul_i, gFdiv_i]
      refine ⟨cdv_of (by omega) (by omega) (by omega), ?_, h _⟩
      exact cml_r (by omega) (by omega)
  · exact h.elim
/-! ### _law_row: some row -/
def numD (p : Int × Int) : D := .tuple [.int p.1, .int p.2]
def NumOk (p : Int × Int) : Prop := -99 ≤ p.1 ∧ p.1 ≤ 99 ∧ 1 ≤ p.2 ∧ p.2 ≤ 99
def F__law_row : Ct := fun xs q _ => match xs with
  | [.d (.int m), .d (.int k)] => 1 ≤ k ∧ k ≤ 1000 ∧ ∀ rs : List (Int × Int), 1 ≤ rs.length → rs.length ≤ k → (∀ p ∈ rs, NumOk p) → q (.list (rs.map numD))
  | _ => False
theorem hn__law_row (xs : List Vl) (q : D → Prop) (xc : DX) (h : F__law_row xs q xc) : xs.length = 2 := by
  unfold F__law_row at h; split at h
  · rfl
  · exact h.elim
theorem gLst_all {xs : List Vl} {ds : List D} {Q : Vl → Prop} (e : allD xs = some ds) (hl : ds.length ≤ 1000) (h : Q (.d (.list ds))) : gLst xs Q := by
  rw [gLst_of e]; exact ⟨few hl, h⟩
/-- one of a list of numbers -/
theorem gIx_ints {ns : List Int} {i : Int} {Q : Vl → Prop} (h0 : 0 ≤ i) (h1 : i < ns.length) (h : ∀ v ∈ ns, Q (.d (.int v))) : gIx (.d (.list (ns.map .int))) (.d (.int i)) Q := by
  obtain ⟨v, hv, e⟩ := atI_in (xs := ns) h0 h1
  rw [gIx_list (v := .int v) (by rw [atI_map, e]; rfl)]
  exact h v hv
theorem pw20 {Q : Vl → Prop} : gPow (.d (.int 2)) (.d (.int 20)) Q = Q (.d (.int 1048576)) := by
  rw [s_gPow, show (CPow 2 20) = True from eq_true ⟨by omega, by omega, by decide⟩, true_and]
  rfl
theorem sem__law_row (xs : List Vl) (q : D → Prop) (xc : DX) (h : F__law_row xs q xc) : t__law_row F__law_drawn (En q xc) (dstart ["more", "most", "found", "j", "here", "under", "times"] xs) := by
  unfold F__law_row at h; split at h
  · rename_i m k
    obtain ⟨h1, h2, h⟩ := h
    simp only [t__law_row, dstart]
    simp
    refine ⟨by omega, ?_⟩
    rw [fmod_pos (by omega)]
    have hm0 := Int.emod_nonneg m (b := k) (by omega)
    have hm1 := Int.emod_lt_of_pos m (b := k) (by omega)
    refine ⟨⟨by omega, by omega⟩, for_ind (fun ds ρ => ∃ (rs : List (Int × Int)) (lo : Int) (v w x y : Option Vl), ds = rangeD lo ((1 + m % k).toNat - rs.length) ∧ rs.length ≤ (1 + m % k).toNat ∧ (∀ p ∈ rs, NumOk p) ∧ ρ = [some (.d (.int m)), some (.d (.int k)), some (.o (.list (rs.map numD))), v, w, x, y]) ⟨[], 0, none, none, none, none, by simp, by simp, by simp, by simp⟩ (fun d r ρ K hI hK => ?_) (fun ρ hI => ?_)⟩
    · obtain ⟨rs, lo, v, w, x, y, hd, hlen, hok, rfl⟩ := hI
      obtain ⟨e1, j, ej, er⟩ := rangeD_cons hd.symm
      subst e1
      refine ⟨_, rfl, ?_⟩
      refine ⟨rfl, fun hh hh0 hh1 => ?_⟩
      simp only [s_gSet, s_dSeq, s_dSet, s_dOp, s_dLst, s_dCons, s_dC, s_dNil, s_dVar]
      simp only [List.set_cons_succ, List.set_cons_zero, List.getElem?_cons_zero, List.getElem?_cons_succ, s_gVar, pw20, gFdiv_i]
      simp [-s_gPow]
      refine ⟨cdv_of (by omega) (by omega) (by omega), ?_⟩
      rw [fdiv_pos (by omega), fmod_pos (by omega), fmod_pos (by omega)]
      refine gLst_all rfl (by simp) ?_
      refine gIx_ints (ns := [1, 2, 8, 1, 3, 12, 27, 2, 5, 50, 99, 1 + hh / 1048576 % 99]) (by omega) (by simp; omega) (fun un hun => ?_)
      have hun2 : 1 ≤ un ∧ un ≤ 99 := by
        have z1 := Int.emod_nonneg (hh / 1048576) (b := 99) (by omega)
        have z2 := Int.emod_lt_of_pos (hh / 1048576) (b := 99) (by omega)
        generalize hh / 1048576 % 99 = z at hun z1 z2
        clear hh0 hh1 hK ej hd
        simp at hun
        omega
      simp [gFdiv_i]
      rw [fdiv_pos (i := hh) (j := 64) (by omega), fdiv_pos (i := hh) (j := 16) (by omega), fmod_pos (j := 9) (by omega), fmod_pos (j := 199) (by omega), fmod_pos (j := 3) (by omega), fmod_pos (j := 3) (by omega)]
      refine ⟨cdv_of (by omega) (by omega) (by omega), cdv_of (by omega) (by omega) (by omega), ?_⟩
      refine gIx_ints (ns := [hh / 64 % 9 - 4, hh / 64 % 199 - 99, 1 + hh / 64 % 3]) (by omega) (by simp; omega) (fun ti hti => ?_)
      have hti2 : -99 ≤ ti ∧ ti ≤ 99 := by
        generalize hh / 64 = z at hti
        clear hh0 hh1 hK ej hd
        simp at hti
        omega
      simp
      refine ⟨fewer (m := 1000) (by omega), hK _ ⟨rs ++ [(ti, un)], lo + 1, some (.d (.int lo)), some (.d (.int hh)), some (.d (.int un)), some (.d (.int ti)), ?_, ?_, ?_, ?_⟩⟩
      · rw [er, List.length_append]; congr 1; simp; omega
      · simp; omega
      · intro p hp
        rcases List.mem_append.mp hp with hp | hp
        · exact hok p hp
        · simp at hp; subst hp; exact ⟨hti2.1, hti2.2, hun2.1, hun2.2⟩
      · simp [numD]
    · obtain ⟨rs, lo, v, w, x, y, hd, hlen, hok, rfl⟩ := hI
      have := congrArg List.length hd
      rw [rangeD_len] at this
      simp at this
      simp
      exact h rs (by omega) (by omega) hok
  · exact h.elim
/-! ### _law_ten, _law_root, _law_spans -/
def F__law_ten : Ct := fun xs q _ => match xs with
  | [.d (.int p)] => 0 ≤ p ∧ p ≤ 630 ∧ q (.int (10 ^ p.toNat))
  | _ => False
theorem hn__law_ten (xs : List Vl) (q : D → Prop) (xc : DX) (h : F__law_ten xs q xc) : xs.length = 1 := by
  unfold F__law_ten at h; split at h
  · rfl
  · exact h.elim
theorem one_len : ("1" : Str).length = 1 := by decide +kernel
theorem nought_len : ("0" : Str).length = 1 := by decide +kernel
theorem sRep_len (n : Nat) : (sRep "0" n).length = n := by
  have := ten_len n
  have e : (("1" : Str) ++ sRep "0" n).length = ("1" : Str).length + (sRep "0" n).length := by
    show (("1" : Str).cps ++ (sRep "0" n).cps).size = _
    rw [Array.size_append]; rfl
  rw [e, one_len] at this
  omega
theorem sem__law_ten (xs : List Vl) (q : D → Prop) (xc : DX) (h : F__law_ten xs q xc) : t__law_ten (En q xc) (dstart ["places"] xs) := by
  unfold F__law_ten at h; split at h
  · rename_i p
    obtain ⟨h1, h2, h⟩ := h
    simp only [t__law_ten, dstart]
    simp
    refine ⟨⟨by rw [nought_len]; exact Nat.le_refl _, by omega, by omega, by rw [nought_len]; exact few (m := 1000) (by omega)⟩, by rw [one_len, sRep_len]; exact few (m := 1000) (by omega), ?_⟩
    refine gIntS_of (ten_text (by omega)) (by rw [ten_len]; omega) ?_
    simpa using h
  · exact h.elim
def F__law_root : Ct := fun xs q _ => match xs with
  | [.d (.int n)] => 0 ≤ n ∧ (∃ e : Nat, n < 10 ^ e ∧ e ≤ 560) ∧ q (.int (isq n))
  | _ => False
theorem hn__law_root (xs : List Vl) (q : D → Prop) (xc : DX) (h : F__law_root xs q xc) : xs.length = 1 := by
  unfold F__law_root at h; split at h
  · rfl
  · exact h.elim
theorem isq_small {n : Int} (h0 : 0 ≤ n) (h : n < 2) : isq n = n := by
  rcases (show n = 0 ∨ n = 1 by omega) with rfl | rfl
  · exact isq_eq (by omega) (by decide) (by decide)
  · exact isq_eq (by omega) (by decide) (by decide)
theorem ten_log3 (k : Nat) : (10 ^ (3 * k) : Nat) ≤ 2 ^ (10 * k) := by
  rw [Nat.pow_mul, Nat.pow_mul]
  exact Nat.pow_le_pow_left (by decide) k
theorem ten_log4 {e : Nat} (h : e ≤ 3 * k) : (10 ^ e : Nat) ≤ 2 ^ (10 * k) := Nat.le_trans (Nat.pow_le_pow_right (by decide) h) (ten_log3 k)
theorem ten_cast (e : Nat) : ((10 ^ e : Nat) : Int) = 10 ^ e := by simp
theorem sem__law_root (xs : List Vl) (q : D → Prop) (xc : DX) (h : F__law_root xs q xc) : t__law_root (En q xc) (dstart ["square", "found", "other"] xs) := by
  unfold F__law_root at h; split at h
  · rename_i n
    obtain ⟨h0, ⟨ex, hb, hex⟩, h⟩ := h
    simp only [t__law_root, dstart]
    simp
    refine ⟨fun hc => ?_, fun hc => ?_⟩
    · rw [isq_small h0 hc] at h
      exact h
    · have hn : n.natAbs < 10 ^ ex := by
        have := ten_cast ex
        omega
      have hlog : n.natAbs.log2 < 1920 := by
        have a1 := ten_log4 (k := 187) (e := ex) (by omega)
        have a2 := log2_lt_of (n := n.natAbs) (k := 10 * 187) (Nat.lt_of_lt_of_le hn a1) (by decide)
        omega
      have hlen : (Str.ofString n.repr).length = (TL.numL n.toNat).length := len_str h0
      have hL1 : (TL.numL n.toNat).length ≤ ex + 1 := TL.numL_len (by omega) (by
        have : 10 ^ ex ≤ 10 ^ (ex + 1) := Nat.pow_le_pow_right (by decide) (by omega)
        omega)
      have hbig := numL_big n.toNat
      generalize (TL.numL n.toNat).length = L at hlen hL1 hbig
      rw [hlen]
      simp [gFdiv_i]
      refine ⟨hlog, few (m := 1000) (by omega), cdv_of (by omega) (by omega) (by omega), ?_⟩
      rw [fdiv_pos (by omega)]
      have hj : (((L : Int) + 1) / 2).toNat ≤ 281 := by omega
      have hj2 : L ≤ 2 * (((L : Int) + 1) / 2).toNat := by omega
      refine ⟨⟨by rw [nought_len]; exact Nat.le_refl _, by omega, by omega, by rw [nought_len]; exact few (m := 1000) (by omega)⟩, by rw [one_len, sRep_len]; exact few (m := 1000) (by omega), ?_⟩
      generalize (((L : Int) + 1) / 2).toNat = j at hj hj2
      refine gIntS_of (ten_text (n := j) (by omega)) (by rw [ten_len]; omega) ?_
      rw [ten_cast]
      have f1 : (1 : Int) ≤ 10 ^ j := by have := ten_pos j; omega
      have fr : isq n ≤ 10 ^ j := by
        have a1 := isq_le h0
        have a2 : n < 10 ^ j * 10 ^ j := by
          rw [← Int.pow_add]
          have b1 : (10 : Nat) ^ L ≤ 10 ^ (j + j) := Nat.pow_le_pow_right (by decide) (by omega)
          have b2 := ten_cast (j + j)
          omega
        have := lt_of_sq (a := isq n) (b := 10 ^ j) (by omega) (by omega)
        omega
      have fl : ∀ f : Int, 1 ≤ f → f ≤ 10 ^ j → CDv n f := fun f g1 g2 => ⟨by omega, by
        have b2 := ten_cast j
        have b3 := ten_log j
        have := log2_lt_of (n := f.natAbs) (k := 4 * j + 1) (by rw [Nat.pow_succ]; omega) (by omega)
        omega⟩
      have r1 : 1 ≤ isq n := le_isq (by omega) (by omega)
      simp [gFdiv_i]
      refine ⟨fl _ f1 (Int.le_refl _), cdv_of (by omega) (by omega) (by omega), ?_⟩
      rw [fdiv_pos (by omega), fdiv_pos (by omega)]
      refine while_ind (fun k ρ => ∃ f : Int, ρ = [some (.d (.int n)), some (.d (.int f)), some (.d (.int ((f + n / f) / 2)))] ∧ 1 ≤ f ∧ f ≤ 10 ^ j ∧ isq n ≤ f ∧ k = f.toNat) (fun k ρ K hI hK => ?_) (n := (10 ^ j : Int).toNat) ⟨10 ^ j, rfl, f1, Int.le_refl _, fr, rfl⟩
      obtain ⟨f, rfl, g1, g2, g3, hk⟩ := hI
      have ng := newton_ge h0 g1
      simp [gFdiv_i]
      refine ⟨fun hlt => ⟨fl _ (by omega) (by omega), cdv_of (by omega) (by omega) (by omega), ?_⟩, fun hge => ?_⟩
      · rw [fdiv_pos (by omega), fdiv_pos (by omega)]
        exact hK _ _ (by omega) ⟨(f + n / f) / 2, rfl, by omega, by omega, ng, rfl⟩
      · rw [newton_end h0 g1 g3 (by omega)] at h
        exact h
  · exact h.elim
/-- the two whole numbers about a root -/
def spanF (t u : Int) (p : Nat) : Int × Int :=
  let r := isq (sqF t u p)
  let hi := if r * r = sqF t u p then r else r + 1
  if 0 ≤ t then (r, hi) else (0 - hi, 0 - r)
def F__law_spans : Ct := fun xs q _ => match xs with
  | [.d (.tuple [.int t, .int u]), .d (.int p)] => t.natAbs ≤ 100000 ∧ 1 ≤ u ∧ u ≤ 100000 ∧ 0 ≤ p ∧ p ≤ 250 ∧ q (numD (spanF t u p.toNat))
  | _ => False
theorem hn__law_spans (xs : List Vl) (q : D → Prop) (xc : DX) (h : F__law_spans xs q xc) : xs.length = 2 := by
  unfold F__law_spans at h; split at h
  · rfl
  · exact h.elim
theorem sq_small {t u : Int} (ht : t.natAbs ≤ 100000) (hu1 : 1 ≤ u) (hu2 : u ≤ 100000) : 0 ≤ t * t ∧ t * t ≤ 10000000000 ∧ 0 ≤ t * t * u ∧ t * t * u ≤ 1000000000000000 := by
  have a0 := sq_nonneg t
  have a1 : t * t ≤ 100000 * 100000 := by
    rcases Int.le_total 0 t with q | q
    · exact mul_le_self q (by omega)
    · rw [show t * t = (-t) * (-t) from (Int.neg_mul_neg t t).symm]
      exact mul_le_self (by omega) (by omega)
  have a2 : t * t * u ≤ 10000000000 * 100000 := Int.mul_le_mul (by omega) hu2 (by omega) (by omega)
  have a3 : 0 ≤ t * t * u := Int.mul_nonneg a0 (by omega)
  exact ⟨a0, by omega, a3, by omega⟩
theorem sqF_lt {t u : Int} {p : Nat} (ht : t.natAbs ≤ 100000) (hu1 : 1 ≤ u) (hu2 : u ≤ 100000) : sqF t u p < 10 ^ (16 + 2 * p) := by
  obtain ⟨_, _, a3, a4⟩ := sq_small ht hu1 hu2
  unfold sqF
  rw [Int.pow_add]
  exact Int.mul_lt_mul_of_pos_right (by omega) (ten_pos _)
theorem sem__law_spans (xs : List Vl) (q : D → Prop) (xc : DX) (h : F__law_spans xs q xc) : t__law_spans F__law_ten F__law_root (En q xc) (dstart ["number", "places", "times", "under", "square", "root", "low", "high"] xs) := by
  unfold F__law_spans at h; split at h
  · rename_i t u p
    obtain ⟨ht, hu1, hu2, hp1, hp2, h⟩ := h
    simp only [t__law_spans, dstart]
    simp [gMul_i, F__law_ten, F__law_root]
    have e : t * t * u * 10 ^ (2 * p).toNat = sqF t u p.toNat := by
      unfold sqF
      rw [show (2 * p).toNat = 2 * p.toNat by omega]
    have hs0 : 0 ≤ sqF t u p.toNat := sqF_nonneg (by omega)
    have hlt := sqF_lt (p := p.toNat) ht hu1 hu2
    obtain ⟨z1, z2, z3, z4⟩ := sq_small ht hu1 hu2
    have hl2 : (isq (sqF t u p.toNat)).natAbs.log2 < 500000 := by
      have hlg := sqF_log (t := t) (u := u) (p := p.toNat) (by omega) (by omega)
      have := log2_mono (a := (isq (sqF t u p.toNat)).natAbs) (b := (sqF t u p.toNat + 1).natAbs) (by have := isq_le_self hs0; have := isq_nonneg (sqF t u p.toNat); omega)
      omega
    rw [e]
    refine ⟨cml_l (by omega) (by omega), cml_l (by omega) (by omega), cml_l (by omega) (by omega), by omega, by omega, cml_l (by omega) (by omega), hs0, ⟨_, hlt, by omega⟩, cml_w hl2 hl2, fun hq => ⟨fun hc => ?_, fun hc => ?_⟩, fun hq => ⟨fun hc => ?_, fun hc => ?_⟩⟩
    · simpa [spanF, numD, hq, hc] using h
    · simpa [spanF, numD, hq, show ¬ 0 ≤ t by omega] using h
    · simpa [spanF, numD, hq, hc] using h
    · simpa [spanF, numD, hq, show ¬ 0 ≤ t by omega] using h
  · exact h.elim
end DL

/-! k10: what its law computes -/
namespace DL
open PySem L2 LamX
abbrev al3 : List Str := ["BadNumber", "BadRow", "BadText"]
theorem numD_ok {p : Int × Int} (h : NumOk p) : isNum (numD p) = true := by
  obtain ⟨h1, h2, h3, h4⟩ := h
  simp [numD, isNum, isCnt, h1, h2, h3, h4]
theorem all_numD {rs : List (Int × Int)} (h : ∀ p ∈ rs, NumOk p) : (rs.map numD).all isNum = true := by
  simp [List.all_map]
  intro a b hab
  exact numD_ok (h _ hab)
theorem isRow_ok {rs : List (Int × Int)} (h1 : 1 ≤ rs.length) (h5 : rs.length ≤ 5) (h : ∀ p ∈ rs, NumOk p) : isRow (.list (rs.map numD)) = true := by
  show (decide (1 ≤ (rs.map numD).length) && decide ((rs.map numD).length ≤ 5) && (rs.map numD).all isNum) = true
  rw [all_numD h, List.length_map]
  simp [h1, h5]
theorem al_num : al3.contains ("BadNumber" : Str) = true := by decide +kernel
theorem al_row : al3.contains ("BadRow" : Str) = true := by decide +kernel
theorem rep_len {α : Type} (n : Nat) (x : α) : (List.replicate n [x]).flatten = List.replicate n x := by
  induction n with
  | zero => rfl
  | succ n ih => rw [List.replicate_succ, List.flatten_cons, ih, List.replicate_succ]; rfl
def F__law_refused_k10 : Ct := fun xs q _ => match xs with
  | [.d (.list ds)] => ∃ rs : List (Int × Int), ds = rs.map numD ∧ 1 ≤ rs.length ∧ rs.length ≤ 5 ∧ (∀ p ∈ rs, NumOk p) ∧ q (.bool true)
  | _ => False
theorem hn__law_refused_k10 (xs : List Vl) (q : D → Prop) (xc : DX) (h : F__law_refused_k10 xs q xc) : xs.length = 1 := by
  unfold F__law_refused_k10 at h; split at h
  · rfl
  · exact h.elim
/-- what is no number -/
def noNum : List D := [.none, .tuple [], .tuple [.int 1], .list [.int 1, .int 2], .tuple [.int 1, .int 0], .tuple [.int 1, .int 100], .tuple [.int 100, .int 1], .tuple [.int (-100), .int 1], .tuple [.bool true, .int 1], .tuple [.int 1, .bool true], .tuple [.int 1, .none], .tuple [.int 1, .int 2, .int 3]]
theorem noNum_no : ∀ d ∈ noNum, isNum d = false := by decide +kernel
theorem sem__law_refused_k10 (xs : List Vl) (q : D → Prop) (xc : DX) (h : F__law_refused_k10 xs q xc) : t__law_refused_k10 al3 F_plain F_digits F_need_row F_need_times (En q xc) (dstart ["row", "none", "bad", "some", "many", "times"] xs) := by
  unfold F__law_refused_k10 at h; split at h
  · obtain ⟨rs, rfl, h1, h5, hok, h⟩ := h
    have hrow := isRow_ok h1 h5 hok
    have hlen : (rs.map numD).length = rs.length := List.length_map _
    generalize rs.map numD = ds at hrow hlen
    rw [← hlen] at h1 h5
    clear hok hlen
    simp only [t__law_refused_k10, dstart]
    simp only [s_dSeq, s_dSet, s_dLst, s_dTup, s_dCons, s_dNil, s_dC, s_dNeg, s_gNeg, s_tup0, s_tup1, s_tup2, s_lst2]
    refine gLst_all rfl (by decide) ?_
    simp
    refine ⟨by decide, for_ind (fun es ρ => (∀ d ∈ es, isNum d = false) ∧ ∃ (v w : Option Vl), ρ = [some (.d (.list ds)), some (.d (.list (noNum.take 10))), v, w, none, none]) ⟨noNum_no, none, none, rfl⟩ (fun d r ρ K hI hK => ?_) (fun ρ hI => ?_)⟩
    · obtain ⟨hno, v, w, rfl⟩ := hI
      have hd := hno d List.mem_cons_self
      refine ⟨_, rfl, ?_⟩
      simp [F_plain, F_digits, F_need_row, hd, al_num, isRow, al_row]
      refine ⟨by decide, by decide, ?_⟩
      rw [gNe_of rfl rfl]
      simp [Vl.all]
      exact hK _ ⟨fun x hx => hno x (List.mem_cons_of_mem _ hx), _, _, rfl⟩
    · obtain ⟨_, v, w, rfl⟩ := hI
      simp
      refine for_ind (fun es ρ => (∀ d ∈ es, isCnt d 0 30 = false) ∧ ∃ (v w : Option Vl), ρ = [some (.d (.list ds)), some (.d (.list (noNum.take 10))), v, w, none, none]) ⟨by decide +kernel, v, w, rfl⟩ (fun d r ρ K hI hK => ?_) (fun ρ hI => ?_)
      · obtain ⟨hno, v, w, rfl⟩ := hI
        have hd := hno d List.mem_cons_self
        refine ⟨_, rfl, ?_⟩
        have h12 : isNum (.tuple [.int 1, .int 2]) = true := by decide +kernel
        simp [F_digits, hd, al_num, h12]
        exact hK _ ⟨fun x hx => hno x (List.mem_cons_of_mem _ hx), _, _, rfl⟩
      · obtain ⟨_, v, w, rfl⟩ := hI
        simp
        refine ⟨by decide, ?_⟩
        refine gLst_all rfl (by simp) ?_
        simp
        refine for_ind (fun es ρ => (∀ d ∈ es, isRow d = false) ∧ ∃ (v w : Option Vl), ρ = [some (.d (.list ds)), some (.d (.list (noNum.take 10))), v, w, none, none]) ⟨?_, v, w, rfl⟩ (fun d r ρ K hI hK => ?_) (fun ρ hI => ?_)
        · simp [isRow, isNum]
        · obtain ⟨hno, v, w, rfl⟩ := hI
          have hd := hno d List.mem_cons_self
          refine ⟨_, rfl, ?_⟩
          simp [F_need_row, hd, al_row]
          exact hK _ ⟨fun x hx => hno x (List.mem_cons_of_mem _ hx), _, _, rfl⟩
        · obtain ⟨_, v, w, rfl⟩ := hI
          have e1 : ((ds.length : Int) + 1).toNat = ds.length + 1 := by omega
          simp [e1]
          refine ⟨⟨by omega, by omega⟩, ⟨by omega, by omega, few (m := 1000) (by omega)⟩, ⟨by omega, few (m := 1000) (by omega)⟩, ?_⟩
          refine gLst_all rfl (by simp) ?_
          simp [rep_len]
          refine for_ind (fun es ρ => (∀ d ∈ es, isTimes ds.length d = false) ∧ ∃ (v w : Option Vl), ρ = [some (.d (.list ds)), some (.d (.list (noNum.take 10))), v, w, some (.d (.int ds.length)), none]) ⟨?_, v, w, rfl⟩ (fun d r ρ K hI hK => ?_) (fun ρ hI => ?_)
          · have hp : ds.length ≠ 0 := by omega
            simp [isTimes, isCnt, hp]
          · obtain ⟨hno, v, w, rfl⟩ := hI
            have hd := hno d List.mem_cons_self
            refine ⟨_, rfl, ?_⟩
            simp [F_need_times, hd, al_row]
            exact ⟨by omega, hK _ ⟨fun x hx => hno x (List.mem_cons_of_mem _ hx), _, _, rfl⟩⟩
          · obtain ⟨_, v, w, rfl⟩ := hI
            have ht : isTimes ds.length (.list (List.replicate ds.length (.int (-1000)))) = true := by simp [isTimes, isCnt]
            simp [F_need_row, F_need_times, hrow, rep_len, ht]
            refine ⟨⟨by omega, few (m := 1000) (by omega)⟩, by omega, ⟨by omega, few (m := 1000) (by omega)⟩, ?_⟩
            have ok : okD 40 (.list (List.replicate ds.length (.int (-1000)))) = true := by
              show (List.replicate ds.length (PyData.int (-1000))).all (okD 39) = true
              simp
              right; rfl
            rw [gEq_of (x := .d _) (y := .d _) ok ok]
            have pl : PyData.eqv (.list (List.replicate ds.length (.int (-1000)))) (.list (List.replicate ds.length (.int (-1000)))) = true := PySem.SeqAt.eqv_refl_plain _ (okD_plain 40 _ ok)
            simp only [Vl.all]
            rw [pl]
            exact h
  · exact h.elim
/-! ### the law -/
def F_law_k10 : Ct := fun xs q _ => match xs with
  | [.s ns] => ns.length < 2 ^ 60 ∧ q (.bool true)
  | _ => False
theorem hn_law_k10 (xs : List Vl) (q : D → Prop) (xc : DX) (h : F_law_k10 xs q xc) : xs.length = 1 := by
  unfold F_law_k10 at h; split at h
  · rfl
  · exact h.elim
theorem PlainOf.small {t u t' u' : Int} (h : PlainOf t u t' u') (ht : t.natAbs ≤ 10000) (hu1 : 1 ≤ u) (hu : u ≤ 10000) : t'.natAbs ≤ 100000000 := by
  by_cases h0 : t = 0
  · rw [(h.zero h0).1]; decide
  · obtain ⟨m, h1, h2, h3⟩ := h.nz h0
    have a1 : m * 1 ≤ m * m := Int.mul_le_mul_of_nonneg_left h1 (by omega)
    have a2 : 1 * (m * m) ≤ u' * (m * m) := Int.mul_le_mul_of_nonneg_right h.pos (by omega)
    have a3 : m.natAbs ≤ 10000 := by omega
    rw [h2, Int.natAbs_mul]
    have := Nat.mul_le_mul ht a3
    omega
theorem isort_two (a b : Int) : isort [a, b] = if a ≤ b then [a, b] else [b, a] := by
  split
  · rename_i h
    exact sorted_unique (isort_perm _) (isort_sorted _) (by simp [h])
  · rename_i h
    exact sorted_unique ((isort_perm _).trans (List.Perm.swap b a [])) (isort_sorted _) (by simp; omega)
theorem span_dig (t u : Int) (p : Nat) : (spanF t u p).1 = digF t u p := by
  unfold spanF digF
  by_cases h : 0 ≤ t
  · simp [h]
  · by_cases hq : isq (sqF t u p) * isq (sqF t u p) = sqF t u p
    · simp [h, hq]
    · simp [h, hq]; omega
structure SpanOk (S lo hi : Int) : Prop where
  l1 : lo.natAbs ≤ (S + 1).natAbs
  l2 : hi.natAbs ≤ (S + 1).natAbs
  mid : (lo * lo ≤ S ∧ S ≤ hi * hi) ∨ (hi * hi ≤ S ∧ S ≤ lo * lo)
theorem span_ok (t u : Int) (p : Nat) (hu : 0 ≤ u) : SpanOk (sqF t u p) (spanF t u p).1 (spanF t u p).2 := by
  have h0 : 0 ≤ sqF t u p := sqF_nonneg hu
  have a1 := isq_le h0
  have a2 := lt_isq h0
  have a3 := isq_nonneg (sqF t u p)
  have a4 := isq_le_self h0
  unfold spanF
  generalize sqF t u p = S at *
  generalize isq S = r at *
  by_cases hq : r * r = S
  · by_cases h : 0 ≤ t
    · simp only [hq, h, if_true]
      exact ⟨by omega, by omega, .inl ⟨by omega, by omega⟩⟩
    · simp only [hq, h, if_true, if_false]
      refine ⟨by omega, by omega, .inl ⟨?_, ?_⟩⟩
      · rw [show (0 - r) * (0 - r) = r * r by rw [Int.zero_sub]; exact Int.neg_mul_neg r r]; omega
      · rw [show (0 - r) * (0 - r) = r * r by rw [Int.zero_sub]; exact Int.neg_mul_neg r r]; omega
  · by_cases h : 0 ≤ t
    · simp only [hq, h, if_true, if_false]
      exact ⟨by omega, by omega, .inl ⟨by omega, by omega⟩⟩
    · simp only [hq, h, if_false]
      refine ⟨by omega, by omega, .inr ⟨?_, ?_⟩⟩
      · rw [show (0 - r) * (0 - r) = r * r by rw [Int.zero_sub]; exact Int.neg_mul_neg r r]; omega
      · rw [show (0 - (r + 1)) * (0 - (r + 1)) = (r + 1) * (r + 1) by rw [Int.zero_sub]; exact Int.neg_mul_neg _ _]; omega
theorem both {p r F G : Prop} (h : F) (hr : p → r) : (p → (r → F) ∧ (¬ r → G)) ∧ (¬ p → F) := ⟨fun hp => ⟨fun _ => h, fun z => absurd (hr hp) z⟩, fun _ => h⟩
theorem sem_law_k10 (xs : List Vl) (q : D → Prop) (xc : DX) (h : F_law_k10 xs q xc) : t_law_k10 F__law_drawn F__law_cell F__law_row F_plain F__law_spans F_digits F__law_ten F__law_refused_k10 (En q xc) (dstart ["script", "k", "more", "row", "number", "times", "under", "places", "low", "high", "square", "by"] xs) := by
  unfold F_law_k10 at h; split at h
  · rename_i ns
    obtain ⟨hns, h⟩ := h
    simp only [t_law_k10, dstart]
    simp
    refine ⟨⟨by split <;> split <;> omega, by split <;> split <;> omega⟩, ?_⟩
    refine for_ind (fun es ρ => (∀ d ∈ es, ∃ k : Int, d = .int k ∧ 0 ≤ k ∧ k < 100) ∧ ∃ v1 v2 v3 v4 v5 v6 v7 v8 v9 v10 : Option Vl, ρ = [some (.s ns), v1, v2, v3, v4, v5, v6, v7, v8, v9, v10, none]) ⟨?_, none, none, none, none, none, none, none, none, none, none, rfl⟩ (fun d r ρ K hI hK => ?_) (fun ρ hI => ?_)
    · intro d hd
      unfold rangeD at hd
      obtain ⟨i, hi, rfl⟩ := List.mem_map.mp hd
      have := List.mem_range.mp hi
      refine ⟨_, rfl, by omega, ?_⟩
      revert this
      split <;> split <;> intro this <;> omega
    · obtain ⟨hes, v1, v2, v3, v4, v5, v6, v7, v8, v9, v10, rfl⟩ := hI
      obtain ⟨k, rfl, hk0, hk1⟩ := hes d List.mem_cons_self
      refine ⟨_, rfl, ?_⟩
      simp [F__law_cell, F__law_drawn, F__law_row, gFdiv_i]
      refine ⟨by omega, by omega, by omega, fun more hm0 hm1 => ?_⟩
      refine ⟨cdv_of (by omega) (by omega) (by omega), fun rs h1 h5 hok => ?_⟩
      refine ⟨few (m := 1000) (by omega), ?_⟩
      refine for_ind (fun es ρ => (∃ ps : List (Int × Int), es = ps.map numD ∧ ∀ p ∈ ps, NumOk p) ∧ ∃ v4 v5 v6 v7 v8 v9 v10 : Option Vl, ρ = [some (.s ns), some (.d (.int k)), some (.d (.int more)), some (.d (.list (rs.map numD))), v4, v5, v6, v7, v8, v9, v10, none]) ⟨?_, _, _, _, _, _, _, _, rfl⟩ (fun d r2 ρ K2 hI hK2 => ?_) (fun ρ hI => ?_)
      · refine ⟨rs ++ [(99, 99), (-99, 98), (0, 50), (7, 64)], by simp [numD], fun p hp => ?_⟩
        rcases List.mem_append.mp hp with hp | hp
        · exact hok _ _ hp
        · simp at hp
          rcases hp with rfl | rfl | rfl | rfl <;> exact ⟨by decide, by decide, by decide, by decide⟩
      · obtain ⟨⟨ps, hps, hpo⟩, v4, v5, v6, v7, v8, v9, v10, rfl⟩ := hI
        obtain ⟨⟨t, u⟩, ps2, rfl⟩ : ∃ p ps2, ps = p :: ps2 := by
          cases ps with
          | nil => cases hps
          | cons p ps2 => exact ⟨p, ps2, rfl⟩
        injection hps with e1 e2
        subst e1
        have hn := hpo _ List.mem_cons_self
        have hnum := numD_ok hn
        obtain ⟨n1, n2, n3, n4⟩ := hn
        dsimp only at n1 n2 n3 n4
        refine ⟨_, rfl, ?_⟩
        simp [F_plain, hnum]
        simp [F_plain_of, numD]
        refine ⟨n3, by omega, fun t' u' P => ?_⟩
        have ps := P.small (by omega) n3 (by omega)
        have psq := P.sq
        have psg := P.sgn
        have ppos := P.pos
        have ple := P.le
        simp [gMul_i]
        have q1 : 0 ≤ t * t * u ∧ t * t * u ≤ 1000000000000000 ∧ 0 ≤ t * t ∧ t * t ≤ 10000000000 := by
          have := sq_small (t := t) (u := u) (by omega) n3 (by omega)
          omega
        have q2 : (t' * t').natAbs < 2 ^ 60 := by
          rw [Int.natAbs_mul]
          have := Nat.mul_le_mul ps ps
          omega
        refine ⟨cml_l (by omega) (by omega), cml_l (by omega) (by omega), cml_l (by omega) (by omega), cml_l (by omega) (by omega), fun _ => ⟨cml_l (by omega) (by omega), fun z => absurd psg (by omega), fun _ => ⟨rfl, ?_⟩⟩, fun z => absurd psq z⟩
        refine lc_nmF (p := fun _ => false) (f := fun d => d) (by rw [rangeD_len]; exact few (m := 8) (by omega)) (fun d hd k hk => ?_) (fun d _ z => by cases z) ?_
        · obtain ⟨i, hi, rfl⟩ := List.mem_map.mp (show d ∈ (List.range 8).map fun i => PyData.int (2 + (i : Nat)) from hd)
          have := List.mem_range.mp hi
          have hfr := P.free (2 + (i : Nat)) (by omega)
          have hb : (2 + (i : Nat) : Int) ≤ 10 ∧ 2 ≤ (2 + (i : Nat) : Int) := by omega
          generalize (2 + (i : Nat) : Int) = b at hfr hb
          have hbb : 0 < b * b := Int.mul_pos (by omega) (by omega)
          simp [wipeD, gMul_i]
          refine ⟨cml_l (by omega) (by omega), by omega, ?_⟩
          rw [fmod_pos hbb, decide_eq_false (fun z => absurd (Int.dvd_of_emod_eq_zero z) hfr)]
          exact hk
        · rw [show (List.filter (fun _ => false) (rangeD 2 8)).map (fun d => d) = [] by simp]
          simp [gNe_of (x := .d (.list [])) (y := .d (.list [])) rfl rfl, Vl.all]
          refine both ?_ (fun e => P.t0 e)
          rw [fmod_pos (by omega)]
          have hmo : 0 ≤ more % 31 ∧ more % 31 ≤ 30 := by omega
          refine for_ind (fun es ρ => (∀ d ∈ es, ∃ p : Int, d = .int p ∧ 0 ≤ p ∧ p ≤ 30) ∧ ∃ v7 v8 v9 v10 : Option Vl, ρ = [some (.s ns), some (.d (.int k)), some (.d (.int more)), some (.d (.list (rs.map numD))), some (.d (.tuple [.int t, .int u])), some (.d (.int t')), some (.d (.int u')), v7, v8, v9, v10, none]) ⟨?_, _, _, _, _, rfl⟩ (fun d r3 ρ K3 hI hK3 => ?_) (fun ρ hI => ?_)
          · simp
            omega
          · obtain ⟨hes3, v7, v8, v9, v10, rfl⟩ := hI
            obtain ⟨p, rfl, hp0, hp1⟩ := hes3 d List.mem_cons_self
            refine ⟨_, rfl, ?_⟩
            have hcnt : isCnt (.int p) 0 30 = true := by simp [isCnt, hp0, hp1]
            have hnum2 : isNum (.tuple [.int t, .int u]) = true := hnum
            simp [F__law_spans, F_digits, hcnt, hnum2, F_digits_of, numD, gMul_i, F__law_ten]
            have e10 : t * t * u * 10 ^ (2 * p).toNat = sqF t u p.toNat := by
              unfold sqF
              rw [show (2 * p).toNat = 2 * p.toNat by omega]
            have SO := span_ok t u p.toNat (by omega)
            have hlg := sqF_log (t := t) (u := u) (p := p.toNat) (by omega) (by omega)
            have c1 : CMl (spanF t u p.toNat).1 (spanF t u p.toNat).1 := by
              have := log2_mono SO.l1
              exact cml_w (by omega) (by omega)
            have c2 : CMl (spanF t u p.toNat).2 (spanF t u p.toNat).2 := by
              have := log2_mono SO.l2
              exact cml_w (by omega) (by omega)
            rw [e10]
            refine ⟨by omega, n3, by omega, hp0, by omega, by omega, n3, by omega, hp0, by omega, fun _ => ⟨cml_l (by omega) (by omega), cml_l (by omega) (by omega), cml_l (by omega) (by omega), by omega, by omega, cml_l (by omega) (by omega), c1, c2, ?_⟩, fun z => absurd (span_dig t u p.toNat).symm z⟩
            rw [gSorted_of (bs := [(spanF t u p.toNat).1 * (spanF t u p.toNat).1, (spanF t u p.toNat).2 * (spanF t u p.toNat).2]) rfl, isort_two, gSorted_of (bs := [(spanF t u p.toNat).1 * (spanF t u p.toNat).1, (spanF t u p.toNat).2 * (spanF t u p.toNat).2]) rfl, isort_two]
            have fin := hK3 [some (.s ns), some (.d (.int k)), some (.d (.int more)), some (.d (.list (rs.map numD))), some (.d (.tuple [.int t, .int u])), some (.d (.int t')), some (.d (.int u')), some (.d (.int p)), some (.d (.int (spanF t u p.toNat).1)), some (.d (.int (spanF t u p.toNat).2)), some (.d (.int (sqF t u p.toNat))), none] ⟨fun x hx => hes3 x (List.mem_cons_of_mem _ hx), _, _, _, _, rfl⟩
            have mid := SO.mid
            generalize (spanF t u p.toNat).1 * (spanF t u p.toNat).1 = A at mid
            generalize (spanF t u p.toNat).2 * (spanF t u p.toNat).2 = B at mid
            by_cases hAB : A ≤ B
            · simp only [hAB, if_true, List.map_cons, List.map_nil]
              simp
              exact ⟨fun z => by omega, fun _ => ⟨c1, c2, fun z => by omega, fun _ => fin⟩⟩
            · simp only [hAB, if_false, List.map_cons, List.map_nil]
              simp
              exact ⟨fun z => by omega, fun _ => ⟨c1, c2, fun z => by omega, fun _ => fin⟩⟩
          · obtain ⟨_, v7, v8, v9, v10, rfl⟩ := hI
            exact hK2 _ ⟨⟨ps2, e2, fun p hp => hpo p (List.mem_cons_of_mem _ hp)⟩, _, _, _, _, _, _, _, rfl⟩
      · obtain ⟨_, v4, v5, v6, v7, v8, v9, v10, rfl⟩ := hI
        simp [F__law_refused_k10]
        refine ⟨rs, rfl, h1, by omega, hok, ?_⟩
        exact hK _ ⟨fun d hd => hes d (List.mem_cons_of_mem _ hd), _, _, _, _, _, _, _, _, _, _, rfl⟩
    · obtain ⟨_, v1, v2, v3, v4, v5, v6, v7, v8, v9, v10, rfl⟩ := hI
      simp
      exact h
  · exact h.elim
end DL

namespace R10
open PySem L2 LamX DL
def topS (i : Nat) : Stmt := PySem.Challenge.pw_noughtsums_k10_whole_numbers.main.body.getD i (.Pass ⟨0, 0, 0, 0⟩)
structure Txt (K : PySem.W.Frag) (mg : Str → Option Value) (T : Wd) : Prop where
  n_all : mg "all" = none
  n_bool : mg "bool" = none
  n_int : mg "int" = none
  n_isinstance : mg "isinstance" = none
  n_len : mg "len" = none
  n_list : mg "list" = none
  n_max : mg "max" = none
  n_min : mg "min" = none
  n_range : mg "range" = none
  n_sorted : mg "sorted" = none
  n_str : mg "str" = none
  n_tuple : mg "tuple" = none
  c_MOST : ∃ t, mg "MOST" = some (.int (99) t)
  c_MOST_NUMBERS : ∃ t, mg "MOST_NUMBERS" = some (.int (5) t)
  c_MOST_PLACES : ∃ t, mg "MOST_PLACES" = some (.int (30) t)
  c_MOST_TIMES : ∃ t, mg "MOST_TIMES" = some (.int (1000) t)
  x_BadNumber : ExC K mg T "BadNumber"
  x_BadRow : ExC K mg T "BadRow"
section
variable {P : Program} {w : World} {K : PySem.W.Frag} {mg : Str → Option Value} {base : Heap} {T : Wd}
abbrev st__law_drawn : Stmt := topS 24
theorem sc__law_drawn : FnScope ["cell", "k", "more"] ["cell", "k"] (defScope st__law_drawn) := ⟨rfl, rfl, rfl, by decide +kernel, rfl, by decide +kernel, by decide +kernel⟩
theorem bd__law_drawn (tx : Txt K mg T) {f : Addr} {cdv : Value} {A : Around} {outer : List Env} {s : Shared} {H : Hp} {E : XK} (hr : Room 0 (A.deeper (PyProof.Rows.envOfC "_law_drawn" (defScope st__law_drawn) s.heap.objs.size f cdv))) :
    BD (cxOf (L2N.CX P w) P w K mg base ["cell", "k", "more"] "_law_drawn" (defScope st__law_drawn) f cdv A outer s H E) T E (defBody st__law_drawn) (t__law_drawn) := by
  exact (bd_cons (sd_set 2 (de_mod (de_add (de_mul (de_var (pv 0)) de_int) (de_mul (de_add (de_var (pv 1)) de_int) de_int)) de_int) sc__law_drawn.nd)
    (bd_cons (sd_set 2 (de_mod (de_mul (de_var (pv 2)) (de_var (pv 2))) de_int) sc__law_drawn.nd)
    (bd_cons (sd_set 2 (de_mul (de_mul (de_add (de_mod (de_var (pv 2)) de_int) de_int) (de_add (de_fdiv (de_var (pv 2)) de_int) de_int)) (de_var (pv 2))) sc__law_drawn.nd)
    (bd_one (sd_ret (de_mod (de_var (pv 2)) de_int))))))
abbrev st__law_row : Stmt := topS 30
theorem sc__law_row : FnScope ["more", "most", "found", "j", "here", "under", "times"] ["more", "most"] (defScope st__law_row) := ⟨rfl, rfl, rfl, by decide +kernel, rfl, by decide +kernel, by decide +kernel⟩
theorem bd__law_row (tx : Txt K mg T) {F__law_drawn : Ct} (d__law_drawn : Df P w K mg base T "_law_drawn" 1 2 F__law_drawn) {f : Addr} {cdv : Value} {A : Around} {outer : List Env} {s : Shared} {H : Hp} {E : XK} (hr : Room 1 (A.deeper (PyProof.Rows.envOfC "_law_row" (defScope st__law_row) s.heap.objs.size f cdv))) :
    BD (cxOf (L2N.CX P w) P w K mg base ["more", "most", "found", "j", "here", "under", "times"] "_law_row" (defScope st__law_row) f cdv A outer s H E) T E (defBody st__law_row) (t__law_row F__law_drawn) := by
  exact (bd_cons (sd_ownL 2 ad_nil sc__law_row.nd)
    (bd_cons (sd_for (passes_of rfl) (id_range1 tx.n_range (ad_cons (de_add de_int (de_mod (de_var (pv 0)) (de_var (pv 1)))) ad_nil)) (pg_nm 3 sc__law_row.nd) (bd_cons (sd_set 4 (de_fn d__law_drawn (hr.mono (by decide)) (L2N.passes_call (L2N.takes_of rfl rfl rfl rfl) fun _ _ _ _ h => h) (ad_cons (de_var (pv 0)) (ad_cons (de_var (pv 3)) ad_nil))) sc__law_row.nd)
    (bd_cons (sd_set 5 (de_idx (de_lst (ad_cons de_int (ad_cons de_int (ad_cons de_int (ad_cons de_int (ad_cons de_int (ad_cons de_int (ad_cons de_int (ad_cons de_int (ad_cons de_int (ad_cons de_int (ad_cons de_int (ad_cons (de_add de_int (de_mod (de_fdiv (de_var (pv 4)) (de_pow de_int de_int)) de_int)) ad_nil))))))))))))) (de_mod (de_var (pv 4)) de_int)) sc__law_row.nd)
    (bd_cons (sd_set 6 (de_idx (de_lst (ad_cons (de_sub (de_mod (de_fdiv (de_var (pv 4)) de_int) de_int) de_int) (ad_cons (de_sub (de_mod (de_fdiv (de_var (pv 4)) de_int) de_int) de_int) (ad_cons (de_add de_int (de_mod (de_fdiv (de_var (pv 4)) de_int) de_int)) ad_nil)))) (de_mod (de_fdiv (de_var (pv 4)) de_int) de_int)) sc__law_row.nd)
    (bd_one (sd_append 2 (pe_bm PySem.F.plainAttrs_list PySem.F.slot_list_append PySem.F.type_list_append mt_append (pv 2) (pa_cons (de_tup (ad_cons (de_var (pv 6)) (ad_cons (de_var (pv 5)) ad_nil))) pa_nil))))))))
    (bd_one (sd_ret (de_var (pv 2))))))
abbrev st__law_cell : Stmt := topS 23
theorem sc__law_cell : FnScope ["script", "k"] ["script", "k"] (defScope st__law_cell) := ⟨rfl, rfl, rfl, by decide +kernel, rfl, by decide +kernel, by decide +kernel⟩
theorem bd__law_cell (tx : Txt K mg T) {f : Addr} {cdv : Value} {A : Around} {outer : List Env} {s : Shared} {H : Hp} {E : XK} (hr : Room 0 (A.deeper (PyProof.Rows.envOfC "_law_cell" (defScope st__law_cell) s.heap.objs.size f cdv))) :
    BD (cxOf (L2N.CX P w) P w K mg base ["script", "k"] "_law_cell" (defScope st__law_cell) f cdv A outer s H E) T E (defBody st__law_cell) (t__law_cell) := by
  exact (bd_cons (sd_if (td_cm (c_eq hr) (de_var (pv 0)) (de_lst ad_nil)) (bd_one (sd_ret (de_mul (de_var (pv 1)) de_int))) bd_nil)
    (bd_one (sd_ret (de_add (de_idx (de_var (pv 0)) (de_mod (de_var (pv 1)) (de_b b_len tx.n_len (ad_cons (de_var (pv 0)) ad_nil)))) (de_mul (de_fdiv (de_var (pv 1)) (de_b b_len tx.n_len (ad_cons (de_var (pv 0)) ad_nil))) de_int)))))
abbrev st_is_count : Stmt := topS 10
theorem sc_is_count : FnScope ["thing", "low", "high"] ["thing", "low", "high"] (defScope st_is_count) := ⟨rfl, rfl, rfl, by decide +kernel, rfl, by decide +kernel, by decide +kernel⟩
theorem bd_is_count (tx : Txt K mg T) {f : Addr} {cdv : Value} {A : Around} {outer : List Env} {s : Shared} {H : Hp} {E : XK} (hr : Room 0 (A.deeper (PyProof.Rows.envOfC "is_count" (defScope st_is_count) s.heap.objs.size f cdv))) :
    BD (cxOf (L2N.CX P w) P w K mg base ["thing", "low", "high"] "is_count" (defScope st_is_count) f cdv A outer s H E) T E (defBody st_is_count) (t_is_count) := by
  exact (bd_one (sd_ret (de_and (de_isi tx.n_isinstance tx.n_int (de_var (pv 0))) (de_and (de_not (de_isi tx.n_isinstance tx.n_bool (de_var (pv 0)))) (de_one (de_ch c_le c_le (de_var (pv 1)) (de_var (pv 0)) (de_var (pv 2))))))))
abbrev st_is_number : Stmt := topS 12
theorem sc_is_number : FnScope ["thing", "good"] ["thing"] (defScope st_is_number) := ⟨rfl, rfl, rfl, by decide +kernel, rfl, by decide +kernel, by decide +kernel⟩
theorem bd_is_number (tx : Txt K mg T) {F_is_count : Ct} (d_is_count : Df P w K mg base T "is_count" 1 3 F_is_count) {f : Addr} {cdv : Value} {A : Around} {outer : List Env} {s : Shared} {H : Hp} {E : XK} (hr : Room 1 (A.deeper (PyProof.Rows.envOfC "is_number" (defScope st_is_number) s.heap.objs.size f cdv))) :
    BD (cxOf (L2N.CX P w) P w K mg base ["thing", "good"] "is_number" (defScope st_is_number) f cdv A outer s H E) T E (defBody st_is_number) (t_is_number F_is_count) := by
  exact (bd_cons (sd_set 1 (de_and (de_isi tx.n_isinstance tx.n_tuple (de_var (pv 0))) (de_one (de_cm (c_eq hr) (de_b b_len tx.n_len (ad_cons (de_var (pv 0)) ad_nil)) de_int))) sc_is_number.nd)
    (bd_one (sd_ret (de_and (de_var (pv 1)) (de_and (de_fn d_is_count (hr.mono (by decide)) (L2N.passes_call (L2N.takes_of rfl rfl rfl rfl) fun _ _ _ _ h => h) (ad_cons (de_idx (de_var (pv 0)) de_int) (ad_cons (de_sub de_int (de_gI tx.c_MOST)) (ad_cons (de_gI tx.c_MOST) ad_nil)))) (de_one (de_fn d_is_count (hr.mono (by decide)) (L2N.passes_call (L2N.takes_of rfl rfl rfl rfl) fun _ _ _ _ h => h) (ad_cons (de_idx (de_var (pv 0)) de_int) (ad_cons de_int (ad_cons (de_gI tx.c_MOST) ad_nil))))))))))
abbrev st_need_number : Stmt := topS 13
theorem sc_need_number : FnScope ["number"] ["number"] (defScope st_need_number) := ⟨rfl, rfl, rfl, by decide +kernel, rfl, by decide +kernel, by decide +kernel⟩
theorem bd_need_number (tx : Txt K mg T) {F_is_number : Ct} (d_is_number : Df P w K mg base T "is_number" 2 1 F_is_number) {f : Addr} {cdv : Value} {A : Around} {outer : List Env} {s : Shared} {H : Hp} {E : XK} (hr : Room 2 (A.deeper (PyProof.Rows.envOfC "need_number" (defScope st_need_number) s.heap.objs.size f cdv))) :
    BD (cxOf (L2N.CX P w) P w K mg base ["number"] "need_number" (defScope st_need_number) f cdv A outer s H E) T E (defBody st_need_number) (t_need_number F_is_number) := by
  exact (bd_one (sd_if (td_not (td_val (de_fn d_is_number (hr.mono (by decide)) (L2N.passes_call (L2N.takes_of rfl rfl rfl rfl) fun _ _ _ _ h => h) (ad_cons (de_var (pv 0)) ad_nil)))) (bd_one (sd_raiseC tx.x_BadNumber (L2N.takes_of rfl rfl rfl rfl))) bd_nil))
abbrev st_plain_of : Stmt := topS 16
theorem sc_plain_of : FnScope ["number", "times", "under", "by"] ["number"] (defScope st_plain_of) := ⟨rfl, rfl, rfl, by decide +kernel, rfl, by decide +kernel, by decide +kernel⟩
theorem bd_plain_of (tx : Txt K mg T) {f : Addr} {cdv : Value} {A : Around} {outer : List Env} {s : Shared} {H : Hp} {E : XK} (hr : Room 0 (A.deeper (PyProof.Rows.envOfC "plain_of" (defScope st_plain_of) s.heap.objs.size f cdv))) :
    BD (cxOf (L2N.CX P w) P w K mg base ["number", "times", "under", "by"] "plain_of" (defScope st_plain_of) f cdv A outer s H E) T E (defBody st_plain_of) (t_plain_of) := by
  exact (bd_cons (sd_asg (de_var (pv 0)) (pg_tp2 1 2 sc_plain_of.nd))
    (bd_cons (sd_set 3 de_int sc_plain_of.nd)
    (bd_cons (sd_while (passes_of rfl) (td_cm c_le (de_mul (de_var (pv 3)) (de_var (pv 3))) (de_var (pv 2))) (bd_one (sd_if (td_cm (c_eq hr) (de_mod (de_var (pv 2)) (de_mul (de_var (pv 3)) (de_var (pv 3)))) de_int) (bd_one (sd_par 1 2 (ad_cons (de_mul (de_var (pv 1)) (de_var (pv 3))) (ad_cons (de_fdiv (de_var (pv 2)) (de_mul (de_var (pv 3)) (de_var (pv 3)))) ad_nil)) sc_plain_of.nd)) (bd_one (sd_set 3 (de_add (de_var (pv 3)) de_int) sc_plain_of.nd)))))
    (bd_one (sd_ret (de_ifExp (td_cm (c_ne hr) (de_var (pv 1)) de_int) (de_tup (ad_cons (de_var (pv 1)) (ad_cons (de_var (pv 2)) ad_nil))) (de_tup (ad_cons de_int (ad_cons de_int ad_nil)))))))))
abbrev st_plain : Stmt := topS 17
theorem sc_plain : FnScope ["number"] ["number"] (defScope st_plain) := ⟨rfl, rfl, rfl, by decide +kernel, rfl, by decide +kernel, by decide +kernel⟩
theorem bd_plain (tx : Txt K mg T) {F_need_number : Ct} {F_plain_of : Ct} (d_need_number : Df P w K mg base T "need_number" 3 1 F_need_number) (d_plain_of : Df P w K mg base T "plain_of" 1 1 F_plain_of) {f : Addr} {cdv : Value} {A : Around} {outer : List Env} {s : Shared} {H : Hp} {E : XK} (hr : Room 3 (A.deeper (PyProof.Rows.envOfC "plain" (defScope st_plain) s.heap.objs.size f cdv))) :
    BD (cxOf (L2N.CX P w) P w K mg base ["number"] "plain" (defScope st_plain) f cdv A outer s H E) T E (defBody st_plain) (t_plain F_need_number F_plain_of) := by
  exact (bd_cons (sd_expr (de_fn d_need_number (hr.mono (by decide)) (L2N.passes_call (L2N.takes_of rfl rfl rfl rfl) fun _ _ _ _ h => h) (ad_cons (de_var (pv 0)) ad_nil)))
    (bd_one (sd_ret (de_fn d_plain_of (hr.mono (by decide)) (L2N.passes_call (L2N.takes_of rfl rfl rfl rfl) fun _ _ _ _ h => h) (ad_cons (de_var (pv 0)) ad_nil)))))
abbrev st_need_row : Stmt := topS 14
theorem sc_need_row : FnScope ["row", "one"] ["row"] (defScope st_need_row) := ⟨rfl, rfl, rfl, by decide +kernel, rfl, by decide +kernel, by decide +kernel⟩
theorem bd_need_row (tx : Txt K mg T) {F_is_number : Ct} (d_is_number : Df P w K mg base T "is_number" 2 1 F_is_number) {f : Addr} {cdv : Value} {A : Around} {outer : List Env} {s : Shared} {H : Hp} {E : XK} (hr : Room 2 (A.deeper (PyProof.Rows.envOfC "need_row" (defScope st_need_row) s.heap.objs.size f cdv))) :
    BD (cxOf (L2N.CX P w) P w K mg base ["row", "one"] "need_row" (defScope st_need_row) f cdv A outer s H E) T E (defBody st_need_row) (t_need_row F_is_number) := by
  exact (bd_one (sd_if (WD.td (wd_or (td_not (td_val (de_isi tx.n_isinstance tx.n_list (de_var (pv 0))))) (wd_or (td_not (td_ch c_le c_le de_int (de_b b_len tx.n_len (ad_cons (de_var (pv 0)) ad_nil)) (de_gI tx.c_MOST_NUMBERS))) (wd_or1 (td_not (td_val (de_b b_all tx.n_all (ad_cons (de_lc [("one", 1)] sc_need_row.nd (id_list (de_var (pv 0))) (blkOk_by (own := [("one", 1)]) (N := ["row", "one"]) (sc := defScope st_need_row) (by decide +kernel)) (fun _ _ _ _ _ => (pg_nm 1 sc_need_row.nd)) (fun _ _ _ _ _ => tsd_nil) (fun _ _ _ _ _ => (de_fn d_is_number (hr.mono (by decide)) passN0 (ad_cons (de_var (pv 1)) ad_nil)))) ad_nil)))))))) (bd_one (sd_raiseC tx.x_BadRow (L2N.takes_of rfl rfl rfl rfl))) bd_nil))
abbrev st_need_times : Stmt := topS 15
theorem sc_need_times : FnScope ["row", "times", "good", "one"] ["row", "times"] (defScope st_need_times) := ⟨rfl, rfl, rfl, by decide +kernel, rfl, by decide +kernel, by decide +kernel⟩
theorem bd_need_times (tx : Txt K mg T) {F_is_count : Ct} (d_is_count : Df P w K mg base T "is_count" 1 3 F_is_count) {f : Addr} {cdv : Value} {A : Around} {outer : List Env} {s : Shared} {H : Hp} {E : XK} (hr : Room 1 (A.deeper (PyProof.Rows.envOfC "need_times" (defScope st_need_times) s.heap.objs.size f cdv))) :
    BD (cxOf (L2N.CX P w) P w K mg base ["row", "times", "good", "one"] "need_times" (defScope st_need_times) f cdv A outer s H E) T E (defBody st_need_times) (t_need_times F_is_count) := by
  exact (bd_cons (sd_set 2 (de_and (de_isi tx.n_isinstance tx.n_list (de_var (pv 1))) (de_one (de_cm (c_eq hr) (de_b b_len tx.n_len (ad_cons (de_var (pv 1)) ad_nil)) (de_b b_len tx.n_len (ad_cons (de_var (pv 0)) ad_nil))))) sc_need_times.nd)
    (bd_one (sd_if (WD.td (wd_or (td_not (td_val (de_var (pv 2)))) (wd_or1 (td_not (td_val (de_b b_all tx.n_all (ad_cons (de_lc [("one", 3)] sc_need_times.nd (id_list (de_var (pv 1))) (blkOk_by (own := [("one", 3)]) (N := ["row", "times", "good", "one"]) (sc := defScope st_need_times) (by decide +kernel)) (fun _ _ _ _ _ => (pg_nm 3 sc_need_times.nd)) (fun _ _ _ _ _ => tsd_nil) (fun _ _ _ _ _ => (de_fn d_is_count (hr.mono (by decide)) passN0 (ad_cons (de_var (pv 3)) (ad_cons (de_sub de_int (de_gI tx.c_MOST_TIMES)) (ad_cons (de_gI tx.c_MOST_TIMES) ad_nil)))))) ad_nil))))))) (bd_one (sd_raiseC tx.x_BadRow (L2N.takes_of rfl rfl rfl rfl))) bd_nil)))
abbrev st_need_count : Stmt := topS 11
theorem sc_need_count : FnScope ["thing", "low", "high"] ["thing", "low", "high"] (defScope st_need_count) := ⟨rfl, rfl, rfl, by decide +kernel, rfl, by decide +kernel, by decide +kernel⟩
theorem bd_need_count (tx : Txt K mg T) {F_is_count : Ct} (d_is_count : Df P w K mg base T "is_count" 1 3 F_is_count) {f : Addr} {cdv : Value} {A : Around} {outer : List Env} {s : Shared} {H : Hp} {E : XK} (hr : Room 1 (A.deeper (PyProof.Rows.envOfC "need_count" (defScope st_need_count) s.heap.objs.size f cdv))) :
    BD (cxOf (L2N.CX P w) P w K mg base ["thing", "low", "high"] "need_count" (defScope st_need_count) f cdv A outer s H E) T E (defBody st_need_count) (t_need_count F_is_count) := by
  exact (bd_one (sd_if (td_not (td_val (de_fn d_is_count (hr.mono (by decide)) (L2N.passes_call (L2N.takes_of rfl rfl rfl rfl) fun _ _ _ _ h => h) (ad_cons (de_var (pv 0)) (ad_cons (de_var (pv 1)) (ad_cons (de_var (pv 2)) ad_nil)))))) (bd_one (sd_raiseC tx.x_BadNumber (L2N.takes_of rfl rfl rfl rfl))) bd_nil))
abbrev st_root_below : Stmt := topS 18
theorem sc_root_below : FnScope ["square", "low", "high", "middle"] ["square"] (defScope st_root_below) := ⟨rfl, rfl, rfl, by decide +kernel, rfl, by decide +kernel, by decide +kernel⟩
theorem bd_root_below (tx : Txt K mg T) {f : Addr} {cdv : Value} {A : Around} {outer : List Env} {s : Shared} {H : Hp} {E : XK} (hr : Room 0 (A.deeper (PyProof.Rows.envOfC "root_below" (defScope st_root_below) s.heap.objs.size f cdv))) :
    BD (cxOf (L2N.CX P w) P w K mg base ["square", "low", "high", "middle"] "root_below" (defScope st_root_below) f cdv A outer s H E) T E (defBody st_root_below) (t_root_below) := by
  exact (bd_cons (sd_par 1 2 (ad_cons de_int (ad_cons (de_add (de_var (pv 0)) de_int) ad_nil)) sc_root_below.nd)
    (bd_cons (sd_while (passes_of rfl) (td_cm c_gt (de_sub (de_var (pv 2)) (de_var (pv 1))) de_int) (bd_cons (sd_set 3 (de_fdiv (de_add (de_var (pv 1)) (de_var (pv 2))) de_int) sc_root_below.nd)
    (bd_one (sd_if (td_cm c_le (de_mul (de_var (pv 3)) (de_var (pv 3))) (de_var (pv 0))) (bd_one (sd_set 1 (de_var (pv 3)) sc_root_below.nd)) (bd_one (sd_set 2 (de_var (pv 3)) sc_root_below.nd))))))
    (bd_one (sd_ret (de_var (pv 1))))))
abbrev st_power_of : Stmt := topS 19
theorem sc_power_of : FnScope ["places", "found", "turn"] ["places"] (defScope st_power_of) := ⟨rfl, rfl, rfl, by decide +kernel, rfl, by decide +kernel, by decide +kernel⟩
theorem bd_power_of (tx : Txt K mg T) {f : Addr} {cdv : Value} {A : Around} {outer : List Env} {s : Shared} {H : Hp} {E : XK} (hr : Room 0 (A.deeper (PyProof.Rows.envOfC "power_of" (defScope st_power_of) s.heap.objs.size f cdv))) :
    BD (cxOf (L2N.CX P w) P w K mg base ["places", "found", "turn"] "power_of" (defScope st_power_of) f cdv A outer s H E) T E (defBody st_power_of) (t_power_of) := by
  exact (bd_cons (sd_set 1 de_int sc_power_of.nd)
    (bd_cons (sd_for (passes_of rfl) (id_range1 tx.n_range (ad_cons (de_var (pv 0)) ad_nil)) (pg_nm 2 sc_power_of.nd) (bd_one (sd_set 1 (de_mul (de_var (pv 1)) de_int) sc_power_of.nd)))
    (bd_one (sd_ret (de_var (pv 1))))))
abbrev st_digits_of : Stmt := topS 20
theorem sc_digits_of : FnScope ["number", "places", "times", "under", "square", "found"] ["number", "places"] (defScope st_digits_of) := ⟨rfl, rfl, rfl, by decide +kernel, rfl, by decide +kernel, by decide +kernel⟩
theorem bd_digits_of (tx : Txt K mg T) {F_power_of : Ct} {F_root_below : Ct} (d_power_of : Df P w K mg base T "power_of" 1 1 F_power_of) (d_root_below : Df P w K mg base T "root_below" 1 1 F_root_below) {f : Addr} {cdv : Value} {A : Around} {outer : List Env} {s : Shared} {H : Hp} {E : XK} (hr : Room 1 (A.deeper (PyProof.Rows.envOfC "digits_of" (defScope st_digits_of) s.heap.objs.size f cdv))) :
    BD (cxOf (L2N.CX P w) P w K mg base ["number", "places", "times", "under", "square", "found"] "digits_of" (defScope st_digits_of) f cdv A outer s H E) T E (defBody st_digits_of) (t_digits_of F_power_of F_root_below) := by
  exact (bd_cons (sd_asg (de_var (pv 0)) (pg_tp2 2 3 sc_digits_of.nd))
    (bd_cons (sd_set 4 (de_mul (de_mul (de_mul (de_var (pv 2)) (de_var (pv 2))) (de_var (pv 3))) (de_fn d_power_of (hr.mono (by decide)) (L2N.passes_call (L2N.takes_of rfl rfl rfl rfl) fun _ _ _ _ h => h) (ad_cons (de_mul de_int (de_var (pv 1))) ad_nil))) sc_digits_of.nd)
    (bd_cons (sd_set 5 (de_fn d_root_below (hr.mono (by decide)) (L2N.passes_call (L2N.takes_of rfl rfl rfl rfl) fun _ _ _ _ h => h) (ad_cons (de_var (pv 4)) ad_nil)) sc_digits_of.nd)
    (bd_cons (sd_if (td_cm c_ge (de_var (pv 2)) de_int) (bd_one (sd_ret (de_var (pv 5)))) bd_nil)
    (bd_one (sd_ret (de_ifExp (td_cm (c_eq hr) (de_mul (de_var (pv 5)) (de_var (pv 5))) (de_var (pv 4))) (de_sub de_int (de_var (pv 5))) (de_sub (de_sub de_int (de_var (pv 5))) de_int))))))))
abbrev st_digits : Stmt := topS 21
theorem sc_digits : FnScope ["number", "places"] ["number", "places"] (defScope st_digits) := ⟨rfl, rfl, rfl, by decide +kernel, rfl, by decide +kernel, by decide +kernel⟩
theorem bd_digits (tx : Txt K mg T) {F_need_number : Ct} {F_need_count : Ct} {F_digits_of : Ct} (d_need_number : Df P w K mg base T "need_number" 3 1 F_need_number) (d_need_count : Df P w K mg base T "need_count" 2 3 F_need_count) (d_digits_of : Df P w K mg base T "digits_of" 2 2 F_digits_of) {f : Addr} {cdv : Value} {A : Around} {outer : List Env} {s : Shared} {H : Hp} {E : XK} (hr : Room 3 (A.deeper (PyProof.Rows.envOfC "digits" (defScope st_digits) s.heap.objs.size f cdv))) :
    BD (cxOf (L2N.CX P w) P w K mg base ["number", "places"] "digits" (defScope st_digits) f cdv A outer s H E) T E (defBody st_digits) (t_digits F_need_number F_need_count F_digits_of) := by
  exact (bd_cons (sd_expr (de_fn d_need_number (hr.mono (by decide)) (L2N.passes_call (L2N.takes_of rfl rfl rfl rfl) fun _ _ _ _ h => h) (ad_cons (de_var (pv 0)) ad_nil)))
    (bd_cons (sd_expr (de_fn d_need_count (hr.mono (by decide)) (L2N.passes_call (L2N.takes_of rfl rfl rfl rfl) fun _ _ _ _ h => h) (ad_cons (de_var (pv 1)) (ad_cons de_int (ad_cons (de_gI tx.c_MOST_PLACES) ad_nil)))))
    (bd_one (sd_ret (de_fn d_digits_of (hr.mono (by decide)) (L2N.passes_call (L2N.takes_of rfl rfl rfl rfl) fun _ _ _ _ h => h) (ad_cons (de_var (pv 0)) (ad_cons (de_var (pv 1)) ad_nil)))))))
abbrev st__law_refused : Stmt := topS 31
theorem sc__law_refused : FnScope ["row", "none", "bad", "some", "many", "times"] ["row"] (defScope st__law_refused) := ⟨rfl, rfl, rfl, by decide +kernel, rfl, by decide +kernel, by decide +kernel⟩
theorem bd__law_refused (tx : Txt K mg T) {F_plain : Ct} {F_digits : Ct} {F_need_row : Ct} {F_need_times : Ct} (d_plain : Df P w K mg base T "plain" 4 1 F_plain) (d_digits : Df P w K mg base T "digits" 4 2 F_digits) (d_need_row : Df P w K mg base T "need_row" 3 1 F_need_row) (d_need_times : Df P w K mg base T "need_times" 2 2 F_need_times) {cs : List Str} {g CN cA tA : Addr} {sg : Scope} (tl : ToldAt K mg base T cs g CN sg) (wo : WordsOk P w K mg base T cs) (TB : TabB base mg cA tA) (hmT : (tA, ("_law_refused" ++ ".<locals>." : Str) ++ "<lambda>") ∈ T.tb) (huT : ∀ p ∈ T.tb, p.1 = tA → p.2 = ("_law_refused" ++ ".<locals>." : Str) ++ "<lambda>") {f : Addr} {A : Around} {outer : List Env} {s : Shared} {H : Hp} {E : XK} (hr : Room 7 (A.deeper (PyProof.Rows.envOfC "_law_refused" (defScope st__law_refused) s.heap.objs.size f (.ref cA)))) :
    BD (cxOf (L2N.CX P w) P w K mg base ["row", "none", "bad", "some", "many", "times"] "_law_refused" (defScope st__law_refused) f (.ref cA) A outer s H E) T E (defBody st__law_refused) (t__law_refused_k10 cs F_plain F_digits F_need_row F_need_times) := by
  exact (bd_cons (sd_set 1 (de_lst (ad_cons de_non (ad_cons (de_tup ad_nil) (ad_cons (de_tup (ad_cons de_int ad_nil)) (ad_cons (de_lst (ad_cons de_int (ad_cons de_int ad_nil))) (ad_cons (de_tup (ad_cons de_int (ad_cons de_int ad_nil))) (ad_cons (de_tup (ad_cons de_int (ad_cons de_int ad_nil))) (ad_cons (de_tup (ad_cons de_int (ad_cons de_int ad_nil))) (ad_cons (de_tup (ad_cons (de_neg de_int) (ad_cons de_int ad_nil))) (ad_cons (de_tup (ad_cons de_bl (ad_cons de_int ad_nil))) (ad_cons (de_tup (ad_cons de_int (ad_cons de_bl ad_nil))) ad_nil))))))))))) sc__law_refused.nd)
    (bd_cons (sd_for (passes_of rfl) (id_list (de_add (de_var (pv 1)) (de_lst (ad_cons (de_tup (ad_cons de_int (ad_cons de_non ad_nil))) (ad_cons (de_tup (ad_cons de_int (ad_cons de_int (ad_cons de_int ad_nil)))) ad_nil))))) (pg_nm 2 sc__law_refused.nd) (bd_cons (sd_ownL 3 (ad_cons (de_told (k := 0) tl wo TB rfl hmT huT (hr.mono (by decide)) (show LamS (defScope st__law_refused) _ from lamS_by (by decide +kernel)) (fun A outer s H E f c hl => by exact (de_fn d_plain (hl.mono (by decide)) (L2N.passes_call (L2N.takes_of rfl rfl rfl rfl) fun _ _ _ _ h => h) (ad_cons (de_var (pv 2)) ad_nil)))) ad_nil) sc__law_refused.nd)
    (bd_cons (sd_append 3 (pe_bm PySem.F.plainAttrs_list PySem.F.slot_list_append PySem.F.type_list_append mt_append (pv 3) (pa_cons (de_told (k := 0) tl wo TB rfl hmT huT (hr.mono (by decide)) (show LamS (defScope st__law_refused) _ from lamS_by (by decide +kernel)) (fun A outer s H E f c hl => by exact (de_fn d_digits (hl.mono (by decide)) (L2N.passes_call (L2N.takes_of rfl rfl rfl rfl) fun _ _ _ _ h => h) (ad_cons (de_var (pv 2)) (ad_cons de_non ad_nil))))) pa_nil)))
    (bd_one (sd_if (WD.td (wd_or (td_cm (c_ne hr) (de_var (pv 3)) (de_mul (de_lst (ad_cons de_str ad_nil)) de_int)) (wd_or1 (td_cm (c_ne hr) (de_told (k := 0) tl wo TB rfl hmT huT (hr.mono (by decide)) (show LamS (defScope st__law_refused) _ from lamS_by (by decide +kernel)) (fun A outer s H E f c hl => by exact (de_fn d_need_row (hl.mono (by decide)) (L2N.passes_call (L2N.takes_of rfl rfl rfl rfl) fun _ _ _ _ h => h) (ad_cons (de_lst (ad_cons (de_var (pv 2)) ad_nil)) ad_nil)))) de_str)))) (bd_one (sd_ret de_bl)) bd_nil)))))
    (bd_cons (sd_for (passes_of rfl) (id_list (de_lst (ad_cons (de_neg de_int) (ad_cons de_int (ad_cons de_non (ad_cons de_bl ad_nil)))))) (pg_nm 2 sc__law_refused.nd) (bd_one (sd_if (td_cm (c_ne hr) (de_told (k := 0) tl wo TB rfl hmT huT (hr.mono (by decide)) (show LamS (defScope st__law_refused) _ from lamS_by (by decide +kernel)) (fun A outer s H E f c hl => by exact (de_fn d_digits (hl.mono (by decide)) (L2N.passes_call (L2N.takes_of rfl rfl rfl rfl) fun _ _ _ _ h => h) (ad_cons (de_tup (ad_cons de_int (ad_cons de_int ad_nil))) (ad_cons (de_var (pv 2)) ad_nil))))) de_str) (bd_one (sd_ret de_bl)) bd_nil)))
    (bd_cons (sd_for (passes_of rfl) (id_list (de_lst (ad_cons de_non (ad_cons (de_tup ad_nil) (ad_cons (de_lst ad_nil) (ad_cons (de_y y_tuple tx.n_tuple (ad_cons (de_var (pv 0)) ad_nil)) (ad_cons (de_mul (de_lst (ad_cons (de_tup (ad_cons de_int (ad_cons de_int ad_nil))) ad_nil)) de_int) ad_nil))))))) (pg_nm 2 sc__law_refused.nd) (bd_one (sd_if (td_cm (c_ne hr) (de_told (k := 0) tl wo TB rfl hmT huT (hr.mono (by decide)) (show LamS (defScope st__law_refused) _ from lamS_by (by decide +kernel)) (fun A outer s H E f c hl => by exact (de_fn d_need_row (hl.mono (by decide)) (L2N.passes_call (L2N.takes_of rfl rfl rfl rfl) fun _ _ _ _ h => h) (ad_cons (de_var (pv 2)) ad_nil)))) de_str) (bd_one (sd_ret de_bl)) bd_nil)))
    (bd_cons (sd_set 4 (de_b b_len tx.n_len (ad_cons (de_var (pv 0)) ad_nil)) sc__law_refused.nd)
    (bd_cons (sd_for (passes_of rfl) (id_list (de_lst (ad_cons de_non (ad_cons (de_mulT (de_tup (ad_cons de_int ad_nil)) (de_var (pv 4))) (ad_cons (de_mul (de_lst (ad_cons de_int ad_nil)) (de_add (de_var (pv 4)) de_int)) (ad_cons (de_mul (de_lst (ad_cons de_int ad_nil)) (de_var (pv 4))) (ad_cons (de_mul (de_lst (ad_cons de_bl ad_nil)) (de_var (pv 4))) (ad_cons (de_mul (de_lst (ad_cons de_non ad_nil)) (de_var (pv 4))) ad_nil)))))))) (pg_nm 2 sc__law_refused.nd) (bd_one (sd_if (td_cm (c_ne hr) (de_told (k := 0) tl wo TB rfl hmT huT (hr.mono (by decide)) (show LamS (defScope st__law_refused) _ from lamS_by (by decide +kernel)) (fun A outer s H E f c hl => by exact (de_fn d_need_times (hl.mono (by decide)) (L2N.passes_call (L2N.takes_of rfl rfl rfl rfl) fun _ _ _ _ h => h) (ad_cons (de_var (pv 0)) (ad_cons (de_var (pv 2)) ad_nil))))) de_str) (bd_one (sd_ret de_bl)) bd_nil)))
    (bd_cons (sd_set 5 (de_mul (de_lst (ad_cons (de_neg de_int) ad_nil)) (de_b b_len tx.n_len (ad_cons (de_var (pv 0)) ad_nil))) sc__law_refused.nd)
    (bd_one (sd_ret (de_and (de_cm c_is (de_fn d_need_row (hr.mono (by decide)) (L2N.passes_call (L2N.takes_of rfl rfl rfl rfl) fun _ _ _ _ h => h) (ad_cons (de_var (pv 0)) ad_nil)) de_non) (de_and (de_cm c_is (de_fn d_need_times (hr.mono (by decide)) (L2N.passes_call (L2N.takes_of rfl rfl rfl rfl) fun _ _ _ _ h => h) (ad_cons (de_var (pv 0)) (ad_cons (de_var (pv 5)) ad_nil))) de_non) (de_one (de_cm (c_eq hr) (de_var (pv 5)) (de_mul (de_lst (ad_cons (de_neg de_int) ad_nil)) (de_b b_len tx.n_len (ad_cons (de_var (pv 0)) ad_nil))))))))))))))))
abbrev st__law_root : Stmt := topS 27
theorem sc__law_root : FnScope ["square", "found", "other"] ["square"] (defScope st__law_root) := ⟨rfl, rfl, rfl, by decide +kernel, rfl, by decide +kernel, by decide +kernel⟩
theorem bd__law_root (tx : Txt K mg T) {f : Addr} {cdv : Value} {A : Around} {outer : List Env} {s : Shared} {H : Hp} {E : XK} (hr : Room 0 (A.deeper (PyProof.Rows.envOfC "_law_root" (defScope st__law_root) s.heap.objs.size f cdv))) :
    BD (cxOf (L2N.CX P w) P w K mg base ["square", "found", "other"] "_law_root" (defScope st__law_root) f cdv A outer s H E) T E (defBody st__law_root) (t__law_root) := by
  exact (bd_cons (sd_if (td_cm c_lt (de_var (pv 0)) de_int) (bd_one (sd_ret (de_var (pv 0)))) bd_nil)
    (bd_cons (sd_set 1 (de_y y_intS tx.n_int (ad_cons (de_add de_str (de_mulS de_str (de_fdiv (de_add (de_b b_len tx.n_len (ad_cons (de_y y_str tx.n_str (ad_cons (de_var (pv 0)) ad_nil)) ad_nil)) de_int) de_int))) ad_nil)) sc__law_root.nd)
    (bd_cons (sd_set 2 (de_fdiv (de_add (de_var (pv 1)) (de_fdiv (de_var (pv 0)) (de_var (pv 1)))) de_int) sc__law_root.nd)
    (bd_cons (sd_while (passes_of rfl) (td_cm c_lt (de_var (pv 2)) (de_var (pv 1))) (bd_cons (sd_set 1 (de_var (pv 2)) sc__law_root.nd)
    (bd_one (sd_set 2 (de_fdiv (de_add (de_var (pv 1)) (de_fdiv (de_var (pv 0)) (de_var (pv 1)))) de_int) sc__law_root.nd))))
    (bd_one (sd_ret (de_var (pv 1))))))))
abbrev st__law_ten : Stmt := topS 28
theorem sc__law_ten : FnScope ["places"] ["places"] (defScope st__law_ten) := ⟨rfl, rfl, rfl, by decide +kernel, rfl, by decide +kernel, by decide +kernel⟩
theorem bd__law_ten (tx : Txt K mg T) {f : Addr} {cdv : Value} {A : Around} {outer : List Env} {s : Shared} {H : Hp} {E : XK} (hr : Room 0 (A.deeper (PyProof.Rows.envOfC "_law_ten" (defScope st__law_ten) s.heap.objs.size f cdv))) :
    BD (cxOf (L2N.CX P w) P w K mg base ["places"] "_law_ten" (defScope st__law_ten) f cdv A outer s H E) T E (defBody st__law_ten) (t__law_ten) := by
  exact (bd_one (sd_ret (de_y y_intS tx.n_int (ad_cons (de_add de_str (de_mulS de_str (de_var (pv 0)))) ad_nil))))
abbrev st__law_spans : Stmt := topS 29
theorem sc__law_spans : FnScope ["number", "places", "times", "under", "square", "root", "low", "high"] ["number", "places"] (defScope st__law_spans) := ⟨rfl, rfl, rfl, by decide +kernel, rfl, by decide +kernel, by decide +kernel⟩
theorem bd__law_spans (tx : Txt K mg T) {F__law_ten : Ct} {F__law_root : Ct} (d__law_ten : Df P w K mg base T "_law_ten" 1 1 F__law_ten) (d__law_root : Df P w K mg base T "_law_root" 1 1 F__law_root) {f : Addr} {cdv : Value} {A : Around} {outer : List Env} {s : Shared} {H : Hp} {E : XK} (hr : Room 1 (A.deeper (PyProof.Rows.envOfC "_law_spans" (defScope st__law_spans) s.heap.objs.size f cdv))) :
    BD (cxOf (L2N.CX P w) P w K mg base ["number", "places", "times", "under", "square", "root", "low", "high"] "_law_spans" (defScope st__law_spans) f cdv A outer s H E) T E (defBody st__law_spans) (t__law_spans F__law_ten F__law_root) := by
  exact (bd_cons (sd_asg (de_var (pv 0)) (pg_tp2 2 3 sc__law_spans.nd))
    (bd_cons (sd_set 4 (de_mul (de_mul (de_mul (de_var (pv 2)) (de_var (pv 2))) (de_var (pv 3))) (de_fn d__law_ten (hr.mono (by decide)) (L2N.passes_call (L2N.takes_of rfl rfl rfl rfl) fun _ _ _ _ h => h) (ad_cons (de_mul de_int (de_var (pv 1))) ad_nil))) sc__law_spans.nd)
    (bd_cons (sd_set 5 (de_fn d__law_root (hr.mono (by decide)) (L2N.passes_call (L2N.takes_of rfl rfl rfl rfl) fun _ _ _ _ h => h) (ad_cons (de_var (pv 4)) ad_nil)) sc__law_spans.nd)
    (bd_cons (sd_asg (de_ifExp (td_cm (c_eq hr) (de_mul (de_var (pv 5)) (de_var (pv 5))) (de_var (pv 4))) (de_tup (ad_cons (de_var (pv 5)) (ad_cons (de_var (pv 5)) ad_nil))) (de_tup (ad_cons (de_var (pv 5)) (ad_cons (de_add (de_var (pv 5)) de_int) ad_nil)))) (pg_tp2 6 7 sc__law_spans.nd))
    (bd_one (sd_ret (de_ifExp (td_cm c_ge (de_var (pv 2)) de_int) (de_tup (ad_cons (de_var (pv 6)) (ad_cons (de_var (pv 7)) ad_nil))) (de_tup (ad_cons (de_sub de_int (de_var (pv 7))) (ad_cons (de_sub de_int (de_var (pv 6))) ad_nil))))))))))
abbrev st_law : Stmt := topS 32
theorem sc_law : FnScope ["script", "k", "more", "row", "number", "times", "under", "places", "low", "high", "square", "by"] ["script"] (defScope st_law) := ⟨rfl, rfl, rfl, by decide +kernel, rfl, by decide +kernel, by decide +kernel⟩
theorem bd_law (tx : Txt K mg T) {F__law_drawn : Ct} {F__law_cell : Ct} {F__law_row : Ct} {F_plain : Ct} {F__law_spans : Ct} {F_digits : Ct} {F__law_ten : Ct} {F__law_refused_k10 : Ct} (d__law_drawn : Df P w K mg base T "_law_drawn" 1 2 F__law_drawn) (d__law_cell : Df P w K mg base T "_law_cell" 1 2 F__law_cell) (d__law_row : Df P w K mg base T "_law_row" 2 2 F__law_row) (d_plain : Df P w K mg base T "plain" 4 1 F_plain) (d__law_spans : Df P w K mg base T "_law_spans" 2 2 F__law_spans) (d_digits : Df P w K mg base T "digits" 4 2 F_digits) (d__law_ten : Df P w K mg base T "_law_ten" 1 1 F__law_ten) (d__law_refused : Df P w K mg base T "_law_refused" 8 1 F__law_refused_k10) {f : Addr} {cdv : Value} {A : Around} {outer : List Env} {s : Shared} {H : Hp} {E : XK} (hr : Room 8 (A.deeper (PyProof.Rows.envOfC "law" (defScope st_law) s.heap.objs.size f cdv))) :
    BD (cxOf (L2N.CX P w) P w K mg base ["script", "k", "more", "row", "number", "times", "under", "places", "low", "high", "square", "by"] "law" (defScope st_law) f cdv A outer s H E) T E (defBody st_law) (t_law_k10 F__law_drawn F__law_cell F__law_row F_plain F__law_spans F_digits F__law_ten F__law_refused_k10) := by
  exact (bd_cons (sd_for (passes_of rfl) (id_range1 tx.n_range (ad_cons (de_b b_max2 tx.n_max (ad_cons de_int (ad_cons (de_b b_min2 tx.n_min (ad_cons de_int (ad_cons (de_b b_len tx.n_len (ad_cons (de_var (pv 0)) ad_nil)) ad_nil))) ad_nil))) ad_nil)) (pg_nm 1 sc_law.nd) (bd_cons (sd_set 2 (de_fn d__law_drawn (hr.mono (by decide)) (L2N.passes_call (L2N.takes_of rfl rfl rfl rfl) fun _ _ _ _ h => h) (ad_cons (de_fn d__law_cell (hr.mono (by decide)) (L2N.passes_call (L2N.takes_of rfl rfl rfl rfl) fun _ _ _ _ h => h) (ad_cons (de_var (pv 0)) (ad_cons (de_var (pv 1)) ad_nil))) (ad_cons (de_var (pv 1)) ad_nil))) sc_law.nd)
    (bd_cons (sd_set 3 (de_fn d__law_row (hr.mono (by decide)) (L2N.passes_call (L2N.takes_of rfl rfl rfl rfl) fun _ _ _ _ h => h) (ad_cons (de_fdiv (de_var (pv 2)) de_int) (ad_cons de_int ad_nil))) sc_law.nd)
    (bd_cons (sd_for (passes_of rfl) (id_list (de_add (de_var (pv 3)) (de_lst (ad_cons (de_tup (ad_cons de_int (ad_cons de_int ad_nil))) (ad_cons (de_tup (ad_cons (de_neg de_int) (ad_cons de_int ad_nil))) (ad_cons (de_tup (ad_cons de_int (ad_cons de_int ad_nil))) (ad_cons (de_tup (ad_cons de_int (ad_cons de_int ad_nil))) ad_nil))))))) (pg_nm 4 sc_law.nd) (bd_cons (sd_asg (de_fn d_plain (hr.mono (by decide)) (L2N.passes_call (L2N.takes_of rfl rfl rfl rfl) fun _ _ _ _ h => h) (ad_cons (de_var (pv 4)) ad_nil)) (pg_tp2 5 6 sc_law.nd))
    (bd_cons (sd_if (WD.td (wd_or (td_cm (c_ne hr) (de_mul (de_mul (de_var (pv 5)) (de_var (pv 5))) (de_var (pv 6))) (de_mul (de_mul (de_idx (de_var (pv 4)) de_int) (de_idx (de_var (pv 4)) de_int)) (de_idx (de_var (pv 4)) de_int))) (wd_or1 (td_cm c_lt (de_mul (de_var (pv 5)) (de_idx (de_var (pv 4)) de_int)) de_int)))) (bd_one (sd_ret de_bl)) bd_nil)
    (bd_cons (sd_if (WD.td (wd_or (td_cm (c_ne hr) (de_lc [("by", 11)] sc_law.nd (id_range2 tx.n_range (ad_cons de_int (ad_cons de_int ad_nil))) (blkOk_by (own := [("by", 11)]) (N := ["script", "k", "more", "row", "number", "times", "under", "places", "low", "high", "square", "by"]) (sc := defScope st_law) (by decide +kernel)) (fun _ _ _ _ _ => (pg_nm 11 sc_law.nd)) (fun _ _ _ _ _ => (tsd_one (td_cm (c_eq hr) (de_mod (de_var (pv 6)) (de_mul (de_var (pv 11)) (de_var (pv 11)))) de_int))) (fun _ _ _ _ _ => (de_var (pv 11)))) (de_lst ad_nil)) (wd_or1 (WD.td (wd_and (td_cm (c_eq hr) (de_var (pv 5)) de_int) (wd_and1 (td_cm (c_ne hr) (de_var (pv 6)) de_int))))))) (bd_one (sd_ret de_bl)) bd_nil)
    (bd_one (sd_for (passes_of rfl) (id_list (de_lst (ad_cons de_int (ad_cons de_int (ad_cons de_int (ad_cons (de_mod (de_var (pv 2)) de_int) ad_nil)))))) (pg_nm 7 sc_law.nd) (bd_cons (sd_asg (de_fn d__law_spans (hr.mono (by decide)) (L2N.passes_call (L2N.takes_of rfl rfl rfl rfl) fun _ _ _ _ h => h) (ad_cons (de_var (pv 4)) (ad_cons (de_var (pv 7)) ad_nil))) (pg_tp2 8 9 sc_law.nd))
    (bd_cons (sd_if (td_cm (c_ne hr) (de_fn d_digits (hr.mono (by decide)) (L2N.passes_call (L2N.takes_of rfl rfl rfl rfl) fun _ _ _ _ h => h) (ad_cons (de_var (pv 4)) (ad_cons (de_var (pv 7)) ad_nil))) (de_var (pv 8))) (bd_one (sd_ret de_bl)) bd_nil)
    (bd_cons (sd_set 10 (de_mul (de_mul (de_mul (de_idx (de_var (pv 4)) de_int) (de_idx (de_var (pv 4)) de_int)) (de_idx (de_var (pv 4)) de_int)) (de_fn d__law_ten (hr.mono (by decide)) (L2N.passes_call (L2N.takes_of rfl rfl rfl rfl) fun _ _ _ _ h => h) (ad_cons (de_mul de_int (de_var (pv 7))) ad_nil))) sc_law.nd)
    (bd_one (sd_if (WD.td (wd_or (td_cm c_gt (de_idx (de_b b_sorted tx.n_sorted (ad_cons (de_lst (ad_cons (de_mul (de_var (pv 8)) (de_var (pv 8))) (ad_cons (de_mul (de_var (pv 9)) (de_var (pv 9))) ad_nil))) ad_nil)) de_int) (de_var (pv 10))) (wd_or1 (td_cm c_lt (de_idx (de_b b_sorted tx.n_sorted (ad_cons (de_lst (ad_cons (de_mul (de_var (pv 8)) (de_var (pv 8))) (ad_cons (de_mul (de_var (pv 9)) (de_var (pv 9))) ad_nil))) ad_nil)) de_int) (de_var (pv 10)))))) (bd_one (sd_ret de_bl)) bd_nil)))))))))))
    (bd_one (sd_if (td_not (td_val (de_fn d__law_refused (hr.mono (by decide)) (L2N.passes_call (L2N.takes_of rfl rfl rfl rfl) fun _ _ _ _ h => h) (ad_cons (de_var (pv 3)) ad_nil)))) (bd_one (sd_ret de_bl)) bd_nil))))))
    (bd_one (sd_ret de_bl)))
end
end R10

namespace R10
open PySem L2 LamX DL
abbrev st__law_word : Stmt := topS 25
theorem sc__law_word : FnScope ["e", "flags"] ["e"] (defScope st__law_word) := ⟨rfl, rfl, rfl, by decide +kernel, rfl, by decide +kernel, by decide +kernel⟩
section
variable {P : Program} {w : World} {K : PySem.W.Frag} {mg : Str → Option Value} {base : Heap} {T : Wd}
theorem word_body {f a : Addr} {oe : Obj} {c : Str} {cdv : Value} (W : WordK K mg T al3 al3) (hc : al3.contains c = true) (h1 : oe.cls = .ref (T.ca c)) (h2 : oe.dict = none) (hf : ∃ vs, oe.data = .fields vs)
    (A : Around) (outer : List Env) (s : Shared) (H : Hp) (Q : VK) (hot : L2H.Hot1 (A.deeper (PyProof.Rows.envOfC "_law_word" (defScope st__law_word) s.heap.objs.size f cdv)) (a, oe)) (hQ : ∀ H', Sub H H' → Q (.str c) H') :
    ∃ u, PSs (L2H.cxH C8.CX0 P w K mg base ["e", "flags"] "_law_word" (defScope st__law_word) f cdv A outer s H C8.E0 (a, oe)).nox (defBody st__law_word) u ∧ u { nx := fun _ H' => Q .non H', rt := Q } (L2.start ["e", "flags"] [.ref a]) H := by
  have hp' : (a, oe) ∈ (L2H.cxH C8.CX0 P w K mg base ["e", "flags"] "_law_word" (defScope st__law_word) f cdv A outer s H C8.E0 (a, oe)).nox.pn := List.mem_cons_self
  refine ⟨_, pss_cons (ps_set (i := 1) sc__law_word.nd rfl (Or.inl rfl) (pe_lst (pa_cons (pe_isd W hp' hc h1 h2 hf (pv 0)) (pa_cons (pe_isd W hp' hc h1 h2 hf (pv 0)) (pa_cons (pe_isd W hp' hc h1 h2 hf (pv 0)) pa_nil)))))
      (pss_cons (ps_if (PW.pt (pw_or (pt_cmpR op_ne (pe_cntH hot hp' (pv 1) rfl W.nS W.nN (by decide +kernel) (by decide +kernel) rfl (by decide +kernel) rfl rfl (by decide +kernel) (fun _ => rfl) rfl (fun _ => rfl)) pe_int (nomark _)) (pw_or1 (pt_not (pt_val (pe_isv W hp' hc h1 h2 hf (pv 0))))))) (pss_one (ps_ret pe_str)) pss_nil)
      (pss_one (ps_ret (pe_ix ix_seq (pe_lst (pa_cons pe_str (pa_cons pe_str (pa_cons pe_str pa_nil)))) (pe_bm PySem.F.plainAttrs_list PySem.F.slot_list_index PySem.F.type_list_index mt_index (pv 1) (pa_cons pe_bl pa_nil)) (fun _ _ => rfl))))), ?_⟩
  refine ⟨rfl, rfl, rfl, show 3 ≤ sizeLine by decide, fun p hp => ?_⟩
  have hH : Sub H (upd H p (.lst [.bl (c == "BadNumber"), .bl (c == "BadRow"), .bl (c == "BadText")])) := Sub.new hp
  refine ⟨_, rfl, p, [c == "BadNumber", c == "BadRow", c == "BadText"], rfl, SqL.of upd_same, show 3 ≤ 1000 by decide, ?_⟩
  have key : ∃ j : Nat, j < 3 ∧ (al3)[j]? = some c ∧ cntB [c == "BadNumber", c == "BadRow", c == "BadText"] = 1 ∧ ([c == "BadNumber", c == "BadRow", c == "BadText"] : List Bool)[j]? = some true ∧ ∀ m, m < j → ([c == "BadNumber", c == "BadRow", c == "BadText"] : List Bool)[m]? = some false := by
    have hc2 : c = "BadNumber" ∨ c = "BadRow" ∨ c = "BadText" := by simpa [al3] using hc
    rcases hc2 with rfl | rfl | rfl
    · exact ⟨0, by decide, rfl, by decide +kernel, by decide +kernel, fun m hm => absurd hm (Nat.not_lt_zero m)⟩
    · exact ⟨1, by decide, rfl, by decide +kernel, by decide +kernel, fun m hm => by obtain rfl : m = 0 := (by omega); decide +kernel⟩
    · exact ⟨2, by decide, rfl, by decide +kernel, by decide +kernel, fun m hm => by
        rcases (show m = 0 ∨ m = 1 by omega) with rfl | rfl
        · decide +kernel
        · decide +kernel⟩
  obtain ⟨j, hj, k1, k2, k3, k4⟩ := key
  rw [k2]
  refine ⟨by decide, false, by rw [decide_eq_true rfl]; rfl, iteF ?_⟩
  refine ⟨rfl, true, rfl, iteF ?_⟩
  refine ⟨show 3 ≤ sizeLine by decide, fun p2 hp2 => ?_⟩
  have npp : p ≠ p2 := ne_of_none (upd_same (H := H)) hp2
  refine ⟨_, rfl, .inl ⟨rfl, _, SqL.of (by rw [upd_ne npp, upd_same])⟩, p, [.bl (c == "BadNumber"), .bl (c == "BadRow"), .bl (c == "BadText")], .bl true, j, .bl true, rfl, rfl, SqL.of (by rw [upd_ne npp, upd_same]), rfl, rfl, ?_, rfl, ?_, ?_⟩
  · rw [show ([.bl (c == "BadNumber"), .bl (c == "BadRow"), .bl (c == "BadText")] : List V) = ([c == "BadNumber", c == "BadRow", c == "BadText"] : List Bool).map V.bl from rfl, List.getElem?_map, k3]
    rfl
  · intro m z hm hz
    rw [show ([.bl (c == "BadNumber"), .bl (c == "BadRow"), .bl (c == "BadText")] : List V) = ([c == "BadNumber", c == "BadRow", c == "BadText"] : List Bool).map V.bl from rfl, List.getElem?_map, k4 m hm] at hz
    cases hz
    rfl
  · refine .inl ⟨p2, al3.map V.str, (j : Nat), .str c, rfl, rfl, SqL.of upd_same, ?_, hQ _ (hH.trans (Sub.new hp2))⟩
    exact atI_nat (by rw [List.getElem?_map, k1]; rfl)
theorem words_ok {f : Addr} {fd : FuncData} (Fn : Fun K "_law_word" "_law_word" st__law_word f fd) (hm : mg "_law_word" = some (.ref f)) (hb : Binds K fd ["e"] [])
    (W : WordK K mg T al3 al3) : WordsOk P w K mg base T al3 := by
  intro Y e1 e2 e3 e4 e5 a oe c hp hot hr hg hc h1 h2 hf e te p pos he hst
  subst e1 e2 e3 e4 e5
  obtain ⟨oc, od, kV, doc, pm, an, cdv, ct, osl, e0, lk, hcd⟩ := Fn.ex
  subst e0
  refine pe_imp (pe_hot (k := 2) (sp := fun vs H Q => match vs with | [v] => v = .ref a ∧ ∀ H', Sub H H' → Q (.str c) H' | _ => False) hot hp hg hm Fn.kp lk hcd sc__law_word hb hr (fun vs H Q h => by split at h; (· rfl); (· exact h.elim)) (fun A outer s H vs Q hot' hr' hh => ?_) (pa_cons he pa_nil hst) hst rfl) fun σ H Q h => h
  split at hh
  · obtain ⟨ev, hQ⟩ := hh
    subst ev
    exact word_body W hc h1 h2 hf A outer s H Q hot' hQ
  · exact hh.elim
end
end R10

namespace R10
open PySem DL
theorem law_end (ns : List Int) (h : ns.length ≤ 63) : F_law_k10 [.s ns] (fun d => d = .bool true) fun _ => False := ⟨by omega, rfl⟩
end R10

namespace R10
open PySem L2 LamX DL
abbrev st__law_told : Stmt := topS 26
theorem sc__law_told : FnScope ["deed", "e"] ["deed"] (defScope st__law_told) := ⟨rfl, rfl, rfl, by decide +kernel, rfl, by decide +kernel, by decide +kernel⟩
theorem all_mk {l : PySem.W.OpenLaw} {w : World} {K : PySem.W.Frag} {h : Heap} {mg : Str → Option Value} {fa : Addr} (X : K.In h) (G : h.Ns mainGlobals mg) (hfa : mg "law" = some (.ref fa))
    {f0 : Addr} {od0 an0 : Option Addr} {sl0 : Array (Option Value)} {oc0 kV0 dc0 pm0 ct0 : Value} {cd0 : Value} {f1 : Addr} {od1 an1 : Option Addr} {sl1 : Array (Option Value)} {oc1 kV1 dc1 pm1 ct1 : Value} {cd1 : Value} {f2 : Addr} {od2 an2 : Option Addr} {sl2 : Array (Option Value)} {oc2 kV2 dc2 pm2 ct2 : Value} {cd2 : Value} {f3 : Addr} {od3 an3 : Option Addr} {sl3 : Array (Option Value)} {oc3 kV3 dc3 pm3 ct3 : Value} {cd3 : Value} {f4 : Addr} {od4 an4 : Option Addr} {sl4 : Array (Option Value)} {oc4 kV4 dc4 pm4 ct4 : Value} {cd4 : Value} {f5 : Addr} {od5 an5 : Option Addr} {sl5 : Array (Option Value)} {oc5 kV5 dc5 pm5 ct5 : Value} {cd5 : Value} {f6 : Addr} {od6 an6 : Option Addr} {sl6 : Array (Option Value)} {oc6 kV6 dc6 pm6 ct6 : Value} {cd6 : Value} {f7 : Addr} {od7 an7 : Option Addr} {sl7 : Array (Option Value)} {oc7 kV7 dc7 pm7 ct7 : Value} {cd7 : Value} {f8 : Addr} {od8 an8 : Option Addr} {sl8 : Array (Option Value)} {oc8 kV8 dc8 pm8 ct8 : Value} {cd8 : Value} {f9 : Addr} {od9 an9 : Option Addr} {sl9 : Array (Option Value)} {oc9 kV9 dc9 pm9 ct9 : Value} {cd9 : Value} {f10 : Addr} {od10 an10 : Option Addr} {sl10 : Array (Option Value)} {oc10 kV10 dc10 pm10 ct10 : Value} {cd10 : Value} {f11 : Addr} {od11 an11 : Option Addr} {sl11 : Array (Option Value)} {oc11 kV11 dc11 pm11 ct11 : Value} {cd11 : Value} {f12 : Addr} {od12 an12 : Option Addr} {sl12 : Array (Option Value)} {oc12 kV12 dc12 pm12 ct12 : Value} {cd12 : Value} {f13 : Addr} {od13 an13 : Option Addr} {sl13 : Array (Option Value)} {oc13 kV13 dc13 pm13 ct13 : Value} {cd13 : Value} {f14 : Addr} {od14 an14 : Option Addr} {sl14 : Array (Option Value)} {oc14 kV14 dc14 pm14 ct14 : Value} {cd14 : Value} {f15 : Addr} {od15 an15 : Option Addr} {sl15 : Array (Option Value)} {oc15 kV15 dc15 pm15 ct15 : Value} {cA15 : Addr} {tA15 : Addr} {f16 : Addr} {od16 an16 : Option Addr} {sl16 : Array (Option Value)} {oc16 kV16 dc16 pm16 ct16 : Value} {cd16 : Value} {f17 : Addr} {od17 an17 : Option Addr} {sl17 : Array (Option Value)} {oc17 kV17 dc17 pm17 ct17 : Value} {cd17 : Value} {f18 : Addr} {od18 an18 : Option Addr} {sl18 : Array (Option Value)} {oc18 kV18 dc18 pm18 ct18 : Value} {cd18 : Value} {f19 : Addr} {od19 an19 : Option Addr} {sl19 : Array (Option Value)} {oc19 kV19 dc19 pm19 ct19 : Value} {cd19 : Value} {f20 : Addr} {od20 an20 : Option Addr} {sl20 : Array (Option Value)} {oc20 kV20 dc20 pm20 ct20 : Value} {cd20 : Value} {f21 : Addr} {od21 an21 : Option Addr} {sl21 : Array (Option Value)} {oc21 kV21 dc21 pm21 ct21 : Value} {cd21 : Value} {tk_MOST : Tok} {tk_MOST_NUMBERS : Tok} {tk_MOST_PLACES : Tok} {tk_MOST_TIMES : Tok} {CN : Addr} {C0 : Addr} {C1 : Addr} {C2 : Addr}
    (a0 : PySem.W.nsIn K mainGlobals "_law_drawn" = some (some (.ref f0)))
    (l0 : K.lookup f0 = some ⟨oc0, od0, .func (PySem.W.fnOf "_law_drawn" "_law_drawn" (defArgs st__law_drawn) (defBody st__law_drawn) (defScope st__law_drawn) .none kV0 dc0 pm0 an0 cd0 ct0), sl0⟩)
    (c0 : PySem.W.codeIn K cd0 "_law_drawn" = true)
    (k0 : PySem.W.keepIn K (.ref f0) = true)
    (a1 : PySem.W.nsIn K mainGlobals "_law_row" = some (some (.ref f1)))
    (l1 : K.lookup f1 = some ⟨oc1, od1, .func (PySem.W.fnOf "_law_row" "_law_row" (defArgs st__law_row) (defBody st__law_row) (defScope st__law_row) .none kV1 dc1 pm1 an1 cd1 ct1), sl1⟩)
    (c1 : PySem.W.codeIn K cd1 "_law_row" = true)
    (k1 : PySem.W.keepIn K (.ref f1) = true)
    (a2 : PySem.W.nsIn K mainGlobals "_law_cell" = some (some (.ref f2)))
    (l2 : K.lookup f2 = some ⟨oc2, od2, .func (PySem.W.fnOf "_law_cell" "_law_cell" (defArgs st__law_cell) (defBody st__law_cell) (defScope st__law_cell) .none kV2 dc2 pm2 an2 cd2 ct2), sl2⟩)
    (c2 : PySem.W.codeIn K cd2 "_law_cell" = true)
    (k2 : PySem.W.keepIn K (.ref f2) = true)
    (a3 : PySem.W.nsIn K mainGlobals "is_count" = some (some (.ref f3)))
    (l3 : K.lookup f3 = some ⟨oc3, od3, .func (PySem.W.fnOf "is_count" "is_count" (defArgs st_is_count) (defBody st_is_count) (defScope st_is_count) .none kV3 dc3 pm3 an3 cd3 ct3), sl3⟩)
    (c3 : PySem.W.codeIn K cd3 "is_count" = true)
    (k3 : PySem.W.keepIn K (.ref f3) = true)
    (a4 : PySem.W.nsIn K mainGlobals "is_number" = some (some (.ref f4)))
    (l4 : K.lookup f4 = some ⟨oc4, od4, .func (PySem.W.fnOf "is_number" "is_number" (defArgs st_is_number) (defBody st_is_number) (defScope st_is_number) .none kV4 dc4 pm4 an4 cd4 ct4), sl4⟩)
    (c4 : PySem.W.codeIn K cd4 "is_number" = true)
    (k4 : PySem.W.keepIn K (.ref f4) = true)
    (a5 : PySem.W.nsIn K mainGlobals "need_number" = some (some (.ref f5)))
    (l5 : K.lookup f5 = some ⟨oc5, od5, .func (PySem.W.fnOf "need_number" "need_number" (defArgs st_need_number) (defBody st_need_number) (defScope st_need_number) .none kV5 dc5 pm5 an5 cd5 ct5), sl5⟩)
    (c5 : PySem.W.codeIn K cd5 "need_number" = true)
    (k5 : PySem.W.keepIn K (.ref f5) = true)
    (a6 : PySem.W.nsIn K mainGlobals "plain_of" = some (some (.ref f6)))
    (l6 : K.lookup f6 = some ⟨oc6, od6, .func (PySem.W.fnOf "plain_of" "plain_of" (defArgs st_plain_of) (defBody st_plain_of) (defScope st_plain_of) .none kV6 dc6 pm6 an6 cd6 ct6), sl6⟩)
    (c6 : PySem.W.codeIn K cd6 "plain_of" = true)
    (k6 : PySem.W.keepIn K (.ref f6) = true)
    (a7 : PySem.W.nsIn K mainGlobals "plain" = some (some (.ref f7)))
    (l7 : K.lookup f7 = some ⟨oc7, od7, .func (PySem.W.fnOf "plain" "plain" (defArgs st_plain) (defBody st_plain) (defScope st_plain) .none kV7 dc7 pm7 an7 cd7 ct7), sl7⟩)
    (c7 : PySem.W.codeIn K cd7 "plain" = true)
    (k7 : PySem.W.keepIn K (.ref f7) = true)
    (a8 : PySem.W.nsIn K mainGlobals "need_row" = some (some (.ref f8)))
    (l8 : K.lookup f8 = some ⟨oc8, od8, .func (PySem.W.fnOf "need_row" "need_row" (defArgs st_need_row) (defBody st_need_row) (defScope st_need_row) .none kV8 dc8 pm8 an8 cd8 ct8), sl8⟩)
    (c8 : PySem.W.codeIn K cd8 "need_row" = true)
    (k8 : PySem.W.keepIn K (.ref f8) = true)
    (a9 : PySem.W.nsIn K mainGlobals "need_times" = some (some (.ref f9)))
    (l9 : K.lookup f9 = some ⟨oc9, od9, .func (PySem.W.fnOf "need_times" "need_times" (defArgs st_need_times) (defBody st_need_times) (defScope st_need_times) .none kV9 dc9 pm9 an9 cd9 ct9), sl9⟩)
    (c9 : PySem.W.codeIn K cd9 "need_times" = true)
    (k9 : PySem.W.keepIn K (.ref f9) = true)
    (a10 : PySem.W.nsIn K mainGlobals "need_count" = some (some (.ref f10)))
    (l10 : K.lookup f10 = some ⟨oc10, od10, .func (PySem.W.fnOf "need_count" "need_count" (defArgs st_need_count) (defBody st_need_count) (defScope st_need_count) .none kV10 dc10 pm10 an10 cd10 ct10), sl10⟩)
    (c10 : PySem.W.codeIn K cd10 "need_count" = true)
    (k10 : PySem.W.keepIn K (.ref f10) = true)
    (a11 : PySem.W.nsIn K mainGlobals "root_below" = some (some (.ref f11)))
    (l11 : K.lookup f11 = some ⟨oc11, od11, .func (PySem.W.fnOf "root_below" "root_below" (defArgs st_root_below) (defBody st_root_below) (defScope st_root_below) .none kV11 dc11 pm11 an11 cd11 ct11), sl11⟩)
    (c11 : PySem.W.codeIn K cd11 "root_below" = true)
    (k11 : PySem.W.keepIn K (.ref f11) = true)
    (a12 : PySem.W.nsIn K mainGlobals "power_of" = some (some (.ref f12)))
    (l12 : K.lookup f12 = some ⟨oc12, od12, .func (PySem.W.fnOf "power_of" "power_of" (defArgs st_power_of) (defBody st_power_of) (defScope st_power_of) .none kV12 dc12 pm12 an12 cd12 ct12), sl12⟩)
    (c12 : PySem.W.codeIn K cd12 "power_of" = true)
    (k12 : PySem.W.keepIn K (.ref f12) = true)
    (a13 : PySem.W.nsIn K mainGlobals "digits_of" = some (some (.ref f13)))
    (l13 : K.lookup f13 = some ⟨oc13, od13, .func (PySem.W.fnOf "digits_of" "digits_of" (defArgs st_digits_of) (defBody st_digits_of) (defScope st_digits_of) .none kV13 dc13 pm13 an13 cd13 ct13), sl13⟩)
    (c13 : PySem.W.codeIn K cd13 "digits_of" = true)
    (k13 : PySem.W.keepIn K (.ref f13) = true)
    (a14 : PySem.W.nsIn K mainGlobals "digits" = some (some (.ref f14)))
    (l14 : K.lookup f14 = some ⟨oc14, od14, .func (PySem.W.fnOf "digits" "digits" (defArgs st_digits) (defBody st_digits) (defScope st_digits) .none kV14 dc14 pm14 an14 cd14 ct14), sl14⟩)
    (c14 : PySem.W.codeIn K cd14 "digits" = true)
    (k14 : PySem.W.keepIn K (.ref f14) = true)
    (a15 : PySem.W.nsIn K mainGlobals "_law_refused" = some (some (.ref f15)))
    (l15 : K.lookup f15 = some ⟨oc15, od15, .func (PySem.W.fnOf "_law_refused" "_law_refused" (defArgs st__law_refused) (defBody st__law_refused) (defScope st__law_refused) .none kV15 dc15 pm15 an15 (.ref cA15) ct15), sl15⟩)
    (c15 : PySem.W.codeIn K (.ref cA15) "_law_refused" = true)
    (k15 : PySem.W.keepIn K (.ref f15) = true)
    (t15 : PySem.W.codeHdIn K cA15 tA15 = true)
    (u15 : h.get? tA15 = some { cls := .none, data := .fields #[] })
    (v15 : K.lookup tA15 = none)
    (a16 : PySem.W.nsIn K mainGlobals "_law_root" = some (some (.ref f16)))
    (l16 : K.lookup f16 = some ⟨oc16, od16, .func (PySem.W.fnOf "_law_root" "_law_root" (defArgs st__law_root) (defBody st__law_root) (defScope st__law_root) .none kV16 dc16 pm16 an16 cd16 ct16), sl16⟩)
    (c16 : PySem.W.codeIn K cd16 "_law_root" = true)
    (k16 : PySem.W.keepIn K (.ref f16) = true)
    (a17 : PySem.W.nsIn K mainGlobals "_law_ten" = some (some (.ref f17)))
    (l17 : K.lookup f17 = some ⟨oc17, od17, .func (PySem.W.fnOf "_law_ten" "_law_ten" (defArgs st__law_ten) (defBody st__law_ten) (defScope st__law_ten) .none kV17 dc17 pm17 an17 cd17 ct17), sl17⟩)
    (c17 : PySem.W.codeIn K cd17 "_law_ten" = true)
    (k17 : PySem.W.keepIn K (.ref f17) = true)
    (a18 : PySem.W.nsIn K mainGlobals "_law_spans" = some (some (.ref f18)))
    (l18 : K.lookup f18 = some ⟨oc18, od18, .func (PySem.W.fnOf "_law_spans" "_law_spans" (defArgs st__law_spans) (defBody st__law_spans) (defScope st__law_spans) .none kV18 dc18 pm18 an18 cd18 ct18), sl18⟩)
    (c18 : PySem.W.codeIn K cd18 "_law_spans" = true)
    (k18 : PySem.W.keepIn K (.ref f18) = true)
    (a19 : PySem.W.nsIn K mainGlobals "law" = some (some (.ref f19)))
    (l19 : K.lookup f19 = some ⟨oc19, od19, .func (PySem.W.fnOf "law" "law" (defArgs st_law) (defBody st_law) (defScope st_law) .none kV19 dc19 pm19 an19 cd19 ct19), sl19⟩)
    (c19 : PySem.W.codeIn K cd19 "law" = true)
    (k19 : PySem.W.keepIn K (.ref f19) = true)
    (a20 : PySem.W.nsIn K mainGlobals "_law_word" = some (some (.ref f20)))
    (l20 : K.lookup f20 = some ⟨oc20, od20, .func (PySem.W.fnOf "_law_word" "_law_word" (defArgs st__law_word) (defBody st__law_word) (defScope st__law_word) .none kV20 dc20 pm20 an20 cd20 ct20), sl20⟩)
    (c20 : PySem.W.codeIn K cd20 "_law_word" = true)
    (k20 : PySem.W.keepIn K (.ref f20) = true)
    (a21 : PySem.W.nsIn K mainGlobals "_law_told" = some (some (.ref f21)))
    (l21 : K.lookup f21 = some ⟨oc21, od21, .func (PySem.W.fnOf "_law_told" "_law_told" (defArgs st__law_told) (defBody st__law_told) (defScope st__law_told) .none kV21 dc21 pm21 an21 cd21 ct21), sl21⟩)
    (c21 : PySem.W.codeIn K cd21 "_law_told" = true)
    (k21 : PySem.W.keepIn K (.ref f21) = true)
    (n_all : PySem.W.nsIn K mainGlobals "all" = some none)
    (n_bool : PySem.W.nsIn K mainGlobals "bool" = some none)
    (n_int : PySem.W.nsIn K mainGlobals "int" = some none)
    (n_isinstance : PySem.W.nsIn K mainGlobals "isinstance" = some none)
    (n_len : PySem.W.nsIn K mainGlobals "len" = some none)
    (n_list : PySem.W.nsIn K mainGlobals "list" = some none)
    (n_max : PySem.W.nsIn K mainGlobals "max" = some none)
    (n_min : PySem.W.nsIn K mainGlobals "min" = some none)
    (n_range : PySem.W.nsIn K mainGlobals "range" = some none)
    (n_sorted : PySem.W.nsIn K mainGlobals "sorted" = some none)
    (n_str : PySem.W.nsIn K mainGlobals "str" = some none)
    (n_tuple : PySem.W.nsIn K mainGlobals "tuple" = some none)
    (n_sum : PySem.W.nsIn K mainGlobals "sum" = some none)
    (n_ValueError : PySem.W.nsIn K mainGlobals "ValueError" = some none)
    (c_MOST : PySem.W.nsIn K mainGlobals "MOST" = some (some (.int (99) tk_MOST)))
    (c_MOST_NUMBERS : PySem.W.nsIn K mainGlobals "MOST_NUMBERS" = some (some (.int (5) tk_MOST_NUMBERS)))
    (c_MOST_PLACES : PySem.W.nsIn K mainGlobals "MOST_PLACES" = some (some (.int (30) tk_MOST_PLACES)))
    (c_MOST_TIMES : PySem.W.nsIn K mainGlobals "MOST_TIMES" = some (some (.int (1000) tk_MOST_TIMES)))
    (gN : PySem.W.nsIn K mainGlobals "NoughtError" = some (some (.ref CN)))
    (gc0_ : PySem.W.nsIn K mainGlobals "BadNumber" = some (some (.ref C0)))
    (x0 : ClsF K C0 CN)
    (gc1_ : PySem.W.nsIn K mainGlobals "BadRow" = some (some (.ref C1)))
    (x1 : ClsF K C1 CN)
    (gc2_ : PySem.W.nsIn K mainGlobals "BadText" = some (some (.ref C2)))
    (x2 : ClsF K C2 CN)
    (y0_0 : PySem.W.kitOne K (.ref C0) (.ref C0) = some true)
    (y0_1 : PySem.W.kitOne K (.ref C0) (.ref C1) = some false)
    (y0_2 : PySem.W.kitOne K (.ref C0) (.ref C2) = some false)
    (y1_0 : PySem.W.kitOne K (.ref C1) (.ref C0) = some false)
    (y1_1 : PySem.W.kitOne K (.ref C1) (.ref C1) = some true)
    (y1_2 : PySem.W.kitOne K (.ref C1) (.ref C2) = some false)
    (y2_0 : PySem.W.kitOne K (.ref C2) (.ref C0) = some false)
    (y2_1 : PySem.W.kitOne K (.ref C2) (.ref C1) = some false)
    (y2_2 : PySem.W.kitOne K (.ref C2) (.ref C2) = some true) :
    LawAtS l w K (L2N.CX l.prog w) 9 63 "script" mg fa h := by
  have e := hfa.symm.trans (PySem.W.mg_of X G a19)
  cases e
  obtain ⟨T, etb, ec0, ec1, ec2⟩ : ∃ T : Wd, T.tb = [(tA15, ("_law_refused" ++ ".<locals>." : Str) ++ "<lambda>")] ∧ T.ca "BadNumber" = C0 ∧ T.ca "BadRow" = C1 ∧ T.ca "BadText" = C2 := ⟨({ tb := [(tA15, ("_law_refused" ++ ".<locals>." : Str) ++ "<lambda>")], ca := caOf [("BadNumber", C0), ("BadRow", C1), ("BadText", C2)] } : Wd), rfl, (by show caOf _ _ = _; rw [ca1]), (by show caOf _ _ = _; rw [ca2 (x := "BadNumber") (y := "BadRow") (by decide +kernel), ca1]), (by show caOf _ _ = _; rw [ca2 (x := "BadNumber") (y := "BadText") (by decide +kernel), ca2 (x := "BadRow") (y := "BadText") (by decide +kernel), ca1])⟩
  have mc0 : mg "BadNumber" = some (.ref C0) := PySem.W.mg_of X G gc0_
  have mc1 : mg "BadRow" = some (.ref C1) := PySem.W.mg_of X G gc1_
  have mc2 : mg "BadText" = some (.ref C2) := PySem.W.mg_of X G gc2_
  have tx : Txt K mg T := ⟨PySem.W.mg_none_of X G n_all, PySem.W.mg_none_of X G n_bool, PySem.W.mg_none_of X G n_int, PySem.W.mg_none_of X G n_isinstance, PySem.W.mg_none_of X G n_len, PySem.W.mg_none_of X G n_list, PySem.W.mg_none_of X G n_max, PySem.W.mg_none_of X G n_min, PySem.W.mg_none_of X G n_range, PySem.W.mg_none_of X G n_sorted, PySem.W.mg_none_of X G n_str, PySem.W.mg_none_of X G n_tuple, ⟨_, PySem.W.mg_of X G c_MOST⟩, ⟨_, PySem.W.mg_of X G c_MOST_NUMBERS⟩, ⟨_, PySem.W.mg_of X G c_MOST_PLACES⟩, ⟨_, PySem.W.mg_of X G c_MOST_TIMES⟩, x0.exC ec0 mc0, x1.exC ec1 mc1⟩
  have F0 := fun_mk (st := st__law_drawn) l0 c0 k0
  have b0 := F0.binds (ps := ["cell", "k"]) fun _ _ _ _ _ _ us hl => match us, hl with | [_, _], _ => rfl
  have F1 := fun_mk (st := st__law_row) l1 c1 k1
  have b1 := F1.binds (ps := ["more", "most"]) fun _ _ _ _ _ _ us hl => match us, hl with | [_, _], _ => rfl
  have F2 := fun_mk (st := st__law_cell) l2 c2 k2
  have b2 := F2.binds (ps := ["script", "k"]) fun _ _ _ _ _ _ us hl => match us, hl with | [_, _], _ => rfl
  have F3 := fun_mk (st := st_is_count) l3 c3 k3
  have b3 := F3.binds (ps := ["thing", "low", "high"]) fun _ _ _ _ _ _ us hl => match us, hl with | [_, _, _], _ => rfl
  have F4 := fun_mk (st := st_is_number) l4 c4 k4
  have b4 := F4.binds (ps := ["thing"]) fun _ _ _ _ _ _ us hl => match us, hl with | [_], _ => rfl
  have F5 := fun_mk (st := st_need_number) l5 c5 k5
  have b5 := F5.binds (ps := ["number"]) fun _ _ _ _ _ _ us hl => match us, hl with | [_], _ => rfl
  have F6 := fun_mk (st := st_plain_of) l6 c6 k6
  have b6 := F6.binds (ps := ["number"]) fun _ _ _ _ _ _ us hl => match us, hl with | [_], _ => rfl
  have F7 := fun_mk (st := st_plain) l7 c7 k7
  have b7 := F7.binds (ps := ["number"]) fun _ _ _ _ _ _ us hl => match us, hl with | [_], _ => rfl
  have F8 := fun_mk (st := st_need_row) l8 c8 k8
  have b8 := F8.binds (ps := ["row"]) fun _ _ _ _ _ _ us hl => match us, hl with | [_], _ => rfl
  have F9 := fun_mk (st := st_need_times) l9 c9 k9
  have b9 := F9.binds (ps := ["row", "times"]) fun _ _ _ _ _ _ us hl => match us, hl with | [_, _], _ => rfl
  have F10 := fun_mk (st := st_need_count) l10 c10 k10
  have b10 := F10.binds (ps := ["thing", "low", "high"]) fun _ _ _ _ _ _ us hl => match us, hl with | [_, _, _], _ => rfl
  have F11 := fun_mk (st := st_root_below) l11 c11 k11
  have b11 := F11.binds (ps := ["square"]) fun _ _ _ _ _ _ us hl => match us, hl with | [_], _ => rfl
  have F12 := fun_mk (st := st_power_of) l12 c12 k12
  have b12 := F12.binds (ps := ["places"]) fun _ _ _ _ _ _ us hl => match us, hl with | [_], _ => rfl
  have F13 := fun_mk (st := st_digits_of) l13 c13 k13
  have b13 := F13.binds (ps := ["number", "places"]) fun _ _ _ _ _ _ us hl => match us, hl with | [_, _], _ => rfl
  have F14 := fun_mk (st := st_digits) l14 c14 k14
  have b14 := F14.binds (ps := ["number", "places"]) fun _ _ _ _ _ _ us hl => match us, hl with | [_, _], _ => rfl
  have F15 := fun_mk (st := st__law_refused) l15 c15 k15
  have b15 := F15.binds (ps := ["row"]) fun _ _ _ _ _ _ us hl => match us, hl with | [_], _ => rfl
  have F16 := fun_mk (st := st__law_root) l16 c16 k16
  have b16 := F16.binds (ps := ["square"]) fun _ _ _ _ _ _ us hl => match us, hl with | [_], _ => rfl
  have F17 := fun_mk (st := st__law_ten) l17 c17 k17
  have b17 := F17.binds (ps := ["places"]) fun _ _ _ _ _ _ us hl => match us, hl with | [_], _ => rfl
  have F18 := fun_mk (st := st__law_spans) l18 c18 k18
  have b18 := F18.binds (ps := ["number", "places"]) fun _ _ _ _ _ _ us hl => match us, hl with | [_, _], _ => rfl
  have F19 := fun_mk (st := st_law) l19 c19 k19
  have b19 := F19.binds (ps := ["script"]) fun _ _ _ _ _ _ us hl => match us, hl with | [_], _ => rfl
  have F20 := fun_mk (st := st__law_word) l20 c20 k20
  have b20 := F20.binds (ps := ["e"]) fun _ _ _ _ _ _ us hl => match us, hl with | [_], _ => rfl
  have F21 := fun_mk (st := st__law_told) l21 c21 k21
  have b21 := F21.binds (ps := ["deed"]) fun _ _ _ _ _ _ us hl => match us, hl with | [_], _ => rfl
  have wk : WordK K mg T al3 al3 := by
    refine ⟨fun c hc => ?_, fun c d hc hd => ?_, fun c hc => ?_, fun d hd => ?_, PySem.W.mg_none_of X G n_isinstance, PySem.W.mg_none_of X G n_sum, PySem.W.mg_none_of X G n_int, PySem.W.mg_none_of X G n_ValueError⟩
    · have z : c = "BadNumber" ∨ c = "BadRow" ∨ c = "BadText" := by simpa [al3] using hc
      rcases z with rfl | rfl | rfl
      · exact x0.excC ec0
      · exact x1.excC ec1
      · exact x2.excC ec2
    · have z : c = "BadNumber" ∨ c = "BadRow" ∨ c = "BadText" := by simpa [al3] using hc
      have z2 : d = "BadNumber" ∨ d = "BadRow" ∨ d = "BadText" := by simpa [al3] using hd
      rcases z with rfl | rfl | rfl
      · rcases z2 with rfl | rfl | rfl
        · rw [ec0, y0_0]; decide +kernel
        · rw [ec0, ec1, y0_1]; decide +kernel
        · rw [ec0, ec2, y0_2]; decide +kernel
      · rcases z2 with rfl | rfl | rfl
        · rw [ec1, ec0, y1_0]; decide +kernel
        · rw [ec1, y1_1]; decide +kernel
        · rw [ec1, ec2, y1_2]; decide +kernel
      · rcases z2 with rfl | rfl | rfl
        · rw [ec2, ec0, y2_0]; decide +kernel
        · rw [ec2, ec1, y2_1]; decide +kernel
        · rw [ec2, y2_2]; decide +kernel
    · have z : c = "BadNumber" ∨ c = "BadRow" ∨ c = "BadText" := by simpa [al3] using hc
      rcases z with rfl | rfl | rfl
      · rw [ec0]; exact x0.iv
      · rw [ec1]; exact x1.iv
      · rw [ec2]; exact x2.iv
    · have z : d = "BadNumber" ∨ d = "BadRow" ∨ d = "BadText" := by simpa [al3] using hd
      rcases z with rfl | rfl | rfl
      · rw [ec0]; exact mc0
      · rw [ec1]; exact mc1
      · rw [ec2]; exact mc2
  have sb : ∀ c, al3.contains c = true → PySem.W.exmOne K (.ref (T.ca c)) (.ref CN) = some true := fun c hc => by
    have z : c = "BadNumber" ∨ c = "BadRow" ∨ c = "BadText" := by simpa [al3] using hc
    rcases z with rfl | rfl | rfl
    · rw [ec0]; exact x0.ex
    · rw [ec1]; exact x1.ex
    · rw [ec2]; exact x2.ex
  refine ⟨PySem.W.fnOf "law" "law" (defArgs st_law) (defBody st_law) (defScope st_law) .none kV19 dc19 pm19 an19 cd19 ct19, [(cA15, tA15)], spD K T 1 F_law_k10, ?_, ?_, ?_, fun s v => .of_eq rfl, fun H a ns hl _ hT hS => sp_law (n := 63) (fun ns hn => law_end ns hn) H a ns hl ?_ hS, fun base KB GB TB => ?_⟩
  · intro p hp
    have z : p = (cA15, tA15) := by simpa using hp
    rcases z with rfl
    · exact u15
  · intro p hp
    have z : p = (cA15, tA15) := by simpa using hp
    rcases z with rfl
    · exact v15
  · intro p hp
    have z : p = (cA15, tA15) := by simpa using hp
    rcases z with rfl
    · exact PySem.W.codeHd_of_K X t15
  · intro p hp
    have z : p = (tA15, ("_law_refused" ++ ".<locals>." : Str) ++ "<lambda>") := by simpa [etb] using hp
    rcases z with rfl
    · exact hT (cA15, tA15) (by simp)
  · have wo : WordsOk l.prog w K mg base T al3 := words_ok F20 (PySem.W.mg_of X G a20) b20 wk
    have tl : ToldAt K mg base T al3 f21 CN (defScope st__law_told) := ⟨PySem.W.mg_of X G a21, k21, ⟨_, _, _, _, _, _, _, _, _, _, _, _, _, _, _, _, _, _, _, _, l21, c21, b21⟩, sc__law_told, rfl, rfl, rfl, rfl, PySem.W.mg_of X G gN, sb⟩
    have d__law_drawn : Df l.prog w K mg base T "_law_drawn" 1 2 F__law_drawn := df_mk F0 (PySem.W.mg_of X G a0) b0 hn__law_drawn rfl (fn_d F0 sc__law_drawn (fun cdv A outer s H E hr => ⟨_, bd__law_drawn tx hr, sem__law_drawn⟩))
    have d__law_row : Df l.prog w K mg base T "_law_row" 2 2 F__law_row := df_mk F1 (PySem.W.mg_of X G a1) b1 hn__law_row rfl (fn_d F1 sc__law_row (fun cdv A outer s H E hr => ⟨_, bd__law_row tx d__law_drawn hr, sem__law_row⟩))
    have d__law_cell : Df l.prog w K mg base T "_law_cell" 1 2 F__law_cell := df_mk F2 (PySem.W.mg_of X G a2) b2 hn__law_cell rfl (fn_d F2 sc__law_cell (fun cdv A outer s H E hr => ⟨_, bd__law_cell tx hr, sem__law_cell⟩))
    have d_is_count : Df l.prog w K mg base T "is_count" 1 3 F_is_count := df_mk F3 (PySem.W.mg_of X G a3) b3 hn_is_count rfl (fn_d F3 sc_is_count (fun cdv A outer s H E hr => ⟨_, bd_is_count tx hr, sem_is_count⟩))
    have d_is_number : Df l.prog w K mg base T "is_number" 2 1 F_is_number := df_mk F4 (PySem.W.mg_of X G a4) b4 hn_is_number rfl (fn_d F4 sc_is_number (fun cdv A outer s H E hr => ⟨_, bd_is_number tx d_is_count hr, sem_is_number⟩))
    have d_need_number : Df l.prog w K mg base T "need_number" 3 1 F_need_number := df_mk F5 (PySem.W.mg_of X G a5) b5 hn_need_number rfl (fn_d F5 sc_need_number (fun cdv A outer s H E hr => ⟨_, bd_need_number tx d_is_number hr, sem_need_number⟩))
    have d_plain_of : Df l.prog w K mg base T "plain_of" 1 1 F_plain_of := df_mk F6 (PySem.W.mg_of X G a6) b6 hn_plain_of rfl (fn_d F6 sc_plain_of (fun cdv A outer s H E hr => ⟨_, bd_plain_of tx hr, sem_plain_of⟩))
    have d_plain : Df l.prog w K mg base T "plain" 4 1 F_plain := df_mk F7 (PySem.W.mg_of X G a7) b7 hn_plain rfl (fn_d F7 sc_plain (fun cdv A outer s H E hr => ⟨_, bd_plain tx d_need_number d_plain_of hr, sem_plain⟩))
    have d_need_row : Df l.prog w K mg base T "need_row" 3 1 F_need_row := df_mk F8 (PySem.W.mg_of X G a8) b8 hn_need_row rfl (fn_d F8 sc_need_row (fun cdv A outer s H E hr => ⟨_, bd_need_row tx d_is_number hr, sem_need_row⟩))
    have d_need_times : Df l.prog w K mg base T "need_times" 2 2 F_need_times := df_mk F9 (PySem.W.mg_of X G a9) b9 hn_need_times rfl (fn_d F9 sc_need_times (fun cdv A outer s H E hr => ⟨_, bd_need_times tx d_is_count hr, sem_need_times⟩))
    have d_need_count : Df l.prog w K mg base T "need_count" 2 3 F_need_count := df_mk F10 (PySem.W.mg_of X G a10) b10 hn_need_count rfl (fn_d F10 sc_need_count (fun cdv A outer s H E hr => ⟨_, bd_need_count tx d_is_count hr, sem_need_count⟩))
    have d_root_below : Df l.prog w K mg base T "root_below" 1 1 F_root_below := df_mk F11 (PySem.W.mg_of X G a11) b11 hn_root_below rfl (fn_d F11 sc_root_below (fun cdv A outer s H E hr => ⟨_, bd_root_below tx hr, sem_root_below⟩))
    have d_power_of : Df l.prog w K mg base T "power_of" 1 1 F_power_of := df_mk F12 (PySem.W.mg_of X G a12) b12 hn_power_of rfl (fn_d F12 sc_power_of (fun cdv A outer s H E hr => ⟨_, bd_power_of tx hr, sem_power_of⟩))
    have d_digits_of : Df l.prog w K mg base T "digits_of" 2 2 F_digits_of := df_mk F13 (PySem.W.mg_of X G a13) b13 hn_digits_of rfl (fn_d F13 sc_digits_of (fun cdv A outer s H E hr => ⟨_, bd_digits_of tx d_power_of d_root_below hr, sem_digits_of⟩))
    have d_digits : Df l.prog w K mg base T "digits" 4 2 F_digits := df_mk F14 (PySem.W.mg_of X G a14) b14 hn_digits rfl (fn_d F14 sc_digits (fun cdv A outer s H E hr => ⟨_, bd_digits tx d_need_number d_need_count d_digits_of hr, sem_digits⟩))
    have hu15 : ∀ p ∈ T.tb, p.1 = tA15 → p.2 = ("_law_refused" ++ ".<locals>." : Str) ++ "<lambda>" := fun p hp _ => by
      have z : p = (tA15, ("_law_refused" ++ ".<locals>." : Str) ++ "<lambda>") := by simpa [etb] using hp
      rw [z]
    have d__law_refused : Df l.prog w K mg base T "_law_refused" 8 1 F__law_refused_k10 := df_mk F15 (PySem.W.mg_of X G a15) b15 hn__law_refused_k10 rfl (fn_dc F15 rfl sc__law_refused (fun A outer s H E hr => ⟨_, bd__law_refused tx d_plain d_digits d_need_row d_need_times tl wo (TB (cA15, tA15) (by simp)) (by simp [etb]) hu15 hr, sem__law_refused_k10⟩))
    have d__law_root : Df l.prog w K mg base T "_law_root" 1 1 F__law_root := df_mk F16 (PySem.W.mg_of X G a16) b16 hn__law_root rfl (fn_d F16 sc__law_root (fun cdv A outer s H E hr => ⟨_, bd__law_root tx hr, sem__law_root⟩))
    have d__law_ten : Df l.prog w K mg base T "_law_ten" 1 1 F__law_ten := df_mk F17 (PySem.W.mg_of X G a17) b17 hn__law_ten rfl (fn_d F17 sc__law_ten (fun cdv A outer s H E hr => ⟨_, bd__law_ten tx hr, sem__law_ten⟩))
    have d__law_spans : Df l.prog w K mg base T "_law_spans" 2 2 F__law_spans := df_mk F18 (PySem.W.mg_of X G a18) b18 hn__law_spans rfl (fn_d F18 sc__law_spans (fun cdv A outer s H E hr => ⟨_, bd__law_spans tx d__law_ten d__law_root hr, sem__law_spans⟩))
    exact fn_d F19 sc_law (fun cdv A outer s H E hr => ⟨_, bd_law tx d__law_drawn d__law_cell d__law_row d_plain d__law_spans d_digits d__law_ten d__law_refused hr, sem_law_k10⟩)
end R10
open PySem PySem.W PyProof.Rows in
set_option maxRecDepth 100000 in
set_option maxHeartbeats 0 in
theorem PySem.Challenge.cw_noughtsums_k10_whole_numbers_holds : PySem.Challenge.rw_noughtsums_k10_whole_numbers.Holds := by
  w_on; o_law; k_head; (case hw => w_witness2)
  k_fill
  refine LamX.walk_ofTs (l := PySem.Challenge.rw_noughtsums_k10_whole_numbers) (n := 63) (k := 9) (x := "script") (CX := fun w => L2N.CX PySem.Challenge.rw_noughtsums_k10_whole_numbers.prog w) rfl (by decide) rfl ⟨rfl, by decide, by decide⟩ (fun w h Y => PySem.W.km_in_of Y) ?F (fun w H s e s' z => z.elim fun _ z => z.elim fun _ z => z.elim fun _ z => z.elim fun _ z => z.elim fun _ z => z.2.2.2.2.2.2.2)
  case F =>
    intro w mg fa h Y KX G hmg
    refine' R10.all_mk KX G hmg (tA15 := 199) ?a0 ?l0 ?c0 ?k0 ?a1 ?l1 ?c1 ?k1 ?a2 ?l2 ?c2 ?k2 ?a3 ?l3 ?c3 ?k3 ?a4 ?l4 ?c4 ?k4 ?a5 ?l5 ?c5 ?k5 ?a6 ?l6 ?c6 ?k6 ?a7 ?l7 ?c7 ?k7 ?a8 ?l8 ?c8 ?k8 ?a9 ?l9 ?c9 ?k9 ?a10 ?l10 ?c10 ?k10 ?a11 ?l11 ?c11 ?k11 ?a12 ?l12 ?c12 ?k12 ?a13 ?l13 ?c13 ?k13 ?a14 ?l14 ?c14 ?k14 ?a15 ?l15 ?c15 ?k15 ?t15 ?u15 ?v15 ?a16 ?l16 ?c16 ?k16 ?a17 ?l17 ?c17 ?k17 ?a18 ?l18 ?c18 ?k18 ?a19 ?l19 ?c19 ?k19 ?a20 ?l20 ?c20 ?k20 ?a21 ?l21 ?c21 ?k21 ?n_all ?n_bool ?n_int ?n_isinstance ?n_len ?n_list ?n_max ?n_min ?n_range ?n_sorted ?n_str ?n_tuple ?n_sum ?n_ValueError ?c_MOST ?c_MOST_NUMBERS ?c_MOST_PLACES ?c_MOST_TIMES ?gN ?gc0_ ?x0 ?gc1_ ?x1 ?gc2_ ?x2 ?y0_0 ?y0_1 ?y0_2 ?y1_0 ?y1_1 ?y1_2 ?y2_0 ?y2_1 ?y2_2
    (case a0 => k_is)
    (case l0 => k_is)
    (case c0 => k_is)
    (case k0 => k_is)
    (case a1 => k_is)
    (case l1 => k_is)
    (case c1 => k_is)
    (case k1 => k_is)
    (case a2 => k_is)
    (case l2 => k_is)
    (case c2 => k_is)
    (case k2 => k_is)
    (case a3 => k_is)
    (case l3 => k_is)
    (case c3 => k_is)
    (case k3 => k_is)
    (case a4 => k_is)
    (case l4 => k_is)
    (case c4 => k_is)
    (case k4 => k_is)
    (case a5 => k_is)
    (case l5 => k_is)
    (case c5 => k_is)
    (case k5 => k_is)
    (case a6 => k_is)
    (case l6 => k_is)
    (case c6 => k_is)
    (case k6 => k_is)
    (case a7 => k_is)
    (case l7 => k_is)
    (case c7 => k_is)
    (case k7 => k_is)
    (case a8 => k_is)
    (case l8 => k_is)
    (case c8 => k_is)
    (case k8 => k_is)
    (case a9 => k_is)
    (case l9 => k_is)
    (case c9 => k_is)
    (case k9 => k_is)
    (case a10 => k_is)
    (case l10 => k_is)
    (case c10 => k_is)
    (case k10 => k_is)
    (case a11 => k_is)
    (case l11 => k_is)
    (case c11 => k_is)
    (case k11 => k_is)
    (case a12 => k_is)
    (case l12 => k_is)
    (case c12 => k_is)
    (case k12 => k_is)
    (case a13 => k_is)
    (case l13 => k_is)
    (case c13 => k_is)
    (case k13 => k_is)
    (case a14 => k_is)
    (case l14 => k_is)
    (case c14 => k_is)
    (case k14 => k_is)
    (case a15 => k_is)
    (case l15 => k_is)
    (case c15 => k_is)
    (case k15 => k_is)
    (case t15 => kernel_rfl)
    (case u15 => exact PySem.W.km_tabs_of Y 199 (by decide))
    (case v15 => kernel_rfl)
    (case a16 => k_is)
    (case l16 => k_is)
    (case c16 => k_is)
    (case k16 => k_is)
    (case a17 => k_is)
    (case l17 => k_is)
    (case c17 => k_is)
    (case k17 => k_is)
    (case a18 => k_is)
    (case l18 => k_is)
    (case c18 => k_is)
    (case k18 => k_is)
    (case a19 => k_is)
    (case l19 => k_is)
    (case c19 => k_is)
    (case k19 => k_is)
    (case a20 => k_is)
    (case l20 => k_is)
    (case c20 => k_is)
    (case k20 => k_is)
    (case a21 => k_is)
    (case l21 => k_is)
    (case c21 => k_is)
    (case k21 => k_is)
    (case n_all => k_is)
    (case n_bool => k_is)
    (case n_int => k_is)
    (case n_isinstance => k_is)
    (case n_len => k_is)
    (case n_list => k_is)
    (case n_max => k_is)
    (case n_min => k_is)
    (case n_range => k_is)
    (case n_sorted => k_is)
    (case n_str => k_is)
    (case n_tuple => k_is)
    (case n_sum => k_is)
    (case n_ValueError => k_is)
    (case c_MOST => k_is)
    (case c_MOST_NUMBERS => k_is)
    (case c_MOST_PLACES => k_is)
    (case c_MOST_TIMES => k_is)
    (case gN => k_is)
    (case gc0_ => k_is)
    (case x0 => exact ⟨by kernel_rfl, by k_is, by k_is, by k_is, by kernel_rfl, by kernel_rfl, by k_is, by k_is, by k_is, by k_is, by k_is, by k_is, by k_is⟩)
    (case gc1_ => k_is)
    (case x1 => exact ⟨by kernel_rfl, by k_is, by k_is, by k_is, by kernel_rfl, by kernel_rfl, by k_is, by k_is, by k_is, by k_is, by k_is, by k_is, by k_is⟩)
    (case gc2_ => k_is)
    (case x2 => exact ⟨by kernel_rfl, by k_is, by k_is, by k_is, by kernel_rfl, by kernel_rfl, by k_is, by k_is, by k_is, by k_is, by k_is, by k_is, by k_is⟩)
    (case y0_0 => kernel_rfl)
    (case y0_1 => kernel_rfl)
    (case y0_2 => kernel_rfl)
    (case y1_0 => kernel_rfl)
    (case y1_1 => kernel_rfl)
    (case y1_2 => kernel_rfl)
    (case y2_0 => kernel_rfl)
    (case y2_1 => kernel_rfl)
    (case y2_2 => kernel_rfl)
#print axioms PySem.Challenge.cw_noughtsums_k10_whole_numbers_holds
