import PyProof.Rows.All
import Wide.All
import OpenK.AllK
import Wide.FinOn
import HandS.ForMost
import HandS.ForExc
import HandS.Lambda
import HandS.IsInst
import HandS.ExcCtx
import HandS.HotCalls
import HandS.ExcIs
import KE.KeyNested
import HandS.Wide
import HandS.Deep
import HandS.Style
import HandS.TupMul
import HandS.TupAny
import HandS.More
import KE.DataEq
import HandS.SortInts
import HandS.Nested
import HandS.EndTab
import HandS.Iter
import HandS.Dict
import HandS.DictComp
import HandS.DictEq
import KE.DataMinMax
import KE.DataCmp
import PyProof.Rows.StrOr
import HandS.Zip
import KE.GoesRaise
import HandS.Text
import HandS.Steps
import KE.SortKeyHeap
import KE.SortData
import HandS.SetFor
import PySem.Challenge.RW_noughtsums_k91_piles_refused
set_option Elab.async false
set_option linter.all false
set_option maxRecDepth 100000
set_option maxHeartbeats 1000000
/-! Data: a layer over the hand layer. Values are read as plain data (PyData); what a def leaves alone is said once. -/
namespace DL
open PySem L2 LamX
abbrev D := PyData
/-- a pile: its rows; what it was; what was taken back -/
structure PSt where
  rows : List D
  past : List D
  ahead : List D
/-- where a pile stands: itself, its two lists -/
structure Gh where
  x : Addr
  pp : Addr
  ap : Addr
def Gh.has (g : Gh) (b : Addr) : Prop := b = g.x ∨ b = g.pp ∨ b = g.ap
/-- a value: data; a list or dict of one's own that may still be changed; the script; a dict of deep keys; a pile of one's own; a pile that is read -/
inductive Vl where
  | d (x : D)
  | o (x : D)
  | s (ns : List Int)
  | n (w : World) (es : List (D × D))
  | q (C : Addr) (g : Gh) (st : PSt)
  | r (C x : Addr) (rows : List D)
def keyD : Key → D
  | .inl i => .int i
  | .inr s => .str s
mutual
inductive Dt (K : PySem.W.Frag) (H : Hp) : V → D → Prop
  | non : Dt K H .non .none
  | bl (b : Bool) : Dt K H (.bl b) (.bool b)
  | int (i : Int) : Dt K H (.int i) (.int i)
  | str (x : Str) : Dt K H (.str x) (.str x)
  | lst {a : Addr} {xs : List V} {ds : List D} : H a = some (.lst xs) → DtA K H xs ds → Dt K H (.ref a) (.list ds)
  | tup {a : Addr} {xs : List V} {ds : List D} : H a = some (.tup xs) → DtA K H xs ds → Dt K H (.ref a) (.tuple ds)
  | dct {a : Addr} {kvs : List (Key × V)} {es : List (D × D)} : Rd H a (.dK kvs) → DtK K H kvs es → Dt K H (.ref a) (.dict es)
inductive DtA (K : PySem.W.Frag) (H : Hp) : List V → List D → Prop
  | nil : DtA K H [] []
  | cons {v : V} {vs : List V} {d : D} {ds : List D} : Dt K H v d → DtA K H vs ds → DtA K H (v :: vs) (d :: ds)
inductive DtK (K : PySem.W.Frag) (H : Hp) : List (Key × V) → List (D × D) → Prop
  | nil : DtK K H [] []
  | cons {k : Key} {v : V} {kvs : List (Key × V)} {d : D} {es : List (D × D)} : Dt K H v d → DtK K H kvs es → DtK K H ((k, v) :: kvs) ((keyD k, d) :: es)
end
/-- data as a key of any depth -/
def nkD : D → Option NestedKey
  | .int i => some (.num i)
  | .str x => some (.text x)
  | .tuple ds => (nkL ds).map .tup
  | _ => none
where nkL : List D → Option (List NestedKey)
  | [] => some []
  | d :: r => match nkD d, nkL r with
    | some k, some ks => some (k :: ks)
    | _, _ => none
/-- the entries of a dict with such keys -/
inductive NkA (K : PySem.W.Frag) (H : Hp) : List (NestedKey × Addr × Value) → List (D × D) → Prop
  | nil : NkA K H [] []
  | cons {k : NestedKey} {b : Addr} {u : Value} {v : V} {kd vd : D} {xs : List (NestedKey × Addr × Value)} {es : List (D × D)} : nkD kd = some k → k.depth ≤ 8 → Dt K H (.ref b) kd → RelV v u → Dt K H v vd → NkA K H xs es → NkA K H ((k, b, u) :: xs) ((kd, vd) :: es)
/-- such a dict of one's own, by its one object -/
def NdO (w : World) (p : Addr) (xs : List (NestedKey × Addr × Value)) : HO := .ext fun h => ∃ o es ep, h.get? p = some o ∧ o.ExactDict ∧ o.data = .dict es ep ∧ es.toList = xs.map (fun x => (⟨x.1.hash w, .ref x.2.1, x.2.2⟩ : DictEntry)) ∧ (xs.map (·.1)).Nodup ∧ (p == sysModules) = false
/-- all of one heap stands in the other -/
def Sub (H H' : Hp) : Prop := ∀ b o, H b = some o → H' b = some o
theorem Sub.refl (H : Hp) : Sub H H := fun _ _ h => h
theorem Sub.trans {H H1 H2 : Hp} (a : Sub H H1) (b : Sub H1 H2) : Sub H H2 := fun c o h => b c o (a c o h)
theorem Sub.free {H H' : Hp} (e : Sub H H') {l : Addr} (h : H' l = none) : H l = none := by
  cases q : H l with
  | none => rfl
  | some o => rw [e l o q] at h; cases h
theorem Sub.new {H : Hp} {p : Addr} {o : HO} (h : H p = none) : Sub H (upd H p o) := fun a u e => by
  rw [upd_ne (ne_of_none e h)]; exact e
theorem Sub.upd {H H' : Hp} {p : Addr} {o : HO} (e : Sub H H') : Sub (upd H p o) (upd H' p o) := fun a u h => by
  by_cases q : a = p
  · subst q; rw [upd_same] at h ⊢; exact h
  · rw [upd_ne q] at h ⊢; exact e a u h
theorem Sub.right {H H' : Hp} {p : Addr} {o : HO} (e : Sub H H') (h : H p = none) : Sub H (L2.upd H' p o) := fun a u q => by
  rw [upd_ne (ne_of_none q h)]; exact e a u q
theorem Sub.rd {H H' : Hp} (e : Sub H H') {a : Addr} {u : HO} (h : Rd H a u) : Rd H' a u := by
  rcases h with h | ⟨o, h⟩
  · exact .inl (e _ _ h)
  · exact .inr ⟨o, e _ _ h⟩
section
variable {K : PySem.W.Frag} {H H' : Hp}
theorem Sub.l (e : Sub H H') {a : Addr} {xs : List V} (h : SqL K H a xs) : SqL K H' a xs := by
  rcases h with h | h
  · exact .inl (e.rd h)
  · exact .inr h
theorem Sub.t (e : Sub H H') {a : Addr} {xs : List V} (h : SqT K H a xs) : SqT K H' a xs := by
  rcases h with h | h
  · exact .inl (e.rd h)
  · exact .inr h
mutual
theorem Dt.mono (e : Sub H H') : ∀ {v : V} {d : D}, Dt K H v d → Dt K H' v d
  | _, _, .non => .non
  | _, _, .bl b => .bl b
  | _, _, .int i => .int i
  | _, _, .str x => .str x
  | _, _, .lst h a => .lst (e _ _ h) (DtA.mono e a)
  | _, _, .tup h a => .tup (e _ _ h) (DtA.mono e a)
  | _, _, .dct h a => .dct (e.rd h) (DtK.mono e a)
theorem DtA.mono (e : Sub H H') : ∀ {vs : List V} {ds : List D}, DtA K H vs ds → DtA K H' vs ds
  | _, _, .nil => .nil
  | _, _, .cons h t => .cons (Dt.mono e h) (DtA.mono e t)
theorem DtK.mono (e : Sub H H') : ∀ {kvs : List (Key × V)} {es : List (D × D)}, DtK K H kvs es → DtK K H' kvs es
  | _, _, .nil => .nil
  | _, _, .cons h t => .cons (Dt.mono e h) (DtK.mono e t)
end
theorem NkA.mono (e : Sub H H') : ∀ {xs : List (NestedKey × Addr × Value)} {es : List (D × D)}, NkA K H xs es → NkA K H' xs es
  | _, _, .nil => .nil
  | _, _, .cons h1 h0 h2 h3 h4 t => .cons h1 h0 (Dt.mono e h2) h3 (Dt.mono e h4) (NkA.mono e t)
theorem DtA.length : ∀ {vs : List V} {ds : List D}, DtA K H vs ds → vs.length = ds.length
  | _, _, .nil => rfl
  | _, _, .cons _ t => by simp [DtA.length t]
theorem DtA.append : ∀ {vs ws : List V} {ds es : List D}, DtA K H vs ds → DtA K H ws es → DtA K H (vs ++ ws) (ds ++ es)
  | _, _, _, _, .nil, b => b
  | _, _, _, _, .cons h t, b => .cons h (DtA.append t b)
theorem DtA.get : ∀ {vs : List V} {ds : List D} {i : Nat} {d : D}, DtA K H vs ds → ds[i]? = some d → ∃ v, vs[i]? = some v ∧ Dt K H v d
  | _, _, _, _, .nil, e => by simp at e
  | _, _, 0, _, .cons h _, e => by simp at e; subst e; exact ⟨_, rfl, h⟩
  | _, _, i + 1, _, .cons _ t, e => by
    obtain ⟨v, h1, h2⟩ := DtA.get (i := i) t (by simpa using e)
    exact ⟨v, by simpa using h1, h2⟩
theorem DtA.getV : ∀ {vs : List V} {ds : List D} {i : Nat} {v : V}, DtA K H vs ds → vs[i]? = some v → ∃ d, ds[i]? = some d ∧ Dt K H v d
  | _, _, _, _, .nil, e => by simp at e
  | _, _, 0, _, .cons h _, e => by simp at e; subst e; exact ⟨_, rfl, h⟩
  | _, _, i + 1, _, .cons _ t, e => by
    obtain ⟨d, h1, h2⟩ := DtA.getV (i := i) t (by simpa using e)
    exact ⟨d, by simpa using h1, h2⟩
theorem DtA.drop : ∀ {vs : List V} {ds : List D} (n : Nat), DtA K H vs ds → DtA K H (vs.drop n) (ds.drop n)
  | _, _, 0, h => h
  | _, _, _ + 1, .nil => .nil
  | _, _, n + 1, .cons _ t => DtA.drop n t
theorem DtA.take : ∀ {vs : List V} {ds : List D} (n : Nat), DtA K H vs ds → DtA K H (vs.take n) (ds.take n)
  | _, _, 0, _ => .nil
  | _, _, _ + 1, .nil => .nil
  | _, _, n + 1, .cons h t => .cons h (DtA.take n t)
theorem DtA.set {v : V} {d : D} (h : Dt K H v d) : ∀ {vs : List V} {ds : List D} (n : Nat), DtA K H vs ds → DtA K H (vs.set n v) (ds.set n d)
  | _, _, _, .nil => .nil
  | _, _, 0, .cons _ t => .cons h t
  | _, _, n + 1, .cons g t => .cons g (DtA.set h n t)
theorem DtA.reverse : ∀ {vs : List V} {ds : List D}, DtA K H vs ds → DtA K H vs.reverse ds.reverse
  | _, _, .nil => .nil
  | _, _, .cons h t => by
    rw [List.reverse_cons, List.reverse_cons]
    exact (DtA.reverse t).append (.cons h .nil)
theorem DtK.length : ∀ {vs : List (Key × V)} {ds : List (D × D)}, DtK K H vs ds → vs.length = ds.length
  | _, _, .nil => rfl
  | _, _, .cons _ t => by simp [DtK.length t]
end
/-! ### the state -/
/-- what is told once: the tables of code objects, the classes of refusals by their names -/
structure Wd where
  tb : List (Addr × Str)
  ca : Str → Addr
/-- among the data there are no tables, and no dict that may still be changed -/
def NoT (H : Hp) : Prop := (∀ b ps, H b ≠ some (.tbl ps)) ∧ ∀ b kvs, H b ≠ some (.dK kvs)
theorem NoT.upd {H : Hp} {p : Addr} {o : HO} (h : NoT H) (ho : ∀ ps, o ≠ .tbl ps) (hk : ∀ kvs, o ≠ .dK kvs) : NoT (L2.upd H p o) := by
  refine ⟨fun b ps z => ?_, fun b ps z => ?_⟩
  · by_cases q : b = p
    · subst q; rw [upd_same] at z; exact ho ps (Option.some.inj z)
    · rw [upd_ne q] at z; exact h.1 b ps z
  · by_cases q : b = p
    · subst q; rw [upd_same] at z; exact hk ps (Option.some.inj z)
    · rw [upd_ne q] at z; exact h.2 b ps z
abbrev DSt := List (Option Vl)
/-- what stands at an object of one's own -/
def OwnAt (K : PySem.W.Frag) (Hd H : Hp) (p : Addr) : D → Prop
  | .list ds => ∃ xs, H p = some (.lst xs) ∧ DtA K Hd xs ds
  | .dict es => ∃ kvs, H p = some (.dK kvs) ∧ DtK K Hd kvs es
  | _ => False
def pfl (rv pv av : V) : List (Str × V) := [("rows", rv), ("past", pv), ("ahead", av)]
/-- a pile that is read -/
def RAt (K : PySem.W.Frag) (Hd : Hp) (v : V) (C x : Addr) (rows : List D) : Prop := ∃ dx rv pv av, v = .ref x ∧ Hd x = some (.ins C dx (pfl rv pv av)) ∧ Dt K Hd rv (.list rows)
theorem RAt.mono {K : PySem.W.Frag} {Hd Hd' : Hp} {v : V} {C x : Addr} {rows : List D} (e : Sub Hd Hd') : RAt K Hd v C x rows → RAt K Hd' v C x rows
  | ⟨dx, rv, pv, av, h1, h2, h3⟩ => ⟨dx, rv, pv, av, h1, e _ _ h2, h3.mono e⟩
/-- a pile of one's own -/
structure QAt (K : PySem.W.Frag) (Fr Hd H : Hp) (C : Addr) (g : Gh) (st : PSt) : Prop where
  ex : ∃ dx rv ps as, H g.x = some (.ins C dx (pfl rv (.ref g.pp) (.ref g.ap))) ∧ H g.pp = some (.lst ps) ∧ H g.ap = some (.lst as) ∧ Dt K Hd rv (.list st.rows) ∧ DtA K Hd ps st.past ∧ DtA K Hd as st.ahead
  out : ∀ b, g.has b → Hd b = none ∧ Fr b = none
  ne : g.pp ≠ g.ap
theorem QAt.at {K : PySem.W.Frag} {Fr Hd H : Hp} {C : Addr} {g : Gh} {st : PSt} (h : QAt K Fr Hd H C g st) {b : Addr} (hb : g.has b) : ∃ o, H b = some o ∧ (∀ ps, o ≠ .tbl ps) ∧ (∀ kvs, o ≠ .dK kvs) ∧ (∀ φ, o ≠ .ext φ) ∧ (b = g.x ∨ ∃ xs, o = .lst xs) ∧ (b ≠ g.x ∨ ∀ xs, o ≠ .lst xs) := by
  obtain ⟨dx, rv, ps, as, h1, h2, h3, _⟩ := h.ex
  have n1 : g.pp ≠ g.x := ne_of h2 h1 (by intro z; cases z)
  have n2 : g.ap ≠ g.x := ne_of h3 h1 (by intro z; cases z)
  rcases hb with rfl | rfl | rfl
  · exact ⟨_, h1, fun _ z => by (first | cases z | (unfold pfl at z; cases z)), fun _ z => (by cases z), fun _ z => (by cases z), .inl rfl, .inr fun _ z => (by cases z)⟩
  · exact ⟨_, h2, fun _ z => (by cases z), fun _ z => (by cases z), fun _ z => (by cases z), .inr ⟨_, rfl⟩, .inl n1⟩
  · exact ⟨_, h3, fun _ z => (by cases z), fun _ z => (by cases z), fun _ z => (by cases z), .inr ⟨_, rfl⟩, .inl n2⟩
theorem QAt.to {K : PySem.W.Frag} {Fr Hd H Fr' Hd' H' : Hp} {C : Addr} {g : Gh} {st : PSt} (h : QAt K Fr Hd H C g st) (e : Sub Hd Hd') (k : ∀ b o, g.has b → H b = some o → Hd' b = none ∧ H' b = some o ∧ Fr' b = none) : QAt K Fr' Hd' H' C g st := by
  obtain ⟨dx, rv, ps, as, h1, h2, h3, h4, h5, h6⟩ := h.ex
  refine ⟨⟨dx, rv, ps, as, (k _ _ (.inl rfl) h1).2.1, (k _ _ (.inr (.inl rfl)) h2).2.1, (k _ _ (.inr (.inr rfl)) h3).2.1, h4.mono e, h5.mono e, h6.mono e⟩, fun b hb => ?_, h.ne⟩
  obtain ⟨o, ho, _⟩ := h.at hb
  obtain ⟨k1, _, k3⟩ := k b o hb ho
  exact ⟨k1, k3⟩
def SlotOk (K : PySem.W.Frag) (Fr Hd H : Hp) (v : V) : Vl → Prop
  | .d x => Dt K Hd v x
  | .o x => ∃ p, v = .ref p ∧ Hd p = none ∧ Fr p = none ∧ OwnAt K Hd H p x
  | .s ns => ∃ p, v = .ref p ∧ SqL K Hd p (ns.map V.int)
  | .n w es => ∃ p, v = .ref p ∧ Hd p = none ∧ Fr p = none ∧ ∃ xs, H p = some (NdO w p xs) ∧ NkA K Hd xs es
  | .q C g st => v = .ref g.x ∧ QAt K Fr Hd H C g st
  | .r C x rows => RAt K Hd v C x rows
/-- lists of one's own stand apart from the piles' lists -/
def SepQ (ρ : DSt) (σ : St) : Prop := ∀ (i j : Nat) (C : Addr) (g : Gh) (st : PSt) (z : D) (p : Addr), ρ[i]? = some (some (.q C g st)) → ρ[j]? = some (some (.o z)) → σ[j]? = some (some (.ref p)) → p ≠ g.pp ∧ p ≠ g.ap
theorem set_in {ρ : DSt} {i m : Nat} {u : Option Vl} {w : Vl} (h : (ρ.set i u)[m]? = some (some w)) (hn : u ≠ some w) : ρ[m]? = some (some w) ∧ i ≠ m := by
  by_cases q : i = m
  · subst q
    by_cases hl : i < ρ.length
    · rw [List.getElem?_set_self hl] at h; exact absurd (Option.some.inj h) hn
    · rw [List.getElem?_eq_none (by simpa using hl)] at h; cases h
  · rw [List.getElem?_set_ne q] at h; exact ⟨h, q⟩
theorem SepQ.back {ρ ρ' : DSt} {σ σ' : St} (h : SepQ ρ σ) (hq : ∀ (i : Nat) C g st, ρ'[i]? = some (some (.q C g st)) → ∃ st', ρ[i]? = some (some (.q C g st'))) (ho : ∀ (j : Nat) z p, ρ'[j]? = some (some (.o z)) → σ'[j]? = some (some (.ref p)) → ∃ z', ρ[j]? = some (some (.o z')) ∧ σ[j]? = some (some (.ref p))) : SepQ ρ' σ' := fun i j C g st z p e1 e2 e3 => by
  obtain ⟨st', h0⟩ := hq i C g st e1
  obtain ⟨z', h1, h2⟩ := ho j z p e2 e3
  exact h i j C g st' z' p h0 h1 h2
structure Sat (K : PySem.W.Frag) (T : Wd) (Fr H0 : Hp) (ρ : DSt) (σ : St) (Hd H : Hp) : Prop where
  len : σ.length = ρ.length
  base : Sub H0 Hd
  keep : Sub Hd H
  ntb : NoT Hd
  tabs : Tabs T.tb H
  frame : ∀ b o, Fr b = some o → (∀ ps, o ≠ .tbl ps) ∧ H b = some o ∧ Hd b = none
  slot : ∀ (i : Nat) (s : Vl), ρ[i]? = some (some s) → ∃ v, σ[i]? = some (some v) ∧ SlotOk K Fr Hd H v s
  sep : (∀ (i j : Nat) (x y : D) (v : V), ρ[i]? = some (some (.o x)) → ρ[j]? = some (some (.o y)) → σ[i]? = some (some v) → σ[j]? = some (some v) → i = j) ∧ SepQ ρ σ
def VlOk (K : PySem.W.Frag) (Hd : Hp) (ρ : DSt) (σ : St) (v : V) : Vl → Prop
  | .d x => Dt K Hd v x
  | .o x => ∃ i : Nat, ρ[i]? = some (some (.o x)) ∧ σ[i]? = some (some v)
  | .s ns => ∃ p, v = .ref p ∧ SqL K Hd p (ns.map V.int)
  | .n w es => ∃ i : Nat, ρ[i]? = some (some (.n w es)) ∧ σ[i]? = some (some v)
  | .q C g st => ∃ i : Nat, ρ[i]? = some (some (.q C g st)) ∧ σ[i]? = some (some v)
  | .r C x rows => RAt K Hd v C x rows
theorem VlOk.mono {K : PySem.W.Frag} {Hd Hd' : Hp} {ρ : DSt} {σ : St} {v : V} (e : Sub Hd Hd') : ∀ {x : Vl}, VlOk K Hd ρ σ v x → VlOk K Hd' ρ σ v x
  | .d _, h => Dt.mono e h
  | .o _, h => h
  | .s _, ⟨p, h1, h2⟩ => ⟨p, h1, e.l h2⟩
  | .n _ _, h => h
  | .q _ _ _, h => h
  | .r _ _ _, h => RAt.mono e h
abbrev DX := Str → Prop
abbrev DE := DX → DSt → (Vl → Prop) → Prop
abbrev DT := DX → DSt → (Bool → Prop) → Prop
abbrev DA := DX → DSt → (List Vl → Prop) → Prop
structure DEnds where
  nx : DSt → Prop
  rt : D → Prop
  bk : DSt → Prop := fun _ => False
  ct : DSt → Prop := fun _ => False
  xc : DX := fun _ => False
abbrev DS := DEnds → DSt → Prop
section
variable (K : PySem.W.Frag) (T : Wd) (E : XK)
def XOk (E : XK) (Fr H0 : Hp) (ρ : DSt) (σ : St) (xc : DX) : Prop := ∀ C Hd H, Sat K T Fr H0 ρ σ Hd H → xc C → E (.ref (T.ca C)) none H
def LE (t : DE) : TE := fun σ H Q => ∃ (xc : DX) (Fr H0 : Hp) (ρ : DSt) (Hd : Hp) (q : Vl → Prop), Sat K T Fr H0 ρ σ Hd H ∧ t xc ρ q ∧ XOk K T E Fr H0 ρ σ xc ∧
  ∀ v x Hd' H', Sat K T Fr H0 ρ σ Hd' H' → Sub Hd Hd' → VlOk K Hd' ρ σ v x → q x → Q v H'
def LT (t : DT) : TT := fun σ H Q => ∃ (xc : DX) (Fr H0 : Hp) (ρ : DSt) (Hd : Hp) (q : Bool → Prop), Sat K T Fr H0 ρ σ Hd H ∧ t xc ρ q ∧ XOk K T E Fr H0 ρ σ xc ∧
  ∀ b Hd' H', Sat K T Fr H0 ρ σ Hd' H' → Sub Hd Hd' → q b → Q b H'
inductive VlsOk (K : PySem.W.Frag) (Hd : Hp) (ρ : DSt) (σ : St) : List V → List Vl → Prop
  | nil : VlsOk K Hd ρ σ [] []
  | cons {v : V} {vs : List V} {x : Vl} {xs : List Vl} : VlOk K Hd ρ σ v x → VlsOk K Hd ρ σ vs xs → VlsOk K Hd ρ σ (v :: vs) (x :: xs)
def LA (t : DA) : TA := fun σ H Q => ∃ (xc : DX) (Fr H0 : Hp) (ρ : DSt) (Hd : Hp) (q : List Vl → Prop), Sat K T Fr H0 ρ σ Hd H ∧ t xc ρ q ∧ XOk K T E Fr H0 ρ σ xc ∧
  ∀ vs xs Hd' H', Sat K T Fr H0 ρ σ Hd' H' → Sub Hd Hd' → VlsOk K Hd' ρ σ vs xs → q xs → Q vs H'
/-- where a def ends: the heap alone -/
structure Out (T : Wd) (Fr H0 Hd H : Hp) : Prop where
  base : Sub H0 Hd
  keep : Sub Hd H
  ntb : NoT Hd
  tabs : Tabs T.tb H
  frame : ∀ b o, Fr b = some o → (∀ ps, o ≠ .tbl ps) ∧ H b = some o ∧ Hd b = none
structure EndsOk (Fr H0 : Hp) (n : Nat) (e : DEnds) (De : Ends) : Prop where
  nx : ∀ ρ σ Hd H, Sat K T Fr H0 ρ σ Hd H → ρ.length = n → e.nx ρ → De.nx σ H
  bk : ∀ ρ σ Hd H, Sat K T Fr H0 ρ σ Hd H → ρ.length = n → e.bk ρ → De.bk σ H
  ct : ∀ ρ σ Hd H, Sat K T Fr H0 ρ σ Hd H → ρ.length = n → e.ct ρ → De.ct σ H
  rt : ∀ d v Hd H, Out T Fr H0 Hd H → Dt K Hd v d → e.rt d → De.rt v H
  xc : ∀ C Hd H, Out T Fr H0 Hd H → e.xc C → E (.ref (T.ca C)) none H
def LS (t : DS) : TS := fun De σ H => ∃ (e : DEnds) (Fr H0 : Hp) (ρ : DSt) (Hd : Hp), Sat K T Fr H0 ρ σ Hd H ∧ EndsOk K T E Fr H0 ρ.length e De ∧ t e ρ
end
def ED (X : Cx) (T : Wd) (E : XK) (e : Expr) (t : DE) : Prop := PE X e (LE X.K T E t)
def TD (X : Cx) (T : Wd) (E : XK) (e : Expr) (t : DT) : Prop := PT X e (LT X.K T E t)
def WD (X : Cx) (T : Wd) (E : XK) (e : Expr) (t : DT) : Prop := PW X e (LT X.K T E t)
def AD (X : Cx) (T : Wd) (E : XK) (es : List Expr) (t : DA) : Prop := PA X es (LA X.K T E t)
def SD (X : Cx) (T : Wd) (E : XK) (st : Stmt) (t : DS) : Prop := PS X st (LS X.K T E t)
def BD (X : Cx) (T : Wd) (E : XK) (sts : List Stmt) (t : DS) : Prop := PSs X sts (LS X.K T E t)
theorem pe_imp {X : Cx} {e : Expr} {t t' : TE} (h : PE X e t) (k : ∀ σ H Q, t' σ H Q → t σ H Q) : PE X e t' := ⟨fun pins s σ H Q I w => h.run pins s σ H Q I (k σ H Q w)⟩
theorem pt_imp {X : Cx} {e : Expr} {t t' : TT} (h : PT X e t) (k : ∀ σ H Q, t' σ H Q → t σ H Q) : PT X e t' := ⟨fun pins s σ H Q I w => h.run pins s σ H Q I (k σ H Q w)⟩
theorem pw_imp {X : Cx} {e : Expr} {t t' : TT} (h : PW X e t) (k : ∀ σ H Q, t' σ H Q → t σ H Q) : PW X e t' := ⟨fun wh pins s σ H Q I w => h.run wh pins s σ H Q I (k σ H Q w)⟩
theorem pa_imp {X : Cx} {es : List Expr} {t t' : TA} (h : PA X es t) (k : ∀ σ H Q, t' σ H Q → t σ H Q) : PA X es t' := ⟨fun pos pins s σ H Q I w => h.run pos pins s σ H Q I (k σ H Q w)⟩
theorem ps_imp {X : Cx} {st : Stmt} {t t' : TS} (h : PS X st t) (k : ∀ De σ H, t' De σ H → t De σ H) : PS X st t' := ⟨fun pins s σ H De I w => h.run pins s σ H De I (k De σ H w)⟩
theorem pss_imp {X : Cx} {sts : List Stmt} {t t' : TS} (h : PSs X sts t) (k : ∀ De σ H, t' De σ H → t De σ H) : PSs X sts t' := ⟨fun pins s σ H De I w => h.run pins s σ H De I (k De σ H w)⟩
/-! ### the state is kept -/
section
variable {K : PySem.W.Frag} {T : Wd} {Fr H0 : Hp} {ρ : DSt} {σ : St} {Hd H : Hp}
theorem Sat.out (s : Sat K T Fr H0 ρ σ Hd H) : Out T Fr H0 Hd H := ⟨s.base, s.keep, s.ntb, s.tabs, s.frame⟩
theorem SlotOk.ext {Fr' Hd' H' : Hp} (e : Sub Hd Hd') (h : ∀ b o, Hd b = none → H b = some o → (∀ ps, o ≠ .tbl ps) → Fr b = none → Hd' b = none ∧ H' b = some o ∧ Fr' b = none) {v : V} {s : Vl} (q : SlotOk K Fr Hd H v s) : SlotOk K Fr' Hd' H' v s := by
  cases s with
  | r C x rows => exact RAt.mono e q
  | q C g y =>
    refine ⟨q.1, q.2.to e fun b o hb ho => ?_⟩
    obtain ⟨o', ho', ht, _⟩ := q.2.at hb
    rw [ho] at ho'; cases ho'
    exact h b o (q.2.out b hb).1 ho ht (q.2.out b hb).2
  | d y => exact Dt.mono e q
  | s y => obtain ⟨p, h1, h2⟩ := q; exact ⟨p, h1, e.l h2⟩
  | n w y =>
    obtain ⟨p, e1, h1, hf, xs, h2, h3⟩ := q
    obtain ⟨k1, k2, k3⟩ := h p _ h1 h2 (fun ps z => by unfold NdO at z; cases z) hf
    exact ⟨p, e1, k1, k3, xs, k2, h3.mono e⟩
  | o y =>
    obtain ⟨p, e1, h1, hf, q⟩ := q
    cases y with
    | list ds =>
      obtain ⟨xs, h2, h3⟩ := q
      obtain ⟨k1, k2, k3⟩ := h p _ h1 h2 (fun ps z => by cases z) hf
      exact ⟨p, e1, k1, k3, xs, k2, h3.mono e⟩
    | dict ds =>
      obtain ⟨xs, h2, h3⟩ := q
      obtain ⟨k1, k2, k3⟩ := h p _ h1 h2 (fun ps z => by cases z) hf
      exact ⟨p, e1, k1, k3, xs, k2, h3.mono e⟩
    | none => exact (show False from q).elim
    | bool _ => exact (show False from q).elim
    | int _ => exact (show False from q).elim
    | str _ => exact (show False from q).elim
    | tuple _ => exact (show False from q).elim
/-- a new object, laid among the data -/
theorem Sat.lay {p : Addr} {o : HO} (s : Sat K T Fr H0 ρ σ Hd H) (hp : H p = none) (ho : ∀ ps, o ≠ .tbl ps := by intro ps z; cases z) (hk : ∀ kvs, o ≠ .dK kvs := by intro kvs z; cases z) : Sat K T Fr H0 ρ σ (upd Hd p o) (upd H p o) := by
  have hd := s.keep.free hp
  refine ⟨s.len, s.base.trans (Sub.new hd), s.keep.upd, s.ntb.upd ho hk, s.tabs.ext (Sub.new hp), fun b u e => ?_, fun i v e => ?_, s.sep⟩
  · obtain ⟨h0, h1, h2⟩ := s.frame b u e
    have n : b ≠ p := ne_of_none h1 hp
    exact ⟨h0, by rw [upd_ne n]; exact h1, by rw [upd_ne n]; exact h2⟩
  · obtain ⟨w, h1, h2⟩ := s.slot i v e
    refine ⟨w, h1, h2.ext (Sub.new hd) fun b u hb hu _ hf => ?_⟩
    have n : b ≠ p := ne_of_none hu hp
    exact ⟨by rw [upd_ne n]; exact hb, by rw [upd_ne n]; exact hu, hf⟩
/-- the data of a value, but the script's -/
def Vl.dat : Vl → Option D
  | .d x => some x
  | .o x => some x
  | .s _ => none
  | .n _ _ => none
  | .q _ _ _ => none
  | .r _ _ _ => none
theorem OwnAt.full (s : Sub Hd H) {p : Addr} {d : D} (h : OwnAt K Hd H p d) : Dt K H (.ref p) d := by
  cases d with
  | list ds => obtain ⟨xs, e3, e4⟩ := h; exact .lst e3 (e4.mono s)
  | dict es => obtain ⟨xs, e3, e4⟩ := h; exact .dct (.inl e3) (e4.mono s)
  | none => exact (show False from h).elim
  | bool _ => exact (show False from h).elim
  | int _ => exact (show False from h).elim
  | str _ => exact (show False from h).elim
  | tuple _ => exact (show False from h).elim
theorem VlOk.full (s : Sat K T Fr H0 ρ σ Hd H) {v : V} {d : D} {x : Vl} (h : VlOk K Hd ρ σ v x) (e : x.dat = some d) : Dt K H v d := by
  cases x with
  | d y => cases e; exact Dt.mono s.keep h
  | o y =>
    cases e
    obtain ⟨i, h1, h2⟩ := h
    obtain ⟨w, e1, p, e2, _, _, e3⟩ := s.slot i _ h1
    rw [h2] at e1; cases e1; subst e2
    exact e3.full s.keep
  | s y => cases e
  | n _ _ => cases e
  | q _ _ _ => cases e
  | r _ _ _ => cases e
/-- a list, data or one's own: where it stands, its items data -/
theorem VlOk.list (s : Sat K T Fr H0 ρ σ Hd H) {v : V} {ds : List D} {x : Vl} (hx : x.dat = some (.list ds)) (h : VlOk K Hd ρ σ v x) : ∃ p xs, v = .ref p ∧ H p = some (.lst xs) ∧ DtA K Hd xs ds := by
  cases x with
  | d y =>
    cases hx
    have h : Dt K Hd v (.list ds) := h
    cases h with
    | lst h1 h2 => exact ⟨_, _, rfl, s.keep _ _ h1, h2⟩
  | o y =>
    cases hx
    obtain ⟨i, h1, h2⟩ := h
    obtain ⟨w, e1, p, e2, _, _, xs, e3, e4⟩ := s.slot i _ h1
    rw [h2] at e1; cases e1
    exact ⟨p, xs, e2, e3, e4⟩
  | s ns => cases hx
  | n _ _ => cases hx
  | q _ _ _ => cases hx
  | r _ _ _ => cases hx
theorem VlOk.tup (s : Sat K T Fr H0 ρ σ Hd H) {v : V} {ds : List D} {x : Vl} (hx : x.dat = some (.tuple ds)) (h : VlOk K Hd ρ σ v x) : ∃ p xs, v = .ref p ∧ H p = some (.tup xs) ∧ DtA K Hd xs ds := by
  cases x with
  | d y =>
    cases hx
    have h : Dt K Hd v (.tuple ds) := h
    cases h with
    | tup h1 h2 => exact ⟨_, _, rfl, s.keep _ _ h1, h2⟩
  | o y =>
    cases hx
    obtain ⟨i, h1, h2⟩ := h
    obtain ⟨w, e1, p, e2, _, _, z⟩ := s.slot i _ h1
    exact z.elim
  | s ns => cases hx
  | n _ _ => cases hx
  | q _ _ _ => cases hx
  | r _ _ _ => cases hx
theorem VlOk.int {v : V} {i : Int} {x : Vl} (s : Sat K T Fr H0 ρ σ Hd H) (hx : x.dat = some (.int i)) (h : VlOk K Hd ρ σ v x) : v = .int i := by
  have q := h.full s hx
  cases q; rfl
theorem VlOk.bl {v : V} {i : Bool} {x : Vl} (s : Sat K T Fr H0 ρ σ Hd H) (hx : x.dat = some (.bool i)) (h : VlOk K Hd ρ σ v x) : v = .bl i := by
  have q := h.full s hx
  cases q; rfl
theorem VlOk.str {v : V} {i : Str} {x : Vl} (s : Sat K T Fr H0 ρ σ Hd H) (hx : x.dat = some (.str i)) (h : VlOk K Hd ρ σ v x) : v = .str i := by
  have q := h.full s hx
  cases q; rfl
theorem VlOk.non {v : V} {x : Vl} (s : Sat K T Fr H0 ρ σ Hd H) (hx : x.dat = some .none) (h : VlOk K Hd ρ σ v x) : v = .non := by
  have q := h.full s hx
  cases q; rfl
end
end DL

/-! Data: expressions. -/
namespace DL
open PySem L2 LamX
section
variable {X : Cx} {T : Wd} {E : XK} {a b c e : Expr} {es rest : List Expr} {pos p p2 : Pos} {Ta Tb Tc Te : DE} {ta tb tc : DT} {Al : DA}
/-! ### names, constants -/
def gVar (o : Option (Option Vl)) (Q : Vl → Prop) : Prop := match o with
  | some (some s) => Q s
  | _ => False
def dVar (i : Nat) : DE := fun _ ρ Q => gVar ρ[i]? Q
def dC (x : D) : DE := fun _ _ Q => Q (.d x)
theorem de_var {i : Nat} {x : Str} (h : PE X (.Name x pos) (tVar i)) : ED X T E (.Name x pos) (dVar i) := by
  refine pe_imp h fun σ H Q ⟨xc, Fr, H0, ρ, Hd, q, s, w, hx, k⟩ => ?_
  unfold dVar gVar at w
  split at w
  · rename_i v e1
    obtain ⟨u, h1, h2⟩ := s.slot i v e1
    refine ⟨u, h1, k u v Hd H s (Sub.refl _) ?_ w⟩
    cases v with
    | d y => exact h2
    | o y => exact ⟨i, e1, h1⟩
    | s y => exact h2
    | n w y => exact ⟨i, e1, h1⟩
    | q _ _ _ => exact ⟨i, e1, h1⟩
    | r _ _ _ => exact h2
  · exact w.elim
theorem de_c {v : V} {x : D} (h : PE X e (tC v)) (hd : ∀ K Hd, Dt K Hd v x) : ED X T E e (dC x) :=
  pe_imp h fun σ H Q ⟨xc, Fr, H0, ρ, Hd, q, s, w, hx, k⟩ => k v (.d x) Hd H s (Sub.refl _) (hd _ _) w
theorem de_int {i : Int} {j : Nat} : ED X T E (.Constant (.int i) j pos) (dC (.int i)) := de_c pe_int fun _ _ => .int i
theorem de_bl {i : Bool} {j : Nat} : ED X T E (.Constant (.bool i) j pos) (dC (.bool i)) := de_c pe_bl fun _ _ => .bl i
theorem de_non {j : Nat} : ED X T E (.Constant .none j pos) (dC .none) := de_c pe_non fun _ _ => .non
theorem de_str {i : Str} {j : Nat} : ED X T E (.Constant (.str i) j pos) (dC (.str i)) := de_c pe_str fun _ _ => .str i
theorem de_globI {x : Str} {i : Int} {u : Value} (hm : X.mg x = some u) (r : RelV (.int i) u) (hg : Gl X x := by rfl) (hd : (x == ("__debug__" : Str)) = false := by decide) : ED X T E (.Name x pos) (dC (.int i)) := de_c (pe_glob hg hm r hd) fun _ _ => .int i
theorem de_globS {x : Str} {i : Str} {u : Value} (hm : X.mg x = some u) (r : RelV (.str i) u) (hg : Gl X x := by rfl) (hd : (x == ("__debug__" : Str)) = false := by decide) : ED X T E (.Name x pos) (dC (.str i)) := de_c (pe_glob hg hm r hd) fun _ _ => .str i
/-! ### operations on values -/
abbrev G2 := Vl → Vl → (Vl → Prop) → Prop
def OpD (K : PySem.W.Frag) (T : Wd) (r : R2) (g : G2) : Prop := ∀ (Fr H0 : Hp) (ρ : DSt) (σ : St) (Hd H : Hp) (vx vy : V) (x y : Vl) (q : Vl → Prop) (Q : VK),
  Sat K T Fr H0 ρ σ Hd H → VlOk K Hd ρ σ vx x → VlOk K Hd ρ σ vy y → g x y q → (∀ v z Hd' H', Sat K T Fr H0 ρ σ Hd' H' → Sub Hd Hd' → VlOk K Hd' ρ σ v z → q z → Q v H') → r vx vy H Q
def dOp (g : G2) (Ta Tb : DE) : DE := fun xc ρ Q => Ta xc ρ fun x => Tb xc ρ fun y => g x y Q
theorem le_op {K : PySem.W.Frag} {r : R2} {g : G2} (hd : OpD K T r g) {σ : St} {H : Hp} {Q : VK} (h : LE K T E (dOp g Ta Tb) σ H Q) : tOp r (LE K T E Ta) (LE K T E Tb) σ H Q := by
  obtain ⟨xc, Fr, H0, ρ, Hd, q, s, w, hx, k⟩ := h
  exact ⟨xc, Fr, H0, ρ, Hd, _, s, w, hx, fun v x Hd1 H1 s1 b1 ok1 w1 => ⟨xc, Fr, H0, ρ, Hd1, _, s1, w1, hx, fun v2 y Hd2 H2 s2 b2 ok2 w2 =>
    hd Fr H0 ρ σ Hd2 H2 v v2 x y q Q s2 (ok1.mono b2) ok2 w2 fun v3 z Hd3 H3 s3 b3 ok3 w3 => k v3 z Hd3 H3 s3 ((b1.trans b2).trans b3) ok3 w3⟩⟩
theorem de_op {op : Operator} {r : R2} {g : G2} (ho : OpR X (binaryOp op) r) (hd : OpD X.K T r g) (ha : ED X T E a Ta) (hb : ED X T E b Tb) : ED X T E (.BinOp a op b pos) (dOp g Ta Tb) :=
  pe_imp (pe_op ho ha hb) fun _ _ _ h => le_op hd h
theorem de_cmp {op : CmpOp} {r : R2} {g : G2} (ho : OpR X (compareOp op) r) (hd : OpD X.K T r g) (ha : ED X T E a Ta) (hb : ED X T E b Tb) (hm : behindInMarks op b = false) : ED X T E (.Compare a [op] [b] pos) (dOp g Ta Tb) :=
  pe_imp (pe_cmpR ho ha hb hm) fun _ _ _ h => le_op hd h
theorem de_ix {r : R2} {g : G2} (hr : IxR X r) (hd : OpD X.K T r g) (ha : ED X T E a Ta) (hb : ED X T E b Tb) (hs : PlainIx b) : ED X T E (.Subscript a b pos) (dOp g Ta Tb) :=
  pe_imp (pe_ix hr ha hb hs) fun _ _ _ h => le_op hd h
/-! ### tests -/
def vB (v : Vl) (k : Bool → Prop) : Prop := match v with
  | .d (.bool b) => k b
  | _ => False
def bc (b : Bool) (A B : Prop) : Prop := match b with
  | true => A
  | false => B
theorem vB_ok {K : PySem.W.Frag} {Hd : Hp} {ρ : DSt} {σ : St} {v : V} {x : Vl} {k : Bool → Prop} (h : VlOk K Hd ρ σ v x) (w : vB x k) : ∃ b, v = .bl b ∧ x = .d (.bool b) ∧ k b := by
  unfold vB at w
  split at w
  · rename_i b
    have h : Dt K Hd v (.bool b) := h
    cases h
    exact ⟨b, rfl, rfl, w⟩
  · exact w.elim
def dTest (t : DE) : DT := fun xc ρ Q => t xc ρ fun v => vB v Q
theorem lt_test {K : PySem.W.Frag} {σ : St} {H : Hp} {Q : Bool → Hp → Prop} (h : LT K T E (dTest Te) σ H Q) : tTest (LE K T E Te) σ H Q := by
  obtain ⟨xc, Fr, H0, ρ, Hd, q, s, w, hx, k⟩ := h
  refine ⟨xc, Fr, H0, ρ, Hd, _, s, w, hx, fun v x Hd1 H1 s1 b1 ok1 w1 => ?_⟩
  obtain ⟨u, rfl, rfl, w1⟩ := vB_ok ok1 w1
  exact ⟨u, rfl, k u Hd1 H1 s1 b1 w1⟩
theorem tt_mono {t t' : TE} (h : ∀ σ H Q, t' σ H Q → t σ H Q) {σ : St} {H : Hp} {Q : Bool → Hp → Prop} (q : tTest t' σ H Q) : tTest t σ H Q := h _ _ _ q
theorem td_cmp {op : CmpOp} {r : R2} {g : G2} (ho : OpR X (compareOp op) r) (hd : OpD X.K T r g) (ha : ED X T E a Ta) (hb : ED X T E b Tb) (hm : behindInMarks op b = false) : TD X T E (.Compare a [op] [b] pos) (dTest (dOp g Ta Tb)) :=
  pt_imp (pt_cmpR ho ha hb hm) fun _ _ _ h => tt_mono (fun _ _ _ h => le_op hd h) (lt_test h)
/-- a op1 b op2 c -/
def dChain (g g' : G2) (Ta Tb Tc : DE) : DE := fun xc ρ Q => Ta xc ρ fun x => Tb xc ρ fun y => g x y fun z => vB z fun k => bc k (Tc xc ρ fun w => g' y w Q) (Q (.d (.bool false)))
theorem le_chain {K : PySem.W.Frag} {r r' : R2} {g g' : G2} (hd : OpD K T r g) (hd' : OpD K T r' g') {σ : St} {H : Hp} {Q : VK} (h : LE K T E (dChain g g' Ta Tb Tc) σ H Q) : tChain r r' (LE K T E Ta) (LE K T E Tb) (LE K T E Tc) σ H Q := by
  obtain ⟨xc, Fr, H0, ρ, Hd, q, s, w, hx, k⟩ := h
  refine ⟨xc, Fr, H0, ρ, Hd, _, s, w, hx, fun v x Hd1 H1 s1 b1 ok1 w1 => ⟨xc, Fr, H0, ρ, Hd1, _, s1, w1, hx, fun v2 y Hd2 H2 s2 b2 ok2 w2 =>
    hd Fr H0 ρ σ Hd2 H2 v v2 x y _ _ s2 (ok1.mono b2) ok2 w2 fun v3 z Hd3 H3 s3 b3 ok3 w3 => ?_⟩⟩
  obtain ⟨u3, rfl, rfl, w3⟩ := vB_ok ok3 w3
  cases u3 with
  | true =>
    refine ⟨true, rfl, ?_⟩
    rw [if_pos rfl]
    exact ⟨xc, Fr, H0, ρ, Hd3, _, s3, w3, hx, fun v4 u Hd4 H4 s4 b4 ok4 w4 => hd' Fr H0 ρ σ Hd4 H4 v2 v4 y u q Q s4 (ok2.mono (b3.trans b4)) ok4 w4 fun v5 z5 Hd5 H5 s5 b5 ok5 w5 =>
      k v5 z5 Hd5 H5 s5 ((((b1.trans b2).trans b3).trans b4).trans b5) ok5 w5⟩
  | false =>
    refine ⟨false, rfl, ?_⟩
    rw [if_neg Bool.false_ne_true]
    exact k _ (.d (.bool false)) Hd3 H3 s3 ((b1.trans b2).trans b3) (Dt.bl false) w3
theorem de_chain {op op' : CmpOp} {r r' : R2} {g g' : G2} (ho : OpR X (compareOp op) r) (hd : OpD X.K T r g) (ho' : OpR X (compareOp op') r') (hd' : OpD X.K T r' g') (ha : ED X T E a Ta) (hb : ED X T E b Tb) (hc : ED X T E c Tc)
    (hm : lastMarks [op, op'] [b, c] = false := by with_unfolding_all rfl) : ED X T E (.Compare a [op, op'] [b, c] pos) (dChain g g' Ta Tb Tc) :=
  pe_imp (pe_chain ho ho' ha hb hc hm) fun _ _ _ h => le_chain hd hd' h
theorem td_chain {op op' : CmpOp} {r r' : R2} {g g' : G2} (ho : OpR X (compareOp op) r) (hd : OpD X.K T r g) (ho' : OpR X (compareOp op') r') (hd' : OpD X.K T r' g') (ha : ED X T E a Ta) (hb : ED X T E b Tb) (hc : ED X T E c Tc)
    (hm : lastMarks [op, op'] [b, c] = false := by with_unfolding_all rfl) : TD X T E (.Compare a [op, op'] [b, c] pos) (dTest (dChain g g' Ta Tb Tc)) :=
  pt_imp (pt_chain ho ho' ha hb hc hm) fun _ _ _ h => tt_mono (fun _ _ _ h => le_chain hd hd' h) (lt_test h)
/-- an expression that gives a truth, as a test -/
theorem td_val (h : ED X T E e Te) (he : ∀ whole, isTrue e X.env whole = (do let v ← whole; standAt e.pos; holding [v] (truthy v)) := by intro _; rfl) : TD X T E e (dTest Te) :=
  pt_imp (pt_val h he) fun _ _ _ h => lt_test h
/-! ### and, or, not -/
def dAnd (t u : DT) : DT := fun xc ρ Q => t xc ρ fun k => bc k (u xc ρ Q) (Q false)
def dOr (t u : DT) : DT := fun xc ρ Q => t xc ρ fun k => bc k (Q true) (u xc ρ Q)
def dNot (t : DT) : DT := fun xc ρ Q => t xc ρ fun k => Q (!k)
theorem wd_and1 (h : TD X T E a ta) : WD X T E (.BoolOp .And [a] pos) ta := pw_and1 h
theorem wd_or1 (h : TD X T E a ta) : WD X T E (.BoolOp .Or [a] pos) ta := pw_or1 h
theorem wd_and (ha : TD X T E a ta) (hb : WD X T E (.BoolOp .And (b :: rest) pos) tb) : WD X T E (.BoolOp .And (a :: b :: rest) pos) (dAnd ta tb) := by
  refine pw_imp (pw_and ha hb) fun σ H Q ⟨xc, Fr, H0, ρ, Hd, q, s, w, hx, k⟩ => ⟨xc, Fr, H0, ρ, Hd, _, s, w, hx, fun u Hd1 H1 s1 b1 w1 => ?_⟩
  cases u with
  | true => exact iteT ⟨xc, Fr, H0, ρ, Hd1, _, s1, w1, hx, fun u2 Hd2 H2 s2 b2 w2 => k u2 Hd2 H2 s2 (b1.trans b2) w2⟩
  | false => exact iteF (k _ Hd1 H1 s1 b1 w1)
theorem wd_or (ha : TD X T E a ta) (hb : WD X T E (.BoolOp .Or (b :: rest) pos) tb) : WD X T E (.BoolOp .Or (a :: b :: rest) pos) (dOr ta tb) := by
  refine pw_imp (pw_or ha hb) fun σ H Q ⟨xc, Fr, H0, ρ, Hd, q, s, w, hx, k⟩ => ⟨xc, Fr, H0, ρ, Hd, _, s, w, hx, fun u Hd1 H1 s1 b1 w1 => ?_⟩
  cases u with
  | true => exact iteT (k _ Hd1 H1 s1 b1 w1)
  | false => exact iteF ⟨xc, Fr, H0, ρ, Hd1, _, s1, w1, hx, fun u2 Hd2 H2 s2 b2 w2 => k u2 Hd2 H2 s2 (b1.trans b2) w2⟩
theorem WD.td (h : WD X T E e ta) : TD X T E e ta := PW.pt h
theorem td_not (ha : TD X T E a ta) : TD X T E (.UnaryOp .Not a pos) (dNot ta) :=
  pt_imp (pt_not ha) fun σ H Q ⟨xc, Fr, H0, ρ, Hd, q, s, w, hx, k⟩ => ⟨xc, Fr, H0, ρ, Hd, _, s, w, hx, fun u Hd1 H1 s1 b1 w1 => k _ Hd1 H1 s1 b1 w1⟩
/-- as values: all but the last are truths -/
def dAndV (Ta Tb : DE) : DE := fun xc ρ Q => Ta xc ρ fun v => vB v fun k => bc k (Tb xc ρ Q) (Q (.d (.bool false)))
def dOrV (Ta Tb : DE) : DE := fun xc ρ Q => Ta xc ρ fun v => vB v fun k => bc k (Q (.d (.bool true))) (Tb xc ρ Q)
def dNotV (Ta : DE) : DE := fun xc ρ Q => Ta xc ρ fun v => vB v fun k => Q (.d (.bool (!k)))
theorem de_one {op} (h : ED X T E a Ta) : ED X T E (.BoolOp op [a] pos) Ta := pe_one h
theorem de_and (ha : ED X T E a Ta) (hb : ED X T E (.BoolOp .And (b :: rest) pos) Tb) : ED X T E (.BoolOp .And (a :: b :: rest) pos) (dAndV Ta Tb) := by
  refine pe_imp (pe_and ha hb) fun σ H Q ⟨xc, Fr, H0, ρ, Hd, q, s, w, hx, k⟩ => ⟨xc, Fr, H0, ρ, Hd, _, s, w, hx, fun v x Hd1 H1 s1 b1 ok1 w1 => ?_⟩
  obtain ⟨u, rfl, rfl, w1⟩ := vB_ok ok1 w1
  cases u with
  | true => exact ⟨true, rfl, iteT ⟨xc, Fr, H0, ρ, Hd1, _, s1, w1, hx, fun v2 y Hd2 H2 s2 b2 ok2 w2 => k v2 y Hd2 H2 s2 (b1.trans b2) ok2 w2⟩⟩
  | false => exact ⟨false, rfl, iteF (k _ (.d (.bool false)) Hd1 H1 s1 b1 (Dt.bl false) w1)⟩
theorem de_or (ha : ED X T E a Ta) (hb : ED X T E (.BoolOp .Or (b :: rest) pos) Tb) : ED X T E (.BoolOp .Or (a :: b :: rest) pos) (dOrV Ta Tb) := by
  refine pe_imp (pe_or ha hb) fun σ H Q ⟨xc, Fr, H0, ρ, Hd, q, s, w, hx, k⟩ => ⟨xc, Fr, H0, ρ, Hd, _, s, w, hx, fun v x Hd1 H1 s1 b1 ok1 w1 => ?_⟩
  obtain ⟨u, rfl, rfl, w1⟩ := vB_ok ok1 w1
  cases u with
  | true => exact ⟨true, rfl, iteT (k _ (.d (.bool true)) Hd1 H1 s1 b1 (Dt.bl true) w1)⟩
  | false => exact ⟨false, rfl, iteF ⟨xc, Fr, H0, ρ, Hd1, _, s1, w1, hx, fun v2 y Hd2 H2 s2 b2 ok2 w2 => k v2 y Hd2 H2 s2 (b1.trans b2) ok2 w2⟩⟩
theorem de_not (ha : ED X T E a Ta) : ED X T E (.UnaryOp .Not a pos) (dNotV Ta) := by
  refine pe_imp (pe_not ha) fun σ H Q ⟨xc, Fr, H0, ρ, Hd, q, s, w, hx, k⟩ => ⟨xc, Fr, H0, ρ, Hd, _, s, w, hx, fun v x Hd1 H1 s1 b1 ok1 w1 => ?_⟩
  obtain ⟨u, rfl, rfl, w1⟩ := vB_ok ok1 w1
  exact ⟨u, rfl, k _ (.d (.bool _)) Hd1 H1 s1 b1 (Dt.bl _) w1⟩
def dIfE (t : DT) (Ta Tb : DE) : DE := fun xc ρ Q => t xc ρ fun k => bc k (Ta xc ρ Q) (Tb xc ρ Q)
theorem de_ifExp (hc : TD X T E c ta) (ha : ED X T E a Ta) (hb : ED X T E b Tb) : ED X T E (.IfExp c a b pos) (dIfE ta Ta Tb) := by
  refine pe_imp (pe_ifExp hc ha hb) fun σ H Q ⟨xc, Fr, H0, ρ, Hd, q, s, w, hx, k⟩ => ⟨xc, Fr, H0, ρ, Hd, _, s, w, hx, fun u Hd1 H1 s1 b1 w1 => ?_⟩
  cases u with
  | true => exact iteT ⟨xc, Fr, H0, ρ, Hd1, _, s1, w1, hx, fun v2 y Hd2 H2 s2 b2 ok2 w2 => k v2 y Hd2 H2 s2 (b1.trans b2) ok2 w2⟩
  | false => exact iteF ⟨xc, Fr, H0, ρ, Hd1, _, s1, w1, hx, fun v2 y Hd2 H2 s2 b2 ok2 w2 => k v2 y Hd2 H2 s2 (b1.trans b2) ok2 w2⟩
/-! ### argument lists, displays -/
def dNil : DA := fun _ _ Q => Q []
def dCons (Ta : DE) (Al : DA) : DA := fun xc ρ Q => Ta xc ρ fun x => Al xc ρ fun xs => Q (x :: xs)
theorem VlsOk.mono {K : PySem.W.Frag} {Hd Hd' : Hp} {ρ : DSt} {σ : St} (e : Sub Hd Hd') : ∀ {vs : List V} {xs : List Vl}, VlsOk K Hd ρ σ vs xs → VlsOk K Hd' ρ σ vs xs
  | _, _, .nil => .nil
  | _, _, .cons h t => .cons (h.mono e) (VlsOk.mono e t)
theorem ad_nil : AD X T E [] dNil := pa_imp pa_nil fun σ H Q ⟨xc, Fr, H0, ρ, Hd, q, s, w, hx, k⟩ => k [] [] Hd H s (Sub.refl _) .nil w
theorem ad_cons (ha : ED X T E e Ta) (hr : AD X T E es Al) (hs : starEach (e :: es) X.env = (false, eval e X.env) :: starEach es X.env := by rfl) : AD X T E (e :: es) (dCons Ta Al) :=
  pa_imp (pa_cons ha hr hs) fun σ H Q ⟨xc, Fr, H0, ρ, Hd, q, s, w, hx, k⟩ => ⟨xc, Fr, H0, ρ, Hd, _, s, w, hx, fun v x Hd1 H1 s1 b1 ok1 w1 => ⟨xc, Fr, H0, ρ, Hd1, _, s1, w1, hx, fun vs xs Hd2 H2 s2 b2 ok2 w2 =>
    k (v :: vs) (x :: xs) Hd2 H2 s2 (b1.trans b2) (.cons (ok1.mono b2) ok2) w2⟩⟩
def allD : List Vl → Option (List D)
  | [] => some []
  | .d x :: r => match allD r with
    | some ds => some (x :: ds)
    | none => none
  | _ => none
theorem allD_ok {K : PySem.W.Frag} {Hd : Hp} {ρ : DSt} {σ : St} : ∀ {vs : List V} {xs : List Vl} {ds : List D}, VlsOk K Hd ρ σ vs xs → allD xs = some ds → DtA K Hd vs ds
  | _, _, _, .nil, e => by cases e; exact .nil
  | _, .d x :: r, ds, .cons h t, e => by
    cases q : allD r with
    | none => simp [allD, q] at e
    | some es =>
      simp [allD, q] at e
      subst e
      exact .cons h (allD_ok t q)
  | _, .o x :: r, ds, .cons h t, e => by simp [allD] at e
  | _, .s x :: r, ds, .cons h t, e => by simp [allD] at e
  | _, .n _ _ :: r, ds, .cons h t, e => by simp [allD] at e
  | _, .q _ _ _ :: r, ds, .cons h t, e => by simp [allD] at e
  | _, .r _ _ _ :: r, ds, .cons h t, e => by simp [allD] at e
def gTup (xs : List Vl) (Q : Vl → Prop) : Prop := match allD xs with
  | some ds => ds.length ≤ sizeLine ∧ Q (.d (.tuple ds))
  | none => False
def gLst (xs : List Vl) (Q : Vl → Prop) : Prop := match allD xs with
  | some ds => ds.length ≤ sizeLine ∧ Q (.d (.list ds))
  | none => False
def dTup (Al : DA) : DE := fun xc ρ Q => Al xc ρ fun xs => gTup xs Q
def dLst (Al : DA) : DE := fun xc ρ Q => Al xc ρ fun xs => gLst xs Q
theorem de_tup {x1} (h : AD X T E es Al) : ED X T E (.Tuple es x1 pos) (dTup Al) := by
  refine pe_imp (pe_tup h) fun σ H Q ⟨xc, Fr, H0, ρ, Hd, q, s, w, hx, k⟩ => ⟨xc, Fr, H0, ρ, Hd, _, s, w, hx, fun vs xs Hd1 H1 s1 b1 ok1 w1 => ?_⟩
  unfold gTup at w1
  split at w1
  · rename_i ds e1
    have hA := allD_ok ok1 e1
    refine ⟨by rw [hA.length]; exact w1.1, fun p hp => k _ (.d (.tuple ds)) _ _ (s1.lay (o := .tup vs) hp) (b1.trans (Sub.new (s1.keep.free hp))) (Dt.tup upd_same (hA.mono (Sub.new (s1.keep.free hp)))) w1.2⟩
  · exact w1.elim
theorem de_lst (h : AD X T E es Al) : ED X T E (.List es pos) (dLst Al) := by
  refine pe_imp (pe_lst h) fun σ H Q ⟨xc, Fr, H0, ρ, Hd, q, s, w, hx, k⟩ => ⟨xc, Fr, H0, ρ, Hd, _, s, w, hx, fun vs xs Hd1 H1 s1 b1 ok1 w1 => ?_⟩
  unfold gLst at w1
  split at w1
  · rename_i ds e1
    have hA := allD_ok ok1 e1
    refine ⟨by rw [hA.length]; exact w1.1, fun p hp => k _ (.d (.list ds)) _ _ (s1.lay (o := .lst vs) hp) (b1.trans (Sub.new (s1.keep.free hp))) (Dt.lst upd_same (hA.mono (Sub.new (s1.keep.free hp)))) w1.2⟩
  · exact w1.elim
/-! ### built-ins called by name -/
abbrev GN := List Vl → (Vl → Prop) → Prop
def CallD (K : PySem.W.Frag) (T : Wd) (r : List V → Hp → VK → Prop) (g : GN) : Prop := ∀ (Fr H0 : Hp) (ρ : DSt) (σ : St) (Hd H : Hp) (vs : List V) (xs : List Vl) (q : Vl → Prop) (Q : VK),
  Sat K T Fr H0 ρ σ Hd H → VlsOk K Hd ρ σ vs xs → g xs q → (∀ v z Hd' H', Sat K T Fr H0 ρ σ Hd' H' → Sub Hd Hd' → VlOk K Hd' ρ σ v z → q z → Q v H') → r vs H Q
def dCB (g : GN) (Al : DA) : DE := fun xc ρ Q => Al xc ρ fun xs => g xs Q
theorem le_cb {K : PySem.W.Frag} {r : List V → Hp → VK → Prop} {g : GN} (hd : CallD K T r g) {σ : St} {H : Hp} {Q : VK} (h : LE K T E (dCB g Al) σ H Q) : tCB r (LA K T E Al) σ H Q := by
  obtain ⟨xc, Fr, H0, ρ, Hd, q, s, w, hx, k⟩ := h
  exact ⟨xc, Fr, H0, ρ, Hd, _, s, w, hx, fun vs xs Hd1 H1 s1 b1 ok1 w1 => hd Fr H0 ρ σ Hd1 H1 vs xs q Q s1 ok1 w1 fun v z Hd2 H2 s2 b2 ok2 w2 => k v z Hd2 H2 s2 (b1.trans b2) ok2 w2⟩
theorem de_callB {x : Str} {id : String} {r : List V → Hp → VK → Prop} {g : GN} (hc : CallR X (.builtin id) r) (hd : CallD X.K T r g) (hm : X.mg x = none) (ha : AD X T E (e :: es) Al) (hg : Gl X x := by rfl) (hv : bootBuiltins x = some (.builtin id) := by decide +kernel) (hn : x ≠ "__name__" := by decide) (hdb : (x == ("__debug__" : Str)) = false := by decide)
    (he : starEach (e :: es) X.env = (false, eval e X.env) :: starEach es X.env := by rfl) (hpl : (backTo pos (starEach es X.env)).any (·.1) = false := by rfl) : ED X T E (.Call (.Name x p) (e :: es) [] pos) (dCB g Al) :=
  pe_imp (pe_callB hc hg hm hv ha hn hdb he hpl) fun _ _ _ h => le_cb hd h
theorem de_callTy {x : Str} {Ty : String} {r : List V → Hp → VK → Prop} {g : GN} (hc : CallR X (.type Ty) r) (hd : CallD X.K T r g) (hm : X.mg x = none) (ha : AD X T E (e :: es) Al) (hg : Gl X x := by rfl) (hv : bootBuiltins x = some (.type Ty) := by decide +kernel) (hn : x ≠ "__name__" := by decide) (hdb : (x == ("__debug__" : Str)) = false := by decide)
    (he : starEach (e :: es) X.env = (false, eval e X.env) :: starEach es X.env := by rfl) (hpl : (backTo pos (starEach es X.env)).any (·.1) = false := by rfl) : ED X T E (.Call (.Name x p) (e :: es) [] pos) (dCB g Al) :=
  pe_imp (pe_callTy hc hg hm hv ha hn hdb he hpl) fun _ _ _ h => le_cb hd h
end
end DL

/-! Data: what operators and built-ins give. -/
namespace DL
open PySem L2 LamX
/-! ### data without dicts, not too deep -/
def okD : Nat → D → Bool
  | _, .none => true
  | _, .bool _ => true
  | _, .int _ => true
  | _, .str _ => true
  | n + 1, .list xs => xs.all (okD n)
  | n + 1, .tuple xs => xs.all (okD n)
  | 0, .list _ => false
  | 0, .tuple _ => false
  | _, .dict _ => false
theorem plainAll_of {p : D → Bool} (h : ∀ d, p d = true → d.plain = true) : ∀ xs : List D, xs.all p = true → PyData.plainAll xs = true
  | [], _ => rfl
  | x :: xs, q => by
    rw [List.all_cons, Bool.and_eq_true] at q
    simp only [PyData.plainAll, h x q.1, plainAll_of h xs q.2, Bool.and_self]
theorem depthAll_of {p : D → Bool} {n : Nat} (h : ∀ d, p d = true → d.depth ≤ n) : ∀ xs : List D, xs.all p = true → PyData.depthAll xs ≤ n
  | [], _ => by simp [PyData.depthAll]
  | x :: xs, q => by
    rw [List.all_cons, Bool.and_eq_true] at q
    have h1 := h x q.1
    have h2 := depthAll_of h xs q.2
    simp only [PyData.depthAll]
    omega
theorem okD_plain : ∀ (n : Nat) (d : D), okD n d = true → d.plain = true
  | _, .none, _ => rfl
  | _, .bool _, _ => rfl
  | _, .int _, _ => rfl
  | _, .str _, _ => rfl
  | n + 1, .list xs, h => by
    simp only [okD] at h
    simp only [PyData.plain]
    exact plainAll_of (okD_plain n) xs h
  | n + 1, .tuple xs, h => by
    simp only [okD] at h
    simp only [PyData.plain]
    exact plainAll_of (okD_plain n) xs h
  | 0, .list _, h => by simp [okD] at h
  | 0, .tuple _, h => by simp [okD] at h
  | 0, .dict _, h => by simp [okD] at h
  | n + 1, .dict _, h => by simp [okD] at h
theorem okD_depth : ∀ (n : Nat) (d : D), okD n d = true → d.depth ≤ n + 1
  | _, .none, _ => by simp [PyData.depth]
  | _, .bool _, _ => by simp [PyData.depth]
  | _, .int _, _ => by simp [PyData.depth]
  | _, .str _, _ => by simp [PyData.depth]
  | n + 1, .list xs, h => by
    simp only [okD] at h
    have q := depthAll_of (okD_depth n) xs h
    simp only [PyData.depth]
    omega
  | n + 1, .tuple xs, h => by
    simp only [okD] at h
    have q := depthAll_of (okD_depth n) xs h
    simp only [PyData.depth]
    omega
  | 0, .list _, h => by simp [okD] at h
  | 0, .tuple _, h => by simp [okD] at h
  | 0, .dict _, h => by simp [okD] at h
  | n + 1, .dict _, h => by simp [okD] at h
mutual
theorem Dt.dp {K : PySem.W.Frag} {H : Hp} : ∀ {v : V} {d : D}, Dt K H v d → d.plain = true → Dp K H v d
  | _, _, .non, _ => .non
  | _, _, .bl b, _ => .bl b
  | _, _, .int i, _ => .int i
  | _, _, .str x, _ => .str x
  | _, _, .lst h a, p => .lst (SqL.of h) (DtA.dp a (by simpa [PyData.plain] using p))
  | _, _, .tup h a, p => .tup (SqT.of h) (DtA.dp a (by simpa [PyData.plain] using p))
  | _, _, .dct h a, p => by simp [PyData.plain] at p
theorem DtA.dp {K : PySem.W.Frag} {H : Hp} : ∀ {vs : List V} {ds : List D}, DtA K H vs ds → PyData.plainAll ds = true → DpAll K H vs ds
  | _, _, .nil, _ => .nil
  | _, _, .cons h t, p => by
    simp only [PyData.plainAll, Bool.and_eq_true] at p
    exact .cons (Dt.dp h p.1) (DtA.dp t p.2)
end
theorem dpAll_ints {K : PySem.W.Frag} {H : Hp} : ∀ ns : List Int, DpAll K H (ns.map V.int) (ns.map PyData.int)
  | [] => .nil
  | n :: ns => .cons (.int n) (dpAll_ints ns)
/-- the data of a value, the script's too -/
def Vl.all : Vl → D
  | .d x => x
  | .o x => x
  | .s ns => .list (ns.map .int)
  | .n _ _ => .dict []
  | .q _ _ _ => .dict []
  | .r _ _ _ => .dict []
section
variable {K : PySem.W.Frag} {T : Wd} {Fr H0 : Hp} {ρ : DSt} {σ : St} {Hd H : Hp}
theorem VlOk.dp (s : Sat K T Fr H0 ρ σ Hd H) {v : V} {x : Vl} (h : VlOk K Hd ρ σ v x) (p : x.all.plain = true) : Dp K H v x.all := by
  cases x with
  | d y => exact (h.full s rfl).dp p
  | o y => exact (h.full s rfl).dp p
  | s ns =>
    obtain ⟨q, e, hq⟩ := h
    subst e
    exact .lst (s.keep.l hq) (dpAll_ints ns)
  | n w es => exact absurd (show (PyData.dict []).plain = true from p) (by decide)
  | q _ _ _ => exact absurd (show (PyData.dict []).plain = true from p) (by decide)
  | r _ _ _ => exact absurd (show (PyData.dict []).plain = true from p) (by decide)
end
section
variable {X : Cx} {T : Wd}
/-! ### == and != -/
def rEqP (K : PySem.W.Frag) : R2 := fun x y H Q => ∃ d e, Dp K H x d ∧ Dp K H y e ∧ d.plain = true ∧ e.plain = true ∧ min d.depth e.depth ≤ 60 ∧ Q (.bl (PyData.eqv d e)) H
def rNeP (K : PySem.W.Frag) : R2 := fun x y H Q => ∃ d e, Dp K H x d ∧ Dp K H y e ∧ d.plain = true ∧ e.plain = true ∧ min d.depth e.depth ≤ 60 ∧ Q (.bl (!PyData.eqv d e)) H
theorem op_eqP (hu : X.A.units + 64 < cLine) : OpR X (compareOp .Eq) (rEqP X.K) := by
  intro pins s σ H x y v u Q I rx ry h
  obtain ⟨d, e, hd, he, sd, se, hm, q⟩ := h
  obtain ⟨as, r1⟩ := Dp.reads I d x v hd rx
  obtain ⟨bs, r2⟩ := Dp.reads I e y u he ry
  exact SeqAt.eq_plain r1 r2 sd se (by omega) ⟨.bl _, H, I, rfl, q⟩
theorem op_neP (hu : X.A.units + 64 < cLine) : OpR X (compareOp .NotEq) (rNeP X.K) := by
  intro pins s σ H x y v u Q I rx ry h
  obtain ⟨d, e, hd, he, sd, se, hm, q⟩ := h
  obtain ⟨as, r1⟩ := Dp.reads I d x v hd rx
  obtain ⟨bs, r2⟩ := Dp.reads I e y u he ry
  exact SeqAt.ne_plain r1 r2 sd se (by omega) ⟨.bl _, H, I, rfl, q⟩
def gEq : G2 := fun x y Q => okD 40 x.all = true ∧ okD 40 y.all = true ∧ Q (.d (.bool (PyData.eqv x.all y.all)))
def gNe : G2 := fun x y Q => okD 40 x.all = true ∧ okD 40 y.all = true ∧ Q (.d (.bool (!PyData.eqv x.all y.all)))
theorem od_eq : OpD X.K T (rEqP X.K) gEq := fun Fr H0 ρ σ Hd H vx vy x y q Q s hx hy ⟨w1, w2, w⟩ k => by
  have p1 := okD_plain _ _ w1
  have p2 := okD_plain _ _ w2
  have d1 := okD_depth _ _ w1
  exact ⟨_, _, hx.dp s p1, hy.dp s p2, p1, p2, by omega, k _ (.d (.bool _)) Hd H s (Sub.refl _) (Dt.bl _) w⟩
theorem od_ne : OpD X.K T (rNeP X.K) gNe := fun Fr H0 ρ σ Hd H vx vy x y q Q s hx hy ⟨w1, w2, w⟩ k => by
  have p1 := okD_plain _ _ w1
  have p2 := okD_plain _ _ w2
  have d1 := okD_depth _ _ w1
  exact ⟨_, _, hx.dp s p1, hy.dp s p2, p1, p2, by omega, k _ (.d (.bool _)) Hd H s (Sub.refl _) (Dt.bl _) w⟩
/-! ### ints -/
def gI (C : Int → Int → Prop) (f : Int → Int → D) : G2 := fun x y Q => match x, y with
  | .d (.int i), .d (.int j) => C i j ∧ Q (.d (f i j))
  | _, _ => False
theorem od_I {C : Int → Int → Prop} {g : Int → Int → V} {f : Int → Int → D} (h : ∀ K Hd i j, Dt K Hd (g i j) (f i j)) : OpD X.K T (rI C g) (gI C f) := fun Fr H0 ρ σ Hd H vx vy x y q Q s hx hy w k => by
  unfold gI at w
  split at w
  · rename_i i j
    exact ⟨i, j, hx.int s rfl, hy.int s rfl, w.1, k _ (.d (f i j)) Hd H s (Sub.refl _) (h _ _ _ _) w.2⟩
  · exact w.elim
def gI0 (f : Int → Int → D) : G2 := fun x y Q => match x, y with
  | .d (.int i), .d (.int j) => Q (.d (f i j))
  | _, _ => False
theorem od_I0 {g : Int → Int → V} {f : Int → Int → D} (h : ∀ K Hd i j, Dt K Hd (g i j) (f i j)) : OpD X.K T (rI0 g) (gI0 f) := fun Fr H0 ρ σ Hd H vx vy x y q Q s hx hy w k => by
  unfold gI0 at w
  split at w
  · rename_i i j
    exact ⟨i, j, hx.int s rfl, hy.int s rfl, k _ (.d (f i j)) Hd H s (Sub.refl _) (h _ _ _ _) w⟩
  · exact w.elim
def gSub : G2 := gI0 fun i j => .int (i - j)
def gLt : G2 := gI0 fun i j => .bool (decide (i < j))
def gLe : G2 := gI0 fun i j => .bool (decide (i ≤ j))
def gGt : G2 := gI0 fun i j => .bool (decide (j < i))
def gGe : G2 := gI0 fun i j => .bool (decide (j ≤ i))
theorem od_sub : OpD X.K T (rI0 fun i j => .int (i - j)) gSub := od_I0 fun _ _ _ _ => .int _
theorem od_lt : OpD X.K T (rI0 fun i j => .bl (decide (i < j))) gLt := od_I0 fun _ _ _ _ => .bl _
theorem od_le : OpD X.K T (rI0 fun i j => .bl (decide (i ≤ j))) gLe := od_I0 fun _ _ _ _ => .bl _
theorem od_gt : OpD X.K T (rI0 fun i j => .bl (decide (j < i))) gGt := od_I0 fun _ _ _ _ => .bl _
theorem od_ge : OpD X.K T (rI0 fun i j => .bl (decide (j ≤ i))) gGe := od_I0 fun _ _ _ _ => .bl _
/-- a divisor that is not nought and not too great -/
def CDv (_ j : Int) : Prop := j ≠ 0 ∧ j.natAbs.log2 < 9000
theorem op_fdivD : OpR X (binaryOp .FloorDiv) (rI CDv fun i j => .int (i.fdiv j)) := opI fun i j _ _ _ _ _ hc q => PyProof.Rows.floordiv_int hc.1 q (.inl (PyProof.noPylong_of_log2 hc.2))
def gFdiv : G2 := gI CDv fun i j => .int (i.fdiv j)
theorem od_fdiv : OpD X.K T (rI CDv fun i j => .int (i.fdiv j)) gFdiv := od_I fun _ _ _ _ => .int _
def gMod : G2 := gI (fun _ j => j ≠ 0) fun i j => .int (i.fmod j)
theorem od_mod : OpD X.K T (rI (fun _ j => j ≠ 0) fun i j => .int (i.fmod j)) gMod := od_I fun _ _ _ _ => .int _
def gPow : G2 := gI CPow fun i j => .int (i ^ j.toNat)
theorem od_pow : OpD X.K T (rI CPow fun i j => .int (i ^ j.toNat)) gPow := od_I fun _ _ _ _ => .int _
/-! ### + -/
def rAdS : R2 := fun x y H Q => ∃ i j, x = .str i ∧ y = .str j ∧ i.length + j.length ≤ sizeLine ∧ Q (.str (i ++ j)) H
def rAd (K : PySem.W.Frag) : R2 := fun x y H Q => rI0 (fun i j => .int (i + j)) x y H Q ∨ rAdS x y H Q ∨ rCat x y H Q ∨ rCatA K x y H Q
theorem op_ad : OpR X (binaryOp .Add) (rAd X.K) := op_add.or (op_add_str.or (op_cat.or op_catA))
def gAdd : G2 := fun x y Q => match x.dat, y.dat with
  | some (.int i), some (.int j) => Q (.d (.int (i + j)))
  | some (.str i), some (.str j) => i.length + j.length ≤ sizeLine ∧ Q (.d (.str (i ++ j)))
  | some (.list a), some (.list b) => a.length + b.length ≤ sizeLine ∧ Q (.d (.list (a ++ b)))
  | some (.tuple a), some (.tuple b) => a.length + b.length ≤ sizeLine ∧ Q (.d (.tuple (a ++ b)))
  | _, _ => False
theorem DtA.nil_of {K : PySem.W.Frag} {H : Hp} {xs : List V} {ds : List D} (h : DtA K H xs ds) (e : xs = []) : ds = [] := by subst e; cases h; rfl
theorem od_add : OpD X.K T (rAd X.K) gAdd := fun Fr H0 ρ σ Hd H vx vy x y q Q s hx hy w k => by
  unfold gAdd at w
  split at w
  · rename_i i j ex ey
    exact .inl ⟨i, j, hx.int s ex, hy.int s ey, k _ (.d (.int (i + j))) Hd H s (Sub.refl _) (Dt.int _) w⟩
  · rename_i i j ex ey
    exact .inr (.inl ⟨i, j, hx.str s ex, hy.str s ey, w.1, k _ (.d (.str (i ++ j))) Hd H s (Sub.refl _) (Dt.str _) w.2⟩)
  · rename_i a b ex ey
    obtain ⟨p1, xs, rfl, h1, a1⟩ := hx.list s ex
    obtain ⟨p2, ys, rfl, h2, a2⟩ := hy.list s ey
    refine .inr (.inr (.inl ⟨p1, p2, xs, ys, rfl, rfl, h1, h2, by rw [a1.length, a2.length]; exact w.1, fun p hp => ?_⟩))
    exact k _ (.d (.list (a ++ b))) _ _ (s.lay (o := .lst (xs ++ ys)) hp) (Sub.new (s.keep.free hp)) (Dt.lst upd_same ((a1.append a2).mono (Sub.new (s.keep.free hp)))) w.2
  · rename_i a b ex ey
    obtain ⟨p1, xs, rfl, h1, a1⟩ := hx.tup s ex
    obtain ⟨p2, ys, rfl, h2, a2⟩ := hy.tup s ey
    have t1 : Dt X.K Hd (.ref p1) (.tuple a) := by
      cases x with
      | d z => cases ex; exact hx
      | o z => cases ex; obtain ⟨i, e1, e2⟩ := hx; obtain ⟨_, _, _, _, _, _, z⟩ := s.slot i _ e1; exact z.elim
      | s z => cases ex
      | n _ _ => cases ex
      | q _ _ _ => cases ex
      | r _ _ _ => cases ex
    have t2 : Dt X.K Hd (.ref p2) (.tuple b) := by
      cases y with
      | d z => cases ey; exact hy
      | o z => cases ey; obtain ⟨i, e1, e2⟩ := hy; obtain ⟨_, _, _, _, _, _, z⟩ := s.slot i _ e1; exact z.elim
      | s z => cases ey
      | n _ _ => cases ey
      | q _ _ _ => cases ey
      | r _ _ _ => cases ey
    refine .inr (.inr (.inr ⟨p1, p2, xs, ys, rfl, rfl, SqT.of h1, SqT.of h2, by rw [a1.length, a2.length]; exact w.1, fun e1 => ?_, fun e1 e2 => ?_, fun e1 e2 p hp => ?_⟩))
    · have z := a1.nil_of e1
      subst z
      rw [List.nil_append] at w
      exact k _ (.d (.tuple b)) Hd H s (Sub.refl _) t2 w.2
    · have z := a2.nil_of e2
      subst z
      rw [List.append_nil] at w
      exact k _ (.d (.tuple a)) Hd H s (Sub.refl _) t1 w.2
    · exact k _ (.d (.tuple (a ++ b))) _ _ (s.lay (o := .tup (xs ++ ys)) hp) (Sub.new (s.keep.free hp)) (Dt.tup upd_same ((a1.append a2).mono (Sub.new (s.keep.free hp)))) w.2
  · exact w.elim
/-! ### * -/
def CMl (i j : Int) : Prop := CMul i j ∨ CMulW i j
theorem op_mulB : OpR X (binaryOp .Mult) (rI CMl fun i j => .int (i * j)) := opI fun _ _ _ _ _ _ _ hc q => PyProof.Rows.mul_int q (hc.elim CMul.ok CMulW.ok)
def rMl (K : PySem.W.Frag) : R2 := fun x y H Q => rI CMl (fun i j => .int (i * j)) x y H Q ∨ rRep x y H Q ∨ rRepT K x y H Q
theorem op_ml : OpR X (binaryOp .Mult) (rMl X.K) := op_mulB.or (op_rep.or op_repT)
theorem DtA.rep {K : PySem.W.Frag} {H : Hp} {xs : List V} {ds : List D} (h : DtA K H xs ds) : ∀ n : Nat, DtA K H (List.replicate n xs).flatten (List.replicate n ds).flatten
  | 0 => by simpa using .nil
  | n + 1 => by
    rw [List.replicate_succ, List.replicate_succ, List.flatten_cons, List.flatten_cons]
    exact h.append (DtA.rep h n)
def gMul : G2 := fun x y Q => match x.dat, y.dat with
  | some (.int i), some (.int j) => CMl i j ∧ Q (.d (.int (i * j)))
  | some (.list a), some (.int j) => (-(2 ^ 63) ≤ j ∧ j < 2 ^ 63 ∧ a.length * j.toNat ≤ sizeLine) ∧ Q (.d (.list (List.replicate j.toNat a).flatten))
  | some (.tuple a), some (.int j) => (a ≠ [] ∧ 2 ≤ j ∧ j ≤ 1000 ∧ a.length ≤ 1000) ∧ Q (.d (.tuple (List.replicate j.toNat a).flatten))
  | _, _ => False
theorem od_mul : OpD X.K T (rMl X.K) gMul := fun Fr H0 ρ σ Hd H vx vy x y q Q s hx hy w k => by
  unfold gMul at w
  split at w
  · rename_i i j ex ey
    exact .inl ⟨i, j, hx.int s ex, hy.int s ey, w.1, k _ (.d (.int (i * j))) Hd H s (Sub.refl _) (Dt.int _) w.2⟩
  · rename_i a j ex ey
    obtain ⟨p1, xs, rfl, h1, a1⟩ := hx.list s ex
    refine .inr (.inl ⟨p1, j, xs, rfl, hy.int s ey, h1, w.1.1, w.1.2.1, by rw [a1.length]; exact w.1.2.2, fun p hp => ?_⟩)
    exact k _ (.d (.list _)) _ _ (s.lay (o := .lst _) hp) (Sub.new (s.keep.free hp)) (Dt.lst upd_same ((a1.rep j.toNat).mono (Sub.new (s.keep.free hp)))) w.2
  · rename_i a j ex ey
    obtain ⟨p1, xs, rfl, h1, a1⟩ := hx.tup s ex
    refine .inr (.inr ⟨p1, j, xs, rfl, hy.int s ey, SqT.of h1, fun z => w.1.1 (a1.nil_of z), w.1.2.1, w.1.2.2.1, by rw [a1.length]; exact w.1.2.2.2, fun p hp => ?_⟩)
    exact k _ (.d (.tuple _)) _ _ (s.lay (o := .tup _) hp) (Sub.new (s.keep.free hp)) (Dt.tup upd_same ((a1.rep j.toNat).mono (Sub.new (s.keep.free hp)))) w.2
  · exact w.elim
/-! ### items -/
theorem DtA.atI {K : PySem.W.Frag} {H : Hp} {xs : List V} {ds : List D} (h : DtA K H xs ds) {i : Int} {d : D} (e : L2.atI ds i = some d) : ∃ v, L2.atI xs i = some v ∧ Dt K H v d := by
  unfold L2.atI at e ⊢
  rw [h.length]
  cases q : ixN ds.length i with
  | none => rw [q] at e; cases e
  | some j =>
    rw [q] at e
    obtain ⟨v, h1, h2⟩ := h.get (show ds[j]? = some d from e)
    exact ⟨v, h1, h2⟩
theorem atI_map {α β : Type} (f : α → β) (xs : List α) (i : Int) : L2.atI (xs.map f) i = (L2.atI xs i).map f := by
  unfold L2.atI
  rw [List.length_map]
  cases ixN xs.length i with
  | none => rfl
  | some j => simp
def gIx : G2 := fun x y Q => match x, y with
  | .s ns, .d (.int i) => match L2.atI ns i with
    | some v => Q (.d (.int v))
    | none => False
  | x, .d (.int i) => match x.dat with
    | some (.list ds) => match L2.atI ds i with
      | some v => Q (.d v)
      | none => False
    | some (.tuple ds) => match L2.atI ds i with
      | some v => Q (.d v)
      | none => False
    | some (.str z) => z.length ≤ sizeLine ∧ match L2.atI z.cps.toList i with
      | some c => Q (.d (.str ⟨#[c]⟩))
      | none => False
    | _ => False
  | _, _ => False
theorem od_ix : OpD X.K T (rIx X.K) gIx := fun Fr H0 ρ σ Hd H vx vy x y q Q s hx hy w k => by
  unfold gIx at w
  split at w
  · rename_i ns i
    split at w
    · rename_i v ev
      obtain ⟨p, rfl, hp⟩ := hx
      refine .inl ⟨p, _, i, .int v, rfl, hy.int s rfl, s.keep.l hp, ?_, k _ (.d (.int v)) Hd H s (Sub.refl _) (Dt.int _) w⟩
      rw [atI_map, ev]; rfl
    · exact w.elim
  · rename_i x' i hns
    split at w
    · rename_i ds ex
      split at w
      · rename_i d ed
        obtain ⟨p1, xs, rfl, h1, a1⟩ := hx.list s ex
        obtain ⟨v, h2, h3⟩ := a1.atI ed
        exact .inl ⟨p1, xs, i, v, rfl, hy.int s rfl, SqL.of h1, h2, k _ (.d d) Hd H s (Sub.refl _) h3 w⟩
      · exact w.elim
    · rename_i ds ex
      split at w
      · rename_i d ed
        obtain ⟨p1, xs, rfl, h1, a1⟩ := hx.tup s ex
        obtain ⟨v, h2, h3⟩ := a1.atI ed
        exact .inr (.inl ⟨p1, xs, i, v, rfl, hy.int s rfl, SqT.of h1, h2, k _ (.d d) Hd H s (Sub.refl _) h3 w⟩)
      · exact w.elim
    · rename_i z ex
      obtain ⟨hz, w⟩ := w
      split at w
      · rename_i c ed
        exact .inr (.inr ⟨z, i, c, hx.str s ex, hy.int s rfl, hz, ed, k _ (.d (.str _)) Hd H s (Sub.refl _) (Dt.str _) w⟩)
      · exact w.elim
    · exact w.elim
  · exact w.elim
/-! ### is None, is True -/
def rIs : R2 := fun x y H Q => (y = .non ∧ Q (.bl (decide (x = .non))) H) ∨ rIsB x y H Q
def rIsNot : R2 := fun x y H Q => (y = .non ∧ Q (.bl (!decide (x = .non))) H) ∨ rNotB x y H Q
theorem op_is : OpR X (compareOp .Is) rIs := op_isN.or op_isBl
theorem op_isnot : OpR X (compareOp .IsNot) rIsNot := op_notN.or op_notBl
def isNone : Vl → Bool
  | .d .none => true
  | _ => false
def gIs : G2 := fun x y Q => match x, y with
  | .d (.bool a), .d (.bool b) => Q (.d (.bool (decide (a = b))))
  | x, .d .none => Q (.d (.bool (isNone x)))
  | _, _ => False
def gIsNot : G2 := fun x y Q => match x, y with
  | .d (.bool a), .d (.bool b) => Q (.d (.bool (!decide (a = b))))
  | x, .d .none => Q (.d (.bool (!isNone x)))
  | _, _ => False
theorem isNone_ok {K : PySem.W.Frag} {Fr H0 : Hp} {ρ : DSt} {σ : St} {Hd H : Hp} (s : Sat K T Fr H0 ρ σ Hd H) {v : V} {x : Vl} (h : VlOk K Hd ρ σ v x) : decide (v = .non) = isNone x := by
  cases x with
  | s ns => obtain ⟨p, rfl, _⟩ := h; rfl
  | o y =>
    obtain ⟨i, h1, h2⟩ := h
    obtain ⟨w, e1, p, e2, _⟩ := s.slot i _ h1
    rw [h2] at e1; cases e1; subst e2; rfl
  | n w y =>
    obtain ⟨i, h1, h2⟩ := h
    obtain ⟨w, e1, p, e2, _⟩ := s.slot i _ h1
    rw [h2] at e1; cases e1; subst e2; rfl
  | q _ _ y =>
    obtain ⟨i, h1, h2⟩ := h
    obtain ⟨w, e1, e2, _⟩ := s.slot i _ h1
    rw [h2] at e1; cases e1; subst e2; rfl
  | r _ _ _ =>
    obtain ⟨dx, rv, pv, av, e2, _⟩ := h
    subst e2; rfl
  | d y =>
    have h : Dt K Hd v y := h
    cases h <;> rfl
theorem od_is : OpD X.K T rIs gIs := fun Fr H0 ρ σ Hd H vx vy x y q Q s hx hy w k => by
  unfold gIs at w
  split at w
  · rename_i a b
    exact .inr ⟨a, b, hx.bl s rfl, hy.bl s rfl, k _ (.d (.bool _)) Hd H s (Sub.refl _) (Dt.bl _) w⟩
  · refine .inl ⟨hy.non s rfl, ?_⟩
    rw [isNone_ok s hx]
    exact k _ (.d (.bool _)) Hd H s (Sub.refl _) (Dt.bl _) w
  · exact w.elim
theorem od_isnot : OpD X.K T rIsNot gIsNot := fun Fr H0 ρ σ Hd H vx vy x y q Q s hx hy w k => by
  unfold gIsNot at w
  split at w
  · rename_i a b
    exact .inr ⟨a, b, hx.bl s rfl, hy.bl s rfl, k _ (.d (.bool _)) Hd H s (Sub.refl _) (Dt.bl _) w⟩
  · refine .inl ⟨hy.non s rfl, ?_⟩
    rw [isNone_ok s hx]
    exact k _ (.d (.bool _)) Hd H s (Sub.refl _) (Dt.bl _) w
  · exact w.elim
/-! ### len, abs, min, max, int, isinstance -/
def gLen : GN := fun xs Q => match xs with
  | [.s ns] => Q (.d (.int ns.length))
  | [x] => match x.dat with
    | some (.list ds) => Q (.d (.int ds.length))
    | some (.tuple ds) => Q (.d (.int ds.length))
    | some (.str z) => z.length ≤ sizeLine ∧ Q (.d (.int z.length))
    | _ => False
  | _ => False
theorem vls1 {K : PySem.W.Frag} {Hd : Hp} {ρ : DSt} {σ : St} {vs : List V} {x : Vl} (h : VlsOk K Hd ρ σ vs [x]) : ∃ v, vs = [v] ∧ VlOk K Hd ρ σ v x := by
  cases h with
  | cons a b => cases b; exact ⟨_, rfl, a⟩
theorem vls2 {K : PySem.W.Frag} {Hd : Hp} {ρ : DSt} {σ : St} {vs : List V} {x y : Vl} (h : VlsOk K Hd ρ σ vs [x, y]) : ∃ v w, vs = [v, w] ∧ VlOk K Hd ρ σ v x ∧ VlOk K Hd ρ σ w y := by
  cases h with
  | cons a b =>
    obtain ⟨w, rfl, h⟩ := vls1 b
    exact ⟨_, w, rfl, a, h⟩
theorem cd_len : CallD X.K T (fun xs H Q => ∃ x n, xs = [x] ∧ LenV X.K x H n ∧ Q (.int n) H) gLen := fun Fr H0 ρ σ Hd H vs xs q Q s hv w k => by
  unfold gLen at w
  split at w
  · rename_i ns
    obtain ⟨v, rfl, p, rfl, hp⟩ := vls1 hv
    exact ⟨_, ns.length, rfl, .inl ⟨_, s.keep.l hp, by simp⟩, k _ (.d (.int _)) Hd H s (Sub.refl _) (Dt.int _) w⟩
  · rename_i x hns
    obtain ⟨v, rfl, h⟩ := vls1 hv
    split at w
    · rename_i ds ex
      obtain ⟨p1, xs, rfl, h1, a1⟩ := h.list s ex
      exact ⟨_, ds.length, rfl, .inl ⟨_, SqL.of h1, a1.length.symm⟩, k _ (.d (.int _)) Hd H s (Sub.refl _) (Dt.int _) w⟩
    · rename_i ds ex
      obtain ⟨p1, xs, rfl, h1, a1⟩ := h.tup s ex
      exact ⟨_, ds.length, rfl, .inr ⟨_, SqT.of h1, a1.length.symm⟩, k _ (.d (.int _)) Hd H s (Sub.refl _) (Dt.int _) w⟩
    · rename_i z ex
      have e := h.str s ex
      subst e
      exact ⟨_, z.length, rfl, ⟨w.1, rfl⟩, k _ (.d (.int _)) Hd H s (Sub.refl _) (Dt.int _) w.2⟩
    · exact w.elim
  · exact w.elim
def gAbs : GN := fun xs Q => match xs with
  | [.d (.int i)] => Q (.d (.int (if i < 0 then -i else i)))
  | _ => False
theorem cd_abs : CallD X.K T (fun xs H Q => ∃ i, xs = [.int i] ∧ Q (.int (if i < 0 then -i else i)) H) gAbs := fun Fr H0 ρ σ Hd H vs xs q Q s hv w k => by
  unfold gAbs at w
  split at w
  · rename_i i
    obtain ⟨v, rfl, h⟩ := vls1 hv
    exact ⟨i, by rw [h.int s rfl], k _ (.d (.int _)) Hd H s (Sub.refl _) (Dt.int _) w⟩
  · exact w.elim
def gMax2 : GN := fun xs Q => match xs with
  | [.d (.int i), .d (.int j)] => Q (.d (.int (if j > i then j else i)))
  | _ => False
def gMin2 : GN := fun xs Q => match xs with
  | [.d (.int i), .d (.int j)] => Q (.d (.int (if j < i then j else i)))
  | _ => False
theorem cd_max2 : CallD X.K T (fun xs H Q => ∃ i j, xs = [.int i, .int j] ∧ Q (.int (if j > i then j else i)) H) gMax2 := fun Fr H0 ρ σ Hd H vs xs q Q s hv w k => by
  unfold gMax2 at w
  split at w
  · rename_i i j
    obtain ⟨v, u, rfl, h1, h2⟩ := vls2 hv
    exact ⟨i, j, by rw [h1.int s rfl, h2.int s rfl], k _ (.d (.int _)) Hd H s (Sub.refl _) (Dt.int _) w⟩
  · exact w.elim
theorem cd_min2 : CallD X.K T (fun xs H Q => ∃ i j, xs = [.int i, .int j] ∧ Q (.int (if j < i then j else i)) H) gMin2 := fun Fr H0 ρ σ Hd H vs xs q Q s hv w k => by
  unfold gMin2 at w
  split at w
  · rename_i i j
    obtain ⟨v, u, rfl, h1, h2⟩ := vls2 hv
    exact ⟨i, j, by rw [h1.int s rfl, h2.int s rfl], k _ (.d (.int _)) Hd H s (Sub.refl _) (Dt.int _) w⟩
  · exact w.elim
def gInt1 : GN := fun xs Q => match xs with
  | [.d (.int i)] => Q (.d (.int i))
  | [.d (.bool k)] => Q (.d (.int (if k then 1 else 0)))
  | _ => False
theorem cd_int1 : CallD X.K T (fun xs H Q => (∃ i, xs = [.int i] ∧ Q (.int i) H) ∨ ∃ k, xs = [.bl k] ∧ Q (.int (if k then 1 else 0)) H) gInt1 := fun Fr H0 ρ σ Hd H vs xs q Q s hv w k => by
  unfold gInt1 at w
  split at w
  · rename_i i
    obtain ⟨v, rfl, h⟩ := vls1 hv
    exact .inl ⟨i, by rw [h.int s rfl], k _ (.d (.int _)) Hd H s (Sub.refl _) (Dt.int _) w⟩
  · rename_i b
    obtain ⟨v, rfl, h⟩ := vls1 hv
    exact .inr ⟨b, by rw [h.bl s rfl], k _ (.d (.int _)) Hd H s (Sub.refl _) (Dt.int _) w⟩
  · exact w.elim
/-- the built-in type of a value -/
def tyD : D → String
  | .none => "NoneType"
  | .bool _ => "bool"
  | .int _ => "int"
  | .str _ => "str"
  | .list _ => "list"
  | .tuple _ => "tuple"
  | .dict _ => "dict"
theorem Dt.ty {K : PySem.W.Frag} {H : Hp} {v : V} {d : D} (h : Dt K H v d) : TyX K H v (.type (tyD d)) := by
  cases h with
  | non => exact .base .non
  | bl b => exact .base (.bl b)
  | int i => exact .base (.int i)
  | str x => exact .base (.str x)
  | lst h _ => exact .base (.lst h)
  | tup h _ => exact .base (.tup h)
  | dct h _ =>
    rcases h with h | ⟨o, h⟩
    · exact .base (.dK h)
    · exact .fDict h
def gIsi (Ty : String) (x : Option D) (Q : Vl → Prop) : Prop := match x with
  | some d => match kitB (tyD d) Ty with
    | some b => Q (.d (.bool b))
    | none => False
  | none => False
def dIsi (Ty : String) (Ta : DE) : DE := fun xc ρ Q => Ta xc ρ fun x => gIsi Ty x.dat Q
theorem de_isi {E : XK} {a : Expr} {Ta : DE} {ty : Str} {Ty : String} {p p2 pos : Pos} (hm : X.mg "isinstance" = none) (hm2 : X.mg ty = none) (ha : ED X T E a Ta) (hv : bootBuiltins ty = some (.type Ty) := by decide +kernel) (hg : Gl X "isinstance" := by rfl) (hg2 : Gl X ty := by rfl)
    (hn : ty ≠ "__name__" := by decide) (hdb : (ty == ("__debug__" : Str)) = false := by decide) (hs : starEach [a, .Name ty p2] X.env = (false, eval a X.env) :: starEach [.Name ty p2] X.env := by rfl) (hs2 : starEach [.Name ty p2] X.env = (false, eval (.Name ty p2) X.env) :: starEach [] X.env := by rfl)
    (hpl : (backTo pos (starEach [.Name ty p2] X.env)).any (·.1) = false := by rfl) :
    ED X T E (.Call (.Name "isinstance" p) [a, .Name ty p2] [] pos) (dIsi Ty Ta) := by
  refine pe_imp (pe_callB call_isi hg hm (by decide +kernel) (pa_cons ha (pa_cons (pe_bltn hg2 hm2 hv (v := .ty Ty) rfl hn hdb) pa_nil hs2) hs) (by decide) (by decide) hs hpl) fun σ H Q ⟨xc, Fr, H0, ρ, Hd, q, s, w, hx, k⟩ => ?_
  refine ⟨xc, Fr, H0, ρ, Hd, _, s, w, hx, fun v x Hd1 H1 s1 b1 ok1 w1 => ?_⟩
  unfold gIsi at w1
  split at w1
  · rename_i d ed
    split at w1
    · rename_i b eb
      exact ⟨v, .ty Ty, .type (tyD d), .type Ty, b, rfl, .ty Ty, (ok1.full s1 ed).ty, kit_ty eb, k _ (.d (.bool b)) Hd1 H1 s1 b1 (Dt.bl b) w1⟩
    · exact w1.elim
  · exact w1.elim
end
end DL

/-! Data: statements, loops, calls of defs. -/
namespace DL
open PySem L2 LamX
/-! ### slots are set -/
section
variable {K : PySem.W.Frag} {T : Wd} {Fr H0 : Hp} {ρ : DSt} {σ : St} {Hd H : Hp}
theorem Sat.set {i : Nat} {v : V} {d : D} (s : Sat K T Fr H0 ρ σ Hd H) (h : Dt K Hd v d) : Sat K T Fr H0 (ρ.set i (some (.d d))) (σ.set i (some v)) Hd H := by
  refine ⟨by rw [List.length_set, List.length_set]; exact s.len, s.base, s.keep, s.ntb, s.tabs, s.frame, fun j u e => ?_, fun j l x y w e1 e2 e3 e4 => ?_, s.sep.2.back (fun m C g st e => ⟨st, (set_in e (by intro z; cases z)).1⟩) fun m z p e e' => ⟨z, (set_in e (by intro z; cases z)).1, by rw [List.getElem?_set_ne (set_in e (by intro z; cases z)).2] at e'; exact e'⟩⟩
  · by_cases q : i = j
    · subst q
      by_cases hl : i < ρ.length
      · rw [List.getElem?_set_self hl] at e
        cases e
        exact ⟨v, by rw [List.getElem?_set_self (by rw [s.len]; exact hl)], h⟩
      · rw [List.getElem?_eq_none (by simpa using hl)] at e; cases e
    · rw [List.getElem?_set_ne q] at e
      obtain ⟨u', h1, h2⟩ := s.slot j u e
      exact ⟨u', by rw [List.getElem?_set_ne q]; exact h1, h2⟩
  · have n1 : i ≠ j := fun z => by
      subst z
      by_cases hl : i < ρ.length
      · rw [List.getElem?_set_self hl] at e1; cases e1
      · rw [List.getElem?_eq_none (by simpa using hl)] at e1; cases e1
    have n2 : i ≠ l := fun z => by
      subst z
      by_cases hl : i < ρ.length
      · rw [List.getElem?_set_self hl] at e2; cases e2
      · rw [List.getElem?_eq_none (by simpa using hl)] at e2; cases e2
    rw [List.getElem?_set_ne n1] at e1 e3
    rw [List.getElem?_set_ne n2] at e2 e4
    exact s.sep.1 j l x y w e1 e2 e3 e4
/-- a new object of one's own comes into a slot -/
theorem Sat.setOwn {i : Nat} {p : Addr} {o : HO} {d : D} (s : Sat K T Fr H0 ρ σ Hd H) (hp : H p = none) (h : OwnAt K Hd (upd H p o) p d) : Sat K T Fr H0 (ρ.set i (some (.o d))) (σ.set i (some (.ref p))) Hd (upd H p o) := by
  have hd := s.keep.free hp
  have hf : Fr p = none := by
    cases q : Fr p with
    | none => rfl
    | some o => have z := (s.frame p o q).2.1; rw [hp] at z; cases z
  have old : ∀ (j : Nat) (x : D) (w : V), ρ[j]? = some (some (.o x)) → σ[j]? = some (some w) → w ≠ .ref p := fun j x w e1 e2 z => by
    obtain ⟨u', h1, q, h2, h3, h4, h5⟩ := s.slot j _ e1
    rw [e2] at h1; cases h1
    subst z
    cases h2
    cases x with
    | list ds => obtain ⟨xs, h6, _⟩ := h5; rw [hp] at h6; cases h6
    | dict ds => obtain ⟨xs, h6, _⟩ := h5; rw [hp] at h6; cases h6
    | none => exact h5.elim
    | bool _ => exact h5.elim
    | int _ => exact h5.elim
    | str _ => exact h5.elim
    | tuple _ => exact h5.elim
  have qn : SepQ (ρ.set i (some (.o d))) (σ.set i (some (.ref p))) := fun a c C g st z p' e1 e2 e3 => by
    have k1 := (set_in e1 (by intro z; cases z)).1
    obtain ⟨_, _, _, qa⟩ := s.slot a _ k1
    by_cases q : i = c
    · subst q
      have hl : i < σ.length := by
        rcases Nat.lt_or_ge i σ.length with z | z
        · exact z
        · rw [List.getElem?_eq_none (by simpa using z)] at e3; cases e3
      rw [List.getElem?_set_self hl] at e3
      cases e3
      exact ⟨fun z => by (obtain ⟨o, ho, _⟩ := qa.at (.inr (.inl z)); rw [hp] at ho; cases ho), fun z => by (obtain ⟨o, ho, _⟩ := qa.at (.inr (.inr z)); rw [hp] at ho; cases ho)⟩
    · rw [List.getElem?_set_ne q] at e2 e3
      exact s.sep.2 a c C g st z p' k1 e2 e3
  refine ⟨by rw [List.length_set, List.length_set]; exact s.len, s.base, s.keep.right hd, s.ntb, s.tabs.ext (Sub.new hp), fun b u e => ?_, fun j u e => ?_, fun j l x y w e1 e2 e3 e4 => ?_, qn⟩
  · obtain ⟨h0, h1, h2⟩ := s.frame b u e
    exact ⟨h0, by rw [upd_ne (ne_of_none h1 hp)]; exact h1, h2⟩
  · by_cases q : i = j
    · subst q
      by_cases hl : i < ρ.length
      · rw [List.getElem?_set_self hl] at e
        cases e
        exact ⟨.ref p, by rw [List.getElem?_set_self (by rw [s.len]; exact hl)], p, rfl, hd, hf, h⟩
      · rw [List.getElem?_eq_none (by simpa using hl)] at e; cases e
    · rw [List.getElem?_set_ne q] at e
      obtain ⟨u', h1, h2⟩ := s.slot j u e
      refine ⟨u', by rw [List.getElem?_set_ne q]; exact h1, h2.ext (Sub.refl _) fun b u hb hu _ hf => ?_⟩
      have n : b ≠ p := ne_of_none hu hp
      exact ⟨hb, by rw [upd_ne n]; exact hu, hf⟩
  · by_cases q1 : i = j
    · by_cases q2 : i = l
      · exact q1.symm.trans q2
      · subst q1
        rw [List.getElem?_set_ne q2] at e2 e4
        by_cases hl : i < ρ.length
        · rw [List.getElem?_set_self (by rw [s.len]; exact hl)] at e3
          cases e3
          exact (old l y _ e2 e4 rfl).elim
        · rw [List.getElem?_eq_none (by simpa using hl)] at e1; cases e1
    · rw [List.getElem?_set_ne q1] at e1 e3
      by_cases q2 : i = l
      · subst q2
        by_cases hl : i < ρ.length
        · rw [List.getElem?_set_self (by rw [s.len]; exact hl)] at e4
          cases e4
          exact (old j x _ e1 e3 rfl).elim
        · rw [List.getElem?_eq_none (by simpa using hl)] at e2; cases e2
      · rw [List.getElem?_set_ne q2] at e2 e4
        exact s.sep.1 j l x y w e1 e2 e3 e4
/-- one's own object is changed -/
theorem Sat.mutOwn {i : Nat} {p : Addr} {o : HO} {d d' : D} (s : Sat K T Fr H0 ρ σ Hd H) (hi : ρ[i]? = some (some (.o d))) (hp : σ[i]? = some (some (.ref p))) (h : OwnAt K Hd (upd H p o) p d') : Sat K T Fr H0 (ρ.set i (some (.o d'))) σ Hd (upd H p o) := by
  obtain ⟨u', h1, q, h2, h3, h4, h5⟩ := s.slot i _ hi
  rw [hp] at h1; cases h1; cases h2
  have hl : i < ρ.length := (List.getElem?_eq_some_iff.mp hi).1
  have hst : ∀ ps, H p ≠ some (.tbl ps) := fun ps z => by
    cases d with
    | list ds => obtain ⟨xs, h6, _⟩ := h5; rw [z] at h6; cases h6
    | dict ds => obtain ⟨xs, h6, _⟩ := h5; rw [z] at h6; cases h6
    | none => exact h5.elim
    | bool _ => exact h5.elim
    | int _ => exact h5.elim
    | str _ => exact h5.elim
    | tuple _ => exact h5.elim
  have hsc : ∀ c y, H p ≠ some (CodeO c y) := fun c y z => by
    cases d with
    | list ds => obtain ⟨xs, h6, _⟩ := h5; rw [z] at h6; cases h6
    | dict ds => obtain ⟨xs, h6, _⟩ := h5; rw [z] at h6; cases h6
    | none => exact h5.elim
    | bool _ => exact h5.elim
    | int _ => exact h5.elim
    | str _ => exact h5.elim
    | tuple _ => exact h5.elim
  have nq : ∀ (j : Nat) C g st, ρ[j]? = some (some (.q C g st)) → ∀ b, g.has b → b ≠ p := fun j C g st e b hb z => by
    obtain ⟨_, _, _, qa⟩ := s.slot j _ e
    obtain ⟨n1, n2⟩ := s.sep.2 j i C g st d p e hi hp
    rcases hb with y | y | y
    · obtain ⟨o2, a1, _, a3, _, _, a6⟩ := qa.at (b := g.x) (.inl rfl)
      rw [← y, z] at a1
      have a6 : ∀ xs, o2 ≠ .lst xs := a6.resolve_left fun h => h rfl
      cases d with
      | list ds => obtain ⟨xs, h6, _⟩ := h5; rw [a1] at h6; cases h6; exact a6 _ rfl
      | dict ds => obtain ⟨xs, h6, _⟩ := h5; rw [a1] at h6; cases h6; exact a3 _ rfl
      | none => exact h5.elim
      | bool _ => exact h5.elim
      | int _ => exact h5.elim
      | str _ => exact h5.elim
      | tuple _ => exact h5.elim
    · exact n1 (z.symm.trans y)
    · exact n2 (z.symm.trans y)
  refine ⟨by rw [List.length_set]; exact s.len, s.base, s.keep.right h3, s.ntb, fun t ht => ?_, fun b u e => ?_, fun j u e => ?_, fun j l x y w e1 e2 e3 e4 => ?_, s.sep.2.back (fun m C g st e => ⟨st, (set_in e (by intro z; cases z)).1⟩) fun m z p' e e' => ?_⟩
  · obtain ⟨ps, a1, a2, a3⟩ := s.tabs t ht
    refine ⟨ps, ?_, a2, fun pos cv hc => ?_⟩
    · rw [upd_ne (fun z => hst ps (by rw [← z]; exact a1))]; exact a1
    · obtain ⟨c, b1, b2⟩ := a3 pos cv hc
      exact ⟨c, b1, by rw [upd_ne (fun z => hsc c _ (by rw [← z]; exact b2))]; exact b2⟩
  · obtain ⟨g0, g1, g2⟩ := s.frame b u e
    have n : b ≠ p := fun z => by subst z; rw [h4] at e; cases e
    exact ⟨g0, by rw [upd_ne n]; exact g1, g2⟩
  · by_cases q : i = j
    · subst q
      rw [List.getElem?_set_self hl] at e
      cases e
      exact ⟨.ref p, hp, p, rfl, h3, h4, h⟩
    · rw [List.getElem?_set_ne q] at e
      obtain ⟨u', k1, k2⟩ := s.slot j u e
      refine ⟨u', k1, ?_⟩
      cases u with
      | d y => exact k2
      | s y => exact k2
      | r _ _ _ => exact k2
      | q C g y => exact ⟨k2.1, k2.2.to (Sub.refl _) fun b o hb ho => ⟨(k2.2.out b hb).1, by rw [upd_ne (nq j C g y e b hb)]; exact ho, (k2.2.out b hb).2⟩⟩
      | n w y =>
        obtain ⟨b, g1, g2, g3, xs, g4, g5⟩ := k2
        have n : b ≠ p := fun z => by
          rw [z] at g4
          cases d with
          | list ds => obtain ⟨_, h6, _⟩ := h5; rw [g4] at h6; unfold NdO at h6; cases h6
          | dict ds => obtain ⟨_, h6, _⟩ := h5; rw [g4] at h6; unfold NdO at h6; cases h6
          | none => exact h5.elim
          | bool _ => exact h5.elim
          | int _ => exact h5.elim
          | str _ => exact h5.elim
          | tuple _ => exact h5.elim
        exact ⟨b, g1, g2, g3, xs, by rw [upd_ne n]; exact g4, g5⟩
      | o y =>
        obtain ⟨b, g1, g2, g3, g4⟩ := k2
        have n : b ≠ p := fun z => q (s.sep.1 i j d y (.ref p) hi e hp (by rw [k1, g1, z]))
        refine ⟨b, g1, g2, g3, ?_⟩
        cases y with
        | list ds => obtain ⟨xs, h6, h7⟩ := g4; exact ⟨xs, by rw [upd_ne n]; exact h6, h7⟩
        | dict ds => obtain ⟨xs, h6, h7⟩ := g4; exact ⟨xs, by rw [upd_ne n]; exact h6, h7⟩
        | none => exact g4.elim
        | bool _ => exact g4.elim
        | int _ => exact g4.elim
        | str _ => exact g4.elim
        | tuple _ => exact g4.elim
  · have back : ∀ (m : Nat) (z : D), (ρ.set i (some (.o d')))[m]? = some (some (.o z)) → ∃ z', ρ[m]? = some (some (.o z')) := fun m z e => by
      by_cases q : i = m
      · subst q; exact ⟨d, hi⟩
      · rw [List.getElem?_set_ne q] at e; exact ⟨z, e⟩
    obtain ⟨x', e1'⟩ := back j x e1
    obtain ⟨y', e2'⟩ := back l y e2
    exact s.sep.1 j l x' y' w e1' e2' e3 e4
  · by_cases q : i = m
    · subst q; exact ⟨d, hi, e'⟩
    · rw [List.getElem?_set_ne q] at e; exact ⟨z, e, e'⟩
/-- one's own becomes data -/
theorem Sat.freeze {i : Nat} {es : List D} {d : D} (s : Sat K T Fr H0 ρ σ Hd H) (hi : ρ[i]? = some (some (.o d))) (hl0 : d = .list es) : ∃ Hd', Sub Hd Hd' ∧ Sat K T Fr H0 (ρ.set i (some (.d d))) σ Hd' H ∧ ∀ v, σ[i]? = some (some v) → Dt K Hd' v d := by
  obtain ⟨u', h1, p, rfl, h3, h4, h5⟩ := s.slot i _ hi
  have hl : i < ρ.length := (List.getElem?_eq_some_iff.mp hi).1
  obtain ⟨o, ho⟩ : ∃ o, H p = some o := by
    cases d with
    | list ds => obtain ⟨xs, h6, _⟩ := h5; exact ⟨_, h6⟩
    | dict ds => obtain ⟨xs, h6, _⟩ := h5; exact ⟨_, h6⟩
    | none => exact h5.elim
    | bool _ => exact h5.elim
    | int _ => exact h5.elim
    | str _ => exact h5.elim
    | tuple _ => exact h5.elim
  have hok : ∀ kvs, o ≠ .dK kvs := fun kvs z => by
    subst z
    subst hl0
    obtain ⟨xs, h6, _⟩ := h5
    rw [ho] at h6; cases h6
  have sb : Sub Hd (upd Hd p o) := Sub.new h3
  have hot : ∀ ps, o ≠ .tbl ps := fun ps z => by
    subst z
    cases d with
    | list ds => obtain ⟨xs, h6, _⟩ := h5; rw [ho] at h6; cases h6
    | dict ds => obtain ⟨xs, h6, _⟩ := h5; rw [ho] at h6; cases h6
    | none => exact h5.elim
    | bool _ => exact h5.elim
    | int _ => exact h5.elim
    | str _ => exact h5.elim
    | tuple _ => exact h5.elim
  have kp : Sub (upd Hd p o) H := fun b u e => by
    by_cases q : b = p
    · subst q; rw [upd_same] at e; cases e; exact ho
    · rw [upd_ne q] at e; exact s.keep b u e
  have dt : Dt K (upd Hd p o) (.ref p) d := by
    cases d with
    | list ds => obtain ⟨xs, h6, h7⟩ := h5; rw [ho] at h6; cases h6; exact .lst upd_same (h7.mono sb)
    | dict ds => obtain ⟨xs, h6, h7⟩ := h5; rw [ho] at h6; cases h6; exact .dct (.inl upd_same) (h7.mono sb)
    | none => exact h5.elim
    | bool _ => exact h5.elim
    | int _ => exact h5.elim
    | str _ => exact h5.elim
    | tuple _ => exact h5.elim
  refine ⟨upd Hd p o, sb, ⟨by rw [List.length_set]; exact s.len, s.base.trans sb, kp, s.ntb.upd hot hok, s.tabs, fun b u e => ?_, fun j u e => ?_, fun j l x y w e1 e2 e3 e4 => ?_, s.sep.2.back (fun m C g st e => ⟨st, (set_in e (by intro z; cases z)).1⟩) fun m z p' e e' => ⟨z, (set_in e (by intro z; cases z)).1, e'⟩⟩, fun v hv => by rw [h1] at hv; cases hv; exact dt⟩
  · obtain ⟨g0, g1, g2⟩ := s.frame b u e
    have n : b ≠ p := fun z => by subst z; rw [h4] at e; cases e
    exact ⟨g0, g1, by rw [upd_ne n]; exact g2⟩
  · by_cases q : i = j
    · subst q
      rw [List.getElem?_set_self hl] at e
      cases e
      exact ⟨.ref p, h1, dt⟩
    · rw [List.getElem?_set_ne q] at e
      obtain ⟨u', k1, k2⟩ := s.slot j u e
      refine ⟨u', k1, ?_⟩
      cases u with
      | d y => exact Dt.mono sb k2
      | s y => obtain ⟨b, g1, g2⟩ := k2; exact ⟨b, g1, sb.l g2⟩
      | r _ _ _ => exact RAt.mono sb k2
      | q C g y =>
        refine ⟨k2.1, k2.2.to sb fun b u hb hu => ⟨?_, hu, (k2.2.out b hb).2⟩⟩
        obtain ⟨n1, n2⟩ := s.sep.2 j i C g y d p e hi h1
        have n : b ≠ p := fun z => by
          rcases hb with y | y | y
          · obtain ⟨o2, a1, _, a3, _, _, a6⟩ := k2.2.at (b := g.x) (.inl rfl)
            rw [← y, z, ho] at a1
            have a6 : ∀ xs, o2 ≠ .lst xs := a6.resolve_left fun h => h rfl
            cases a1
            subst hl0
            obtain ⟨xs, h6, _⟩ := h5
            rw [ho] at h6; cases h6; exact a6 _ rfl
          · exact n1 (z.symm.trans y)
          · exact n2 (z.symm.trans y)
        rw [upd_ne n]
        exact (k2.2.out b hb).1
      | n w y =>
        obtain ⟨b, g1, g2, g3, xs, g4, g5⟩ := k2
        have n : b ≠ p := fun z => by
          rw [z] at g4
          cases d with
          | list ds => obtain ⟨_, h6, _⟩ := h5; rw [g4] at h6; unfold NdO at h6; cases h6
          | dict ds => obtain ⟨_, h6, _⟩ := h5; rw [g4] at h6; unfold NdO at h6; cases h6
          | none => exact h5.elim
          | bool _ => exact h5.elim
          | int _ => exact h5.elim
          | str _ => exact h5.elim
          | tuple _ => exact h5.elim
        exact ⟨b, g1, by rw [upd_ne n]; exact g2, g3, xs, g4, g5.mono sb⟩
      | o y =>
        obtain ⟨b, g1, g2, g3, g4⟩ := k2
        have n : b ≠ p := fun z => q (s.sep.1 i j d y (.ref p) hi e h1 (by rw [k1, g1, z]))
        refine ⟨b, g1, by rw [upd_ne n]; exact g2, g3, ?_⟩
        cases y with
        | list ds => obtain ⟨xs, h6, h7⟩ := g4; exact ⟨xs, h6, h7.mono sb⟩
        | dict ds => obtain ⟨xs, h6, h7⟩ := g4; exact ⟨xs, h6, h7.mono sb⟩
        | none => exact g4.elim
        | bool _ => exact g4.elim
        | int _ => exact g4.elim
        | str _ => exact g4.elim
        | tuple _ => exact g4.elim
  · have back : ∀ (m : Nat) (z : D), (ρ.set i (some (.d d)))[m]? = some (some (.o z)) → ρ[m]? = some (some (.o z)) := fun m z e => by
      by_cases q : i = m
      · subst q; rw [List.getElem?_set_self hl] at e; cases e
      · rw [List.getElem?_set_ne q] at e; exact e
    exact s.sep.1 j l x y w (back j x e1) (back l y e2) e3 e4
theorem Sat.rebase {H1 : Hp} (s : Sat K T Fr H0 ρ σ Hd H) (h : Sub H1 Hd) : Sat K T Fr H1 ρ σ Hd H := ⟨s.len, h, s.keep, s.ntb, s.tabs, s.frame, s.slot, s.sep⟩
end
/-! ### targets -/
inductive Tgt where
  | nm (i : Nat)
  | tp (is : List Nat)
def bindL : List Nat → List D → DSt → Option DSt
  | [], [], ρ => some ρ
  | i :: is, d :: ds, ρ => bindL is ds (ρ.set i (some (.d d)))
  | _, _, _ => none
def bindT : Tgt → D → DSt → Option DSt
  | .nm i, d, ρ => some (ρ.set i (some (.d d)))
  | .tp is, .tuple ds, ρ => bindL is ds ρ
  | .tp _, _, _ => none
def gsOf : List Nat → TGs
  | [] => gNil
  | i :: is => gCons (gName i) (gsOf is)
def gOf (K : PySem.W.Frag) : Tgt → TG
  | .nm i => gName i
  | .tp is => L2.gTup K is.length (gsOf is)
def Tgt.slots : Tgt → List Nat
  | .nm i => [i]
  | .tp is => is
/-- the two differ at these slots at most -/
def But {α : Type} (is : List Nat) (σ σ' : List α) : Prop := σ'.length = σ.length ∧ ∀ j : Nat, j ∉ is → σ'[j]? = σ[j]?
theorem bindL_but : ∀ {is : List Nat} {ds : List D} {ρ ρ' : DSt}, bindL is ds ρ = some ρ' → But is ρ ρ'
  | [], [], ρ, ρ', e => by cases e; exact ⟨rfl, fun _ _ => rfl⟩
  | [], _ :: _, _, _, e => by cases e
  | _ :: _, [], _, _, e => by cases e
  | i :: is, d :: ds, ρ, ρ', e => by
    have b := bindL_but (is := is) (ds := ds) e
    refine ⟨by rw [b.1, List.length_set], fun j hj => ?_⟩
    rw [b.2 j (fun z => hj (List.mem_cons_of_mem _ z)), List.getElem?_set_ne (fun z => hj (by rw [z]; exact List.mem_cons_self))]
theorem bindT_but {t : Tgt} {d : D} {ρ ρ' : DSt} (e : bindT t d ρ = some ρ') : But t.slots ρ ρ' := by
  cases t with
  | nm i => cases e; exact ⟨by rw [List.length_set], fun j hj => by rw [List.getElem?_set_ne (fun z => hj (by rw [z]; exact List.mem_singleton.mpr rfl))]⟩
  | tp is =>
    cases d with
    | tuple ds => exact bindL_but (show bindL is ds ρ = some ρ' from e)
    | none => cases e
    | bool _ => cases e
    | int _ => cases e
    | str _ => cases e
    | list _ => cases e
    | dict _ => cases e
section
variable {K : PySem.W.Frag} {T : Wd} {Fr H0 : Hp} {Hd H : Hp}
theorem bindL_ok : ∀ {is : List Nat} {ds : List D} {vs : List V} {ρ ρ' : DSt} {σ : St} {Q : St → Hp → Prop}, Sat K T Fr H0 ρ σ Hd H → DtA K Hd vs ds → bindL is ds ρ = some ρ' → (∀ σ', Sat K T Fr H0 ρ' σ' Hd H → ρ'.length = ρ.length → But is σ σ' → Q σ' H) → gsOf is vs σ H Q
  | [], _, _, ρ, ρ', σ, Q, s, .nil, e, k => by
    cases e
    exact ⟨rfl, k σ s rfl ⟨rfl, fun _ _ => rfl⟩⟩
  | [], _, _, ρ, ρ', σ, Q, s, .cons h t, e, k => by cases e
  | i :: is, _, _, ρ, ρ', σ, Q, s, .nil, e, k => by cases e
  | i :: is, _, _, ρ, ρ', σ, Q, s, .cons (v := v) (vs := vs) h t, e, k => by
    refine ⟨v, vs, rfl, ?_⟩
    refine bindL_ok (s.set (i := i) h) t e fun σ' s' hl b => k σ' s' (by rw [hl, List.length_set]) ⟨by rw [b.1, List.length_set], fun j hj => ?_⟩
    rw [b.2 j (fun z => hj (List.mem_cons_of_mem _ z)), List.getElem?_set_ne (fun z => hj (by rw [z]; exact List.mem_cons_self))]
theorem bind_ok {t : Tgt} {d : D} {v : V} {ρ ρ' : DSt} {σ : St} {Q : St → Hp → Prop} (s : Sat K T Fr H0 ρ σ Hd H) (h : Dt K Hd v d) (e : bindT t d ρ = some ρ') (k : ∀ σ', Sat K T Fr H0 ρ' σ' Hd H → ρ'.length = ρ.length → But t.slots σ σ' → Q σ' H) : gOf K t v σ H Q := by
  cases t with
  | nm i =>
    cases e
    exact k _ (s.set h) (by rw [List.length_set]) ⟨by rw [List.length_set], fun j hj => by rw [List.getElem?_set_ne (fun z => hj (by rw [z]; exact List.mem_singleton.mpr rfl))]⟩
  | tp is =>
    cases h with
    | tup h1 h2 =>
      rename_i a xs ds
      have e' : bindL is ds ρ = some ρ' := e
      refine ⟨a, xs, rfl, SqT.of (s.keep _ _ h1), ?_, bindL_ok s h2 e' k⟩
      have : ∀ {is : List Nat} {ds : List D} {ρ ρ' : DSt}, bindL is ds ρ = some ρ' → ds.length = is.length := by
        intro is
        induction is with
        | nil => intro ds ρ ρ' e; cases ds with
          | nil => rfl
          | cons => cases e
        | cons i is ih => intro ds ρ ρ' e; cases ds with
          | nil => cases e
          | cons d ds => simp only [List.length_cons]; rw [ih (show bindL is ds (ρ.set i (some (.d d))) = some ρ' from e)]
      rw [h2.length, this e']
    | non => cases e
    | bl => cases e
    | int => cases e
    | str => cases e
    | lst => cases e
    | dct => cases e
end
section
variable {X : Cx} {T : Wd} {E : XK} {a b c e tg iter : Expr} {es rest : List Expr} {pos p p2 : Pos} {Ta Tb Tc Te : DE} {ta tb tc : DT} {Al : DA} {st : Stmt} {sts sts2 : List Stmt} {t u : DS}
/-! ### blocks -/
def dNext : DS := fun e ρ => e.nx ρ
def dSeq (t u : DS) : DS := fun e ρ => t { e with nx := u e } ρ
theorem bd_nil : BD X T E [] dNext := pss_imp pss_nil fun De σ H ⟨e, Fr, H0, ρ, Hd, s, ok, w⟩ => ok.nx ρ σ Hd H s rfl w
theorem bd_cons (h1 : SD X T E st t) (h2 : BD X T E sts u) : BD X T E (st :: sts) (dSeq t u) :=
  pss_imp (pss_cons h1 h2) fun De σ H ⟨e, Fr, H0, ρ, Hd, s, ok, w⟩ => ⟨{ e with nx := u e }, Fr, H0, ρ, Hd, s, ⟨fun ρ' σ' Hd' H' s' hl w' => ⟨e, Fr, H0, ρ', Hd', s', hl ▸ ok, w'⟩, ok.bk, ok.ct, ok.rt, ok.xc⟩, w⟩
theorem bd_one (h1 : SD X T E st t) : BD X T E [st] t := pss_one h1
/-! ### plain statements -/
theorem EndsOk.xok {K : PySem.W.Frag} {Fr H0 : Hp} {ρ : DSt} {σ : St} {e : DEnds} {De : Ends} {n : Nat} (ok : EndsOk K T E Fr H0 n e De) : XOk K T E Fr H0 ρ σ e.xc := fun C Hd H s h => ok.xc C Hd H s.out h
theorem sd_pass : SD X T E (.Pass pos) dNext := ps_imp ps_pass fun De σ H ⟨e, Fr, H0, ρ, Hd, s, ok, w⟩ => ok.nx ρ σ Hd H s rfl w
def dDrop (Te : DE) : DS := fun e ρ => Te e.xc ρ fun _ => e.nx ρ
theorem sd_expr (he : ED X T E e Te) (hs : swapsWith e none pos.line X.env = pure false := by rfl) : SD X T E (.Expr e pos) (dDrop Te) :=
  ps_imp (ps_expr he hs) fun De σ H ⟨e, Fr, H0, ρ, Hd, s, ok, w⟩ => ⟨e.xc, Fr, H0, ρ, Hd, _, s, w, ok.xok, fun v x Hd1 H1 s1 b1 ok1 w1 => ok.nx ρ σ Hd1 H1 s1 rfl w1⟩
def gRet (v : Vl) (e : DEnds) : Prop := match v with
  | .d x => e.rt x
  | .o (.list ds) => e.rt (.list ds)
  | _ => False
def dRet (Te : DE) : DS := fun e ρ => Te e.xc ρ fun v => gRet v e
theorem sd_ret (he : ED X T E e Te) : SD X T E (.Return (some e) pos) (dRet Te) := by
  refine ps_imp (ps_ret he) fun De σ H ⟨e, Fr, H0, ρ, Hd, s, ok, w⟩ => ⟨e.xc, Fr, H0, ρ, Hd, _, s, w, ok.xok, fun v x Hd1 H1 s1 b1 ok1 w1 => ?_⟩
  cases x with
  | d y => exact ok.rt y v Hd1 H1 s1.out ok1 w1
  | o y =>
    obtain ⟨i, h1, h2⟩ := ok1
    unfold gRet at w1
    split at w1
    · rename_i z; cases z
    · rename_i ds z
      cases z
      obtain ⟨Hd2, b2, s2, h3⟩ := s1.freeze h1 rfl
      exact ok.rt (.list ds) v Hd2 H1 s2.out (h3 v h2) w1
    · exact w1.elim
  | s y => exact (show False from w1).elim
  | n _ _ => exact (show False from w1).elim
  | q _ _ _ => exact (show False from w1).elim
  | r _ _ _ => exact (show False from w1).elim
def gSet (i : Nat) (v : Vl) (ρ : DSt) (Q : DSt → Prop) : Prop := match v with
  | .d x => Q (ρ.set i (some (.d x)))
  | _ => False
def dSet (i : Nat) (Te : DE) : DS := fun e ρ => Te e.xc ρ fun v => gSet i v ρ e.nx
theorem ls_set {i : Nat} {K : PySem.W.Frag} {De : Ends} {σ : St} {H : Hp} (h : LS K T E (dSet i Te) De σ H) : tAsg (LE K T E Te) (gName i) De σ H := by
  obtain ⟨e, Fr, H0, ρ, Hd, s, ok, w⟩ := h
  refine ⟨e.xc, Fr, H0, ρ, Hd, _, s, w, ok.xok, fun v x Hd1 H1 s1 b1 ok1 w1 => ?_⟩
  cases x with
  | d y => exact ok.nx _ _ Hd1 H1 (s1.set ok1) (by rw [List.length_set]) w1
  | o y => exact (show False from w1).elim
  | s y => exact (show False from w1).elim
  | n _ _ => exact (show False from w1).elim
  | q _ _ _ => exact (show False from w1).elim
  | r _ _ _ => exact (show False from w1).elim
theorem sd_set {x : Str} (i : Nat) (he : ED X T E e Te) (hN : X.N.Nodup) (hi : X.N[i]? = some x := by rfl) (hx : Loc X.env.scope x := by first | exact Or.inl rfl | exact Or.inr rfl) (hs : swapsWith e (some (.Name x p)) pos.line X.env = pure false := by rfl) (hf : X.fn x = true ∨ X.env.scope.names.lookup x = some .local := by first | exact .inl rfl | exact .inr rfl) :
    SD X T E (.Assign [.Name x p] e pos) (dSet i Te) :=
  ps_imp (ps_set hN hi hx he hs hf) fun _ _ _ h => ls_set h
def gAsg (t : Tgt) (v : Vl) (ρ : DSt) (Q : DSt → Prop) : Prop := match v with
  | .d x => match bindT t x ρ with
    | some ρ' => Q ρ'
    | none => False
  | _ => False
def dAsg (t : Tgt) (Te : DE) : DS := fun e ρ => Te e.xc ρ fun v => gAsg t v ρ e.nx
theorem sd_asg {t : Tgt} (he : ED X T E e Te) (hg : PG X tg (gOf X.K t)) (hs : swapsWithSole [tg] e pos.line X.env = pure false := by rfl) (hw : swappedStores [tg] e X.env = pure none := by rfl)
    (h1 : (assignEach [tg] X.env).map (·.2) = [assign tg X.env] := by rfl) : SD X T E (.Assign [tg] e pos) (dAsg t Te) := by
  refine ps_imp (ps_asg he hg hs hw h1) fun De σ H ⟨e, Fr, H0, ρ, Hd, s, ok, w⟩ => ⟨e.xc, Fr, H0, ρ, Hd, _, s, w, ok.xok, fun v x Hd1 H1 s1 b1 ok1 w1 => ?_⟩
  cases x with
  | d y =>
    simp only [gAsg] at w1
    split at w1
    · rename_i ρ' e1
      exact bind_ok s1 ok1 e1 fun σ' s' hl _ => ok.nx ρ' σ' Hd1 H1 s' hl w1
    · exact w1.elim
  | o y => exact (show False from w1).elim
  | s y => exact (show False from w1).elim
  | n _ _ => exact (show False from w1).elim
  | q _ _ _ => exact (show False from w1).elim
  | r _ _ _ => exact (show False from w1).elim
def gPar (i j : Nat) (vs : List Vl) (ρ : DSt) (Q : DSt → Prop) : Prop := match vs with
  | [.d x, .d y] => Q ((ρ.set i (some (.d x))).set j (some (.d y)))
  | _ => False
def dPar (i j : Nat) (Al : DA) : DS := fun e ρ => Al e.xc ρ fun vs => gPar i j vs ρ e.nx
theorem sd_par {x y : Str} {px py pt pt2 : Pos} {kt k2} (i j : Nat) (ha : AD X T E [a, b] Al) (hN : X.N.Nodup) (hw : swappedStores [.Tuple [.Name x px, .Name y py] kt pt] (.Tuple [a, b] k2 pt2) X.env = pure (some [x, y]) := by rfl) (hc : X.calm = true := by rfl) (hi : X.N[i]? = some x := by rfl) (hj : X.N[j]? = some y := by rfl) (hij : i ≠ j := by decide)
    (hx : X.env.scope.names.lookup x = some .local := by rfl) (hy : X.env.scope.names.lookup y = some .local := by rfl)
    (hs : swapsWithSole [.Tuple [.Name x px, .Name y py] kt pt] (.Tuple [a, b] k2 pt2) pos.line X.env = pure false := by rfl) :
    SD X T E (.Assign [.Tuple [.Name x px, .Name y py] kt pt] (.Tuple [a, b] k2 pt2) pos) (dPar i j Al) := by
  refine ps_imp (ps_par hc hN hi hj hij hx hy ha hw hs) fun De σ H ⟨e, Fr, H0, ρ, Hd, s, ok, w⟩ => ⟨e.xc, Fr, H0, ρ, Hd, _, s, w, ok.xok, fun vs xs Hd1 H1 s1 b1 ok1 w1 => ?_⟩
  unfold gPar at w1
  split at w1
  · rename_i u v
    obtain ⟨v1, v2, rfl, h1, h2⟩ := vls2 ok1
    exact ⟨v1, v2, rfl, ok.nx _ _ Hd1 H1 ((s1.set h1).set h2) (by rw [List.length_set, List.length_set]) w1⟩
  · exact w1.elim
def dIf (tc : DT) (t u : DS) : DS := fun e ρ => tc e.xc ρ fun k => bc k (t e ρ) (u e ρ)
theorem sd_if (hc : TD X T E c tc) (ha : BD X T E sts t) (hb : BD X T E sts2 u) : SD X T E (.If c sts sts2 pos) (dIf tc t u) := by
  refine ps_imp (ps_if hc ha hb) fun De σ H ⟨e, Fr, H0, ρ, Hd, s, ok, w⟩ => ⟨e.xc, Fr, H0, ρ, Hd, _, s, w, ok.xok, fun k Hd1 H1 s1 b1 w1 => ?_⟩
  cases k with
  | true => exact iteT ⟨e, Fr, H0, ρ, Hd1, s1, ok, w1⟩
  | false => exact iteF ⟨e, Fr, H0, ρ, Hd1, s1, ok, w1⟩
/-- raise C('..') -/
def dRaise (C : Str) : DS := fun e _ => e.xc C
theorem sd_raise {C : Str} {k : St → Hp → XK → Prop} (hk : ∀ σ H Q, Q (.ref (T.ca C)) none H → k σ H Q) (tk : L2N.Takes X (fun cls d _ H => E cls d H)) (he : L2N.PMk X e k) (hc : X.calm = true := by rfl) : SD X T E (.Raise (some e) none pos) (dRaise C) :=
  ps_imp (L2N.ps_raise hc tk he) fun De σ H ⟨e, Fr, H0, ρ, Hd, s, ok, w⟩ => hk _ _ _ (ok.xc C Hd H s.out w)
/-! ### while -/
def whileN (tc : DT) (tb : DS) (e : DEnds) : Nat → DSt → Prop
  | 0, _ => False
  | n + 1, ρ => tc e.xc ρ fun k => bc k (tb { e with nx := whileN tc tb e n, ct := whileN tc tb e n, bk := e.nx } ρ) (e.nx ρ)
def dWhile (tc : DT) (tb : DS) : DS := fun e ρ => ∃ n, whileN tc tb e n ρ
theorem sd_while (hp : PassesOwn (model X.prog X.w) X.A X.env X.xe) (hc : TD X T E c tc) (hb : BD X T E sts t) : SD X T E (.While c sts [] pos) (dWhile tc t) := by
  refine ps_imp (ps_while hp hc hb) fun De σ H ⟨e, Fr, H0, ρ, Hd, s, ok, n, w⟩ => ?_
  refine ⟨fun m σ' H' => ∃ ρ' Hd', Sat X.K T Fr H0 ρ' σ' Hd' H' ∧ ρ'.length = ρ.length ∧ whileN tc t e m ρ', ⟨n, ρ, Hd, s, rfl, w⟩, fun m σ' H' ⟨ρ', Hd', s', hl, w'⟩ => ?_⟩
  cases m with
  | zero => exact w'.elim
  | succ m =>
    refine ⟨e.xc, Fr, H0, ρ', Hd', _, s', w', ok.xok, fun k Hd1 H1 s1 b1 w1 => ?_⟩
    cases k with
    | true =>
      refine iteT ⟨fun σ2 H2 => ∃ ρ2 Hd2, Sat X.K T Fr H0 ρ2 σ2 Hd2 H2 ∧ ρ2.length = ρ.length ∧ whileN tc t e m ρ2, fun σ2 H2 q => ⟨m, Nat.lt_succ_self _, q⟩, ?_⟩
      refine ⟨{ e with nx := whileN tc t e m, ct := whileN tc t e m, bk := e.nx }, Fr, H0, ρ', Hd1, s1, ⟨fun ρ2 σ2 Hd2 H2 s2 l2 w2 => ⟨ρ2, Hd2, s2, l2.trans hl, w2⟩, fun ρ2 σ2 Hd2 H2 s2 l2 w2 => ok.nx ρ2 σ2 Hd2 H2 s2 (l2.trans hl) w2, fun ρ2 σ2 Hd2 H2 s2 l2 w2 => ⟨ρ2, Hd2, s2, l2.trans hl, w2⟩, ok.rt, ok.xc⟩, w1⟩
    | false => exact iteF (ok.nx ρ' σ' Hd1 H1 s1 hl w1)
/-! ### what is walked -/
abbrev DI := DX → DSt → (List D → Prop) → Prop
def IterOk (K : PySem.W.Frag) (T : Wd) (J : It) (Hb : Hp) (ds : List D) : Prop := ∀ (Fr H0 : Hp) (ρ : DSt) (σ : St) (Hd H : Hp) (i : Nat), Sat K T Fr H0 ρ σ Hd H → Sub Hb Hd →
  (∀ d, ds[i]? = some d → J.go i H ∧ ∀ x H', J.yld i H x H' → ∃ Hd', Sat K T Fr H0 ρ σ Hd' H' ∧ Sub Hd Hd' ∧ Dt K Hd' x d) ∧ (ds.length = i → J.stop i H)
def LI (K : PySem.W.Frag) (T : Wd) (E : XK) (t : DI) : TI := fun σ H R => ∃ (xc : DX) (Fr H0 : Hp) (ρ : DSt) (Hd : Hp) (q : List D → Prop), Sat K T Fr H0 ρ σ Hd H ∧ t xc ρ q ∧ XOk K T E Fr H0 ρ σ xc ∧
  ∀ J ds Hd' H', Sat K T Fr H0 ρ σ Hd' H' → Sub Hd Hd' → IterOk K T J Hd' ds → q ds → R J H'
def ID (X : Cx) (T : Wd) (E : XK) (tg e : Expr) (t : DI) : Prop := PI X tg e (LI X.K T E t)
theorem pi_imp {t t' : TI} (h : PI X tg e t) (k : ∀ σ H R, t' σ H R → t σ H R) : PI X tg e t' := ⟨fun pins s σ H R I w => h.run pins s σ H R I (k σ H R w)⟩
def gBnd (o : Option DSt) (k : DSt → Prop) : Prop := match o with
  | some ρ => k ρ
  | none => False
def forL (t : Tgt) (tb : DS) (e : DEnds) : List D → DSt → Prop
  | [], ρ => e.nx ρ
  | d :: r, ρ => gBnd (bindT t d ρ) fun ρ' => tb { e with nx := forL t tb e r, ct := forL t tb e r, bk := e.nx } ρ'
def dFor (ti : DI) (t : Tgt) (tb : DS) : DS := fun e ρ => ti e.xc ρ fun ds => forL t tb e ds ρ
theorem sd_for {ti : DI} {tt : Tgt} {tb : DS} (hp : PassesOwn (model X.prog X.w) X.A X.env X.xe) (hi : ID X T E tg iter ti) (hg : PG X tg (gOf X.K tt)) (hb : BD X T E sts tb) (hc : X.calm = true := by rfl) (hs : ∀ x, foldedSetIterable iter X.env x = pure x := by intro _; rfl) : SD X T E (.For tg iter sts [] pos) (dFor ti tt tb) := by
  refine ps_imp (ps_for hp hc hi hg hb hs) fun De σ H ⟨e, Fr, H0, ρ, Hd, s, ok, w⟩ => ⟨e.xc, Fr, H0, ρ, Hd, _, s, w, ok.xok, fun J ds Hd1 H1 s1 b1 it w1 => ?_⟩
  refine ⟨fun i m σ' H' => m = ds.length - i ∧ i ≤ ds.length ∧ ∃ ρ' Hd', Sat X.K T Fr H0 ρ' σ' Hd' H' ∧ Sub Hd1 Hd' ∧ ρ'.length = ρ.length ∧ forL tt tb e (ds.drop i) ρ', ⟨ds.length, rfl, Nat.zero_le _, ρ, Hd1, s1, Sub.refl _, rfl, w1⟩, ?_⟩
  rintro i m σ' H' ⟨rfl, hil, ρ', Hd', s', b', hl, w'⟩
  obtain ⟨j1, j2⟩ := it Fr H0 ρ' σ' Hd' H' i s' b'
  by_cases hlt : i < ds.length
  · refine .inr ?_
    obtain ⟨d, hd⟩ : ∃ d, ds[i]? = some d := ⟨ds[i], by simp [hlt]⟩
    obtain ⟨g1, g2⟩ := j1 d hd
    refine ⟨g1, fun σ2 H2 => ∃ ρ2 Hd2, Sat X.K T Fr H0 ρ2 σ2 Hd2 H2 ∧ Sub Hd1 Hd2 ∧ ρ2.length = ρ.length ∧ forL tt tb e (ds.drop (i + 1)) ρ2, fun σ2 H2 q => ⟨ds.length - (i + 1), by omega, rfl, hlt, q⟩, fun x H2 y => ?_⟩
    obtain ⟨Hd2, s2, b2, dt2⟩ := g2 x H2 y
    have ed : ds.drop i = d :: ds.drop (i + 1) := by
      rw [List.drop_eq_getElem_cons hlt]
      congr 1
      rw [List.getElem?_eq_getElem hlt] at hd
      exact Option.some.inj hd
    rw [ed] at w'
    simp only [forL, gBnd] at w'
    split at w'
    · rename_i ρ3 e3
      have bb : Sub Hd1 Hd2 := b'.trans b2
      refine bind_ok (s2.rebase bb) dt2 e3 fun σ3 s3 l3 _ => ?_
      have e0 := s'.base.trans b2
      have up : ∀ {ρ4 : DSt} {σ4 : St} {Hd4 H4 : Hp}, Sat X.K T Fr Hd1 ρ4 σ4 Hd4 H4 → Sat X.K T Fr H0 ρ4 σ4 Hd4 H4 := fun s4 => s4.rebase (s1.base.trans s4.base)
      have upO : ∀ {Hd4 H4 : Hp}, Out T Fr Hd1 Hd4 H4 → Out T Fr H0 Hd4 H4 := fun o => ⟨s1.base.trans o.base, o.keep, o.ntb, o.tabs, o.frame⟩
      exact ⟨{ e with nx := forL tt tb e (ds.drop (i + 1)), ct := forL tt tb e (ds.drop (i + 1)), bk := e.nx }, Fr, Hd1, ρ3, Hd2, s3, ⟨fun ρ4 σ4 Hd4 H4 s4 l4 w4 => ⟨ρ4, Hd4, up s4, s4.base, l4.trans (l3.trans hl), w4⟩, fun ρ4 σ4 Hd4 H4 s4 l4 w4 => ok.nx ρ4 σ4 Hd4 H4 (up s4) (l4.trans (l3.trans hl)) w4,
        fun ρ4 σ4 Hd4 H4 s4 l4 w4 => ⟨ρ4, Hd4, up s4, s4.base, l4.trans (l3.trans hl), w4⟩, fun d v Hd4 H4 o => ok.rt d v Hd4 H4 (upO o), fun C Hd4 H4 o => ok.xc C Hd4 H4 (upO o)⟩, w'⟩
    · exact w'.elim
  · have e1 : ds.length = i := by omega
    refine .inl ⟨j2 e1, ?_⟩
    rw [← e1, List.drop_length] at w'
    exact ok.nx ρ' σ' Hd' H' s' hl w'
/-! ### lists, tuples, ranges walked -/
def gSeq (v : Vl) (q : List D → Prop) : Prop := match v with
  | .d (.list ds) => q ds
  | _ => False
def gSeqT (v : Vl) (q : List D → Prop) : Prop := match v with
  | .d (.tuple ds) => q ds
  | _ => False
def dWalk (Te : DE) : DI := fun xc ρ q => Te xc ρ fun v => gSeq v q
def dWalkT (Te : DE) : DI := fun xc ρ q => Te xc ρ fun v => gSeqT v q
theorem DtA.getS {K : PySem.W.Frag} {H : Hp} {vs : List V} {ds : List D} {i : Nat} {v : V} {d : D} (h : DtA K H vs ds) (e1 : vs[i]? = some v) (e2 : ds[i]? = some d) : Dt K H v d := by
  obtain ⟨d', h1, h2⟩ := h.getV e1
  rw [e2] at h1; cases h1; exact h2
theorem id_list (he : ED X T E e Te) : ID X T E tg e (dWalk Te) := by
  refine pi_imp (pi_list he) fun σ H R ⟨xc, Fr, H0, ρ, Hd, q, s, w, hx, k⟩ => ⟨xc, Fr, H0, ρ, Hd, _, s, w, hx, fun v x Hd1 H1 s1 b1 ok1 w1 => ?_⟩
  unfold gSeq at w1
  split at w1
  · rename_i ds
    have ok1 : Dt X.K Hd1 v (.list ds) := ok1
    cases ok1 with
    | lst h1 h2 =>
      rename_i a xs
      refine ⟨a, rfl, ⟨xs, SqL.of (s1.keep _ _ h1)⟩, k _ ds Hd1 H1 s1 b1 (fun Fr H0 ρ σ Hd2 H2 i s2 b2 => ⟨fun d hd => ?_, fun hl => ?_⟩) w1⟩
      · obtain ⟨v, e1, e2⟩ := h2.get hd
        have hq : SqL X.K H2 a xs := SqL.of (s2.keep _ _ (b2 _ _ h1))
        exact ⟨⟨xs, v, hq, e1⟩, fun x H' ⟨y1, y2⟩ => ⟨Hd2, y1 ▸ s2, Sub.refl _, (h2.mono b2).getS (y2 xs hq) hd⟩⟩
      · exact ⟨xs, SqL.of (s2.keep _ _ (b2 _ _ h1)), by rw [h2.length]; omega⟩
  · exact w1.elim
theorem id_tup (he : ED X T E e Te) : ID X T E tg e (dWalkT Te) := by
  refine pi_imp (pi_tup he) fun σ H R ⟨xc, Fr, H0, ρ, Hd, q, s, w, hx, k⟩ => ⟨xc, Fr, H0, ρ, Hd, _, s, w, hx, fun v x Hd1 H1 s1 b1 ok1 w1 => ?_⟩
  unfold gSeqT at w1
  split at w1
  · rename_i ds
    have ok1 : Dt X.K Hd1 v (.tuple ds) := ok1
    cases ok1 with
    | tup h1 h2 =>
      rename_i a xs
      refine ⟨a, rfl, ⟨xs, SqT.of (s1.keep _ _ h1)⟩, k _ ds Hd1 H1 s1 b1 (fun Fr H0 ρ σ Hd2 H2 i s2 b2 => ⟨fun d hd => ?_, fun hl => ?_⟩) w1⟩
      · obtain ⟨v, e1, e2⟩ := h2.get hd
        have hq : SqT X.K H2 a xs := SqT.of (s2.keep _ _ (b2 _ _ h1))
        exact ⟨⟨xs, v, hq, e1⟩, fun x H' ⟨y1, y2⟩ => ⟨Hd2, y1 ▸ s2, Sub.refl _, (h2.mono b2).getS (y2 xs hq) hd⟩⟩
      · exact ⟨xs, SqT.of (s2.keep _ _ (b2 _ _ h1)), by rw [h2.length]; omega⟩
  · exact w1.elim
def rangeD (lo : Int) (n : Nat) : List D := (List.range n).map fun i => .int (lo + (i : Nat))
theorem rangeD_ok {K : PySem.W.Frag} {Hb : Hp} {lo : Int} {n : Nat} : IterOk K T (Itr lo n) Hb (rangeD lo n) := fun Fr H0 ρ σ Hd H i s b => by
  refine ⟨fun d hd => ?_, fun hl => ?_⟩
  · unfold rangeD at hd
    rw [List.getElem?_map] at hd
    cases q : (List.range n)[i]? with
    | none => rw [q] at hd; cases hd
    | some j =>
      rw [q] at hd
      have hj := List.getElem?_eq_some_iff.mp q
      obtain ⟨h1, h2⟩ := hj
      rw [List.getElem_range] at h2
      subst h2
      cases hd
      rw [List.length_range] at h1
      exact ⟨h1, fun x H' ⟨y1, y2⟩ => ⟨Hd, y1 ▸ s, Sub.refl _, y2 ▸ Dt.int _⟩⟩
  · have : (rangeD lo n).length = n := by unfold rangeD; simp
    rw [this] at hl
    exact Nat.le_of_eq hl
def gRng1 (vs : List Vl) (q : List D → Prop) : Prop := match vs with
  | [.d (.int j)] => (-(2 ^ 62) ≤ j ∧ j < 2 ^ 62) ∧ q (rangeD 0 j.toNat)
  | _ => False
def gRng2 (vs : List Vl) (q : List D → Prop) : Prop := match vs with
  | [.d (.int i), .d (.int j)] => (-(2 ^ 62) ≤ i ∧ i < 2 ^ 62 ∧ -(2 ^ 62) ≤ j ∧ j < 2 ^ 62) ∧ q (rangeD i (j - i).toNat)
  | _ => False
def dRng1 (Al : DA) : DI := fun xc ρ q => Al xc ρ fun vs => gRng1 vs q
def dRng2 (Al : DA) : DI := fun xc ρ q => Al xc ρ fun vs => gRng2 vs q
theorem id_range1 (hm : X.mg "range" = none) (ha : AD X T E [a] Al) (hg : Gl X "range" := by rfl) (hs : starEach [a] X.env = [(false, eval a X.env)] := by rfl) : ID X T E tg (.Call (.Name "range" p) [a] [] pos) (dRng1 Al) := by
  refine pi_imp (pi_range1 hg hm ha hs) fun σ H R ⟨xc, Fr, H0, ρ, Hd, q, s, w, hx, k⟩ => ⟨xc, Fr, H0, ρ, Hd, _, s, w, hx, fun vs xs Hd1 H1 s1 b1 ok1 w1 => ?_⟩
  unfold gRng1 at w1
  split at w1
  · rename_i j
    obtain ⟨v, rfl, h⟩ := vls1 ok1
    exact ⟨j, by rw [h.int s1 rfl], w1.1.1, w1.1.2, k _ _ Hd1 H1 s1 b1 rangeD_ok w1.2⟩
  · exact w1.elim
theorem id_range2 (hm : X.mg "range" = none) (ha : AD X T E [a, b] Al) (hg : Gl X "range" := by rfl) (hs : starEach [a, b] X.env = [(false, eval a X.env), (false, eval b X.env)] := by rfl) (hs2 : starEach [b] X.env = [(false, eval b X.env)] := by rfl) : ID X T E tg (.Call (.Name "range" p) [a, b] [] pos) (dRng2 Al) := by
  refine pi_imp (pi_range2 hg hm ha hs hs2) fun σ H R ⟨xc, Fr, H0, ρ, Hd, q, s, w, hx, k⟩ => ⟨xc, Fr, H0, ρ, Hd, _, s, w, hx, fun vs xs Hd1 H1 s1 b1 ok1 w1 => ?_⟩
  unfold gRng2 at w1
  split at w1
  · rename_i i j
    obtain ⟨v, u, rfl, h1, h2⟩ := vls2 ok1
    exact ⟨i, j, by rw [h1.int s1 rfl, h2.int s1 rfl], w1.1, k _ _ Hd1 H1 s1 b1 rangeD_ok w1.2⟩
  · exact w1.elim
end
end DL

/-! Data: a def by its contract; comprehensions; lists of one's own. -/
namespace DL
open PySem L2 LamX
open PyProof.Rows (envOfC)
/-! ### contracts -/
abbrev Ct := List Vl → (D → Prop) → DX → Prop
def ArgOk (K : PySem.W.Frag) (Hd : Hp) (v : V) : Vl → Prop
  | .d x => Dt K Hd v x
  | .s ns => ∃ p, v = .ref p ∧ SqL K Hd p (ns.map V.int)
  | .n _ _ => False
  | .q _ _ _ => False
  | .r C x rows => RAt K Hd v C x rows
  | .o _ => False
inductive ArgsOk (K : PySem.W.Frag) (Hd : Hp) : List V → List Vl → Prop
  | nil : ArgsOk K Hd [] []
  | cons {v : V} {vs : List V} {x : Vl} {xs : List Vl} : ArgOk K Hd v x → ArgsOk K Hd vs xs → ArgsOk K Hd (v :: vs) (x :: xs)
theorem ArgsOk.length {K : PySem.W.Frag} {Hd : Hp} : ∀ {vs : List V} {xs : List Vl}, ArgsOk K Hd vs xs → vs.length = xs.length
  | _, _, .nil => rfl
  | _, _, .cons _ t => by simp [ArgsOk.length t]
theorem ArgsOk.get {K : PySem.W.Frag} {Hd : Hp} : ∀ {vs : List V} {xs : List Vl} {i : Nat} {x : Vl}, ArgsOk K Hd vs xs → xs[i]? = some x → ∃ v, vs[i]? = some v ∧ ArgOk K Hd v x
  | _, _, _, _, .nil, e => by simp at e
  | _, _, 0, _, .cons h _, e => by simp at e; subst e; exact ⟨_, rfl, h⟩
  | _, _, i + 1, _, .cons _ t, e => by
    obtain ⟨v, h1, h2⟩ := ArgsOk.get (i := i) t (by simpa using e)
    exact ⟨v, by simpa using h1, h2⟩
structure Grow (T : Wd) (Hd H Hd' H' : Hp) : Prop where
  dat : Sub Hd Hd'
  keep : Sub Hd' H'
  ntb : NoT Hd'
  tabs : Tabs T.tb H'
  prv : ∀ b o, H b = some o → Hd b = none → (∀ ps, o ≠ .tbl ps) → H' b = some o ∧ Hd' b = none
def spD (K : PySem.W.Frag) (T : Wd) (n : Nat) (F : Ct) : Sp := fun vs H Q E => ∃ (Hd : Hp) (xs : List Vl) (q : D → Prop) (xc : DX), Sub Hd H ∧ NoT Hd ∧ Tabs T.tb H ∧ ArgsOk K Hd vs xs ∧ xs.length = n ∧ F xs q xc ∧
  (∀ d v Hd' H', Grow T Hd H Hd' H' → Dt K Hd' v d → q d → Q v H') ∧ ∀ C Hd' H', Grow T Hd H Hd' H' → xc C → E (.ref (T.ca C)) none H'
def noOwn : List Vl → Bool
  | [] => true
  | .o _ :: _ => false
  | .n _ _ :: _ => false
  | .q _ _ _ :: _ => false
  | _ :: r => noOwn r
section
variable {K : PySem.W.Frag} {T : Wd} {Fr H0 : Hp} {ρ : DSt} {σ : St} {Hd H : Hp}
theorem Sat.grow {Hd' H' : Hp} (s : Sat K T Fr H0 ρ σ Hd H) (g : Grow T Hd H Hd' H') : Sat K T Fr H0 ρ σ Hd' H' := by
  refine ⟨s.len, s.base.trans g.dat, g.keep, g.ntb, g.tabs, fun b o e => ?_, fun i u e => ?_, s.sep⟩
  · obtain ⟨h0, h1, h2⟩ := s.frame b o e
    obtain ⟨k1, k2⟩ := g.prv b o h1 h2 h0
    exact ⟨h0, k1, k2⟩
  · obtain ⟨v, h1, h2⟩ := s.slot i u e
    exact ⟨v, h1, h2.ext g.dat fun b o hb ho hn hf => by
      obtain ⟨k1, k2⟩ := g.prv b o ho hb hn
      exact ⟨k2, k1, hf⟩⟩
theorem noOwn_ok : ∀ {vs : List V} {xs : List Vl}, VlsOk K Hd ρ σ vs xs → noOwn xs = true → ArgsOk K Hd vs xs
  | _, _, .nil, _ => .nil
  | _, .d x :: r, .cons h t, e => .cons h (noOwn_ok t e)
  | _, .s x :: r, .cons h t, e => .cons h (noOwn_ok t e)
  | _, .o x :: r, .cons h t, e => by cases e
  | _, .n _ _ :: r, .cons h t, e => by cases e
  | _, .q _ _ _ :: r, .cons h t, e => by cases e
  | _, .r _ _ _ :: r, .cons h t, e => .cons h (noOwn_ok t e)
end
section
variable {X : Cx} {T : Wd} {E : XK} {a b c e tg iter : Expr} {es rest : List Expr} {pos p p2 : Pos} {Ta Tb Tc Te : DE} {ta tb tc : DT} {Al : DA} {st : Stmt} {sts sts2 : List Stmt} {t u : DS}
def dCall (F : Ct) (Al : DA) : DE := fun xc ρ Q => Al xc ρ fun xs => noOwn xs = true ∧ F xs (fun d => Q (.d d)) xc
theorem le_call {K : PySem.W.Frag} {n : Nat} {F : Ct} (hn : ∀ xs q xc, F xs q xc → xs.length = n) {σ : St} {H : Hp} {Q : VK} (h : LE K T E (dCall F Al) σ H Q) : tCall (spD K T n F) [] E (LA K T E Al) σ H Q := by
  obtain ⟨xc, Fr, H0, ρ, Hd, q, s, w, hx, k⟩ := h
  refine ⟨xc, Fr, H0, ρ, Hd, _, s, w, hx, fun vs xs Hd1 H1 s1 b1 ok1 w1 => ?_⟩
  refine ⟨Hd1, xs, fun d => q (.d d), xc, s1.keep, s1.ntb, s1.tabs, by rw [List.append_nil]; exact noOwn_ok ok1 w1.1, hn _ _ _ w1.2, w1.2, fun d v Hd2 H2 g dt qd => k v (.d d) Hd2 H2 (s1.grow g) (b1.trans g.dat) dt qd, fun C Hd2 H2 g xC => hx C Hd2 H2 (s1.grow g) xC⟩
theorem de_call {x : Str} {k n : Nat} {f : Addr} {fd : FuncData} {ps : List Str} {F : Ct} (G : FnOk X.prog X.w X.K X.mg X.base (L2N.CX X.prog X.w) k f fd ps (spD X.K T n F)) (hn : ∀ xs q xc, F xs q xc → xs.length = n) (hr : Room k X.A) (hm : X.mg x = some (.ref f)) (hk : PySem.W.keepIn X.K (.ref f) = true) (hb : Binds X.K fd ps []) (hx : Passes (L2N.CX X.prog X.w) X E)
    (ha : AD X T E (e :: es) Al) (hg : Gl X x := by rfl) (hdb : (x == ("__debug__" : Str)) = false := by decide) (he : starEach (e :: es) X.env = (false, eval e X.env) :: starEach es X.env := by rfl) (hpl : (backTo pos (starEach es X.env)).any (·.1) = false := by rfl) :
    ED X T E (.Call (.Name x p) (e :: es) [] pos) (dCall F Al) :=
  pe_imp (pe_call G hr hg hm hk hb .nil hx ha hdb he hpl) fun _ _ _ h => le_call hn h
theorem de_call0 {x : Str} {k n : Nat} {f : Addr} {fd : FuncData} {ps : List Str} {F : Ct} (G : FnOk X.prog X.w X.K X.mg X.base (L2N.CX X.prog X.w) k f fd ps (spD X.K T n F)) (hn : ∀ xs q xc, F xs q xc → xs.length = n) (hr : Room k X.A) (hm : X.mg x = some (.ref f)) (hk : PySem.W.keepIn X.K (.ref f) = true) (hb : Binds X.K fd ps []) (hx : Passes (L2N.CX X.prog X.w) X E)
    (hg : Gl X x := by rfl) (hdb : (x == ("__debug__" : Str)) = false := by decide) : ED X T E (.Call (.Name x p) [] [] pos) (dCall F dNil) :=
  pe_imp (pe_call0 G hr hg hm hk hb .nil hx hdb) fun σ H Q ⟨xc, Fr, H0, ρ, Hd, q, s, w, hx, k⟩ =>
    ⟨Hd, [], fun d => q (.d d), xc, s.keep, s.ntb, s.tabs, .nil, hn _ _ _ w.2, w.2, fun d v Hd2 H2 g dt qd => k v (.d d) Hd2 H2 (s.grow g) g.dat dt qd, fun C Hd2 H2 g xC => hx C Hd2 H2 (s.grow g) xC⟩
end
/-! ### a def by its body -/
def dstart (N : List Str) (xs : List Vl) : DSt := xs.map some ++ List.replicate (N.length - xs.length) none
section
variable {P : Program} {w : World} {K : PySem.W.Frag} {mg : Str → Option Value} {base : Heap} {T : Wd}
def prvOf (Hd H : Hp) : Hp := fun b => match Hd b, H b with
  | none, some (.tbl _) => none
  | none, some o => some o
  | _, _ => none
theorem prvOf_some {Hd H : Hp} {b : Addr} {o : HO} (e : prvOf Hd H b = some o) : (∀ ps, o ≠ .tbl ps) ∧ H b = some o ∧ Hd b = none := by
  unfold prvOf at e
  split at e
  · cases e
  · rename_i o' h1 h2 h3
    cases e
    exact ⟨fun ps z => by subst z; exact h1 ps rfl, h3, h2⟩
  · cases e
theorem prvOf_of {Hd H : Hp} {b : Addr} {o : HO} (h1 : H b = some o) (h2 : Hd b = none) (h3 : ∀ ps, o ≠ .tbl ps) : prvOf Hd H b = some o := by
  unfold prvOf
  rw [h1, h2]
  cases o with
  | tbl ps => exact (h3 ps rfl).elim
  | _ => rfl
theorem sat_start {N : List Str} {vs : List V} {xs : List Vl} {Hd H : Hp} (hN : xs.length ≤ N.length) (sb : Sub Hd H) (nt : NoT Hd) (tb : Tabs T.tb H) (ar : ArgsOk K Hd vs xs) : Sat K T (prvOf Hd H) Hd (dstart N xs) (L2.start N vs) Hd H := by
  have hl := ar.length
  have noq : ∀ (i : Nat) (C : Addr) (g : Gh) (st : PSt), (dstart N xs)[i]? ≠ some (some (.q C g st)) := fun i C g st e1 => by
    unfold dstart at e1
    by_cases hi : i < xs.length
    · rw [List.getElem?_append_left (by simpa using hi), List.getElem?_map] at e1
      obtain ⟨z, hx⟩ : ∃ x, xs[i]? = some x := ⟨xs[i], by simp [hi]⟩
      rw [hx] at e1
      simp only [Option.map_some, Option.some.injEq] at e1
      subst e1
      obtain ⟨v, h1, h2⟩ := ar.get hx
      exact h2
    · rw [List.getElem?_append_right (by simpa using hi), List.getElem?_replicate] at e1
      split at e1 <;> cases e1
  refine ⟨?_, Sub.refl _, sb, nt, tb, fun b o e => prvOf_some e, fun i s e => ?_, fun i j x y v e1 e2 _ _ => ?_, fun i j C g st z p e1 => absurd e1 (noq i C g st)⟩
  · unfold L2.start dstart
    simp [hl]
  · unfold dstart at e
    by_cases hi : i < xs.length
    · rw [List.getElem?_append_left (by simpa using hi), List.getElem?_map] at e
      obtain ⟨x, hx⟩ : ∃ x, xs[i]? = some x := ⟨xs[i], by simp [hi]⟩
      rw [hx] at e
      simp only [Option.map_some, Option.some.injEq] at e
      subst e
      obtain ⟨v, h1, h2⟩ := ar.get hx
      refine ⟨v, ?_, ?_⟩
      · unfold L2.start
        rw [List.getElem?_append_left (by rw [List.length_map, hl]; exact hi), List.getElem?_map, h1]
        rfl
      · cases x with
        | d y => exact h2
        | s y => exact h2
        | o y => exact (show False from h2).elim
        | n _ _ => exact (show False from h2).elim
        | q _ _ _ => exact (show False from h2).elim
        | r _ _ _ => exact h2
    · rw [List.getElem?_append_right (by simpa using hi), List.getElem?_replicate] at e
      split at e <;> cases e
  · exfalso
    unfold dstart at e1
    by_cases hi : i < xs.length
    · rw [List.getElem?_append_left (by simpa using hi), List.getElem?_map] at e1
      obtain ⟨z, hx⟩ : ∃ x, xs[i]? = some x := ⟨xs[i], by simp [hi]⟩
      rw [hx] at e1
      simp only [Option.map_some, Option.some.injEq] at e1
      subst e1
      obtain ⟨v, h1, h2⟩ := ar.get hx
      exact h2
    · rw [List.getElem?_append_right (by simpa using hi), List.getElem?_replicate] at e1
      split at e1 <;> cases e1
theorem Out.grow {Hd H Hd' H' : Hp} (o : Out T (prvOf Hd H) Hd Hd' H') : Grow T Hd H Hd' H' :=
  ⟨o.base, o.keep, o.ntb, o.tabs, fun b u h1 h2 h3 => (o.frame b u (prvOf_of h1 h2 h3)).2⟩
theorem fn_d {x qual : Str} {st : Stmt} {f : Addr} {fd : FuncData} {N ps : List Str} {k : Nat} {F : Ct} (Fn : Fun K x qual st f fd) (S : FnScope N ps (defScope st))
    (hb : ∀ (cdv : Value) (A : Around) (outer : List Env) (s : Shared) (H : Hp) (E : XK), Room k (A.deeper (envOfC qual (defScope st) s.heap.objs.size f cdv)) →
      ∃ t, BD (cxOf (L2N.CX P w) P w K mg base N qual (defScope st) f cdv A outer s H E) T E (defBody st) t ∧ ∀ xs q xc, F xs q xc → t { nx := fun _ => q .none, rt := q, xc := xc } (dstart N xs)) :
    FnOk P w K mg base (L2N.CX P w) (k + 1) f fd ps (spD K T ps.length F) := by
  obtain ⟨oc, od, kV, doc, pm, an, cdv, ct, osl, e0, lk, hcd⟩ := Fn.ex
  subst e0
  refine fn_of lk hcd S (fun vs H Q E ⟨Hd, xs, q, xc, h1, h0, h2, h3, h4, _⟩ => by rw [h3.length, h4]) (fun A outer s H vs Q E hr h => ?_)
  obtain ⟨Hd, xs, q, xc, sb, nt, tb, ar, hl, hF, hq, hx⟩ := h
  obtain ⟨t, hbd, ht⟩ := hb cdv A outer s H E hr
  have hpl : ps.length ≤ N.length := by
    have z := congrArg List.length S.pre
    rw [List.length_take] at z
    omega
  refine ⟨_, hbd, { nx := fun _ => q .none, rt := q, xc := xc }, prvOf Hd H, Hd, dstart N xs, Hd, sat_start (by omega) sb nt tb ar, ⟨fun ρ σ Hd' H' s' _ w' => hq .none .non Hd' H' s'.out.grow Dt.non w', fun _ _ _ _ _ _ z => z.elim, fun _ _ _ _ _ _ z => z.elim,
    fun d v Hd' H' o dt w' => hq d v Hd' H' o.grow dt w', fun C Hd' H' o w' => hx C Hd' H' o.grow w'⟩, ht xs q xc hF⟩
end
/-! ### states widened and narrowed -/
def wipeD (ρ : DSt) : List Nat → DSt
  | [] => ρ
  | v :: vs => (wipeD ρ vs).set v none
theorem wipeD_length (ρ : DSt) : ∀ vs : List Nat, (wipeD ρ vs).length = ρ.length
  | [] => rfl
  | v :: vs => by unfold wipeD; rw [List.length_set, wipeD_length ρ vs]
theorem wipeD_some {ρ : DSt} {i : Nat} {x : Vl} : ∀ {vs : List Nat}, (wipeD ρ vs)[i]? = some (some x) → ρ[i]? = some (some x) ∧ i ∉ vs
  | [], h => ⟨h, by simp⟩
  | v :: vs, h => by
    unfold wipeD at h
    by_cases hi : v = i
    · subst hi
      by_cases hv : v < (wipeD ρ vs).length
      · rw [List.getElem?_set_self hv] at h; cases h
      · rw [List.getElem?_eq_none (by simpa using hv)] at h; cases h
    · rw [List.getElem?_set_ne hi] at h
      obtain ⟨h1, h2⟩ := wipeD_some h
      exact ⟨h1, by simp only [List.mem_cons, not_or]; exact ⟨fun e => hi e.symm, h2⟩⟩
theorem wipeD_out {ρ : DSt} {i : Nat} : ∀ {vs : List Nat}, i ∉ vs → (wipeD ρ vs)[i]? = ρ[i]?
  | [], _ => rfl
  | v :: vs, h => by
    simp only [List.mem_cons, not_or] at h
    unfold wipeD
    rw [List.getElem?_set_ne (fun z => h.1 z.symm), wipeD_out h.2]
theorem wipe_in {σ : St} {i : Nat} : ∀ {vs : List Nat}, i ∈ vs → i < σ.length → (wipe σ vs)[i]? = some none
  | v :: vs, h, hl => by
    unfold wipe
    by_cases hi : v = i
    · subst hi
      rw [List.getElem?_set_self (by rw [wipe_length]; exact hl)]
    · rw [List.getElem?_set_ne hi]
      rcases List.mem_cons.mp h with z | z
      · exact (hi z.symm).elim
      · exact wipe_in z hl
theorem wipe_but {σ σ' : St} {is vs : List Nat} (b : But is (wipe σ vs) σ') (h : ∀ i ∈ is, i ∈ vs) : wipe σ' vs = wipe σ vs := by
  refine List.ext_getElem? fun i => ?_
  by_cases hi : i ∈ vs
  · by_cases hl : i < σ.length
    · rw [wipe_in hi (by rw [b.1, wipe_length]; exact hl), wipe_in hi hl]
    · rw [List.getElem?_eq_none (by rw [wipe_length, b.1, wipe_length]; omega), List.getElem?_eq_none (by rw [wipe_length]; omega)]
  · rw [wipe_out hi, wipe_out hi, b.2 i (fun z => hi (h i z)), wipe_out hi]
section
variable {K : PySem.W.Frag} {T : Wd} {Fr H0 : Hp} {ρ : DSt} {σ : St} {Hd H : Hp}
theorem Sat.narrow {ρ' : DSt} {σ' : St} (s : Sat K T Fr H0 ρ σ Hd H) (hl : σ'.length = ρ'.length) (h : ∀ (i : Nat) (x : Vl), ρ'[i]? = some (some x) → ρ[i]? = some (some x) ∧ σ'[i]? = σ[i]?) : Sat K T Fr H0 ρ' σ' Hd H := by
  refine ⟨hl, s.base, s.keep, s.ntb, s.tabs, s.frame, fun i x e => ?_, fun i j x y v e1 e2 e3 e4 => ?_, s.sep.2.back (fun m C g st e => ⟨st, (h m _ e).1⟩) fun m z p e e' => ⟨z, (h m _ e).1, by rw [← (h m _ e).2]; exact e'⟩⟩
  · obtain ⟨h1, h2⟩ := h i x e
    rw [h2]
    exact s.slot i x h1
  · obtain ⟨h1, h2⟩ := h i _ e1
    obtain ⟨k1, k2⟩ := h j _ e2
    rw [h2] at e3
    rw [k2] at e4
    exact s.sep.1 i j x y v h1 k1 e3 e4
theorem Sat.wipe (s : Sat K T Fr H0 ρ σ Hd H) (vs : List Nat) : Sat K T Fr H0 (wipeD ρ vs) (L2.wipe σ vs) Hd H :=
  s.narrow (by rw [wipe_length, wipeD_length, s.len]) fun i x e => by
    obtain ⟨h1, h2⟩ := wipeD_some e
    exact ⟨h1, wipe_out h2⟩
/-- a new object, held apart -/
theorem Sat.hold {p : Addr} {o : HO} (s : Sat K T Fr H0 ρ σ Hd H) (hp : H p = none) (ho : ∀ ps, o ≠ .tbl ps) : Sat K T (upd Fr p o) H0 ρ σ Hd (upd H p o) := by
  have hd := s.keep.free hp
  refine ⟨s.len, s.base, s.keep.right hd, s.ntb, s.tabs.ext (Sub.new hp), fun b u e => ?_, fun i v e => ?_, s.sep⟩
  · by_cases q : b = p
    · subst q; rw [upd_same] at e ⊢; cases e; exact ⟨ho, rfl, hd⟩
    · rw [upd_ne q] at e ⊢; exact s.frame b u e
  · obtain ⟨w, h1, h2⟩ := s.slot i v e
    refine ⟨w, h1, h2.ext (Sub.refl _) fun b u hb hu _ hf => ?_⟩
    have n : b ≠ p := ne_of_none hu hp
    exact ⟨hb, by rw [upd_ne n]; exact hu, by rw [upd_ne n]; exact hf⟩
/-- what is held apart is changed -/
theorem Sat.rehold {p : Addr} {o o' : HO} (s : Sat K T (upd Fr p o) H0 ρ σ Hd H) (ho : ∀ ps, o' ≠ .tbl ps) (hc : ∀ c y, o ≠ CodeO c y) : Sat K T (upd Fr p o') H0 ρ σ Hd (upd H p o') := by
  obtain ⟨g0, g1, g2⟩ := s.frame p o upd_same
  refine ⟨s.len, s.base, s.keep.right g2, s.ntb, fun t ht => ?_, fun b u e => ?_, fun i v e => ?_, s.sep⟩
  · obtain ⟨ps, a1, a2, a3⟩ := s.tabs t ht
    refine ⟨ps, ?_, a2, fun pos cv hcv => ?_⟩
    · rw [upd_ne (fun z => by rw [z, g1] at a1; cases a1; exact g0 ps rfl)]; exact a1
    · obtain ⟨c, b1, b2⟩ := a3 pos cv hcv
      exact ⟨c, b1, by rw [upd_ne (fun z => by rw [z, g1] at b2; exact hc _ _ (Option.some.inj b2))]; exact b2⟩
  · by_cases q : b = p
    · subst q; rw [upd_same] at e ⊢; cases e; exact ⟨ho, rfl, g2⟩
    · rw [upd_ne q] at e ⊢
      exact s.frame b u (by rw [upd_ne q]; exact e)
  · obtain ⟨w, h1, h2⟩ := s.slot i v e
    refine ⟨w, h1, h2.ext (Sub.refl _) fun b u hb hu _ hf => ?_⟩
    have n : b ≠ p := fun z => by rw [z, upd_same] at hf; cases hf
    rw [upd_ne n] at hf
    exact ⟨hb, by rw [upd_ne n]; exact hu, by rw [upd_ne n]; exact hf⟩
def ownFree (ρ : DSt) (vs : List Nat) : Bool := vs.all fun i => match ρ[i]? with
  | some (some (.o _)) => false
  | some (some (.n _ _)) => false
  | some (some (.q _ _ _)) => false
  | _ => true
/-- back behind a comprehension: its list is data now -/
theorem Sat.back {vs : List Nat} {Hd1 H1 Hd2 H2 : Hp} {p : Addr} {o : HO} (s1 : Sat K T Fr H0 ρ σ Hd1 H1) (hp : H1 p = none) (hk : ∀ kvs, o ≠ .dK kvs) (hv : ownFree ρ vs = true) (s2 : Sat K T (upd Fr p o) Hd1 (wipeD ρ vs) (L2.wipe σ vs) Hd2 H2) : Sat K T Fr H0 ρ σ (upd Hd2 p o) H2 := by
  obtain ⟨g0, g1, g2⟩ := s2.frame p o upd_same
  have nf : ∀ b u, Fr b = some u → b ≠ p := fun b u e z => by
    have q := (s1.frame b u e).2.1
    rw [z, hp] at q; cases q
  refine ⟨s1.len, (s1.base.trans s2.base).trans (Sub.new g2), fun b u e => ?_, s2.ntb.upd g0 hk, s2.tabs, fun b u e => ?_, fun i v e => ?_, s1.sep⟩
  · by_cases q : b = p
    · subst q; rw [upd_same] at e; cases e; exact g1
    · rw [upd_ne q] at e; exact s2.keep b u e
  · have n := nf b u e
    obtain ⟨k0, k1, k2⟩ := s2.frame b u (by rw [upd_ne n]; exact e)
    exact ⟨k0, k1, by rw [upd_ne n]; exact k2⟩
  · by_cases hi : i ∈ vs
    · obtain ⟨w, h1, h2⟩ := s1.slot i v e
      refine ⟨w, h1, ?_⟩
      have q := List.all_eq_true.mp hv i hi
      rw [e] at q
      cases v with
      | d y => exact Dt.mono (s2.base.trans (Sub.new g2)) h2
      | s y => obtain ⟨b, e1, e2⟩ := h2; exact ⟨b, e1, (s2.base.trans (Sub.new g2)).l e2⟩
      | o y => cases q
      | n _ _ => cases q
      | q _ _ _ => cases q
      | r _ _ _ => exact RAt.mono (s2.base.trans (Sub.new g2)) h2
    · obtain ⟨w, h1, h2⟩ := s2.slot i v (by rw [wipeD_out hi]; exact e)
      rw [wipe_out hi] at h1
      refine ⟨w, h1, h2.ext (Sub.new g2) fun b u hb hu _ hf => ?_⟩
      have n : b ≠ p := fun z => by rw [z, upd_same] at hf; cases hf
      rw [upd_ne n] at hf
      exact ⟨by rw [upd_ne n]; exact hb, hu, hf⟩
end
/-! ### comprehensions -/
def noX : DX := fun _ => False
def vD (v : Vl) (k : D → Prop) : Prop := match v with
  | .d x => k x
  | _ => False
def lcL (tt : Tgt) (tc : DT) (te : DE) (ρ : DSt) : List D → List D → (List D → Prop) → Prop
  | [], acc, k => k acc
  | d :: r, acc, k => gBnd (bindT tt d ρ) fun ρ' => tc noX ρ' fun b => bc b (te noX ρ' fun v => vD v fun y => acc.length < sizeLine ∧ lcL tt tc te ρ r (acc ++ [y]) k) (lcL tt tc te ρ r acc k)
def dLc (ti : DI) (tt : Tgt) (tc : DT) (te : DE) (vs : List Nat) : DE := fun xc ρ Q => ownFree ρ vs = true ∧ ti xc ρ fun ds => lcL tt tc te (wipeD ρ vs) ds [] fun acc => Q (.d (.list acc))
section
variable {X : Cx} {T : Wd} {E : XK} {a b c e tg iter elt : Expr} {ifs es rest : List Expr} {pos p p2 : Pos} {Ta Tb Tc Te te : DE} {ta tb tc : DT} {Al : DA} {st : Stmt} {sts sts2 : List Stmt} {t u : DS} {ti : DI} {tt : Tgt} {scope : Scope}
def dYes : DT := fun _ _ Q => Q true
def TsD (X : Cx) (T : Wd) (E : XK) (ifs : List Expr) (t : DT) : Prop := PTs X ifs (LT X.K T E t)
theorem tsd_nil : TsD X T E [] dYes := ⟨fun pins s σ H Q I ⟨xc, Fr, H0, ρ, Hd, q, st, w, hx, k⟩ => pts_nil.run pins s σ H Q I (k true Hd H st (Sub.refl _) w)⟩
theorem tsd_one (h : TD X T E c tc) : TsD X T E [c] tc := pts_one h
theorem le_lc {K : PySem.W.Frag} {vs : List Nat} (hsl : ∀ i ∈ tt.slots, i ∈ vs) {σ : St} {H : Hp} {Q : VK} (h : LE K T E (dLc ti tt tc te vs) σ H Q) : tLc (LI K T E ti) (gOf K tt) (LT K T E0 tc) (LE K T E0 te) vs σ H Q := by
  obtain ⟨xc, Fr, H0, ρ, Hd, q, s, ⟨hv, w⟩, hx, k⟩ := h
  refine ⟨xc, Fr, H0, ρ, Hd, _, s, w, hx, fun J ds Hd1 H1 s1 b1 it w1 => fun Dl hD => ?_⟩
  refine ⟨fun i m H' => m = ds.length - i ∧ i ≤ ds.length ∧ ∃ Hd' av acc, Sat K T (upd Fr Dl (.lst av)) Hd1 (wipeD ρ vs) (L2.wipe σ vs) Hd' H' ∧ DtA K Hd' av acc ∧ lcL tt tc te (wipeD ρ vs) (ds.drop i) acc (fun acc => q (.d (.list acc))),
    ⟨ds.length, rfl, Nat.zero_le _, Hd1, [], [], ((s1.rebase (Sub.refl _)).wipe vs).hold hD (fun ps z => by cases z), .nil, w1⟩, ?_⟩
  rintro i m H' ⟨rfl, hil, Hd', av, acc, s', da, w'⟩
  obtain ⟨j1, j2⟩ := it _ _ _ _ Hd' H' i s' s'.base
  by_cases hlt : i < ds.length
  · refine .inr ?_
    obtain ⟨d, hd⟩ : ∃ d, ds[i]? = some d := ⟨ds[i], by simp [hlt]⟩
    obtain ⟨g1, g2⟩ := j1 d hd
    refine ⟨g1, fun H2 => ∃ Hd2 av2 acc2, Sat K T (upd Fr Dl (.lst av2)) Hd1 (wipeD ρ vs) (L2.wipe σ vs) Hd2 H2 ∧ DtA K Hd2 av2 acc2 ∧ lcL tt tc te (wipeD ρ vs) (ds.drop (i + 1)) acc2 (fun acc => q (.d (.list acc))), fun H2 z => ⟨ds.length - (i + 1), by omega, rfl, hlt, z⟩, fun x H2 y => ?_⟩
    obtain ⟨Hd2, s2, b2, dt2⟩ := g2 x H2 y
    have ed : ds.drop i = d :: ds.drop (i + 1) := by
      rw [List.drop_eq_getElem_cons hlt]
      congr 1
      rw [List.getElem?_eq_getElem hlt] at hd
      exact Option.some.inj hd
    rw [ed] at w'
    simp only [lcL, gBnd] at w'
    split at w'
    · rename_i ρ3 e3
      refine bind_ok s2 dt2 e3 fun σ3 s3 l3 b3 => ⟨wipe_but b3 hsl, ?_⟩
      have bD := bindT_but e3
      have home : ∀ {av2 : List V} {Hd4 H4 : Hp}, Sat K T (upd Fr Dl (.lst av2)) Hd1 ρ3 σ3 Hd4 H4 → Sat K T (upd Fr Dl (.lst av2)) Hd1 (wipeD ρ vs) (L2.wipe σ vs) Hd4 H4 := fun s4 => s4.narrow (by rw [wipe_length, wipeD_length, s.len]) fun j z ez => by
        have hj := (wipeD_some ez).2
        have nj : j ∉ tt.slots := fun y => hj (hsl j y)
        exact ⟨by rw [bD.2 j nj]; exact ez, (b3.2 j nj).symm⟩
      refine ⟨noX, _, Hd1, ρ3, Hd2, _, s3, w', fun _ _ _ _ z => z.elim, fun k1 Hd4 H4 s4 b4 w4 => ?_⟩
      cases k1 with
      | true =>
        refine iteT ⟨noX, _, Hd1, ρ3, Hd4, _, s4, w4, fun _ _ _ _ z => z.elim, fun v5 y5 Hd5 H5 s5 b5 ok5 w5 => ?_⟩
        cases y5 with
        | d y =>
          obtain ⟨h1, h2⟩ := w5
          refine ⟨av, (s5.frame Dl _ upd_same).2.1, by rw [da.length]; exact h1, Hd5, av ++ [v5], acc ++ [y], (home s5).rehold (fun ps z => by cases z) (fun c y z => by unfold CodeO at z; cases z), ?_, h2⟩
          exact (da.mono ((b2.trans b4).trans b5)).append (.cons ok5 .nil)
        | o y => exact w5.elim
        | s y => exact w5.elim
        | n _ _ => exact w5.elim
        | q _ _ _ => exact w5.elim
        | r _ _ _ => exact w5.elim
      | false => exact iteF ⟨Hd4, av, acc, home s4, da.mono (b2.trans b4), w4⟩
    · exact w'.elim
  · have e1 : ds.length = i := by omega
    refine .inl ⟨j2 e1, ?_⟩
    rw [← e1, List.drop_length] at w'
    have g2 := (s'.frame Dl _ upd_same).2.2
    exact k (.ref Dl) (.d (.list acc)) (upd Hd' Dl (.lst av)) H' (s1.back hD (fun kvs z => by cases z) hv s') (b1.trans (s'.base.trans (Sub.new g2))) (Dt.lst upd_same (da.mono (Sub.new g2))) w'
theorem de_lc (own : List (Str × Nat)) (hN : X.N.Nodup) (hi : ID X T E tg iter ti) (ok : BlkOk X.N X.env.scope scope own)
    (hg : ∀ (s : Shared) (H : Hp) (C : Addr) (cl : List (Str × Addr)) (fp : List Addr), PG (X.blk s H scope (compEnvC scope cl C X.env) fp) tg (gOf X.K tt)) (ht : ∀ (s : Shared) (H : Hp) (C : Addr) (cl : List (Str × Addr)) (fp : List Addr), TsD (X.blk s H scope (compEnvC scope cl C X.env) fp) T E0 ifs tc)
    (he : ∀ (s : Shared) (H : Hp) (C : Addr) (cl : List (Str × Addr)) (fp : List Addr), ED (X.blk s H scope (compEnvC scope cl C X.env) fp) T E0 elt te) (hc : X.calm = true := by rfl) (hsl : ∀ i ∈ tt.slots, i ∈ own.map (·.2) := by decide) (hs : ∀ x, foldedSetIterable iter X.env x = pure x := by intro _; rfl) :
    ED X T E (.ListComp elt [⟨tg, iter, ifs, 0⟩] scope pos) (dLc ti tt tc te (own.map (·.2))) :=
  pe_imp (pe_lc (tt := LT X.K T E0 tc) (te := LE X.K T E0 te) hc hN hi ok hg ht he hs) fun _ _ _ h => le_lc hsl h
theorem sd_setLc {y : Str} {py spos : Pos} (i : Nat) (own : List (Str × Nat)) (hN : X.N.Nodup) (hsw : swapsWith (.ListComp elt [⟨tg, iter, ifs, 0⟩] scope pos) (some (.Name y py)) spos.line X.env = pure true) (hi : ID X T E tg iter ti) (ok : BlkOk X.N X.env.scope scope own)
    (hg : ∀ (s : Shared) (H : Hp) (C : Addr) (cl : List (Str × Addr)) (fp : List Addr), PG (X.blk s H scope (compEnvC scope cl C X.env) fp) tg (gOf X.K tt)) (ht : ∀ (s : Shared) (H : Hp) (C : Addr) (cl : List (Str × Addr)) (fp : List Addr), TsD (X.blk s H scope (compEnvC scope cl C X.env) fp) T E0 ifs tc)
    (he : ∀ (s : Shared) (H : Hp) (C : Addr) (cl : List (Str × Addr)) (fp : List Addr), ED (X.blk s H scope (compEnvC scope cl C X.env) fp) T E0 elt te) (hc : X.calm = true := by rfl) (hy : X.N[i]? = some y := by rfl) (hyl : X.env.scope.names.lookup y = some .local := by rfl) (hsl : ∀ i ∈ tt.slots, i ∈ own.map (·.2) := by decide) (hs : ∀ x, foldedSetIterable iter X.env x = pure x := by intro _; rfl) :
    SD X T E (.Assign [.Name y py] (.ListComp elt [⟨tg, iter, ifs, 0⟩] scope pos) spos) (dSet i (dLc ti tt tc te (own.map (·.2)))) := by
  refine ps_imp (ps_setLc (tt := LT X.K T E0 tc) (te := LE X.K T E0 te) hc hN hy hyl hsw hi ok hg ht he hs) fun De σ H ⟨e, Fr, H0, ρ, Hd, s, ok, w⟩ => le_lc hsl ⟨e.xc, Fr, H0, ρ, Hd, _, s, w, ok.xok, fun v x Hd1 H1 s1 b1 ok1 w1 => ?_⟩
  cases x with
  | d y => exact ok.nx _ _ Hd1 H1 (s1.set ok1) (by rw [List.length_set]) w1
  | o y => exact (show False from w1).elim
  | s y => exact (show False from w1).elim
  | n _ _ => exact (show False from w1).elim
  | q _ _ _ => exact (show False from w1).elim
  | r _ _ _ => exact (show False from w1).elim
/-! ### lists of one's own -/
def gOwnL (i : Nat) (xs : List Vl) (ρ : DSt) (Q : DSt → Prop) : Prop := match allD xs with
  | some ds => ds.length ≤ sizeLine ∧ Q (ρ.set i (some (.o (.list ds))))
  | none => False
def dOwnL (i : Nat) (Al : DA) : DS := fun e ρ => Al e.xc ρ fun xs => gOwnL i xs ρ e.nx
theorem sd_ownL {x : Str} (i : Nat) (ha : AD X T E es Al) (hN : X.N.Nodup) (hi : X.N[i]? = some x := by rfl) (hx : Loc X.env.scope x := by first | exact Or.inl rfl | exact Or.inr rfl) (hs : swapsWith (.List es p2) (some (.Name x p)) pos.line X.env = pure false := by rfl) (hf : X.fn x = true ∨ X.env.scope.names.lookup x = some .local := by first | exact .inl rfl | exact .inr rfl) :
    SD X T E (.Assign [.Name x p] (.List es p2) pos) (dOwnL i Al) := by
  refine ps_imp (ps_set hN hi hx (pe_lst ha) hs hf) fun De σ H ⟨e, Fr, H0, ρ, Hd, s, ok, w⟩ => ⟨e.xc, Fr, H0, ρ, Hd, _, s, w, ok.xok, fun vs xs Hd1 H1 s1 b1 ok1 w1 => ?_⟩
  unfold gOwnL at w1
  split at w1
  · rename_i ds e1
    have hA := allD_ok ok1 e1
    refine ⟨by rw [hA.length]; exact w1.1, fun p hp => ?_⟩
    exact ok.nx _ _ Hd1 _ (s1.setOwn (o := .lst vs) (d := .list ds) hp ⟨vs, upd_same, hA⟩) (by rw [List.length_set]) w1.2
  · exact w1.elim
def gApp (i : Nat) (ds : List D) (v : Vl) (ρ : DSt) (Q : DSt → Prop) : Prop := match v with
  | .d x => ds.length < sizeLine ∧ Q (ρ.set i (some (.o (.list (ds ++ [x])))))
  | _ => False
def ownL (o : Option (Option Vl)) (k : List D → Prop) : Prop := match o with
  | some (some (.o (.list ds))) => k ds
  | _ => False
def dApp (i : Nat) (Te : DE) : DS := fun e ρ => ownL ρ[i]? fun ds => Te e.xc ρ fun v => gApp i ds v ρ e.nx
theorem sd_append {x : Str} {px apos cpos : Pos} (i : Nat) (h : PE X (.Call (.Attribute (.Name x px) "append" apos) [e] [] cpos) (tBM X.K "list" rAppend (tVar i) (tCons (LE X.K T E Te) tNil))) (hs : swapsWith (.Call (.Attribute (.Name x px) "append" apos) [e] [] cpos) none pos.line X.env = pure false := by rfl) :
    SD X T E (.Expr (.Call (.Attribute (.Name x px) "append" apos) [e] [] cpos) pos) (dApp i Te) := by
  refine ps_imp (ps_expr h hs) fun De σ H ⟨e, Fr, H0, ρ, Hd, s, ok, w⟩ => ?_
  show tBM X.K "list" rAppend (tVar i) (tCons (LE X.K T E Te) tNil) σ H fun _ H1 => De.nx σ H1
  unfold dApp ownL at w
  split at w
  · rename_i ds hq
    obtain ⟨u, h1, p, rfl, _, _, xs, h2, _⟩ := s.slot i _ hq
    refine ⟨_, h1, .inl ⟨rfl, xs, SqL.of h2⟩, e.xc, Fr, H0, ρ, Hd, _, s, w, ok.xok, fun v x Hd1 H1 s1 b1 ok1 w1 => ?_⟩
    cases x with
    | d y =>
      obtain ⟨u, h1', p', e1, _, _, xs', h2', h3'⟩ := s1.slot i _ hq
      rw [h1] at h1'; cases h1'; cases e1
      refine ⟨p, xs', v, rfl, rfl, h2', by rw [h3'.length]; exact w1.1, ?_⟩
      exact ok.nx _ _ Hd1 _ (s1.mutOwn (d' := .list (ds ++ [y])) hq h1 ⟨xs' ++ [v], upd_same, h3'.append (.cons ok1 .nil)⟩) (by rw [List.length_set]) w1.2
    | o y => exact (show False from w1).elim
    | s y => exact (show False from w1).elim
    | n _ _ => exact (show False from w1).elim
    | q _ _ _ => exact (show False from w1).elim
    | r _ _ _ => exact (show False from w1).elim
  · exact w.elim
end
end DL

/-! Data: defs by name; short forms for the printed derivations. -/
namespace DL
open PySem L2 LamX
open PyProof.Rows (envOfC)
/-- a def of the module: its name, level, number of parameters, contract -/
structure Df (P : Program) (w : World) (K : PySem.W.Frag) (mg : Str → Option Value) (base : Heap) (T : Wd) (x : Str) (k n : Nat) (F : Ct) : Prop where
  ex : ∃ (f : Addr) (fd : FuncData) (ps : List Str), FnOk P w K mg base (L2N.CX P w) k f fd ps (spD K T n F) ∧ mg x = some (.ref f) ∧ PySem.W.keepIn K (.ref f) = true ∧ Binds K fd ps []
  hn : ∀ xs q xc, F xs q xc → xs.length = n
section
variable {X : Cx} {T : Wd} {E : XK} {a b c e tg iter : Expr} {es rest : List Expr} {pos p p2 : Pos} {Ta Tb Tc Te : DE} {ta tb tc : DT} {Al : DA} {st : Stmt} {sts sts2 : List Stmt} {t u : DS}
theorem de_fn {x : Str} {k n : Nat} {F : Ct} (G : Df X.prog X.w X.K X.mg X.base T x k n F) (hr : Room k X.A) (hx : Passes (L2N.CX X.prog X.w) X E)
    (ha : AD X T E (e :: es) Al) (hg : Gl X x := by rfl) (hdb : (x == ("__debug__" : Str)) = false := by decide) (he : starEach (e :: es) X.env = (false, eval e X.env) :: starEach es X.env := by rfl) (hpl : (backTo pos (starEach es X.env)).any (·.1) = false := by rfl) :
    ED X T E (.Call (.Name x p) (e :: es) [] pos) (dCall F Al) := by
  obtain ⟨f, fd, ps, h1, h2, h3, h4⟩ := G.ex
  exact de_call h1 G.hn hr h2 h3 h4 hx ha hg hdb he hpl
theorem de_fn0 {x : Str} {k n : Nat} {F : Ct} (G : Df X.prog X.w X.K X.mg X.base T x k n F) (hr : Room k X.A) (hx : Passes (L2N.CX X.prog X.w) X E)
    (hg : Gl X x := by rfl) (hdb : (x == ("__debug__" : Str)) = false := by decide) : ED X T E (.Call (.Name x p) [] [] pos) (dCall F dNil) := by
  obtain ⟨f, fd, ps, h1, h2, h3, h4⟩ := G.ex
  exact de_call0 h1 G.hn hr h2 h3 h4 hx hg hdb
/-! ### operators, short -/
theorem de_add (ha : ED X T E a Ta) (hb : ED X T E b Tb) : ED X T E (.BinOp a .Add b pos) (dOp gAdd Ta Tb) := de_op op_ad od_add ha hb
theorem de_sub (ha : ED X T E a Ta) (hb : ED X T E b Tb) : ED X T E (.BinOp a .Sub b pos) (dOp gSub Ta Tb) := de_op op_sub od_sub ha hb
theorem de_mul (ha : ED X T E a Ta) (hb : ED X T E b Tb) : ED X T E (.BinOp a .Mult b pos) (dOp gMul Ta Tb) := de_op op_ml od_mul ha hb
theorem de_fdiv (ha : ED X T E a Ta) (hb : ED X T E b Tb) : ED X T E (.BinOp a .FloorDiv b pos) (dOp gFdiv Ta Tb) := de_op op_fdivD od_fdiv ha hb
theorem de_mod (ha : ED X T E a Ta) (hb : ED X T E b Tb) : ED X T E (.BinOp a .Mod b pos) (dOp gMod Ta Tb) := de_op op_modN od_mod ha hb
theorem de_pow (ha : ED X T E a Ta) (hb : ED X T E b Tb) : ED X T E (.BinOp a .Pow b pos) (dOp gPow Ta Tb) := de_op op_pow od_pow ha hb
theorem de_idx (ha : ED X T E a Ta) (hb : ED X T E b Tb) (hs : PlainIx b := by exact fun _ _ => rfl) : ED X T E (.Subscript a b pos) (dOp gIx Ta Tb) := de_ix ix_seq od_ix ha hb hs
/-- a comparison's operator: its rule and what it gives -/
structure CmpD (X : Cx) (T : Wd) (op : CmpOp) (g : G2) : Prop where
  ex : ∃ r, OpR X (compareOp op) r ∧ OpD X.K T r g
theorem c_eq {k : Nat} (hr : Room k X.A) : CmpD X T .Eq gEq := ⟨_, op_eqP hr.units, od_eq⟩
theorem c_ne {k : Nat} (hr : Room k X.A) : CmpD X T .NotEq gNe := ⟨_, op_neP hr.units, od_ne⟩
theorem c_lt : CmpD X T .Lt gLt := ⟨_, op_lt, od_lt⟩
theorem c_le : CmpD X T .LtE gLe := ⟨_, op_le, od_le⟩
theorem c_gt : CmpD X T .Gt gGt := ⟨_, op_gt, od_gt⟩
theorem c_ge : CmpD X T .GtE gGe := ⟨_, op_ge, od_ge⟩
theorem c_is : CmpD X T .Is gIs := ⟨_, op_is, od_is⟩
theorem c_isnot : CmpD X T .IsNot gIsNot := ⟨_, op_isnot, od_isnot⟩
theorem de_cm {op : CmpOp} {g : G2} (h : CmpD X T op g) (ha : ED X T E a Ta) (hb : ED X T E b Tb) (hm : behindInMarks op b = false := by rfl) : ED X T E (.Compare a [op] [b] pos) (dOp g Ta Tb) := by
  obtain ⟨r, h1, h2⟩ := h.ex
  exact de_cmp h1 h2 ha hb hm
theorem td_cm {op : CmpOp} {g : G2} (h : CmpD X T op g) (ha : ED X T E a Ta) (hb : ED X T E b Tb) (hm : behindInMarks op b = false := by rfl) : TD X T E (.Compare a [op] [b] pos) (dTest (dOp g Ta Tb)) := by
  obtain ⟨r, h1, h2⟩ := h.ex
  exact td_cmp h1 h2 ha hb hm
theorem de_ch {op op' : CmpOp} {g g' : G2} (h : CmpD X T op g) (h' : CmpD X T op' g') (ha : ED X T E a Ta) (hb : ED X T E b Tb) (hc : ED X T E c Tc) (hm : lastMarks [op, op'] [b, c] = false := by with_unfolding_all rfl) : ED X T E (.Compare a [op, op'] [b, c] pos) (dChain g g' Ta Tb Tc) := by
  obtain ⟨r, h1, h2⟩ := h.ex
  obtain ⟨r', h3, h4⟩ := h'.ex
  exact de_chain h1 h2 h3 h4 ha hb hc hm
theorem td_ch {op op' : CmpOp} {g g' : G2} (h : CmpD X T op g) (h' : CmpD X T op' g') (ha : ED X T E a Ta) (hb : ED X T E b Tb) (hc : ED X T E c Tc) (hm : lastMarks [op, op'] [b, c] = false := by with_unfolding_all rfl) : TD X T E (.Compare a [op, op'] [b, c] pos) (dTest (dChain g g' Ta Tb Tc)) := by
  obtain ⟨r, h1, h2⟩ := h.ex
  obtain ⟨r', h3, h4⟩ := h'.ex
  exact td_chain h1 h2 h3 h4 ha hb hc hm
/-- - a -/
def gNeg (x : Vl) (Q : Vl → Prop) : Prop := match x with
  | .d (.int i) => Q (.d (.int (-i)))
  | _ => False
def dNeg (Ta : DE) : DE := fun xc ρ Q => Ta xc ρ fun x => gNeg x Q
theorem de_neg (ha : ED X T E a Ta) : ED X T E (.UnaryOp .USub a pos) (dNeg Ta) := by
  refine pe_imp (pe_un un_neg ha) fun σ H Q ⟨xc, Fr, H0, ρ, Hd, q, s, w, hx, k⟩ => ⟨xc, Fr, H0, ρ, Hd, _, s, w, hx, fun v x Hd1 H1 s1 b1 ok1 w1 => ?_⟩
  unfold gNeg at w1
  split at w1
  · rename_i i
    exact ⟨i, ok1.int s1 rfl, k _ (.d (.int _)) Hd1 H1 s1 b1 (Dt.int _) w1⟩
  · exact w1.elim
/-- one's own becomes data -/
def frzO (i : Nat) (ρ : DSt) : DSt := match ρ[i]? with
  | some (some (.o (.list ds))) => ρ.set i (some (.d (.list ds)))
  | _ => ρ
def dFrz (i : Nat) (t : DS) : DS := fun e ρ => t e (frzO i ρ)
theorem bd_frz (i : Nat) (h : BD X T E sts t) : BD X T E sts (dFrz i t) := by
  refine pss_imp h fun De σ H ⟨e, Fr, H0, ρ, Hd, s, ok, w⟩ => ?_
  unfold dFrz frzO at w
  split at w
  · rename_i d hd
    obtain ⟨Hd', b, s', _⟩ := s.freeze hd rfl
    exact ⟨e, Fr, H0, _, Hd', s', by rw [List.length_set]; exact ok, w⟩
  · exact ⟨e, Fr, H0, ρ, Hd, s, ok, w⟩
/-! ### targets, short -/
theorem pg_nm {x : Str} (i : Nat) (hN : X.N.Nodup) (hi : X.N[i]? = some x := by rfl) (hx : Loc X.env.scope x := by first | exact Or.inl rfl | exact Or.inr rfl) (hf : X.fn x = true ∨ X.env.scope.names.lookup x = some .local := by first | exact .inl rfl | exact .inr rfl) : PG X (.Name x pos) (gOf X.K (.nm i)) := pg_name hN hi hx hf
/-! ### all, any, sum, sorted, list, tuple -/
def bools? : List D → Option (List Bool)
  | [] => some []
  | .bool b :: r => match bools? r with
    | some bs => some (b :: bs)
    | none => none
  | _ :: _ => none
theorem bools_ok {K : PySem.W.Frag} {H : Hp} : ∀ {vs : List V} {ds : List D} {bs : List Bool}, DtA K H vs ds → bools? ds = some bs → vs = bs.map V.bl
  | _, _, _, .nil, e => by cases e; rfl
  | _, .bool b :: r, bs, .cons h t, e => by
    cases q : bools? r with
    | none => simp [bools?, q] at e
    | some cs =>
      simp [bools?, q] at e
      subst e
      cases h
      rw [bools_ok t q]; rfl
  | _, .none :: r, bs, .cons h t, e => by simp [bools?] at e
  | _, .int _ :: r, bs, .cons h t, e => by simp [bools?] at e
  | _, .str _ :: r, bs, .cons h t, e => by simp [bools?] at e
  | _, .list _ :: r, bs, .cons h t, e => by simp [bools?] at e
  | _, .tuple _ :: r, bs, .cons h t, e => by simp [bools?] at e
  | _, .dict _ :: r, bs, .cons h t, e => by simp [bools?] at e
def ints? : List D → Option (List Int)
  | [] => some []
  | .int b :: r => match ints? r with
    | some bs => some (b :: bs)
    | none => none
  | _ :: _ => none
theorem ints_ok {K : PySem.W.Frag} {H : Hp} : ∀ {vs : List V} {ds : List D} {bs : List Int}, DtA K H vs ds → ints? ds = some bs → vs = bs.map V.int
  | _, _, _, .nil, e => by cases e; rfl
  | _, .int b :: r, bs, .cons h t, e => by
    cases q : ints? r with
    | none => simp [ints?, q] at e
    | some cs =>
      simp [ints?, q] at e
      subst e
      cases h
      rw [ints_ok t q]; rfl
  | _, .none :: r, bs, .cons h t, e => by simp [ints?] at e
  | _, .bool _ :: r, bs, .cons h t, e => by simp [ints?] at e
  | _, .str _ :: r, bs, .cons h t, e => by simp [ints?] at e
  | _, .list _ :: r, bs, .cons h t, e => by simp [ints?] at e
  | _, .tuple _ :: r, bs, .cons h t, e => by simp [ints?] at e
  | _, .dict _ :: r, bs, .cons h t, e => by simp [ints?] at e
theorem ints?_map (ns : List Int) : ints? (ns.map PyData.int) = some ns := by
  induction ns with
  | nil => rfl
  | cons n ns ih => simp [ints?, ih]
theorem bools?_map (ns : List Bool) : bools? (ns.map PyData.bool) = some ns := by
  induction ns with
  | nil => rfl
  | cons n ns ih => simp [bools?, ih]
def gBoolsF (f : List Bool → Bool) (x : Option D) (Q : Vl → Prop) : Prop := match x with
  | some (.list ds) => match bools? ds with
    | some bs => Q (.d (.bool (f bs)))
    | none => False
  | _ => False
def gAll : GN := fun xs Q => match xs with
  | [x] => gBoolsF (fun bs => bs.all id) x.dat Q
  | _ => False
def gAny : GN := fun xs Q => match xs with
  | [x] => gBoolsF (fun bs => bs.any id) x.dat Q
  | _ => False
theorem cd_all : CallD X.K T (rAll X.K) gAll := fun Fr H0 ρ σ Hd H vs xs q Q s hv w k => by
  unfold gAll at w
  split at w
  · rename_i x
    obtain ⟨v, rfl, h⟩ := vls1 hv
    unfold gBoolsF at w
    split at w
    · rename_i ds ex
      split at w
      · rename_i bs eb
        obtain ⟨p1, xs, rfl, h1, a1⟩ := h.list s ex
        have e := bools_ok a1 eb
        subst e
        exact ⟨p1, bs, rfl, SqL.of h1, k _ (.d (.bool _)) Hd H s (Sub.refl _) (Dt.bl _) w⟩
      · exact w.elim
    · exact w.elim
  · exact w.elim
theorem cd_any : CallD X.K T (rAny X.K) gAny := fun Fr H0 ρ σ Hd H vs xs q Q s hv w k => by
  unfold gAny at w
  split at w
  · rename_i x
    obtain ⟨v, rfl, h⟩ := vls1 hv
    unfold gBoolsF at w
    split at w
    · rename_i ds ex
      split at w
      · rename_i bs eb
        obtain ⟨p1, xs, rfl, h1, a1⟩ := h.list s ex
        have e := bools_ok a1 eb
        subst e
        exact ⟨p1, bs, rfl, SqL.of h1, k _ (.d (.bool _)) Hd H s (Sub.refl _) (Dt.bl _) w⟩
      · exact w.elim
    · exact w.elim
  · exact w.elim
def gIntsF (f : List Int → (Vl → Prop) → Prop) (x : Option D) (Q : Vl → Prop) : Prop := match x with
  | some (.list ds) => match ints? ds with
    | some bs => f bs Q
    | none => False
  | _ => False
def gSum : GN := fun xs Q => match xs with
  | [x] => gIntsF (fun bs Q => Q (.d (.int bs.sum))) x.dat Q
  | _ => False
theorem cd_sum : CallD X.K T (rSum X.K) gSum := fun Fr H0 ρ σ Hd H vs xs q Q s hv w k => by
  unfold gSum at w
  split at w
  · rename_i x
    obtain ⟨v, rfl, h⟩ := vls1 hv
    unfold gIntsF at w
    split at w
    · rename_i ds ex
      split at w
      · rename_i bs eb
        obtain ⟨p1, xs, rfl, h1, a1⟩ := h.list s ex
        have e := ints_ok a1 eb
        subst e
        exact ⟨p1, bs, rfl, SqL.of h1, k _ (.d (.int _)) Hd H s (Sub.refl _) (Dt.int _) w⟩
      · exact w.elim
    · exact w.elim
  · exact w.elim
def isort (ns : List Int) : List Int := ns.mergeSort (fun a b => decide (a ≤ b))
theorem isort_perm (ns : List Int) : (isort ns).Perm ns := List.mergeSort_perm ns _
theorem isort_sorted (ns : List Int) : (isort ns).Pairwise (· ≤ ·) := by
  have h := List.pairwise_mergeSort (le := fun (a b : Int) => decide (a ≤ b)) (fun a b c h1 h2 => by simp at *; omega) (fun a b => by simp; omega) ns
  exact h.imp (by intro a b h; simpa using h)
theorem sorted_unique : ∀ {a b : List Int}, a.Perm b → a.Pairwise (· ≤ ·) → b.Pairwise (· ≤ ·) → a = b := fun p h1 h2 => p.eq_of_pairwise (le := fun (a b : Int) => a ≤ b) (fun a b _ _ h1 h2 => Int.le_antisymm h1 h2) h1 h2
theorem dtA_ints {K : PySem.W.Frag} {H : Hp} : ∀ ns : List Int, DtA K H (ns.map V.int) (ns.map PyData.int)
  | [] => .nil
  | n :: ns => .cons (.int n) (dtA_ints ns)
def gSorted : GN := fun xs Q => match xs with
  | [x] => gIntsF (fun bs Q => Q (.d (.list ((isort bs).map .int)))) x.dat Q
  | _ => False
theorem cd_sorted : CallD X.K T (rSortedI X.K) gSorted := fun Fr H0 ρ σ Hd H vs xs q Q s hv w k => by
  unfold gSorted at w
  split at w
  · rename_i x
    obtain ⟨v, rfl, h⟩ := vls1 hv
    unfold gIntsF at w
    split at w
    · rename_i ds ex
      split at w
      · rename_i bs eb
        obtain ⟨p1, xs, rfl, h1, a1⟩ := h.list s ex
        have e := ints_ok a1 eb
        subst e
        refine ⟨p1, bs, rfl, SqL.of h1, fun ns' p hp1 hp2 hp => ?_⟩
        have e2 : ns' = isort bs := sorted_unique (hp1.trans (isort_perm bs).symm) hp2 (isort_sorted bs)
        subst e2
        exact k _ (.d (.list _)) _ _ (s.lay (o := .lst _) hp) (Sub.new (s.keep.free hp)) (Dt.lst upd_same (dtA_ints _)) w
      · exact w.elim
    · exact w.elim
  · exact w.elim
def gListOf : GN := fun xs Q => match xs with
  | [x] => match x.dat with
    | some (.list ds) => Q (.d (.list ds))
    | some (.tuple ds) => Q (.d (.list ds))
    | _ => False
  | _ => False
theorem cd_list : CallD X.K T (fun xs H Q => ∃ p ys, xs = [.ref p] ∧ (SqL X.K H p ys ∨ SqT X.K H p ys) ∧ ∀ l, H l = none → Q (.ref l) (upd H l (.lst ys))) gListOf := fun Fr H0 ρ σ Hd H vs xs q Q s hv w k => by
  unfold gListOf at w
  split at w
  · rename_i x
    obtain ⟨v, rfl, h⟩ := vls1 hv
    split at w
    · rename_i ds ex
      obtain ⟨p1, xs, rfl, h1, a1⟩ := h.list s ex
      exact ⟨p1, xs, rfl, .inl (SqL.of h1), fun p hp => k _ (.d (.list _)) _ _ (s.lay (o := .lst _) hp) (Sub.new (s.keep.free hp)) (Dt.lst upd_same (a1.mono (Sub.new (s.keep.free hp)))) w⟩
    · rename_i ds ex
      obtain ⟨p1, xs, rfl, h1, a1⟩ := h.tup s ex
      exact ⟨p1, xs, rfl, .inr (SqT.of h1), fun p hp => k _ (.d (.list _)) _ _ (s.lay (o := .lst _) hp) (Sub.new (s.keep.free hp)) (Dt.lst upd_same (a1.mono (Sub.new (s.keep.free hp)))) w⟩
    · exact w.elim
  · exact w.elim
def gTupleOf : GN := fun xs Q => match xs with
  | [x] => match x.dat with
    | some (.list ds) => Q (.d (.tuple ds))
    | _ => False
  | _ => False
theorem cd_tuple : CallD X.K T (fun xs H Q => ∃ p ys, xs = [.ref p] ∧ ((SqL X.K H p ys ∧ ∀ l, H l = none → Q (.ref l) (upd H l (.tup ys))) ∨ (SqT X.K H p ys ∧ Q (.ref p) H))) gTupleOf := fun Fr H0 ρ σ Hd H vs xs q Q s hv w k => by
  unfold gTupleOf at w
  split at w
  · rename_i x
    obtain ⟨v, rfl, h⟩ := vls1 hv
    split at w
    · rename_i ds ex
      obtain ⟨p1, xs, rfl, h1, a1⟩ := h.list s ex
      exact ⟨p1, xs, rfl, .inl ⟨SqL.of h1, fun p hp => k _ (.d (.tuple _)) _ _ (s.lay (o := .tup _) hp) (Sub.new (s.keep.free hp)) (Dt.tup upd_same (a1.mono (Sub.new (s.keep.free hp)))) w⟩⟩
    · exact w.elim
  · exact w.elim
/-- the built-ins by name: their rule and what they give -/
structure BltD (X : Cx) (T : Wd) (id : String) (g : GN) : Prop where
  ex : ∃ r, CallR X (.builtin id) r ∧ CallD X.K T r g
structure TyDl (X : Cx) (T : Wd) (id : String) (g : GN) : Prop where
  ex : ∃ r, CallR X (.type id) r ∧ CallD X.K T r g
theorem b_len : BltD X T "len" gLen := ⟨_, call_len, cd_len⟩
theorem b_abs : BltD X T "abs" gAbs := ⟨_, call_abs, cd_abs⟩
theorem b_max2 (hc : X.calm = true := by rfl) : BltD X T "max" gMax2 := ⟨_, call_max2 hc, cd_max2⟩
theorem b_min2 (hc : X.calm = true := by rfl) : BltD X T "min" gMin2 := ⟨_, call_min2 hc, cd_min2⟩
theorem b_all (hc : X.calm = true := by rfl) : BltD X T "all" gAll := ⟨_, cr_all hc, cd_all⟩
theorem b_any (hc : X.calm = true := by rfl) : BltD X T "any" gAny := ⟨_, cr_any hc, cd_any⟩
theorem b_sum (hc : X.calm = true := by rfl) : BltD X T "sum" gSum := ⟨_, cr_sum hc, cd_sum⟩
theorem b_sorted : BltD X T "sorted" gSorted := ⟨_, cr_sortedI, cd_sorted⟩
theorem y_int : TyDl X T "int" gInt1 := ⟨_, call_int1, cd_int1⟩
theorem y_list : TyDl X T "list" gListOf := ⟨_, call_list_of, cd_list⟩
theorem y_tuple : TyDl X T "tuple" gTupleOf := ⟨_, call_tuple_of, cd_tuple⟩
theorem de_b {x : Str} {id : String} {g : GN} (h : BltD X T id g) (hm : X.mg x = none) (ha : AD X T E (e :: es) Al) (hg : Gl X x := by rfl) (hv : bootBuiltins x = some (.builtin id) := by decide +kernel) (hn : x ≠ "__name__" := by decide) (hdb : (x == ("__debug__" : Str)) = false := by decide)
    (he : starEach (e :: es) X.env = (false, eval e X.env) :: starEach es X.env := by rfl) (hpl : (backTo pos (starEach es X.env)).any (·.1) = false := by rfl) : ED X T E (.Call (.Name x p) (e :: es) [] pos) (dCB g Al) := by
  obtain ⟨r, h1, h2⟩ := h.ex
  exact de_callB h1 h2 hm ha hg hv hn hdb he hpl
theorem de_y {x : Str} {id : String} {g : GN} (h : TyDl X T id g) (hm : X.mg x = none) (ha : AD X T E (e :: es) Al) (hg : Gl X x := by rfl) (hv : bootBuiltins x = some (.type id) := by decide +kernel) (hn : x ≠ "__name__" := by decide) (hdb : (x == ("__debug__" : Str)) = false := by decide)
    (he : starEach (e :: es) X.env = (false, eval e X.env) :: starEach es X.env := by rfl) (hpl : (backTo pos (starEach es X.env)).any (·.1) = false := by rfl) : ED X T E (.Call (.Name x p) (e :: es) [] pos) (dCB g Al) := by
  obtain ⟨r, h1, h2⟩ := h.ex
  exact de_callTy h1 h2 hm ha hg hv hn hdb he hpl
end
end DL

/-! Data: while an exception is handled: a list walked, truths counted. -/
namespace DL
open PySem L2 LamX
section
variable {prog : Program} {w : World} {A : Around} {E : Value → Shared → Prop} {s : Shared}
open Builtin in
theorem next_list_end_hot {it l ex : Addr} {i : Nat} {its : Array Value} {Q : Option Value → Shared → Prop} (hot : HotX.HotAt A ex s.heap) (nx : ex ≠ it)
    (a1 : s.heap.IsListIter it l i) (a2 : s.heap.IsList l its) (a3 : its[i]? = none) (k : ∀ h', (∀ b o, b ≠ it → s.heap.get? b = some o → h'.get? b = some o) → Q none { s with heap := h' }) :
    wpAny (model prog w) A (pyNext (.ref it)) Q E s := by
  obtain ⟨ob, b1, b2, b3⟩ := id a1
  obtain ⟨ol, c1, _, nl, c2⟩ := a2
  obtain ⟨hh, o1, vs1, d1, d2, d3⟩ := hot
  unfold pyNext
  refine wpAny_bind (wpAny_attempt (wpAny_callSpecial?_slot (name := Str.ofString "__next__") a1.typeIs slot_listiter_next (wpAny_call_entry slot_listiter_next a1.typeIs entry_listiter_next ?_ (args_listiter_next _))))
  refine wpAny_bind (m := field (.ref it) 0) (wpAny_field b1 b3 (x := .ref l) rfl ?_)
  have q0 : ¬ ((Value.ref l == Value.none) = true) := Bool.false_ne_true
  show wpAny _ A.in1 (if (Value.ref l == Value.none) = true then _ else _) _ _ _
  rw [if_neg q0]
  refine wpAny_bind (m := field (.ref it) 1) (wpAny_field b1 b3 (x := .int i 0) rfl (wpAny_bind (m := seqItems? (.ref l)) (wpAny_seqItems c1 c2 ?_)))
  simp only [Int.toNat_natCast, a3]
  refine wpAny_bind (wpAny_rule (wpAny_bind (wpAny_setField b1 b3 (by simp) (wpAny_bind (m := newExc (.type "StopIteration") []) ?_))))
  simp only [newExc, newTuple]
  refine wpAny_bind (wpAny_newObj_type (wpAny_bind (m := firstArgMember _ _) (wpAny_of_eq (a := Value.none) (by first | rfl | (simp only [firstArgMember]; rfl)) (wpAny_newObj_type ?_ (by size_fits)))) (by size_fits))
  have e1 : ∀ b o, b ≠ it → s.heap.get? b = some o → (s.heap.update it (Obj.mapFields (·.setIfInBounds 0 Value.none))).get? b = some o := fun b o hb q => (Heap.get?_update_other _ _ (Ne.symm hb)).trans q
  have e2 := Heap.get?_push_of_some { cls := .type "StopIteration", data := .fields (#[.ref (s.heap.update it (Obj.mapFields (·.setIfInBounds 0 Value.none))).objs.size, .none, .none, .none, .bool false, .none] ++ ownMembersOf (.type "StopIteration") []) } (Heap.get?_push_of_some { cls := .type "tuple", data := .seq ([] : List Value).toArray } (e1 ex o1 nx d1))
  refine HotX.raiseNew_hot ⟨hh, o1, vs1, e2, d2, d3⟩ (Nat.ne_of_lt (Heap.lt_size (Heap.get?_push_of_some _ (e1 ex o1 nx d1)))) (Heap.get?_push_size _ rfl) rfl (by first | (simp; done) | (simp; omega) | (simp only [Array.size_append]; simp; omega)) ?_
  refine wpAny_bind (wpAny_isInstance (T := "StopIteration") (b := true) ⟨_, Heap.get?_update_self _ (Heap.get?_push_size _ rfl) rfl, rfl⟩ isSubtype_stop (wpAny_pure (k _ fun b o hb q => ?_)))
  have e3 := Heap.get?_push_of_some { cls := .type "tuple", data := .seq ([] : List Value).toArray } (e1 b o hb q)
  rw [Heap.get?_update_other _ _ (Nat.ne_of_gt (Heap.lt_size e3))]
  exact Heap.get?_push_of_some _ e3
/-- a list walked there -/
theorem walks_hot {ex I ax : Addr} {oe : Obj} {vs : Array Value} (hh : A.handled = some (.ref ex)) (d2 : oe.data = .fields vs) (d3 : vs[2]? = some .none) (ne : ax ≠ I) (nx : ex ≠ I) (its : Array Value) :
    Walks prog w A I [I, ax, ex] [I] its.size (fun i v => its[i]? = some v) (fun i h => h.IsListIter I ax i ∧ h.IsList ax its ∧ h.get? ex = some oe) where
  sub := fun b hb => by rw [List.mem_singleton.mp hb]; exact List.mem_cons_self
  frame := fun _ _ _ st hk => ⟨st.1.at fun o e => hk I (by simp) o e, st.2.1.at fun o e => hk ax (by simp) o e, hk ex (by simp) _ st.2.2⟩
  item := fun i s Q E hi st hQ => by
    refine wpAny_pyNext_list_item st.1 st.2.1 (x := its[i]) (by simp [hi]) fun h' p1 p2 => ?_
    exact hQ _ h' s.toks (by simp [hi]) ⟨p1, st.2.1.extBut p2.extBut ne, p2.extBut _ _ nx st.2.2⟩ fun b o hb e => p2.extBut b o (fun z => hb (by simp [z])) e
  done := fun s Q E st hQ => next_list_end_hot ⟨hh, oe, vs, st.2.2, d2, d3⟩ nx st.1 st.2.1 (by simp) fun h' k => hQ h' s.toks fun b o hb e => k b o (fun z => hb (by simp [z])) e
  self := fun _ _ _ _ st hQ => wpAny_pyIter_listiter st.1 hQ
end
end DL

/-! Data: sum([int(flag) for flag in flags]) while an exception is handled. -/
namespace DL
open PySem L2 LamX
open PyProof.Rows (envOfC)
def cntB : List Bool → Int
  | [] => 0
  | b :: r => (if b then 1 else 0) + cntB r
theorem cntB_bounds : ∀ bs : List Bool, 0 ≤ cntB bs ∧ cntB bs ≤ bs.length
  | [] => ⟨Int.le_refl _, Int.le_refl _⟩
  | b :: r => by
    have h := cntB_bounds r
    simp only [cntB, List.length_cons]
    cases b <;> simp <;> omega
theorem preSum_cnt (bs : List Bool) : ∀ n, n ≤ bs.length → preSum (fun i => if bs.getD i false then 1 else 0) n = cntB (bs.take n)
  | 0, _ => by simp [preSum, cntB]
  | n + 1, h => by
    have ih := preSum_cnt bs n (by omega)
    have e : bs.take (n + 1) = bs.take n ++ [bs[n]] := (List.take_append_getElem (by omega)).symm
    have c : ∀ (a : List Bool) (b : Bool), cntB (a ++ [b]) = cntB a + (if b then 1 else 0) := by
      intro a b
      induction a with
      | nil => simp [cntB]
      | cons x a ih => simp only [List.cons_append, cntB, ih]; omega
    rw [e, c]
    simp only [preSum] at ih ⊢
    rw [ih]
    have q : bs.getD n false = bs[n] := by simp [List.getD, List.getElem?_eq_getElem (show n < bs.length by omega)]
    rw [q]
section
variable {X : Cx}
def tCntH (K : PySem.W.Frag) (ti : TE) : TE := fun σ H Q => ti σ H fun v H1 => ∃ (a : Addr) (bs : List Bool), v = .ref a ∧ SqL K H1 a (bs.map V.bl) ∧ bs.length ≤ 1000 ∧ Q (.int (cntB bs)) H1
theorem pe_cntH {p0 : Addr × Obj} (hot : L2H.Hot1 X.A p0) (hp0 : p0 ∈ X.pn) {x : Str} {iter : Expr} {ti : TE} {scope : Scope} {p q1 q2 q3 q4 q5 q6 : Pos} (hi : PE X iter ti) (hg : Gl X "sum") (hm : X.mg "sum" = none) (hmi : X.mg "int" = none)
    (hfree : ∀ y ∈ scope.names, y.2 ≠ .free) (hcell : ∀ y ∈ scope.names, y.2 ≠ .cell) (hkind : scope.kind = .function) (hnames : ∀ y ∈ scope.names, y.2 = .local → scope.names.lookup y.1 = some .local) (hx : scope.names.lookup x = some .local) (hgi : scope.names.lookup ("int" : Str) = some .globalImplicit)
    (hxd : (x == ("__debug__" : Str)) = false) (hs : ∀ v, foldedSetIterable iter X.env v = pure v) (hst : starEach [.ListComp (.Call (.Name "int" q1) [.Name x q2] [] q3) [⟨.Name x q4, iter, [], 0⟩] scope q5] X.env = (false, eval (.ListComp (.Call (.Name "int" q1) [.Name x q2] [] q3) [⟨.Name x q4, iter, [], 0⟩] scope q5) X.env) :: starEach [] X.env)
    (hst2 : ∀ C, starEach [.Name x q2] (compEnv scope C X.env) = (false, eval (.Name x q2) (compEnv scope C X.env)) :: starEach [] (compEnv scope C X.env)) :
    PE X (.Call (.Name "sum" p) [.ListComp (.Call (.Name "int" q1) [.Name x q2] [] q3) [⟨.Name x q4, iter, [], 0⟩] scope q5] [] q6) (tCntH X.K ti) := by
  refine ⟨fun pins s σ H Q I h => ?_⟩
  obtain ⟨hh, vs, d2, d3⟩ := hot
  refine wpAny_Call_Name_kw (ld_blt I hg hm (show bootBuiltins "sum" = some (.builtin "sum") by decide +kernel) ?_)
  refine PyProof.Rows.callWith_builtin1 ?_ hst rfl
  rw [hst]
  refine Calls.spliced_cons ?_
  refine wpAny_ListComp_walk (fun _ => true) (fun u y => ∃ b t, u = .bool b ∧ y = .int (if b then 1 else 0) t) hfree hcell hkind hnames hx ?_ hs
  refine thn (hi.run pins s σ H _ I h) fun u s1 ⟨v, H1, I1, rv, a, bs, ev, hsq, hbl, hQ⟩ => ?_
  subst ev
  obtain rfl : u = Value.ref a := rv
  obtain ⟨its, r1, pl, hz⟩ := I1.list hsq
  have eits : its = bs.map Value.bool := r1.bls
  have hpin := I1.pin p0 (List.mem_append_left _ hp0)
  have hex := hpin.1
  refine iter_any pl.isList fun s2 e2 st ne => ?_
  subst e2
  have nx : p0.1 ≠ s1.heap.objs.size := Nat.ne_of_lt (Heap.lt_size hex)
  refine ⟨_, _, _, _, _, _, rfl, walks_hot (oe := p0.2) hh d2 d3 ne nx its.toArray, ?_, ⟨st.1, st.2, Heap.get?_push_of_some _ hex⟩, ?_, ⟨?_, ?_⟩, ?_⟩
  · rw [List.size_toArray, ← r1.length]; exact hz
  · intro b hb
    have ha := pl.isList
    obtain ⟨oa, ha, _⟩ := ha
    simp only [List.mem_cons, List.mem_nil_iff, or_false] at hb
    show b < (s1.heap.push _).objs.size
    rw [Heap.size_push]
    rcases hb with rfl | rfl | rfl
    · exact Nat.lt_succ_self _
    · exact Nat.lt_succ_of_lt (Heap.lt_size ha)
    · exact Nat.lt_succ_of_lt (Heap.lt_size hex)
  · intro C i v s3 m3 E' hv hn hm3 hk htk
    exact wpAny_tests_nil ⟨rfl, s3.heap, s3.toks, rfl, fun _ _ e => e⟩
  · intro C i v s3 m3 E' hv hpv hn hm3 hk htk
    have hv : its.toArray[i]? = some v := hv
    obtain ⟨b, rfl⟩ : ∃ b, v = .bool b := by
      rw [eits] at hv
      simp only [List.getElem?_toArray, List.getElem?_map] at hv
      cases e : bs[i]? with
      | none => rw [e] at hv; cases hv
      | some b => rw [e] at hv; cases hv; exact ⟨b, rfl⟩
    have old : ∀ b o, X.base.get? b = some o → s3.heap.get? b = some o := fun b o e => by
      have e1 := I1.bk b o e
      exact hk b o (fun z => by rw [List.mem_singleton.mp z] at e1; exact Nat.lt_irrefl _ (Heap.lt_size e1)) (Heap.get?_push_of_some _ e1)
    obtain ⟨mb, h1, h2⟩ := I1.mod.blt
    refine wpAny_Call_Name_kw (Calls.Name_function_global hkind hgi (Calls.loadGlobal_builtin (by show s3.heap.Ns X.env.globals X.mg; rw [I1.ok.glob]; exact I1.mod.glob.keeps old) hmi (by show s3.heap.Ns X.env.builtins mb; rw [I1.ok.blt]; exact h1.keeps old) ((h2 "int" (by decide)).trans (show bootBuiltins "int" = some (.type "int") by decide +kernel)) ?_) (by decide))
    refine PyProof.Rows.callWith_type1 ?_ (hst2 C) rfl
    rw [hst2 C]
    refine Calls.spliced_cons (wpAny_Name (wpAny_loadName_local hkind hx hn hm3 ?_) hxd)
    refine Calls.spliced_nil (call_int_bool ⟨⟨b, _, rfl, rfl⟩, s3.heap, s3.toks + 1, rfl, fun _ _ e => e⟩)
  · intro Dl h' tk ys vs' hD hl hpl hlen hP hF hk
    refine Calls.spliced_nil ?_
    have hvs : vs' = bs.map Value.bool := by
      refine List.ext_getElem? fun j => ?_
      by_cases hj : j < vs'.length
      · have hq := hP j vs'[j] (List.getElem?_eq_getElem hj)
        have hq : its.toArray[j]? = some vs'[j] := hq
        rw [List.getElem?_eq_getElem hj, ← hq, eits]
        simp
      · have l1 : vs'.length = bs.length := by rw [hlen, List.size_toArray, eits, List.length_map]
        rw [List.getElem?_eq_none (by omega), List.getElem?_eq_none (by rw [List.length_map]; omega)]
    have hys : ∀ (i : Nat) (v : Value), ys[i]? = some v → ∃ t, v = .int (if bs.getD i false then 1 else 0) t := by
      have hF2 : Paired (fun u y => ∃ b t, u = .bool b ∧ y = Value.int (if b then 1 else 0) t) (bs.map Value.bool) ys.toList := by
        have := hF
        rw [hvs, List.filter_eq_self.mpr (by intros; rfl)] at this
        exact this
      have gen : ∀ (bs : List Bool) (l : List Value), Paired (fun u y => ∃ b t, u = .bool b ∧ y = Value.int (if b then 1 else 0) t) (bs.map Value.bool) l → ∀ (i : Nat) (v : Value), l[i]? = some v → ∃ t, v = .int (if bs.getD i false then 1 else 0) t := by
        intro bs
        induction bs with
        | nil => intro l hl i v e; cases hl; simp at e
        | cons b bs ih =>
          intro l hl i v e
          cases hl with
          | cons hr ht =>
            cases i with
            | zero =>
              simp at e
              subst e
              obtain ⟨b', t, e1, e2⟩ := hr
              cases e1
              exact ⟨t, by simpa using e2⟩
            | succ i =>
              have := ih _ ht i v (by simpa using e)
              simpa using this
      intro i v e
      exact gen bs ys.toList hF2 i v (by simpa using e)
    have hysz : ys.size = bs.length := by
      have := Paired.length hF
      rw [hvs, List.filter_eq_self.mpr (by intros; rfl), List.length_map, Array.length_toList] at this
      exact this.symm
    have hDI : p0.1 ≠ Dl := fun z => by
      have z1 := Heap.get?_push_of_some { cls := .type "list_iterator", data := .fields #[.ref a, .int 0 0] } hex
      rw [z] at z1
      have z2 : (s1.heap.push { cls := .type "list_iterator", data := .fields #[.ref a, .int 0 0] }).get? Dl = none := hD
      rw [z1] at z2; cases z2
    have hex' : h'.get? p0.1 = some p0.2 := hk _ _ (fun z => nx (List.mem_singleton.mp z)) (Heap.get?_push_of_some _ hex)
    refine call_sum_walk ?_
    refine iter_any hl fun s4 e4 st4 ne4 => ?_
    subst e4
    have nx4 : p0.1 ≠ h'.objs.size := Nat.ne_of_lt (Heap.lt_size hex')
    refine ⟨_, _, _, _, _, _, fun i => if bs.getD i false then 1 else 0, rfl, walks_hot (A := X.A.in1) (oe := p0.2) hh d2 d3 ne4 nx4 ys, ⟨st4.1, st4.2, Heap.get?_push_of_some _ hex'⟩, ?_, hys, ?_, ?_⟩
    · intro b hb
      obtain ⟨ol, hol, _⟩ := hl
      simp only [List.mem_cons, List.mem_nil_iff, or_false] at hb
      show b < (h'.push _).objs.size
      rw [Heap.size_push]
      rcases hb with rfl | rfl | rfl
      · exact Nat.lt_succ_self _
      · exact Nat.lt_succ_of_lt (Heap.lt_size hol)
      · exact Nat.lt_succ_of_lt (Heap.lt_size hex')
    · intro j hj
      rw [hysz] at hj
      have c1 := preSum_cnt bs (j + 1) (by omega)
      have c2 := cntB_bounds (bs.take (j + 1))
      rw [List.length_take] at c2
      have c1' : preSum (fun i => if bs.getD i false = true then 1 else 0) (j + 1) = cntB (bs.take (j + 1)) := c1
      unfold InLong
      rw [c1']
      refine ⟨?_, by omega, by omega⟩
      show -(2 ^ 63) ≤ (if bs.getD j false = true then (1 : Int) else 0) ∧ (if bs.getD j false = true then (1 : Int) else 0) < 2 ^ 63
      by_cases hb : bs.getD j false = true
      · rw [if_pos hb]; decide
      · rw [if_neg hb]; decide
    · intro h2 tk2 t2 hk2
      have c1 := preSum_cnt bs bs.length (Nat.le_refl _)
      rw [List.take_length] at c1
      rw [hysz]
      have c1' : preSum (fun i => if bs.getD i false = true then 1 else 0) bs.length = cntB bs := c1
      rw [c1']
      refine ⟨.int (cntB bs), H1, ?_, ⟨_, rfl⟩, hQ⟩
      refine I1.kept (t' := tk2) fun b o e => hk2 b o (fun z => ?_) (Heap.get?_push_of_some _ (hk b o (fun z => ?_) (Heap.get?_push_of_some _ e)))
      · rw [List.mem_singleton.mp z] at e
        have e5 := hk _ _ (fun z2 => by
          have := List.mem_singleton.mp z2
          rw [this] at e
          exact Nat.lt_irrefl _ (Heap.lt_size e)) (Heap.get?_push_of_some { cls := .type "list_iterator", data := .fields #[.ref a, .int 0 0] } e)
        exact Nat.lt_irrefl _ (Heap.lt_size e5)
      · rw [List.mem_singleton.mp z] at e
        exact Nat.lt_irrefl _ (Heap.lt_size e)
end
end DL

/-! Data: told(lambda: ..), the word of a refusal. -/
namespace DL
open PySem L2 LamX
open PyProof.Rows (envOfC)
section
variable {K : PySem.W.Frag} {T : Wd} {Fr H0 : Hp} {ρ : DSt} {σ : St} {Hd H : Hp}
theorem Sat.widenT {H' : Hp} (s : Sat K T Fr H0 ρ σ Hd H) (e : ExtN H H') (t : Tabs T.tb H') : Sat K T Fr H0 ρ σ Hd H' := by
  refine ⟨s.len, s.base, fun b o q => e b o (s.keep b o q) (fun ps z => s.ntb.1 b ps (by rw [q, z])), s.ntb, t, fun b o q => ?_, fun i u q => ?_, s.sep⟩
  · obtain ⟨h0, h1, h2⟩ := s.frame b o q
    exact ⟨h0, e b o h1 h0, h2⟩
  · obtain ⟨v, h1, h2⟩ := s.slot i u q
    exact ⟨v, h1, h2.ext (Sub.refl _) fun b o hb ho hn hf => ⟨hb, e b o ho hn, hf⟩⟩
theorem Sat.widen {H' : Hp} (s : Sat K T Fr H0 ρ σ Hd H) (e : Sub H H') : Sat K T Fr H0 ρ σ Hd H' := s.widenT (ExtN.of e) (s.tabs.ext e)
end
/-! ### a def called while an exception is handled: that exception is known -/
section
variable {X : Cx} {p : Addr × Obj}
theorem pe_hot {x : Str} {f : Addr} {k : Nat} {N ps : List Str} {qual : Str} {params : Arguments} {body : List Stmt} {scope : Scope} {kV doc pm cdv ct oc : Value} {an od : Option Addr} {osl : Array (Option Value)} {e : Expr} {es : List Expr} {t : TA} {q pos : Pos} {sp : List V → Hp → VK → Prop}
    (hot : L2H.Hot1 X.A p) (hp : p ∈ X.pn) (hg : Gl X x) (hm : X.mg x = some (.ref f)) (hk : PySem.W.keepIn X.K (.ref f) = true)
    (lk : X.K.lookup f = some ⟨oc, od, .func (PySem.W.fnOf x qual params body scope .none kV doc pm an cdv ct), osl⟩) (hcd : PySem.W.codeIn X.K cdv qual = true) (S : FnScope N ps scope) (hb : Binds X.K (PySem.W.fnOf x qual params body scope .none kV doc pm an cdv ct) ps [])
    (hr : L2H.RoomH (k + 1) X.A) (hl : ∀ vs H Q, sp vs H Q → vs.length = ps.length)
    (hbody : ∀ (A : Around) (outer : List Env) (s : Shared) (H : Hp) (vs : List V) (Q : VK), L2H.Hot1 A p → L2H.RoomH k (A.deeper (envOfC qual scope s.heap.objs.size f cdv)) → sp vs H Q →
      ∃ u, PSs (L2H.cxH C8.CX0 X.prog X.w X.K X.mg X.base N qual scope f cdv A outer s H C8.E0 p).nox body u ∧ u { nx := fun _ H' => Q .non H', rt := Q } (L2.start N vs) H)
    (ha : PA X (e :: es) t) (he : starEach (e :: es) X.env = (false, eval e X.env) :: starEach es X.env := by rfl) (hpl : (backTo pos (starEach es X.env)).any (·.1) = false := by rfl) (hdb : (x == ("__debug__" : Str)) = false := by decide) :
    PE X (.Call (.Name x q) (e :: es) [] pos) (fun σ H Q => t σ H fun vs H1 => sp vs H1 Q) := by
  refine ⟨fun pins s σ H Q I h => wpAny_Call_Name_kw (ld_glob I hg hm ?_ hdb)⟩
  refine PySem.W.callWith_K (h₀ := X.base) I.ok.mod.kin hk (thn (ha.run pos pins s σ H _ I h) fun us s1 ⟨vs, H1, I1, r, w1⟩ => ⟨I1.kIn, ?_⟩) he hpl
  have P1 := I1.pin p (List.mem_append_left _ hp)
  have hpin : L2H.PinOk X.stack H1 s1 p := ⟨P1.1, P1.2.1, fun z => (List.mem_cons.mp (I1.stkSub p.1 z)).elim P1.2.2.1 P1.2.2.2.1, P1.2.2.2.2⟩
  have e0 := I1.env0
  have lv : vs.length = ps.length := hl _ _ _ w1
  have bnd := hb s1 us I1.kIn (by rw [List.append_nil, ← r.length]; exact lv)
  rw [List.append_nil] at bnd
  have KX : X.K.In s1.heap := I1.kIn
  have lim : s1.heap.NoLimit := I1.nolimit
  have rc : codeAny (model X.prog X.w) X.A (.call (.ref f) ⟨us, []⟩) (CR C8.CX0 X.stack X.prog X.w H1 s1 Q C8.E0) s1 := by
    refine codeAny_call_function hr.depth (KX _ _ lk) rfl S.co S.gen rfl (PySem.W.codeRec_of KX hcd) (bnd _ _ _ _ ?_)
    refine wpAny_newFunctionEnv_cells S.kind (fun y hy => ?_) fun env hen s2 x2 => ?_
    · rcases S.par y.1 (List.of_mem_zip hy).1 with z | z
      · exact .inl z
      · exact .inr ⟨z, PySem.W.cellsFrom_some _ _ _ (.inl z)⟩
    subst hen
    refine ⟨lim.keeps x2.toInCall.keep, codeAny_func ?_⟩
    obtain ⟨u, hu, hq⟩ := hbody X.A X.stack s1 H1 vs Q hot (hr.deeper _) w1
    have J : L2.Inv (L2H.cxH C8.CX0 X.prog X.w X.K X.mg X.base N qual scope f cdv X.A X.stack s1 H1 C8.E0 p) [] (L2.start N vs) H1 s2 := L2H.inv_startH S hpin e0 lv r x2
    refine wpAny_mono (hu.nox.run [] s2 (L2.start N vs) H1 _ J hq) (fun fl s' hs => ?_) fun _ _ z => z
    cases fl with
    | ret u =>
      obtain ⟨v, σ', H', J', rv, w'⟩ := hs
      exact ⟨v, H', J'.os, J'.bare, J'.base, J'.hok, rv, w'⟩
    | next =>
      obtain ⟨σ', H', J', w'⟩ := hs
      exact ⟨V.non, H', J'.os, J'.bare, J'.base, J'.hok, rfl, w'⟩
    | brk => obtain ⟨_, _, _, z⟩ := hs; exact z.elim
    | cont => obtain ⟨_, _, _, z⟩ := hs; exact z.elim
  refine wpAny_call (codeAny_mono rc fun r s' hq => ?_)
  cases r with
  | error e => exact (show False from hq).elim
  | ok fl =>
    cases fl with
    | ret u => exact I1.after hq
    | next => exact (show False from hq).elim
    | brk => exact (show False from hq).elim
    | cont => exact (show False from hq).elim
/-- isinstance(e, C) of that exception -/
theorem call_isH {a C : Addr} {oe : Obj} (hp : (a, oe) ∈ X.pn) (F : ExcC X.K C) (h1 : oe.cls = .ref C) (h2 : oe.dict = none) (hf : ∃ vs, oe.data = .fields vs) : CallR X (.builtin "isinstance") (rIsE X.K C a) := by
  intro pins s σ H xs us Q I r ⟨c, cv, b, ex, hcv, e, q⟩
  subst ex
  obtain ⟨u1, u2, rfl, r1, r2⟩ := vals2 r
  have e2 := hcv _ r2
  subst e2
  obtain rfl : u1 = Value.ref a := r1
  have hg := (I.pin (a, oe) (List.mem_append_left _ hp)).1
  obtain ⟨vs, hv⟩ := hf
  have J : PySem.W.InstAt s.heap a oe C none := by
    obtain ⟨oc, od, oda, osl⟩ := oe
    dsimp only at h1 h2 hv
    subst h1 h2 hv
    exact ⟨hg, rfl, rfl, trivial⟩
  exact PySem.W.kia_one (PySem.W.handS_kitx_exc F.hg F.hk F.hs F.hd F.ha F.hn F.ht F.hm) I.kIn J e (fun z => nomatch z) fun tk => ⟨.bl b, H, I.kept (t' := tk) fun _ _ z => z, rfl, q⟩
end
/-! ### the lambda's body -/
abbrev lamN (X : Cx) (A : Around) (outer : List Env) (s : Shared) (H : Hp) (E : XK) (scope : Scope) (f c' : Addr) : Cx :=
  (lamCx X A outer s H E scope f c').wish fun e s' => wpAny (model X.prog X.w) (A.deeper (lamEnv X scope s.heap.objs.size f c')) (leaving (lamEnv X scope s.heap.objs.size f c') e) (fun _ s'' => L2N.CX X.prog X.w outer H s E e s'') (fun e' s'' => L2N.CX X.prog X.w outer H s E e' s'') s'
section
variable {X : Cx} {pins : List (Addr × Obj)} {σ : L2.St} {H HZ : Hp} {s s1 : Shared}
/-- x(), in the def that got the lambda -/
theorem pe_deed {Eg : XK} {Ng : List Str} {qg : Str} {sg : Scope} {g f c' : Addr} {cdg pm ctv : Value} {params : Arguments} {body : Expr} {scope : Scope} {k i : Nat} {a : Str} {pn : List (Addr × Obj)} {xe : Value → Shared → Prop} {W : WX} {E : XK} {tb : TE} {p1 p2 : Pos}
    (I : L2.Inv X pins σ H s) (L : LamS X.env.scope scope) (hf : s.heap.get? f = some (PySem.W.kla_obj "<lambda>" (X.env.qual ++ "<lambda>") params body scope (cloFrom X.env.cells scope.names []) pm c' ctv)) (hfn : H f = none) (hfr : f ∉ frs X.stack)
    (hbind : bindArgs (PySem.W.kla_fn "<lambda>" (X.env.qual ++ "<lambda>") params body scope (cloFrom X.env.cells scope.names []) pm (.ref c') ctv) ⟨[], []⟩ = pure [])
    (tk : L2N.Takes ((cxOf C8.CX0 X.prog X.w X.K X.mg X.base Ng qg sg g cdg X.A X.stack s H Eg).nox.tr pn xe) W) (hW : ∀ cls d σ' H', E cls d H' → W cls d σ' H') (hr : Room (k + 1) (X.A.deeper (envOfC qg sg s.heap.objs.size g cdg)))
    (hbody : ∀ (A : Around) (outer : List Env) (s : Shared) (H : Hp), Room k (A.deeper (lamEnv X scope s.heap.objs.size f c')) → PE (lamN X A outer s H E scope f c') body tb)
    (hN : Ng[i]? = some a) (hv : Vis sg a) (hd : (a == ("__debug__" : Str)) = false := by decide) (hcd : (a == ("__classdict__" : Str)) = false := by decide) :
    PE ((cxOf C8.CX0 X.prog X.w X.K X.mg X.base Ng qg sg g cdg X.A X.stack s H Eg).nox.tr pn xe) (.Call (.Name a p1) [] [] p2)
      (fun σZ HZ Q => σZ[i]? = some (some (.ref f)) ∧ HZ c' = some (CodeO c' (X.env.qual ++ "<lambda>")) ∧ tb σ HZ Q) := by
  refine ⟨fun pinsZ sZ σZ HZ Q IZ ⟨w1, w2, w3⟩ => ?_⟩
  have hvar := (pe_var (X := (cxOf C8.CX0 X.prog X.w X.K X.mg X.base Ng qg sg g cdg X.A X.stack s H Eg).nox.tr pn xe) (pos := p1) (i := i) hN hv hd hcd).run pinsZ sZ σZ HZ (fun v H1 => v = .ref f ∧ H1 = HZ) IZ ⟨.ref f, w1, rfl, rfl⟩
  refine wpAny_Call_Name_kw (thn hvar fun u s1 ⟨v, H1, I1, r1, ev, eH⟩ => ?_)
  subst ev
  subst eH
  obtain rfl : u = Value.ref f := r1
  have hf1 : s1.heap.get? f = some (PySem.W.kla_obj "<lambda>" (X.env.qual ++ "<lambda>") params body scope (cloFrom X.env.cells scope.names []) pm c' ctv) := I1.base.keep f _ hf hfn hfr (fun z => nomatch (show f ∈ ([] : List Addr) from z))
  refine PySem.W.callWith_F0 ⟨_, _, _, _, hf1⟩ ?_
  have un : Un (frs X.stack) [] H H1 s.heap s1.heap := I1.base
  obtain ⟨⟨oc, vs, t, hoc, hdc, hvc⟩, _, _⟩ := I1.hok c' _ w2
  have rc : codeAny (model X.prog X.w) (X.A.deeper (envOfC qg sg s.heap.objs.size g cdg)) (.call (.ref f) ⟨[], []⟩) (CR (L2N.CX X.prog X.w) (envOfC qg sg s.heap.objs.size g cdg :: X.stack) X.prog X.w H1 s1 Q E) s1 := by
    refine PySem.W.kla_callFunE hr.depth hf1 rfl L.co L.gen rfl ⟨c', oc, vs, t, rfl, hoc, hdc, hvc⟩ ?_
    rw [hbind]
    refine wpAny_pure (wpAny_newFunctionEnv (fun y hy => (L.own y hy).2) (fun y hy => absurd hy (by simp)) (fun h2 hns hsb => ⟨I1.nolimit.fresh _ hsb, ?_⟩) L.kind)
    show codeAny _ _ (.expr body (lamEnv X scope s1.heap.objs.size f c')) _ _
    have kp : ∀ b o, s1.heap.get? b = some o → h2.get? b = some o := fun b o e => hsb.extBut b o (Nat.ne_of_lt (Heap.lt_size e)) (Heap.get?_push_of_some _ e)
    have J : L2.Inv (lamCx X (X.A.deeper (envOfC qg sg s.heap.objs.size g cdg)) (envOfC qg sg s.heap.objs.size g cdg :: X.stack) s1 H1 E scope f c') [] σ H1 { s1 with heap := h2, toks := s1.toks + ([] : List (Str × Value)).length } :=
      lam_start2 I L I1.env0 hr.hd un hns kp
    refine PySem.W.kla_codeExpr (wpAny_mono ((hbody _ _ s1 H1 (hr.deeper _)).run [] _ _ H1 Q (J.wish _) w3) (fun v s' hq => ?_) fun e s' hq => hq)
    obtain ⟨w', H', J', rv, q⟩ := hq
    exact ⟨w', H', J'.os, J'.bare, J'.base, J'.hok, rv, q⟩
  have hx : Passes (L2N.CX X.prog X.w) ((cxOf C8.CX0 X.prog X.w X.K X.mg X.base Ng qg sg g cdg X.A X.stack s H Eg).nox.tr pn xe) E := L2N.passes_call tk hW
  refine wpAny_call (codeAny_mono rc fun r s' hq => ?_)
  cases r with
  | error e => exact hx pinsZ σZ H1 s1 e s' I1 hq
  | ok fl =>
    cases fl with
    | ret u => exact I1.after hq
    | next => exact (show False from hq).elim
    | brk => exact (show False from hq).elim
    | cont => exact (show False from hq).elim
end
end DL

/-! Data: told(lambda: ..): what the deed tells, or its refusal's name. -/
namespace DL
open PySem L2 LamX
open PyProof.Rows (envOfC)
def dTold (cs : List Str) (Te : DE) : DE := fun _ ρ Q => Te (fun c => cs.contains c = true ∧ Q (.d (.str c))) ρ Q
/-- the word of a refusal, asked while it is handled -/
def WordsOk (P : Program) (w : World) (K : PySem.W.Frag) (mg : Str → Option Value) (base : Heap) (T : Wd) (cs : List Str) : Prop :=
  ∀ (Y : Cx), Y.prog = P → Y.w = w → Y.K = K → Y.mg = mg → Y.base = base → ∀ (a : Addr) (oe : Obj) (c : Str), (a, oe) ∈ Y.pn → L2H.Hot1 Y.A (a, oe) → L2H.RoomH 3 Y.A → Gl Y "_law_word" → cs.contains c = true → oe.cls = .ref (T.ca c) → oe.dict = none → (∃ vs, oe.data = .fields vs) →
    ∀ (e : Expr) (te : TE) (p pos : Pos), PE Y e te → starEach [e] Y.env = (false, eval e Y.env) :: starEach [] Y.env → PE Y (.Call (.Name "_law_word" p) [e] [] pos) (fun σ H Q => te σ H fun v H1 => v = .ref a ∧ ∀ H', Sub H1 H' → Q (.str c) H')
theorem takesN0 {X : Cx} : L2N.Takes X (fun _ _ _ _ => False) := fun _ _ ⟨_, _, _, _, _, _, _, _, _, _, _, _, _, _, _, _, z⟩ => z.elim
structure ToldAt (K : PySem.W.Frag) (mg : Str → Option Value) (base : Heap) (T : Wd) (cs : List Str) (g CN : Addr) (sg : Scope) : Prop where
  mgT : mg "_law_told" = some (.ref g)
  kp : PySem.W.keepIn K (.ref g) = true
  ex : ∃ (pg : Arguments) (p1 p2 p3 p4 p5 p6 p7 p8 p9 p10 : Pos) (kV doc pm cdv ct oc : Value) (an od : Option Addr) (osl : Array (Option Value)),
    K.lookup g = some ⟨oc, od, .func (PySem.W.fnOf "_law_told" "_law_told" pg [.Try [.Return (some (.Call (.Name "deed" p1) [] [] p2)) p3] [.ExceptHandler (some (.Name "NoughtError" p4)) (some "e") [.Return (some (.Call (.Name "_law_word" p5) [.Name "e" p6] [] p7)) p8] p9] [] [] p10] sg .none kV doc pm an cdv ct), osl⟩ ∧
      PySem.W.codeIn K cdv "_law_told" = true ∧ L2.Binds K (PySem.W.fnOf "_law_told" "_law_told" pg [.Try [.Return (some (.Call (.Name "deed" p1) [] [] p2)) p3] [.ExceptHandler (some (.Name "NoughtError" p4)) (some "e") [.Return (some (.Call (.Name "_law_word" p5) [.Name "e" p6] [] p7)) p8] p9] [] [] p10] sg .none kV doc pm an cdv ct) ["deed"] []
  sc : FnScope ["deed", "e"] ["deed"] sg
  lD : sg.names.lookup ("deed" : Str) = some .local
  lE : sg.names.lookup ("e" : Str) = some .local
  lN : sg.names.lookup ("NoughtError" : Str) = some .globalImplicit
  lW : sg.names.lookup ("_law_word" : Str) = some .globalImplicit
  mgN : mg "NoughtError" = some (.ref CN)
  sub : ∀ c, cs.contains c = true → PySem.W.exmOne K (.ref (T.ca c)) (.ref CN) = some true
section
variable {X : Cx} {T : Wd} {E : XK} {cs : List Str}
theorem de_told {g CN c P : Addr} {sg scope : Scope} {params : Arguments} {body : Expr} {Te : DE} {p lpos pos : Pos} {k : Nat} (F : ToldAt X.K X.mg X.base T cs g CN sg) (W : WordsOk X.prog X.w X.K X.mg X.base T cs)
    (TB : TabB X.base X.mg c P) (hcode : X.env.code = .ref c) (hmT : (P, X.env.qual ++ "<lambda>") ∈ T.tb) (hu : ∀ p ∈ T.tb, p.1 = P → p.2 = X.env.qual ++ "<lambda>") (hr : Room (k + 7) X.A) (L : LamS X.env.scope scope)
    (hbody : ∀ (A : Around) (outer : List Env) (s : Shared) (H : Hp) (E' : XK) (f c' : Addr), Room (k + 5) (A.deeper (lamEnv X scope s.heap.objs.size f c')) → ED (lamN X A outer s H E' scope f c') T E' body Te)
    (hg : Gl X "_law_told" := by rfl) (hdef : defaultsOf params X.env = ([], []) := by rfl)
    (hbind : ∀ (q : Str) (cl : List (Str × Addr)) (pm cv ctv : Value), bindArgs (PySem.W.kla_fn "<lambda>" q params body scope cl pm cv ctv) ⟨[], []⟩ = pure [] := by intros; rfl) :
    ED X T E (.Call (.Name "_law_told" p) [.Lambda params body scope lpos] [] pos) (dTold cs Te) := by
  refine ⟨fun pins s σ H Q I ⟨xc, Fr, H0, ρ, Hd, q, sat, w, hx, k0⟩ => ?_⟩
  obtain ⟨pg, p1, p2, p3, p4, p5, p6, p7, p8, p9, p10, kV, doc, pm, cdv, ct, oc, an, od, osl, lk, hcg, hb⟩ := F.ex
  refine wpAny_Call_Name_kw (ld_glob I hg F.mgT ?_)
  refine PySem.W.callWith_K (h₀ := X.base) I.ok.mod.kin F.kp ?_ (by rfl) (by rfl)
  show wpAny _ X.A (spliced ((false, eval (.Lambda params body scope lpos) X.env) :: backTo pos (starEach [] X.env))) _ _ _
  refine Calls.spliced_cons (lam_make2 I TB hcode hmT hu sat.tabs hdef (L.has I.ok) fun f c' pm' ctv H1 s' I1 eN T1 hf hfn hfr hco => Calls.spliced_nil ⟨I1.kIn, ?_⟩)
  have sat1 := sat.widenT eN T1
  have rc : codeAny (model X.prog X.w) X.A (.call (.ref g) ⟨[.ref f], []⟩) (CR C8.CX0 X.stack X.prog X.w H1 s' Q C8.E0) s' := by
    refine run_ofS (k := k + 6) (N := ["deed", "e"]) (ps := ["deed"]) (us := [.ref f]) (vs := [.ref f]) lk hcg F.sc hr I1.env0 (hb s' [.ref f] I1.kIn rfl) (.cons rfl .nil) rfl fun hr' => ?_
    have gN : Gl (cxOf C8.CX0 X.prog X.w X.K X.mg X.base ["deed", "e"] "_law_told" sg g cdv X.A X.stack s' H1 C8.E0).nox "NoughtError" := F.lN
    refine ⟨_, PSs.nox (pss_one (L2N.ps_try_as (X := (cxOf C8.CX0 X.prog X.w X.K X.mg X.base ["deed", "e"] "_law_told" sg g cdv X.A X.stack s' H1 C8.E0).nox) (i := 1) (c := .ref CN)
      (tb := fun W' D σZ HZ => ∃ Ech : XK, (∀ cls d σ' H', Ech cls d H' → W' cls d σ' H') ∧ σZ[0]? = some (some (.ref f)) ∧ HZ c' = some (CodeO c' (X.env.qual ++ "<lambda>")) ∧ LE X.K T Ech Te σ HZ D.rt)
      (ts := fun a cls d D σZ HZ => (σZ.length = 2 → σZ[1]? = some (some (.ref a))) ∧ ∃ c1, cs.contains c1 = true ∧ cls = .ref (T.ca c1) ∧ d = none ∧ ∀ H2, Sub HZ H2 → D.rt (.str c1) H2)
      (Wout := fun _ _ _ _ => False) rfl rfl F.sc.nd rfl F.lE ⟨gN, by decide, .inl F.mgN⟩ takesN0 (fun W' pn xe tk _ => ?_) (fun a oe cls d pn hz hfl => ?_))), ?_⟩
    · refine ⟨fun pinsZ sZ σZ HZ D IZ ⟨Ech, hW, h1, h2, h3⟩ => ?_⟩
      have hd := pe_deed (i := 0) (p1 := p1) (p2 := p2) (E := Ech) (tb := LE X.K T Ech Te) (a := "deed") (Ng := ["deed", "e"]) I1 L hf hfn hfr (hbind _ _ _ _ _) tk hW hr' (fun A outer s2 H2 hr2 => (hbody A outer s2 H2 Ech f c' hr2 : PE _ _ _)) rfl (.inl F.lD)
      exact (pss_one (ps_ret (pos := p3) hd)).run pinsZ sZ σZ HZ D IZ ⟨h1, h2, h3⟩
    · refine ⟨fun pinsZ sZ σZ HZ D IZ ⟨h1, c1, hc1, e1, e2, h3⟩ => ?_⟩
      subst e1
      subst e2
      obtain ⟨fv, hfv⟩ := hfl
      have hvis : PE ((cxOf C8.CX0 X.prog X.w X.K X.mg X.base ["deed", "e"] "_law_told" sg g cdv X.A X.stack s' H1 C8.E0).nox.suite a ((a, oe) :: pn)) (.Name "e" p6) (tVar 1) := pe_var rfl (.inl F.lE)
      have hw := W ((cxOf C8.CX0 X.prog X.w X.K X.mg X.base ["deed", "e"] "_law_told" sg g cdv X.A X.stack s' H1 C8.E0).nox.suite a ((a, oe) :: pn)) rfl rfl rfl rfl rfl a oe c1 List.mem_cons_self ⟨rfl, fv, hfv, hz.2.2 fv hfv⟩
        ((⟨hr'.dp, hr'.un⟩ : L2H.RoomH (k + 6) ((cxOf C8.CX0 X.prog X.w X.K X.mg X.base ["deed", "e"] "_law_told" sg g cdv X.A X.stack s' H1 C8.E0).nox.suite a ((a, oe) :: pn)).A).mono (by omega)) F.lW hc1 hz.1 hz.2.1 ⟨fv, hfv⟩ (.Name "e" p6) (tVar 1) p5 p7 hvis rfl
      exact (pss_one (ps_ret (pos := p8) hw)).run pinsZ sZ σZ HZ D IZ ⟨_, h1 IZ.len, rfl, h3⟩
    · refine ⟨fun cls d H2 => ∃ c1, cs.contains c1 = true ∧ cls = .ref (T.ca c1) ∧ d = none ∧ ∀ H3, Sub H2 H3 → Q (.str c1) H3, fun cls d σ' H2 ⟨c1, h1, h2, h3, h4⟩ => ⟨true, by rw [h2]; exact F.sub c1 h1, fun _ a _ => ⟨fun hl => ?_, c1, h1, h2, h3, h4⟩, fun z => by cases z⟩, rfl, hco, ?_⟩
      · rw [List.length_set] at hl
        rw [List.getElem?_set_self (by omega)]
      · refine ⟨_, Fr, Hd, ρ, Hd, q, sat1.rebase (Sub.refl _), w, fun C Hd2 H2 s2 ⟨hc, hq⟩ => ⟨C, hc, rfl, rfl, fun H3 sb => k0 (.str C) (.d (.str C)) Hd2 H3 ((s2.rebase (sat.base.trans s2.base)).widen sb) s2.base (Dt.str C) hq⟩, fun v x Hd2 H2 s2 b2 ok2 w2 => k0 v x Hd2 H2 (s2.rebase (sat.base.trans s2.base)) b2 ok2 w2⟩
  refine wpAny_call (codeAny_mono rc fun r s2 hq => ?_)
  cases r with
  | error e => exact (show False from hq).elim
  | ok fl =>
    cases fl with
    | ret u => exact I1.after hq
    | next => exact (show False from hq).elim
    | brk => exact (show False from hq).elim
    | cont => exact (show False from hq).elim
end
end DL

/-! Data: refusals, targets, texts, one times a tuple. -/
namespace DL
open PySem PySem.Spec PyProof.Rows L2 LamX
section
variable {X : Cx} {T : Wd} {E : XK}
theorem passN0 : Passes (L2N.CX X.prog X.w) X C8.E0 := fun _ _ _ _ _ _ _ ⟨_, _, _, _, _, _, _, _, _, _, _, _, z⟩ => z.elim
/-- an own class of refusals, known by its name -/
structure ExC (K : PySem.W.Frag) (mg : Str → Option Value) (T : Wd) (x : Str) : Prop where
  ei : PySem.W.excIn K (T.ca x) [.type "ValueError", .type "Exception", .type "BaseException", .type "object"] "ValueError.__new__" = true
  gC : mg x = some (.ref (T.ca x))
  kC : PySem.W.keepIn K (.ref (T.ca x)) = true
  r1 : PySem.W.subIn K (.ref (T.ca x)) (.type "BaseException") = some true
  r2 : PySem.W.typeIn K (.ref (T.ca x)) = some (.type "type")
theorem sd_raiseC {x m : Str} {j : Nat} {p p2 cpos pos : Pos} (F : ExC X.K X.mg T x) (tk : L2N.Takes X (fun cls d _ H => E cls d H)) (hg : Gl X x := by rfl) (hdb : (x == ("__debug__" : Str)) = false := by decide) (hc : X.calm = true := by rfl) :
    SD X T E (.Raise (some (.Call (.Name x p) [.Constant (.str m) j p2] [] cpos)) none pos) (dRaise x) :=
  sd_raise (fun σ H Q h => h) tk (L2N.pmk_own PySem.F.excBase_ValueError F.ei F.gC F.kC (raises_own F.r1 F.r2) hg hdb) hc
theorem pg_tp2 {x y : Str} {p1 p2 pos : Pos} {k : Nat} (i j : Nat) (hN : X.N.Nodup) (hi : X.N[i]? = some x := by rfl) (hj : X.N[j]? = some y := by rfl) (hx : Loc X.env.scope x := by first | exact Or.inl rfl | exact Or.inr rfl) (hy : Loc X.env.scope y := by first | exact Or.inl rfl | exact Or.inr rfl)
    (hf : X.fn x = true ∨ X.env.scope.names.lookup x = some .local := by first | exact .inl rfl | exact .inr rfl) (hf2 : X.fn y = true ∨ X.env.scope.names.lookup y = some .local := by first | exact .inl rfl | exact .inr rfl) (hc : X.calm = true := by rfl) :
    PG X (.Tuple [.Name x p1, .Name y p2] k pos) (gOf X.K (.tp [i, j])) :=
  pg_tup hc (pgs_cons (pg_name hN hi hx hf) (pgs_cons (pg_name hN hj hy hf2) pgs_nil))
theorem pg_tp3 {x y z : Str} {p1 p2 p3 pos : Pos} {k : Nat} (i j l : Nat) (hN : X.N.Nodup) (hi : X.N[i]? = some x := by rfl) (hj : X.N[j]? = some y := by rfl) (hl : X.N[l]? = some z := by rfl) (hx : Loc X.env.scope x := by first | exact Or.inl rfl | exact Or.inr rfl) (hy : Loc X.env.scope y := by first | exact Or.inl rfl | exact Or.inr rfl) (hz : Loc X.env.scope z := by first | exact Or.inl rfl | exact Or.inr rfl)
    (hf : X.fn x = true ∨ X.env.scope.names.lookup x = some .local := by first | exact .inl rfl | exact .inr rfl) (hf2 : X.fn y = true ∨ X.env.scope.names.lookup y = some .local := by first | exact .inl rfl | exact .inr rfl) (hf3 : X.fn z = true ∨ X.env.scope.names.lookup z = some .local := by first | exact .inl rfl | exact .inr rfl) (hc : X.calm = true := by rfl) :
    PG X (.Tuple [.Name x p1, .Name y p2, .Name z p3] k pos) (gOf X.K (.tp [i, j, l])) :=
  pg_tup hc (pgs_cons (pg_name hN hi hx hf) (pgs_cons (pg_name hN hj hy hf2) (pgs_cons (pg_name hN hl hz hf3) pgs_nil)))
/-! ### a text times a number -/
def sRep (x : Str) (n : Nat) : Str := ⟨(List.replicate n x.cps).foldl (· ++ ·) #[]⟩
def rRepS : R2 := fun x y H Q => ∃ a k, x = .str a ∧ y = .int k ∧ 1 ≤ a.length ∧ -(2 ^ 63) ≤ k ∧ k < 2 ^ 63 ∧ a.length * k.toNat ≤ sizeLine ∧ Q (.str (sRep a k.toNat)) H
theorem op_repS : OpR X (binaryOp .Mult) rRepS := by
  intro pins s σ H x y v u Q I rx ry h
  obtain ⟨a, k, rfl, rfl, h0, h1, h2, hz, q⟩ := h
  obtain ⟨t, rfl⟩ := rx
  obtain ⟨t2, rfl⟩ := ry
  have hsl : (sizeLine : Nat) ≤ (2 ^ 63 - 1) := by decide
  refine PySem.P.mul_str (by rw [decide_eq_false (by omega), decide_eq_false (by omega)]; rfl) (fun hk _ => ?_) (fun hk _ => ?_) ?_
  · have hk1 : 1 ≤ k := by omega
    have e : (k.toNat : Int) = k := Int.toNat_of_nonneg (by omega)
    have z : (a.length : Int) * k ≤ 2 ^ 63 - 1 := by
      have z1 : ((a.length * k.toNat : Nat) : Int) ≤ ((2 ^ 63 - 1 : Nat) : Int) := Int.ofNat_le.mpr (Nat.le_trans hz hsl)
      rw [Int.natCast_mul, e] at z1
      exact z1
    have z2 : (a.length : Int) ≤ (2 ^ 63 - 1) / k := (Int.le_ediv_iff_mul_le (by omega)).mpr z
    omega
  · unfold Builtin.Str.tooLong
    exact decide_eq_false (by omega)
  · by_cases hk : k < 1
    · rw [if_pos hk]
      have e : sRep a k.toNat = Str.empty := by
        rw [show k.toNat = 0 by omega]; rfl
      rw [e] at q
      exact ⟨by decide, .str Str.empty, H, I.tok _, ⟨_, rfl⟩, q⟩
    · rw [if_neg hk]
      by_cases h3 : (k == 1 || a.length == 0) = true
      · rw [if_pos h3]
        have k1 : k = 1 := by
          rw [Bool.or_eq_true] at h3
          rcases h3 with h3 | h3
          · exact beq_iff_eq.mp h3
          · have := beq_iff_eq.mp h3; omega
        subst k1
        have e : sRep a (1 : Int).toNat = a := by
          show sRep a 1 = a
          unfold sRep
          simp
        rw [e] at q
        exact ⟨.str a, H, I.tok _, ⟨_, rfl⟩, q⟩
      · rw [if_neg h3]
        exact ⟨fits_reps (x := a) (k := k.toNat) (decide_eq_false (by omega)), .str _, H, I.tok _, ⟨_, rfl⟩, q⟩
def gMulS : G2 := fun x y Q => match x.dat, y.dat with
  | some (.str a), some (.int j) => (1 ≤ a.length ∧ -(2 ^ 63) ≤ j ∧ j < 2 ^ 63 ∧ a.length * j.toNat ≤ sizeLine) ∧ Q (.d (.str (sRep a j.toNat)))
  | _, _ => False
theorem od_mulS : OpD X.K T rRepS gMulS := fun Fr H0 ρ σ Hd H vx vy x y q Q s hx hy w k => by
  unfold gMulS at w
  split at w
  · rename_i a j ex ey
    exact ⟨a, j, hx.str s ex, hy.int s ey, w.1.1, w.1.2.1, w.1.2.2.1, w.1.2.2.2, k _ (.d (.str _)) Hd H s (Sub.refl _) (Dt.str _) w.2⟩
  · exact w.elim
theorem de_mulS {a b : Expr} {Ta Tb : DE} {pos : Pos} (ha : ED X T E a Ta) (hb : ED X T E b Tb) : ED X T E (.BinOp a .Mult b pos) (dOp gMulS Ta Tb) := de_op op_repS od_mulS ha hb
/-! ### a tuple times a number, one too -/
theorem tuple_mul1 (l : Addr) (items : Array Value) (n : Nat) (dd : Option Addr) (sl : Array (Option Value)) (u : Tok) :
    Meets (Builtin.«tuple.__mul__» ⟨[.ref l, .int 1 u], []⟩) (fun _ R s => s.heap.get? l = some { cls := .type "tuple", dict := dd, data := .seq items n, slots := sl } ∧ R (.ok (.ret (Value.ref l))) s) :=
  .of_wp fun prog w A R s h => by
    obtain ⟨hp, g, d, tk, os⟩ := s
    obtain ⟨hl, h⟩ := h
    have f1 := AutoSeq1.idx_int
    have c1 : (items.isEmpty || (1 : Int) == 1) = true := by simp
    wp_walk using wpAny_loadPart' hl
    repeat (first
      | (refine wpAny_ite_false (decide_eq_false (by decide)) ?_; wp_walk using wpAny_loadPart' hl)
      | (refine wpAny_ite_true (decide_eq_true c1) ?_; wp_walk using wpAny_loadPart' hl))
    exact ⟨_, rfl, h⟩
def rRepT1 (K : PySem.W.Frag) : R2 := fun x y H Q => ∃ l xs, x = .ref l ∧ y = .int 1 ∧ SqT K H l xs ∧ Q (.ref l) H
theorem op_repT1 : OpR X (binaryOp .Mult) (rRepT1 X.K) := by
  intro pins s σ H x y v u Q I rx ry h
  obtain ⟨l, xs, rfl, rfl, hT, q⟩ := h
  cases rx
  obtain ⟨t, rfl⟩ := ry
  obtain ⟨its, r, ⟨⟨cls, dd, data, sl⟩, ho, hc, n, hd⟩, hs⟩ := I.tuple hT
  simp only at hc hd
  subst hc hd
  exact wpAny_binaryOp_repeat_ref (T := "tuple") (U := "int") (by decide) ⟨_, ho, rfl⟩ (fun s' => typeIs_int s' 1 t) noFill_tuple_mul F.fills_int_mul F.slot_int_rmul repeat_tuple F.slot_int_index.lookup
    (call_meets F.slot_int_rmul (typeIs_int s 1 t) F.entry_int_rmul (F.args_int_rmul_2 _ _) (int_rmul_tuple 1 t l its.toArray n dd sl)
      ⟨ho, rfl, ⟨_, ho, rfl⟩, call_meets F.slot_tuple_mul ⟨_, ho, rfl⟩ F.entry_tuple_mul (F.args_tuple_mul_2 _ _) (tuple_mul1 l its.toArray n dd sl t) ⟨ho, .ref l, H, I, rfl, q⟩⟩)
def rMlT (K : PySem.W.Frag) : R2 := fun x y H Q => rRepT1 K x y H Q ∨ rRepT K x y H Q
def gMulT : G2 := fun x y Q => match x, y.dat with
  | .d (.tuple a), some (.int j) => (a ≠ [] ∧ 1 ≤ j ∧ j ≤ 1000 ∧ a.length ≤ 1000) ∧ Q (.d (.tuple (List.replicate j.toNat a).flatten))
  | _, _ => False
theorem od_mulT : OpD X.K T (rMlT X.K) gMulT := fun Fr H0 ρ σ Hd H vx vy x y q Q s hx hy w k => by
  unfold gMulT at w
  split at w
  · rename_i a j ey
    obtain ⟨p1, xs, rfl, h1, a1⟩ := hx.tup s rfl
    by_cases hj : j = 1
    · subst hj
      have e : (List.replicate (1 : Int).toNat a).flatten = a := by
        show (List.replicate 1 a).flatten = a
        simp
      refine .inl ⟨p1, xs, rfl, hy.int s ey, SqT.of h1, k _ (.d (.tuple a)) Hd H s (Sub.refl _) hx ?_⟩
      rw [e] at w
      exact w.2
    · refine .inr ⟨p1, j, xs, rfl, hy.int s ey, SqT.of h1, fun z => w.1.1 (a1.nil_of z), by omega, w.1.2.2.1, by rw [a1.length]; exact w.1.2.2.2, fun p hp => ?_⟩
      exact k _ (.d (.tuple _)) _ _ (s.lay (o := .tup _) hp) (Sub.new (s.keep.free hp)) (Dt.tup upd_same ((a1.rep j.toNat).mono (Sub.new (s.keep.free hp)))) w.2
  · exact w.elim
theorem de_mulT {a b : Expr} {Ta Tb : DE} {pos : Pos} (ha : ED X T E a Ta) (hb : ED X T E b Tb) : ED X T E (.BinOp a .Mult b pos) (dOp gMulT Ta Tb) := de_op (op_repT1.or op_repT) od_mulT ha hb
/-! ### numbers and their texts -/
def gStr : GN := fun xs Q => match xs with
  | [.d (.int i)] => i.natAbs.log2 < 1920 ∧ Q (.d (.str (toString i)))
  | _ => False
theorem cd_str : CallD X.K T (fun xs H Q => ∃ i, xs = [.int i] ∧ i.natAbs.log2 < 1920 ∧ Q (.str (toString i)) H) gStr := fun Fr H0 ρ σ Hd H vs xs q Q s hv w k => by
  unfold gStr at w
  split at w
  · rename_i i
    obtain ⟨v, rfl, h⟩ := vls1 hv
    have h : Dt X.K Hd v (.int i) := h
    cases h
    exact ⟨i, rfl, w.1, k _ (.d (.str _)) Hd H s (Sub.refl _) (Dt.str _) w.2⟩
  · exact w.elim
theorem y_str : TyDl X T "str" gStr := ⟨_, call_str_int, cd_str⟩
def gIntS : GN := fun xs Q => match xs with
  | [.d (.str a)] => ∃ n, PySem.intText? a = some n ∧ a.length ≤ 640 ∧ Q (.d (.int n))
  | _ => False
theorem cd_intS : CallD X.K T (fun xs H Q => ∃ a n, xs = [.str a] ∧ PySem.intText? a = some n ∧ a.length ≤ 640 ∧ Q (.int n) H) gIntS := fun Fr H0 ρ σ Hd H vs xs q Q s hv w k => by
  unfold gIntS at w
  split at w
  · rename_i a
    obtain ⟨v, rfl, h⟩ := vls1 hv
    have h : Dt X.K Hd v (.str a) := h
    cases h
    obtain ⟨n, w1, w2, w3⟩ := w
    exact ⟨a, n, rfl, w1, w2, k _ (.d (.int _)) Hd H s (Sub.refl _) (Dt.int _) w3⟩
  · exact w.elim
theorem y_intS : TyDl X T "int" gIntS := ⟨_, call_int_str, cd_intS⟩
end
/-! ### a def whose code object is known -/
section
variable {P : Program} {w : World} {K : PySem.W.Frag} {mg : Str → Option Value} {base : Heap} {T : Wd}
theorem fn_dc {x qual : Str} {st : Stmt} {f c : Addr} {fd : FuncData} {N ps : List Str} {k : Nat} {F : Ct} (Fn : Fun K x qual st f fd) (hc : fd.code = .ref c) (S : FnScope N ps (defScope st))
    (hb : ∀ (A : Around) (outer : List Env) (s : Shared) (H : Hp) (E : XK), Room k (A.deeper (envOfC qual (defScope st) s.heap.objs.size f (.ref c))) →
      ∃ t, BD (cxOf (L2N.CX P w) P w K mg base N qual (defScope st) f (.ref c) A outer s H E) T E (defBody st) t ∧ ∀ xs q xc, F xs q xc → t { nx := fun _ => q .none, rt := q, xc := xc } (dstart N xs)) :
    FnOk P w K mg base (L2N.CX P w) (k + 1) f fd ps (spD K T ps.length F) := by
  obtain ⟨oc, od, kV, doc, pm, an, cdv, ct, osl, e0, lk, hcd⟩ := Fn.ex
  have ec : cdv = .ref c := by
    rw [e0] at hc
    exact hc
  subst ec
  subst e0
  refine fn_of lk hcd S (fun vs H Q E ⟨Hd, xs, q, xc, h1, h0, h2, h3, h4, _⟩ => by rw [h3.length, h4]) (fun A outer s H vs Q E hr h => ?_)
  obtain ⟨Hd, xs, q, xc, sb, nt, tb, ar, hl, hF, hq, hx⟩ := h
  obtain ⟨t, hbd, ht⟩ := hb A outer s H E hr
  have hpl : ps.length ≤ N.length := by
    have z := congrArg List.length S.pre
    rw [List.length_take] at z
    omega
  refine ⟨_, hbd, { nx := fun _ => q .none, rt := q, xc := xc }, prvOf Hd H, Hd, dstart N xs, Hd, sat_start (by omega) sb nt tb ar, ⟨fun ρ σ Hd' H' s' _ w' => hq .none .non Hd' H' s'.out.grow Dt.non w', fun _ _ _ _ _ _ z => z.elim, fun _ _ _ _ _ _ z => z.elim,
    fun d v Hd' H' o dt w' => hq d v Hd' H' o.grow dt w', fun C Hd' H' o w' => hx C Hd' H' o.grow w'⟩, ht xs q xc hF⟩
end
end DL

/-! Data: the facts behind the word of a refusal. -/
namespace DL
open PySem L2 LamX
structure WordK (K : PySem.W.Frag) (mg : Str → Option Value) (T : Wd) (cs al : List Str) : Prop where
  ex : ∀ c, cs.contains c = true → ExcC K (T.ca c)
  is : ∀ c d, cs.contains c = true → al.contains d = true → PySem.W.kitOne K (.ref (T.ca c)) (.ref (T.ca d)) = some (c == d)
  iv : ∀ c, cs.contains c = true → PySem.W.kitOne K (.ref (T.ca c)) (.type "ValueError") = some true
  gC : ∀ d, al.contains d = true → mg d = some (.ref (T.ca d))
  nI : mg "isinstance" = none
  nS : mg "sum" = none
  nN : mg "int" = none
  nV : mg "ValueError" = none
section
variable {X : Cx} {T : Wd} {cs al : List Str} {a : Addr} {oe : Obj} {c : Str}
/-- isinstance(e, d) in the word's def -/
theorem pe_isd (W : WordK X.K X.mg T cs al) (hp : (a, oe) ∈ X.pn) (hc : cs.contains c = true) (h1 : oe.cls = .ref (T.ca c)) (h2 : oe.dict = none) (hf : ∃ vs, oe.data = .fields vs) {x : Expr} {d : Str} {p p2 pos : Pos} (hx : PE X x (tVar 0)) (hd : al.contains d = true := by decide +kernel)
    (hg : Gl X "isinstance" := by rfl) (hg2 : Gl X d := by rfl) (hdb : (d == ("__debug__" : Str)) = false := by decide) (hst : starEach [x, .Name d p2] X.env = (false, eval x X.env) :: starEach [.Name d p2] X.env := by rfl) (hst2 : starEach [.Name d p2] X.env = (false, eval (.Name d p2) X.env) :: starEach [] X.env := by rfl) :
    PE X (.Call (.Name "isinstance" p) [x, .Name d p2] [] pos) (fun σ H Q => σ[0]? = some (some (.ref a)) ∧ Q (.bl (c == d)) H) := by
  refine pe_imp (pe_callB (call_isH hp (W.ex c hc) h1 h2 hf) hg W.nI (by decide +kernel) (pa_cons hx (pa_cons (pe_glob (v := .ref (T.ca d)) hg2 (W.gC d hd) rfl hdb) pa_nil hst2) hst) (he := hst) (hpl := by rw [hst2]; rfl)) fun σ H Q ⟨e, h⟩ => ?_
  exact ⟨_, e, .ref (T.ca d), .ref (T.ca d), c == d, rfl, fun u r => r, W.is c d hc hd, h⟩
theorem pe_isv (W : WordK X.K X.mg T cs al) (hp : (a, oe) ∈ X.pn) (hc : cs.contains c = true) (h1 : oe.cls = .ref (T.ca c)) (h2 : oe.dict = none) (hf : ∃ vs, oe.data = .fields vs) {x : Expr} {p p2 pos : Pos} (hx : PE X x (tVar 0))
    (hg : Gl X "isinstance" := by rfl) (hg2 : Gl X "ValueError" := by rfl) (hst : starEach [x, .Name "ValueError" p2] X.env = (false, eval x X.env) :: starEach [.Name "ValueError" p2] X.env := by rfl) (hst2 : starEach [.Name "ValueError" p2] X.env = (false, eval (.Name "ValueError" p2) X.env) :: starEach [] X.env := by rfl) :
    PE X (.Call (.Name "isinstance" p) [x, .Name "ValueError" p2] [] pos) (fun σ H Q => σ[0]? = some (some (.ref a)) ∧ Q (.bl true) H) := by
  refine pe_imp (pe_callB (call_isH hp (W.ex c hc) h1 h2 hf) hg W.nI (by decide +kernel) (pa_cons hx (pa_cons (pe_bltn (v := .ty "ValueError") hg2 W.nV (by decide +kernel) rfl) pa_nil hst2) hst) (he := hst) (hpl := by rw [hst2]; rfl)) fun σ H Q ⟨e, h⟩ => ?_
  exact ⟨_, e, .ty "ValueError", .type "ValueError", true, rfl, fun u r => r, W.iv c hc, h⟩
end
section
variable {X : Cx} {T : Wd} {E : XK} {pos : Pos}
theorem de_gI {x : Str} {i : Int} (hm : ∃ t, X.mg x = some (.int i t)) (hg : Gl X x := by rfl) (hd : (x == ("__debug__" : Str)) = false := by decide) : ED X T E (.Name x pos) (dC (.int i)) := by
  obtain ⟨t, h⟩ := hm
  exact de_globI h ⟨t, rfl⟩ hg hd
theorem de_gS {x i : Str} (hm : ∃ t, X.mg x = some (.str i t)) (hg : Gl X x := by rfl) (hd : (x == ("__debug__" : Str)) = false := by decide) : ED X T E (.Name x pos) (dC (.str i)) := by
  obtain ⟨t, h⟩ := hm
  exact de_globS h ⟨t, rfl⟩ hg hd
end
end DL

/-! Data: the readings' rules for the simplifier. -/
namespace DL
open PySem L2 LamX
variable {xc : DX} {ρ : DSt} {Q : Vl → Prop} {e : DEnds}
@[simp] theorem s_gVar (s : Vl) : gVar (some (some s)) Q = Q s := rfl
@[simp] theorem s_dVar (i : Nat) : dVar i xc ρ Q = gVar ρ[i]? Q := rfl
@[simp] theorem s_dC (x : D) : dC x xc ρ Q = Q (.d x) := rfl
@[simp] theorem s_dOp (g : G2) (Ta Tb : DE) : dOp g Ta Tb xc ρ Q = Ta xc ρ fun x => Tb xc ρ fun y => g x y Q := rfl
@[simp] theorem s_vB (b : Bool) (k : Bool → Prop) : vB (.d (.bool b)) k = k b := rfl
@[simp] theorem s_bcT (A B : Prop) : bc true A B = A := rfl
@[simp] theorem s_bcF (A B : Prop) : bc false A B = B := rfl
theorem bc_of {b : Bool} {A B : Prop} (h1 : b = true → A) (h2 : b = false → B) : bc b A B := by
  cases b
  · exact h2 rfl
  · exact h1 rfl
@[simp] theorem s_bcD (p : Prop) [Decidable p] (A B : Prop) : bc (decide p) A B = ((p → A) ∧ (¬ p → B)) := by
  by_cases h : p
  · simp [h]
  · simp [h]
@[simp] theorem s_bcN (b : Bool) (A B : Prop) : bc (!b) A B = bc b B A := by cases b <;> rfl
@[simp] theorem s_dTest (t : DE) (k : Bool → Prop) : dTest t xc ρ k = t xc ρ fun v => vB v k := rfl
@[simp] theorem s_dChain (g g' : G2) (Ta Tb Tc : DE) : dChain g g' Ta Tb Tc xc ρ Q = Ta xc ρ fun x => Tb xc ρ fun y => g x y fun z => vB z fun k => bc k (Tc xc ρ fun w => g' y w Q) (Q (.d (.bool false))) := rfl
@[simp] theorem s_dAnd (t u : DT) (k : Bool → Prop) : dAnd t u xc ρ k = t xc ρ fun b => bc b (u xc ρ k) (k false) := rfl
@[simp] theorem s_dOr (t u : DT) (k : Bool → Prop) : dOr t u xc ρ k = t xc ρ fun b => bc b (k true) (u xc ρ k) := rfl
@[simp] theorem s_dNot (t : DT) (k : Bool → Prop) : dNot t xc ρ k = t xc ρ fun b => k (!b) := rfl
@[simp] theorem s_dAndV (Ta Tb : DE) : dAndV Ta Tb xc ρ Q = Ta xc ρ fun v => vB v fun k => bc k (Tb xc ρ Q) (Q (.d (.bool false))) := rfl
@[simp] theorem s_dOrV (Ta Tb : DE) : dOrV Ta Tb xc ρ Q = Ta xc ρ fun v => vB v fun k => bc k (Q (.d (.bool true))) (Tb xc ρ Q) := rfl
@[simp] theorem s_dNotV (Ta : DE) : dNotV Ta xc ρ Q = Ta xc ρ fun v => vB v fun k => Q (.d (.bool (!k))) := rfl
@[simp] theorem s_dIfE (t : DT) (Ta Tb : DE) : dIfE t Ta Tb xc ρ Q = t xc ρ fun k => bc k (Ta xc ρ Q) (Tb xc ρ Q) := rfl
@[simp] theorem s_dNil (k : List Vl → Prop) : dNil xc ρ k = k [] := rfl
@[simp] theorem s_dCons (Ta : DE) (Al : DA) (k : List Vl → Prop) : dCons Ta Al xc ρ k = Ta xc ρ fun x => Al xc ρ fun xs => k (x :: xs) := rfl
@[simp] theorem s_allD0 : allD [] = some [] := rfl
@[simp] theorem s_allD1 (x : D) (r : List Vl) : allD (.d x :: r) = (allD r).map (x :: ·) := by
  show (match allD r with | some ds => some (x :: ds) | none => none) = _
  cases allD r <;> rfl
theorem gTup_of {xs : List Vl} {ds : List D} (e : allD xs = some ds) : gTup xs Q = (ds.length ≤ sizeLine ∧ Q (.d (.tuple ds))) := by unfold gTup; rw [e]
theorem gLst_of {xs : List Vl} {ds : List D} (e : allD xs = some ds) : gLst xs Q = (ds.length ≤ sizeLine ∧ Q (.d (.list ds))) := by unfold gLst; rw [e]
@[simp] theorem s_tup0 : gTup [] Q = Q (.d (.tuple [])) := by rw [gTup_of rfl]; simp
@[simp] theorem s_tup1 (a : D) : gTup [.d a] Q = Q (.d (.tuple [a])) := by rw [gTup_of rfl]; simp; intro _; decide
@[simp] theorem s_tup2 (a b : D) : gTup [.d a, .d b] Q = Q (.d (.tuple [a, b])) := by rw [gTup_of rfl]; simp; intro _; decide
@[simp] theorem s_tup3 (a b c : D) : gTup [.d a, .d b, .d c] Q = Q (.d (.tuple [a, b, c])) := by rw [gTup_of rfl]; simp; intro _; decide
@[simp] theorem s_lst0 : gLst [] Q = Q (.d (.list [])) := by rw [gLst_of rfl]; simp
@[simp] theorem s_lst1 (a : D) : gLst [.d a] Q = Q (.d (.list [a])) := by rw [gLst_of rfl]; simp; intro _; decide
@[simp] theorem s_lst2 (a b : D) : gLst [.d a, .d b] Q = Q (.d (.list [a, b])) := by rw [gLst_of rfl]; simp; intro _; decide
@[simp] theorem s_lst3 (a b c : D) : gLst [.d a, .d b, .d c] Q = Q (.d (.list [a, b, c])) := by rw [gLst_of rfl]; simp; intro _; decide
@[simp] theorem s_lst4 (a b c d : D) : gLst [.d a, .d b, .d c, .d d] Q = Q (.d (.list [a, b, c, d])) := by rw [gLst_of rfl]; simp; intro _; decide
@[simp] theorem s_dTup (Al : DA) : dTup Al xc ρ Q = Al xc ρ fun xs => gTup xs Q := rfl
@[simp] theorem s_dLst (Al : DA) : dLst Al xc ρ Q = Al xc ρ fun xs => gLst xs Q := rfl
@[simp] theorem s_dCB (g : GN) (Al : DA) : dCB g Al xc ρ Q = Al xc ρ fun xs => g xs Q := rfl
/-! operators -/
@[simp] theorem s_gSub (i j : Int) : gSub (.d (.int i)) (.d (.int j)) Q = Q (.d (.int (i - j))) := rfl
@[simp] theorem s_gLt (i j : Int) : gLt (.d (.int i)) (.d (.int j)) Q = Q (.d (.bool (decide (i < j)))) := rfl
@[simp] theorem s_gLe (i j : Int) : gLe (.d (.int i)) (.d (.int j)) Q = Q (.d (.bool (decide (i ≤ j)))) := rfl
@[simp] theorem s_gGt (i j : Int) : gGt (.d (.int i)) (.d (.int j)) Q = Q (.d (.bool (decide (j < i)))) := rfl
@[simp] theorem s_gGe (i j : Int) : gGe (.d (.int i)) (.d (.int j)) Q = Q (.d (.bool (decide (j ≤ i)))) := rfl
theorem gFdiv_i (i j : Int) : gFdiv (.d (.int i)) (.d (.int j)) Q = (CDv i j ∧ Q (.d (.int (i.fdiv j)))) := rfl
@[simp] theorem s_gMod (i j : Int) : gMod (.d (.int i)) (.d (.int j)) Q = (j ≠ 0 ∧ Q (.d (.int (i.fmod j)))) := rfl
@[simp] theorem s_gPow (i j : Int) : gPow (.d (.int i)) (.d (.int j)) Q = (CPow i j ∧ Q (.d (.int (i ^ j.toNat)))) := rfl
@[simp] theorem s_gAddI (i j : Int) : gAdd (.d (.int i)) (.d (.int j)) Q = Q (.d (.int (i + j))) := rfl
@[simp] theorem s_gAddS (i j : Str) : gAdd (.d (.str i)) (.d (.str j)) Q = (i.length + j.length ≤ sizeLine ∧ Q (.d (.str (i ++ j)))) := rfl
@[simp] theorem s_gAddL (a b : List D) : gAdd (.d (.list a)) (.d (.list b)) Q = (a.length + b.length ≤ sizeLine ∧ Q (.d (.list (a ++ b)))) := rfl
@[simp] theorem s_gAddT (a b : List D) : gAdd (.d (.tuple a)) (.d (.tuple b)) Q = (a.length + b.length ≤ sizeLine ∧ Q (.d (.tuple (a ++ b)))) := rfl
theorem gMul_i (i j : Int) : gMul (.d (.int i)) (.d (.int j)) Q = (CMl i j ∧ Q (.d (.int (i * j)))) := rfl
@[simp] theorem s_gMulL (a : List D) (j : Int) : gMul (.d (.list a)) (.d (.int j)) Q = ((-(2 ^ 63) ≤ j ∧ j < 2 ^ 63 ∧ a.length * j.toNat ≤ sizeLine) ∧ Q (.d (.list (List.replicate j.toNat a).flatten))) := rfl
@[simp] theorem s_gMulS (a : Str) (j : Int) : gMulS (.d (.str a)) (.d (.int j)) Q = ((1 ≤ a.length ∧ -(2 ^ 63) ≤ j ∧ j < 2 ^ 63 ∧ a.length * j.toNat ≤ sizeLine) ∧ Q (.d (.str (sRep a j.toNat)))) := rfl
@[simp] theorem s_gMulT (a : List D) (j : Int) : gMulT (.d (.tuple a)) (.d (.int j)) Q = ((a ≠ [] ∧ 1 ≤ j ∧ j ≤ 1000 ∧ a.length ≤ 1000) ∧ Q (.d (.tuple (List.replicate j.toNat a).flatten))) := rfl
theorem gEq_of {x y : Vl} (hx : okD 40 x.all = true) (hy : okD 40 y.all = true) : gEq x y Q = Q (.d (.bool (PyData.eqv x.all y.all))) := by
  show (okD 40 x.all = true ∧ okD 40 y.all = true ∧ _) = _
  simp [hx, hy]
theorem gNe_of {x y : Vl} (hx : okD 40 x.all = true) (hy : okD 40 y.all = true) : gNe x y Q = Q (.d (.bool (!PyData.eqv x.all y.all))) := by
  show (okD 40 x.all = true ∧ okD 40 y.all = true ∧ _) = _
  simp [hx, hy]
@[simp] theorem eqv_int (i j : Int) : PyData.eqv (.int i) (.int j) = decide (i = j) := by
  rw [PyData.eqv]; by_cases h : i = j <;> simp [h]
@[simp] theorem eqv_str (i j : Str) : PyData.eqv (.str i) (.str j) = decide (i = j) := by
  rw [PyData.eqv]; by_cases h : i = j <;> simp [h]
@[simp] theorem eqv_lst (a b : List D) : PyData.eqv (.list a) (.list b) = PyData.eqvAll a b := by rw [PyData.eqv]
@[simp] theorem eqv_tup (a b : List D) : PyData.eqv (.tuple a) (.tuple b) = PyData.eqvAll a b := by rw [PyData.eqv]
@[simp] theorem eqvA_nil : PyData.eqvAll [] [] = true := by rw [PyData.eqvAll]
@[simp] theorem eqvA_cons (x y : D) (a b : List D) : PyData.eqvAll (x :: a) (y :: b) = (PyData.eqv x y && PyData.eqvAll a b) := by rw [PyData.eqvAll]
@[simp] theorem eqvA_l (x : D) (a : List D) : PyData.eqvAll (x :: a) [] = false := by simp [PyData.eqvAll]
@[simp] theorem eqvA_r (x : D) (a : List D) : PyData.eqvAll [] (x :: a) = false := by simp [PyData.eqvAll]
@[simp] theorem s_gEqI (i j : Int) : gEq (.d (.int i)) (.d (.int j)) Q = Q (.d (.bool (decide (i = j)))) := by rw [gEq_of rfl rfl]; simp [Vl.all]
@[simp] theorem s_gNeI (i j : Int) : gNe (.d (.int i)) (.d (.int j)) Q = Q (.d (.bool (!decide (i = j)))) := by rw [gNe_of rfl rfl]; simp [Vl.all]
@[simp] theorem s_gEqS (i j : Str) : gEq (.d (.str i)) (.d (.str j)) Q = Q (.d (.bool (decide (i = j)))) := by rw [gEq_of rfl rfl]; simp [Vl.all]
@[simp] theorem s_gNeS (i j : Str) : gNe (.d (.str i)) (.d (.str j)) Q = Q (.d (.bool (!decide (i = j)))) := by rw [gNe_of rfl rfl]; simp [Vl.all]
/-! items -/
theorem gIx_list {ds : List D} {i : Int} {v : D} (h : L2.atI ds i = some v) : gIx (.d (.list ds)) (.d (.int i)) Q = Q (.d v) := by
  show (match L2.atI ds i with | some v => Q (.d v) | none => False) = _
  rw [h]
theorem gIx_tup {ds : List D} {i : Int} {v : D} (h : L2.atI ds i = some v) : gIx (.d (.tuple ds)) (.d (.int i)) Q = Q (.d v) := by
  show (match L2.atI ds i with | some v => Q (.d v) | none => False) = _
  rw [h]
theorem gIx_own {ds : List D} {i : Int} {v : D} (h : L2.atI ds i = some v) : gIx (.o (.list ds)) (.d (.int i)) Q = Q (.d v) := by
  show (match L2.atI ds i with | some v => Q (.d v) | none => False) = _
  rw [h]
theorem gIx_scr {ns : List Int} {i v : Int} (h : L2.atI ns i = some v) : gIx (.s ns) (.d (.int i)) Q = Q (.d (.int v)) := by
  show (match L2.atI ns i with | some v => Q (.d (.int v)) | none => False) = _
  rw [h]
@[simp] theorem s_ixT0 (a : D) (r : List D) : gIx (.d (.tuple (a :: r))) (.d (.int 0)) Q = Q (.d a) := gIx_tup (L2.atI_nat (j := 0) rfl)
@[simp] theorem s_ixT1 (a b : D) (r : List D) : gIx (.d (.tuple (a :: b :: r))) (.d (.int 1)) Q = Q (.d b) := gIx_tup (L2.atI_nat (j := 1) rfl)
@[simp] theorem s_ixL0 (a : D) (r : List D) : gIx (.d (.list (a :: r))) (.d (.int 0)) Q = Q (.d a) := gIx_list (L2.atI_nat (j := 0) rfl)
@[simp] theorem s_ixL1 (a b : D) (r : List D) : gIx (.d (.list (a :: b :: r))) (.d (.int 1)) Q = Q (.d b) := gIx_list (L2.atI_nat (j := 1) rfl)
@[simp] theorem s_gIsN (x : D) : gIs (.d x) (.d .none) Q = Q (.d (.bool (isNone (.d x)))) := by cases x <;> rfl
@[simp] theorem s_gIsNotN (x : D) : gIsNot (.d x) (.d .none) Q = Q (.d (.bool (!isNone (.d x)))) := by cases x <;> rfl
@[simp] theorem s_isNone : isNone (.d .none) = true := rfl
@[simp] theorem s_isNoneI (i : Int) : isNone (.d (.int i)) = false := rfl
@[simp] theorem s_isNoneL (i : List D) : isNone (.d (.list i)) = false := rfl
@[simp] theorem s_isNoneT (i : List D) : isNone (.d (.tuple i)) = false := rfl
@[simp] theorem s_gLenS (ns : List Int) : gLen [.s ns] Q = Q (.d (.int ns.length)) := rfl
@[simp] theorem s_gLenL (ds : List D) : gLen [.d (.list ds)] Q = Q (.d (.int ds.length)) := rfl
@[simp] theorem s_gLenT (ds : List D) : gLen [.d (.tuple ds)] Q = Q (.d (.int ds.length)) := rfl
@[simp] theorem s_gLenO (ds : List D) : gLen [.o (.list ds)] Q = Q (.d (.int ds.length)) := rfl
@[simp] theorem s_gLenX (z : Str) : gLen [.d (.str z)] Q = (z.length ≤ sizeLine ∧ Q (.d (.int z.length))) := rfl
@[simp] theorem s_gAbs (i : Int) : gAbs [.d (.int i)] Q = Q (.d (.int (if i < 0 then -i else i))) := rfl
@[simp] theorem s_gMax2 (i j : Int) : gMax2 [.d (.int i), .d (.int j)] Q = Q (.d (.int (if j > i then j else i))) := rfl
@[simp] theorem s_gMin2 (i j : Int) : gMin2 [.d (.int i), .d (.int j)] Q = Q (.d (.int (if j < i then j else i))) := rfl
@[simp] theorem s_gInt1 (i : Int) : gInt1 [.d (.int i)] Q = Q (.d (.int i)) := rfl
@[simp] theorem s_gInt1b (i : Bool) : gInt1 [.d (.bool i)] Q = Q (.d (.int (if i then 1 else 0))) := rfl
/-! kinds -/
def isiB (Ty : String) (d : D) : Bool := match kitB (tyD d) Ty with
  | some b => b
  | none => false
def isI : D → Bool
  | .int _ => true
  | .bool _ => true
  | _ => false
def isB : D → Bool
  | .bool _ => true
  | _ => false
def isT : D → Bool
  | .tuple _ => true
  | _ => false
def isL : D → Bool
  | .list _ => true
  | _ => false
def isS : D → Bool
  | .str _ => true
  | _ => false
def isK : D → Bool
  | .dict _ => true
  | _ => false
theorem gIsi_of {Ty : String} {d : D} {b : Bool} (h : kitB (tyD d) Ty = some b) : gIsi Ty (some d) Q = Q (.d (.bool b)) := by
  show (match kitB (tyD d) Ty with | some b => Q (.d (.bool b)) | none => False) = _
  rw [h]
@[simp] theorem s_isI (d : D) : gIsi "int" (some d) Q = Q (.d (.bool (isI d))) := gIsi_of (by cases d <;> (simp only [tyD, isI]; decide +kernel))
@[simp] theorem s_isB (d : D) : gIsi "bool" (some d) Q = Q (.d (.bool (isB d))) := gIsi_of (by cases d <;> (simp only [tyD, isB]; decide +kernel))
@[simp] theorem s_isT (d : D) : gIsi "tuple" (some d) Q = Q (.d (.bool (isT d))) := gIsi_of (by cases d <;> (simp only [tyD, isT]; decide +kernel))
@[simp] theorem s_isL (d : D) : gIsi "list" (some d) Q = Q (.d (.bool (isL d))) := gIsi_of (by cases d <;> (simp only [tyD, isL]; decide +kernel))
@[simp] theorem s_isS (d : D) : gIsi "str" (some d) Q = Q (.d (.bool (isS d))) := gIsi_of (by cases d <;> (simp only [tyD, isS]; decide +kernel))
@[simp] theorem s_isK (d : D) : gIsi "dict" (some d) Q = Q (.d (.bool (isK d))) := gIsi_of (by cases d <;> (simp only [tyD, isK]; decide +kernel))
@[simp] theorem s_dIsi (Ty : String) (Ta : DE) : dIsi Ty Ta xc ρ Q = Ta xc ρ fun x => gIsi Ty x.dat Q := rfl
@[simp] theorem s_datD (x : D) : Vl.dat (.d x) = some x := rfl
@[simp] theorem s_datO (x : D) : Vl.dat (.o x) = some x := rfl
/-! statements -/
@[simp] theorem s_dNext : dNext e ρ = e.nx ρ := rfl
@[simp] theorem s_dSeq (t u : DS) : dSeq t u e ρ = t { e with nx := u e } ρ := rfl
@[simp] theorem s_dDrop (Te : DE) : dDrop Te e ρ = Te e.xc ρ fun _ => e.nx ρ := rfl
@[simp] theorem s_gRet (x : D) : gRet (.d x) e = e.rt x := rfl
@[simp] theorem s_gRetO (x : List D) : gRet (.o (.list x)) e = e.rt (.list x) := rfl
@[simp] theorem s_dRet (Te : DE) : dRet Te e ρ = Te e.xc ρ fun v => gRet v e := rfl
@[simp] theorem s_gSet (i : Nat) (x : D) (k : DSt → Prop) : gSet i (.d x) ρ k = k (ρ.set i (some (.d x))) := rfl
@[simp] theorem s_dSet (i : Nat) (Te : DE) : dSet i Te e ρ = Te e.xc ρ fun v => gSet i v ρ e.nx := rfl
@[simp] theorem s_dAsg (t : Tgt) (Te : DE) : dAsg t Te e ρ = Te e.xc ρ fun v => gAsg t v ρ e.nx := rfl
@[simp] theorem s_gAsg2 (i j : Nat) (a b : D) (k : DSt → Prop) : gAsg (.tp [i, j]) (.d (.tuple [a, b])) ρ k = k ((ρ.set i (some (.d a))).set j (some (.d b))) := rfl
@[simp] theorem s_gAsg3 (i j l : Nat) (a b c : D) (k : DSt → Prop) : gAsg (.tp [i, j, l]) (.d (.tuple [a, b, c])) ρ k = k (((ρ.set i (some (.d a))).set j (some (.d b))).set l (some (.d c))) := rfl
@[simp] theorem s_gPar (i j : Nat) (a b : D) (k : DSt → Prop) : gPar i j [.d a, .d b] ρ k = k ((ρ.set i (some (.d a))).set j (some (.d b))) := rfl
@[simp] theorem s_dPar (i j : Nat) (Al : DA) : dPar i j Al e ρ = Al e.xc ρ fun vs => gPar i j vs ρ e.nx := rfl
@[simp] theorem s_dIf (tc : DT) (t u : DS) : dIf tc t u e ρ = tc e.xc ρ fun k => bc k (t e ρ) (u e ρ) := rfl
@[simp] theorem s_dRaise (C : Str) : dRaise C e ρ = e.xc C := rfl
@[simp] theorem s_dFor (ti : DI) (t : Tgt) (tb : DS) : dFor ti t tb e ρ = ti e.xc ρ fun ds => forL t tb e ds ρ := rfl
@[simp] theorem s_forL0 (t : Tgt) (tb : DS) : forL t tb e [] ρ = e.nx ρ := rfl
@[simp] theorem s_gSeq (ds : List D) (k : List D → Prop) : gSeq (.d (.list ds)) k = k ds := rfl
@[simp] theorem s_gSeqT (ds : List D) (k : List D → Prop) : gSeqT (.d (.tuple ds)) k = k ds := rfl
@[simp] theorem s_dWalk (Te : DE) (k : List D → Prop) : dWalk Te xc ρ k = Te xc ρ fun v => gSeq v k := rfl
@[simp] theorem s_dWalkT (Te : DE) (k : List D → Prop) : dWalkT Te xc ρ k = Te xc ρ fun v => gSeqT v k := rfl
@[simp] theorem s_gRng1 (j : Int) (k : List D → Prop) : gRng1 [.d (.int j)] k = ((-(2 ^ 62) ≤ j ∧ j < 2 ^ 62) ∧ k (rangeD 0 j.toNat)) := rfl
@[simp] theorem s_gRng2 (i j : Int) (k : List D → Prop) : gRng2 [.d (.int i), .d (.int j)] k = ((-(2 ^ 62) ≤ i ∧ i < 2 ^ 62 ∧ -(2 ^ 62) ≤ j ∧ j < 2 ^ 62) ∧ k (rangeD i (j - i).toNat)) := rfl
@[simp] theorem s_dRng1 (Al : DA) (k : List D → Prop) : dRng1 Al xc ρ k = Al xc ρ fun vs => gRng1 vs k := rfl
@[simp] theorem s_dRng2 (Al : DA) (k : List D → Prop) : dRng2 Al xc ρ k = Al xc ρ fun vs => gRng2 vs k := rfl
@[simp] theorem s_dCall (F : Ct) (Al : DA) : dCall F Al xc ρ Q = Al xc ρ fun xs => noOwn xs = true ∧ F xs (fun d => Q (.d d)) xc := rfl
@[simp] theorem s_noOwn0 : noOwn [] = true := rfl
@[simp] theorem s_noOwnD (x : D) (r : List Vl) : noOwn (.d x :: r) = noOwn r := rfl
@[simp] theorem s_noOwnS (x : List Int) (r : List Vl) : noOwn (.s x :: r) = noOwn r := rfl
@[simp] theorem s_dYes (k : Bool → Prop) : dYes xc ρ k = k true := rfl
@[simp] theorem s_dOwnL (i : Nat) (Al : DA) : dOwnL i Al e ρ = Al e.xc ρ fun xs => gOwnL i xs ρ e.nx := rfl
@[simp] theorem s_ownL0 (i : Nat) (k : DSt → Prop) : gOwnL i [] ρ k = k (ρ.set i (some (.o (.list [])))) := by
  show (0 ≤ sizeLine ∧ _) = _
  simp
@[simp] theorem s_ownL1 (i : Nat) (a : D) (k : DSt → Prop) : gOwnL i [.d a] ρ k = k (ρ.set i (some (.o (.list [a])))) := by
  show (1 ≤ sizeLine ∧ _) = _
  simp only [show (1 ≤ sizeLine) = True from eq_true (by decide), true_and]
@[simp] theorem s_gApp (i : Nat) (ds : List D) (x : D) (k : DSt → Prop) : gApp i ds (.d x) ρ k = (ds.length < sizeLine ∧ k (ρ.set i (some (.o (.list (ds ++ [x])))))) := rfl
@[simp] theorem s_ownLo (ds : List D) (k : List D → Prop) : ownL (some (some (.o (.list ds)))) k = k ds := rfl
@[simp] theorem s_dApp (i : Nat) (Te : DE) : dApp i Te e ρ = ownL ρ[i]? fun ds => Te e.xc ρ fun v => gApp i ds v ρ e.nx := rfl
@[simp] theorem s_gNeg (i : Int) : gNeg (.d (.int i)) Q = Q (.d (.int (-i))) := rfl
@[simp] theorem s_dNeg (Ta : DE) : dNeg Ta xc ρ Q = Ta xc ρ fun x => gNeg x Q := rfl
@[simp] theorem s_dTold (cs : List Str) (Te : DE) : dTold cs Te xc ρ Q = Te (fun c => cs.contains c = true ∧ Q (.d (.str c))) ρ Q := rfl
theorem gAll_of {ds : List D} {bs : List Bool} (h : bools? ds = some bs) : gAll [.d (.list ds)] Q = Q (.d (.bool (bs.all id))) := by
  show (match bools? ds with | some bs => Q (.d (.bool (bs.all id))) | none => False) = _
  rw [h]
theorem gAny_of {ds : List D} {bs : List Bool} (h : bools? ds = some bs) : gAny [.d (.list ds)] Q = Q (.d (.bool (bs.any id))) := by
  show (match bools? ds with | some bs => Q (.d (.bool (bs.any id))) | none => False) = _
  rw [h]
theorem gSum_of {ds : List D} {bs : List Int} (h : ints? ds = some bs) : gSum [.d (.list ds)] Q = Q (.d (.int bs.sum)) := by
  show (match ints? ds with | some bs => Q (.d (.int bs.sum)) | none => False) = _
  rw [h]
theorem gSorted_of {ds : List D} {bs : List Int} (h : ints? ds = some bs) : gSorted [.d (.list ds)] Q = Q (.d (.list ((isort bs).map .int))) := by
  show (match ints? ds with | some bs => Q (.d (.list ((isort bs).map .int))) | none => False) = _
  rw [h]
@[simp] theorem s_gListL (ds : List D) : gListOf [.d (.list ds)] Q = Q (.d (.list ds)) := rfl
@[simp] theorem s_gListT (ds : List D) : gListOf [.d (.tuple ds)] Q = Q (.d (.list ds)) := rfl
@[simp] theorem s_gTupleL (ds : List D) : gTupleOf [.d (.list ds)] Q = Q (.d (.tuple ds)) := rfl
@[simp] theorem s_gStr (i : Int) : gStr [.d (.int i)] Q = (i.natAbs.log2 < 1920 ∧ Q (.d (.str (toString i)))) := rfl
theorem gIntS_of {a : Str} {n : Int} (h : PySem.intText? a = some n) (hl : a.length ≤ 640) (hq : Q (.d (.int n))) : gIntS [.d (.str a)] Q := ⟨n, h, hl, hq⟩
/-! comprehensions: each item gives a value -/
theorem lc_map {tt : Tgt} {tc : DT} {te : DE} {f : D → D} {p : D → Bool} : ∀ (ds acc : List D) (k : List D → Prop), acc.length + ds.length ≤ sizeLine →
    (∀ d ∈ ds, ∃ ρ', bindT tt d ρ = some ρ' ∧ ∀ k : Bool → Prop, k (p d) → tc noX ρ' k) → (∀ d ∈ ds, p d = true → ∃ ρ', bindT tt d ρ = some ρ' ∧ ∀ Q : Vl → Prop, Q (.d (f d)) → te noX ρ' Q) →
    k (acc ++ (ds.filter p).map f) → lcL tt tc te ρ ds acc k
  | [], acc, k, _, _, _, h => by simpa [lcL] using h
  | d :: r, acc, k, hl, h1, h2, h => by
    obtain ⟨ρ', e1, t1⟩ := h1 d List.mem_cons_self
    show gBnd (bindT tt d ρ) _
    rw [e1]
    refine t1 _ ?_
    cases hp : p d with
    | true =>
      obtain ⟨ρ2, e2, t2⟩ := h2 d List.mem_cons_self hp
      rw [e1] at e2
      cases e2
      refine t2 _ ?_
      refine ⟨by simp at hl; omega, lc_map r _ k (by simp at hl ⊢; omega) (fun x hx => h1 x (List.mem_cons_of_mem _ hx)) (fun x hx => h2 x (List.mem_cons_of_mem _ hx)) ?_⟩
      simpa [List.filter_cons, hp] using h
    | false =>
      refine lc_map r acc k (by simp at hl ⊢; omega) (fun x hx => h1 x (List.mem_cons_of_mem _ hx)) (fun x hx => h2 x (List.mem_cons_of_mem _ hx)) ?_
      simpa [List.filter_cons, hp] using h
theorem lc_nm {i : Nat} {te : DE} {f : D → D} {ds : List D} {k : List D → Prop} (hl : ds.length ≤ sizeLine) (h : ∀ d ∈ ds, ∀ Q : Vl → Prop, Q (.d (f d)) → te noX (ρ.set i (some (.d d))) Q) (hk : k (ds.map f)) : lcL (.nm i) dYes te ρ ds [] k :=
  lc_map (p := fun _ => true) (f := f) ds [] k (by simpa using hl) (fun d _ => ⟨_, rfl, fun k hk => hk⟩) (fun d hd _ => ⟨_, rfl, fun Q hQ => h d hd Q hQ⟩) (by rw [List.nil_append, List.filter_eq_self.mpr (fun _ _ => rfl)]; exact hk)
theorem lc_nmF {i : Nat} {tc : DT} {te : DE} {f : D → D} {p : D → Bool} {ds : List D} {k : List D → Prop} (hl : ds.length ≤ sizeLine) (h1 : ∀ d ∈ ds, ∀ k : Bool → Prop, k (p d) → tc noX (ρ.set i (some (.d d))) k) (h : ∀ d ∈ ds, p d = true → ∀ Q : Vl → Prop, Q (.d (f d)) → te noX (ρ.set i (some (.d d))) Q) (hk : k ((ds.filter p).map f)) : lcL (.nm i) tc te ρ ds [] k :=
  lc_map (p := p) (f := f) ds [] k (by simpa using hl) (fun d hd => ⟨_, rfl, fun k hk => h1 d hd k hk⟩) (fun d hd hp => ⟨_, rfl, fun Q hQ => h d hd hp Q hQ⟩) (by simpa using hk)
@[simp] theorem s_dLc (ti : DI) (tt : Tgt) (tc : DT) (te : DE) (vs : List Nat) : dLc ti tt tc te vs xc ρ Q = (ownFree ρ vs = true ∧ ti xc ρ fun ds => lcL tt tc te (wipeD ρ vs) ds [] fun acc => Q (.d (.list acc))) := rfl
theorem few {n m : Nat} (h : n ≤ m) (hm : m ≤ 1000000 := by decide) : n ≤ sizeLine := by
  rw [sizeLine_eq]; omega
theorem fewer {n m : Nat} (h : n ≤ m) (hm : m < 1000000 := by decide) : n < sizeLine := by
  rw [sizeLine_eq]; omega
/-- the loop's steps as they stand -/
theorem for_ind {t : Tgt} {tb : DS} (I : List D → DSt → Prop) : ∀ {ds : List D} {ρ : DSt}, I ds ρ → (∀ d r ρ (K : DSt → Prop), I (d :: r) ρ → (∀ ρ, I r ρ → K ρ) → ∃ ρ', bindT t d ρ = some ρ' ∧ tb { e with nx := K, ct := K, bk := e.nx } ρ') → (∀ ρ, I [] ρ → e.nx ρ) → forL t tb e ds ρ
  | [], ρ, h, _, h3 => h3 ρ h
  | d :: r, ρ, h, h2, h3 => by
    obtain ⟨ρ', e1, hb⟩ := h2 d r ρ (forL t tb e r) h (fun ρ h => for_ind I h h2 h3)
    show gBnd (bindT t d ρ) _
    rw [e1]
    exact hb
/-- a while loop: a measure falls -/
theorem while_ind {tc : DT} {tb : DS} (I : Nat → DSt → Prop) (h2 : ∀ n ρ (K : DSt → Prop), I n ρ → (∀ m ρ, m < n → I m ρ → K ρ) → tc e.xc ρ fun k => bc k (tb { e with nx := K, ct := K, bk := e.nx } ρ) (e.nx ρ)) {n : Nat} {ρ : DSt} (h : I n ρ) : dWhile tc tb e ρ := by
  have key : ∀ N n ρ, n < N → I n ρ → whileN tc tb e N ρ := by
    intro N
    induction N with
    | zero => intro n ρ h _; exact absurd h (Nat.not_lt_zero n)
    | succ N ih => intro n ρ hn hI; exact h2 n ρ (whileN tc tb e N) hI fun m ρ' hm hI' => ih m ρ' (by omega) hI'
  exact ⟨n + 1, key (n + 1) n ρ (Nat.lt_succ_self n) h⟩
end DL

/-! Data: the ends. -/
namespace DL
open PySem L2 LamX
def caOf : List (Str × Addr) → Str → Addr
  | [], _ => 0
  | (x, a) :: l, y => if y = x then a else caOf l y
theorem ca1 {x : Str} {a : Addr} {l : List (Str × Addr)} : caOf ((x, a) :: l) x = a := if_pos rfl
theorem ca2 {x y : Str} {a : Addr} {l : List (Str × Addr)} (h : ¬ y = x) : caOf ((x, a) :: l) y = caOf l y := if_neg h
/-- the facts about one class of refusals -/
structure ClsF (K : PySem.W.Frag) (C CN : Addr) : Prop where
  ei : PySem.W.excIn K C [.type "ValueError", .type "Exception", .type "BaseException", .type "object"] "ValueError.__new__" = true
  kC : PySem.W.keepIn K (.ref C) = true
  r1 : PySem.W.subIn K (.ref C) (.type "BaseException") = some true
  r2 : PySem.W.typeIn K (.ref C) = some (.type "type")
  iv : PySem.W.kitOne K (.ref C) (.type "ValueError") = some true
  ex : PySem.W.exmOne K (.ref C) (.ref CN) = some true
  hg : PySem.W.findIn K (.ref C) "__getattribute__" = some (some (.builtin "BaseException.__getattribute__"))
  hk : PySem.W.findIn K (.ref C) "__getattr__" = some none
  hd : PySem.W.hasDictIn K C = true
  ha : PySem.W.findIn K (.ref C) "__class__" = some (some (.builtin "object.__class__"))
  hn : PySem.W.specialIn K (.builtin "object.__class__") "__get__" = some (some (.builtin "getset_descriptor.__get__"))
  ht : PySem.W.takesIn K (.builtin "object.__class__") = some true
  hm : PySem.W.mroIn K C (.type "object") = some true
section
variable {P : Program} {w : World} {K : PySem.W.Frag} {mg : Str → Option Value} {base : Heap} {T : Wd}
theorem ClsF.exC {C CN : Addr} {x : Str} (h : ClsF K C CN) (e : T.ca x = C) (hm : mg x = some (.ref C)) : ExC K mg T x := by
  subst e
  exact ⟨h.ei, hm, h.kC, h.r1, h.r2⟩
theorem ClsF.excC {C CN : Addr} {x : Str} (h : ClsF K C CN) (e : T.ca x = C) : ExcC K (T.ca x) := by
  subst e
  exact ⟨h.hg, h.hk, h.r1, h.hd, h.ha, h.hn, h.ht, h.hm⟩
theorem df_mk {x : Str} {st : Stmt} {f : Addr} {fd : FuncData} {ps : List Str} {k n : Nat} {F : Ct} (Fn : Fun K x x st f fd) (hm : mg x = some (.ref f)) (hb : Binds K fd ps []) (hn : ∀ xs q xc, F xs q xc → xs.length = n) (e : ps.length = n)
    (G : FnOk P w K mg base (L2N.CX P w) k f fd ps (spD K T ps.length F)) : Df P w K mg base T x k n F := by
  subst e
  exact ⟨⟨f, fd, ps, G, hm, Fn.kp, hb⟩, hn⟩
theorem sp_law {F : Ct} {n : Nat} (hF : ∀ ns : List Int, ns.length ≤ n → F [.s ns] (fun d => d = .bool true) fun _ => False) (H : Hp) (a : Addr) (ns : List Int) (hl : ns.length ≤ n) (ht : ∀ p ∈ T.tb, H p.1 = some (.tbl #[])) (hS : SqL K H a (ns.map V.int)) :
    spD K T 1 F [.ref a] H (fun v _ => v = .bl true) fun _ _ _ => False := by
  let Hd : Hp := fun b => match H b with
    | some (.tbl _) => none
    | some (.dK _) => none
    | o => o
  have hd : ∀ b o, H b = some o → (∀ ps, o ≠ .tbl ps) → (∀ ps, o ≠ .dK ps) → Hd b = some o := fun b o e h h' => by
    show (match H b with | some (.tbl _) => none | some (.dK _) => none | o => o) = some o
    rw [e]
    split
    · rename_i q _ z
      exact absurd (Option.some.inj z) (h _)
    · rename_i q _ z
      exact absurd (Option.some.inj z) (h' _)
    · rfl
  have hi : ∀ b o, Hd b = some o → H b = some o ∧ (∀ ps, o ≠ .tbl ps) ∧ ∀ ps, o ≠ .dK ps := fun b o e => by
    have e : (match H b with | some (.tbl _) => none | some (.dK _) => none | o => o) = some o := e
    split at e
    · cases e
    · cases e
    · rename_i q z z'
      exact ⟨e, fun ps y => z ps (by rw [e, y]), fun ps y => z' ps (by rw [e, y])⟩
  refine ⟨Hd, [.s ns], fun d => d = .bool true, fun _ => False, fun b o e => (hi b o e).1, ⟨fun b ps e => (hi b _ e).2.1 ps rfl, fun b ps e => (hi b _ e).2.2 ps rfl⟩, fun p hp => TabS.nil (ht p hp), .cons ⟨a, rfl, ?_⟩ .nil, rfl, hF ns hl, fun d v Hd' H' g dt e => ?_, fun _ _ _ _ z => z.elim⟩
  · rcases hS with (h | ⟨o, h⟩) | h
    · exact .inl (.inl (hd _ _ h (fun ps z => by cases z) fun ps z => by cases z))
    · exact .inl (.inr ⟨o, hd _ _ h (fun ps z => by cases z) fun ps z => by cases z⟩)
    · exact .inr h
  · subst e
    cases dt
    rfl
end
end DL

/-! Data: zip, enumerate, slices, in, extend. -/
namespace DL
open PySem L2 LamX
section
variable {X : Cx} {T : Wd} {E : XK} {a b c e tg iter : Expr} {es rest : List Expr} {pos p p2 : Pos} {Ta Tb Tc Te : DE} {Al : DA} {st : Stmt}
/-! ### zip -/
def zipD : List D → List D → List D
  | a :: r, b :: s => .tuple [a, b] :: zipD r s
  | _, _ => []
theorem zipD_get : ∀ {xs ys : List D} {i : Nat} {d : D}, (zipD xs ys)[i]? = some d → ∃ x y, d = .tuple [x, y] ∧ xs[i]? = some x ∧ ys[i]? = some y
  | [], _, _, _, h => by simp [zipD] at h
  | _ :: _, [], _, _, h => by simp [zipD] at h
  | x :: xs, y :: ys, 0, d, h => by simp [zipD] at h; exact ⟨x, y, h.symm, rfl, rfl⟩
  | x :: xs, y :: ys, i + 1, d, h => by
    obtain ⟨u, v, h1, h2, h3⟩ := zipD_get (xs := xs) (ys := ys) (i := i) (by simpa [zipD] using h)
    exact ⟨u, v, h1, by simpa using h2, by simpa using h3⟩
theorem zipD_len : ∀ (xs ys : List D), (zipD xs ys).length = min xs.length ys.length
  | [], _ => by simp [zipD]
  | _ :: _, [] => by simp [zipD]
  | x :: xs, y :: ys => by simp [zipD, zipD_len xs ys]
def gZip (vs : List Vl) (q : List D → Prop) : Prop := match vs with
  | [.d (.list xs), .d (.list ys)] => q (zipD xs ys)
  | _ => False
def dZip (Al : DA) : DI := fun xc ρ q => Al xc ρ fun vs => gZip vs q
theorem id_zip {elts : List Expr} {kk : Nat} {tpos : Pos} (hm : X.mg "zip" = none) (ha : AD X T E [a, b] Al) (hg : Gl X "zip" := by rfl) (hs : starEach [a, b] X.env = (false, eval a X.env) :: starEach [b] X.env := by rfl) (hpl : (backTo pos (starEach [b] X.env)).any (·.1) = false := by rfl) :
    ID X T E (.Tuple elts kk tpos) (.Call (.Name "zip" p) [a, b] [] pos) (dZip Al) := by
  refine pi_imp (pi_zip hg hm ha hs hpl) fun σ H R ⟨xc, Fr, H0, ρ, Hd, q, s, w, hx, k⟩ => ⟨xc, Fr, H0, ρ, Hd, _, s, w, hx, fun vs xs Hd1 H1 s1 b1 ok1 w1 => ?_⟩
  unfold gZip at w1
  split at w1
  · rename_i ds es
    obtain ⟨v, u, rfl, h1, h2⟩ := vls2 ok1
    have h1 : Dt X.K Hd1 v (.list ds) := h1
    have h2 : Dt X.K Hd1 u (.list es) := h2
    cases h1 with
    | lst g1 g2 =>
      cases h2 with
      | lst k1 k2 =>
        rename_i a1 xs1 a2 xs2
        refine ⟨a1, a2, xs1, xs2, rfl, SqL.of (s1.keep _ _ g1), SqL.of (s1.keep _ _ k1), k _ (zipD ds es) Hd1 H1 s1 b1 (fun Fr H0 ρ σ Hd2 H2 i s2 b2 => ⟨fun d hd => ?_, fun hl => ?_⟩) w1⟩
        · obtain ⟨x, y, rfl, e1, e2⟩ := zipD_get hd
          obtain ⟨v1, f1, f2⟩ := g2.get e1
          obtain ⟨v2, f3, f4⟩ := k2.get e2
          have q1 : SqL X.K H2 a1 xs1 := SqL.of (s2.keep _ _ (b2 _ _ g1))
          have q2 : SqL X.K H2 a2 xs2 := SqL.of (s2.keep _ _ (b2 _ _ k1))
          refine ⟨⟨xs1, xs2, v1, v2, q1, q2, f1, f3⟩, fun z H' ⟨t, x', y', y1, y2, y3, y4, y5⟩ => ?_⟩
          subst y1 y3
          have z1 := y4 _ q1
          have z2 := y5 _ q2
          have n := Sub.new (H := Hd2) (o := .tup [x', y']) (s2.keep.free y2)
          exact ⟨_, s2.lay (o := .tup [x', y']) y2, n, Dt.tup upd_same (.cons (((g2.mono b2).getS z1 e1).mono n) (.cons (((k2.mono b2).getS z2 e2).mono n) .nil))⟩
        · refine ⟨xs1, xs2, SqL.of (s2.keep _ _ (b2 _ _ g1)), SqL.of (s2.keep _ _ (b2 _ _ k1)), ?_⟩
          rw [zipD_len] at hl
          rw [g2.length, k2.length]
          omega
  · exact w1.elim
/-! ### enumerate -/
def enumD (ds : List D) (i : Nat) : List D := match ds with
  | [] => []
  | d :: r => .tuple [.int (i : Nat), d] :: enumD r (i + 1)
theorem enumD_get : ∀ {ds : List D} {i n : Nat} {d : D}, (enumD ds n)[i]? = some d → ∃ x, d = .tuple [.int ((n + i : Nat) : Int), x] ∧ ds[i]? = some x
  | [], _, _, _, h => by simp [enumD] at h
  | x :: r, 0, n, d, h => by simp [enumD] at h; exact ⟨x, h.symm, rfl⟩
  | x :: r, i + 1, n, d, h => by
    obtain ⟨y, h1, h2⟩ := enumD_get (ds := r) (i := i) (n := n + 1) (by simpa [enumD] using h)
    exact ⟨y, by rw [h1]; congr 3; omega, by simpa using h2⟩
theorem enumD_len : ∀ (ds : List D) (n : Nat), (enumD ds n).length = ds.length
  | [], _ => rfl
  | x :: r, n => by simp [enumD, enumD_len r]
def gEnum (vs : List Vl) (q : List D → Prop) : Prop := match vs with
  | [.d (.list xs)] => q (enumD xs 0)
  | _ => False
def dEnum (Al : DA) : DI := fun xc ρ q => Al xc ρ fun vs => gEnum vs q
theorem id_enum {elts : List Expr} {kk : Nat} {tpos : Pos} (hm : X.mg "enumerate" = none) (ha : AD X T E [a] Al) (hg : Gl X "enumerate" := by rfl) (hs : starEach [a] X.env = [(false, eval a X.env)] := by rfl) :
    ID X T E (.Tuple elts kk tpos) (.Call (.Name "enumerate" p) [a] [] pos) (dEnum Al) := by
  refine pi_imp (pi_enum hg hm ha hs) fun σ H R ⟨xc, Fr, H0, ρ, Hd, q, s, w, hx, k⟩ => ⟨xc, Fr, H0, ρ, Hd, _, s, w, hx, fun vs xs Hd1 H1 s1 b1 ok1 w1 => ?_⟩
  unfold gEnum at w1
  split at w1
  · rename_i ds
    obtain ⟨v, rfl, h1⟩ := vls1 ok1
    have h1 : Dt X.K Hd1 v (.list ds) := h1
    cases h1 with
    | lst g1 g2 =>
      rename_i a1 xs1
      refine ⟨a1, xs1, rfl, SqL.of (s1.keep _ _ g1), k _ (enumD ds 0) Hd1 H1 s1 b1 (fun Fr H0 ρ σ Hd2 H2 i s2 b2 => ⟨fun d hd => ?_, fun hl => ?_⟩) w1⟩
      · obtain ⟨x, rfl, e1⟩ := enumD_get hd
        obtain ⟨v1, f1, f2⟩ := g2.get e1
        have q1 : SqL X.K H2 a1 xs1 := SqL.of (s2.keep _ _ (b2 _ _ g1))
        refine ⟨⟨xs1, v1, q1, f1⟩, fun z H' ⟨t, x', y1, y2, y3, y4⟩ => ?_⟩
        subst y1 y3
        have z1 := y4 _ q1
        have n := Sub.new (H := Hd2) (o := .tup [.int (i : Nat), x']) (s2.keep.free y2)
        refine ⟨_, s2.lay (o := .tup [.int (i : Nat), x']) y2, n, Dt.tup upd_same (.cons ?_ (.cons (((g2.mono b2).getS z1 e1).mono n) .nil))⟩
        rw [Nat.zero_add]
        exact Dt.int _
      · refine ⟨xs1, SqL.of (s2.keep _ _ (b2 _ _ g1)), ?_⟩
        rw [enumD_len] at hl
        rw [g2.length]
        omega
  · exact w1.elim
/-! ### slices -/
abbrev DO := DX → DSt → (Option Int → Prop) → Prop
def LO (K : PySem.W.Frag) (T : Wd) (E : XK) (t : DO) : TO := fun σ H Q => ∃ (xc : DX) (Fr H0 : Hp) (ρ : DSt) (Hd : Hp) (q : Option Int → Prop), Sat K T Fr H0 ρ σ Hd H ∧ t xc ρ q ∧ XOk K T E Fr H0 ρ σ xc ∧
  ∀ o Hd' H', Sat K T Fr H0 ρ σ Hd' H' → Sub Hd Hd' → q o → Q o H'
def OD (X : Cx) (T : Wd) (E : XK) (e : Option Expr) (t : DO) : Prop := PO X e (LO X.K T E t)
theorem po_imp {e : Option Expr} {t t' : TO} (h : PO X e t) (k : ∀ σ H Q, t' σ H Q → t σ H Q) : PO X e t' := ⟨fun pins s σ H Q I w => h.run pins s σ H Q I (k σ H Q w)⟩
def dNoP : DO := fun _ _ Q => Q none
def gP (v : Vl) (Q : Option Int → Prop) : Prop := match v with
  | .d (.int i) => Q (some i)
  | _ => False
def dP (Ta : DE) : DO := fun xc ρ Q => Ta xc ρ fun v => gP v Q
theorem od_none : OD X T E none dNoP := po_imp po_none fun σ H Q ⟨xc, Fr, H0, ρ, Hd, q, s, w, hx, k⟩ => k none Hd H s (Sub.refl _) w
theorem od_some (h : ED X T E a Ta) : OD X T E (some a) (dP Ta) := by
  refine po_imp (po_some h) fun σ H Q ⟨xc, Fr, H0, ρ, Hd, q, s, w, hx, k⟩ => ⟨xc, Fr, H0, ρ, Hd, _, s, w, hx, fun v x Hd1 H1 s1 b1 ok1 w1 => ?_⟩
  unfold gP at w1
  split at w1
  · rename_i i
    exact ⟨i, ok1.int s1 rfl, k _ Hd1 H1 s1 b1 w1⟩
  · exact w1.elim
def cutD {α : Type} (xs : List α) (lo hi : Option Int) : List α := (xs.drop (HT.sIx xs.length 0 lo)).take (HT.sIx xs.length xs.length hi - HT.sIx xs.length 0 lo)
theorem DtA.cut {K : PySem.W.Frag} {H : Hp} {vs : List V} {ds : List D} (h : DtA K H vs ds) (lo hi : Option Int) : DtA K H (cutV vs lo hi) (cutD ds lo hi) := by
  unfold cutV cutD
  rw [h.length]
  exact (h.drop _).take _
def gSlc (x : Option D) (lo hi : Option Int) (Q : Vl → Prop) : Prop := match x with
  | some (.list ds) => Q (.d (.list (cutD ds lo hi)))
  | some (.tuple ds) => ¬ (HT.sIx ds.length 0 lo = 0 ∧ HT.sIx ds.length ds.length hi = ds.length) ∧ Q (.d (.tuple (cutD ds lo hi)))
  | some (.str z) => z.length ≤ sizeLine ∧ Q (.d (.str (cutS z lo hi)))
  | _ => False
def dSlc (Ta : DE) (tl th : DO) : DE := fun xc ρ Q => Ta xc ρ fun x => tl xc ρ fun l => th xc ρ fun u => gSlc x.dat l u Q
theorem de_slc {lo hi : Option Expr} {tl th : DO} (ha : ED X T E a Ta) (hl : OD X T E lo tl) (hh : OD X T E hi th) : ED X T E (.Subscript a (.Slice lo hi none p2) pos) (dSlc Ta tl th) := by
  refine pe_imp (pe_slice (sl_list.or (sl_tup.or sl_str)) ha hl hh) fun σ H Q ⟨xc, Fr, H0, ρ, Hd, q, s, w, hx, k⟩ => ⟨xc, Fr, H0, ρ, Hd, _, s, w, hx, fun v x Hd1 H1 s1 b1 ok1 w1 =>
    ⟨xc, Fr, H0, ρ, Hd1, _, s1, w1, hx, fun l Hd2 H2 s2 b2 w2 => ⟨xc, Fr, H0, ρ, Hd2, _, s2, w2, hx, fun u Hd3 H3 s3 b3 w3 => ?_⟩⟩⟩
  have ok3 := ok1.mono (b2.trans b3)
  have sb := (b1.trans b2).trans b3
  unfold gSlc at w3
  split at w3
  · rename_i ds ex
    obtain ⟨p1, xs, rfl, h1, a1⟩ := ok3.list s3 ex
    refine .inl ⟨p1, xs, rfl, SqL.of h1, fun q hq => ?_⟩
    exact k _ (.d (.list _)) _ _ (s3.lay (o := .lst _) hq) (sb.trans (Sub.new (s3.keep.free hq))) (Dt.lst upd_same ((a1.cut l u).mono (Sub.new (s3.keep.free hq)))) w3
  · rename_i ds ex
    obtain ⟨p1, xs, rfl, h1, a1⟩ := ok3.tup s3 ex
    refine .inr (.inl ⟨p1, xs, rfl, SqT.of h1, by rw [a1.length]; exact w3.1, fun q hq => ?_⟩)
    exact k _ (.d (.tuple _)) _ _ (s3.lay (o := .tup _) hq) (sb.trans (Sub.new (s3.keep.free hq))) (Dt.tup upd_same ((a1.cut l u).mono (Sub.new (s3.keep.free hq)))) w3.2
  · rename_i z ex
    exact .inr (.inr ⟨z, ok3.str s3 ex, w3.1, k _ (.d (.str _)) _ _ s3 sb (Dt.str _) w3.2⟩)
  · exact w3.elim
/-! ### a list backwards -/
def gRev (x : Option D) (Q : Vl → Prop) : Prop := match x with
  | some (.list ds) => Q (.d (.list ds.reverse))
  | _ => False
def dRev (Ta : DE) : DE := fun xc ρ Q => Ta xc ρ fun x => gRev x.dat Q
theorem de_rev {k : Nat} {p1 p3 : Pos} (ha : ED X T E a Ta) : ED X T E (.Subscript a (.Slice none none (some (.UnaryOp .USub (.Constant (.int 1) k p1) p2)) p3) pos) (dRev Ta) := by
  refine pe_imp (pe_revL ha) fun σ H Q ⟨xc, Fr, H0, ρ, Hd, q, s, w, hx, k⟩ => ⟨xc, Fr, H0, ρ, Hd, _, s, w, hx, fun v x Hd1 H1 s1 b1 ok1 w1 => ?_⟩
  unfold gRev at w1
  split at w1
  · rename_i ds ex
    obtain ⟨p1, xs, rfl, h1, a1⟩ := ok1.list s1 ex
    refine ⟨p1, xs, rfl, SqL.of h1, fun q hq => ?_⟩
    exact k _ (.d (.list _)) _ _ (s1.lay (o := .lst _) hq) (b1.trans (Sub.new (s1.keep.free hq))) (Dt.lst upd_same (a1.reverse.mono (Sub.new (s1.keep.free hq)))) w1
  · exact w1.elim
/-! ### in -/
def gIn : G2 := fun x y Q => match y.all with
  | .list ds => SeqAt.shaped x.all = true ∧ SeqAt.shaped (.list ds) = true ∧ Q (.d (.bool (ds.any fun z => PyData.eqv z x.all)))
  | _ => False
def gNotIn : G2 := fun x y Q => match y.all with
  | .list ds => SeqAt.shaped x.all = true ∧ SeqAt.shaped (.list ds) = true ∧ Q (.d (.bool (!ds.any fun z => PyData.eqv z x.all)))
  | _ => False
mutual
theorem plain_of_lay : ∀ d : D, d.canLay0 = true → d.plain = true
  | .none, _ => rfl
  | .bool _, _ => rfl
  | .int _, _ => rfl
  | .str _, _ => rfl
  | .list xs, h => plainAll_of_lay xs (by rw [PyData.canLay0] at h; exact h)
  | .tuple xs, h => plainAll_of_lay xs (by rw [PyData.canLay0] at h; exact h)
  | .dict _, h => by rw [PyData.canLay0] at h; cases h
theorem plainAll_of_lay : ∀ ds : List D, PyData.canLayAll0 ds = true → PyData.plainAll ds = true
  | [], _ => rfl
  | x :: xs, h => by
    rw [PyData.canLayAll0, Bool.and_eq_true] at h
    rw [PyData.plainAll, plain_of_lay x h.1, plainAll_of_lay xs h.2]
    rfl
end
theorem od_in : OpD X.K T (rInD X.K) gIn := fun Fr H0 ρ σ Hd H vx vy x y q Q s hx hy w k => by
  unfold gIn at w
  split at w
  · rename_i ds ey
    have hy2 := hy.dp s (by rw [ey]; exact plain_of_lay _ (SeqAt.canLay_of_shaped w.2.1))
    rw [ey] at hy2
    exact ⟨x.all, ds, hx.dp s (plain_of_lay _ (SeqAt.canLay_of_shaped w.1)), hy2, w.1, w.2.1, k _ (.d (.bool _)) Hd H s (Sub.refl _) (Dt.bl _) w.2.2⟩
  · exact w.elim
theorem od_notin : OpD X.K T (rNotInD X.K) gNotIn := fun Fr H0 ρ σ Hd H vx vy x y q Q s hx hy w k => by
  unfold gNotIn at w
  split at w
  · rename_i ds ey
    have hy2 := hy.dp s (by rw [ey]; exact plain_of_lay _ (SeqAt.canLay_of_shaped w.2.1))
    rw [ey] at hy2
    exact ⟨x.all, ds, hx.dp s (plain_of_lay _ (SeqAt.canLay_of_shaped w.1)), hy2, w.1, w.2.1, k _ (.d (.bool _)) Hd H s (Sub.refl _) (Dt.bl _) w.2.2⟩
  · exact w.elim
theorem room_in {k : Nat} (hr : Room k X.A) : X.A.units + 65 < cLine := by have := hr.un; omega
theorem c_in {k : Nat} (hr : Room k X.A) : CmpD X T .In gIn := ⟨_, op_inD (room_in hr), od_in⟩
theorem c_notin {k : Nat} (hr : Room k X.A) : CmpD X T .NotIn gNotIn := ⟨_, op_notInD (room_in hr), od_notin⟩
/-! ### extend, insert -/
def gExt (i : Nat) (ds : List D) (v : Option D) (ρ : DSt) (Q : DSt → Prop) : Prop := match v with
  | some (.list es) => ds.length + es.length ≤ sizeLine ∧ Q (ρ.set i (some (.o (.list (ds ++ es)))))
  | _ => False
def dExt (i : Nat) (Te : DE) : DS := fun e ρ => ownL ρ[i]? fun ds => Te e.xc ρ fun v => vD v fun y => gExt i ds (some y) ρ e.nx
theorem sd_extend {x : Str} {px apos cpos : Pos} (i : Nat) (h : PE X (.Call (.Attribute (.Name x px) "extend" apos) [e] [] cpos) (tBM X.K "list" rExtend (tVar i) (tCons (LE X.K T E Te) tNil))) (hs : swapsWith (.Call (.Attribute (.Name x px) "extend" apos) [e] [] cpos) none pos.line X.env = pure false := by rfl) :
    SD X T E (.Expr (.Call (.Attribute (.Name x px) "extend" apos) [e] [] cpos) pos) (dExt i Te) := by
  refine ps_imp (ps_expr h hs) fun De σ H ⟨e, Fr, H0, ρ, Hd, s, ok, w⟩ => ?_
  show tBM X.K "list" rExtend (tVar i) (tCons (LE X.K T E Te) tNil) σ H fun _ H1 => De.nx σ H1
  unfold dExt ownL at w
  split at w
  · rename_i ds hq
    obtain ⟨u, h1, p, rfl, _, _, xs, h2, _⟩ := s.slot i _ hq
    refine ⟨_, h1, .inl ⟨rfl, xs, SqL.of h2⟩, e.xc, Fr, H0, ρ, Hd, _, s, w, ok.xok, fun v x Hd1 H1 s1 b1 ok1 w1 => ?_⟩
    cases x with
    | d y =>
      obtain ⟨u, h1', p', e1, _, _, xs', h2', h3'⟩ := s1.slot i _ hq
      rw [h1] at h1'; cases h1'; cases e1
      have w1 : gExt i ds (some y) ρ e.nx := w1
      unfold gExt at w1
      split at w1
      · rename_i es ee
        cases ee
        have ok1 : Dt X.K Hd1 v (.list es) := ok1
        cases ok1 with
        | lst g1 g2 =>
          rename_i b zs
          refine ⟨p, b, xs', zs, rfl, rfl, h2', s1.keep _ _ g1, by rw [h3'.length, g2.length]; exact w1.1, ?_⟩
          exact ok.nx _ _ Hd1 _ (s1.mutOwn (d' := .list (ds ++ es)) hq h1 ⟨xs' ++ zs, upd_same, h3'.append g2⟩) (by rw [List.length_set]) w1.2
      · exact w1.elim
    | o y => exact (show False from w1).elim
    | s y => exact (show False from w1).elim
    | n _ _ => exact (show False from w1).elim
    | q _ _ _ => exact (show False from w1).elim
    | r _ _ _ => exact (show False from w1).elim
  · exact w.elim
/-! ### what is never reached -/
def dNo : DE := fun _ _ _ => False
def dNoT : DT := fun _ _ _ => False
def dNoS : DS := fun _ _ => False
theorem de_no : ED X T E e dNo := ⟨fun pins s σ H Q I ⟨_, _, _, _, _, _, _, w, _⟩ => w.elim⟩
theorem td_no : TD X T E e dNoT := ⟨fun pins s σ H Q I ⟨_, _, _, _, _, _, _, w, _⟩ => w.elim⟩
theorem sd_no : SD X T E st dNoS := ⟨fun pins s σ H D I ⟨_, _, _, _, _, _, _, w⟩ => w.elim⟩
end
section
variable {P : Program} {w : World} {K : PySem.W.Frag} {mg : Str → Option Value} {base : Heap} {T : Wd}
/-- a def that is never called -/
def F_no : Ct := fun _ _ _ => False
theorem fn_no {k n : Nat} {f : Addr} {fd : FuncData} {ps : List Str} : FnOk P w K mg base (L2N.CX P w) k f fd ps (spD K T n F_no) :=
  ⟨fun _ _ _ _ ⟨_, _, _, _, _, _, _, _, _, z, _⟩ => z.elim, fun _ _ _ _ _ _ _ _ _ _ _ _ _ ⟨_, _, _, _, _, _, _, _, _, z, _⟩ => z.elim⟩
end
end DL

/-! Data: dicts by whole numbers. -/
namespace DL
open PySem L2 LamX
def isKey (i : Int) : D → Bool
  | .int j => decide (j = i)
  | _ => false
def getI (es : List (D × D)) (i : Int) : Option D := (es.find? fun p => isKey i p.1).map (·.2)
def putI (es : List (D × D)) (i : Int) (v : D) : List (D × D) := if (es.any fun p => isKey i p.1) = true then es.map (fun p => if isKey i p.1 = true then (p.1, v) else p) else es ++ [(.int i, v)]
theorem isKey_D (i : Int) (k : Key) : isKey i (keyD k) = decide (k = .inl i) := by
  cases k with
  | inl j => simp [isKey, keyD]
  | inr s => simp [isKey, keyD]
section
variable {K : PySem.W.Frag} {H H' : Hp}
theorem DtK.get {i : Int} : ∀ {kvs : List (Key × V)} {es : List (D × D)}, DtK K H kvs es → (∀ d, getI es i = some d → ∃ v, valV kvs (.inl i) = some v ∧ Dt K H v d) ∧ (getI es i = none → valV kvs (.inl i) = none)
  | _, _, .nil => ⟨fun d h => by simp [getI] at h, fun _ => rfl⟩
  | (k, v) :: kvs, (_, d) :: es, .cons h t => by
    have ih := DtK.get (i := i) t
    by_cases hk : k = .inl i
    · have e1 : isKey i (keyD k) = true := by rw [isKey_D, decide_eq_true hk]
      refine ⟨fun d' hd => ?_, fun hn => ?_⟩
      · simp [getI, List.find?_cons, e1] at hd
        subst hd
        exact ⟨v, valV_pos hk, h⟩
      · simp [getI, List.find?_cons, e1] at hn
    · have e1 : isKey i (keyD k) = false := by rw [isKey_D, decide_eq_false hk]
      refine ⟨fun d' hd => ?_, fun hn => ?_⟩
      · rw [valV_neg hk]
        exact ih.1 d' (by simpa [getI, List.find?_cons, e1] using hd)
      · rw [valV_neg hk]
        exact ih.2 (by simpa [getI, List.find?_cons, e1] using hn)
theorem DtK.any {i : Int} : ∀ {kvs : List (Key × V)} {es : List (D × D)}, DtK K H kvs es → (es.any fun p => isKey i p.1) = kvs.any fun kv => decide (kv.1 = .inl i)
  | _, _, .nil => rfl
  | _, _, .cons h t => by rw [List.any_cons, List.any_cons, DtK.any t, isKey_D]
theorem DtK.repl {i : Int} {u : V} {x : D} (hu : Dt K H u x) : ∀ {kvs : List (Key × V)} {es : List (D × D)}, DtK K H kvs es → DtK K H (kvs.map fun kv => if kv.1 = .inl i then (kv.1, u) else kv) (es.map fun p => if isKey i p.1 = true then (p.1, x) else p)
  | _, _, .nil => .nil
  | (k, v) :: kvs, (_, d) :: es, .cons h t => by
    rw [List.map_cons, List.map_cons]
    have e := isKey_D i k
    by_cases hk : k = .inl i
    · rw [decide_eq_true hk] at e
      subst hk
      rw [if_pos rfl, if_pos e]
      exact .cons hu (DtK.repl hu t)
    · rw [decide_eq_false hk] at e
      rw [if_neg hk, if_neg (by rw [e]; exact Bool.false_ne_true)]
      exact .cons h (DtK.repl hu t)
theorem DtK.snoc {k : Key} {u : V} {x : D} (hu : Dt K H u x) : ∀ {kvs : List (Key × V)} {es : List (D × D)}, DtK K H kvs es → DtK K H (kvs ++ [(k, u)]) (es ++ [(keyD k, x)])
  | _, _, .nil => .cons hu .nil
  | _, _, .cons h t => .cons h (DtK.snoc hu t)
theorem DtK.put {i : Int} {u : V} {x : D} {kvs : List (Key × V)} {es : List (D × D)} (h : DtK K H kvs es) (hu : Dt K H u x) : DtK K H (putK kvs (.inl i) u) (putI es i x) := by
  unfold putK putI
  rw [h.any (i := i)]
  split
  · exact h.repl hu
  · exact h.snoc (k := .inl i) hu
end
section
variable {K : PySem.W.Frag} {T : Wd} {Fr H0 : Hp} {ρ : DSt} {σ : St} {Hd H : Hp}
theorem VlOk.dct (s : Sat K T Fr H0 ρ σ Hd H) {v : V} {x : Vl} {es : List (D × D)} (h : VlOk K Hd ρ σ v x) (e : x.dat = some (.dict es)) : ∃ a kvs, v = .ref a ∧ Rd H a (.dK kvs) ∧ DtK K Hd kvs es := by
  cases x with
  | d y =>
    cases e
    have h : Dt K Hd v (.dict es) := h
    cases h with
    | dct h1 h2 => exact ⟨_, _, rfl, s.keep.rd h1, h2⟩
  | o y =>
    cases e
    obtain ⟨i, h1, h2⟩ := h
    obtain ⟨w, g1, p, g2, _, _, kvs, g3, g4⟩ := s.slot i _ h1
    rw [h2] at g1; cases g1
    exact ⟨p, kvs, g2, .inl g3, g4⟩
  | s y => cases e
  | n _ _ => cases e
  | q _ _ _ => cases e
  | r _ _ _ => cases e
/-- a new dict, laid among the data and never changed again -/
theorem Sat.layK {p : Addr} {kvs : List (Key × V)} {od : Obj} (s : Sat K T Fr H0 ρ σ Hd H) (hp : H p = none) : Sat K T Fr H0 ρ σ (upd Hd p (.frz od (.dK kvs))) (upd (upd H p (.dK kvs)) p (.frz od (.dK kvs))) := by
  rw [upd_upd]
  exact s.lay (o := .frz od (.dK kvs)) hp
end
section
variable {X : Cx} {T : Wd} {E : XK} {a b c e o f tg iter : Expr} {es rest : List Expr} {pos p p2 : Pos} {Ta Tb Tc Te : DE} {Al : DA} {st : Stmt} {sts : List Stmt} {t u : DS}
theorem pe_lock {t : TE} (h : PE X e t) : PE X e (fun σ H Q => t σ H fun v H1 => ∃ d u, v = .ref d ∧ H1 d = some u ∧ Mut (some u) ∧ ∀ od, Q v (upd H1 d (.frz od u))) :=
  ⟨fun pins s σ H Q I w => thn (h.run pins s σ H _ I w) fun v s1 ⟨x, H1, I1, r, d, u, e, hd, mu, q⟩ => by
    obtain ⟨od, J⟩ := I1.lock hd mu
    exact ⟨x, _, J, r, q od⟩⟩
/-! ### d[k], d.get(k, x) -/
def gGetK : G2 := fun x y Q => match x.dat, y with
  | some (.dict es), .d (.int i) => match getI es i with
    | some v => Q (.d v)
    | none => False
  | _, _ => False
theorem de_getK {k : Nat} (hr : Room k X.A) (ha : ED X T E a Ta) (hb : ED X T E b Tb) (hs : NoSl b := by exact fun _ _ => rfl) : ED X T E (.Subscript a b pos) (dOp gGetK Ta Tb) := by
  refine pe_imp (pe_dget (by have := hr.un; omega) ha hb hs) fun σ H Q ⟨xc, Fr, H0, ρ, Hd, q, s, w, hx, k⟩ => ⟨xc, Fr, H0, ρ, Hd, _, s, w, hx, fun v x Hd1 H1 s1 b1 ok1 w1 => ⟨xc, Fr, H0, ρ, Hd1, _, s1, w1, hx, fun v2 y Hd2 H2 s2 b2 ok2 w2 => ?_⟩⟩
  unfold gGetK at w2
  split at w2
  · rename_i es i ex
    split at w2
    · rename_i d hd
      obtain ⟨p1, kvs, rfl, h1, h2⟩ := (ok1.mono b2).dct s2 ex
      obtain ⟨u, h3, h4⟩ := (h2.get (i := i)).1 d hd
      exact ⟨p1, u, rfl, .inl ⟨kvs, .inl i, h1, ok2.int s2 rfl, h3.symm⟩, k u (.d d) Hd2 H2 s2 (b1.trans b2) h4 w2⟩
    · exact w2.elim
  · exact w2.elim
def gDct (x : Option D) (k : List (D × D) → Prop) : Prop := match x with
  | some (.dict es) => k es
  | _ => False
def gGet2 (es : List (D × D)) (y z : Vl) (Q : Vl → Prop) : Prop := match y, z with
  | .d (.int i), .d w => Q (.d ((getI es i).getD w))
  | _, _ => False
def dGet2 (Ta Tb Tc : DE) : DE := fun xc ρ Q => Ta xc ρ fun x => gDct x.dat fun es => Tb xc ρ fun y => Tc xc ρ fun z => gGet2 es y z Q
theorem de_get2 {k : Nat} {apos cpos : Pos} (hr : Room k X.A) (ho : ED X T E o Ta) (he : ED X T E e Tb) (hf : ED X T E f Tc) (m : M2 X o "get" apos e f cpos := by exact ⟨rfl, rfl, rfl, rfl⟩) : ED X T E (.Call (.Attribute o "get" apos) [e, f] [] cpos) (dGet2 Ta Tb Tc) := by
  refine pe_imp (pe_dget2 (by have := hr.un; omega) ho he hf m) fun σ H Q ⟨xc, Fr, H0, ρ, Hd, q, s, w, hx, k⟩ => ⟨xc, Fr, H0, ρ, Hd, _, s, w, hx, fun v x Hd1 H1 s1 b1 ok1 w1 => ?_⟩
  unfold gDct at w1
  split at w1
  · rename_i es ex
    obtain ⟨p1, kvs, rfl, h1, h2⟩ := ok1.dct s1 ex
    refine ⟨p1, rfl, .inl ⟨kvs, h1⟩, xc, Fr, H0, ρ, Hd1, _, s1, w1, hx, fun v2 y Hd2 H2 s2 b2 ok2 w2 => ⟨xc, Fr, H0, ρ, Hd2, _, s2, w2, hx, fun v3 z Hd3 H3 s3 b3 ok3 w3 => ?_⟩⟩
    obtain ⟨p3, kvs3, e3, g1, g2⟩ := (ok1.mono (b2.trans b3)).dct s3 ex
    cases e3
    unfold gGet2 at w3
    split at w3
    · rename_i i dw
      have ok3 : Dt X.K Hd3 v3 dw := ok3
      have e2 := (ok2.mono b3).int s3 rfl
      refine ⟨valV kvs3 (.inl i), .inl ⟨kvs3, .inl i, g1, e2, rfl⟩, ?_⟩
      cases hq : getI es i with
      | none =>
        rw [(g2.get (i := i)).2 hq]
        rw [hq] at w3
        exact k v3 (.d dw) Hd3 H3 s3 ((b1.trans b2).trans b3) ok3 w3
      | some d =>
        obtain ⟨u, h3, h4⟩ := (g2.get (i := i)).1 d hq
        rw [h3]
        rw [hq] at w3
        exact k u (.d d) Hd3 H3 s3 ((b1.trans b2).trans b3) h4 w3
    · exact w3.elim
  · exact w1.elim
/-! ### x = {}, x[k] = v -/
def dOwnK (i : Nat) : DS := fun e ρ => e.nx (ρ.set i (some (.o (.dict []))))
theorem sd_ownK {x : Str} (i : Nat) (hN : X.N.Nodup) (hi : X.N[i]? = some x := by rfl) (hx : Loc X.env.scope x := by first | exact Or.inl rfl | exact Or.inr rfl) (hs : swapsWith (.Dict [] [] p2) (some (.Name x p)) pos.line X.env = pure false := by rfl) (hf : X.fn x = true ∨ X.env.scope.names.lookup x = some .local := by first | exact .inl rfl | exact .inr rfl) :
    SD X T E (.Assign [.Name x p] (.Dict [] [] p2) pos) (dOwnK i) :=
  ps_imp (ps_set hN hi hx pe_dnewK hs hf) fun De σ H ⟨e, Fr, H0, ρ, Hd, s, ok, w⟩ => fun q hq =>
    ok.nx _ _ Hd _ (s.setOwn (o := .dK []) (d := .dict []) hq ⟨[], upd_same, .nil⟩) (by rw [List.length_set]) w
def ownK (o : Option (Option Vl)) (k : List (D × D) → Prop) : Prop := match o with
  | some (some (.o (.dict es))) => k es
  | _ => False
def gPutK (i : Nat) (es : List (D × D)) (y : Vl) (d : D) (ρ : DSt) (Q : DSt → Prop) : Prop := match y with
  | .d (.int j) => es.length < sizeLine ∧ Q (ρ.set i (some (.o (.dict (putI es j d)))))
  | _ => False
def dPutK (i : Nat) (Tk Tv : DE) : DS := fun e ρ => ownK ρ[i]? fun es => Tv e.xc ρ fun v => vD v fun d => Tk e.xc ρ fun y => gPutK i es y d ρ e.nx
theorem sd_putK {k : Nat} {x : Str} {px pos' : Pos} (hr : Room k X.A) (i : Nat) (hx : PE X (.Name x px) (tVar i)) (hk : ED X T E b Tb) (hv : ED X T E a Ta) (hs : swapsWith a (some (.Subscript (.Name x px) b pos')) pos.line X.env = pure false := by rfl) :
    SD X T E (.Assign [.Subscript (.Name x px) b pos'] a pos) (dPutK i Tb Ta) := by
  refine ps_imp (ps_dput (by have := hr.un; omega) hx hk hv hs) fun De σ H ⟨e, Fr, H0, ρ, Hd, s, ok, w⟩ => ?_
  unfold dPutK ownK at w
  split at w
  · rename_i es hq
    refine ⟨e.xc, Fr, H0, ρ, Hd, _, s, w, ok.xok, fun v x Hd1 H1 s1 b1 ok1 w1 => ?_⟩
    cases x with
    | d d =>
      have ok1 : Dt X.K Hd1 v d := ok1
      obtain ⟨u, h1, p, rfl, _, _, _, _, _⟩ := s1.slot i _ hq
      refine ⟨_, h1, e.xc, Fr, H0, ρ, Hd1, _, s1, w1, ok.xok, fun v2 y Hd2 H2 s2 b2 ok2 w2 => ?_⟩
      unfold gPutK at w2
      split at w2
      · rename_i j
        obtain ⟨u', g1, p', g2, _, _, kvs, g3, g4⟩ := s2.slot i _ hq
        rw [h1] at g1; cases g1; cases g2
        refine ⟨p, _, rfl, .inl ⟨kvs, .inl j, g3, ok2.int s2 rfl, by rw [g4.length]; exact w2.1, rfl⟩, ?_⟩
        exact ok.nx _ _ Hd2 _ (s2.mutOwn (d' := .dict (putI es j d)) hq h1 ⟨_, upd_same, g4.put (ok1.mono b2)⟩) (by rw [List.length_set]) w2.2
      · exact w2.elim
    | o y => exact (show False from w1).elim
    | s y => exact (show False from w1).elim
    | n _ _ => exact (show False from w1).elim
    | q _ _ _ => exact (show False from w1).elim
    | r _ _ _ => exact (show False from w1).elim
  · exact w.elim
/-! ### sorted(d) -/
def keysI : List (D × D) → Option (List Int)
  | [] => some []
  | (.int i, _) :: r => (keysI r).map (i :: ·)
  | _ => none
theorem keysI_ok {K : PySem.W.Frag} {H : Hp} : ∀ {kvs : List (Key × V)} {es : List (D × D)} {ks : List Int}, DtK K H kvs es → keysI es = some ks → kvs.map (·.1) = ks.map Sum.inl
  | _, _, _, .nil, e => by simp [keysI] at e; subst e; rfl
  | (.inl j, v) :: kvs, (_, d) :: es, ks, .cons h t, e => by
    have e : (keysI es).map (j :: ·) = some ks := e
    cases q : keysI es with
    | none => rw [q] at e; cases e
    | some r =>
      rw [q] at e
      cases e
      rw [List.map_cons, List.map_cons, keysI_ok t q]
  | (.inr j, v) :: kvs, (_, d) :: es, ks, .cons h t, e => by
    have e : (none : Option (List Int)) = some ks := e
    cases e
def gSortK (es : List (D × D)) (Q : Vl → Prop) : Prop := match keysI es with
  | some ks => ks.length < 64 ∧ Q (.d (.list ((isort ks).map .int)))
  | none => False
def gSortedK : GN := fun xs Q => match xs with
  | [x] => gDct x.dat fun es => gSortK es Q
  | _ => False
theorem cd_sortedK : CallD X.K T (fun xs H Q => ∃ (a : Addr) (kvs : List (Key × V)) (ks : List Int), xs = [.ref a] ∧ Rd H a (.dK kvs) ∧ kvs.map (·.1) = ks.map Sum.inl ∧ ks.length < 64 ∧ ∀ (ys : List Int) (p : Addr), ys.Perm ks → ys.Pairwise (· ≤ ·) → H p = none → Q (.ref p) (upd H p (.lst (ys.map V.int)))) gSortedK := fun Fr H0 ρ σ Hd H vs xs q Q s hv w k => by
  unfold gSortedK at w
  split at w
  · rename_i x
    obtain ⟨v, rfl, h⟩ := vls1 hv
    unfold gDct at w
    split at w
    · rename_i es ex
      obtain ⟨a, kvs, rfl, h1, h2⟩ := h.dct s ex
      unfold gSortK at w
      split at w
      · rename_i ks hk
        refine ⟨a, kvs, ks, rfl, h1, keysI_ok h2 hk, w.1, fun ys p hp hs hn => ?_⟩
        have e : ys = isort ks := sorted_unique (hp.trans (isort_perm ks).symm) hs (isort_sorted ks)
        subst e
        exact k _ (.d (.list ((isort ks).map .int))) _ _ (s.lay (o := .lst _) hn) (Sub.new (s.keep.free hn)) (Dt.lst upd_same (dtA_ints _)) w.2
      · exact w.elim
    · exact w.elim
  · exact w.elim
theorem b_sortedK (hc : X.calm = true := by rfl) : BltD X T "sorted" gSortedK := ⟨_, call_sortedDI hc, cd_sortedK⟩
/-! ### dict(x): of pairs, or of a dict -/
def pairsI : List D → Option (List (Int × D))
  | [] => some []
  | .tuple [.int i, v] :: r => (pairsI r).map ((i, v) :: ·)
  | _ => none
def mergeI (es : List (D × D)) (ps : List (Int × D)) : List (D × D) := ps.foldl (fun acc p => putI acc p.1 p.2) es
def gDictE (x : Option D) (Q : List (D × D) → Prop) : Prop := match x with
  | some (.list ds) => match pairsI ds with
    | some ps => Q (mergeI [] ps)
    | none => False
  | some (.dict es) => Q es
  | _ => False
theorem pairsI_cons {d : D} {ds : List D} {ps : List (Int × D)} (e : pairsI (d :: ds) = some ps) : ∃ i v r, d = .tuple [.int i, v] ∧ pairsI ds = some r ∧ ps = (i, v) :: r := by
  unfold pairsI at e
  split at e
  · rename_i z; cases z
  · rename_i i v r2 z
    injection z with z1 z2
    subst z1 z2
    cases q : pairsI ds with
    | none => rw [q] at e; cases e
    | some r => rw [q] at e; cases e; exact ⟨_, _, r, rfl, rfl, rfl⟩
  · cases e
theorem paired_imp {α β : Type} {R S : α → β → Prop} (h : ∀ a b, R a b → S a b) : ∀ {xs : List α} {ys : List β}, Paired R xs ys → Paired S xs ys
  | _, _, .nil => .nil
  | _, _, .cons r t => .cons (h _ _ r) (paired_imp h t)
theorem pairs_get {K : PySem.W.Frag} {H : Hp} : ∀ {vs : List V} {ds : List D} {ps : List (Int × D)}, DtA K H vs ds → pairsI ds = some ps → ∃ (as : List Addr) (ws : List V), vs = as.map V.ref ∧ DtA K H ws (ps.map (·.2)) ∧ ws.length = ps.length ∧
    Paired (fun p (kv : Key × V) => H p = some (.tup [kV kv.1, kv.2])) as ((ps.map fun p => (Sum.inl p.1 : Key)).zip ws)
  | _, _, _, .nil, e => by simp [pairsI] at e; subst e; exact ⟨[], [], rfl, .nil, rfl, .nil⟩
  | v :: vs, d :: ds, ps, .cons h t, e => by
    obtain ⟨i, x, r', rfl, q, rfl⟩ := pairsI_cons e
    obtain ⟨as, ws, e1, e2, e3, e4⟩ := pairs_get t q
    cases h with
    | tup h1 h2 =>
      rename_i a xs
      cases h2 with
      | cons g1 g2 =>
        cases g2 with
        | cons g3 g4 =>
          cases g4
          cases g1
          rename_i w
          exact ⟨a :: as, w :: ws, by rw [e1]; rfl, .cons g3 e2, by simp [e3], .cons h1 e4⟩
theorem merge_ok {K : PySem.W.Frag} {H : Hp} : ∀ {ps : List (Int × D)} {ws : List V} {kvs : List (Key × V)} {es : List (D × D)}, DtK K H kvs es → DtA K H ws (ps.map (·.2)) → DtK K H (mergeK kvs ((ps.map fun p => (Sum.inl p.1 : Key)).zip ws)) (mergeI es ps)
  | [], _, kvs, es, h, .nil => h
  | p :: ps, w :: ws, kvs, es, h, .cons g t => merge_ok (ps := ps) (ws := ws) (h.put (i := p.1) g) t
def rDict (K : PySem.W.Frag) : List V → Hp → VK → Prop := fun xs H Q => (∃ (a : Addr) (ps : List Addr) (kvs : List (Key × V)), xs = [.ref a] ∧ SqL K H a (ps.map V.ref) ∧ Paired (fun p kv => SqT K H p [kV kv.1, kv.2]) ps kvs ∧ ∀ p, H p = none → Q (.ref p) (upd H p (.dK (mergeK [] kvs)))) ∨
  ∃ (a : Addr) (kvs : List (Key × V)), xs = [.ref a] ∧ Rd H a (.dK kvs) ∧ ∀ p, H p = none → Q (.ref p) (upd H p (.dK kvs))
theorem call_dictE (hc : X.calm = true) : CallR X (.type "dict") (rDict X.K) := by
  intro pins s σ H xs us Q I r h
  rcases h with h | h
  · exact call_dictP hc pins s σ H xs us Q I r h
  · exact call_dictD pins s σ H xs us Q I r h
/-- what dict(x) lays -/
theorem dict_lays {Fr H0 : Hp} {ρ : DSt} {σ : St} {Hd H : Hp} {v : V} {x : Vl} {q : List (D × D) → Prop} {Q : VK} (s : Sat X.K T Fr H0 ρ σ Hd H) (h : VlOk X.K Hd ρ σ v x) (w : gDictE x.dat q)
    (k : ∀ p kvs es, H p = none → DtK X.K Hd kvs es → q es → Q (.ref p) (upd H p (.dK kvs))) : rDict X.K [v] H Q := by
  unfold gDictE at w
  split at w
  · rename_i ds ex
    obtain ⟨a, xs, rfl, h1, h2⟩ := h.list s ex
    split at w
    · rename_i ps hp
      obtain ⟨as, ws, e1, e2, e3, e4⟩ := pairs_get h2 hp
      refine .inl ⟨a, as, _, rfl, by rw [← e1]; exact SqL.of h1, ?_, fun p hn => k p _ _ hn (merge_ok .nil e2) w⟩
      exact paired_imp (fun p kv g => SqT.of (s.keep _ _ g)) e4
    · exact w.elim
  · rename_i es ex
    obtain ⟨a, kvs, rfl, h1, h2⟩ := h.dct s ex
    exact .inr ⟨a, kvs, rfl, h1, fun p hn => k p _ _ hn h2 w⟩
  · exact w.elim
def gDictA (xs : List Vl) (Q : List (D × D) → Prop) : Prop := match xs with
  | [x] => gDictE x.dat Q
  | _ => False
def dDict (Al : DA) : DE := fun xc ρ Q => Al xc ρ fun xs => gDictA xs fun es => Q (.d (.dict es))
theorem de_dict (hm : X.mg "dict" = none) (ha : AD X T E (e :: es) Al) (hg : Gl X "dict" := by rfl) (hc : X.calm = true := by rfl) (he : starEach (e :: es) X.env = (false, eval e X.env) :: starEach es X.env := by rfl) (hpl : (backTo pos (starEach es X.env)).any (·.1) = false := by rfl) :
    ED X T E (.Call (.Name "dict" p) (e :: es) [] pos) (dDict Al) := by
  refine pe_imp (pe_lock (pe_callTy (call_dictE hc) hg hm (by decide +kernel) ha (he := he) (hpl := hpl))) fun σ H Q ⟨xc, Fr, H0, ρ, Hd, q, s, w, hx, k⟩ => ⟨xc, Fr, H0, ρ, Hd, _, s, w, hx, fun vs xs Hd1 H1 s1 b1 ok1 w1 => ?_⟩
  unfold gDictA at w1
  split at w1
  · rename_i x
    obtain ⟨v, rfl, h⟩ := vls1 ok1
    refine dict_lays s1 h w1 fun p kvs es hp dk w2 => ⟨p, _, rfl, upd_same, True.intro, fun od => ?_⟩
    exact k _ (.d (.dict es)) _ _ (s1.layK hp) (b1.trans (Sub.new (s1.keep.free hp))) (Dt.dct (.inr ⟨od, upd_same⟩) (dk.mono (Sub.new (s1.keep.free hp)))) w2
  · exact w1.elim
/-- x = dict(e), to be changed -/
def dOwnD (i : Nat) (Al : DA) : DS := fun e ρ => Al e.xc ρ fun xs => gDictA xs fun es => e.nx (ρ.set i (some (.o (.dict es))))
theorem sd_ownD {x : Str} {p3 : Pos} (i : Nat) (hm : X.mg "dict" = none) (ha : AD X T E (e :: es) Al) (hN : X.N.Nodup) (hg : Gl X "dict" := by rfl) (hc : X.calm = true := by rfl) (he : starEach (e :: es) X.env = (false, eval e X.env) :: starEach es X.env := by rfl) (hpl : (backTo p2 (starEach es X.env)).any (·.1) = false := by rfl)
    (hi : X.N[i]? = some x := by rfl) (hx : Loc X.env.scope x := by first | exact Or.inl rfl | exact Or.inr rfl) (hs : swapsWith (.Call (.Name "dict" p3) (e :: es) [] p2) (some (.Name x p)) pos.line X.env = pure false := by rfl) (hf : X.fn x = true ∨ X.env.scope.names.lookup x = some .local := by first | exact .inl rfl | exact .inr rfl) :
    SD X T E (.Assign [.Name x p] (.Call (.Name "dict" p3) (e :: es) [] p2) pos) (dOwnD i Al) := by
  refine ps_imp (ps_set hN hi hx (pe_callTy (call_dictE hc) hg hm (by decide +kernel) ha (he := he) (hpl := hpl)) hs hf) fun De σ H ⟨e, Fr, H0, ρ, Hd, s, ok, w⟩ => ⟨e.xc, Fr, H0, ρ, Hd, _, s, w, ok.xok, fun vs xs Hd1 H1 s1 b1 ok1 w1 => ?_⟩
  unfold gDictA at w1
  split at w1
  · rename_i x
    obtain ⟨v, rfl, h⟩ := vls1 ok1
    refine dict_lays s1 h w1 fun p kvs es hp dk w2 => ?_
    exact ok.nx _ _ Hd1 _ (s1.setOwn (o := .dK kvs) (d := .dict es) hp ⟨kvs, upd_same, dk⟩) (by rw [List.length_set]) w2
  · exact w1.elim
/-- {} -/
theorem de_emp : ED X T E (.Dict [] [] pos) (dC (.dict [])) := by
  refine pe_imp (pe_lock pe_dnewK) fun σ H Q ⟨xc, Fr, H0, ρ, Hd, q, s, w, hx, k⟩ => fun p hp => ⟨p, _, rfl, upd_same, True.intro, fun od => ?_⟩
  exact k _ (.d (.dict [])) _ _ (s.layK hp) (Sub.new (s.keep.free hp)) (Dt.dct (.inr ⟨od, upd_same⟩) .nil) w
end
end DL

/-! Data: dicts compared with {}, walked; least and greatest; lists compared. -/
namespace DL
open PySem PySem.Spec PySem.SeqAt L2 LamX
section
variable {X : Cx} {T : Wd} {E : XK} {a b c e o f tg iter : Expr} {es rest : List Expr} {pos p p2 : Pos} {Ta Tb Tc Te : DE} {Al : DA} {st : Stmt} {sts : List Stmt} {t u : DS}
/-! ### d == {} -/
def rEqE : R2 := fun x y H Q => ∃ a b kvs, x = .ref a ∧ y = .ref b ∧ Rd H a (.dK kvs) ∧ Rd H b (.dK []) ∧ Q (.bl kvs.isEmpty) H
def rNeE : R2 := fun x y H Q => ∃ a b kvs, x = .ref a ∧ y = .ref b ∧ Rd H a (.dK kvs) ∧ Rd H b (.dK []) ∧ Q (.bl (!kvs.isEmpty)) H
theorem len_empty {α β : Type} {ks : List α} {va vb : List β} (h1 : ks.length = va.length) (h2 : 0 = vb.length) : ks.isEmpty = (va.length == vb.length && true) := by
  rw [← h2, ← h1, Bool.and_true]
  cases ks <;> simp
theorem op_eqE (hu : X.A.units < cLine) : OpR X (compareOp .Eq) rEqE := by
  intro pins s σ H x y v u Q I rx ry h
  obtain ⟨a, b, ks, rfl, rfl, ea, eb, q⟩ := h
  obtain rfl : v = Value.ref a := rx
  obtain rfl : u = Value.ref b := ry
  obtain ⟨_, ya, va, ra, da⟩ := dk_rd I.hok ea
  obtain ⟨_, yb, vb, rb, db⟩ := dk_rd I.hok eb
  have hb : vb = [] := List.eq_nil_of_length_eq_zero rb.length.symm
  exact PySem.W.keq_eq (knd := mixKind X.prog X.w) (r := true) ya yb da db hu (fun hl => by
    rw [hb] at hl
    rw [List.eq_nil_of_length_eq_zero hl]
    exact .nil) (fin_bl I q (len_empty ra.length rb.length))
theorem op_neE (hu : X.A.units < cLine) : OpR X (compareOp .NotEq) rNeE := by
  intro pins s σ H x y v u Q I rx ry h
  obtain ⟨a, b, ks, rfl, rfl, ea, eb, q⟩ := h
  obtain rfl : v = Value.ref a := rx
  obtain rfl : u = Value.ref b := ry
  obtain ⟨_, ya, va, ra, da⟩ := dk_rd I.hok ea
  obtain ⟨_, yb, vb, rb, db⟩ := dk_rd I.hok eb
  have hb : vb = [] := List.eq_nil_of_length_eq_zero rb.length.symm
  exact PySem.W.keq_ne (knd := mixKind X.prog X.w) (r := true) ya yb da db hu (fun hl => by
    rw [hb] at hl
    rw [List.eq_nil_of_length_eq_zero hl]
    exact .nil) (fin_bl I q (by rw [len_empty ra.length rb.length]))
def gEqE : G2 := fun x y Q => match x.dat, y.dat with
  | some (.dict es), some (.dict []) => Q (.d (.bool es.isEmpty))
  | _, _ => False
def gNeE : G2 := fun x y Q => match x.dat, y.dat with
  | some (.dict es), some (.dict []) => Q (.d (.bool (!es.isEmpty)))
  | _, _ => False
theorem DtK.isE {K : PySem.W.Frag} {H : Hp} {kvs : List (Key × V)} {es : List (D × D)} (h : DtK K H kvs es) : kvs.isEmpty = es.isEmpty := by cases h <;> rfl
theorem od_eqE : OpD X.K T rEqE gEqE := fun Fr H0 ρ σ Hd H vx vy x y q Q s hx hy w k => by
  unfold gEqE at w
  split at w
  · rename_i es ex ey
    obtain ⟨a, kvs, rfl, h1, h2⟩ := hx.dct s ex
    obtain ⟨b, kws, rfl, g1, g2⟩ := hy.dct s ey
    cases g2
    exact ⟨a, b, kvs, rfl, rfl, h1, g1, k _ (.d (.bool es.isEmpty)) Hd H s (Sub.refl _) (by rw [h2.isE]; exact Dt.bl _) w⟩
  · exact w.elim
theorem od_neE : OpD X.K T rNeE gNeE := fun Fr H0 ρ σ Hd H vx vy x y q Q s hx hy w k => by
  unfold gNeE at w
  split at w
  · rename_i es ex ey
    obtain ⟨a, kvs, rfl, h1, h2⟩ := hx.dct s ex
    obtain ⟨b, kws, rfl, g1, g2⟩ := hy.dct s ey
    cases g2
    exact ⟨a, b, kvs, rfl, rfl, h1, g1, k _ (.d (.bool (!es.isEmpty))) Hd H s (Sub.refl _) (by rw [h2.isE]; exact Dt.bl _) w⟩
  · exact w.elim
theorem c_eqE {k : Nat} (hr : Room k X.A) : CmpD X T .Eq gEqE := ⟨_, op_eqE (by have := hr.un; omega), od_eqE⟩
theorem c_neE {k : Nat} (hr : Room k X.A) : CmpD X T .NotEq gNeE := ⟨_, op_neE (by have := hr.un; omega), od_neE⟩
/-! ### a dict's keys walked -/
def gKeys (v : Vl) (q : List D → Prop) : Prop := match v with
  | .d (.dict es) => q (es.map (·.1))
  | _ => False
def dKeys (Te : DE) : DI := fun xc ρ q => Te xc ρ fun v => gKeys v q
theorem DtK.key : ∀ {K : PySem.W.Frag} {H : Hp} {kvs : List (Key × V)} {es : List (D × D)} {i : Nat} {d : D}, DtK K H kvs es → (es.map (·.1))[i]? = some d → ∃ k v, kvs[i]? = some (k, v) ∧ d = keyD k
  | _, _, _, _, _, _, .nil, e => by simp at e
  | _, _, _, _, 0, d, .cons _ _, e => by simp at e; exact ⟨_, _, rfl, e.symm⟩
  | _, _, _, _, i + 1, d, .cons _ t, e => by
    obtain ⟨k, v, h1, h2⟩ := DtK.key (i := i) t (by simpa using e)
    exact ⟨k, v, by simpa using h1, h2⟩
theorem key_dt {K : PySem.W.Frag} {H : Hp} (k : Key) : Dt K H (kV k) (keyD k) := by
  cases k with
  | inl i => exact Dt.int i
  | inr s => exact Dt.str s
theorem id_keys (he : ED X T E e Te) : ID X T E tg e (dKeys Te) := by
  refine pi_imp (pi_keys he) fun σ H R ⟨xc, Fr, H0, ρ, Hd, q, s, w, hx, k⟩ => ⟨xc, Fr, H0, ρ, Hd, _, s, w, hx, fun v x Hd1 H1 s1 b1 ok1 w1 => ?_⟩
  unfold gKeys at w1
  split at w1
  · rename_i es
    have ok1 : Dt X.K Hd1 v (.dict es) := ok1
    cases ok1 with
    | dct h1 h2 =>
      rename_i a kvs
      rcases h1 with h1 | ⟨od, h1⟩
      · exact absurd h1 (s1.ntb.2 a kvs)
      · refine ⟨a, od, rfl, .inl ⟨kvs, s1.keep _ _ h1, k _ (es.map (·.1)) Hd1 H1 s1 b1 (fun Fr H0 ρ σ Hd2 H2 i s2 b2 => ⟨fun d hd => ?_, fun hl => ?_⟩) w1⟩⟩
        · obtain ⟨kk, vv, e1, e2⟩ := h2.key hd
          refine ⟨⟨s2.keep _ _ (b2 _ _ h1), (List.getElem?_eq_some_iff.mp e1).1⟩, fun x H' ⟨y1, k2, v2, y2, y3⟩ => ⟨Hd2, y1 ▸ s2, Sub.refl _, ?_⟩⟩
          rw [e1] at y2; cases y2
          rw [y3, e2]
          exact key_dt _
        · exact ⟨s2.keep _ _ (b2 _ _ h1), by rw [List.length_map] at hl; rw [h2.length]; omega⟩
  · exact w1.elim
/-! ### one's own dict becomes data -/
theorem pss_lock {t : TS} (h : PSs X sts t) : PSs X sts (fun D σ H => t D σ H ∨ ∃ d u, H d = some u ∧ Mut (some u) ∧ ∀ od, t D σ (upd H d (.frz od u))) :=
  ⟨fun pins s σ H D I w => by
    rcases w with w | ⟨d, u, hd, mu, w⟩
    · exact h.run pins s σ H D I w
    · obtain ⟨od, J⟩ := I.lock hd mu
      exact h.run pins s σ _ D J (w od)⟩
def frzK (i : Nat) (ρ : DSt) : DSt := match ρ[i]? with
  | some (some (.o (.dict es))) => ρ.set i (some (.d (.dict es)))
  | _ => ρ
def dFrzK (i : Nat) (t : DS) : DS := fun e ρ => t e (frzK i ρ)
theorem Sat.freezeK {K : PySem.W.Frag} {Fr H0 : Hp} {ρ : DSt} {σ : St} {Hd H : Hp} {i : Nat} {es : List (D × D)} {p : Addr} {kvs : List (Key × V)} {od : Obj} (s : Sat K T Fr H0 ρ σ Hd H) (hi : ρ[i]? = some (some (.o (.dict es)))) (h1 : σ[i]? = some (some (.ref p))) (h3 : Hd p = none) (h4 : Fr p = none) (h6 : H p = some (.dK kvs)) (h7 : DtK K Hd kvs es) :
    Sat K T Fr H0 (ρ.set i (some (.d (.dict es)))) σ (upd Hd p (.frz od (.dK kvs))) (upd H p (.frz od (.dK kvs))) := by
  have hl : i < ρ.length := (List.getElem?_eq_some_iff.mp hi).1
  have sb : Sub Hd (upd Hd p (.frz od (.dK kvs))) := Sub.new h3
  have dt : Dt K (upd Hd p (.frz od (.dK kvs))) (.ref p) (.dict es) := Dt.dct (.inr ⟨od, upd_same⟩) (h7.mono sb)
  refine ⟨by rw [List.length_set]; exact s.len, s.base.trans sb, s.keep.upd, s.ntb.upd (fun ps z => by cases z) (fun ps z => by cases z), fun t ht => ?_, fun b u e => ?_, fun j u e => ?_, fun j l x y w e1 e2 e3 e4 => ?_, s.sep.2.back (fun m C g st e => ⟨st, (set_in e (by intro z; cases z)).1⟩) fun m z p' e e' => ⟨z, (set_in e (by intro z; cases z)).1, e'⟩⟩
  · obtain ⟨ps, g1, g2, g3⟩ := s.tabs t ht
    have n : t.1 ≠ p := fun z => by rw [z, h6] at g1; cases g1
    refine ⟨ps, by rw [upd_ne n]; exact g1, g2, fun pos cv hc => ?_⟩
    obtain ⟨c, k1, k2⟩ := g3 pos cv hc
    have n2 : c ≠ p := fun z => by rw [z, h6] at k2; cases k2
    exact ⟨c, k1, by rw [upd_ne n2]; exact k2⟩
  · obtain ⟨g0, g1, g2⟩ := s.frame b u e
    have n : b ≠ p := fun z => by subst z; rw [h4] at e; cases e
    exact ⟨g0, by rw [upd_ne n]; exact g1, by rw [upd_ne n]; exact g2⟩
  · by_cases q : i = j
    · subst q
      rw [List.getElem?_set_self hl] at e
      cases e
      exact ⟨.ref p, h1, dt⟩
    · rw [List.getElem?_set_ne q] at e
      obtain ⟨u', k1, k2⟩ := s.slot j u e
      refine ⟨u', k1, ?_⟩
      cases u with
      | d y => exact Dt.mono sb k2
      | s y => obtain ⟨b, g1, g2⟩ := k2; exact ⟨b, g1, sb.l g2⟩
      | r _ _ _ => exact RAt.mono sb k2
      | q C g y =>
        obtain ⟨n1, n2⟩ := s.sep.2 j i C g y _ p e hi h1
        have n : ∀ b, g.has b → b ≠ p := fun b hb z => by
          rcases hb with y | y | y
          · obtain ⟨o2, a1, _, a3, _⟩ := k2.2.at (b := g.x) (.inl rfl)
            rw [← y, z, h6] at a1
            cases a1
            exact a3 _ rfl
          · exact n1 (z.symm.trans y)
          · exact n2 (z.symm.trans y)
        exact ⟨k2.1, k2.2.to sb fun b u hb hu => ⟨by rw [upd_ne (n b hb)]; exact (k2.2.out b hb).1, by rw [upd_ne (n b hb)]; exact hu, (k2.2.out b hb).2⟩⟩
      | n w y =>
        obtain ⟨b, g1, g2, g3, xs, g4, g5⟩ := k2
        have n : b ≠ p := fun z => by
          rw [z, h6] at g4
          unfold NdO at g4; cases g4
        exact ⟨b, g1, by rw [upd_ne n]; exact g2, g3, xs, by rw [upd_ne n]; exact g4, g5.mono sb⟩
      | o y =>
        obtain ⟨b, g1, g2, g3, g4⟩ := k2
        have n : b ≠ p := fun z => q (s.sep.1 i j _ y (.ref p) hi e h1 (by rw [k1, g1, z]))
        refine ⟨b, g1, by rw [upd_ne n]; exact g2, g3, ?_⟩
        cases y with
        | list ds => obtain ⟨xs, h6, h7⟩ := g4; exact ⟨xs, by rw [upd_ne n]; exact h6, h7.mono sb⟩
        | dict ds => obtain ⟨xs, h6, h7⟩ := g4; exact ⟨xs, by rw [upd_ne n]; exact h6, h7.mono sb⟩
        | none => exact g4.elim
        | bool _ => exact g4.elim
        | int _ => exact g4.elim
        | str _ => exact g4.elim
        | tuple _ => exact g4.elim
  · have back : ∀ (m : Nat) (z : D), (ρ.set i (some (.d (.dict es))))[m]? = some (some (.o z)) → ρ[m]? = some (some (.o z)) := fun m z e => by
      by_cases q : i = m
      · subst q; rw [List.getElem?_set_self hl] at e; cases e
      · rw [List.getElem?_set_ne q] at e; exact e
    exact s.sep.1 j l x y w (back j x e1) (back l y e2) e3 e4
theorem bd_frzK (i : Nat) (h : BD X T E sts t) : BD X T E sts (dFrzK i t) := by
  refine pss_imp (pss_lock h) fun De σ H ⟨e, Fr, H0, ρ, Hd, s, ok, w⟩ => ?_
  unfold dFrzK frzK at w
  split at w
  · rename_i es hi
    obtain ⟨u', h1, p, rfl, h3, h4, kvs, h6, h7⟩ := s.slot i _ hi
    exact .inr ⟨p, _, h6, True.intro, fun od => ⟨e, Fr, H0, _, _, s.freezeK hi h1 h3 h4 h6 h7, by rw [List.length_set]; exact ok, w⟩⟩
  · exact .inl ⟨e, Fr, H0, ρ, Hd, s, ok, w⟩
/-! ### min, max of a tuple of numbers; of a list -/
def gMinT : GN := fun xs Q => match xs with
  | [.d (.tuple [.int i, .int j])] => Q (.d (.int (min i j)))
  | _ => False
def gMaxT : GN := fun xs Q => match xs with
  | [.d (.tuple [.int i, .int j])] => Q (.d (.int (max i j)))
  | _ => False
def rMinT (K : PySem.W.Frag) : List V → Hp → VK → Prop := fun xs H Q => ∃ (p : Addr) (i j : Int), xs = [.ref p] ∧ SqT K H p [.int i, .int j] ∧ Q (.int (min i j)) H
def rMaxT (K : PySem.W.Frag) : List V → Hp → VK → Prop := fun xs H Q => ∃ (p : Addr) (i j : Int), xs = [.ref p] ∧ SqT K H p [.int i, .int j] ∧ Q (.int (max i j)) H
theorem alike2 (i j : Int) : PySem.W.AlikeAll [.int i, .int j] := by
  refine ⟨fun x hx y hy => ?_, fun x hx => ?_⟩
  · simp at hx hy
    rcases hx with rfl | rfl <;> rcases hy with rfl | rfl <;> rfl
  · simp at hx
    rcases hx with rfl | rfl <;> (intro z; cases z)
theorem dep2 (i j : Int) {n m : Nat} (h : n + 64 < m) : n + 1 + PyData.depthAll [.int i, .int j] < m := by
  have : PyData.depthAll [.int i, .int j] ≤ 1 := by simp [PyData.depthAll, PyData.depth]
  omega
theorem reads2 {s : Shared} {its : List Value} {i j : Int} (r : Vals [.int i, .int j] its) : ReadsAll s.heap its [.int i, .int j] [] := by
  cases r with
  | cons r1 r =>
    cases r with
    | cons r2 r =>
      cases r
      obtain ⟨t1, rfl⟩ := r1
      obtain ⟨t2, rfl⟩ := r2
      exact .cons (.int _ _) (.cons (.int _ _) .nil)
theorem call_minT (hc : X.calm = true) (hu : X.A.units + 64 < cLine) : CallR X (.builtin "min") (rMinT X.K) := by
  intro pins s σ H xs us Q I r ⟨p, i, j, ex, hT, q⟩
  subst ex
  obtain ⟨its, rv, ht, hz⟩ := I.tuple hT
  rw [Vals.ref1 r]
  refine PySem.W.min_tuple_data (x := .int i) (xs := [.int j]) (as := []) (I.ok.hd hc) ht (by simpa using reads2 (s := s) rv) (alike2 i j) (dep2 i j hu) fun n v h' tk bs hv hr hk => ?_
  have e := PySem.W.minD_ints i [j]
  simp only [List.map_cons, List.map_nil, List.foldl_cons, List.foldl_nil] at e
  rw [e] at hr
  cases hr
  exact ⟨.int _, H, I.kept hk, ⟨_, rfl⟩, q⟩
theorem call_maxT (hc : X.calm = true) (hu : X.A.units + 64 < cLine) : CallR X (.builtin "max") (rMaxT X.K) := by
  intro pins s σ H xs us Q I r ⟨p, i, j, ex, hT, q⟩
  subst ex
  obtain ⟨its, rv, ht, hz⟩ := I.tuple hT
  rw [Vals.ref1 r]
  refine PySem.W.max_tuple_data (x := .int i) (xs := [.int j]) (as := []) (I.ok.hd hc) ht (by simpa using reads2 (s := s) rv) (alike2 i j) (dep2 i j hu) fun n v h' tk bs hv hr hk => ?_
  have e := PySem.W.maxD_ints i [j]
  simp only [List.map_cons, List.map_nil, List.foldl_cons, List.foldl_nil] at e
  rw [e] at hr
  cases hr
  exact ⟨.int _, H, I.kept hk, ⟨_, rfl⟩, q⟩
theorem tup2_ok {K : PySem.W.Frag} {Fr H0 : Hp} {ρ : DSt} {σ : St} {Hd H : Hp} (s : Sat K T Fr H0 ρ σ Hd H) {v : V} {i j : Int} (h : VlOk K Hd ρ σ v (.d (.tuple [.int i, .int j]))) : ∃ p, v = .ref p ∧ SqT K H p [.int i, .int j] := by
  have h : Dt K Hd v (.tuple [.int i, .int j]) := h
  cases h with
  | tup h1 h2 =>
    cases h2 with
    | cons g1 g2 =>
      cases g2 with
      | cons g3 g4 =>
        cases g4; cases g1; cases g3
        exact ⟨_, rfl, SqT.of (s.keep _ _ h1)⟩
theorem cd_minT : CallD X.K T (rMinT X.K) gMinT := fun Fr H0 ρ σ Hd H vs xs q Q s hv w k => by
  unfold gMinT at w
  split at w
  · rename_i i j
    obtain ⟨v, rfl, h⟩ := vls1 hv
    obtain ⟨p, rfl, hT⟩ := tup2_ok s h
    exact ⟨p, i, j, rfl, hT, k _ (.d (.int _)) Hd H s (Sub.refl _) (Dt.int _) w⟩
  · exact w.elim
theorem cd_maxT : CallD X.K T (rMaxT X.K) gMaxT := fun Fr H0 ρ σ Hd H vs xs q Q s hv w k => by
  unfold gMaxT at w
  split at w
  · rename_i i j
    obtain ⟨v, rfl, h⟩ := vls1 hv
    obtain ⟨p, rfl, hT⟩ := tup2_ok s h
    exact ⟨p, i, j, rfl, hT, k _ (.d (.int _)) Hd H s (Sub.refl _) (Dt.int _) w⟩
  · exact w.elim
theorem b_minT {k : Nat} (hr : Room k X.A) (hc : X.calm = true := by rfl) : BltD X T "min" gMinT := ⟨_, call_minT hc hr.units, cd_minT⟩
theorem b_maxT {k : Nat} (hr : Room k X.A) (hc : X.calm = true := by rfl) : BltD X T "max" gMaxT := ⟨_, call_maxT hc hr.units, cd_maxT⟩
def gMaxN (x : Option D) (Q : Vl → Prop) : Prop := match x with
  | some (.list ds) => match ints? ds with
    | some ns => 0 < ns.length ∧ ∀ m, m ∈ ns → (∀ y, y ∈ ns → y ≤ m) → Q (.d (.int m))
    | none => False
  | _ => False
def gMaxL : GN := fun xs Q => match xs with
  | [x] => gMaxN x.dat Q
  | _ => False
theorem cd_maxL : CallD X.K T (rMax X.K) gMaxL := fun Fr H0 ρ σ Hd H vs xs q Q s hv w k => by
  unfold gMaxL at w
  split at w
  · rename_i x
    obtain ⟨v, rfl, h⟩ := vls1 hv
    unfold gMaxN at w
    split at w
    · rename_i ds ex
      split at w
      · rename_i ns hn
        obtain ⟨p1, xs, rfl, h1, a1⟩ := h.list s ex
        have e := ints_ok a1 hn
        subst e
        exact ⟨p1, ns, rfl, SqL.of h1, w.1, fun m h1 h2 => k _ (.d (.int m)) Hd H s (Sub.refl _) (Dt.int _) (w.2 m h1 h2)⟩
      · exact w.elim
    · exact w.elim
  · exact w.elim
theorem b_maxL (hc : X.calm = true := by rfl) : BltD X T "max" gMaxL := ⟨_, cr_max hc, cd_maxL⟩
/-! ### lists compared -/
def rGtD (K : PySem.W.Frag) : R2 := fun x y H Q => ∃ d e, Dp K H x d ∧ Dp K H y e ∧ PySem.W.alike d e = true ∧ d ≠ .none ∧ min d.depth e.depth ≤ 60 ∧ Q (.bl (PySem.W.dataLt e d)) H
theorem op_gtD (hu : X.A.units + 64 < cLine) : OpR X (compareOp .Gt) (rGtD X.K) := by
  intro pins s σ H x y v u Q I rx ry h
  obtain ⟨d, e, hd, he, hal, hn, hm, q⟩ := h
  obtain ⟨as, r1⟩ := Dp.reads I d x v hd rx
  obtain ⟨bs, r2⟩ := Dp.reads I e y u he ry
  exact PySem.W.gt_data r1 r2 hal hn (by omega) ⟨.bl _, H, I, rfl, q⟩
def gGtD : G2 := fun x y Q => okD 40 x.all = true ∧ okD 40 y.all = true ∧ PySem.W.alike x.all y.all = true ∧ x.all ≠ .none ∧ Q (.d (.bool (PySem.W.dataLt y.all x.all)))
theorem od_gtD : OpD X.K T (rGtD X.K) gGtD := fun Fr H0 ρ σ Hd H vx vy x y q Q s hx hy ⟨w1, w2, w3, w4, w⟩ k => by
  refine ⟨x.all, y.all, hx.dp s (okD_plain _ _ w1), hy.dp s (okD_plain _ _ w2), w3, w4, ?_, k _ (.d (.bool _)) Hd H s (Sub.refl _) (Dt.bl _) w⟩
  have := okD_depth _ _ w1
  omega
theorem c_gtD {k : Nat} (hr : Room k X.A) : CmpD X T .Gt gGtD := ⟨_, op_gtD hr.units, od_gtD⟩
end
end DL

/-! Data: a def that calls itself. -/
namespace DL
open PySem L2 LamX
open PyProof.Rows (envOfC)
section
variable {P : Program} {w : World} {K : PySem.W.Frag} {mg : Str → Option Value} {base : Heap} {T : Wd}
theorem fn_recd {x : Str} {st : Stmt} {f : Addr} {fd : FuncData} {N ps : List Str} {k0 : Nat} {F : Nat → Ct} (M : Nat) (Fn : Fun K x x st f fd) (S : FnScope N ps (defScope st)) (hm : mg x = some (.ref f)) (hb : Binds K fd ps [])
    (h0 : ∀ xs q xc, ¬ F 0 xs q xc) (hn : ∀ n xs q xc, F n xs q xc → xs.length = ps.length)
    (hbd : ∀ (n : Nat), Df P w K mg base T x (k0 + n) ps.length (F n) → ∀ (cdv : Value) (A : Around) (outer : List Env) (s : Shared) (H : Hp) (E : XK), Room (k0 + n) (A.deeper (envOfC x (defScope st) s.heap.objs.size f cdv)) →
      ∃ t, BD (cxOf (L2N.CX P w) P w K mg base N x (defScope st) f cdv A outer s H E) T E (defBody st) t ∧ ∀ xs q xc, F (n + 1) xs q xc → t { nx := fun _ => q .none, rt := q, xc := xc } (dstart N xs)) :
    FnOk P w K mg base (L2N.CX P w) (k0 + M) f fd ps (spD K T ps.length fun xs q xc => ∃ n, n ≤ M ∧ F n xs q xc) := by
  have key : ∀ n, FnOk P w K mg base (L2N.CX P w) (k0 + n) f fd ps (spD K T ps.length (F n)) := by
    intro n
    induction n with
    | zero => exact ⟨fun _ _ _ _ ⟨_, _, _, _, _, _, _, _, _, z, _⟩ => (h0 _ _ _ z).elim, fun _ _ _ _ _ _ _ _ _ _ _ _ _ ⟨_, _, _, _, _, _, _, _, _, z, _⟩ => (h0 _ _ _ z).elim⟩
    | succ n ih => exact fn_d (k := k0 + n) Fn S fun cdv A outer s H E hr => hbd n ⟨⟨f, fd, ps, ih, hm, Fn.kp, hb⟩, hn n⟩ cdv A outer s H E hr
  refine ⟨fun vs H Q E ⟨Hd, xs, q, xc, a1, a2, a3, a4, a5, ⟨n, hnM, hF⟩, a7, a8⟩ => (key n).len vs H Q E ⟨Hd, xs, q, xc, a1, a2, a3, a4, a5, hF, a7, a8⟩, fun A outer s H args us vs Q E hr e0 hbi hv ⟨Hd, xs, q, xc, a1, a2, a3, a4, a5, ⟨n, hnM, hF⟩, a7, a8⟩ => ?_⟩
  exact (key n).run A outer s H args us vs Q E (hr.mono (by omega)) e0 hbi hv ⟨Hd, xs, q, xc, a1, a2, a3, a4, a5, hF, a7, a8⟩
end
end DL

/-! Data: more rules for the simplifier: zip, slices, in, dicts; views of dicts and lists by whole numbers. -/
namespace DL
open PySem L2 LamX
variable {xc : DX} {ρ : DSt} {Q : Vl → Prop} {e : DEnds}
@[simp] theorem s_dZip (Al : DA) (k : List D → Prop) : dZip Al xc ρ k = Al xc ρ fun vs => gZip vs k := rfl
@[simp] theorem s_gZip (xs ys : List D) (k : List D → Prop) : gZip [.d (.list xs), .d (.list ys)] k = k (zipD xs ys) := rfl
@[simp] theorem s_dEnum (Al : DA) (k : List D → Prop) : dEnum Al xc ρ k = Al xc ρ fun vs => gEnum vs k := rfl
@[simp] theorem s_gEnum (xs : List D) (k : List D → Prop) : gEnum [.d (.list xs)] k = k (enumD xs 0) := rfl
@[simp] theorem s_dSlc (Ta : DE) (tl th : DO) : dSlc Ta tl th xc ρ Q = Ta xc ρ fun x => tl xc ρ fun l => th xc ρ fun u => gSlc x.dat l u Q := rfl
@[simp] theorem s_dNoP (k : Option Int → Prop) : dNoP xc ρ k = k none := rfl
@[simp] theorem s_dP (Ta : DE) (k : Option Int → Prop) : dP Ta xc ρ k = Ta xc ρ fun v => gP v k := rfl
@[simp] theorem s_gP (i : Int) (k : Option Int → Prop) : gP (.d (.int i)) k = k (some i) := rfl
@[simp] theorem s_slcL (ds : List D) (lo hi : Option Int) : gSlc (some (.list ds)) lo hi Q = Q (.d (.list (cutD ds lo hi))) := rfl
@[simp] theorem s_slcT (ds : List D) (lo hi : Option Int) : gSlc (some (.tuple ds)) lo hi Q = (¬ (HT.sIx ds.length 0 lo = 0 ∧ HT.sIx ds.length ds.length hi = ds.length) ∧ Q (.d (.tuple (cutD ds lo hi)))) := rfl
@[simp] theorem s_dRev (Ta : DE) : dRev Ta xc ρ Q = Ta xc ρ fun x => gRev x.dat Q := rfl
@[simp] theorem s_gRev (ds : List D) : gRev (some (.list ds)) Q = Q (.d (.list ds.reverse)) := rfl
theorem gIn_of {x : Vl} {ds : List D} (h1 : SeqAt.shaped x.all = true) (h2 : SeqAt.shaped (.list ds) = true) : gIn x (.d (.list ds)) Q = Q (.d (.bool (ds.any fun z => PyData.eqv z x.all))) := by
  show (SeqAt.shaped x.all = true ∧ SeqAt.shaped (.list ds) = true ∧ _) = _
  simp [h1, h2]
theorem gNotIn_of {x : Vl} {ds : List D} (h1 : SeqAt.shaped x.all = true) (h2 : SeqAt.shaped (.list ds) = true) : gNotIn x (.d (.list ds)) Q = Q (.d (.bool (!ds.any fun z => PyData.eqv z x.all))) := by
  show (SeqAt.shaped x.all = true ∧ SeqAt.shaped (.list ds) = true ∧ _) = _
  simp [h1, h2]
@[simp] theorem s_dExt (i : Nat) (Te : DE) : dExt i Te e ρ = ownL ρ[i]? fun ds => Te e.xc ρ fun v => vD v fun y => gExt i ds (some y) ρ e.nx := rfl
@[simp] theorem s_vD (x : D) (k : D → Prop) : vD (.d x) k = k x := rfl
@[simp] theorem s_gExt (i : Nat) (ds es : List D) (k : DSt → Prop) : gExt i ds (some (.list es)) ρ k = (ds.length + es.length ≤ sizeLine ∧ k (ρ.set i (some (.o (.list (ds ++ es)))))) := rfl
@[simp] theorem s_dGet2 (Ta Tb Tc : DE) : dGet2 Ta Tb Tc xc ρ Q = Ta xc ρ fun x => gDct x.dat fun es => Tb xc ρ fun y => Tc xc ρ fun z => gGet2 es y z Q := rfl
@[simp] theorem s_gDct (es : List (D × D)) (k : List (D × D) → Prop) : gDct (some (.dict es)) k = k es := rfl
@[simp] theorem s_gGet2 (es : List (D × D)) (i : Int) (w : D) : gGet2 es (.d (.int i)) (.d w) Q = Q (.d ((getI es i).getD w)) := rfl
@[simp] theorem s_dOwnK (i : Nat) : dOwnK i e ρ = e.nx (ρ.set i (some (.o (.dict [])))) := rfl
@[simp] theorem s_dPutK (i : Nat) (Tk Tv : DE) : dPutK i Tk Tv e ρ = ownK ρ[i]? fun es => Tv e.xc ρ fun v => vD v fun d => Tk e.xc ρ fun y => gPutK i es y d ρ e.nx := rfl
@[simp] theorem s_ownK (es : List (D × D)) (k : List (D × D) → Prop) : ownK (some (some (.o (.dict es)))) k = k es := rfl
@[simp] theorem s_gPutK (i : Nat) (es : List (D × D)) (j : Int) (d : D) (k : DSt → Prop) : gPutK i es (.d (.int j)) d ρ k = (es.length < sizeLine ∧ k (ρ.set i (some (.o (.dict (putI es j d)))))) := rfl
@[simp] theorem s_sortedKO (es : List (D × D)) : gSortedK [.o (.dict es)] Q = gSortK es Q := rfl
@[simp] theorem s_sortedKD (es : List (D × D)) : gSortedK [.d (.dict es)] Q = gSortK es Q := rfl
theorem gSortK_of {es : List (D × D)} {ks : List Int} (h : keysI es = some ks) : gSortK es Q = (ks.length < 64 ∧ Q (.d (.list ((isort ks).map .int)))) := by unfold gSortK; rw [h]
theorem gGetK_o {es : List (D × D)} {i : Int} {v : D} (h : getI es i = some v) : gGetK (.o (.dict es)) (.d (.int i)) Q = Q (.d v) := by
  show (match getI es i with | some v => Q (.d v) | none => False) = _
  rw [h]
theorem gGetK_d {es : List (D × D)} {i : Int} {v : D} (h : getI es i = some v) : gGetK (.d (.dict es)) (.d (.int i)) Q = Q (.d v) := by
  show (match getI es i with | some v => Q (.d v) | none => False) = _
  rw [h]
@[simp] theorem s_dDict (Al : DA) : dDict Al xc ρ Q = Al xc ρ fun xs => gDictA xs fun es => Q (.d (.dict es)) := rfl
@[simp] theorem s_gDictA (x : Vl) (k : List (D × D) → Prop) : gDictA [x] k = gDictE x.dat k := rfl
theorem gDictE_l {ds : List D} {ps : List (Int × D)} {k : List (D × D) → Prop} (h : pairsI ds = some ps) : gDictE (some (.list ds)) k = k (mergeI [] ps) := by
  show (match pairsI ds with | some ps => k (mergeI [] ps) | none => False) = _
  rw [h]
@[simp] theorem s_dOwnD (i : Nat) (Al : DA) : dOwnD i Al e ρ = Al e.xc ρ fun xs => gDictA xs fun es => e.nx (ρ.set i (some (.o (.dict es)))) := rfl
@[simp] theorem s_gEqE (es : List (D × D)) : gEqE (.d (.dict es)) (.d (.dict [])) Q = Q (.d (.bool es.isEmpty)) := rfl
@[simp] theorem s_gNeE (es : List (D × D)) : gNeE (.d (.dict es)) (.d (.dict [])) Q = Q (.d (.bool (!es.isEmpty))) := rfl
@[simp] theorem s_dKeys (Te : DE) (k : List D → Prop) : dKeys Te xc ρ k = Te xc ρ fun v => gKeys v k := rfl
@[simp] theorem s_gKeys (es : List (D × D)) (k : List D → Prop) : gKeys (.d (.dict es)) k = k (es.map (·.1)) := rfl
@[simp] theorem s_gMinT (i j : Int) : gMinT [.d (.tuple [.int i, .int j])] Q = Q (.d (.int (min i j))) := rfl
@[simp] theorem s_gMaxT (i j : Int) : gMaxT [.d (.tuple [.int i, .int j])] Q = Q (.d (.int (max i j))) := rfl
theorem gMaxL_of {ns : List Int} (h0 : 0 < ns.length) (h : ∀ m, m ∈ ns → (∀ y, y ∈ ns → y ≤ m) → Q (.d (.int m))) : gMaxL [.d (.list (ns.map .int))] Q := by
  show (match ints? (ns.map PyData.int) with | some ns => 0 < ns.length ∧ ∀ m, m ∈ ns → (∀ y, y ∈ ns → y ≤ m) → Q (.d (.int m)) | none => False)
  rw [ints?_map]
  exact ⟨h0, h⟩
/-! ### lists of whole numbers as data -/
def tD (ts : List Int) : D := .list (ts.map .int)
def ttD (rs : List (List Int)) : D := .list (rs.map tD)
theorem eqvA_ints : ∀ (a b : List Int), PyData.eqvAll (a.map .int) (b.map .int) = decide (a = b)
  | [], [] => by simp
  | [], _ :: _ => by simp
  | _ :: _, [] => by simp
  | x :: a, y :: b => by
    rw [List.map_cons, List.map_cons, eqvA_cons, eqv_int, eqvA_ints a b]
    by_cases h1 : x = y <;> by_cases h2 : a = b <;> simp [h1, h2]
@[simp] theorem eqv_tD (a b : List Int) : PyData.eqv (tD a) (tD b) = decide (a = b) := by
  unfold tD
  rw [eqv_lst, eqvA_ints]
theorem eqvA_tD : ∀ (a b : List (List Int)), PyData.eqvAll (a.map tD) (b.map tD) = decide (a = b)
  | [], [] => by simp
  | [], _ :: _ => by simp
  | _ :: _, [] => by simp
  | x :: a, y :: b => by
    rw [List.map_cons, List.map_cons, eqvA_cons, eqv_tD, eqvA_tD a b]
    by_cases h1 : x = y <;> by_cases h2 : a = b <;> simp [h1, h2]
@[simp] theorem eqv_ttD (a b : List (List Int)) : PyData.eqv (ttD a) (ttD b) = decide (a = b) := by
  unfold ttD
  rw [eqv_lst, eqvA_tD]
theorem okD_tD (n : Nat) (a : List Int) : okD (n + 2) (tD a) = true := by
  show (a.map PyData.int).all (okD (n + 1)) = true
  simp [List.all_map]
  intro _ _; rfl
theorem okD_ttD (n : Nat) (a : List (List Int)) : okD (n + 3) (ttD a) = true := by
  show (a.map tD).all (okD (n + 2)) = true
  simp [List.all_map]
  intro x _
  exact okD_tD n x
@[simp] theorem s_gEqT (a b : List Int) : gEq (.d (tD a)) (.d (tD b)) Q = Q (.d (.bool (decide (a = b)))) := by rw [gEq_of (x := .d (tD a)) (y := .d (tD b)) (okD_tD 38 a) (okD_tD 38 b)]; simp [Vl.all]
@[simp] theorem s_gEqTT (a b : List (List Int)) : gEq (.d (ttD a)) (.d (ttD b)) Q = Q (.d (.bool (decide (a = b)))) := by rw [gEq_of (x := .d (ttD a)) (y := .d (ttD b)) (okD_ttD 37 a) (okD_ttD 37 b)]; simp [Vl.all]
@[simp] theorem s_gNeTT (a b : List (List Int)) : gNe (.d (ttD a)) (.d (ttD b)) Q = Q (.d (.bool (!decide (a = b)))) := by rw [gNe_of (x := .d (ttD a)) (y := .d (ttD b)) (okD_ttD 37 a) (okD_ttD 37 b)]; simp [Vl.all]
theorem lay_ints : ∀ a : List Int, PyData.canLayAll0 (a.map .int) = true
  | [] => rfl
  | x :: a => by rw [List.map_cons, PyData.canLayAll0, lay_ints a]; rfl
theorem lay_tts : ∀ a : List (List Int), PyData.canLayAll0 (a.map tD) = true
  | [] => rfl
  | x :: a => by
    rw [List.map_cons, PyData.canLayAll0, lay_tts a, tD, PyData.canLay0, lay_ints]
    rfl
theorem shaped_tD (a : List Int) : SeqAt.shaped (tD a) = true := by
  have h := okD_depth 2 (tD a) (okD_tD 0 a)
  unfold SeqAt.shaped
  rw [show (tD a).canLay0 = true by unfold tD; rw [PyData.canLay0]; exact lay_ints a]
  simp
  omega
theorem shaped_ttD (a : List (List Int)) : SeqAt.shaped (ttD a) = true := by
  have h := okD_depth 3 (ttD a) (okD_ttD 0 a)
  unfold SeqAt.shaped
  rw [show (ttD a).canLay0 = true by unfold ttD; rw [PyData.canLay0]; exact lay_tts a]
  simp
  omega
theorem gNotIn_tt (t : List Int) (a : List (List Int)) : gNotIn (.d (tD t)) (.d (ttD a)) Q = Q (.d (.bool (!decide (t ∈ a)))) := by
  unfold ttD
  rw [gNotIn_of (x := .d (tD t)) (shaped_tD t) (shaped_ttD a)]
  congr 4
  show (List.map tD a).any (fun z => PyData.eqv z (tD t)) = _
  rw [List.any_map]
  induction a with
  | nil => simp
  | cons x a ih =>
    rw [List.any_cons, ih]
    by_cases h1 : x = t
    · simp [h1]
    · have : ¬ t = x := fun z => h1 z.symm
      simp [h1, this]
/-! ### dicts of whole numbers -/
def mD (m : List (Int × Int)) : List (D × D) := m.map fun p => (.int p.1, .int p.2)
def getM (m : List (Int × Int)) (i : Int) : Option Int := (m.find? fun p => decide (p.1 = i)).map (·.2)
def putM (m : List (Int × Int)) (i v : Int) : List (Int × Int) := if (m.any fun p => decide (p.1 = i)) = true then m.map (fun p => if p.1 = i then (p.1, v) else p) else m ++ [(i, v)]
theorem getI_mD (i : Int) : ∀ m : List (Int × Int), getI (mD m) i = (getM m i).map .int
  | [] => rfl
  | (k, v) :: m => by
    have ih := getI_mD i m
    by_cases h : k = i
    · simp [getI, getM, mD, List.find?_cons, isKey, h]
    · simp only [getI, getM, mD, List.map_cons, List.find?_cons, isKey, decide_eq_false h] at ih ⊢
      exact ih
theorem putI_mD (m : List (Int × Int)) (i v : Int) : putI (mD m) i (.int v) = mD (putM m i v) := by
  have e : ((mD m).any fun p => isKey i p.1) = m.any fun p => decide (p.1 = i) := by
    unfold mD
    rw [List.any_map]
    rfl
  unfold putI putM
  rw [e]
  split
  · unfold mD
    rw [List.map_map, List.map_map]
    apply List.map_congr_left
    intro p _
    by_cases h : p.1 = i <;> simp [isKey, h]
  · unfold mD
    rw [List.map_append]
    rfl
theorem keysI_mD : ∀ m : List (Int × Int), keysI (mD m) = some (m.map (·.1))
  | [] => rfl
  | (k, v) :: m => by
    show (keysI (mD m)).map (k :: ·) = _
    rw [keysI_mD m]
    rfl
theorem getM_put (m : List (Int × Int)) (i j v : Int) : getM (putM m i v) j = if j = i then some v else getM m j := by
  have hk := L2.valV_put (κ := Int) (m.map fun p => (p.1, V.int p.2)) i j (.int v)
  have e1 : ∀ m : List (Int × Int), L2.valV (m.map fun p => (p.1, V.int p.2)) j = (getM m j).map V.int := fun m => by
    induction m with
    | nil => rfl
    | cons p m ih =>
      by_cases h : p.1 = j
      · rw [List.map_cons, L2.valV_pos h]; simp [getM, List.find?_cons, h]
      · rw [List.map_cons, L2.valV_neg h, ih]; simp [getM, List.find?_cons, h]
  have e2 : L2.putK (m.map fun p => (p.1, V.int p.2)) i (V.int v) = (putM m i v).map fun p => (p.1, V.int p.2) := by
    unfold L2.putK putM
    rw [List.any_map]
    have : (m.any ((fun kv : Int × V => decide (kv.1 = i)) ∘ fun p => (p.1, V.int p.2))) = m.any fun p => decide (p.1 = i) := rfl
    rw [this]
    split
    · rw [List.map_map, List.map_map]
      apply List.map_congr_left
      intro p _
      by_cases h : p.1 = i <;> simp [h]
    · rw [List.map_append]; rfl
  rw [e2, e1, e1] at hk
  by_cases h : j = i
  · simp only [h, if_true] at hk ⊢
    cases q : getM (putM m i v) i with
    | none => rw [q] at hk; cases hk
    | some z => rw [q] at hk; injection hk with hk; injection hk with hk; rw [hk]
  · simp only [h, if_false] at hk ⊢
    cases q : getM (putM m i v) j <;> cases q2 : getM m j <;> rw [q, q2] at hk
    · cases hk
    · cases hk
    · injection hk with hk; injection hk with hk; rw [hk]
end DL

/-! Data: insert, index, three names at once, two lists of one's own at once, an empty list of one's own walked. -/
namespace DL
open PySem L2 LamX
section
variable {X : Cx} {T : Wd} {E : XK} {a b c e tg iter elt : Expr} {ifs es rest : List Expr} {pos p p2 : Pos} {Ta Tb Tc Te te : DE} {ta tb tc : DT} {Al Bl : DA} {st : Stmt} {sts sts2 : List Stmt} {t u : DS} {ti : DI} {tt : Tgt} {scope : Scope}
/-! ### xs.insert(n, y) -/
def gIns (i : Nat) (ds : List D) (xs : List Vl) (ρ : DSt) (Q : DSt → Prop) : Prop := match xs with
  | [.d (.int n), .d y] => ds.length < sizeLine ∧ 0 ≤ n ∧ n < 2 ^ 63 ∧ Q (ρ.set i (some (.o (.list (ds.take n.toNat ++ [y] ++ ds.drop n.toNat)))))
  | _ => False
def dIns (i : Nat) (Al : DA) : DS := fun e ρ => ownL ρ[i]? fun ds => Al e.xc ρ fun xs => gIns i ds xs ρ e.nx
abbrev rInsert : V → List V → Hp → VK → Prop := fun x vs H Q => ∃ (l : Addr) (xs : List V) (i : Int) (y : V), x = .ref l ∧ vs = [.int i, y] ∧ H l = some (.lst xs) ∧ xs.length < sizeLine ∧ 0 ≤ i ∧ i < 2 ^ 63 ∧
    Q .non (upd H l (.lst (xs.take i.toNat ++ [y] ++ xs.drop i.toNat)))
theorem sd_insert {x : Str} {px apos cpos : Pos} (i : Nat) (h : PE X (.Call (.Attribute (.Name x px) "insert" apos) es [] cpos) (tBM X.K "list" rInsert (tVar i) (LA X.K T E Al))) (hs : swapsWith (.Call (.Attribute (.Name x px) "insert" apos) es [] cpos) none pos.line X.env = pure false := by rfl) :
    SD X T E (.Expr (.Call (.Attribute (.Name x px) "insert" apos) es [] cpos) pos) (dIns i Al) := by
  refine ps_imp (ps_expr h hs) fun De σ H ⟨e, Fr, H0, ρ, Hd, s, ok, w⟩ => ?_
  show tBM X.K "list" rInsert (tVar i) (LA X.K T E Al) σ H fun _ H1 => De.nx σ H1
  unfold dIns ownL at w
  split at w
  · rename_i ds hq
    obtain ⟨u, h1, p, rfl, _, _, xs, h2, _⟩ := s.slot i _ hq
    refine ⟨_, h1, .inl ⟨rfl, xs, SqL.of h2⟩, e.xc, Fr, H0, ρ, Hd, _, s, w, ok.xok, fun vs zs Hd1 H1 s1 b1 ok1 w1 => ?_⟩
    unfold gIns at w1
    split at w1
    · rename_i n y
      obtain ⟨v1, v2, rfl, g1, g2⟩ := vls2 ok1
      have g1 := g1.int s1 rfl
      subst g1
      obtain ⟨u, h1', p', e1, _, _, xs', h2', h3'⟩ := s1.slot i _ hq
      rw [h1] at h1'; cases h1'; cases e1
      refine ⟨p, xs', n, v2, rfl, rfl, h2', by rw [h3'.length]; exact w1.1, w1.2.1, w1.2.2.1, ?_⟩
      exact ok.nx _ _ Hd1 _ (s1.mutOwn (d' := .list (ds.take n.toNat ++ [y] ++ ds.drop n.toNat)) hq h1 ⟨xs'.take n.toNat ++ [v2] ++ xs'.drop n.toNat, upd_same, ((h3'.take _).append (.cons g2 .nil)).append (h3'.drop _)⟩) (by rw [List.length_set]) w1.2.2.2
    · exact w1.elim
  · exact w.elim
/-! ### an empty list of one's own, walked in a comprehension -/
def dLcE (i : Nat) (vs : List Nat) : DE := fun xc ρ Q => ownL ρ[i]? fun ds => ds = [] ∧ ownFree ρ vs = true ∧ Q (.d (.list []))
theorem de_lcE {x : Str} {px : Pos} (i : Nat) (own : List (Str × Nat)) (hN : X.N.Nodup) (hv : PE X (.Name x px) (tVar i)) (ok : BlkOk X.N X.env.scope scope own)
    (hg : ∀ (s : Shared) (H : Hp) (C : Addr) (cl : List (Str × Addr)) (fp : List Addr), PG (X.blk s H scope (compEnvC scope cl C X.env) fp) tg (gOf X.K tt)) (ht : ∀ (s : Shared) (H : Hp) (C : Addr) (cl : List (Str × Addr)) (fp : List Addr), TsD (X.blk s H scope (compEnvC scope cl C X.env) fp) T E0 ifs tc)
    (he : ∀ (s : Shared) (H : Hp) (C : Addr) (cl : List (Str × Addr)) (fp : List Addr), ED (X.blk s H scope (compEnvC scope cl C X.env) fp) T E0 elt te) (hc : X.calm = true := by rfl) (hs : ∀ x', foldedSetIterable (.Name x px) X.env x' = pure x' := by intro _; rfl) :
    ED X T E (.ListComp elt [⟨tg, .Name x px, ifs, 0⟩] scope pos) (dLcE i (own.map (·.2))) := by
  refine pe_imp (pe_lc (tt := LT X.K T E0 tc) (te := LE X.K T E0 te) hc hN (pi_list hv) ok hg ht he hs) fun σ H Q ⟨xc, Fr, H0, ρ, Hd, q, s, w, hx, k⟩ => ?_
  unfold dLcE ownL at w
  split at w
  · rename_i ds hq
    obtain ⟨rfl, hf, w⟩ := w
    obtain ⟨u, h1, p, rfl, _, _, xs, h2, h3⟩ := s.slot i _ hq
    cases h3
    refine ⟨_, h1, p, rfl, ⟨[], SqL.of h2⟩, fun Dl hD => ?_⟩
    refine ⟨fun i m H' => i = 0 ∧ H' = upd H Dl (.lst []), ⟨0, rfl, rfl⟩, ?_⟩
    rintro i m H' ⟨rfl, rfl⟩
    refine .inl ⟨⟨[], SqL.of (by rw [upd_ne (ne_of_none h2 hD)]; exact h2), Nat.le_refl _⟩, ?_⟩
    exact k (.ref Dl) (.d (.list [])) _ _ (s.lay (o := .lst []) hD) (Sub.new (s.keep.free hD)) (Dt.lst upd_same .nil) w
  · exact w.elim
/-! ### three names at once -/
def gPar3 (i j l : Nat) (vs : List Vl) (ρ : DSt) (Q : DSt → Prop) : Prop := match vs with
  | [.d x, .d y, .d z] => Q (((ρ.set i (some (.d x))).set j (some (.d y))).set l (some (.d z)))
  | _ => False
def dPar3 (i j l : Nat) (Al : DA) : DS := fun e ρ => Al e.xc ρ fun vs => gPar3 i j l vs ρ e.nx
theorem sd_par3 {x y z : Str} {px py pz pt pt2 : Pos} {kt k2} (i j l : Nat) (ha : AD X T E [a, b, c] Al) (hN : X.N.Nodup) (hw : swappedStores [.Tuple [.Name x px, .Name y py, .Name z pz] kt pt] (.Tuple [a, b, c] k2 pt2) X.env = pure (some [x, y, z]) := by rfl) (hc : X.calm = true := by rfl) (hi : X.N[i]? = some x := by rfl) (hj : X.N[j]? = some y := by rfl) (hl : X.N[l]? = some z := by rfl) (hij : i ≠ j := by decide) (hil : i ≠ l := by decide) (hjl : j ≠ l := by decide)
    (hx : X.env.scope.names.lookup x = some .local := by rfl) (hy : X.env.scope.names.lookup y = some .local := by rfl) (hz : X.env.scope.names.lookup z = some .local := by rfl)
    (hs : swapsWithSole [.Tuple [.Name x px, .Name y py, .Name z pz] kt pt] (.Tuple [a, b, c] k2 pt2) pos.line X.env = pure false := by rfl) :
    SD X T E (.Assign [.Tuple [.Name x px, .Name y py, .Name z pz] kt pt] (.Tuple [a, b, c] k2 pt2) pos) (dPar3 i j l Al) := by
  refine ps_imp (ps_par3 hc hN hi hj hl hij hil hjl hx hy hz ha hw hs) fun De σ H ⟨e, Fr, H0, ρ, Hd, s, ok, w⟩ => ⟨e.xc, Fr, H0, ρ, Hd, _, s, w, ok.xok, fun vs xs Hd1 H1 s1 b1 ok1 w1 => ?_⟩
  unfold gPar3 at w1
  split at w1
  · rename_i u v z
    cases ok1 with
    | cons h1 ok2 =>
      obtain ⟨v2, v3, rfl, h2, h3⟩ := vls2 ok2
      exact ⟨_, v2, v3, rfl, ok.nx _ _ Hd1 H1 (((s1.set h1).set h2).set h3) (by rw [List.length_set, List.length_set, List.length_set]) w1⟩
  · exact w1.elim
@[simp] theorem s_dPar3 (i j l : Nat) (Al : DA) (e : DEnds) (ρ : DSt) : dPar3 i j l Al e ρ = Al e.xc ρ fun vs => gPar3 i j l vs ρ e.nx := rfl
@[simp] theorem s_gPar3 (i j l : Nat) (x y z : D) (ρ : DSt) (Q : DSt → Prop) : gPar3 i j l [.d x, .d y, .d z] ρ Q = Q (((ρ.set i (some (.d x))).set j (some (.d y))).set l (some (.d z))) := rfl
@[simp] theorem s_dIns (i : Nat) (Al : DA) (e : DEnds) (ρ : DSt) : dIns i Al e ρ = ownL ρ[i]? fun ds => Al e.xc ρ fun xs => gIns i ds xs ρ e.nx := rfl
@[simp] theorem s_gIns (i : Nat) (ds : List D) (n : Int) (y : D) (ρ : DSt) (Q : DSt → Prop) : gIns i ds [.d (.int n), .d y] ρ Q = (ds.length < sizeLine ∧ 0 ≤ n ∧ n < 2 ^ 63 ∧ Q (ρ.set i (some (.o (.list (ds.take n.toNat ++ [y] ++ ds.drop n.toNat)))))) := rfl
@[simp] theorem s_dLcE (i : Nat) (vs : List Nat) (xc : DX) (ρ : DSt) (Q : Vl → Prop) : dLcE i vs xc ρ Q = ownL ρ[i]? fun ds => ds = [] ∧ ownFree ρ vs = true ∧ Q (.d (.list [])) := rfl
/-! ### xs.index(y) -/
def gIdx (ds : List D) (y : Vl) (Q : Vl → Prop) : Prop := SeqAt.shaped (.list ds) = true ∧ SeqAt.shaped y.all = true ∧ ∃ (j : Nat) (z : D), ds[j]? = some z ∧ PyData.eqv z y.all = true ∧ (∀ (m : Nat) (z' : D), m < j → ds[m]? = some z' → PyData.eqv z' y.all = false) ∧ Q (.d (.int (j : Nat)))
def dIdx (Ta Tb : DE) : DE := fun xc ρ Q => Ta xc ρ fun x => gSeq x fun ds => Tb xc ρ fun y => gIdx ds y Q
theorem de_idxM {k : Nat} {apos cpos : Pos} (hr : Room k X.A) (ha : ED X T E a Ta) (hb : ED X T E b Tb) (hbase : attributeBase a "index" X.env (eval a X.env) = eval a X.env := by rfl)
    (hfew : ((backTo cpos (starEach [b] X.env)).all (fun x => !x.1) && (backToKw cpos (keywordEach [] X.env)).all (fun x => x.1.isSome)
      && decide (([b] : List Expr).length + ([] : List Keyword).length + (if ([] : List Keyword).isEmpty then 0 else 1) < 30)) = true := by rfl) (hs : starEach [b] X.env = (false, eval b X.env) :: starEach [] X.env := by rfl) (hline : (apos.endLine == cpos.line) = true := by rfl) : ED X T E (.Call (.Attribute a "index" apos) [b] [] cpos) (dIdx Ta Tb) := by
  refine pe_imp (pe_bm PySem.F.plainAttrs_list PySem.F.slot_list_index PySem.F.type_list_index (mt_indexD (room_in hr)) ha (pa_cons hb pa_nil hs) (hbase := hbase) (hfew := hfew) (hline := hline) (hs := hs)) fun σ H Q ⟨xc, Fr, H0, ρ, Hd, q, s, w, hx, k⟩ => ?_
  refine ⟨xc, Fr, H0, ρ, Hd, _, s, w, hx, fun v x Hd1 H1 s1 b1 ok1 w1 => ?_⟩
  unfold gSeq at w1
  split at w1
  · rename_i ds
    have ok1 : Dt X.K Hd1 v (.list ds) := ok1
    have ok0 := ok1
    cases ok1 with
    | lst h1 h2 =>
      rename_i a zs
      refine ⟨.inl ⟨rfl, zs, SqL.of (s1.keep _ _ h1)⟩, xc, Fr, H0, ρ, Hd1, _, s1, w1, hx, fun v2 y Hd2 H2 s2 b2 ok2 w2 => ?_⟩
      obtain ⟨sh1, sh2, j, z, e1, e2, e3, w2⟩ := w2
      exact ⟨a, v2, y.all, ds, j, z, rfl, rfl, ((ok0.mono b2).mono s2.keep).dp (plain_of_lay _ (SeqAt.canLay_of_shaped sh1)), ok2.dp s2 (plain_of_lay _ (SeqAt.canLay_of_shaped sh2)), sh1, sh2, e1, e2, e3, k _ (.d (.int _)) Hd2 H2 s2 (b1.trans b2) (Dt.int _) w2⟩
  · exact w1.elim
@[simp] theorem s_dIdx (Ta Tb : DE) (xc : DX) (ρ : DSt) (Q : Vl → Prop) : dIdx Ta Tb xc ρ Q = Ta xc ρ fun x => gSeq x fun ds => Tb xc ρ fun y => gIdx ds y Q := rfl
end
/-! ### two lists of one's own at once -/
section
variable {K : PySem.W.Frag} {T : Wd} {Fr H0 : Hp} {ρ : DSt} {σ : St} {Hd H : Hp}
/-- what is held apart becomes one's own -/
theorem Sat.claim {i : Nat} {p : Addr} {o : HO} {d : D} (s : Sat K T (upd Fr p o) H0 ρ σ Hd H) (hf : Fr p = none) (h : OwnAt K Hd H p d) : Sat K T Fr H0 (ρ.set i (some (.o d))) (σ.set i (some (.ref p))) Hd H := by
  obtain ⟨g0, g1, g2⟩ := s.frame p o upd_same
  have old : ∀ (j : Nat) (x : D) (w : V), ρ[j]? = some (some (.o x)) → σ[j]? = some (some w) → w ≠ .ref p := fun j x w e1 e2 z => by
    obtain ⟨u', h1, q, h2, h3, h4, h5⟩ := s.slot j _ e1
    rw [e2] at h1; cases h1
    subst z
    cases h2
    rw [upd_same] at h4; cases h4
  have weak : ∀ {v : V} {u : Vl}, SlotOk K (upd Fr p o) Hd H v u → SlotOk K Fr Hd H v u := fun q => q.ext (Sub.refl _) fun b u hb hu _ hfb => ⟨hb, hu, by
    have n : b ≠ p := fun z => by rw [z, upd_same] at hfb; cases hfb
    rw [upd_ne n] at hfb; exact hfb⟩
  have qn : SepQ (ρ.set i (some (.o d))) (σ.set i (some (.ref p))) := fun a c C g st z p' e1 e2 e3 => by
    have k1 := (set_in e1 (by intro z; cases z)).1
    obtain ⟨_, _, _, qa⟩ := s.slot a _ k1
    by_cases q : i = c
    · subst q
      have hl : i < σ.length := by
        rcases Nat.lt_or_ge i σ.length with z | z
        · exact z
        · rw [List.getElem?_eq_none (by simpa using z)] at e3; cases e3
      rw [List.getElem?_set_self hl] at e3
      cases e3
      exact ⟨fun z => by (have h := (qa.out _ (.inr (.inl z))).2; rw [upd_same] at h; cases h), fun z => by (have h := (qa.out _ (.inr (.inr z))).2; rw [upd_same] at h; cases h)⟩
    · rw [List.getElem?_set_ne q] at e2 e3
      exact s.sep.2 a c C g st z p' k1 e2 e3
  refine ⟨by rw [List.length_set, List.length_set]; exact s.len, s.base, s.keep, s.ntb, s.tabs, fun b u e => ?_, fun j u e => ?_, fun j l x y w e1 e2 e3 e4 => ?_, qn⟩
  · have n : b ≠ p := fun z => by rw [z, hf] at e; cases e
    exact s.frame b u (by rw [upd_ne n]; exact e)
  · by_cases q : i = j
    · subst q
      by_cases hl : i < ρ.length
      · rw [List.getElem?_set_self hl] at e
        cases e
        exact ⟨.ref p, by rw [List.getElem?_set_self (by rw [s.len]; exact hl)], p, rfl, g2, hf, h⟩
      · rw [List.getElem?_eq_none (by simpa using hl)] at e; cases e
    · rw [List.getElem?_set_ne q] at e
      obtain ⟨u', h1, h2⟩ := s.slot j u e
      exact ⟨u', by rw [List.getElem?_set_ne q]; exact h1, weak h2⟩
  · by_cases q1 : i = j
    · by_cases q2 : i = l
      · rw [← q1, ← q2]
      · exfalso
        rw [List.getElem?_set_ne q2] at e2 e4
        subst q1
        have hl : i < σ.length := by
          rcases Nat.lt_or_ge i σ.length with z | z
          · exact z
          · rw [List.getElem?_eq_none (by simpa using z)] at e3; cases e3
        rw [List.getElem?_set_self hl] at e3
        cases e3
        exact old l y _ e2 e4 rfl
    · by_cases q2 : i = l
      · exfalso
        rw [List.getElem?_set_ne q1] at e1 e3
        subst q2
        have hl : i < σ.length := by
          rcases Nat.lt_or_ge i σ.length with z | z
          · exact z
          · rw [List.getElem?_eq_none (by simpa using z)] at e4; cases e4
        rw [List.getElem?_set_self hl] at e4
        cases e4
        exact old j x _ e1 e3 rfl
      · rw [List.getElem?_set_ne q1] at e1 e3
        rw [List.getElem?_set_ne q2] at e2 e4
        exact s.sep.1 j l x y w e1 e2 e3 e4
end
section
variable {X : Cx} {T : Wd} {E : XK} {a b c e tg iter elt : Expr} {ifs es fs rest : List Expr} {pos p p2 p3 : Pos} {Ta Tb Tc Te te : DE} {Al Bl : DA}
def gOwn2 (i j : Nat) (xs : List Vl) (Bl : (List Vl → Prop) → Prop) (ρ : DSt) (Q : DSt → Prop) : Prop := match allD xs with
  | some ds => ds.length ≤ sizeLine ∧ Bl fun ys => gOwnL j ys (ρ.set i (some (.o (.list ds)))) Q
  | none => False
def dOwn2 (i j : Nat) (Al Bl : DA) : DS := fun e ρ => Al e.xc ρ fun xs => gOwn2 i j xs (Bl e.xc ρ) ρ e.nx
theorem sd_own2 {x y : Str} {px py pt pt2 : Pos} {kt k2} (i j : Nat) (ha : AD X T E es Al) (hb : AD X T E fs Bl) (hN : X.N.Nodup) (hw : swappedStores [.Tuple [.Name x px, .Name y py] kt pt] (.Tuple [.List es p2, .List fs p3] k2 pt2) X.env = pure (some [x, y]) := by rfl) (hc : X.calm = true := by rfl) (hi : X.N[i]? = some x := by rfl) (hj : X.N[j]? = some y := by rfl) (hij : i ≠ j := by decide)
    (hx : X.env.scope.names.lookup x = some .local := by rfl) (hy : X.env.scope.names.lookup y = some .local := by rfl)
    (hs : swapsWithSole [.Tuple [.Name x px, .Name y py] kt pt] (.Tuple [.List es p2, .List fs p3] k2 pt2) pos.line X.env = pure false := by rfl)
    (h1 : starEach [.List es p2, .List fs p3] X.env = (false, eval (.List es p2) X.env) :: starEach [.List fs p3] X.env := by rfl) (h2 : starEach [.List fs p3] X.env = (false, eval (.List fs p3) X.env) :: starEach [] X.env := by rfl) :
    SD X T E (.Assign [.Tuple [.Name x px, .Name y py] kt pt] (.Tuple [.List es p2, .List fs p3] k2 pt2) pos) (dOwn2 i j Al Bl) := by
  refine ps_imp (ps_par hc hN hi hj hij hx hy (pa_cons (pe_lst ha) (pa_cons (pe_lst hb) pa_nil h2) h1) hw hs) fun De σ H ⟨e, Fr, H0, ρ, Hd, s, ok, w⟩ => ⟨e.xc, Fr, H0, ρ, Hd, _, s, w, ok.xok, fun vs xs Hd1 H1 s1 b1 ok1 w1 => ?_⟩
  unfold gOwn2 at w1
  split at w1
  · rename_i ds e1
    have hA := allD_ok ok1 e1
    refine ⟨by rw [hA.length]; exact w1.1, fun p1 hp1 => ?_⟩
    have hf1 : Fr p1 = none := by
      cases q : Fr p1 with
      | none => rfl
      | some o => have z := (s1.frame p1 o q).2.1; rw [hp1] at z; cases z
    have s1' := s1.hold (o := .lst vs) hp1 (fun ps z => by cases z)
    refine ⟨e.xc, upd Fr p1 (.lst vs), H0, ρ, Hd1, _, s1', w1.2, fun C Hd' H' sx hx => ?_, fun ws ys Hd2 H2 s2 b2 ok2 w2 => ?_⟩
    · refine ok.xc C Hd' H' ?_ hx
      refine ⟨sx.base, sx.keep, sx.ntb, sx.tabs, fun b u eb => ?_⟩
      have n : b ≠ p1 := fun z => by rw [z, hf1] at eb; cases eb
      exact sx.frame b u (by rw [upd_ne n]; exact eb)
    · unfold gOwnL at w2
      split at w2
      · rename_i fs2 e2
        have hB := allD_ok ok2 e2
        refine ⟨by rw [hB.length]; exact w2.1, fun p2 hp2 => ?_⟩
        obtain ⟨_, g1, g2⟩ := s2.frame p1 _ upd_same
        have c1 : Sat X.K T Fr H0 (ρ.set i (some (.o (.list ds)))) (σ.set i (some (.ref p1))) Hd2 H2 := s2.claim hf1 ⟨vs, g1, hA.mono b2⟩
        exact ⟨_, _, rfl, ok.nx _ _ Hd2 _ (c1.setOwn (i := j) (o := .lst ws) (d := .list fs2) hp2 ⟨ws, upd_same, hB⟩) (by rw [List.length_set, List.length_set]) w2.2⟩
      · exact w2.elim
  · exact w1.elim
@[simp] theorem s_dOwn2 (i j : Nat) (Al Bl : DA) (e : DEnds) (ρ : DSt) : dOwn2 i j Al Bl e ρ = Al e.xc ρ fun xs => gOwn2 i j xs (Bl e.xc ρ) ρ e.nx := rfl
theorem gOwn2_of {i j : Nat} {xs : List Vl} {ds : List D} {B : (List Vl → Prop) → Prop} {ρ : DSt} {Q : DSt → Prop} (h : allD xs = some ds) (hl : ds.length ≤ sizeLine) (hb : B fun ys => gOwnL j ys (ρ.set i (some (.o (.list ds)))) Q) : gOwn2 i j xs B ρ Q := by
  unfold gOwn2
  rw [h]
  exact ⟨hl, hb⟩
end
end DL

/-! Data: what an expression gives, told by its value alone. -/
namespace DL
open PySem L2 LamX
def Ev (ρ : DSt) (t : DE) (x : D) : Prop := ∀ (xc : DX) (Q : Vl → Prop), Q (.d x) → t xc ρ Q
def EvA (ρ : DSt) (t : DA) (ds : List D) : Prop := ∀ (xc : DX) (k : List Vl → Prop), k (ds.map .d) → t xc ρ k
variable {ρ : DSt}
theorem ev_c {x : D} : Ev ρ (dC x) x := fun _ _ h => h
theorem ev_neg {t : DE} {i : Int} (h : Ev ρ t (.int i)) : Ev ρ (dNeg t) (.int (-i)) := fun xc Q hQ => h xc _ hQ
theorem ev_var {i : Nat} {x : D} (h : ρ[i]? = some (some (.d x))) : Ev ρ (dVar i) x := fun xc Q hQ => by
  rw [s_dVar, h]; exact hQ
theorem evA_nil : EvA ρ dNil [] := fun _ _ h => h
theorem evA_cons {t : DE} {ts : DA} {x : D} {xs : List D} (h : Ev ρ t x) (hs : EvA ρ ts xs) : EvA ρ (dCons t ts) (x :: xs) := fun xc k hk => h xc _ (hs xc _ hk)
theorem allD_map : ∀ ds : List D, allD (ds.map Vl.d) = some ds
  | [] => rfl
  | x :: ds => by rw [List.map_cons, s_allD1, allD_map ds]; rfl
theorem ev_tup {ts : DA} {xs : List D} (h : EvA ρ ts xs) (hl : xs.length ≤ 1000 := by first | decide | simp) : Ev ρ (dTup ts) (.tuple xs) := fun xc Q hQ => h xc _ (by
  rw [gTup_of (allD_map xs)]; exact ⟨few hl, hQ⟩)
theorem ev_lst {ts : DA} {xs : List D} (h : EvA ρ ts xs) (hl : xs.length ≤ 1000 := by first | decide | simp) : Ev ρ (dLst ts) (.list xs) := fun xc Q hQ => h xc _ (by
  rw [gLst_of (allD_map xs)]; exact ⟨few hl, hQ⟩)
theorem ev_add {a b : DE} {i j : Int} (h1 : Ev ρ a (.int i)) (h2 : Ev ρ b (.int j)) : Ev ρ (dOp gAdd a b) (.int (i + j)) := fun xc Q hQ => h1 xc _ (h2 xc _ hQ)
theorem ev_sub {a b : DE} {i j : Int} (h1 : Ev ρ a (.int i)) (h2 : Ev ρ b (.int j)) : Ev ρ (dOp gSub a b) (.int (i - j)) := fun xc Q hQ => h1 xc _ (h2 xc _ hQ)
theorem ev_mul {a b : DE} {i j : Int} (h1 : Ev ρ a (.int i)) (h2 : Ev ρ b (.int j)) (h : CMl i j) : Ev ρ (dOp gMul a b) (.int (i * j)) := fun xc Q hQ => h1 xc _ (h2 xc _ ⟨h, hQ⟩)
theorem ev_addL {a b : DE} {i j : List D} (h1 : Ev ρ a (.list i)) (h2 : Ev ρ b (.list j)) (h : i.length + j.length ≤ 1000) : Ev ρ (dOp gAdd a b) (.list (i ++ j)) := fun xc Q hQ => h1 xc _ (h2 xc _ ⟨few h, hQ⟩)
theorem ev_mulL {a b : DE} {i : List D} {j : Int} (h1 : Ev ρ a (.list i)) (h2 : Ev ρ b (.int j)) (h0 : -1000 ≤ j) (h3 : j ≤ 1000) (h : i.length * j.toNat ≤ 1000) : Ev ρ (dOp gMul a b) (.list (List.replicate j.toNat i).flatten) := fun xc Q hQ => h1 xc _ (h2 xc _ ⟨⟨by omega, by omega, few h⟩, hQ⟩)
theorem ev_tupOf {a : DE} {i : List D} (h1 : Ev ρ a (.list i)) : Ev ρ (dCB gTupleOf (dCons a dNil)) (.tuple i) := fun xc Q hQ => h1 xc _ hQ
theorem ev_len {a : DE} {i : List D} (h1 : Ev ρ a (.list i)) : Ev ρ (dCB gLen (dCons a dNil)) (.int i.length) := fun xc Q hQ => h1 xc _ hQ
/-- a refusal that is told -/
theorem told_of {cs : List Str} {F : Ct} {Al : DA} {xc : DX} {Q : Vl → Prop} {c : Str} (xs : List Vl) (ha : ∀ (xc' : DX) (k : List Vl → Prop), k xs → Al xc' ρ k) (hn : noOwn xs = true) (hf : ∀ (q : D → Prop) (xc' : DX), xc' c → F xs q xc') (hc : cs.contains c = true) (hQ : Q (.d (.str c))) : dTold cs (dCall F Al) xc ρ Q :=
  ha _ _ ⟨hn, hf _ _ ⟨hc, hQ⟩⟩
theorem noOwn_map : ∀ ds : List D, noOwn (ds.map Vl.d) = true
  | [] => rfl
  | x :: ds => by rw [List.map_cons, s_noOwnD, noOwn_map ds]
/-- the same, by the values of what is handed in -/
theorem told_ev {cs : List Str} {F : Ct} {Al : DA} {xc : DX} {Q : Vl → Prop} {c : Str} {ds : List D} (ha : EvA ρ Al ds) (hf : ∀ (q : D → Prop) (xc' : DX), xc' c → F (ds.map .d) q xc') (hc : cs.contains c = true) (hQ : Q (.d (.str c))) : dTold cs (dCall F Al) xc ρ Q :=
  told_of (ds.map .d) (fun xc' k hk => ha xc' k hk) (noOwn_map ds) hf hc hQ
theorem call_ev {F : Ct} {Al : DA} {xc : DX} {Q : Vl → Prop} {ds : List D} (ha : EvA ρ Al ds) (hf : F (ds.map .d) (fun d => Q (.d d)) xc) : dCall F Al xc ρ Q :=
  ha _ _ ⟨noOwn_map ds, hf⟩
/-- what a test gives -/
def EvT (ρ : DSt) (t : DT) (b : Bool) : Prop := ∀ (xc : DX) (k : Bool → Prop), k b → t xc ρ k
theorem ev_told {cs : List Str} {F : Ct} {Al : DA} {c : Str} {ds : List D} (ha : EvA ρ Al ds) (hf : ∀ (q : D → Prop) (xc' : DX), xc' c → F (ds.map .d) q xc') (hc : cs.contains c = true) : Ev ρ (dTold cs (dCall F Al)) (.str c) := fun xc Q hQ => told_ev ha hf hc hQ
theorem ev_call {F : Ct} {Al : DA} {ds : List D} {x : D} (ha : EvA ρ Al ds) (hf : ∀ (q : D → Prop) (xc' : DX), q x → F (ds.map .d) q xc') : Ev ρ (dCall F Al) x := fun xc Q hQ => call_ev ha (hf _ _ hQ)
theorem evt_val {t : DE} {b : Bool} (h : Ev ρ t (.bool b)) : EvT ρ (dTest t) b := fun xc k hk => h xc _ hk
theorem evt_not {t : DT} {b : Bool} (h : EvT ρ t b) : EvT ρ (dNot t) (!b) := fun xc k hk => h xc _ hk
theorem evt_orF {t u : DT} {b : Bool} (h : EvT ρ t false) (h2 : EvT ρ u b) : EvT ρ (dOr t u) b := fun xc k hk => h xc _ (h2 xc _ hk)
theorem evt_andT {t u : DT} {b : Bool} (h : EvT ρ t true) (h2 : EvT ρ u b) : EvT ρ (dAnd t u) b := fun xc k hk => h xc _ (h2 xc _ hk)
theorem evt_andF {t u : DT} (h : EvT ρ t false) : EvT ρ (dAnd t u) false := fun xc k hk => h xc _ hk
theorem evt_orT {t u : DT} (h : EvT ρ t true) : EvT ρ (dOr t u) true := fun xc k hk => h xc _ hk
theorem ev_ne {a b : DE} {x y : D} (h1 : Ev ρ a x) (h2 : Ev ρ b y) (o1 : okD 40 x = true) (o2 : okD 40 y = true) : Ev ρ (dOp gNe a b) (.bool (!PyData.eqv x y)) := fun xc Q hQ => h1 xc _ (h2 xc _ ⟨o1, o2, hQ⟩)
theorem ev_eq {a b : DE} {x y : D} (h1 : Ev ρ a x) (h2 : Ev ρ b y) (o1 : okD 40 x = true) (o2 : okD 40 y = true) : Ev ρ (dOp gEq a b) (.bool (PyData.eqv x y)) := fun xc Q hQ => h1 xc _ (h2 xc _ ⟨o1, o2, hQ⟩)
theorem eqv_same {x : D} (h : okD 40 x = true) : PyData.eqv x x = true := PySem.SeqAt.eqv_refl_plain _ (okD_plain 40 _ h)
/-- a thing compared with itself -/
theorem evt_neF {a b : DE} {x : D} (h1 : Ev ρ a x) (h2 : Ev ρ b x) (o : okD 40 x = true := by rfl) : EvT ρ (dTest (dOp gNe a b)) false := by
  have := evt_val (ev_ne h1 h2 o o)
  rw [eqv_same o] at this
  exact this
theorem evt_eqT {a b : DE} {x : D} (h1 : Ev ρ a x) (h2 : Ev ρ b x) (o : okD 40 x = true := by rfl) : EvT ρ (dTest (dOp gEq a b)) true := by
  have := evt_val (ev_eq h1 h2 o o)
  rw [eqv_same o] at this
  exact this
/-- a list of one's own compared -/
theorem evt_neO {b : DE} {i : Nat} {x : D} (h1 : ρ[i]? = some (some (.o x))) (h2 : Ev ρ b x) (o : okD 40 x = true := by rfl) : EvT ρ (dTest (dOp gNe (dVar i) b)) false := fun xc k hk => by
  rw [s_dTest, s_dOp, s_dVar, h1]
  refine h2 xc _ ⟨o, o, ?_⟩
  show vB (.d (.bool (!PyData.eqv x x))) k
  rw [eqv_same o]
  exact hk
/-! ### statements -/
variable {e : DEnds} {u : DS}
theorem sq_set {i : Nat} {t : DE} {x : D} (h : Ev ρ t x) (k : u e (ρ.set i (some (.d x)))) : dSeq (dSet i t) u e ρ := h _ _ k
theorem st_set {i : Nat} {t : DE} {x : D} (h : Ev ρ t x) (k : e.nx (ρ.set i (some (.d x)))) : dSet i t e ρ := h _ _ k
theorem sq_for {Te : DE} {tt : Tgt} {tb : DS} {ds : List D} (h : Ev ρ Te (.list ds)) (k : forL tt tb { e with nx := u e } ds ρ) : dSeq (dFor (dWalk Te) tt tb) u e ρ := h _ _ k
theorem st_for {Te : DE} {tt : Tgt} {tb : DS} {ds : List D} (h : Ev ρ Te (.list ds)) (k : forL tt tb e ds ρ) : dFor (dWalk Te) tt tb e ρ := h _ _ k
theorem sq_ifF {tc : DT} {t : DS} (h : EvT ρ tc false) (k : u e ρ) : dSeq (dIf tc t dNext) u e ρ := h _ _ k
theorem st_ifF {tc : DT} {t : DS} (h : EvT ρ tc false) (k : e.nx ρ) : dIf tc t dNext e ρ := h _ _ k
theorem sq_ownL {i : Nat} {Al : DA} {ds : List D} (h : EvA ρ Al ds) (hl : ds.length ≤ 1000) (k : u e (ρ.set i (some (.o (.list ds))))) : dSeq (dOwnL i Al) u e ρ := h _ _ (by
  show gOwnL i (ds.map .d) ρ _
  unfold gOwnL
  rw [allD_map]
  exact ⟨few hl, k⟩)
theorem sq_app {i : Nat} {t : DE} {x : D} {ds : List D} (hi : ρ[i]? = some (some (.o (.list ds)))) (h : Ev ρ t x) (hl : ds.length < 1000) (k : u e (ρ.set i (some (.o (.list (ds ++ [x])))))) : dSeq (dApp i t) u e ρ := by
  rw [s_dSeq, s_dApp, hi]
  exact h _ _ ⟨fewer (m := 999) (by omega), k⟩
theorem st_retF {t : DE} {x : D} (h : Ev ρ t x) (k : e.rt x) : dRet t e ρ := h _ _ k
end DL

/-! Data: texts of great whole numbers; for a, (b, c) in ... -/
namespace DL
open PySem L2 LamX
abbrev NoDig (K : PySem.W.Frag) : Prop := PySem.W.nsIn K cStatics "sys.int_max_str_digits" = some none
theorem ns_none_of {K : PySem.W.Frag} {h : Heap} {m : Str → Option Value} {a : Addr} {n : Str} (X : K.In h) (G : h.Ns a m) (e : PySem.W.nsIn K a n = some none) : m n = none := by
  obtain ⟨o, es, ep, ho, hd, _, hf⟩ := G
  unfold PySem.W.nsIn at e
  split at e
  · rename_i c d es' n' sl q
    have := X _ _ q
    rw [ho] at this
    cases this
    cases hd
    split at e
    · cases e
    · rename_i he
      rw [← hf]
      unfold nsFind findBy
      rw [← Array.find?_toList, he]
      rfl
  · cases e
section
variable {X : Cx} {T : Wd} {E : XK}
theorem noDigits {pins : List (Addr × Obj)} {σ : St} {H : Hp} {s : Shared} (I : Inv X pins σ H s) (e : NoDig X.K) : s.heap.NoDigits := by
  obtain ⟨mc, h1, _⟩ := I.mod.nolimit
  exact ⟨mc, h1.keeps I.bk, ns_none_of I.mod.kin h1 e⟩
theorem call_strB (hc : X.calm = true) (e : NoDig X.K) : CallR X (.type "str") (fun xs H Q => ∃ i, xs = [.int i] ∧ i.natAbs < 10 ^ 4300 ∧ Q (.str (toString i)) H) := by
  intro pins s σ H xs us Q I r h
  obtain ⟨i, rfl, hz, q⟩ := h
  obtain ⟨u, rfl, t, rfl⟩ := vals1 r
  exact PyProof.Rows.str_of_int_or (I.ok.hd hc) (noDigits I e) (fun _ => ⟨.str _, H, I.tok _, ⟨_, rfl⟩, q⟩) (fun z => absurd hz (Nat.not_lt.mpr z))
def gStrB : GN := fun xs Q => match xs with
  | [.d (.int i)] => i.natAbs < 10 ^ 4300 ∧ Q (.d (.str (toString i)))
  | _ => False
theorem cd_strB : CallD X.K T (fun xs H Q => ∃ i, xs = [.int i] ∧ i.natAbs < 10 ^ 4300 ∧ Q (.str (toString i)) H) gStrB := fun Fr H0 ρ σ Hd H vs xs q Q s hv w k => by
  unfold gStrB at w
  split at w
  · rename_i i
    obtain ⟨v, rfl, h⟩ := vls1 hv
    have h : Dt X.K Hd v (.int i) := h
    cases h
    exact ⟨i, rfl, w.1, k _ (.d (.str _)) Hd H s (Sub.refl _) (Dt.str _) w.2⟩
  · exact w.elim
theorem y_strB (e : NoDig X.K) (hc : X.calm = true := by rfl) : TyDl X T "str" gStrB := ⟨_, call_strB hc e, cd_strB⟩
end
@[simp] theorem s_gStrB (i : Int) (Q : Vl → Prop) : gStrB [.d (.int i)] Q = (i.natAbs < 10 ^ 4300 ∧ Q (.d (.str (toString i)))) := rfl
/-! ### for a, (b, c) in .. -/
def bind21 (i j l : Nat) : D → DSt → Option DSt
  | .tuple [x, .tuple [y, z]], ρ => some (((ρ.set i (some (.d x))).set j (some (.d y))).set l (some (.d z)))
  | _, _ => none
def g21 (K : PySem.W.Frag) (i j l : Nat) : TG := L2.gTup K 2 (gCons (gName i) (gCons (L2.gTup K 2 (gCons (gName j) (gCons (gName l) gNil))) gNil))
theorem bind21_ok {K : PySem.W.Frag} {T : Wd} {Fr H0 Hd H : Hp} {i j l : Nat} {d : D} {v : V} {ρ ρ' : DSt} {σ : St} {Q : St → Hp → Prop} (s : Sat K T Fr H0 ρ σ Hd H) (h : Dt K Hd v d) (e : bind21 i j l d ρ = some ρ') (k : ∀ σ', Sat K T Fr H0 ρ' σ' Hd H → ρ'.length = ρ.length → Q σ' H) : g21 K i j l v σ H Q := by
  unfold bind21 at e
  split at e
  · rename_i x y z
    cases e
    cases h with
    | tup h1 h2 =>
      cases h2 with
      | cons a1 a2 =>
        cases a2 with
        | cons b1 b2 =>
          cases b2
          cases b1 with
          | tup c1 c2 =>
            cases c2 with
            | cons d1 d2 =>
              cases d2 with
              | cons e1 e2 =>
                cases e2
                exact ⟨_, _, rfl, SqT.of (s.keep _ _ h1), rfl, _, _, rfl, _, _, rfl, ⟨_, _, rfl, SqT.of (s.keep _ _ c1), rfl, _, _, rfl, _, _, rfl, rfl, rfl, k _ (((s.set a1).set d1).set e1) (by rw [List.length_set, List.length_set, List.length_set])⟩⟩
  · cases e
def forB (b : D → DSt → Option DSt) (tb : DS) (e : DEnds) : List D → DSt → Prop
  | [], ρ => e.nx ρ
  | d :: r, ρ => gBnd (b d ρ) fun ρ' => tb { e with nx := forB b tb e r, ct := forB b tb e r, bk := e.nx } ρ'
def dFor21 (ti : DI) (i j l : Nat) (tb : DS) : DS := fun e ρ => ti e.xc ρ fun ds => forB (bind21 i j l) tb e ds ρ
section
variable {X : Cx} {T : Wd} {E : XK} {tg iter : Expr} {sts : List Stmt} {pos : Pos}
theorem sd_for21 {ti : DI} {i j l : Nat} {tb : DS} (hp : PassesOwn (model X.prog X.w) X.A X.env X.xe) (hi : ID X T E tg iter ti) (hg : PG X tg (g21 X.K i j l)) (hb : BD X T E sts tb) (hc : X.calm = true := by rfl) (hs : ∀ x, foldedSetIterable iter X.env x = pure x := by intro _; rfl) : SD X T E (.For tg iter sts [] pos) (dFor21 ti i j l tb) := by
  refine ps_imp (ps_for hp hc hi hg hb hs) fun De σ H ⟨e, Fr, H0, ρ, Hd, s, ok, w⟩ => ⟨e.xc, Fr, H0, ρ, Hd, _, s, w, ok.xok, fun J ds Hd1 H1 s1 b1 it w1 => ?_⟩
  refine ⟨fun n m σ' H' => m = ds.length - n ∧ n ≤ ds.length ∧ ∃ ρ' Hd', Sat X.K T Fr H0 ρ' σ' Hd' H' ∧ Sub Hd1 Hd' ∧ ρ'.length = ρ.length ∧ forB (bind21 i j l) tb e (ds.drop n) ρ', ⟨ds.length, rfl, Nat.zero_le _, ρ, Hd1, s1, Sub.refl _, rfl, w1⟩, ?_⟩
  rintro n m σ' H' ⟨rfl, hil, ρ', Hd', s', b', hl, w'⟩
  obtain ⟨j1, j2⟩ := it Fr H0 ρ' σ' Hd' H' n s' b'
  by_cases hlt : n < ds.length
  · refine .inr ?_
    obtain ⟨d, hd⟩ : ∃ d, ds[n]? = some d := ⟨ds[n], by simp [hlt]⟩
    obtain ⟨g1, g2⟩ := j1 d hd
    refine ⟨g1, fun σ2 H2 => ∃ ρ2 Hd2, Sat X.K T Fr H0 ρ2 σ2 Hd2 H2 ∧ Sub Hd1 Hd2 ∧ ρ2.length = ρ.length ∧ forB (bind21 i j l) tb e (ds.drop (n + 1)) ρ2, fun σ2 H2 q => ⟨ds.length - (n + 1), by omega, rfl, hlt, q⟩, fun x H2 y => ?_⟩
    obtain ⟨Hd2, s2, b2, dt2⟩ := g2 x H2 y
    have ed : ds.drop n = d :: ds.drop (n + 1) := by
      rw [List.drop_eq_getElem_cons hlt]
      congr 1
      rw [List.getElem?_eq_getElem hlt] at hd
      exact Option.some.inj hd
    rw [ed] at w'
    simp only [forB, gBnd] at w'
    split at w'
    · rename_i ρ3 e3
      have bb : Sub Hd1 Hd2 := b'.trans b2
      refine bind21_ok (s2.rebase bb) dt2 e3 fun σ3 s3 l3 => ?_
      have up : ∀ {ρ4 : DSt} {σ4 : St} {Hd4 H4 : Hp}, Sat X.K T Fr Hd1 ρ4 σ4 Hd4 H4 → Sat X.K T Fr H0 ρ4 σ4 Hd4 H4 := fun s4 => s4.rebase (s1.base.trans s4.base)
      have upO : ∀ {Hd4 H4 : Hp}, Out T Fr Hd1 Hd4 H4 → Out T Fr H0 Hd4 H4 := fun o => ⟨s1.base.trans o.base, o.keep, o.ntb, o.tabs, o.frame⟩
      exact ⟨{ e with nx := forB (bind21 i j l) tb e (ds.drop (n + 1)), ct := forB (bind21 i j l) tb e (ds.drop (n + 1)), bk := e.nx }, Fr, Hd1, ρ3, Hd2, s3, ⟨fun ρ4 σ4 Hd4 H4 s4 l4 w4 => ⟨ρ4, Hd4, up s4, s4.base, l4.trans (l3.trans hl), w4⟩, fun ρ4 σ4 Hd4 H4 s4 l4 w4 => ok.nx ρ4 σ4 Hd4 H4 (up s4) (l4.trans (l3.trans hl)) w4,
        fun ρ4 σ4 Hd4 H4 s4 l4 w4 => ⟨ρ4, Hd4, up s4, s4.base, l4.trans (l3.trans hl), w4⟩, fun d v Hd4 H4 o => ok.rt d v Hd4 H4 (upO o), fun C Hd4 H4 o => ok.xc C Hd4 H4 (upO o)⟩, w'⟩
    · exact w'.elim
  · have e1 : ds.length = n := by omega
    refine .inl ⟨j2 e1, ?_⟩
    rw [← e1, List.drop_length] at w'
    exact ok.nx ρ' σ' Hd' H' s' hl w'
theorem pg_21 {x y z : Str} {p1 p2 p3 p4 pos : Pos} {k k2 : Nat} (i j l : Nat) (hN : X.N.Nodup) (hi : X.N[i]? = some x := by rfl) (hj : X.N[j]? = some y := by rfl) (hl : X.N[l]? = some z := by rfl) (hx : Loc X.env.scope x := by first | exact Or.inl rfl | exact Or.inr rfl) (hy : Loc X.env.scope y := by first | exact Or.inl rfl | exact Or.inr rfl) (hz : Loc X.env.scope z := by first | exact Or.inl rfl | exact Or.inr rfl)
    (hf : X.fn x = true ∨ X.env.scope.names.lookup x = some .local := by first | exact .inl rfl | exact .inr rfl) (hf2 : X.fn y = true ∨ X.env.scope.names.lookup y = some .local := by first | exact .inl rfl | exact .inr rfl) (hf3 : X.fn z = true ∨ X.env.scope.names.lookup z = some .local := by first | exact .inl rfl | exact .inr rfl) (hc : X.calm = true := by rfl) :
    PG X (.Tuple [.Name x p1, .Tuple [.Name y p2, .Name z p3] k2 p4] k pos) (g21 X.K i j l) :=
  pg_tup hc (pgs_cons (pg_name hN hi hx hf) (pgs_cons (pg_tup hc (pgs_cons (pg_name hN hj hy hf2) (pgs_cons (pg_name hN hl hz hf3) pgs_nil))) pgs_nil))
end
theorem forB_ind {b : D → DSt → Option DSt} {tb : DS} {e : DEnds} (I : List D → DSt → Prop) : ∀ {ds : List D} {ρ : DSt}, I ds ρ → (∀ d r ρ (K : DSt → Prop), I (d :: r) ρ → (∀ ρ, I r ρ → K ρ) → ∃ ρ', b d ρ = some ρ' ∧ tb { e with nx := K, ct := K, bk := e.nx } ρ') → (∀ ρ, I [] ρ → e.nx ρ) → forB b tb e ds ρ
  | [], ρ, h, _, h3 => h3 ρ h
  | d :: r, ρ, h, h2, h3 => by
    obtain ⟨ρ', e1, hb⟩ := h2 d r ρ (forB b tb e r) h (fun ρ h => forB_ind I h h2 h3)
    show gBnd (b d ρ) _
    rw [e1]
    exact hb
@[simp] theorem s_dFor21 (ti : DI) (i j l : Nat) (tb : DS) (e : DEnds) (ρ : DSt) : dFor21 ti i j l tb e ρ = ti e.xc ρ fun ds => forB (bind21 i j l) tb e ds ρ := rfl
end DL

/-! Data: dicts of one's own with keys of any depth. -/
namespace DL
open PySem L2 LamX
section
variable {P : Program} {w : World} {K : PySem.W.Frag} {H : Hp} {h : Heap}
mutual
theorem nk_is (ok : HOk P w H h) : ∀ {v : V} {d : D}, Dt K H v d → ∀ {u : Value} {k : NestedKey}, RelV v u → nkD d = some k → NestedIs h k u
  | _, _, .int i, u, k, r, e => by
    obtain ⟨t, rfl⟩ := (show ∃ t, u = Value.int i t from r)
    simp [nkD] at e; subst e; exact .int i t
  | _, _, .str x, u, k, r, e => by
    obtain ⟨t, rfl⟩ := (show ∃ t, u = Value.str x t from r)
    simp [nkD] at e; subst e; exact .text x t
  | _, _, .tup (a := a) (xs := xs) (ds := ds) h1 h2, u, k, r, e => by
    cases (show u = Value.ref a from r)
    obtain ⟨_, its, rv, o, g1, g2, n, g3⟩ := (show ObjOk P w H h a (.tup xs) from ok a _ h1)
    simp only [nkD] at e
    cases q : nkD.nkL ds with
    | none => rw [q] at e; cases e
    | some ks =>
      rw [q] at e
      cases e
      exact .tup g1 g2 g3 (by simpa using nk_all ok h2 rv q)
  | _, _, .non, u, k, r, e => by simp [nkD] at e
  | _, _, .bl b, u, k, r, e => by simp [nkD] at e
  | _, _, .lst h1 h2, u, k, r, e => by simp [nkD] at e
  | _, _, .dct h1 h2, u, k, r, e => by simp [nkD] at e
theorem nk_all (ok : HOk P w H h) : ∀ {vs : List V} {ds : List D}, DtA K H vs ds → ∀ {us : List Value} {ks : List NestedKey}, Vals vs us → nkD.nkL ds = some ks → NestedAll h ks us
  | _, _, .nil, us, ks, r, e => by cases r; simp [nkD.nkL] at e; subst e; exact .nil
  | _, _, .cons (d := d) (ds := ds) h1 h2, us, ks, r, e => by
    cases r with
    | cons r1 r2 =>
      simp only [nkD.nkL] at e
      cases q1 : nkD d with
      | none => rw [q1] at e; cases e
      | some k =>
        cases q2 : nkD.nkL ds with
        | none => rw [q1, q2] at e; cases e
        | some ks' =>
          rw [q1, q2] at e
          cases e
          exact .cons (nk_is ok h1 r1 q1) (nk_all ok h2 r2 q2)
end
theorem nk_keys (ok : HOk P w H h) : ∀ {xs : List (NestedKey × Addr × Value)} {es : List (D × D)}, NkA K H xs es → ∀ x ∈ xs, (nestedKind P w).is h x.1 x.2.1
  | _, _, .nil, x, hx => by cases hx
  | _, _, .cons h1 h0 h2 h3 h4 t, x, hx => by
    rcases List.mem_cons.mp hx with rfl | hx
    · exact ⟨nk_is ok h2 rfl h1, h0⟩
    · exact nk_keys ok t x hx
theorem nd_of (ok : HOk P w H h) {a : Addr} {xs : List (NestedKey × Addr × Value)} {es : List (D × D)} (e : H a = some (NdO w a xs)) (na : NkA K H xs es) : h.DictOfH (nestedKind P w) a xs ∧ (a == sysModules) = false := by
  obtain ⟨⟨o, ds, ep, h1, h2, h3, h4, h5, h6⟩, _⟩ := (show ObjOk P w H h a (NdO w a xs) from ok a _ e)
  exact ⟨⟨o, ds, ep, h1, h2, h3, h4, nk_keys ok na, h5⟩, h6⟩
theorem nd_mk {H' : Hp} {a : Addr} {xs : List (NestedKey × Addr × Value)} (dd : ∃ o es ep, h.get? a = some o ∧ o.ExactDict ∧ o.data = .dict es ep ∧ es.toList = xs.map (fun x => (⟨x.1.hash w, .ref x.2.1, x.2.2⟩ : DictEntry)) ∧ (xs.map (·.1)).Nodup) (hs : (a == sysModules) = false) : ObjOk P w H' h a (NdO w a xs) := by
  obtain ⟨o, ds, ep, h1, h2, h3, h4, h5⟩ := dd
  refine ⟨⟨o, ds, ep, h1, h2, h3, h4, h5, hs⟩, ⟨o, h1⟩, fun g1 g2 ⟨o', ds', ep', k1, k2, k3, k4, k5, k6⟩ hk => ⟨o', ds', ep', hk o' k1, k2, k3, k4, k5, k6⟩⟩
end
/-! ### the entries -/
def putN (es : List (D × D)) (kd vd : D) : List (D × D) := if (es.any fun p => decide (nkD p.1 = nkD kd)) = true then es.map (fun p => if nkD p.1 = nkD kd then (p.1, vd) else p) else es ++ [(kd, vd)]
def getN (es : List (D × D)) (kd : D) : Option D := (es.find? fun p => decide (nkD p.1 = nkD kd)).map (·.2)
section
variable {K : PySem.W.Frag} {H : Hp}
theorem NkA.length : ∀ {xs : List (NestedKey × Addr × Value)} {es : List (D × D)}, NkA K H xs es → xs.length = es.length
  | _, _, .nil => rfl
  | _, _, .cons _ _ _ _ _ t => by simp [NkA.length t]
theorem NkA.find {kd : D} {k : NestedKey} (hk : nkD kd = some k) : ∀ {xs : List (NestedKey × Addr × Value)} {es : List (D × D)}, NkA K H xs es →
    (atKey xs k = none ∧ getN es kd = none) ∨ ∃ b u v vd, atKey xs k = some (b, u) ∧ getN es kd = some vd ∧ RelV v u ∧ Dt K H v vd
  | _, _, .nil => .inl ⟨rfl, rfl⟩
  | _, _, .cons (k := k') (b := b) (u := u) (v := v) (kd := kd') (vd := vd) h1 h0 h2 h3 h4 t => by
    by_cases e : k' = k
    · subst e
      refine .inr ⟨b, u, v, vd, by simp [atKey], ?_, h3, h4⟩
      simp [getN, h1, hk]
    · have e2 : ¬ nkD kd' = nkD kd := by rw [h1, hk]; simpa using e
      rcases NkA.find hk t with ⟨a1, a2⟩ | ⟨b', u', v', vd', a1, a2, a3, a4⟩
      · refine .inl ⟨?_, ?_⟩
        · simpa [atKey, List.find?_cons, e] using a1
        · simpa [getN, List.find?_cons, e2] using a2
      · refine .inr ⟨b', u', v', vd', ?_, ?_, a3, a4⟩
        · simpa [atKey, List.find?_cons, e] using a1
        · simpa [getN, List.find?_cons, e2] using a2
theorem NkA.any {kd : D} {k : NestedKey} (hk : nkD kd = some k) : ∀ {xs : List (NestedKey × Addr × Value)} {es : List (D × D)}, NkA K H xs es → (atKey xs k).isSome = es.any fun p => decide (nkD p.1 = nkD kd)
  | _, _, .nil => rfl
  | _, _, .cons (k := k') (kd := kd') h1 h0 h2 h3 h4 t => by
    by_cases e : k' = k
    · subst e
      simp [atKey, h1, hk]
    · have e2 : ¬ nkD kd' = nkD kd := by rw [h1, hk]; simpa using e
      have := NkA.any hk t
      rw [List.any_cons, decide_eq_false e2, Bool.false_or, ← this]
      simp [atKey, List.find?_cons, e]
theorem NkA.putAt {kd vd : D} {k : NestedKey} {v : V} {r : Value} (hk : nkD kd = some k) (rv : RelV v r) (dv : Dt K H v vd) : ∀ {xs : List (NestedKey × Addr × Value)} {es : List (D × D)}, NkA K H xs es → NkA K H (xs.map (PySem.putAt k r)) (es.map fun p => if nkD p.1 = nkD kd then (p.1, vd) else p)
  | _, _, .nil => .nil
  | _, _, .cons (k := k') (kd := kd') h1 h0 h2 h3 h4 t => by
    rw [List.map_cons, List.map_cons]
    by_cases e : k' = k
    · subst e
      rw [show PySem.putAt k' r (k', _, _) = (k', _, r) from if_pos rfl, if_pos (h1.trans hk.symm)]
      exact .cons h1 h0 h2 rv dv (NkA.putAt hk rv dv t)
    · have e2 : ¬ nkD kd' = nkD kd := by rw [h1, hk]; simpa using e
      simp only [PySem.putAt, if_neg e, if_neg e2]
      exact .cons h1 h0 h2 h3 h4 (NkA.putAt hk rv dv t)
theorem NkA.app {k : NestedKey} {b : Addr} {u : Value} {v : V} {kd vd : D} (h1 : nkD kd = some k) (h0 : k.depth ≤ 8) (h2 : Dt K H (.ref b) kd) (h3 : RelV v u) (h4 : Dt K H v vd) : ∀ {xs : List (NestedKey × Addr × Value)} {es : List (D × D)}, NkA K H xs es → NkA K H (xs ++ [(k, b, u)]) (es ++ [(kd, vd)])
  | _, _, .nil => .cons h1 h0 h2 h3 h4 .nil
  | _, _, .cons g1 g0 g2 g3 g4 t => .cons g1 g0 g2 g3 g4 (NkA.app h1 h0 h2 h3 h4 t)
theorem NkA.put {k : NestedKey} {b : Addr} {r : Value} {v : V} {kd vd : D} {xs : List (NestedKey × Addr × Value)} {es : List (D × D)} (h1 : nkD kd = some k) (h0 : k.depth ≤ 8) (h2 : Dt K H (.ref b) kd) (h3 : RelV v r) (h4 : Dt K H v vd) (na : NkA K H xs es) : NkA K H (storedH xs k b r) (putN es kd vd) := by
  unfold storedH putN
  rw [← na.any h1]
  split
  · exact na.putAt h1 h3 h4
  · exact na.app h1 h0 h2 h3 h4
end
/-! ### the rules of the hand layer -/
section
variable {X : Cx} {pins : List (Addr × Obj)} {σ : St} {H : Hp} {s : Shared} {pos pos' apos cpos : Pos} {o i e f value : Expr} {td ty tv tx : TE}
theorem pe_dnewN : PE X (.Dict [] [] pos) (fun _ H Q => ∀ p, H p = none → Q (.ref p) (upd H p (NdO X.w p []))) := ⟨fun pins s σ H Q I h =>
  wpAny_Dict_empty ⟨.ref s.heap.objs.size, _, I.laid (a := s.heap.objs.size) (o := NdO X.w s.heap.objs.size []) (t' := s.toks) (fun _ _ q => Heap.get?_push_of_some _ q) (Nat.le_refl _) (nd_mk ⟨_, #[], 0, Heap.get?_push_size _ rfl, ⟨rfl, rfl, rfl⟩, rfl, rfl, List.nodup_nil⟩ (beq_eq_false_iff_ne.mpr (Ne.symm (Nat.ne_of_lt I.big)))), rfl, h _ (I.hok.fresh (Nat.le_refl _))⟩⟩
def sDPutN (K : PySem.W.Frag) (w : World) (td ty tv : TE) : TS := fun D σ H => tv σ H fun v H1 => td σ H1 fun x H2 => ty σ H2 fun y H3 => ∃ (a b : Addr) (xs : List (NestedKey × Addr × Value)) (es : List (PyData × PyData)) (kd : PyData) (k : NestedKey), x = .ref a ∧ y = .ref b ∧
    H3 a = some (NdO w a xs) ∧ NkA K H3 xs es ∧ Dt K H3 (.ref b) kd ∧ nkD kd = some k ∧ k.depth ≤ 8 ∧ xs.length < sizeLine ∧ ∀ r, RelV v r → D.nx σ (upd H3 a (NdO w a (storedH xs k b r)))
theorem ps_dputN (hu : X.A.units + 9 < cLine) (ho : PE X o td) (hi : PE X i ty) (hv : PE X value tv) (hs : swapsWith value (some (.Subscript o i pos')) pos.line X.env = pure false) :
    PS X (.Assign [.Subscript o i pos'] value pos) (sDPutN X.K X.w td ty tv) := by
  refine ⟨fun pins s σ H D I h => ?_⟩
  refine wpAny_Assign_Subscript (thn (hv.run pins s σ H _ I h) fun r s1 ⟨v, H1, I1, rv, q1⟩ => thn (ho.run pins s1 σ H1 _ I1 q1) fun u s2 ⟨x, H2, I2, rx, q2⟩ => thn (hi.run pins s2 σ H2 _ I2 q2) fun iv s3 ⟨y, H3, I3, ry, a, b, xs, es, kd, k, ex, ey, e1, na, hk, hkk, hd, hl, q3⟩ => ?_) hs
  subst ex ey
  obtain rfl : u = Value.ref a := rx
  obtain rfl : iv = Value.ref b := ry
  obtain ⟨dd, hsys⟩ := nd_of I3.hok e1 na
  refine wpAny_setItem_heap (knd := nestedKind X.prog X.w) (hsz := Nat.le_of_lt hl) (show X.A.in1.units + 8 < cLine from by show X.A.units + 1 + 8 < cLine; omega) ⟨nk_is I3.hok hk rfl hkk, hd⟩ dd fun h' dd' hs' => ⟨σ, _, ?_, q3 r rv⟩
  obtain ⟨q, ds, ep, hq, g2, g3, g4, _, g5⟩ := dd'
  exact d_write I3 (by rw [e1]; exact True.intro) hs' ⟨q, hq⟩ (nd_mk ⟨q, ds, ep, hq, g2, g3, g4, g5⟩ hsys)
def tDGet2N (K : PySem.W.Frag) (w : World) (td ty tx : TE) : TE := fun σ H Q => td σ H fun x H1 => ∃ a, x = .ref a ∧ (∃ xs es, H1 a = some (NdO w a xs) ∧ NkA K H1 xs es) ∧ ty σ H1 fun y H2 => tx σ H2 fun z H3 => ∃ (b : Addr) (xs : List (NestedKey × Addr × Value)) (es : List (PyData × PyData)) (kd : PyData) (k : NestedKey) (Hd : Hp),
    y = .ref b ∧ H3 a = some (NdO w a xs) ∧ Sub Hd H3 ∧ NkA K Hd xs es ∧ Dt K H3 (.ref b) kd ∧ nkD kd = some k ∧ k.depth ≤ 8 ∧ (getN es kd = none → Q z H3) ∧ ∀ v vd, getN es kd = some vd → Dt K Hd v vd → Q v H3
theorem pe_dget2N (hu : X.A.units + 9 < cLine) (ho : PE X o td) (he : PE X e ty) (hf : PE X f tx) (m : M2 X o "get" apos e f cpos) : PE X (.Call (.Attribute o "get" apos) [e, f] [] cpos) (tDGet2N X.K X.w td ty tx) := by
  refine ⟨fun pins s σ H Q I h => ?_⟩
  refine wpAny_Call_method m.base m.few m.line PySem.F.plainAttrs_dict PySem.F.slot_dict_get PySem.F.type_dict_get (thn (ho.run pins s σ H _ I h) fun u s1 ⟨x, H1, I1, rx, a, ex, ⟨xs0, es0, d0, na0⟩, q1⟩ => ?_)
  subst ex
  obtain rfl : u = Value.ref a := rx
  obtain ⟨dd0, _⟩ := nd_of I1.hok d0 na0
  refine ⟨dd0.typeIs, fun b q => ?_, ?_⟩
  · cases q
    obtain ⟨ob, _, _, h1, h2, _⟩ := dd0
    exact ⟨ob, h1, h2.2.1⟩
  rw [m.trees]
  refine Calls.callWith_builtin rfl (Calls.evalArgs_plain (Calls.spliced_cons (thn (he.run pins s1 σ H1 _ I1 q1) fun iv s2 ⟨y, H2, I2, ry, q2⟩ =>
    Calls.spliced_cons (thn (hf.run pins s2 σ H2 _ I2 q2) fun fv s3 ⟨z, H3, I3, rz, b, xs, es, kd, k, Hd, ey, e1, sb, na, hk, hkk, hd, g1, g2⟩ => Calls.spliced_nil ?_))))
  subst ey
  obtain rfl : iv = Value.ref b := ry
  obtain ⟨dd, hsys⟩ := nd_of I3.hok e1 (na.mono sb)
  refine call_meetsIn PySem.F.slot_dict_get dd.typeIs PySem.F.entry_dict_get (PySem.F.args_dict_get_3 _ _ _) (meetsH_dict_get_default (nestedKind X.prog X.w) a b hsys fv) ⟨show X.A.in1.units + 8 < cLine from by show X.A.units + 1 + 8 < cLine; omega, k, xs, ⟨nk_is I3.hok hk rfl hkk, hd⟩, dd, ?_⟩
  rcases na.find hkk with ⟨a1, a2⟩ | ⟨b', u', v', vd', a1, a2, a3, a4⟩
  · rw [a1]
    exact ⟨z, H3, I3.tok _, rz, g1 a2⟩
  · rw [a1]
    exact ⟨v', H3, I3.tok _, a3, g2 v' vd' a2 a4⟩
end
end DL

/-! Data: dicts of one's own with keys of any depth, as readings. -/
namespace DL
open PySem L2 LamX
section
variable {K : PySem.W.Frag} {T : Wd} {Fr H0 : Hp} {ρ : DSt} {σ : St} {Hd H : Hp}
theorem NdO_ne_tbl {w : World} {p : Addr} {xs : List (NestedKey × Addr × Value)} : ∀ ps, NdO w p xs ≠ .tbl ps := fun ps z => by unfold NdO at z; cases z
theorem own_ne_nd {w : World} {p : Addr} {xs : List (NestedKey × Addr × Value)} {d : D} (h5 : OwnAt K Hd H p d) (g4 : H p = some (NdO w p xs)) : False := by
  cases d with
  | list ds => obtain ⟨_, h6, _⟩ := h5; rw [g4] at h6; unfold NdO at h6; cases h6
  | dict ds => obtain ⟨_, h6, _⟩ := h5; rw [g4] at h6; unfold NdO at h6; cases h6
  | none => exact h5.elim
  | bool _ => exact h5.elim
  | int _ => exact h5.elim
  | str _ => exact h5.elim
  | tuple _ => exact h5.elim
theorem nd_code {w : World} {p : Addr} {xs : List (NestedKey × Addr × Value)} {q : Str} (e : some (NdO w p xs) = some (CodeO p q)) : False := by
  have e := Option.some.inj e
  unfold NdO CodeO at e
  injection e with e
  let ob : Obj := { cls := .none, data := .fields #[.none, .str q 0] }
  let h : Heap := { objs := Array.replicate (p + 1) ob }
  have hg : h.get? p = some ob := by
    unfold Heap.get?
    have : h.objs[p]? = some ob := by simp [h]
    rw [this]
  have f2 : (fun h : Heap => ∃ (oc : Obj) (vs : Array Value) (t : Tok), h.get? p = some oc ∧ oc.data = .fields vs ∧ vs[1]? = some (.str q t)) h := ⟨ob, _, 0, hg, rfl, rfl⟩
  rw [← e] at f2
  obtain ⟨o, es, ep, g1, _, g3, _⟩ := f2
  rw [hg] at g1
  cases g1
  cases g3
theorem Sat.setN {i : Nat} {p : Addr} {w : World} (s : Sat K T Fr H0 ρ σ Hd H) (hp : H p = none) : Sat K T Fr H0 (ρ.set i (some (.n w []))) (σ.set i (some (.ref p))) Hd (upd H p (NdO w p [])) := by
  have hd := s.keep.free hp
  have hf : Fr p = none := by
    cases q : Fr p with
    | none => rfl
    | some o => have z := (s.frame p o q).2.1; rw [hp] at z; cases z
  have back : ∀ (m : Nat) (z : D) (v : V), (ρ.set i (some (.n w [])))[m]? = some (some (.o z)) → (σ.set i (some (.ref p)))[m]? = some (some v) → ρ[m]? = some (some (.o z)) ∧ σ[m]? = some (some v) := fun m z v e e' => by
    by_cases q : i = m
    · subst q
      by_cases hl : i < ρ.length
      · rw [List.getElem?_set_self hl] at e; cases e
      · rw [List.getElem?_eq_none (by simpa using hl)] at e; cases e
    · rw [List.getElem?_set_ne q] at e e'; exact ⟨e, e'⟩
  refine ⟨by rw [List.length_set, List.length_set]; exact s.len, s.base, s.keep.right hd, s.ntb, s.tabs.ext (Sub.new hp), fun b u e => ?_, fun j u e => ?_, fun j l x y v e1 e2 e3 e4 => ?_, s.sep.2.back (fun m C g st e => ⟨st, (set_in e (by intro z; cases z)).1⟩) fun m z p' e e' => ⟨z, (set_in e (by intro z; cases z)).1, by rw [List.getElem?_set_ne (set_in e (by intro z; cases z)).2] at e'; exact e'⟩⟩
  · obtain ⟨h0, h1, h2⟩ := s.frame b u e
    exact ⟨h0, by rw [upd_ne (ne_of_none h1 hp)]; exact h1, h2⟩
  · by_cases q : i = j
    · subst q
      by_cases hl : i < ρ.length
      · rw [List.getElem?_set_self hl] at e
        cases e
        exact ⟨.ref p, by rw [List.getElem?_set_self (by rw [s.len]; exact hl)], p, rfl, hd, hf, [], upd_same, .nil⟩
      · rw [List.getElem?_eq_none (by simpa using hl)] at e; cases e
    · rw [List.getElem?_set_ne q] at e
      obtain ⟨u', h1, h2⟩ := s.slot j u e
      refine ⟨u', by rw [List.getElem?_set_ne q]; exact h1, h2.ext (Sub.refl _) fun b u hb hu _ hf => ?_⟩
      have n : b ≠ p := ne_of_none hu hp
      exact ⟨hb, by rw [upd_ne n]; exact hu, hf⟩
  · obtain ⟨a1, a2⟩ := back j x v e1 e3
    obtain ⟨b1, b2⟩ := back l y v e2 e4
    exact s.sep.1 j l x y v a1 b1 a2 b2
def onlyN (ρ : DSt) (i : Nat) : Prop := ∀ j, j ≠ i → ∀ w es, ρ[j]? ≠ some (some (.n w es))
theorem Sat.mutN {i : Nat} {p : Addr} {w : World} {es es' : List (D × D)} {xs' : List (NestedKey × Addr × Value)} (s : Sat K T Fr H0 ρ σ Hd H) (hi : ρ[i]? = some (some (.n w es))) (hp : σ[i]? = some (some (.ref p))) (ho : onlyN ρ i) (h : NkA K Hd xs' es') :
    Sat K T Fr H0 (ρ.set i (some (.n w es'))) σ Hd (upd H p (NdO w p xs')) := by
  obtain ⟨u', h1, q, h2, h3, h4, xs, h5, h6⟩ := s.slot i _ hi
  rw [hp] at h1; cases h1; cases h2
  have hl : i < ρ.length := (List.getElem?_eq_some_iff.mp hi).1
  have back : ∀ (m : Nat) (z : D), (ρ.set i (some (.n w es')))[m]? = some (some (.o z)) → ρ[m]? = some (some (.o z)) := fun m z e => by
    by_cases q : i = m
    · subst q; rw [List.getElem?_set_self hl] at e; cases e
    · rw [List.getElem?_set_ne q] at e; exact e
  refine ⟨by rw [List.length_set]; exact s.len, s.base, s.keep.right h3, s.ntb, fun t ht => ?_, fun b u e => ?_, fun j u e => ?_, fun j l x y v e1 e2 e3 e4 => s.sep.1 j l x y v (back j x e1) (back l y e2) e3 e4, s.sep.2.back (fun m C g st e => ⟨st, (set_in e (by intro z; cases z)).1⟩) fun m z p' e e' => ⟨z, (set_in e (by intro z; cases z)).1, e'⟩⟩
  · obtain ⟨ps, a1, a2, a3⟩ := s.tabs t ht
    refine ⟨ps, ?_, a2, fun pos cv hc => ?_⟩
    · rw [upd_ne (fun z => by rw [z, h5] at a1; unfold NdO at a1; cases a1)]; exact a1
    · obtain ⟨c, b1, b2⟩ := a3 pos cv hc
      refine ⟨c, b1, ?_⟩
      by_cases z : c = p
      · exfalso
        rw [z, h5] at b2
        exact nd_code b2
      · rw [upd_ne z]; exact b2
  · obtain ⟨g0, g1, g2⟩ := s.frame b u e
    have n : b ≠ p := fun z => by subst z; rw [h4] at e; cases e
    exact ⟨g0, by rw [upd_ne n]; exact g1, g2⟩
  · by_cases q : i = j
    · subst q
      rw [List.getElem?_set_self hl] at e
      cases e
      exact ⟨.ref p, hp, p, rfl, h3, h4, xs', upd_same, h⟩
    · rw [List.getElem?_set_ne q] at e
      obtain ⟨u', k1, k2⟩ := s.slot j u e
      refine ⟨u', k1, ?_⟩
      cases u with
      | d y => exact k2
      | s y => exact k2
      | r _ _ _ => exact k2
      | q C g y =>
        have n : ∀ b, g.has b → b ≠ p := fun b hb z => by
          obtain ⟨o2, a1, _, _, a4, _⟩ := k2.2.at hb
          rw [z, h5] at a1
          unfold NdO at a1
          cases a1
          exact a4 _ rfl
        exact ⟨k2.1, k2.2.to (Sub.refl _) fun b u hb hu => ⟨(k2.2.out b hb).1, by rw [upd_ne (n b hb)]; exact hu, (k2.2.out b hb).2⟩⟩
      | n w2 y => exact absurd e (ho j (fun z => q z.symm) w2 y)
      | o y =>
        obtain ⟨b, g1, g2, g3, g4⟩ := k2
        have n : b ≠ p := fun z => by subst z; exact own_ne_nd g4 h5
        refine ⟨b, g1, g2, g3, ?_⟩
        cases y with
        | list ds => obtain ⟨xs, h6, h7⟩ := g4; exact ⟨xs, by rw [upd_ne n]; exact h6, h7⟩
        | dict ds => obtain ⟨xs, h6, h7⟩ := g4; exact ⟨xs, by rw [upd_ne n]; exact h6, h7⟩
        | none => exact g4.elim
        | bool _ => exact g4.elim
        | int _ => exact g4.elim
        | str _ => exact g4.elim
        | tuple _ => exact g4.elim
end
section
variable {X : Cx} {T : Wd} {E : XK} {a b c e o f tg iter : Expr} {es rest : List Expr} {pos p p2 : Pos} {Ta Tb Tc Te : DE} {Al : DA}
def dOwnN (w : World) (i : Nat) : DS := fun e ρ => e.nx (ρ.set i (some (.n w [])))
theorem sd_ownN {x : Str} (i : Nat) (hN : X.N.Nodup) (hi : X.N[i]? = some x := by rfl) (hx : Loc X.env.scope x := by first | exact Or.inl rfl | exact Or.inr rfl) (hs : swapsWith (.Dict [] [] p2) (some (.Name x p)) pos.line X.env = pure false := by rfl) (hf : X.fn x = true ∨ X.env.scope.names.lookup x = some .local := by first | exact .inl rfl | exact .inr rfl) :
    SD X T E (.Assign [.Name x p] (.Dict [] [] p2) pos) (dOwnN X.w i) := by
  refine ps_imp (ps_set hN hi hx pe_dnewN hs hf) fun De σ H ⟨e, Fr, H0, ρ, Hd, s, ok, w⟩ => fun p hp => ?_
  exact ok.nx _ _ Hd _ (s.setN hp) (by rw [List.length_set]) w
def ownN (o : Option (Option Vl)) (w : World) (k : List (D × D) → Prop) : Prop := match o with
  | some (some (.n w' es)) => w' = w ∧ k es
  | _ => False
def keyN (kd : D) : Prop := (∃ ds, kd = .tuple ds) ∧ ∃ k, nkD kd = some k ∧ k.depth ≤ 8
def dPutN (w : World) (i : Nat) (Tk Tv : DE) : DS := fun e ρ => ownN ρ[i]? w fun es => Tv e.xc ρ fun v => vD v fun d => Tk e.xc ρ fun y => vD y fun kd => keyN kd ∧ onlyN ρ i ∧ es.length < sizeLine ∧ e.nx (ρ.set i (some (.n w (putN es kd d))))
theorem room9 {k : Nat} (hr : Room k X.A) : X.A.units + 9 < cLine := by have := hr.un; omega
theorem sd_putN {k : Nat} {x : Str} {px pos' : Pos} (hr : Room k X.A) (i : Nat) (hx : PE X (.Name x px) (tVar i)) (hk : ED X T E b Tb) (hv : ED X T E a Ta) (hs : swapsWith a (some (.Subscript (.Name x px) b pos')) pos.line X.env = pure false := by rfl) :
    SD X T E (.Assign [.Subscript (.Name x px) b pos'] a pos) (dPutN X.w i Tb Ta) := by
  refine ps_imp (ps_dputN (room9 hr) hx hk hv hs) fun De σ H ⟨e, Fr, H0, ρ, Hd, s, ok, w⟩ => ?_
  unfold dPutN ownN at w
  split at w
  · rename_i w' es hq
    obtain ⟨rfl, w⟩ := w
    refine ⟨e.xc, Fr, H0, ρ, Hd, _, s, w, ok.xok, fun v x Hd1 H1 s1 b1 ok1 w1 => ?_⟩
    cases x with
    | d d =>
      have ok1 : Dt X.K Hd1 v d := ok1
      obtain ⟨u, h1, p, rfl, _, _, _, _, _⟩ := s1.slot i _ hq
      refine ⟨_, h1, e.xc, Fr, H0, ρ, Hd1, _, s1, w1, ok.xok, fun v2 y Hd2 H2 s2 b2 ok2 w2 => ?_⟩
      cases y with
      | d kd =>
        obtain ⟨⟨⟨ds, rfl⟩, k, hk, hd⟩, ho, hl, w2⟩ := w2
        have ok2 : Dt X.K Hd2 v2 (.tuple ds) := ok2
        obtain ⟨u', g1, p', g2, _, _, xs, g3, g4⟩ := s2.slot i _ hq
        rw [h1] at g1; cases g1; cases g2
        obtain ⟨b, rfl⟩ : ∃ b, v2 = .ref b := by cases ok2; exact ⟨_, rfl⟩
        refine ⟨p, b, xs, es, _, k, rfl, rfl, g3, g4.mono s2.keep, ok2.mono s2.keep, hk, hd, by rw [g4.length]; exact hl, fun r rv => ?_⟩
        exact ok.nx _ _ Hd2 _ (s2.mutN hq h1 ho (g4.put hk hd ok2 rv (ok1.mono b2))) (by rw [List.length_set]) w2
      | o y => exact (show False from w2).elim
      | s y => exact (show False from w2).elim
      | n _ _ => exact (show False from w2).elim
      | q _ _ _ => exact (show False from w2).elim
      | r _ _ _ => exact (show False from w2).elim
    | o y => exact (show False from w1).elim
    | s y => exact (show False from w1).elim
    | n _ _ => exact (show False from w1).elim
    | q _ _ _ => exact (show False from w1).elim
    | r _ _ _ => exact (show False from w1).elim
  · exact w.elim
def dGet2N (w : World) (i : Nat) (Tk Tc : DE) : DE := fun xc ρ Q => ownN ρ[i]? w fun es => Tk xc ρ fun y => vD y fun kd => Tc xc ρ fun z => vD z fun dv => keyN kd ∧ Q (.d ((getN es kd).getD dv))
theorem de_get2N {k : Nat} {x : Str} {px apos cpos : Pos} (hr : Room k X.A) (i : Nat) (ho : PE X (.Name x px) (tVar i)) (he : ED X T E e Tb) (hf : ED X T E f Tc) (m : M2 X (.Name x px) "get" apos e f cpos := by exact ⟨rfl, rfl, rfl, rfl⟩) : ED X T E (.Call (.Attribute (.Name x px) "get" apos) [e, f] [] cpos) (dGet2N X.w i Tb Tc) := by
  refine pe_imp (pe_dget2N (room9 hr) ho he hf m) fun σ H Q ⟨xc, Fr, H0, ρ, Hd, q, s, w, hx, k⟩ => ?_
  unfold dGet2N ownN at w
  split at w
  · rename_i w' es hq
    obtain ⟨rfl, w⟩ := w
    obtain ⟨u, h1, p, rfl, _, _, xs, h2, h3⟩ := s.slot i _ hq
    refine ⟨_, h1, p, rfl, ⟨xs, es, h2, h3.mono s.keep⟩, xc, Fr, H0, ρ, Hd, _, s, w, hx, fun v y Hd1 H1 s1 b1 ok1 w1 => ?_⟩
    cases y with
    | d kd =>
      refine ⟨xc, Fr, H0, ρ, Hd1, _, s1, w1, hx, fun v2 z Hd2 H2 s2 b2 ok2 w2 => ?_⟩
      cases z with
      | d dv =>
        obtain ⟨⟨⟨ds, rfl⟩, k', hk, hd⟩, w2⟩ := w2
        have ok1 : Dt X.K Hd1 v (.tuple ds) := ok1
        have ok2 : Dt X.K Hd2 v2 dv := ok2
        obtain ⟨u', g1, p', g2, _, _, xs', g3, g4⟩ := s2.slot i _ hq
        rw [h1] at g1; cases g1; cases g2
        obtain ⟨b, rfl⟩ : ∃ b, v = .ref b := by cases ok1; exact ⟨_, rfl⟩
        have okb : Dt X.K Hd2 (.ref b) (.tuple ds) := ok1.mono b2
        refine ⟨b, xs', es, _, k', Hd2, rfl, g3, s2.keep, g4, okb.mono s2.keep, hk, hd, fun hn => ?_, fun v' vd hv hdt => ?_⟩
        · rw [hn] at w2
          exact k v2 (.d dv) Hd2 H2 s2 (b1.trans b2) ok2 w2
        · rw [hv] at w2
          exact k v' (.d vd) Hd2 H2 s2 (b1.trans b2) hdt w2
      | o y => exact (show False from w2).elim
      | s y => exact (show False from w2).elim
      | n _ _ => exact (show False from w2).elim
      | q _ _ _ => exact (show False from w2).elim
      | r _ _ _ => exact (show False from w2).elim
    | o y => exact (show False from w1).elim
    | s y => exact (show False from w1).elim
    | n _ _ => exact (show False from w1).elim
    | q _ _ _ => exact (show False from w1).elim
    | r _ _ _ => exact (show False from w1).elim
  · exact w.elim
end
/-! ### len(set(xs)), sorted(set(xs)) of whole numbers -/
end DL

/-! Data: len(set(xs)) of whole numbers. -/
namespace DL
open PySem PySem.Spec L2 LamX PyProof.Rows
def ddS (ns : List Int) : List Int := ns.foldl PyProof.Rows.step_dedup []
theorem getD_range (ns : List Int) : (List.range ns.length).map (fun i => ns.getD i 0) = ns := by
  apply List.ext_getElem
  · simp
  · intro i h1 h2
    simp at h1
    simp [List.getD_eq_getElem?_getD, h1]
theorem firstMet_all (ns : List Int) : PyProof.Rows.firstMet (fun i => ns.getD i 0) ns.length = ddS ns := by
  unfold PyProof.Rows.firstMet ddS
  rw [getD_range]
theorem dd_len : ∀ (ns acc : List Int), acc.Nodup → (ns.foldl PyProof.Rows.step_dedup acc).length ≤ acc.length + ns.length ∧ ((ns.foldl PyProof.Rows.step_dedup acc).length = acc.length + ns.length ↔ (acc ++ ns).Nodup)
  | [], acc, h => by simp [h]
  | x :: ns, acc, h => by
    rw [List.foldl_cons, List.length_cons]
    have est : PyProof.Rows.step_dedup acc x = if acc.any (· == x) = true then acc else acc ++ [x] := rfl
    rw [est]
    by_cases hx : acc.any (· == x) = true
    · rw [if_pos hx]
      obtain ⟨h1, h2⟩ := dd_len ns acc h
      refine ⟨by omega, fun e => by omega, fun e => ?_⟩
      exfalso
      obtain ⟨y, hy, e2⟩ := List.any_eq_true.mp hx
      have e2 := eq_of_beq e2
      subst e2
      have := (List.nodup_append.mp e).2.2 y hy y List.mem_cons_self
      exact this rfl
    · rw [if_neg hx]
      have hn : x ∉ acc := fun z => hx (List.any_eq_true.mpr ⟨x, z, by simp⟩)
      have h' : (acc ++ [x]).Nodup := by
        rw [List.nodup_append]
        exact ⟨h, by simp, fun a ha b hb => by simp at hb; subst hb; exact fun z => hn (z ▸ ha)⟩
      obtain ⟨h1, h2⟩ := dd_len ns (acc ++ [x]) h'
      rw [List.length_append, List.length_singleton] at h1 h2
      refine ⟨by omega, ?_⟩
      rw [show acc.length + (ns.length + 1) = acc.length + 1 + ns.length by omega, h2, List.append_assoc]
      rfl
theorem ddS_nodup (ns : List Int) : (ddS ns).length = ns.length ↔ ns.Nodup := by
  have := (dd_len ns [] List.nodup_nil).2
  simpa [ddS] using this
section
variable {X : Cx} {T : Wd} {E : XK} {a : Expr} {ta : TE} {Ta : DE} {p p2 q pos : Pos}
def tLenSetG (K : PySem.W.Frag) (ta : TE) : TE := fun σ H Q => ta σ H fun x H1 => ∃ (l : Addr) (ns : List Int), x = .ref l ∧ SqL K H1 l (ns.map V.int) ∧ ns.length ≤ 4000 ∧ Q (.int ((ddS ns).length : Nat)) H1
theorem pe_lenSetG (hg : Gl X "len") (hm : X.mg "len" = none) (hg2 : Gl X "set") (hm2 : X.mg "set" = none) (ha : PE X a ta) (hc : X.calm = true := by rfl)
    (na : starEach [a] X.env = (false, eval a X.env) :: starEach [] X.env := by rfl) : PE X (.Call (.Name "len" p) [.Call (.Name "set" p2) [a] [] q] [] pos) (tLenSetG X.K ta) := by
  refine ⟨fun pins s σ H Q I h => ?_⟩
  refine Call_ (ld_blt I hg hm boot_len ?_)
  refine PyProof.Rows.callWith_builtin1 (PyProof.Rows.args_cons ?_ rfl) rfl rfl
  refine Call_ (ld_blt I hg2 hm2 boot_set ?_)
  refine PyProof.Rows.callWith_type1 (PyProof.Rows.args_cons (thn (ha.run pins s σ H _ I h) fun v s1 ⟨x, H1, I1, r1, q1⟩ => PyProof.Rows.args_nil ?_) na) na rfl
  obtain ⟨l, ns, rfl, hq, hl, q1⟩ := q1
  cases r1
  obtain ⟨its, r, pl, hz⟩ := I1.list hq
  have hlen : its.toArray.size = ns.length := by rw [List.size_toArray, ← r.length, List.length_map]
  refine call_set_list (I1.ok.hd hc) pl.isList (by simpa using RZ.intsAre_vals r) (by rw [hlen]; unfold scanBound; omega) fun h' tk hS hk => ?_
  refine PyProof.Rows.args_nil ?_
  rw [hlen, firstMet_all] at hS
  obtain ⟨o, es, ep, t, ho, hex, hd, _, _, _, hf, hn⟩ := hS
  have I2 : Inv X pins σ H1 { s1 with heap := h', toks := tk } := I1.kept fun b o e => hk b o (Heap.lt_size e) e
  have hle : (ddS ns).length ≤ ns.length := by have := (dd_len ns [] List.nodup_nil).1; simpa [ddS] using this
  exact call_len_set ho hex hd hf (by rw [hn] <;> omega) ⟨.int ((ddS ns).length : Nat), H1, I2.tok _, ⟨_, by rw [hn]⟩, q1⟩
def gLenSet (x : Option D) (Q : Vl → Prop) : Prop := match x with
  | some (.list ds) => match ints? ds with
    | some ns => ns.length ≤ 4000 ∧ Q (.d (.int ((ddS ns).length : Nat)))
    | none => False
  | _ => False
def dLenSet (Ta : DE) : DE := fun xc ρ Q => Ta xc ρ fun x => gLenSet x.dat Q
theorem de_lenset (hm : X.mg "len" = none) (hm2 : X.mg "set" = none) (ha : ED X T E a Ta) (hg : Gl X "len" := by rfl) (hg2 : Gl X "set" := by rfl) (hc : X.calm = true := by rfl)
    (na : starEach [a] X.env = (false, eval a X.env) :: starEach [] X.env := by rfl) : ED X T E (.Call (.Name "len" p) [.Call (.Name "set" p2) [a] [] q] [] pos) (dLenSet Ta) := by
  refine pe_imp (pe_lenSetG hg hm hg2 hm2 ha hc na) fun σ H Q ⟨xc, Fr, H0, ρ, Hd, q, s, w, hx, k⟩ => ⟨xc, Fr, H0, ρ, Hd, _, s, w, hx, fun v x Hd1 H1 s1 b1 ok1 w1 => ?_⟩
  unfold gLenSet at w1
  split at w1
  · rename_i ds ed
    split at w1
    · rename_i ns en
      obtain ⟨l, xs, rfl, h1, h2⟩ := ok1.list s1 ed
      have e : xs = ns.map V.int := ints_ok h2 en
      subst e
      exact ⟨l, ns, rfl, SqL.of h1, w1.1, k _ (.d (.int _)) Hd1 H1 s1 b1 (Dt.int _) w1.2⟩
    · exact w1.elim
  · exact w1.elim
@[simp] theorem s_dLenSet (Ta : DE) (xc : DX) (ρ : DSt) (Q : Vl → Prop) : dLenSet Ta xc ρ Q = Ta xc ρ fun x => gLenSet x.dat Q := rfl
theorem gLenSet_t {ns : List Int} {Q : Vl → Prop} (hl : ns.length ≤ 4000) (h : Q (.d (.int ((ddS ns).length : Nat)))) : gLenSet (some (.list (ns.map .int))) Q := by
  show (match ints? (ns.map PyData.int) with | some ns => ns.length ≤ 4000 ∧ Q (.d (.int ((ddS ns).length : Nat))) | none => False)
  rw [ints?_map]
  exact ⟨hl, h⟩
end
end DL

/-! Data: x not in a tuple. -/
namespace DL
open PySem PySem.Spec L2 LamX PyProof.Rows
section
variable {X : Cx} {T : Wd} {E : XK}
def rNotInT (K : PySem.W.Frag) : R2 := fun x y H Q => ∃ d ds, Dp K H x d ∧ Dp K H y (.tuple ds) ∧ d.plain = true ∧ PyData.plainAll ds = true ∧ d.depth ≤ 60 ∧ Q (.bl (!ds.any fun z => PyData.eqv z d)) H
theorem op_notInT (hu : X.A.units + 65 < cLine) : OpR X (compareOp .NotIn) (rNotInT X.K) := by
  intro pins s σ H x y v u Q I rx ry h
  obtain ⟨d, ds, hd, he, sd, se, hdp, q⟩ := h
  obtain ⟨as, r1⟩ := Dp.reads I d x v hd rx
  obtain ⟨bs, r2⟩ := Dp.reads I (.tuple ds) y u he ry
  exact PySem.SeqAt.notIn_tuple_data r2 r1 se sd (by omega) ⟨.bl _, H, I, rfl, q⟩
def gNotInT : G2 := fun x y Q => match y.all with
  | .tuple ds => okD 40 x.all = true ∧ okD 40 (.tuple ds) = true ∧ Q (.d (.bool (!ds.any fun z => PyData.eqv z x.all)))
  | _ => False
theorem od_notinT : OpD X.K T (rNotInT X.K) gNotInT := fun Fr H0 ρ σ Hd H vx vy x y q Q s hx hy w k => by
  unfold gNotInT at w
  split at w
  · rename_i ds ey
    have hy2 := hy.dp s (by rw [ey]; exact okD_plain 40 _ w.2.1)
    rw [ey] at hy2
    have pl : PyData.plainAll ds = true := by
      have := okD_plain 40 _ w.2.1
      rw [PyData.plain] at this
      exact this
    exact ⟨x.all, ds, hx.dp s (okD_plain 40 _ w.1), hy2, okD_plain 40 _ w.1, pl, by have := okD_depth 40 _ w.1; omega, k _ (.d (.bool _)) Hd H s (Sub.refl _) (Dt.bl _) w.2.2⟩
  · exact w.elim
theorem c_notinT {k : Nat} (hr : Room k X.A) : CmpD X T .NotIn gNotInT := ⟨_, op_notInT (room_in hr), od_notinT⟩
end
theorem gNotInT_of {x : Vl} {ds : List D} {Q : Vl → Prop} (h1 : okD 40 x.all = true) (h2 : okD 40 (.tuple ds) = true) : gNotInT x (.d (.tuple ds)) Q = Q (.d (.bool (!ds.any fun z => PyData.eqv z x.all))) := by
  show (_ ∧ _ ∧ _) = _
  simp [h1, h2]
end DL

/-! A list comprehension whose element calls a def that may refuse. -/
namespace DL
open PySem PySem.Spec PyProof.Rows L2 LamX
section
variable {X : Cx} {pins : List (Addr × Obj)} {σ : L2.St} {H : Hp} {s : Shared}
theorem inv_xe {Y : Cx} {ps : List (Addr × Obj)} {τ : L2.St} {G : Hp} {z : Shared} (xe : Value → Shared → Prop) (I : Inv Y ps τ G z) : Inv (L2.Cx.tr Y Y.pn xe) ps τ G z :=
  ⟨L2.Cx.Ok.toTry I.ok _ _, I.os, I.bare, I.base, I.loc, I.cell, I.free, I.freeC, I.pin, I.hok, I.len⟩
/-- in flight: neither new nor held -/
theorem sky_fly {B B0 : Heap} {l l0 : List Env} {a L : Addr} {Z Z0 : Obj → Prop} {h : Heap} (x : Sky B l a Z L h) (f : HandSPX.TracedZ h B0 a Z0 .none) : HandSPX.FlyingZ B l a Z h := by
  obtain ⟨oe, vs, T, oT, ts, p1, _, p3, p4, _, _, p7, p8, p9⟩ := f
  rcases x with ⟨_, _, _, o2, vs2, q1, _, q3, q4⟩ | y | ⟨_, _, _, o2, vs2, T2, oT2, ts2, q1, _, q3, q4, _, _, q7, q8, q9⟩
  · rw [p1] at q1; cases q1
    rw [p3] at q3; cases q3
    rw [p4] at q4; cases q4
  · exact y
  · rw [p1] at q1; cases q1
    rw [p3] at q3; cases q3
    rw [p4] at q4; cases q4
    rw [p7] at q7; cases q7
    rw [p8] at q8; cases q8
    rw [p9] at q9
    have q9 : Value.none = rawInt L := Option.some.inj q9
    unfold rawInt at q9
    cases q9
/-- out of a block's call, to the def around -/
theorem fly_out {E : XK} {s3 sY s' : Shared} {H3 HY : Hp} {scope : Scope} {ce : Env} {fp : List Addr} {xe : Value → Shared → Prop} {ps : List (Addr × Obj)} {τ : L2.St} {u : Value} {pn : List (Addr × Obj)}
    (tk : L2N.Takes X (fun cls d _ G => E cls d G)) (hst : X.stack = X.env :: X.outer) (hfm : X.env.frame = some X.env.locals) (I3 : Inv X pins σ H3 s3) (hfp : ∀ b ∈ fp, FpOk X pins H3 b) (hC : ce.locals = s3.heap.objs.size) (hfe : ce.frame = X.env.frame)
    (J0 : Inv (L2.Cx.tr (X.blk s3 H3 scope ce fp) pn xe) ps τ HY sY) (c : L2N.CX X.prog X.w X.stack HY sY E u s') : notedBy (model X.prog X.w) X.A ce (CompFails (model X.prog X.w) X.A X.xe ce) u s' := by
  have c0 := c
  obtain ⟨a0, _, _, _, _, ea0, ⟨_, _, _, tr0⟩, _⟩ := c0
  obtain ⟨a, B, sI, ps2, τ2, HI, cls, d, ea, J, nb, up, sky, na, os, ag, hE⟩ := L2N.XE.of_call (W := fun cls d _ G => E cls d G) J0 (fun _ _ _ z => z) c
  have tr0 := (show a0 = a by rw [ea] at ea0; injection ea0 with z; exact z.symm) ▸ tr0
  subst ea
  have fl : HandSPX.FlyingZ B X.stack a (L2N.Zn cls d) s'.heap := sky_fly (l0 := []) sky tr0
  have hfr : X.A.frames = some (X.env :: X.outer) := by rw [I3.ok.frames, hst]
  have IX : Inv X pins σ HI sI := I3.call' (ch := fp) J.os J.base J.hok J.bare fun b hb => ⟨(hfp b hb).2.2.2.1, (hfp b hb).2.1, (hfp b hb).2.2.2.2.1, (hfp b hb).2.2.2.2.2⟩
  have nC : HI s3.heap.objs.size = none := by
    have z : HI ce.locals = none := J.free
    rw [hC] at z
    exact z
  obtain ⟨f0, f1, f2, f3, f4, f5⟩ := I3.fpOk (Nat.le_refl _) nC
  obtain ⟨m, hnI, _⟩ := J.loc
  have hnI : sI.heap.Ns ce.locals m := hnI
  rw [hst] at fl
  show wpAny _ _ (noteFrame (.ref a) ce) _ _ s'
  rw [noteFrame_env _ hfe]
  refine PXN.looks_onZ L2N.Zn.steady hfr hfm fl fun h' held up2 => ?_
  have hn' : h'.Ns ce.locals m := hnI.upToSlots (up.trans up2)
  refine ⟨m, hn', fun h2 m2 hn2 sb => ?_⟩
  have ne_of : ∀ b o vs, h'.get? b = some o → o.data = .fields vs → b ≠ ce.locals := fun b o vs e1 e2 z => by
    obtain ⟨oL, es, ep, hoL, hdL, _⟩ := hn'
    rw [z, hoL] at e1
    cases e1
    rw [hdL] at e2
    cases e2
  obtain ⟨k1, k2, k3, oe, vs, T, oT, ts, t1, t2, t3, t4, t5, t6, t7, t8, t9⟩ := held
  have hB : ∀ b o, (PySem.W.hideAll B [ce.locals]).get? b = some o → B.get? b = some o ∧ b ≠ ce.locals := fun b o e => ⟨PySem.W.of_hideAll _ e, fun z => by
    rw [PySem.W.hideAll_none [ce.locals] (by rw [z]; exact List.mem_singleton.mpr rfl)] at e
    cases e⟩
  have hBn : ∀ b, B.get? b = none → (PySem.W.hideAll B [ce.locals]).get? b = none := fun b e => by
    cases q : (PySem.W.hideAll B [ce.locals]).get? b with
    | none => rfl
    | some o => rw [(hB b o q).1] at e; cases e
  have held2 : HandSPX.HeldZ (PySem.W.hideAll B [ce.locals]) (X.env :: X.outer) a (L2N.Zn cls d) X.env.locals h2 := by
    refine ⟨fun b o e => (sb.2 b (hB b o e).2).trans (k1 b o (hB b o e).1), hBn a k2, ?_, oe, vs, T, oT, ts, (sb.2 a (ne_of a oe vs t1 t3)).trans t1, t2, t3, t4, hBn T t5, t6, (sb.2 T (ne_of T oT ts t7 t8)).trans t7, t8, t9⟩
    exact funFrames_none (Heap.FunFrames.sameBut sb hn2 k3) fun L hL => hBn L (k3.mem hL).1
  unfold PySem.passOn
  have t1' : h2.get? a = some oe := (sb.2 a (ne_of a oe vs t1 t3)).trans t1
  refine wpAny_bind (wpAny_field t1' t3 t4 ?_)
  rw [if_neg (show ¬ ((Value.ref T == Value.none) = true) from by simp), hfe, hfm]
  refine wpAny_bind (HandSPX.setFlight_onZ held2 fun h3 held3 up3 => wpAny_throw ?_)
  refine tk _ _ ⟨a, PySem.W.hideAll B [ce.locals], { sI with heap := PySem.W.hideAll sI.heap [ce.locals] }, pins, σ, HI, cls, d, rfl, ?_, ?_, ?_, .inr (.inr (by rw [hst]; exact held3)), na, os, ag, hE⟩
  · refine IX.turned (t' := sI.toks) (it := ce.locals) (fun b o hb e => PySem.W.hideAll_get _ e (by simpa using hb)) (by rw [hC]; exact nC) (by rw [hC]; exact f1) (by rw [hC]; exact f3) (by rw [hC]; exact f4) (by rw [hC]; exact f5)
  · intro b o e hb
    have e1 := PySem.W.of_hideAll _ e
    have hne : b ≠ ce.locals := fun z => by
      have e : (PySem.W.hideAll sI.heap [ce.locals]).get? b = some o := e
      rw [PySem.W.hideAll_none [ce.locals] (by rw [z]; exact List.mem_singleton.mpr rfl)] at e
      cases e
    exact PySem.W.hideAll_get _ (nb b o e1 hb) (by simpa using hne)
  · intro b o e hnf
    have e1 := PySem.W.of_hideAll _ e
    have hne : b ≠ ce.locals := fun z => by
      have e : (PySem.W.hideAll sI.heap [ce.locals]).get? b = some o := e
      rw [PySem.W.hideAll_none [ce.locals] (by rw [z]; exact List.mem_singleton.mpr rfl)] at e
      cases e
    obtain ⟨sl, e2⟩ := (up.trans up2) b o e1 hnf
    have e3 : h2.get? b = some { o with slots := sl } := (sb.2 b hne).trans e2
    obtain ⟨sl2, e4⟩ := up3 b { o with slots := sl } e3 hnf
    exact ⟨sl2, e4⟩
/-- name = [elt for target in iter], where the element's calls may refuse -/
theorem ps_setLcX {i : Nat} {y : Str} {py : Pos} {elt tg iter : Expr} {scope : Scope} {own : List (Str × Nat)} {pos spos : Pos} {wi : TI} {g : TG} {te : TE} {E : XK} (hc : X.calm = true) (hN : X.N.Nodup) (hy : X.N[i]? = some y) (hyl : X.env.scope.names.lookup y = some .local)
    (tk : L2N.Takes X (fun cls d _ G => E cls d G)) (hst : X.stack = X.env :: X.outer) (hfm : X.env.frame = some X.env.locals)
    (hsw : swapsWith (.ListComp elt [⟨tg, iter, [], 0⟩] scope pos) (some (.Name y py)) spos.line X.env = pure true) (hi : PI X tg iter wi) (ok : BlkOk X.N X.env.scope scope own)
    (hg : ∀ (s : Shared) (H : Hp) (C : Addr) (cl : List (Str × Addr)) (fp : List Addr) (xe : Value → Shared → Prop), PG (L2.Cx.tr (X.blk s H scope (compEnvC scope cl C X.env) fp) [] xe) tg g)
    (he : ∀ (s : Shared) (H : Hp) (C : Addr) (cl : List (Str × Addr)) (fp : List Addr) (xe : Value → Shared → Prop), Passes (L2N.CX X.prog X.w) (L2.Cx.tr (X.blk s H scope (compEnvC scope cl C X.env) fp) [] xe) E → PE (L2.Cx.tr (X.blk s H scope (compEnvC scope cl C X.env) fp) [] xe) elt te)
    (hs : ∀ x, foldedSetIterable iter X.env x = pure x) :
    PS X (.Assign [.Name y py] (.ListComp elt [⟨tg, iter, [], 0⟩] scope pos) spos) (tAsg (tLc wi g tYes te (own.map (·.2))) (gName i)) := by
  refine ⟨fun pins s σ H De I h0 => ?_⟩
  rw [exec_Assign_Name_used _ _ _ _ hsw]
  refine wpAny_bind (wpAny_standAt (wpAny_bind ?_))
  show wpAny _ X.A (do let _ ← comprehension (.ListComp elt [⟨tg, iter, [], 0⟩] scope pos) scope X.env (firstIterPos [⟨tg, iter, [], 0⟩] pos) (newList []) false (eval iter X.env) (some (assign (.Name y py) X.env))) _ _ s
  have h : tLc wi g tYes te (own.map (·.2)) σ H (fun x H1 => gName i x σ H1 De.nx) := h0
  refine wpAny_bind (wpAny_mono (Q := fun _ z => SP X pins De .next z) (E := X.xe) ?_ (fun _ z hq => wpAny_pure (wpAny_pure hq)) fun _ _ z => z)
  have clos : ∀ p ∈ scope.names, p.2 = .free → ∃ c, X.env.cells.lookup p.1 = some c := fun p hp e => (ok.free p hp e).elim (fun k => I.ok.has _ (.inl k)) fun k => I.ok.has _ (.inr k)
  refine comprehension_at (E := X.xe) rfl hs (closure_ok clos) ok.kind (fun p hp e => by rw [ok.uniq p hp, e]) (thn (hi.run pins s σ H _ I h) fun xv s1 hx => thn hx fun itv s2 h2 => ?_)
  obtain ⟨it, fp, tn, J, H2, ei, I2, Tn, st2, fo, turn0⟩ := h2
  subst ei
  refine wpAny_newObj_type (newEnv_comp ?_) (Nat.zero_le _)
  generalize eD : s2.heap.objs.size = D
  have nD : H2 D = none := I2.hok.fresh (by rw [eD]; exact Nat.le_refl _)
  obtain ⟨Wv, ⟨m0, w0⟩, turn⟩ := turn0 D nD
  generalize es3 : ({ s2 with heap := s2.heap.push { cls := .type "list", data := .seq ([] : List Value).toArray } } : Shared) = s3
  have eh : s3.heap = s2.heap.push { cls := .type "list", data := .seq ([] : List Value).toArray } := by subst es3; rfl
  have I3 : Inv X pins σ (upd H2 D (.lst [])) s3 := by
    subst es3
    exact I2.laid (t' := s2.toks) (fun b o e => Heap.get?_push_of_some _ e) (by rw [eD]; exact Nat.le_refl _) ⟨Nat.zero_le _, [], 0, .nil, by subst eD; exact Heap.get?_push_size _ rfl⟩
  have low : ∀ b ∈ fp, b < s2.heap.objs.size := fun b hb => let ⟨o, e, _⟩ := Tn.obj _ _ st2 b hb; Heap.lt_size e
  have fo3 : ∀ b ∈ fp, FpOk X pins (upd H2 D (.lst [])) b := fun b hb => ⟨by
    rw [upd_ne (by have := low b hb; rw [← eD]; exact Nat.ne_of_lt this)]
    exact (fo b hb).1, (fo b hb).2⟩
  have st3 : tn 0 s3.heap := Tn.keep _ _ _ st2 fun b _ o e => by rw [eh]; exact Heap.get?_push_of_some _ e
  have I4 := block_start I3 ok hN fun b hb => ⟨fo3 b hb, by rw [eh, Heap.size_push]; exact Nat.lt_succ_of_lt (low b hb)⟩
  generalize eH3 : upd H2 D (.lst []) = H3 at I3 I4 w0 fo3
  show codeAny _ _ (.compStart (.ListComp elt [⟨tg, iter, [], 0⟩] scope pos) 0 (.ref it) (.ref D) (compEnvC scope (cellsFrom (s3.heap.objs.size + 1) scope.names (cloFrom X.env.cells scope.names [])) s3.heap.objs.size X.env)) (compEnds (model X.prog X.w) X.A X.xe (some (assign (.Name y py) X.env)) (fun _ z => SP X pins De .next z) (.ref D) (compEnvC scope (cellsFrom (s3.heap.objs.size + 1) scope.names (cloFrom X.env.cells scope.names [])) s3.heap.objs.size X.env)) { s3 with heap := pushCells (s3.heap.push { cls := .type "dict", data := .dict #[] }) scope.names }
  have hgY := hg s3 H3 s3.heap.objs.size (cellsFrom (s3.heap.objs.size + 1) scope.names (cloFrom X.env.cells scope.names [])) fp
  have heY := he s3 H3 s3.heap.objs.size (cellsFrom (s3.heap.objs.size + 1) scope.names (cloFrom X.env.cells scope.names [])) fp
  generalize ece : compEnvC scope (cellsFrom (s3.heap.objs.size + 1) scope.names (cloFrom X.env.cells scope.names [])) s3.heap.objs.size X.env = ce at I4 hgY heY ⊢
  have cL : ce.locals = s3.heap.objs.size := by subst ece; rfl
  have cF : ce.frame = X.env.frame := by subst ece; rfl
  generalize es4 : ({ s3 with heap := pushCells (s3.heap.push { cls := .type "dict", data := .dict #[] }) scope.names } : Shared) = s4 at I4 ⊢
  have st4 : tn 0 s4.heap := Tn.keep _ _ _ st3 fun b _ o e => by subst es4; exact pushCells_keeps _ _ _ _ (Heap.get?_push_of_some _ e)
  generalize eN : notedBy (model X.prog X.w) X.A ce (CompFails (model X.prog X.w) X.A X.xe ce) = Nx
  have pgY := hgY Nx
  have psY : Passes (L2N.CX X.prog X.w) (L2.Cx.tr (X.blk s3 H3 scope ce fp) [] Nx) E := fun ps τ G z u z2 J0 c => by
    show Nx u z2
    rw [← eN]
    exact fly_out tk hst hfm I3 fo3 cL cF J0 c
  have peY := heY Nx psY
  have I4' : Inv (L2.Cx.tr (X.blk s3 H3 scope ce fp) [] Nx) [] (wipe σ (own.map (·.2))) H3 s4 := inv_xe Nx I4
  have stat : ∀ {τ : L2.St} {G : Hp} {z : Shared}, Inv (L2.Cx.tr (X.blk s3 H3 scope ce fp) [] Nx) [] τ G z → (∀ b ∈ fp, G b = none) → ∀ b ∈ fp, FpOk (L2.Cx.tr (X.blk s3 H3 scope ce fp) [] Nx) [] G b := fun I' hn b hb =>
    ⟨hn b hb, (I'.ok.exf b hb).1, I'.ok.exfs b hb, .inl hb, (I'.ok.exf b hb).2, fun p hp => nomatch (show p ∈ ([] : List (Addr × Obj)) from hp)⟩
  have hX : ∀ e z, Nx e z → notedBy (model X.prog X.w) X.A ce (fun e z => compEnds (model X.prog X.w) X.A X.xe (some (assign (.Name y py) X.env)) (fun _ z => SP X pins De .next z) (.ref D) ce (.error e) z) e z := by
    rw [← eN]
    exact fun _ _ x => x
  have loop : codeAny (model X.prog X.w) X.A (.compLoop (.ListComp elt [⟨tg, iter, [], 0⟩] scope pos) 0 (.ref it) (.ref D) ce) (compEnds (model X.prog X.w) X.A X.xe (some (assign (.Name y py) X.env)) (fun _ z => SP X pins De .next z) (.ref D) ce) s4 := by
    refine compLoop_any (fun n z => ∃ j G, Inv (L2.Cx.tr (X.blk s3 H3 scope ce fp) [] Nx) [] (wipe σ (own.map (·.2))) G z ∧ tn j z.heap ∧ (∀ b ∈ fp, G b = none) ∧ Wv j n G) ?_ m0 ⟨0, H3, I4', st4, fun b hb => (fo3 b hb).1, w0⟩
    rintro n s5 ⟨j, H5, I5, st5, n5, w5⟩
    rcases turn j n H5 w5 with ⟨stop, qq⟩ | ⟨go, Nn, hNn, step⟩
    · refine thn (Tn.done (L2.Cx.tr (X.blk s3 H3 scope ce fp) [] Nx) rfl rfl rfl hc j [] s5 _ H5 _ I5 (stat I5 n5) st5 stop) fun r s6 ⟨hr, I6⟩ => ?_
      subst hr
      have I7 : Inv X pins σ H5 s6 := I3.call' (ch := fp) I6.os I6.base I6.hok I6.bare fun b hb => ⟨(fo3 b hb).2.2.2.1, (fo3 b hb).2.1, (fo3 b hb).2.2.2.2.1, (fo3 b hb).2.2.2.2.2⟩
      have nC : H5 s3.heap.objs.size = none := by
        have z : H5 ce.locals = none := I6.free
        rw [cL] at z
        exact z
      obtain ⟨m, hn, _⟩ := I6.loc
      have hn : s6.heap.Ns ce.locals m := hn
      obtain ⟨f0, f1, f2, f3, f4, f5⟩ := I3.fpOk (Nat.le_refl _) nC
      show wpAny _ _ (assign (.Name y py) X.env (.ref D)) _ _ _
      refine wpAny_assign_Name (store_ok2 (v := V.ref D) I7 hN hy (.inl hyl) rfl (fun s8 I8 ⟨a, sb, ha⟩ => ?_) (.inr hyl))
      have ne : ce.locals ≠ a := by
        rw [cL]
        rcases ha with z | z
        · rw [z]; exact f1
        · exact fun e => f4 y a z e.symm
      refine ⟨m, hn.sameBut sb ne, fun h9 sb9 => ⟨_, H5, I8.turned (it := s3.heap.objs.size) (t' := s8.toks) (fun b o hb e => (sb9.2 b (by rw [cL]; exact hb)).trans e) f0 f1 f3 f4 f5, qq⟩⟩
    · refine thn (Tn.item (L2.Cx.tr (X.blk s3 H3 scope ce fp) [] Nx) rfl rfl rfl hc j [] s5 _ H5 _ I5 (stat I5 n5) st5 go) fun r s6 ⟨u, hr, h6⟩ => ?_
      subst hr
      refine thn h6 fun _ s7 ⟨x, H7, I7, r7, y7, st7, n7⟩ => ?_
      have I7' := I7.pinned (stat I7 n7) (Tn.obj _ _ st7)
      refine wpAny_mono (pgY.run _ s7 _ H7 x u _ I7' r7 (step x H7 y7)) (fun _ s8 ⟨σ8, H8, I8, hw8, q8⟩ => ?_) hX
      refine wpAny_mono ((pts_nil (X := L2.Cx.tr (X.blk s3 H3 scope ce fp) [] Nx)).run _ s8 σ8 H8 _ I8 q8) (fun b s9 ⟨H9, I9, q9⟩ => ?_) hX
      have fin : ∀ {z : Shared} {G : Hp}, Inv (L2.Cx.tr (X.blk s3 H3 scope ce fp) [] Nx) ([] ++ pinsAt fp s7.heap) σ8 G z → Nn G → ∃ k, k < n ∧ ∃ j G, Inv (L2.Cx.tr (X.blk s3 H3 scope ce fp) [] Nx) [] (wipe σ (own.map (·.2))) G z ∧ tn j z.heap ∧ (∀ b ∈ fp, G b = none) ∧ Wv j k G := fun {z G} I' nx => by
        obtain ⟨k, hk, w'⟩ := hNn G nx
        have pin' : ∀ b ∈ fp, ∀ o, s7.heap.get? b = some o → z.heap.get? b = some o ∧ G b = none := fun b hb o e => by
          have q := I'.pin (b, o) (List.mem_append_right _ (List.mem_append_right _ (mem_pinsAt hb e)))
          exact ⟨q.1, q.2.1⟩
        refine ⟨k, hk, j + 1, G, (I'.unpinned (pins := [])).weak (by rw [← hw8, wipe_length]) (fun l v e => ?_), Tn.keep _ _ _ st7 fun b hb o e => (pin' b hb o e).1, fun b hb => ?_, w'⟩
        · rw [← hw8] at e
          exact (wipe_some e).1
        · obtain ⟨o, e, _⟩ := Tn.obj _ _ st7 b hb
          exact (pin' b hb o e).2
      cases b with
      | false =>
        simp only [Bool.false_eq_true, if_false] at q9 ⊢
        exact fin I9 q9
      | true =>
        simp only [if_true] at q9 ⊢
        refine wpAny_mono (peY.run _ s9 σ8 H9 _ I9 q9) (fun v s10 ⟨yv, H10, I10, r10, acc, hD10, hz10, nx⟩ => ?_) hX
        exact app_ok (X := L2.Cx.tr (X.blk s3 H3 scope ce fp) [] Nx) I10 hD10 hz10 r10 fun s11 I11 => fin I11 nx
  exact codeAny_compStart_list loop (Tn.self X.A 0 _ _ _ st4 loop)
end
/-! ### as data -/
def lcX (tt : Tgt) (te : DE) (xc : DX) (ρ : DSt) : List D → List D → (List D → Prop) → Prop
  | [], acc, k => k acc
  | d :: r, acc, k => gBnd (bindT tt d ρ) fun ρ' => te xc ρ' fun v => vD v fun y => acc.length < sizeLine ∧ lcX tt te xc ρ r (acc ++ [y]) k
def dLcX (ti : DI) (tt : Tgt) (te : DE) (vs : List Nat) : DE := fun xc ρ Q => ownFree ρ vs = true ∧ ti xc ρ fun ds => lcX tt te xc (wipeD ρ vs) ds [] fun acc => Q (.d (.list acc))
section
variable {X : Cx} {T : Wd} {E : XK} {tg iter elt : Expr} {pos : Pos} {te : DE} {ti : DI} {tt : Tgt} {scope : Scope}
theorem le_lcX {K : PySem.W.Frag} {vs : List Nat} (hsl : ∀ i ∈ tt.slots, i ∈ vs) {σ : L2.St} {H : Hp} {Q : VK} (h : LE K T E (dLcX ti tt te vs) σ H Q) : tLc (LI K T E ti) (gOf K tt) tYes (LE K T E te) vs σ H Q := by
  obtain ⟨xc, Fr, H0, ρ, Hd, q, s, ⟨hv, w⟩, hx, k⟩ := h
  refine ⟨xc, Fr, H0, ρ, Hd, _, s, w, hx, fun J ds Hd1 H1 s1 b1 it w1 => fun Dl hD => ?_⟩
  refine ⟨fun i m H' => m = ds.length - i ∧ i ≤ ds.length ∧ ∃ Hd' av acc, Sat K T (upd Fr Dl (.lst av)) Hd1 (wipeD ρ vs) (L2.wipe σ vs) Hd' H' ∧ DtA K Hd' av acc ∧ lcX tt te xc (wipeD ρ vs) (ds.drop i) acc (fun acc => q (.d (.list acc))),
    ⟨ds.length, rfl, Nat.zero_le _, Hd1, [], [], ((s1.rebase (Sub.refl _)).wipe vs).hold hD (fun ps z => by cases z), .nil, w1⟩, ?_⟩
  rintro i m H' ⟨rfl, hil, Hd', av, acc, s', da, w'⟩
  obtain ⟨j1, j2⟩ := it _ _ _ _ Hd' H' i s' s'.base
  by_cases hlt : i < ds.length
  · refine .inr ?_
    obtain ⟨d, hd⟩ : ∃ d, ds[i]? = some d := ⟨ds[i], by simp [hlt]⟩
    obtain ⟨g1, g2⟩ := j1 d hd
    refine ⟨g1, fun H2 => ∃ Hd2 av2 acc2, Sat K T (upd Fr Dl (.lst av2)) Hd1 (wipeD ρ vs) (L2.wipe σ vs) Hd2 H2 ∧ DtA K Hd2 av2 acc2 ∧ lcX tt te xc (wipeD ρ vs) (ds.drop (i + 1)) acc2 (fun acc => q (.d (.list acc))), fun H2 z => ⟨ds.length - (i + 1), by omega, rfl, hlt, z⟩, fun x H2 y => ?_⟩
    obtain ⟨Hd2, s2, b2, dt2⟩ := g2 x H2 y
    have ed : ds.drop i = d :: ds.drop (i + 1) := by
      rw [List.drop_eq_getElem_cons hlt]
      congr 1
      rw [List.getElem?_eq_getElem hlt] at hd
      exact Option.some.inj hd
    rw [ed] at w'
    simp only [lcX, gBnd] at w'
    split at w'
    · rename_i ρ3 e3
      refine bind_ok s2 dt2 e3 fun σ3 s3 l3 b3 => ⟨wipe_but b3 hsl, ?_⟩
      have bD := bindT_but e3
      have home : ∀ {av2 : List V} {Hd4 H4 : Hp}, Sat K T (upd Fr Dl (.lst av2)) Hd1 ρ3 σ3 Hd4 H4 → Sat K T (upd Fr Dl (.lst av2)) Hd1 (wipeD ρ vs) (L2.wipe σ vs) Hd4 H4 := fun s4 => s4.narrow (by rw [wipe_length, wipeD_length, s.len]) fun j z ez => by
        have hj := (wipeD_some ez).2
        have nj : j ∉ tt.slots := fun y => hj (hsl j y)
        exact ⟨by rw [bD.2 j nj]; exact ez, (b3.2 j nj).symm⟩
      unfold tYes
      dsimp only
      rw [if_pos rfl]
      refine ⟨xc, _, Hd1, ρ3, Hd2, _, s3, w', fun C Hx Hy sx cx => hx C _ Hy (s1.back hD (fun kvs z => by cases z) hv (home sx)) cx, fun v5 y5 Hd5 H5 s5 b5 ok5 w5 => ?_⟩
      cases y5 with
      | d y =>
        obtain ⟨h1, h2⟩ := w5
        refine ⟨av, (s5.frame Dl _ upd_same).2.1, by rw [da.length]; exact h1, Hd5, av ++ [v5], acc ++ [y], (home s5).rehold (fun ps z => by cases z) (fun c y z => by unfold CodeO at z; cases z), ?_, h2⟩
        exact (da.mono (b2.trans b5)).append (.cons ok5 .nil)
      | o y => exact w5.elim
      | s y => exact w5.elim
      | n _ _ => exact w5.elim
      | q _ _ _ => exact w5.elim
      | r _ _ _ => exact w5.elim
    · exact w'.elim
  · have e1 : ds.length = i := by omega
    refine .inl ⟨j2 e1, ?_⟩
    rw [← e1, List.drop_length] at w'
    have g2 := (s'.frame Dl _ upd_same).2.2
    exact k (.ref Dl) (.d (.list acc)) (upd Hd' Dl (.lst av)) H' (s1.back hD (fun kvs z => by cases z) hv s') (b1.trans (s'.base.trans (Sub.new g2))) (Dt.lst upd_same (da.mono (Sub.new g2))) w'
theorem sd_setLcX {y : Str} {py spos : Pos} (i : Nat) (own : List (Str × Nat)) (hN : X.N.Nodup) (tk : L2N.Takes X (fun cls d _ G => E cls d G)) (hsw : swapsWith (.ListComp elt [⟨tg, iter, [], 0⟩] scope pos) (some (.Name y py)) spos.line X.env = pure true) (hi : ID X T E tg iter ti) (ok : BlkOk X.N X.env.scope scope own)
    (hg : ∀ (s : Shared) (H : Hp) (C : Addr) (cl : List (Str × Addr)) (fp : List Addr) (xe : Value → Shared → Prop), PG (L2.Cx.tr (X.blk s H scope (compEnvC scope cl C X.env) fp) [] xe) tg (gOf X.K tt))
    (he : ∀ (s : Shared) (H : Hp) (C : Addr) (cl : List (Str × Addr)) (fp : List Addr) (xe : Value → Shared → Prop), Passes (L2N.CX X.prog X.w) (L2.Cx.tr (X.blk s H scope (compEnvC scope cl C X.env) fp) [] xe) E → ED (L2.Cx.tr (X.blk s H scope (compEnvC scope cl C X.env) fp) [] xe) T E elt te)
    (hst : X.stack = X.env :: X.outer := by rfl) (hfm : X.env.frame = some X.env.locals := by rfl) (hc : X.calm = true := by rfl) (hy : X.N[i]? = some y := by rfl) (hyl : X.env.scope.names.lookup y = some .local := by rfl) (hsl : ∀ i ∈ tt.slots, i ∈ own.map (·.2) := by decide) (hs : ∀ x, foldedSetIterable iter X.env x = pure x := by intro _; rfl) :
    SD X T E (.Assign [.Name y py] (.ListComp elt [⟨tg, iter, [], 0⟩] scope pos) spos) (dSet i (dLcX ti tt te (own.map (·.2)))) := by
  refine ps_imp (ps_setLcX (te := LE X.K T E te) hc hN hy hyl tk hst hfm hsw hi ok hg he hs) fun De σ H ⟨e, Fr, H0, ρ, Hd, s, ok, w⟩ => le_lcX hsl ⟨e.xc, Fr, H0, ρ, Hd, _, s, w, ok.xok, fun v x Hd1 H1 s1 b1 ok1 w1 => ?_⟩
  cases x with
  | d y => exact ok.nx _ _ Hd1 H1 (s1.set ok1) (by rw [List.length_set]) w1
  | o y => exact (show False from w1).elim
  | s y => exact (show False from w1).elim
  | n _ _ => exact (show False from w1).elim
  | q _ _ _ => exact (show False from w1).elim
  | r _ _ _ => exact (show False from w1).elim
end
end DL

/-! Data: texts. -/
namespace DL
open PySem PySem.Spec PyProof.Rows L2 LamX
section
variable {X : Cx} {T : Wd} {E : XK} {a b tg e : Expr} {pos p : Pos} {Ta Tb Te : DE}
/-- all texts of a list -/
def strs? : List D → Option (List Str)
  | [] => some []
  | .str z :: r => match strs? r with
    | some zs => some (z :: zs)
    | none => none
  | _ :: _ => none
theorem strs?_eq : ∀ {ds : List D} {zs : List Str}, strs? ds = some zs → ds = zs.map .str
  | [], _, h => by cases h; rfl
  | .str z :: r, zs, h => by
    have h : (match strs? r with | some zs => some (z :: zs) | none => none) = some zs := h
    cases q : strs? r with
    | none => rw [q] at h; cases h
    | some r' => rw [q] at h; cases h; rw [List.map_cons, strs?_eq q]
  | .none :: r, _, h => by cases h
  | .bool _ :: r, _, h => by cases h
  | .int _ :: r, _, h => by cases h
  | .list _ :: r, _, h => by cases h
  | .tuple _ :: r, _, h => by cases h
  | .dict _ :: r, _, h => by cases h
theorem strs?_map : ∀ zs : List Str, strs? (zs.map .str) = some zs
  | [] => rfl
  | z :: zs => by
    show (match strs? (zs.map .str) with | some zs => some (z :: zs) | none => none) = _
    rw [strs?_map zs]
theorem dtA_strs {K : PySem.W.Frag} {H : Hp} : ∀ zs : List Str, DtA K H (zs.map V.str) (zs.map .str)
  | [] => .nil
  | z :: zs => .cons (Dt.str z) (dtA_strs zs)
theorem dtA_strs_eq {K : PySem.W.Frag} {H : Hp} : ∀ {zs : List Str} {vs : List V}, DtA K H vs (zs.map .str) → vs = zs.map V.str
  | [], _, h => by cases h; rfl
  | z :: zs, _, h => by
    cases h with
    | cons h1 h2 =>
      cases h1
      rw [dtA_strs_eq h2]
      rfl
/-! ### split, partition, join -/
def gSplit (x y : Option D) (Q : Vl → Prop) : Prop := match x, y with
  | some (.str i), some (.str j) => (j.length == 0) = false ∧ i.length + 2 ≤ sizeLine ∧ Q (.d (.list ((Txt.split i j).map .str)))
  | _, _ => False
def dSplit (Ta Tb : DE) : DE := fun xc ρ Q => Ta xc ρ fun x => isStr x fun _ => Tb xc ρ fun y => gSplit x.dat y.dat Q
where isStr (x : Vl) (k : Unit → Prop) : Prop := match x.dat with
  | some (.str _) => k ()
  | _ => False
theorem isStr_inv {x : Vl} {k : Unit → Prop} (h : dSplit.isStr x k) : (∃ z, x.dat = some (.str z)) ∧ k () := by
  unfold dSplit.isStr at h
  split at h
  · rename_i z e
    exact ⟨⟨z, e⟩, h⟩
  · exact h.elim
theorem de_split {apos cpos : Pos} (ha : ED X T E a Ta) (hb : ED X T E b Tb) (hs : starEach [b] X.env = [(false, eval b X.env)] := by rfl) (hbase : attributeBase a "split" X.env (eval a X.env) = eval a X.env := by rfl) (hline : (apos.endLine == cpos.line) = true := by rfl) :
    ED X T E (.Call (.Attribute a "split" apos) [b] [] cpos) (dSplit Ta Tb) := by
  refine pe_imp (pe_split ha hb hs hbase hline) fun σ H Q ⟨xc, Fr, H0, ρ, Hd, q, s, w, hx, k⟩ => ⟨xc, Fr, H0, ρ, Hd, _, s, w, hx, fun v x Hd1 H1 s1 b1 ok1 w1 => ?_⟩
  obtain ⟨⟨z, ez⟩, w1⟩ := isStr_inv w1
  refine ⟨⟨z, ok1.str s1 ez⟩, xc, Fr, H0, ρ, Hd1, _, s1, w1, hx, fun v2 y Hd2 H2 s2 b2 ok2 w2 => ?_⟩
  unfold gSplit at w2
  split at w2
  · rename_i i j ei ej
    refine ⟨i, j, (ok1.mono b2).str s2 ei, by rw [ok2.str s2 ej], w2.1, w2.2.1, fun p hp => ?_⟩
    exact k _ (.d (.list _)) _ _ (s2.lay (o := .lst _) hp) ((b1.trans b2).trans (Sub.new (s2.keep.free hp))) (Dt.lst upd_same (dtA_strs _)) w2.2.2
  · exact w2.elim
def gPart (x y : Option D) (Q : Vl → Prop) : Prop := match x, y with
  | some (.str i), some (.str j) => (j.length == 0) = false ∧ i.length ≤ sizeLine ∧ Q (.d (.tuple [.str (Txt.partition i j).1, .str (Txt.partition i j).2.1, .str (Txt.partition i j).2.2]))
  | _, _ => False
def dPart (Ta Tb : DE) : DE := fun xc ρ Q => Ta xc ρ fun x => dSplit.isStr x fun _ => Tb xc ρ fun y => gPart x.dat y.dat Q
theorem de_part {apos cpos : Pos} (ha : ED X T E a Ta) (hb : ED X T E b Tb) (hs : starEach [b] X.env = [(false, eval b X.env)] := by rfl) (hbase : attributeBase a "partition" X.env (eval a X.env) = eval a X.env := by rfl) (hline : (apos.endLine == cpos.line) = true := by rfl) :
    ED X T E (.Call (.Attribute a "partition" apos) [b] [] cpos) (dPart Ta Tb) := by
  refine pe_imp (pe_partition ha hb hs hbase hline) fun σ H Q ⟨xc, Fr, H0, ρ, Hd, q, s, w, hx, k⟩ => ⟨xc, Fr, H0, ρ, Hd, _, s, w, hx, fun v x Hd1 H1 s1 b1 ok1 w1 => ?_⟩
  obtain ⟨⟨z, ez⟩, w1⟩ := isStr_inv w1
  refine ⟨⟨z, ok1.str s1 ez⟩, xc, Fr, H0, ρ, Hd1, _, s1, w1, hx, fun v2 y Hd2 H2 s2 b2 ok2 w2 => ?_⟩
  unfold gPart at w2
  split at w2
  · rename_i i j ei ej
    refine ⟨i, j, (ok1.mono b2).str s2 ei, by rw [ok2.str s2 ej], w2.1, w2.2.1, fun p hp => ?_⟩
    exact k _ (.d (.tuple _)) _ _ (s2.lay (o := .tup _) hp) ((b1.trans b2).trans (Sub.new (s2.keep.free hp))) (Dt.tup upd_same (dtA_strs [_, _, _])) w2.2.2
  · exact w2.elim
def gJoin (x y : Option D) (Q : Vl → Prop) : Prop := match x, y with
  | some (.str i), some (.list ds) => match strs? ds with
    | some zs => (zs.map (·.length)).sum + zs.length * i.length ≤ 16777216 ∧ Q (.d (.str (Txt.join i zs)))
    | none => False
  | _, _ => False
def dJoin (Ta Tb : DE) : DE := fun xc ρ Q => Ta xc ρ fun x => dSplit.isStr x fun _ => Tb xc ρ fun y => gJoin x.dat y.dat Q
theorem de_join {apos cpos : Pos} (ha : ED X T E a Ta) (hb : ED X T E b Tb) (hs : starEach [b] X.env = [(false, eval b X.env)] := by rfl) (hbase : attributeBase a "join" X.env (eval a X.env) = eval a X.env := by rfl) (hline : (apos.endLine == cpos.line) = true := by rfl) :
    ED X T E (.Call (.Attribute a "join" apos) [b] [] cpos) (dJoin Ta Tb) := by
  refine pe_imp (pe_join ha hb hs hbase hline) fun σ H Q ⟨xc, Fr, H0, ρ, Hd, q, s, w, hx, k⟩ => ⟨xc, Fr, H0, ρ, Hd, _, s, w, hx, fun v x Hd1 H1 s1 b1 ok1 w1 => ?_⟩
  obtain ⟨⟨z, ez⟩, w1⟩ := isStr_inv w1
  refine ⟨⟨z, ok1.str s1 ez⟩, xc, Fr, H0, ρ, Hd1, _, s1, w1, hx, fun v2 y Hd2 H2 s2 b2 ok2 w2 => ?_⟩
  unfold gJoin at w2
  split at w2
  · rename_i i ds ei ej
    split at w2
    · rename_i zs ez
      obtain ⟨p1, xs, rfl, h1, a1⟩ := ok2.list s2 ej
      rw [strs?_eq ez] at a1
      have := dtA_strs_eq a1
      subst this
      exact ⟨i, p1, zs, (ok1.mono b2).str s2 ei, rfl, .inl (SqL.of h1), w2.1, k _ (.d (.str _)) _ _ s2 (b1.trans b2) (Dt.str _) w2.2⟩
    · exact w2.elim
  · exact w2.elim
/-! ### the signs of a text -/
def gSeqS (v : Vl) (q : List D → Prop) : Prop := match v.dat with
  | some (.str z) => q (z.cps.toList.map fun c => .str ⟨#[c]⟩)
  | _ => False
def dWalkS (Te : DE) : DI := fun xc ρ q => Te xc ρ fun v => gSeqS v q
theorem id_str (he : ED X T E e Te) : ID X T E tg e (dWalkS Te) := by
  refine pi_imp (pi_str he) fun σ H R ⟨xc, Fr, H0, ρ, Hd, q, s, w, hx, k⟩ => ⟨xc, Fr, H0, ρ, Hd, _, s, w, hx, fun v x Hd1 H1 s1 b1 ok1 w1 => ?_⟩
  unfold gSeqS at w1
  split at w1
  · rename_i z ez
    refine ⟨z, ok1.str s1 ez, k _ (z.cps.toList.map fun c => .str ⟨#[c]⟩) Hd1 H1 s1 b1 (fun Fr H0 ρ σ Hd2 H2 i s2 b2 => ⟨fun d hd => ?_, fun hl => ?_⟩) w1⟩
    · rw [List.getElem?_map] at hd
      cases qc : z.cps.toList[i]? with
      | none => rw [qc] at hd; cases hd
      | some c =>
        rw [qc] at hd
        cases hd
        have hi : z.cps[i]? = some c := by rw [← Array.getElem?_toList]; exact qc
        refine ⟨(Array.getElem?_eq_some_iff.mp hi).1, fun x H' ⟨y1, c2, y2, y3⟩ => ⟨Hd2, y1 ▸ s2, Sub.refl _, ?_⟩⟩
        rw [hi] at y2
        cases y2
        rw [y3]
        exact Dt.str _
    · rw [List.length_map, Array.length_toList] at hl
      exact Nat.le_of_eq hl
  · exact w1.elim
def gInS : G2 := fun x y Q => match x.dat, y.dat with
  | some (.str i), some (.str j) => match i.cps.toList with
    | [c] => Q (.d (.bool (decide (c ∈ j.cps.toList))))
    | _ => False
  | _, _ => False
theorem od_inS : OpD X.K T (fun x y H Q => ∃ (c : Nat) (z : Str), x = .str ⟨#[c]⟩ ∧ y = .str z ∧ Q (.bl (decide (c ∈ z.cps.toList))) H) gInS := fun Fr H0 ρ σ Hd H vx vy x y q Q s hx hy w k => by
  unfold gInS at w
  split at w
  · rename_i i j ei ej
    split at w
    · rename_i c ec
      refine ⟨c, j, ?_, hy.str s ej, k _ (.d (.bool _)) Hd H s (Sub.refl _) (Dt.bl _) w⟩
      rw [hx.str s ei]
      obtain ⟨⟨l⟩⟩ := i
      have ec : l = [c] := ec
      rw [ec]
    · exact w.elim
  · exact w.elim
theorem c_inS : CmpD X T .In gInS := ⟨_, op_in_sign, od_inS⟩
end
/-! ### rules -/
section
variable {xc : DX} {ρ : DSt} {Q : Vl → Prop}
theorem s_dSplit (Ta Tb : DE) : dSplit Ta Tb xc ρ Q = Ta xc ρ fun x => dSplit.isStr x fun _ => Tb xc ρ fun y => gSplit x.dat y.dat Q := rfl
end
end DL

/-! sorted(rows, key=lambda row: abs(row[place])). -/
namespace DL
open PySem PySem.Spec PyProof.Rows L2 LamX
section
variable {X : Cx} {pins : List (Addr × Obj)} {σ : L2.St} {H : Hp} {s : Shared}
/-- what the key's scope is -/
structure KeyS (sc scope : Scope) (y : Str) : Prop where
  kind : scope.kind = .function
  co : scope.isCoroutine = false
  gen : scope.isGenerator = false
  nocell : ∀ z ∈ scope.names, z.2 ≠ .cell
  row : scope.names.lookup ("row" : Str) = some .local
  absn : scope.names.lookup ("abs" : Str) = some .globalImplicit
  free : scope.names.lookup y = some .free
  sc1 : sc.names.lookup y = some .cell
abbrev keyB (y : Str) (q1 q2 q3 q4 q5 : Pos) : Expr := .Call (.Name "abs" q1) [.Subscript (.Name "row" q2) (.Name y q3) q4] [] q5
theorem key_turn {A : Around} {f c' b c : Addr} {params : Arguments} {scope : Scope} {cl : List (Str × Addr)} {pm ctv : Value} {qn y : Str} {q1 q2 q3 q4 q5 : Pos} {p n : Int} {t2 : Tok} {items : Array Value} (I : Inv X pins σ H s) (S : KeyS X.env.scope scope y) (hy : (y == ("__debug__" : Str)) = false) (hy2 : (y == ("__classdict__" : Str)) = false)
    (hf : s.heap.get? f = some (PySem.W.kla_obj "<lambda>" qn params (keyB y q1 q2 q3 q4 q5) scope cl pm c' ctv)) (hco : H c' = some (CodeO c' qn)) (hd : A.depth < recursionLimit) (hm : X.mg "abs" = none)
    (hbind : bindArgs (PySem.W.kla_fn "<lambda>" qn params (keyB y q1 q2 q3 q4 q5) scope cl pm (.ref c') ctv) ⟨[.ref b], []⟩ = pure [(Str.ofString "row", .ref b)])
    (hc : cl.lookup y = some c) (hcell : ∃ t, s.heap.IsCell c (some (.int p t))) (hl : s.heap.IsList b items) (h0 : 0 ≤ p) (h63 : p < 2 ^ 63) (hx : items[p.toNat]? = some (.int n t2)) :
    wpAny (model X.prog X.w) A (call (.ref f) [.ref b]) (PySem.W.KeyPure (.int (if n < 0 then -n else n)) s) (fun _ _ => False) s := by
  obtain ⟨⟨oc, vs, t, hoc, hdc, hvc⟩, _, _⟩ := I.hok c' _ hco
  obtain ⟨tc, hcell⟩ := hcell
  refine wpAny_call ?_
  refine PySem.W.kla_callFunE hd hf rfl S.co S.gen rfl ⟨c', oc, vs, t, rfl, hoc, hdc, hvc⟩ ?_
  rw [hbind]
  refine wpAny_pure (wpAny_newFunctionEnv S.nocell (fun z hz => by
    rw [List.mem_singleton] at hz
    subst hz
    exact S.row) (fun h2 hns hsb => ⟨I.nolimit.fresh _ hsb, ?_⟩) S.kind)
  have kp : ∀ b o, s.heap.get? b = some o → h2.get? b = some o := fun b o e => hsb.extBut b o (Nat.ne_of_lt (Heap.lt_size e)) (Heap.get?_push_of_some _ e)
  show codeAny _ _ (.expr (keyB y q1 q2 q3 q4 q5) (PySem.W.envX qn scope s.heap.objs.size f (.ref c') cl)) _ _
  refine PySem.W.kla_codeExpr ?_
  obtain ⟨mb, b1, b2⟩ := I.mod.blt
  have bk : ∀ a o, X.base.get? a = some o → h2.get? a = some o := fun a o e => kp a o (I.bk a o e)
  refine Call_ (Calls.Name_function_global S.kind S.absn (Calls.loadGlobal_builtin (I.mod.glob.keeps bk) hm (b1.keeps bk) ((b2 "abs" (by decide)).trans boot_abs) ?_))
  refine PyProof.Rows.callWith_builtin1 (PyProof.Rows.args_cons ?_ rfl) rfl rfl
  refine Subscript_ (wpAny_Name (wpAny_loadName_local S.kind S.row hns (by rfl) ?_) rfl)
  refine wpAny_Name (wpAny_loadName_free (v := .int p tc) S.kind S.free hc ?_ ?_ hy2) hy
  · obtain ⟨o, e1, e2⟩ := hcell
    exact ⟨o, kp c o e1, e2⟩
  · obtain ⟨o, e1, e2⟩ := hl
    refine item_listR (x := .int n t2) ⟨o, kp b o e1, e2⟩ h0 h63 hx (PyProof.Rows.args_nil ?_) ?_
    · refine call_abs_int fun u tk => ?_
      exact ⟨_, _, rfl, kp, .int _ _⟩
    · rfl
end
/-! ### as data -/
def ixAbs (p : Nat) (r : List Int) : Int := if r.getD p 0 < 0 then -(r.getD p 0) else r.getD p 0
def rows? : List D → Option (List (List Int))
  | [] => some []
  | .list ds :: r => match ints? ds, rows? r with
    | some ns, some rs => some (ns :: rs)
    | _, _ => none
  | _ :: _ => none
theorem ints?_eq' : ∀ {ds : List D} {ns : List Int}, ints? ds = some ns → ds = ns.map .int
  | [], _, e => by cases e; rfl
  | .int i :: r, ns, e => by
    have e : (match ints? r with | some xs => some (i :: xs) | none => none) = some ns := e
    cases q : ints? r with
    | none => rw [q] at e; cases e
    | some r' => rw [q] at e; cases e; rw [List.map_cons, ints?_eq' q]
  | .none :: r, ns, e => by cases e
  | .bool _ :: r, ns, e => by cases e
  | .str _ :: r, ns, e => by cases e
  | .list _ :: r, ns, e => by cases e
  | .tuple _ :: r, ns, e => by cases e
  | .dict _ :: r, ns, e => by cases e
theorem rows?_eq : ∀ {ds : List D} {rs : List (List Int)}, rows? ds = some rs → ds = rs.map tD
  | [], _, e => by cases e; rfl
  | .list xs :: r, rs, e => by
    have e : (match ints? xs, rows? r with | some ns, some rs => some (ns :: rs) | _, _ => none) = some rs := e
    cases q : ints? xs with
    | none => rw [q] at e; cases e
    | some ns =>
      rw [q] at e
      cases q2 : rows? r with
      | none => rw [q2] at e; cases e
      | some rs2 =>
        rw [q2] at e
        cases e
        rw [List.map_cons, rows?_eq q2, ints?_eq' q]
        rfl
  | .none :: r, ns, e => by cases e
  | .bool _ :: r, ns, e => by cases e
  | .str _ :: r, ns, e => by cases e
  | .int _ :: r, ns, e => by cases e
  | .tuple _ :: r, ns, e => by cases e
  | .dict _ :: r, ns, e => by cases e
theorem rows?_map : ∀ rs : List (List Int), rows? (rs.map tD) = some rs
  | [] => rfl
  | r :: rs => by
    show (match ints? (r.map .int), rows? (rs.map tD) with | some ns, some rs => some (ns :: rs) | _, _ => none) = _
    rw [ints?_map, rows?_map rs]
def srtA (p : Nat) (rs : List (List Int)) : List (List Int) := rs.mergeSort fun a b => decide (ixAbs p a ≤ ixAbs p b)
def gSortAbs (x : Option D) (pv : Option (Option Vl)) (Q : Vl → Prop) : Prop := match x, pv with
  | some (.list ds), some (some (.d (.int p))) => match rows? ds with
    | some rs => 0 ≤ p ∧ (∀ r ∈ rs, p.toNat < r.length) ∧ rs.length ≤ 1000 ∧ p < 1000 ∧ Q (.d (.list ((srtA p.toNat rs).map tD)))
    | none => False
  | _, _ => False
def dSortAbs (j : Nat) (Ta : DE) : DE := fun xc ρ Q => Ta xc ρ fun x => gSortAbs x.dat ρ[j]? Q
section
variable {X : Cx} {T : Wd} {E : XK}
theorem each_of {K : PySem.W.Frag} {Hd : Hp} : ∀ {xs : List V} {its : List Value} {rs : List (List Int)}, Vals xs its → DtA K Hd xs (rs.map tD) → PySem.W.EachIs (fun v (z : V × List Int) => RelV z.1 v ∧ Dt K Hd z.1 (tD z.2)) its (xs.zip rs)
  | [], _, rs, hv, hd => by
    cases hv
    cases rs with
    | nil => exact .nil
    | cons a b => cases hd
  | x :: xs, _, rs, hv, hd => by
    cases hv with
    | cons r1 r2 =>
      cases rs with
      | nil => cases hd
      | cons a b =>
        cases hd with
        | cons d1 d2 => exact .cons ⟨r1, d1⟩ (each_of r2 d2)
theorem each_back {K : PySem.W.Frag} {Hd : Hp} : ∀ {out : List Value} {zs : List (V × List Int)}, PySem.W.EachIs (fun v (z : V × List Int) => RelV z.1 v ∧ Dt K Hd z.1 (tD z.2)) out zs → Vals (zs.map (·.1)) out ∧ DtA K Hd (zs.map (·.1)) ((zs.map (·.2)).map tD)
  | [], _, .nil => ⟨.nil, .nil⟩
  | _ :: _, _, .cons ⟨h1, h2⟩ r => by
    obtain ⟨a, b⟩ := each_back r
    exact ⟨.cons h1 a, .cons h2 b⟩
theorem zip_snd {α β : Type} : ∀ {xs : List α} {ys : List β}, xs.length = ys.length → (xs.zip ys).map (·.2) = ys
  | [], [], _ => rfl
  | x :: xs, y :: ys, h => by
    rw [List.zip_cons_cons, List.map_cons, zip_snd (by simpa using h)]
theorem vals_at : ∀ {ns : List Int} {us : List Value} {i : Nat}, Vals (ns.map V.int) us → i < ns.length → ∃ t, us[i]? = some (.int (ns.getD i 0) t)
  | n :: ns, _, 0, .cons r1 r2, _ => by
    obtain ⟨t, rfl⟩ := r1
    exact ⟨t, rfl⟩
  | n :: ns, _, i + 1, .cons r1 r2, h => by
    obtain ⟨t, e⟩ := vals_at (ns := ns) (i := i) r2 (by simpa using h)
    exact ⟨t, by simpa using e⟩
theorem clo_look {cells : List (Str × Addr)} {scope : Scope} {y : Str} {c : Addr} (hl : scope.names.lookup y = some .free) (hc : cells.lookup y = some c) : (cloFrom cells scope.names []).lookup y = some c := by
  obtain ⟨c1, e1⟩ := mem_lookup (cloFrom_has (cells := cells) (acc := []) (PySem.mem_of_lookup hl))
  rw [e1]
  rcases cloFrom_mem (PySem.mem_of_lookup e1) with hm | ⟨h1, h2⟩
  · cases hm
  · rw [hc] at h2
    simpa using h2
theorem de_sortAbs {c P : Addr} {Ta : DE} {scope : Scope} {params : Arguments} {y x0 : Str} {pa p q1 q2 q3 q4 q5 lpos kp pos : Pos} {k : Nat} (j : Nat)
    (TB : TabB X.base X.mg c P) (hcode : X.env.code = .ref c) (hmT : (P, X.env.qual ++ "<lambda>") ∈ T.tb) (hu : ∀ p ∈ T.tb, p.1 = P → p.2 = X.env.qual ++ "<lambda>") (hr : Room (k + 2) X.A) (S : KeyS X.env.scope scope y)
    (hms : X.mg "sorted" = none) (hma : X.mg "abs" = none) (ha : ED X T E (.Name x0 pa) Ta) (hj : X.N[j]? = some y := by rfl) (hy : (y == ("__debug__" : Str)) = false := by decide) (hy2 : (y == ("__classdict__" : Str)) = false := by decide)
    (hg : Gl X "sorted" := by rfl) (hdef : defaultsOf params X.env = ([], []) := by rfl) (hfree : ∀ z ∈ scope.names, z.2 = .free → z.1 = y := by decide)
    (hbind : ∀ (b : Addr) (q : Str) (cl : List (Str × Addr)) (pm cv ctv : Value), bindArgs (PySem.W.kla_fn "<lambda>" q params (keyB y q1 q2 q3 q4 q5) scope cl pm cv ctv) ⟨[.ref b], []⟩ = pure [(Str.ofString "row", .ref b)] := by intros; rfl) :
    ED X T E (.Call (.Name "sorted" p) [.Name x0 pa] [⟨some "key", .Lambda params (keyB y q1 q2 q3 q4 q5) scope lpos, kp⟩] pos) (dSortAbs j Ta) := by
  refine ⟨fun pins s σ H Q I ⟨xc, Fr, H0, ρ, Hd, q, sat, w, hx, k0⟩ => ?_⟩
  refine wpAny_Call_Name_kw (ld_blt I hg hms boot_sorted ?_)
  refine PyProof.Rows.callWith_kw ?_
  show wpAny _ X.A (spliced ((false, eval (.Name x0 pa) X.env) :: backTo pos (starEach [] X.env))) _ _ _
  refine Calls.spliced_cons (thn (ha.run pins s σ H (fun v H1 => ∃ x Hd1, Sat X.K T Fr H0 ρ σ Hd1 H1 ∧ Sub Hd Hd1 ∧ VlOk X.K Hd1 ρ σ v x ∧ gSortAbs x.dat ρ[j]? q) I ⟨xc, Fr, H0, ρ, Hd, _, sat, w, hx, fun v x Hd1 H1 s1 b1 ok1 w1 => ⟨x, Hd1, s1, b1, ok1, w1⟩⟩) fun u s1 ⟨v, H1, I1, r1, x, Hd1, sat1, b1, ok1, w1⟩ => Calls.spliced_nil ?_)
  unfold gSortAbs at w1
  split at w1
  · rename_i ds pp ex ep
    split at w1
    · rename_i rs er
      obtain ⟨p0, pl, hlen, p1000, w1⟩ := w1
      obtain ⟨l, xs, rfl, h1, hA⟩ := ok1.list sat1 ex
      obtain rfl : u = Value.ref l := r1
      rw [rows?_eq er] at hA
      refine PyProof.Rows.kws_cons (lam_make2 I1 TB hcode hmT hu sat1.tabs hdef (fun z hz e => by
        rw [hfree z hz e]
        exact I1.ok.has y (.inl S.sc1)) fun f c' pm ctv H2 s2 I2 eN T2 hf hfn hfr hco => PyProof.Rows.kws_nil ?_)
      have sat2 := sat1.widenT eN T2
      have h2 : H2 l = some (.lst xs) := eN l _ h1 (fun ps z => by cases z)
      obtain ⟨its, rv, hl, hz⟩ := I2.list (SqL.of h2)
      have hlx : xs.length = rs.length := by rw [hA.length, List.length_map]
      have hzl : (xs.zip rs).length = rs.length := by rw [List.length_zip, hlx]; exact Nat.min_self _
      have e := each_of rv hA
      show wpAny _ _ (call (.builtin "sorted") [.ref l] [(Str.ofString "key", .ref f)]) _ _ _
      refine PySem.W.sorted_key_data (b := false) (fun z : V × List Int => .int (ixAbs pp.toNat z.2)) hl.isList e ?_ ?_ ?_ ?_ (PyProof.Rows.ksk_s1 _ _) (fun _ => PyProof.Rows.ksk_l1 _ _) (fun _ => PyProof.Rows.ksk_t1 _ _) ?_ ?_
      · intro d hd d' hd'
        obtain ⟨z, _, rfl⟩ := List.mem_map.mp hd
        obtain ⟨z', _, rfl⟩ := List.mem_map.mp hd'
        simp [PySem.W.alike]
      · refine .inr fun d hd => ?_
        obtain ⟨z, _, rfl⟩ := List.mem_map.mp hd
        exact ⟨by simp, by simp⟩
      · rw [hzl]
        exact few hlen
      · intro z hz
        have := hr.un
        show X.A.units + 2 + (PyData.int _).depth < cLine
        simp only [PyData.depth]
        omega
      · rintro v z ⟨zr, zd⟩ hzm h tk kph
        have Ih : Inv X pins σ H2 { s2 with heap := h, toks := tk } := I2.kept (t' := tk) kph
        obtain ⟨z1, z2⟩ := z
        have hz2 : z2 ∈ rs := by
          have := List.mem_map.mpr (⟨(z1, z2), hzm, rfl⟩ : ∃ z ∈ xs.zip rs, (fun z : V × List Int => z.2) z = z2)
          rw [zip_snd hlx] at this
          exact this
        have zd : Dt X.K Hd1 z1 (.list (z2.map .int)) := zd
        cases zd with
        | lst g1 g2 =>
          rename_i bA ys
          have ey : ys = z2.map V.int := ints_ok g2 (ints?_map z2)
          subst ey
          obtain rfl : v = Value.ref bA := zr
          obtain ⟨its2, rv2, hl2, hz2'⟩ := Ih.list (SqL.of (sat2.keep _ _ g1))
          obtain ⟨t2, e2⟩ := vals_at (i := pp.toNat) rv2 (pl z2 hz2)
          obtain ⟨mm, hNs, hL⟩ := Ih.loc
          obtain ⟨wv, ew, okw⟩ := sat2.slot j _ ep
          have ewv : wv = .int pp := VlOk.int (x := .d (.int pp)) sat2 rfl okw
          subst ewv
          obtain ⟨uv, ruv, lk⟩ := hL j y (.int pp) hj ew (.inr (.inl S.sc1))
          obtain ⟨tt, rfl⟩ := ruv
          rcases lk with ⟨kl, _⟩ | ⟨_, cc, hcc, hcell⟩
          · have : X.env.scope.names.lookup y = some .local := kl
            rw [S.sc1] at this
            cases this
          · refine key_turn Ih S hy hy2 (kph f _ hf) hco ?_ hma (hbind bA _ _ _ _ _) (clo_look S.free hcc) ⟨tt, hcell⟩ hl2.isList p0 (by omega) (by simpa using e2)
            have := hr.dp
            show X.A.depth < _
            omega
      · intro out cE h' tk kph fresh hD hol eo
        rw [PySem.W.dataLe_int (β := V × List Int) (fun z => ixAbs pp.toNat z.2)] at eo
        obtain ⟨vo, dO⟩ := each_back eo
        have em : ((xs.zip rs).mergeSort fun a b => decide (ixAbs pp.toNat a.2 ≤ ixAbs pp.toNat b.2)).map (·.2) = srtA pp.toNat rs := by
          unfold srtA
          rw [List.map_mergeSort (s := fun a b => decide (ixAbs pp.toNat a ≤ ixAbs pp.toNat b)) (fun _ _ _ _ => rfl), zip_snd hlx]
        rw [em] at dO
        have hnew : H2 (s2.heap.objs.size + 1) = none := I2.hok.fresh (Nat.le_succ _)
        refine ⟨.ref (s2.heap.objs.size + 1), upd H2 (s2.heap.objs.size + 1) (.lst (((xs.zip rs).mergeSort fun a b => decide (ixAbs pp.toNat a.2 ≤ ixAbs pp.toNat b.2)).map (·.1))), I2.laid (t' := tk) kph (Nat.le_succ _) ⟨?_, out, cE, vo, hD⟩, rfl, ?_⟩
        · rw [List.length_map, List.length_mergeSort, hzl]
          exact few hlen
        · exact k0 _ (.d (.list ((srtA pp.toNat rs).map tD))) _ _ (sat2.lay (o := .lst _) hnew) (b1.trans (Sub.new (sat2.keep.free hnew))) (Dt.lst upd_same (dO.mono (Sub.new (sat2.keep.free hnew)))) w1
    · exact w1.elim
  · exact w1.elim
end
end DL

/-! sorted(set(a list of ints)). -/
namespace DL
open PySem PySem.Spec PyProof.Rows L2 LamX
section
variable {P : Program} {w : World} {A : Around} {E : Value → Shared → Prop} {z : Shared}
abbrev eSet (w : World) : Obj := { cls := .type "set", dict := none, data := .set #[] 0 (.fresh 0 0 (!w.params.followText "set-order")) }
set_option maxHeartbeats 3200000 in
theorem set_of_list {l : Addr} {us : Array Value} (ns : List Int) {Q : Value → Shared → Prop} (hA : A.handled = none) (hL : z.heap.IsList l us) (hU : IntsAre us.toList ns) (hB : ns.length + 1 < scanBound)
    (k : ∀ (g : Heap) (tk c : Nat), SetR w g z.heap.objs.size (fun j => decide (j ∈ ns)) c → c ≤ ns.length → (∀ b o, z.heap.get? b = some o → g.get? b = some o) → Q (.ref z.heap.objs.size) { z with heap := g, toks := tk }) :
    wpAny (model P w) A (call (.type "set") [.ref l]) Q E z := by
  have eN : us.size = ns.length := by rw [← Array.length_toList]; exact IntsAre.length hU
  obtain ⟨mc, mt, m1⟩ := F.called_set.mro
  have m2 := F.called_set.made
  have m3 := F.called_set.sub
  refine wpAny_call (codeAny_of_tree ?_)
  show wpAny _ _ (callAny (.type "set") _) _ _ _
  refine wpAny_pure ⟨Code.quiet_builtin _ (by decide +kernel), codeAny_builtin F.entry_type_call ?_⟩
  rw [Around.under_plain (weight_type_call_type "set" [.ref l] []) rfl]
  have m4 := F.called_set.notType
  have m5 := F.called_set.canCreate
  have m6 := F.typeCall_set_1 (.ref l)
  repeat (any_goals (first | assumption | wp_step))
  refine codeAny_mono (code_set_led1 (.ref l) (E := E) (Q₁ := fun ob z1 => ob = .ref z.heap.objs.size ∧ z1 = { z with heap := z.heap.push (eSet w) }) ⟨rfl, rfl⟩) fun r z1 hr => ?_
  cases r with
  | error e => exact hr
  | ok fl =>
    cases fl with
    | ret ob =>
      obtain ⟨rfl, rfl⟩ := hr
      have gS : (z.heap.push (eSet w)).get? z.heap.objs.size = some (eSet w) := Heap.get?_push_size _ rfl
      have gT : Shared.TypeIs { z with heap := z.heap.push (eSet w) } (.ref z.heap.objs.size) "set" := ⟨_, gS, rfl⟩
      have m7 := F.called_set.init.lookup
      have m8 := F.called_set.init.bind (.ref z.heap.objs.size)
      repeat (any_goals (first | assumption | wp_step))
      refine codeAny_mono (codeAny_call_builtin (R := wants (fun r z2 => r = .none ∧ ∃ g tk c, z2 = { z with heap := g, toks := tk } ∧ SetR w g z.heap.objs.size (fun j => decide (j ∈ ns)) c ∧ c ≤ ns.length ∧ ∀ b o, z.heap.get? b = some o → g.get? b = some o) E) F.called_set.init.plain F.entry_set_init (check_set_init_1 gT ?_)) fun r2 z2 hr2 => ?_
      · obtain ⟨⟨oc, od, oda, osl⟩, ho, hc, nl, hdl⟩ := hL
        dsimp only at hc hdl
        subst hc hdl
        have ho' : (z.heap.push (eSet w)).get? l = some { cls := .type "list", dict := od, data := .seq us nl, slots := osl } := Heap.get?_push_of_some _ ho
        have n1 := F.sub_list_set
        have n2 := F.sub_list_frozenset
        have n3 : (Value.type "list" == Value.type "dict") = false := by decide
        have hL1 : (z.heap.push (eSet w)).IsList l us := ⟨_, ho', rfl, nl, rfl⟩
        unfold Builtin.«set.__init__» noKeywords Builtin.Frozenset.updateFrom
        generalize hPI : pyIter = PI
        wp_walk
        subst hPI
        refine wpAny_pyIter_list hL1 ?_
        refine wpAny_bind (wpAny_runValue ?_)
        have lS : l < z.heap.objs.size := Heap.lt_size ho
        have hA3 : A.in1.in1.in1.handled = none := by simp [hA]
        have nI : l ≠ (z.heap.push (eSet w)).objs.size := by rw [Heap.size_push]; exact Nat.ne_of_lt (Nat.lt_succ_of_lt lS)
        have nS : z.heap.objs.size ∉ [(z.heap.push (eSet w)).objs.size, l] := by
          rw [Heap.size_push]
          simp only [List.mem_cons, List.not_mem_nil, or_false, not_or]
          exact ⟨Nat.ne_of_lt (Nat.lt_succ_self _), Nat.ne_of_gt lS⟩
        have val : ∀ (i : Nat) (v : Value), us[i]? = some v → ∃ n t, ns[i]? = some n ∧ v = .int n t := fun i v hv => by
          have hi : i < ns.length := eN ▸ (Array.getElem?_eq_some_iff.mp hv).1
          obtain ⟨t, e⟩ := IntsAre.int_at hU i v (by rw [Array.getElem?_toList]; exact hv)
          exact ⟨ns[i], t, List.getElem?_eq_getElem hi, by rw [e, List.getD_eq_getElem?_getD, List.getElem?_eq_getElem hi]; rfl⟩
        refine set_update_ints ((Walks.list hA3 _ l nI us).toS) z.heap.objs.size nS ns eN hB val (us.size - 0) 0 _ (by omega) (Nat.zero_le _) ⟨⟨_, Heap.get?_push_size _ rfl, rfl, rfl⟩, hL1.push _⟩ ⟨0, Nat.le_refl 0, setR_new_at (Heap.get?_push_of_some _ gS)⟩ fun z3 c3 mv hc3 hS3 => ?_
        obtain ⟨g, g2, g3, g4, g5⟩ := z3
        obtain rfl : g2 = z.gens := mv.gens
        obtain rfl : g3 = z.drawn := mv.drawn
        obtain rfl : g5 = z.os := mv.os
        show wpAny _ _ _ _ _ _
        refine wpAny_pure ?_
        show wpAny _ _ (ret Value.none) _ _ _
        refine wpAny_pure ⟨rfl, g, g4, c3, rfl, hS3, by omega, fun b o e => ?_⟩
        have lb := Heap.lt_size e
        exact mv.heap b o (by
          rw [Heap.size_push]
          simp only [List.mem_cons, List.not_mem_nil, or_false, not_or]
          exact ⟨Nat.ne_of_lt lb, Nat.ne_of_lt (Nat.lt_succ_of_lt lb)⟩) (Heap.get?_push_of_some _ (Heap.get?_push_of_some _ e))
      · cases r2 with
        | error e => exact hr2
        | ok f2 =>
          cases f2 with
          | ret r =>
            obtain ⟨rfl, g, tk, c, rfl, a1, a2, a3⟩ := hr2
            repeat (any_goals (first | assumption | wp_step))
            exact k _ _ _ a1 a2 a3
          | _ => exact hr2.elim
    | _ => exact hr.elim
end
end DL

/-! sorted(set(a list of ints)), as data. -/
namespace DL
open PySem PySem.Spec PyProof.Rows L2 LamX
/-! ### as data -/
section
variable {X : Cx} {T : Wd} {E : XK} {a : Expr} {ta : TE} {Ta : DE} {p p2 q pos : Pos}
def tSortSet (K : PySem.W.Frag) (ta : TE) : TE := fun σ H Q => ta σ H fun x H1 => ∃ (l : Addr) (ns : List Int), x = .ref l ∧ SqL K H1 l (ns.map V.int) ∧ ns.length < 60 ∧
  ∀ (ms : List Int) (P : Addr), ms.Pairwise (· < ·) → (∀ k, k ∈ ms ↔ k ∈ ns) → H1 P = none → Q (.ref P) (upd H1 P (.lst (ms.map V.int)))
theorem pe_sortSet (hg : Gl X "sorted") (hm : X.mg "sorted" = none) (hg2 : Gl X "set") (hm2 : X.mg "set" = none) (ha : PE X a ta) (hc : X.calm = true)
    (na : starEach [a] X.env = (false, eval a X.env) :: starEach [] X.env) : PE X (.Call (.Name "sorted" p) [.Call (.Name "set" p2) [a] [] q] [] pos) (tSortSet X.K ta) := by
  refine ⟨fun pins s σ H Q I h => ?_⟩
  refine Call_ (ld_blt I hg hm boot_sorted ?_)
  refine PyProof.Rows.callWith_builtin1 (PyProof.Rows.args_cons ?_ rfl) rfl rfl
  refine Call_ (ld_blt I hg2 hm2 boot_set ?_)
  refine PyProof.Rows.callWith_type1 (PyProof.Rows.args_cons (thn (ha.run pins s σ H _ I h) fun v s1 ⟨x, H1, I1, r1, q1⟩ => PyProof.Rows.args_nil ?_) na) na rfl
  obtain ⟨l, ns, rfl, hq, hl, q1⟩ := q1
  cases r1
  obtain ⟨its, r, pl, hz⟩ := I1.list hq
  refine set_of_list ns (I1.ok.hd hc) pl.isList (by simpa using RZ.intsAre_vals r) (by unfold scanBound; omega) fun g tk c hS hc2 kp => ?_
  refine PyProof.Rows.args_nil ?_
  have I2 : Inv X pins σ H1 { s1 with heap := g, toks := tk } := I1.kept kp
  refine sorted_set hS (I1.ok.hd hc) (by omega) fun s3 P out c3 ms k3 g3 o3 hP hD hI hms hmem hlen => ?_
  have nP : H1 P = none := I2.hok.fresh hP
  obtain ⟨h3, gg, dd, tt, oo⟩ := s3
  dsimp only at k3 g3 o3 hD
  subst g3 o3
  have J := I2.laid (t' := tt) k3 hP (o := .lst (ms.map V.int)) ⟨by rw [List.length_map, hlen]; exact few (m := 60) (by omega), out.toList, c3, vals_of_ints hI, by rw [Array.toArray_toList]; exact hD⟩
  exact ⟨.ref P, _, ⟨J.ok, J.os, J.bare, J.base, J.loc, J.cell, J.free, J.freeC, J.pin, J.hok, J.len⟩, rfl, q1 ms P hms (fun k => by rw [hmem k]; simp) nP⟩
def gSortSet (x : Option D) (Q : Vl → Prop) : Prop := match x with
  | some (.list ds) => match ints? ds with
    | some ns => ns.length < 60 ∧ ∀ ms : List Int, ms.Pairwise (· < ·) → (∀ k, k ∈ ms ↔ k ∈ ns) → Q (.d (.list (ms.map .int)))
    | none => False
  | _ => False
def dSortSet (Ta : DE) : DE := fun xc ρ Q => Ta xc ρ fun x => gSortSet x.dat Q
theorem de_sortset (hm : X.mg "sorted" = none) (hm2 : X.mg "set" = none) (ha : ED X T E a Ta) (hg : Gl X "sorted" := by rfl) (hg2 : Gl X "set" := by rfl) (hc : X.calm = true := by rfl)
    (na : starEach [a] X.env = (false, eval a X.env) :: starEach [] X.env := by rfl) : ED X T E (.Call (.Name "sorted" p) [.Call (.Name "set" p2) [a] [] q] [] pos) (dSortSet Ta) := by
  refine pe_imp (pe_sortSet hg hm hg2 hm2 ha hc na) fun σ H Q ⟨xc, Fr, H0, ρ, Hd, q, s, w, hx, k⟩ => ⟨xc, Fr, H0, ρ, Hd, _, s, w, hx, fun v x Hd1 H1 s1 b1 ok1 w1 => ?_⟩
  unfold gSortSet at w1
  split at w1
  · rename_i ds ed
    split at w1
    · rename_i ns en
      obtain ⟨l, xs, rfl, h1, h2⟩ := ok1.list s1 ed
      have e : xs = ns.map V.int := ints_ok h2 en
      subst e
      refine ⟨l, ns, rfl, SqL.of h1, w1.1, fun ms P m1 m2 hP => ?_⟩
      exact k _ (.d (.list _)) _ _ (s1.lay (o := .lst _) hP) (b1.trans (Sub.new (s1.keep.free hP))) (Dt.lst upd_same (dtA_ints _)) (w1.2 ms m1 m2)
    · exact w1.elim
  · exact w1.elim
end
end DL

/-! A list of one's own by `[..] * n`; its items stored. -/
namespace DL
open PySem PySem.Spec PyProof.Rows L2 LamX
section
variable {X : Cx} {T : Wd} {E : XK} {a b e : Expr} {es : List Expr} {pos p p2 : Pos} {Ta Tb Te : DE} {Al : DA}
def gOwnR (i : Nat) (x y : Vl) (ρ : DSt) (Q : DSt → Prop) : Prop := match x, y with
  | .d (.list ds), .d (.int j) => 0 ≤ j ∧ j ≤ 1000 ∧ ds.length * j.toNat ≤ 1000 ∧ Q (ρ.set i (some (.o (.list (List.replicate j.toNat ds).flatten))))
  | _, _ => False
def dOwnR (i : Nat) (Ta Tb : DE) : DS := fun e ρ => Ta e.xc ρ fun x => Tb e.xc ρ fun y => gOwnR i x y ρ e.nx
theorem sd_ownR {x : Str} (i : Nat) (ha : ED X T E a Ta) (hb : ED X T E b Tb) (hN : X.N.Nodup) (hi : X.N[i]? = some x := by rfl) (hx : Loc X.env.scope x := by first | exact Or.inl rfl | exact Or.inr rfl) (hs : swapsWith (.BinOp a .Mult b p2) (some (.Name x p)) pos.line X.env = pure false := by rfl) (hf : X.fn x = true ∨ X.env.scope.names.lookup x = some .local := by first | exact .inl rfl | exact .inr rfl) :
    SD X T E (.Assign [.Name x p] (.BinOp a .Mult b p2) pos) (dOwnR i Ta Tb) := by
  refine ps_imp (ps_set hN hi hx (pe_op op_rep ha hb) hs hf) fun De σ H ⟨e, Fr, H0, ρ, Hd, s, ok, w⟩ => ⟨e.xc, Fr, H0, ρ, Hd, _, s, w, ok.xok, fun v x Hd1 H1 s1 b1 ok1 w1 => ⟨e.xc, Fr, H0, ρ, Hd1, _, s1, w1, ok.xok, fun v2 y Hd2 H2 s2 b2 ok2 w2 => ?_⟩⟩
  unfold gOwnR at w2
  split at w2
  · rename_i ds j
    obtain ⟨p1, xs, rfl, h1, a1⟩ := (ok1.mono b2).list (x := .d (.list ds)) s2 rfl
    refine ⟨p1, j, xs, rfl, ok2.int s2 rfl, h1, by omega, by omega, by rw [a1.length]; exact few w2.2.2.1, fun p hp => ?_⟩
    exact ok.nx _ _ Hd2 _ (s2.setOwn (o := .lst _) (d := .list _) hp ⟨_, upd_same, a1.rep j.toNat⟩) (by rw [List.length_set]) w2.2.2.2
  · exact w2.elim
def gPutL (i : Nat) (ds : List D) (y : Vl) (d : D) (ρ : DSt) (Q : DSt → Prop) : Prop := match y with
  | .d (.int j) => 0 ≤ j ∧ j < ds.length ∧ Q (ρ.set i (some (.o (.list (ds.set j.toNat d)))))
  | _ => False
def dPutL (i : Nat) (Tk Tv : DE) : DS := fun e ρ => ownL ρ[i]? fun ds => Tv e.xc ρ fun v => vD v fun d => Tk e.xc ρ fun y => gPutL i ds y d ρ e.nx
theorem sd_putL {x : Str} {px pos' : Pos} (i : Nat) (hx : PE X (.Name x px) (tVar i)) (hk : ED X T E b Tb) (hv : ED X T E a Ta) (hsw : swapsWithSole [.Subscript (.Name x px) b pos'] a pos.line X.env = pure false := by rfl) (hw : swappedStores [.Subscript (.Name x px) b pos'] a X.env = pure none := by rfl)
    (ha : ∀ v, assign (.Subscript (.Name x px) b pos') X.env v = (do
      let ov ← holding [v] (eval (.Name x px) X.env)
      let iv ← holding [v, ov] (eval b X.env)
      standAt pos'
      holding [v, ov, iv] (setItem ov iv v)
      release [v, ov, iv] []) := by intro _; rfl) :
    SD X T E (.Assign [.Subscript (.Name x px) b pos'] a pos) (dPutL i Tb Ta) := by
  refine ps_imp (ps_asg hv (pg_sub hx hk set_list ha) hsw hw) fun De σ H ⟨e, Fr, H0, ρ, Hd, s, ok, w⟩ => ?_
  unfold dPutL ownL at w
  split at w
  · rename_i ds hq
    refine ⟨e.xc, Fr, H0, ρ, Hd, _, s, w, ok.xok, fun v x Hd1 H1 s1 b1 ok1 w1 => ?_⟩
    cases x with
    | d d =>
      have ok1 : Dt X.K Hd1 v d := ok1
      obtain ⟨u, h1, p, rfl, _, _, _, _, _⟩ := s1.slot i _ hq
      refine ⟨_, h1, e.xc, Fr, H0, ρ, Hd1, _, s1, w1, ok.xok, fun v2 y Hd2 H2 s2 b2 ok2 w2 => ?_⟩
      unfold gPutL at w2
      split at w2
      · rename_i j
        obtain ⟨u', g1, p', g2, _, _, xs, g3, g4⟩ := s2.slot i _ hq
        rw [h1] at g1; cases g1; cases g2
        refine ⟨p, xs, j, j.toNat, rfl, ok2.int s2 rfl, g3, ?_, ?_⟩
        · unfold ixN
          rw [if_pos w2.1, if_pos (by rw [g4.length]; exact w2.2.1)]
        · exact ok.nx _ _ Hd2 _ (s2.mutOwn (d' := .list (ds.set j.toNat d)) hq h1 ⟨_, upd_same, DtA.set (ok1.mono b2) j.toNat g4⟩) (by rw [List.length_set]) w2.2.2
      · exact w2.elim
    | o y => exact (show False from w1).elim
    | s y => exact (show False from w1).elim
    | n _ _ => exact (show False from w1).elim
    | q _ _ _ => exact (show False from w1).elim
    | r _ _ _ => exact (show False from w1).elim
  · exact w.elim
end
def keySB (sc scope : Scope) (y : Str) : Bool :=
  decide (scope.kind = .function) && !scope.isCoroutine && !scope.isGenerator && (scope.names.all fun z => !decide (z.2 = .cell)) && decide (scope.names.lookup ("row" : Str) = some .local) && decide (scope.names.lookup ("abs" : Str) = some .globalImplicit) && decide (scope.names.lookup y = some .free) && decide (sc.names.lookup y = some .cell)
theorem keyS_by {sc scope : Scope} {y : Str} (h : keySB sc scope y = true) : KeyS sc scope y := by
  unfold keySB at h
  simp only [Bool.and_eq_true, decide_eq_true_eq, Bool.not_eq_true', List.all_eq_true, decide_eq_false_iff_not] at h
  obtain ⟨⟨⟨⟨⟨⟨⟨a1, a2⟩, a3⟩, a4⟩, a5⟩, a6⟩, a7⟩, a8⟩ := h
  exact ⟨a1, a2, a3, a4, a5, a6, a7, a8⟩
end DL

/-! sorted(rows of ints). -/
namespace DL
open PySem PySem.Spec PyProof.Rows L2 LamX
theorem reads_vals {h : Heap} : ∀ {ns : List Int} {us : List Value}, Vals (ns.map V.int) us → ReadsAll h us (ns.map .int) []
  | [], _, .nil => .nil
  | n :: ns, _, .cons r1 r2 => by
    obtain ⟨t, rfl⟩ := r1
    exact ReadsAll.cons (as := []) (bs := []) (.int n t) (reads_vals r2)
def srtR (rs : List (List Int)) : List (List Int) := rs.mergeSort fun a b => decide (a ≤ b)
def gSortRows (x : Option D) (Q : Vl → Prop) : Prop := match x with
  | some (.list ds) => match rows? ds with
    | some rs => rs.length ≤ 100000 ∧ Q (.d (.list ((srtR rs).map tD)))
    | none => False
  | _ => False
def dSortRows (Ta : DE) : DE := fun xc ρ Q => Ta xc ρ fun x => gSortRows x.dat Q
section
variable {X : Cx} {T : Wd} {E : XK}
theorem each_reads {pins : List (Addr × Obj)} {σ : L2.St} {Hd H : Hp} {s : Shared} (I : Inv X pins σ H s) (hk : ∀ a o, Hd a = some o → H a = some o) : ∀ {its : List Value} {zs : List (V × List Int)}, PySem.W.EachIs (fun v (z : V × List Int) => RelV z.1 v ∧ Dt X.K Hd z.1 (tD z.2)) its zs → PySem.W.EachIs (fun v (z : V × List Int) => ∃ as, Reads s.heap v (.list (z.2.map .int)) as) its zs
  | [], _, .nil => .nil
  | v :: its, _, .cons ⟨h1, h2⟩ r => by
    rename_i z zs
    refine .cons ?_ (each_reads I hk r)
    obtain ⟨z1, z2⟩ := z
    have zd : Dt X.K Hd z1 (.list (z2.map .int)) := h2
    cases zd with
    | lst g1 g2 =>
      rename_i bA ys
      have ey : ys = z2.map V.int := ints_ok g2 (ints?_map z2)
      subst ey
      obtain rfl : v = Value.ref bA := h1
      obtain ⟨its2, rv2, hl2, hz2'⟩ := I.list (SqL.of (hk _ _ g1))
      obtain ⟨o, e1, e2, n, e3⟩ := hl2.isList
      exact ⟨_, Reads.list e1 e2 e3 (by simpa using reads_vals rv2)⟩
theorem de_sortRows {a : Expr} {Ta : DE} {p pos : Pos} {k : Nat} (hr : Room (k + 1) X.A) (hms : X.mg "sorted" = none) (ha : ED X T E a Ta) (hg : Gl X "sorted" := by rfl)
    (na : starEach [a] X.env = (false, eval a X.env) :: starEach [] X.env := by rfl) : ED X T E (.Call (.Name "sorted" p) [a] [] pos) (dSortRows Ta) := by
  refine ⟨fun pins s σ H Q I ⟨xc, Fr, H0, ρ, Hd, q, sat, w, hx, k0⟩ => ?_⟩
  refine Call_ (ld_blt I hg hms boot_sorted ?_)
  refine PyProof.Rows.callWith_builtin1 (PyProof.Rows.args_cons (thn (ha.run pins s σ H (fun v H1 => ∃ x Hd1, Sat X.K T Fr H0 ρ σ Hd1 H1 ∧ Sub Hd Hd1 ∧ VlOk X.K Hd1 ρ σ v x ∧ gSortRows x.dat q) I ⟨xc, Fr, H0, ρ, Hd, _, sat, w, hx, fun v x Hd1 H1 s1 b1 ok1 w1 => ⟨x, Hd1, s1, b1, ok1, w1⟩⟩) fun u s2 ⟨v, H2, I2, r1, x, Hd1, sat2, b1, ok1, w1⟩ => PyProof.Rows.args_nil ?_) na) na rfl
  unfold gSortRows at w1
  split at w1
  · rename_i ds ex
    split at w1
    · rename_i rs er
      obtain ⟨hlen, w1⟩ := w1
      obtain ⟨l, xs, rfl, h2, hA⟩ := ok1.list sat2 ex
      obtain rfl : u = Value.ref l := r1
      rw [rows?_eq er] at hA
      obtain ⟨its, rv, hl, hz⟩ := I2.list (SqL.of h2)
      have hlx : xs.length = rs.length := by rw [hA.length, List.length_map]
      have hzl : (xs.zip rs).length = rs.length := by rw [List.length_zip, hlx]; exact Nat.min_self _
      have e := each_of rv hA
      refine PySem.W.sorted_data (enc := fun z : V × List Int => .list (z.2.map .int)) hl.isList e (each_reads I2 (fun a o g => sat2.keep _ _ g) e) ?_ ?_ ?_ ?_ ?_
      · refine PySem.W.AllAlike.of fun b b' => ?_
        simp only [PySem.W.alike]
        exact PySem.W.alike_ints _ _
      · exact PySem.W.Sortable.others fun b => ⟨by simp, by simp⟩
      · rw [hzl]
        exact few (m := 100000) hlen
      · intro z hz
        have := hr.un
        show X.A.units + 2 + (PyData.list _).depth < cLine
        simp only [PyData.depth, PySem.W.depth_ints]
        omega
      · intro out hol eo
        rw [PySem.W.dataLe_rows (β := V × List Int) (fun z => z.2)] at eo
        obtain ⟨vo, dO⟩ := each_back eo
        have em : ((xs.zip rs).mergeSort fun a b => decide (a.2 ≤ b.2)).map (·.2) = srtR rs := by
          unfold srtR
          rw [List.map_mergeSort (s := fun a b => decide (a ≤ b)) (fun _ _ _ _ => rfl), zip_snd hlx]
        rw [em] at dO
        have hnew : H2 (s2.heap.objs.size + 1) = none := I2.hok.fresh (Nat.le_succ _)
        obtain ⟨cE, hD⟩ := sortedAll_at s2.heap its out.toArray
        refine ⟨.ref (s2.heap.objs.size + 1), upd H2 (s2.heap.objs.size + 1) (.lst (((xs.zip rs).mergeSort fun a b => decide (a.2 ≤ b.2)).map (·.1))), I2.laid (t' := s2.toks) (fun _ _ => sortedAll_old) (Nat.le_succ _) ⟨?_, out, cE, vo, hD⟩, rfl, ?_⟩
        · rw [List.length_map, List.length_mergeSort, hzl]
          exact few (m := 100000) hlen
        · exact k0 _ (.d (.list ((srtR rs).map tD))) _ _ (sat2.lay (o := .lst _) hnew) (b1.trans (Sub.new (sat2.keep.free hnew))) (Dt.lst upd_same (dO.mono (Sub.new (sat2.keep.free hnew)))) w1
    · exact w1.elim
  · exact w1.elim
end
end DL

/-! Data: piles. -/
namespace DL
open PySem L2 LamX
open PyProof.Rows (envOfC)
def del (H : Hp) (x : Addr) : Hp := fun b => if b = x then none else H b
theorem del_ne {H : Hp} {x b : Addr} (h : b ≠ x) : del H x b = H b := if_neg h
theorem del_same {H : Hp} {x : Addr} : del H x x = none := if_pos rfl
theorem del_some {H : Hp} {x b : Addr} {o : HO} (h : del H x b = some o) : H b = some o ∧ b ≠ x := by
  by_cases q : b = x
  · rw [q, del_same] at h; cases h
  · rw [del_ne q] at h; exact ⟨h, q⟩
section
variable {K : PySem.W.Frag} {T : Wd} {Hd : Hp} {x : Addr}
mutual
theorem Dt.del {o : HO} (hx : Hd x = some o) (h1 : ∀ xs, o ≠ .lst xs) (h2 : ∀ xs, o ≠ .tup xs) (h3 : ∀ xs, o ≠ .dK xs) (h4 : ∀ u xs, o ≠ .frz u xs) : ∀ {v : V} {d : D}, Dt K Hd v d → Dt K (DL.del Hd x) v d
  | _, _, .non => .non
  | _, _, .bl b => .bl b
  | _, _, .int i => .int i
  | _, _, .str x => .str x
  | _, _, .lst h a => .lst (by rw [del_ne (fun z => by rw [z, hx] at h; exact h1 _ (Option.some.inj h))]; exact h) (DtA.del hx h1 h2 h3 h4 a)
  | _, _, .tup h a => .tup (by rw [del_ne (fun z => by rw [z, hx] at h; exact h2 _ (Option.some.inj h))]; exact h) (DtA.del hx h1 h2 h3 h4 a)
  | _, _, .dct h a => .dct (by
      rcases h with h | ⟨u, h⟩
      · exact .inl (by rw [del_ne (fun z => by rw [z, hx] at h; exact h3 _ (Option.some.inj h))]; exact h)
      · exact .inr ⟨u, by rw [del_ne (fun z => by rw [z, hx] at h; exact h4 _ _ (Option.some.inj h))]; exact h⟩) (DtK.del hx h1 h2 h3 h4 a)
theorem DtA.del {o : HO} (hx : Hd x = some o) (h1 : ∀ xs, o ≠ .lst xs) (h2 : ∀ xs, o ≠ .tup xs) (h3 : ∀ xs, o ≠ .dK xs) (h4 : ∀ u xs, o ≠ .frz u xs) : ∀ {vs : List V} {ds : List D}, DtA K Hd vs ds → DtA K (DL.del Hd x) vs ds
  | _, _, .nil => .nil
  | _, _, .cons h t => .cons (Dt.del hx h1 h2 h3 h4 h) (DtA.del hx h1 h2 h3 h4 t)
theorem DtK.del {o : HO} (hx : Hd x = some o) (h1 : ∀ xs, o ≠ .lst xs) (h2 : ∀ xs, o ≠ .tup xs) (h3 : ∀ xs, o ≠ .dK xs) (h4 : ∀ u xs, o ≠ .frz u xs) : ∀ {vs : List (Key × V)} {ds : List (D × D)}, DtK K Hd vs ds → DtK K (DL.del Hd x) vs ds
  | _, _, .nil => .nil
  | _, _, .cons h t => .cons (Dt.del hx h1 h2 h3 h4 h) (DtK.del hx h1 h2 h3 h4 t)
end
theorem Dt.delI {C dx : Addr} {fs : List (Str × V)} (hx : Hd x = some (.ins C dx fs)) {v : V} {d : D} (h : Dt K Hd v d) : Dt K (DL.del Hd x) v d :=
  h.del hx (fun _ z => by cases z) (fun _ z => by cases z) (fun _ z => by cases z) fun _ _ z => by cases z
theorem Grow.del {H Hd' H' : Hp} {C dx : Addr} {fs : List (Str × V)} (g : Grow T (upd Hd x (.ins C dx fs)) H Hd' H') (h0 : Hd x = none) (h1 : H x = some (.ins C dx fs)) : Grow T Hd H (DL.del Hd' x) H' := by
  have hx : Hd' x = some (.ins C dx fs) := g.dat _ _ upd_same
  refine ⟨fun b o e => ?_, fun b o e => g.keep _ _ (del_some e).1, ⟨fun b ps e => g.ntb.1 b ps (del_some e).1, fun b ps e => g.ntb.2 b ps (del_some e).1⟩, g.tabs, fun b o e1 e2 e3 => ?_⟩
  · have n : b ≠ x := ne_of_none e h0
    rw [del_ne n]
    exact g.dat _ _ (by rw [upd_ne n]; exact e)
  · by_cases q : b = x
    · subst q
      rw [h1] at e1; cases e1
      exact ⟨g.keep _ _ hx, del_same⟩
    · obtain ⟨k1, k2⟩ := g.prv b o e1 (by rw [upd_ne q]; exact e2) e3
      exact ⟨k1, by rw [del_ne q]; exact k2⟩
end
/-! ### what of the text a pile's class has -/
structure PileK (K : PySem.W.Frag) (C : Addr) : Prop where
  cl : Cls K C
  nR : NoAttr K C "rows"
  nP : NoAttr K C "past"
  nA : NoAttr K C "ahead"
theorem pfl_rows (rv pv av : V) : (pfl rv pv av).lookup ("rows" : Str) = some rv := by
  unfold pfl
  simp only [List.lookup, beq_self_eq_true]
theorem rp_ : (("past" : Str) == ("rows" : Str)) = false := by decide +kernel
theorem ra_ : (("ahead" : Str) == ("rows" : Str)) = false := by decide +kernel
theorem pa_ : (("ahead" : Str) == ("past" : Str)) = false := by decide +kernel
theorem pfl_past (rv pv av : V) : (pfl rv pv av).lookup ("past" : Str) = some pv := by
  unfold pfl
  simp only [List.lookup, rp_, beq_self_eq_true]
theorem pfl_ahead (rv pv av : V) : (pfl rv pv av).lookup ("ahead" : Str) = some av := by
  unfold pfl
  simp only [List.lookup, ra_, pa_, beq_self_eq_true]
def NoF (m : Str) : Prop := (m == ("rows" : Str)) = false ∧ (m == ("past" : Str)) = false ∧ (m == ("ahead" : Str)) = false
theorem pfl_no {m : Str} (h : NoF m) (rv pv av : V) : (pfl rv pv av).lookup m = none := by
  unfold pfl
  simp only [List.lookup, h.1, h.2.1, h.2.2]
/-- a method that leaves its pile as it is -/
structure Mt (P : Program) (w : World) (K : PySem.W.Frag) (mg : Str → Option Value) (base : Heap) (T : Wd) (C : Addr) (m : Str) (k n : Nat) (F : Ct) : Prop where
  ex : ∃ (f : Addr) (fd : FuncData) (ps : List Str), FnOk P w K mg base (L2N.CX P w) k f fd ps (spD K T n F) ∧ Meth K C m f ∧ Binds K fd ps []
  hn : ∀ xs q xc, F xs q xc → xs.length = n
  pk : PileK K C
  nf : NoF m
def pileOf (v : Option (Option Vl)) (C : Addr) (k : Addr → List D → Prop) : Prop := match v with
  | some (some (.q C' g st)) => C' = C ∧ k g.x st.rows
  | some (some (.r C' x rows)) => C' = C ∧ k x rows
  | _ => False
def dMth (C : Addr) (i : Nat) (F : Ct) (Al : DA) : DE := fun xc ρ Q => pileOf ρ[i]? C fun x rows => Al xc ρ fun xs => noOwn xs = true ∧ F (.r C x rows :: xs) (fun d => Q (.d d)) xc
section
variable {X : Cx} {T : Wd} {E : XK} {a b c e o tg iter : Expr} {es rest : List Expr} {pos p p2 apos : Pos} {Ta Tb Tc Te : DE} {Al : DA} {st : Stmt} {sts sts2 : List Stmt} {t u : DS} {C : Addr}
/-- the call of a def or a method whose first argument is the pile -/
theorem mth_core {K : PySem.W.Frag} {n : Nat} {F : Ct} {i : Nat} {σ : St} {Q : VK} {xc : DX} {Fr H0 : Hp} {ρ : DSt} {Hd1 H1 : Hp} {q : Vl → Prop} {v : V} {vs : List V} {xs : List Vl} {x : Addr} {rows : List D} (hn : ∀ xs q xc, F xs q xc → xs.length = n)
    (s1 : Sat K T Fr H0 ρ σ Hd1 H1) (hp : pileOf ρ[i]? C fun x' rows' => x' = x ∧ rows' = rows) (hv : σ[i]? = some (some v)) (hx : XOk K T E Fr H0 ρ σ xc) (ok1 : VlsOk K Hd1 ρ σ vs xs) (hno : noOwn xs = true) (w1 : F (.r C x rows :: xs) (fun d => q (.d d)) xc)
    (k : ∀ v z Hd' H', Sat K T Fr H0 ρ σ Hd' H' → Sub Hd1 Hd' → VlOk K Hd' ρ σ v z → q z → Q v H') : spD K T n F (v :: vs) H1 Q E := by
  unfold pileOf at hp
  split at hp
  · rename_i C' g st hq
    obtain ⟨rfl, rfl, rfl⟩ := hp
    obtain ⟨v', h1', e1', qa⟩ := s1.slot i _ hq
    rw [hv] at h1'; cases h1'; subst e1'
    obtain ⟨dx, rv, ps, as, a1, a2, a3, a4, a5, a6⟩ := qa.ex
    have h0 := (qa.out _ (.inl rfl)).1
    have sb : Sub Hd1 (upd Hd1 g.x (.ins C' dx (pfl rv (.ref g.pp) (.ref g.ap)))) := Sub.new h0
    refine ⟨upd Hd1 g.x (.ins C' dx (pfl rv (.ref g.pp) (.ref g.ap))), .r C' g.x st.rows :: xs, fun d => q (.d d), xc, fun b o e => ?_, s1.ntb.upd (fun _ z => by cases z) (fun _ z => by cases z), s1.tabs, .cons ⟨dx, rv, _, _, rfl, upd_same, a4.mono sb⟩ (noOwn_ok (ok1.mono sb) hno), hn _ _ _ w1, w1, fun d v Hd2 H2 gr dt qd => ?_, fun C Hd2 H2 gr xC => ?_⟩
    · by_cases z : b = g.x
      · subst z; rw [upd_same] at e; cases e; exact a1
      · rw [upd_ne z] at e; exact s1.keep _ _ e
    · exact k v (.d d) (del Hd2 g.x) H2 (s1.grow (gr.del h0 a1)) (gr.del h0 a1).dat (dt.delI (gr.dat _ _ upd_same)) qd
    · exact hx C _ H2 (s1.grow (gr.del h0 a1)) xC
  · rename_i C' x' rows' hq
    obtain ⟨rfl, rfl, rfl⟩ := hp
    obtain ⟨v', h1', e1'⟩ := s1.slot i _ hq
    rw [hv] at h1'; cases h1'
    exact ⟨Hd1, .r C' x' rows' :: xs, fun d => q (.d d), xc, s1.keep, s1.ntb, s1.tabs, .cons e1' (noOwn_ok ok1 hno), hn _ _ _ w1, w1, fun d v Hd2 H2 gr dt qd => k v (.d d) Hd2 H2 (s1.grow gr) gr.dat dt qd, fun C Hd2 H2 gr xC => hx C Hd2 H2 (s1.grow gr) xC⟩
  · exact hp.elim
theorem pileOf_at {K : PySem.W.Frag} {Fr H0 : Hp} {ρ : DSt} {σ : St} {Hd H : Hp} {i : Nat} {k : Addr → List D → Prop} (s : Sat K T Fr H0 ρ σ Hd H) (w : pileOf ρ[i]? C k) : ∃ x rows dx rv pv av, σ[i]? = some (some (.ref x)) ∧ H x = some (.ins C dx (pfl rv pv av)) ∧ Dt K Hd rv (.list rows) ∧ k x rows ∧ pileOf ρ[i]? C fun x' rows' => x' = x ∧ rows' = rows := by
  unfold pileOf at w
  split at w
  · rename_i C' g st hq
    obtain ⟨rfl, w⟩ := w
    obtain ⟨v', h1', e1', qa⟩ := s.slot i _ hq
    subst e1'
    obtain ⟨dx, rv, ps, as, a1, a2, a3, a4, a5, a6⟩ := qa.ex
    exact ⟨g.x, st.rows, dx, rv, _, _, h1', a1, a4, w, by rw [hq]; exact ⟨rfl, rfl, rfl⟩⟩
  · rename_i C' x' rows' hq
    obtain ⟨rfl, w⟩ := w
    obtain ⟨v', h1', dx, rv, pv, av, e1, e2, e3⟩ := s.slot i _ hq
    subst e1
    exact ⟨x', rows', dx, rv, pv, av, h1', s.keep _ _ e2, e3, w, by rw [hq]; exact ⟨rfl, rfl, rfl⟩⟩
  · exact w.elim
theorem de_mth {m : Str} {k n : Nat} {F : Ct} {pl : Sem Bool} (i : Nat) (M : Mt X.prog X.w X.K X.mg X.base T C m k n F) (hr : Room k X.A) (hx : Passes (L2N.CX X.prog X.w) X E) (hv : PE X o (tVar i)) (ha : AD X T E (e :: es) Al)
    (hst : starEach (e :: es) X.env = (false, eval e X.env) :: starEach es X.env := by rfl) (hpl : (backTo pos (starEach es X.env)).any (·.1) = false := by rfl)
    (ht : eval (.Call (.Attribute o m apos) (e :: es) [] pos) X.env = (do
      let ov ← eval o X.env
      standAt apos.atName
      let (f, first) ← holding [ov] (getMethod ov m pl)
      callWith pos f first (backTo pos (starEach (e :: es) X.env)) (backToKw pos (keywordEach [] X.env))) := by rfl) :
    ED X T E (.Call (.Attribute o m apos) (e :: es) [] pos) (dMth C i F Al) := by
  obtain ⟨f, fd, ps, h1, h2, h3⟩ := M.ex
  refine pe_imp (pe_meth (pl := pl) hv M.pk.cl h2 h1 hr h3 .nil hx ha hst hpl ht) fun σ H Q ⟨xc, Fr, H0, ρ, Hd, q, s, w, hx, k⟩ => ?_
  obtain ⟨x, rows, dx, rv, pv, av, g1, g2, g3, w, hp⟩ := pileOf_at s w
  refine ⟨_, g1, x, dx, _, rfl, g2, pfl_no M.nf _ _ _, xc, Fr, H0, ρ, Hd, _, s, w, hx, fun vs xs Hd1 H1 s1 b1 ok1 w1 => ?_⟩
  show spD X.K T n F (V.ref x :: (vs ++ [])) H1 Q E
  rw [List.append_nil]
  exact mth_core M.hn s1 hp g1 hx ok1 w1.1 w1.2 fun v z Hd' H' s' b' ok' w' => k v z Hd' H' s' (b1.trans b') ok' w'
theorem de_mth0 {m : Str} {k n : Nat} {F : Ct} {pl : Sem Bool} (i : Nat) (M : Mt X.prog X.w X.K X.mg X.base T C m k n F) (hr : Room k X.A) (hx : Passes (L2N.CX X.prog X.w) X E) (hv : PE X o (tVar i))
    (ht : eval (.Call (.Attribute o m apos) [] [] pos) X.env = (do
      let ov ← eval o X.env
      standAt apos.atName
      let (f, first) ← holding [ov] (getMethod ov m pl)
      callWith pos f first (backTo pos (starEach [] X.env)) (backToKw pos (keywordEach [] X.env))) := by rfl) :
    ED X T E (.Call (.Attribute o m apos) [] [] pos) (dMth C i F dNil) := by
  obtain ⟨f, fd, ps, h1, h2, h3⟩ := M.ex
  refine pe_imp (pe_meth0 (pl := pl) hv M.pk.cl h2 h1 hr h3 .nil hx ht) fun σ H Q ⟨xc, Fr, H0, ρ, Hd, q, s, w, hx, k⟩ => ?_
  obtain ⟨x, rows, dx, rv, pv, av, g1, g2, g3, w, hp⟩ := pileOf_at s w
  exact ⟨_, g1, x, dx, _, rfl, g2, pfl_no M.nf _ _ _, mth_core M.hn s hp g1 hx .nil w.1 w.2 fun v z Hd' H' s' b' ok' w' => k v z Hd' H' s' b' ok' w'⟩
/-- f(pile) -/
theorem de_fnQ {x : Str} {k n : Nat} {F : Ct} (i : Nat) (G : Df X.prog X.w X.K X.mg X.base T x k n F) (hr : Room k X.A) (hx : Passes (L2N.CX X.prog X.w) X E) (hv : PE X e (tVar i))
    (hg : Gl X x := by rfl) (hdb : (x == ("__debug__" : Str)) = false := by decide) (he : starEach [e] X.env = (false, eval e X.env) :: starEach [] X.env := by rfl) (hpl : (backTo pos (starEach [] X.env)).any (·.1) = false := by rfl) :
    ED X T E (.Call (.Name x p) [e] [] pos) (dMth C i F dNil) := by
  obtain ⟨f, fd, ps, h1, h2, h3, h4⟩ := G.ex
  refine pe_imp (pe_call h1 hr hg h2 h3 h4 .nil hx (pa_cons hv pa_nil he) hdb he hpl) fun σ H Q ⟨xc, Fr, H0, ρ, Hd, q, s, w, hx, k⟩ => ?_
  obtain ⟨x, rows, dx, rv, pv, av, g1, g2, g3, w, hp⟩ := pileOf_at s w
  exact ⟨_, g1, mth_core G.hn s hp g1 hx .nil w.1 w.2 fun v z Hd' H' s' b' ok' w' => k v z Hd' H' s' b' ok' w'⟩
/-- pile.rows -/
def dRows (C : Addr) (i : Nat) : DE := fun _ ρ Q => pileOf ρ[i]? C fun _ rows => Q (.d (.list rows))
theorem de_rows (i : Nat) (pk : PileK X.K C) (hv : PE X o (tVar i)) (hb : attributeBase o "rows" X.env (eval o X.env) = eval o X.env := by rfl) : ED X T E (.Attribute o "rows" pos) (dRows C i) := by
  refine pe_imp (pe_fld hv hb) fun σ H Q ⟨xc, Fr, H0, ρ, Hd, q, s, w, hx, k⟩ => ?_
  obtain ⟨x, rows, dx, rv, pv, av, g1, g2, g3, w, hp⟩ := pileOf_at s w
  exact ⟨_, g1, x, C, dx, _, rv, rfl, g2, pk.cl, pk.nR, pfl_rows _ _ _, k rv (.d (.list rows)) Hd H s (Sub.refl _) g3 w⟩
/-- self.become(..), where what is handed in refuses -/
def dBecR (C : Addr) (i : Nat) (Te : DE) : DS := fun e ρ => (pileOf ρ[i]? C fun _ _ => True) ∧ Te e.xc ρ fun _ => False
/-! ### a pile becomes another one -/
def spB (C : Addr) : Sp := fun vs H Q _ => ∃ x rv' dx rv pp ap ps, vs = [.ref x, rv'] ∧ H x = some (.ins C dx (pfl rv (.ref pp) (.ref ap))) ∧ H pp = some (.lst ps) ∧ ps.length < sizeLine ∧ ∀ a, H a = none → Q .non (upd (upd (upd H pp (.lst (ps ++ [rv]))) a (.lst [])) x (.ins C dx (pfl rv' (.ref pp) (.ref a))))
structure BecK (P : Program) (w : World) (K : PySem.W.Frag) (mg : Str → Option Value) (base : Heap) (C : Addr) (k : Nat) : Prop where
  ex : ∃ (f : Addr) (fd : FuncData) (ps : List Str), FnOk P w K mg base (L2N.CX P w) k f fd ps (spB C) ∧ Meth K C "become" f ∧ Binds K fd ps []
  pk : PileK K C
theorem nf_become : NoF "become" := ⟨by decide +kernel, by decide +kernel, by decide +kernel⟩
theorem sd_becR {k : Nat} {pl : Sem Bool} {spos : Pos} (i : Nat) (M : BecK X.prog X.w X.K X.mg X.base C k) (hr : Room k X.A) (hx : Passes (L2N.CX X.prog X.w) X E) (hv : PE X o (tVar i)) (ha : ED X T E e Te) (hs : swapsWith (.Call (.Attribute o "become" apos) [e] [] pos) none spos.line X.env = pure false := by rfl)
    (hst : starEach [e] X.env = (false, eval e X.env) :: starEach [] X.env := by rfl) (hpl : (backTo pos (starEach [] X.env)).any (·.1) = false := by rfl)
    (ht : eval (.Call (.Attribute o "become" apos) [e] [] pos) X.env = (do
      let ov ← eval o X.env
      standAt apos.atName
      let (f, first) ← holding [ov] (getMethod ov "become" pl)
      callWith pos f first (backTo pos (starEach [e] X.env)) (backToKw pos (keywordEach [] X.env))) := by rfl) :
    SD X T E (.Expr (.Call (.Attribute o "become" apos) [e] [] pos) spos) (dBecR C i Te) := by
  obtain ⟨f, fd, ps, h1, h2, h3⟩ := M.ex
  refine ps_imp (ps_expr (pe_meth (pl := pl) hv M.pk.cl h2 h1 hr h3 .nil hx (pa_cons ha pa_nil hst) hst hpl ht) hs) fun De σ H ⟨e, Fr, H0, ρ, Hd, s, ok, w1, w⟩ => ?_
  obtain ⟨x, rows, dx, rv, pv, av, g1, g2, g3, _, hp⟩ := pileOf_at s w1
  exact ⟨_, g1, x, dx, _, rfl, g2, pfl_no nf_become _ _ _, e.xc, Fr, H0, ρ, Hd, _, s, w, ok.xok, fun v x Hd1 H1 s1 b1 ok1 w1 => w1.elim⟩
/-! ### bodies that end so -/
abbrev DM := DEnds → (List D → Prop) → DSt → Prop
/-- the def's ends, and what the pile becomes -/
def LM (K : PySem.W.Frag) (T : Wd) (E : XK) (C : Addr) (i : Nat) (t : DM) : TS := fun De σ H => ∃ (e : DEnds) (Fr H0 : Hp) (ρ : DSt) (Hd : Hp) (x : Addr) (qm : List D → Prop), Sat K T Fr H0 ρ σ Hd H ∧ EndsOk K T E Fr H0 ρ.length e De ∧ (∃ rows, ρ[i]? = some (some (.r C x rows))) ∧
  (∀ rv' rows' σ' Hd' H', Out T Fr H0 Hd' H' → Dt K Hd' rv' (.list rows') → qm rows' → spB C [.ref x, rv'] H' (fun _ H2 => De.nx σ' H2) E) ∧ t e qm ρ
def BM (X : Cx) (T : Wd) (E : XK) (C : Addr) (i : Nat) (sts : List Stmt) (t : DM) : Prop := PSs X sts (LM X.K T E C i t)
def dSeqM (C : Addr) (i : Nat) (t : DS) (u : DM) : DM := fun e qm ρ => ∃ x rows, ρ[i]? = some (some (.r C x rows)) ∧ t { e with nx := fun ρ' => (∃ rows', ρ'[i]? = some (some (.r C x rows'))) ∧ u e qm ρ' } ρ
theorem bm_cons {t : DS} {u : DM} {i : Nat} (h1 : SD X T E st t) (h2 : BM X T E C i sts u) : BM X T E C i (st :: sts) (dSeqM C i t u) :=
  pss_imp (pss_cons h1 h2) fun De σ H ⟨e, Fr, H0, ρ, Hd, x, qm, s, ok, ⟨rows, hr⟩, hM, x', rows', hr', w⟩ => by
    rw [hr] at hr'; cases hr'
    exact ⟨{ e with nx := fun ρ' => (∃ rows', ρ'[i]? = some (some (.r C x rows'))) ∧ u e qm ρ' }, Fr, H0, ρ, Hd, s, ⟨fun ρ' σ' Hd' H' s' hl ⟨hx', w'⟩ => ⟨e, Fr, H0, ρ', Hd', x, qm, s', hl ▸ ok, hx', hM, w'⟩, ok.bk, ok.ct, ok.rt, ok.xc⟩, w⟩
def dBecM (Te : DE) : DM := fun e qm ρ => Te e.xc ρ fun v => gSeq v qm
theorem bm_last {k : Nat} {pl : Sem Bool} {spos : Pos} (i : Nat) (M : BecK X.prog X.w X.K X.mg X.base C k) (hr : Room k X.A) (hx : Passes (L2N.CX X.prog X.w) X E) (hv : PE X o (tVar i)) (ha : ED X T E e Te) (hs : swapsWith (.Call (.Attribute o "become" apos) [e] [] pos) none spos.line X.env = pure false := by rfl)
    (hst : starEach [e] X.env = (false, eval e X.env) :: starEach [] X.env := by rfl) (hpl : (backTo pos (starEach [] X.env)).any (·.1) = false := by rfl)
    (ht : eval (.Call (.Attribute o "become" apos) [e] [] pos) X.env = (do
      let ov ← eval o X.env
      standAt apos.atName
      let (f, first) ← holding [ov] (getMethod ov "become" pl)
      callWith pos f first (backTo pos (starEach [e] X.env)) (backToKw pos (keywordEach [] X.env))) := by rfl) :
    BM X T E C i [.Expr (.Call (.Attribute o "become" apos) [e] [] pos) spos] (dBecM Te) := by
  obtain ⟨f, fd, ps, h1, h2, h3⟩ := M.ex
  refine pss_imp (pss_one (ps_expr (pe_meth (pl := pl) hv M.pk.cl h2 h1 hr h3 .nil hx (pa_cons ha pa_nil hst) hst hpl ht) hs)) fun De σ H ⟨e, Fr, H0, ρ, Hd, x, qm, s, ok, ⟨rows, hr⟩, hM, w⟩ => ?_
  obtain ⟨v', h1', dx, rv, pv, av, e1, e2, e3⟩ := s.slot i _ hr
  subst e1
  refine ⟨_, h1', x, dx, _, rfl, s.keep _ _ e2, pfl_no nf_become _ _ _, e.xc, Fr, H0, ρ, Hd, _, s, w, ok.xok, fun v y Hd1 H1 s1 b1 ok1 w1 => ?_⟩
  unfold gSeq at w1
  split at w1
  · rename_i ds
    exact hM v ds σ Hd1 H1 s1.out ok1 w1
  · exact w1.elim
end
end DL

/-! Data: piles of one's own. -/
namespace DL
open PySem L2 LamX
open PyProof.Rows (envOfC)
theorem Tabs.put {tb : List (Addr × Str)} {H : Hp} {p : Addr} {o : HO} (h : Tabs tb H) (h1 : ∀ ps, H p ≠ some (.tbl ps)) (h2 : ∀ c y, H p ≠ some (CodeO c y)) : Tabs tb (upd H p o) := fun t ht => by
  obtain ⟨ps, a1, a2, a3⟩ := h t ht
  refine ⟨ps, ?_, a2, fun pos cv hc => ?_⟩
  · rw [upd_ne (fun z => h1 ps (by rw [← z]; exact a1))]; exact a1
  · obtain ⟨c, b1, b2⟩ := a3 pos cv hc
    exact ⟨c, b1, by rw [upd_ne (fun z => h2 c _ (by rw [← z]; exact b2))]; exact b2⟩
def onlyQ (ρ : DSt) (i : Nat) : Prop := ∀ j, j ≠ i → ∀ C g st, ρ[j]? ≠ some (some (.q C g st))
section
variable {K : PySem.W.Frag} {T : Wd} {Fr H0 : Hp} {ρ : DSt} {σ : St} {Hd H : Hp}
theorem Sat.weakF {Fr' : Hp} (s : Sat K T Fr' H0 ρ σ Hd H) (e : Sub Fr Fr') : Sat K T Fr H0 ρ σ Hd H := by
  refine ⟨s.len, s.base, s.keep, s.ntb, s.tabs, fun b o h => s.frame b o (e b o h), fun i u h => ?_, s.sep⟩
  obtain ⟨v, h1, h2⟩ := s.slot i u h
  exact ⟨v, h1, h2.ext (Sub.refl _) fun b o hb ho _ hf => ⟨hb, ho, e.free hf⟩⟩
/-- a pile of one's own is changed -/
theorem Sat.mutQ {i : Nat} {C : Addr} {g g' : Gh} {st st' : PSt} {Hd2 H2 : Hp} (s : Sat K T Fr H0 ρ σ Hd H) (hi : ρ[i]? = some (some (.q C g st))) (ho : onlyQ ρ i) (dat : Sub Hd Hd2) (keep : Sub Hd2 H2) (ntb : NoT Hd2) (tabs : Tabs T.tb H2)
    (prv : ∀ b o, H b = some o → Hd b = none → (∀ ps, o ≠ .tbl ps) → ¬ g.has b → H2 b = some o ∧ Hd2 b = none ∧ ¬ g'.has b)
    (ex : ∃ dx rv ps as, H2 g'.x = some (.ins C dx (pfl rv (.ref g'.pp) (.ref g'.ap))) ∧ H2 g'.pp = some (.lst ps) ∧ H2 g'.ap = some (.lst as) ∧ Dt K Hd2 rv (.list st'.rows) ∧ DtA K Hd2 ps st'.past ∧ DtA K Hd2 as st'.ahead)
    (out : ∀ b, g'.has b → Hd2 b = none ∧ Fr b = none) (ne : g'.pp ≠ g'.ap) (hx : g'.x = g.x) : Sat K T Fr H0 (ρ.set i (some (.q C g' st'))) σ Hd2 H2 := by
  obtain ⟨v0, hv0, e0, qa⟩ := s.slot i _ hi
  have hl : i < ρ.length := (List.getElem?_eq_some_iff.mp hi).1
  have own : ∀ (j : Nat) z, ρ[j]? = some (some (.o z)) → ∀ p, σ[j]? = some (some (.ref p)) → ¬ g.has p ∧ ∃ o, H p = some o ∧ ∀ ps, o ≠ .tbl ps := fun j z e p hp => by
    obtain ⟨v, h1, q, e1, h3, h4, h5⟩ := s.slot j _ e
    rw [hp] at h1; cases h1; cases e1
    obtain ⟨n1, n2⟩ := s.sep.2 i j C g st z p hi e hp
    obtain ⟨o, ho, ht, hk⟩ : ∃ o, H p = some o ∧ (∀ ps, o ≠ .tbl ps) ∧ ∀ C dx fs, o ≠ .ins C dx fs := by
      cases z with
      | list ds => obtain ⟨xs, h6, _⟩ := h5; exact ⟨_, h6, fun _ z => (by cases z), fun _ _ _ z => (by cases z)⟩
      | dict ds => obtain ⟨xs, h6, _⟩ := h5; exact ⟨_, h6, fun _ z => (by cases z), fun _ _ _ z => (by cases z)⟩
      | none => exact h5.elim
      | bool _ => exact h5.elim
      | int _ => exact h5.elim
      | str _ => exact h5.elim
      | tuple _ => exact h5.elim
    refine ⟨fun hb => ?_, o, ho, ht⟩
    rcases hb with y | y | y
    · obtain ⟨dx, rv, ps, as, a1, _⟩ := qa.ex
      rw [← y, ho] at a1; cases a1; exact hk _ _ _ rfl
    · exact n1 y
    · exact n2 y
  refine ⟨by rw [List.length_set]; exact s.len, s.base.trans dat, keep, ntb, tabs, fun b o e => ?_, fun j u e => ?_, fun j l x y w e1 e2 e3 e4 => ?_, fun a c C2 g2 st2 z p e1 e2 e3 => ?_⟩
  · obtain ⟨h0, h1, h2⟩ := s.frame b o e
    have n : ¬ g.has b := fun hb => by have := (qa.out b hb).2; rw [e] at this; cases this
    obtain ⟨k1, k2, _⟩ := prv b o h1 h2 h0 n
    exact ⟨h0, k1, k2⟩
  · by_cases q : i = j
    · subst q
      rw [List.getElem?_set_self hl] at e
      cases e
      exact ⟨v0, hv0, by rw [e0, hx], ex, out, ne⟩
    · rw [List.getElem?_set_ne q] at e
      obtain ⟨v, h1, h2⟩ := s.slot j u e
      refine ⟨v, h1, ?_⟩
      cases u with
      | d y => exact Dt.mono dat h2
      | s y => obtain ⟨b, g1, g2⟩ := h2; exact ⟨b, g1, dat.l g2⟩
      | r _ _ _ => exact RAt.mono dat h2
      | q C2 g2 y => exact absurd e (ho j (fun z => q z.symm) _ _ _)
      | n w y =>
        obtain ⟨b, g1, g2, g3, xs, g4, g5⟩ := h2
        have n : ¬ g.has b := fun hb => by
          obtain ⟨o2, a1, _, _, a4, _⟩ := qa.at hb
          rw [g4] at a1; unfold NdO at a1; cases a1; exact a4 _ rfl
        obtain ⟨k1, k2, _⟩ := prv b _ g4 g2 (fun ps z => by unfold NdO at z; cases z) n
        exact ⟨b, g1, k2, g3, xs, k1, g5.mono dat⟩
      | o y =>
        obtain ⟨b, g1, g2, g3, g4⟩ := h2
        have n := (own j y e b (by rw [h1, g1])).1
        cases y with
        | list ds =>
          obtain ⟨xs, h6, h7⟩ := g4
          obtain ⟨k1, k2, _⟩ := prv b _ h6 g2 (fun ps z => by cases z) n
          exact ⟨b, g1, k2, g3, xs, k1, h7.mono dat⟩
        | dict ds =>
          obtain ⟨xs, h6, h7⟩ := g4
          obtain ⟨k1, k2, _⟩ := prv b _ h6 g2 (fun ps z => by cases z) n
          exact ⟨b, g1, k2, g3, xs, k1, h7.mono dat⟩
        | none => exact g4.elim
        | bool _ => exact g4.elim
        | int _ => exact g4.elim
        | str _ => exact g4.elim
        | tuple _ => exact g4.elim
  · exact s.sep.1 j l x y w (set_in e1 (by intro z; cases z)).1 (set_in e2 (by intro z; cases z)).1 e3 e4
  · have e2 := (set_in e2 (by intro z; cases z)).1
    by_cases q : i = a
    · subst q
      rw [List.getElem?_set_self hl] at e1
      cases e1
      obtain ⟨n, o, ho, ht⟩ := own c z e2 p e3
      obtain ⟨v, h1, q, e1, h3, h4, h5⟩ := s.slot c _ e2
      rw [e3] at h1; cases h1; cases e1
      have n2 := (prv p o ho h3 ht n).2.2
      exact ⟨fun z => n2 (.inr (.inl z)), fun z => n2 (.inr (.inr z))⟩
    · rw [List.getElem?_set_ne q] at e1
      exact absurd e1 (ho a (fun z => q z.symm) _ _ _)
/-- a new pile comes into a slot -/
theorem Sat.claimQ {i : Nat} {C : Addr} {g : Gh} {st : PSt} {Fr' : Hp} (s : Sat K T Fr' H0 ρ σ Hd H) (e : Sub Fr Fr') (hin : ∀ b, g.has b → (∃ o, Fr' b = some o) ∧ Fr b = none)
    (ex : ∃ dx rv ps as, H g.x = some (.ins C dx (pfl rv (.ref g.pp) (.ref g.ap))) ∧ H g.pp = some (.lst ps) ∧ H g.ap = some (.lst as) ∧ Dt K Hd rv (.list st.rows) ∧ DtA K Hd ps st.past ∧ DtA K Hd as st.ahead) (ne : g.pp ≠ g.ap) :
    Sat K T Fr H0 (ρ.set i (some (.q C g st))) (σ.set i (some (.ref g.x))) Hd H := by
  have own : ∀ (j : Nat) z, ρ[j]? = some (some (.o z)) → ∀ p, σ[j]? = some (some (.ref p)) → ¬ g.has p := fun j z e p hp hb => by
    obtain ⟨v, h1, q, e1, h3, h4, h5⟩ := s.slot j _ e
    rw [hp] at h1; cases h1; cases e1
    obtain ⟨o, ho⟩ := (hin p hb).1
    rw [h4] at ho; cases ho
  have out : ∀ b, g.has b → Hd b = none ∧ Fr b = none := fun b hb => by
    obtain ⟨⟨o, ho⟩, h2⟩ := hin b hb
    exact ⟨(s.frame b o ho).2.2, h2⟩
  refine ⟨by rw [List.length_set, List.length_set]; exact s.len, s.base, s.keep, s.ntb, s.tabs, fun b o h => s.frame b o (e b o h), fun j u h => ?_, fun j l x y w e1 e2 e3 e4 => ?_, fun a c C2 g2 st2 z p e1 e2 e3 => ?_⟩
  · by_cases q : i = j
    · subst q
      by_cases hl : i < ρ.length
      · rw [List.getElem?_set_self hl] at h
        cases h
        exact ⟨.ref g.x, by rw [List.getElem?_set_self (by rw [s.len]; exact hl)], rfl, ex, out, ne⟩
      · rw [List.getElem?_eq_none (by simpa using hl)] at h; cases h
    · rw [List.getElem?_set_ne q] at h
      obtain ⟨v, h1, h2⟩ := s.slot j u h
      exact ⟨v, by rw [List.getElem?_set_ne q]; exact h1, h2.ext (Sub.refl _) fun b o hb ho _ hf => ⟨hb, ho, e.free hf⟩⟩
  · obtain ⟨e1, n1⟩ := set_in e1 (by intro z; cases z)
    obtain ⟨e2, n2⟩ := set_in e2 (by intro z; cases z)
    rw [List.getElem?_set_ne n1] at e3
    rw [List.getElem?_set_ne n2] at e4
    exact s.sep.1 j l x y w e1 e2 e3 e4
  · obtain ⟨e2, n2⟩ := set_in e2 (by intro z; cases z)
    rw [List.getElem?_set_ne n2] at e3
    by_cases q : i = a
    · subst q
      have hl : i < ρ.length := by
        rcases Nat.lt_or_ge i ρ.length with z | z
        · exact z
        · rw [List.getElem?_eq_none (by simpa using z)] at e1; cases e1
      rw [List.getElem?_set_self hl] at e1
      cases e1
      have n := own c z e2 p e3
      exact ⟨fun z => n (.inr (.inl z)), fun z => n (.inr (.inr z))⟩
    · rw [List.getElem?_set_ne q] at e1
      exact s.sep.2 a c C2 g2 st2 z p e1 e2 e3
end
/-! ### a method that makes another pile of it -/
abbrev Cm := List D → List Vl → (List D → Prop) → Prop
def spM (K : PySem.W.Frag) (T : Wd) (n : Nat) (C : Addr) (F : Cm) : Sp := fun vs H Q E => ∃ (Hd : Hp) (x : Addr) (vs' : List V) (rows : List D) (xs : List Vl) (qm : List D → Prop), vs = .ref x :: vs' ∧ Sub Hd H ∧ NoT Hd ∧ Tabs T.tb H ∧ RAt K Hd (.ref x) C x rows ∧ ArgsOk K Hd vs' xs ∧ xs.length + 1 = n ∧ F rows xs qm ∧
  ∀ rv' rows' Hd' H', Grow T Hd H Hd' H' → Dt K Hd' rv' (.list rows') → qm rows' → spB C [.ref x, rv'] H' (fun _ H2 => Q .non H2) E
structure MtM (P : Program) (w : World) (K : PySem.W.Frag) (mg : Str → Option Value) (base : Heap) (T : Wd) (C : Addr) (m : Str) (k n : Nat) (F : Cm) : Prop where
  ex : ∃ (f : Addr) (fd : FuncData) (ps : List Str), FnOk P w K mg base (L2N.CX P w) k f fd ps (spM K T n C F) ∧ Meth K C m f ∧ Binds K fd ps []
  hn : ∀ rows xs qm, F rows xs qm → xs.length + 1 = n
  pk : PileK K C
  nf : NoF m
section
variable {P : Program} {w : World} {K : PySem.W.Frag} {mg : Str → Option Value} {base : Heap} {T : Wd}
theorem fn_dM {x qual : Str} {st : Stmt} {f C : Addr} {fd : FuncData} {N ps : List Str} {k : Nat} {F : Cm} (Fn : Fun K x qual st f fd) (S : FnScope N ps (defScope st))
    (hb : ∀ (cdv : Value) (A : Around) (outer : List Env) (s : Shared) (H : Hp) (E : XK), Room k (A.deeper (envOfC qual (defScope st) s.heap.objs.size f cdv)) →
      ∃ t, BM (cxOf (L2N.CX P w) P w K mg base N qual (defScope st) f cdv A outer s H E) T E C 0 (defBody st) t ∧ ∀ x rows xs qm, F rows xs qm → t { nx := fun _ => False, rt := fun _ => False, xc := fun _ => False } qm (dstart N (.r C x rows :: xs))) :
    FnOk P w K mg base (L2N.CX P w) (k + 1) f fd ps (spM K T ps.length C F) := by
  obtain ⟨oc, od, kV, doc, pm, an, cdv, ct, osl, e0, lk, hcd⟩ := Fn.ex
  subst e0
  refine fn_of lk hcd S (fun vs H Q E ⟨Hd, x, vs', rows, xs, qm, h0, h1, h2, h3, h4, h5, h6, _⟩ => by rw [h0, List.length_cons, h5.length, h6]) (fun A outer s H vs Q E hr h => ?_)
  obtain ⟨Hd, x, vs', rows, xs, qm, rfl, sb, nt, tb, ra, ar, hl, hF, hM⟩ := h
  obtain ⟨t, hbd, ht⟩ := hb cdv A outer s H E hr
  have hpl : ps.length ≤ N.length := by
    have z := congrArg List.length S.pre
    rw [List.length_take] at z
    omega
  refine ⟨_, hbd, { nx := fun _ => False, rt := fun _ => False, xc := fun _ => False }, prvOf Hd H, Hd, dstart N (.r C x rows :: xs), Hd, x, qm, sat_start (by rw [List.length_cons]; omega) sb nt tb (.cons ra ar), ⟨fun _ _ _ _ _ _ z => z.elim, fun _ _ _ _ _ _ z => z.elim, fun _ _ _ _ _ _ z => z.elim, fun _ _ _ _ _ _ z => z.elim, fun _ _ _ _ z => z.elim⟩, ⟨rows, rfl⟩, fun rv' rows' σ' Hd' H' o dt q => hM rv' rows' Hd' H' o.grow dt q, ht x rows xs qm hF⟩
end
def ownQ (v : Option (Option Vl)) (C : Addr) (k : PSt → Prop) : Prop := match v with
  | some (some (.q C' _ st)) => C' = C ∧ k st
  | _ => False
def dMut (C : Addr) (i : Nat) (F : Cm) (Al : DA) : DS := fun e ρ => ownQ ρ[i]? C fun st => Al e.xc ρ fun xs => noOwn xs = true ∧ onlyQ ρ i ∧ st.past.length < sizeLine ∧ F st.rows xs fun rows' => ∀ g', e.nx (ρ.set i (some (.q C g' ⟨rows', st.past ++ [.list st.rows], []⟩)))
section
variable {X : Cx} {T : Wd} {E : XK} {a b c e o tg iter : Expr} {es rest : List Expr} {pos p p2 apos spos : Pos} {Ta Tb Tc Te : DE} {Al : DA} {st : Stmt} {sts sts2 : List Stmt} {t u : DS} {C : Addr}
theorem mut_core {K : PySem.W.Frag} {n : Nat} {F : Cm} {i : Nat} {σ : St} {De : Ends} {e : DEnds} {Fr H0 : Hp} {ρ : DSt} {Hd1 H1 : Hp} {vs : List V} {xs : List Vl} {g : Gh} {st : PSt} (hn : ∀ rows xs qm, F rows xs qm → xs.length + 1 = n)
    (s1 : Sat K T Fr H0 ρ σ Hd1 H1) (hq : ρ[i]? = some (some (.q C g st))) (ok : EndsOk K T E Fr H0 ρ.length e De) (ok1 : VlsOk K Hd1 ρ σ vs xs) (hno : noOwn xs = true) (ho : onlyQ ρ i) (hp : st.past.length < sizeLine)
    (w1 : F st.rows xs fun rows' => ∀ g', e.nx (ρ.set i (some (.q C g' ⟨rows', st.past ++ [.list st.rows], []⟩)))) : spM K T n C F (.ref g.x :: vs) H1 (fun _ H2 => De.nx σ H2) E := by
  obtain ⟨v', h1', e1', qa⟩ := s1.slot i _ hq
  subst e1'
  obtain ⟨dx, rv, ps, as, a1, a2, a3, a4, a5, a6⟩ := qa.ex
  have h0 := (qa.out _ (.inl rfl)).1
  have npx : g.pp ≠ g.x := ne_of a2 a1 (by intro z; cases z)
  have nax : g.ap ≠ g.x := ne_of a3 a1 (by intro z; cases z)
  have sb : Sub Hd1 (upd Hd1 g.x (.ins C dx (pfl rv (.ref g.pp) (.ref g.ap)))) := Sub.new h0
  refine ⟨upd Hd1 g.x (.ins C dx (pfl rv (.ref g.pp) (.ref g.ap))), g.x, vs, st.rows, xs, _, rfl, fun b o e => ?_, s1.ntb.upd (fun _ z => by cases z) (fun _ z => by cases z), s1.tabs, ⟨dx, rv, _, _, rfl, upd_same, a4.mono sb⟩, noOwn_ok (ok1.mono sb) hno, hn _ _ _ w1, w1, fun rv' rows' Hd' H' gr dt w' => ?_⟩
  · by_cases z : b = g.x
    · subst z; rw [upd_same] at e; cases e; exact a1
    · rw [upd_ne z] at e; exact s1.keep _ _ e
  · have hx' := gr.dat _ _ upd_same
    have gd := gr.del h0 a1
    obtain ⟨p1, p2⟩ := gr.prv g.pp _ a2 (by rw [upd_ne npx]; exact (qa.out _ (.inr (.inl rfl))).1) (fun _ z => by cases z)
    refine ⟨g.x, rv', dx, rv, g.pp, g.ap, ps, rfl, gr.keep _ _ hx', p1, by rw [a5.length]; exact hp, fun a ha => ?_⟩
    have nap : a ≠ g.pp := fun z => by rw [z, p1] at ha; cases ha
    have nax' : a ≠ g.x := fun z => by rw [z, gr.keep _ _ hx'] at ha; cases ha
    have t1 : Tabs T.tb (upd H' g.pp (.lst (ps ++ [rv]))) := Tabs.put gr.tabs (fun _ z => by rw [p1] at z; cases z) fun _ _ z => by rw [p1] at z; unfold CodeO at z; cases z
    have ha1 : upd H' g.pp (.lst (ps ++ [rv])) a = none := by rw [upd_ne nap]; exact ha
    have t2 : Tabs T.tb (upd (upd H' g.pp (.lst (ps ++ [rv]))) a (.lst [])) := t1.ext (Sub.new ha1)
    have hx2 : upd (upd H' g.pp (.lst (ps ++ [rv]))) a (.lst []) g.x = some (.ins C dx (pfl rv (.ref g.pp) (.ref g.ap))) := by rw [upd_ne (Ne.symm nax'), upd_ne (Ne.symm npx)]; exact gr.keep _ _ hx'
    refine ok.nx _ _ (del Hd' g.x) _ (s1.mutQ (g' := ⟨g.x, g.pp, a⟩) hq ho gd.dat (fun b o eb => ?_) gd.ntb (Tabs.put t2 (fun _ z => by rw [hx2] at z; cases z) fun _ _ z => by rw [hx2] at z; unfold CodeO at z; cases z) (fun b o e1 e2 e3 n => ?_) ⟨dx, rv', _, _, upd_same, ?_, ?_, dt.delI hx', (a5.mono gd.dat).append (.cons (a4.mono gd.dat) .nil), .nil⟩ (fun b hb => ?_) (Ne.symm nap) rfl) (by rw [List.length_set]) (w' _)
    · obtain ⟨e1, n1⟩ := del_some eb
      have n2 : b ≠ g.pp := fun z => by rw [z, p2] at e1; cases e1
      have n3 : b ≠ a := fun z => by rw [z] at e1; rw [gr.keep _ _ e1] at ha; cases ha
      rw [upd_ne n1, upd_ne n3, upd_ne n2]
      exact gr.keep _ _ e1
    · have n1 : b ≠ g.x := fun z => n (.inl z)
      have n2 : b ≠ g.pp := fun z => n (.inr (.inl z))
      obtain ⟨k1, k2⟩ := gr.prv b o e1 (by rw [upd_ne n1]; exact e2) e3
      have n3 : b ≠ a := fun z => by rw [z, ha] at k1; cases k1
      refine ⟨by rw [upd_ne n1, upd_ne n3, upd_ne n2]; exact k1, by rw [del_ne n1]; exact k2, fun hb => ?_⟩
      rcases hb with z | z | z
      · exact n1 z
      · exact n2 z
      · exact n3 z
    · show upd (upd (upd H' g.pp (.lst (ps ++ [rv]))) a (.lst [])) g.x _ g.pp = _
      rw [upd_ne npx, upd_ne (Ne.symm nap), upd_same]
    · show upd (upd (upd H' g.pp (.lst (ps ++ [rv]))) a (.lst [])) g.x _ a = _
      rw [upd_ne nax', upd_same]
    · have hd0 : Hd' a = none := gr.keep.free ha
      rcases hb with z | z | z
      · have z : b = g.x := z
        subst z; exact ⟨del_same, (qa.out _ (.inl rfl)).2⟩
      · have z : b = g.pp := z
        subst z; exact ⟨by rw [del_ne npx]; exact p2, (qa.out _ (.inr (.inl rfl))).2⟩
      · have z : b = a := z
        subst z
        refine ⟨by rw [del_ne nax']; exact hd0, ?_⟩
        cases q : Fr b with
        | none => rfl
        | some o =>
          obtain ⟨f0, f1, f2⟩ := s1.frame b o q
          have := (gr.prv b o f1 (by rw [upd_ne nax']; exact f2) f0).1
          rw [ha] at this; cases this
theorem sd_mut {m : Str} {k n : Nat} {F : Cm} {pl : Sem Bool} (i : Nat) (M : MtM X.prog X.w X.K X.mg X.base T C m k n F) (hr : Room k X.A) (hx : Passes (L2N.CX X.prog X.w) X E) (hv : PE X o (tVar i)) (ha : AD X T E (e :: es) Al) (hs : swapsWith (.Call (.Attribute o m apos) (e :: es) [] pos) none spos.line X.env = pure false := by rfl)
    (hst : starEach (e :: es) X.env = (false, eval e X.env) :: starEach es X.env := by rfl) (hpl : (backTo pos (starEach es X.env)).any (·.1) = false := by rfl)
    (ht : eval (.Call (.Attribute o m apos) (e :: es) [] pos) X.env = (do
      let ov ← eval o X.env
      standAt apos.atName
      let (f, first) ← holding [ov] (getMethod ov m pl)
      callWith pos f first (backTo pos (starEach (e :: es) X.env)) (backToKw pos (keywordEach [] X.env))) := by rfl) :
    SD X T E (.Expr (.Call (.Attribute o m apos) (e :: es) [] pos) spos) (dMut C i F Al) := by
  obtain ⟨f, fd, ps, h1, h2, h3⟩ := M.ex
  refine ps_imp (ps_expr (pe_meth (pl := pl) hv M.pk.cl h2 h1 hr h3 .nil hx ha hst hpl ht) hs) fun De σ H ⟨e, Fr, H0, ρ, Hd, s, ok, w⟩ => ?_
  unfold dMut ownQ at w
  split at w
  · rename_i C' g st hq
    obtain ⟨rfl, w⟩ := w
    obtain ⟨v', h1', e1', qa⟩ := s.slot i _ hq
    subst e1'
    obtain ⟨dx, rv, ps, as, a1, a2, a3, a4, a5, a6⟩ := qa.ex
    refine ⟨_, h1', g.x, dx, _, rfl, a1, pfl_no M.nf _ _ _, e.xc, Fr, H0, ρ, Hd, _, s, w, ok.xok, fun vs xs Hd1 H1 s1 b1 ok1 w1 => ?_⟩
    show spM X.K T n C' F (V.ref g.x :: (vs ++ [])) H1 (fun _ H2 => De.nx σ H2) E
    rw [List.append_nil]
    exact mut_core M.hn s1 hq ok ok1 w1.1 w1.2.1 w1.2.2.1 w1.2.2.2
  · exact w.elim
theorem sd_mut0 {m : Str} {k n : Nat} {F : Cm} {pl : Sem Bool} (i : Nat) (M : MtM X.prog X.w X.K X.mg X.base T C m k n F) (hr : Room k X.A) (hx : Passes (L2N.CX X.prog X.w) X E) (hv : PE X o (tVar i)) (hs : swapsWith (.Call (.Attribute o m apos) [] [] pos) none spos.line X.env = pure false := by rfl)
    (ht : eval (.Call (.Attribute o m apos) [] [] pos) X.env = (do
      let ov ← eval o X.env
      standAt apos.atName
      let (f, first) ← holding [ov] (getMethod ov m pl)
      callWith pos f first (backTo pos (starEach [] X.env)) (backToKw pos (keywordEach [] X.env))) := by rfl) :
    SD X T E (.Expr (.Call (.Attribute o m apos) [] [] pos) spos) (dMut C i F dNil) := by
  obtain ⟨f, fd, ps, h1, h2, h3⟩ := M.ex
  refine ps_imp (ps_expr (pe_meth0 (pl := pl) hv M.pk.cl h2 h1 hr h3 .nil hx ht) hs) fun De σ H ⟨e, Fr, H0, ρ, Hd, s, ok, w⟩ => ?_
  unfold dMut ownQ at w
  split at w
  · rename_i C' g st hq
    obtain ⟨rfl, w⟩ := w
    obtain ⟨v', h1', e1', qa⟩ := s.slot i _ hq
    subst e1'
    obtain ⟨dx, rv, ps, as, a1, a2, a3, a4, a5, a6⟩ := qa.ex
    exact ⟨_, h1', g.x, dx, _, rfl, a1, pfl_no M.nf _ _ _, mut_core M.hn s hq ok .nil w.1 w.2.1 w.2.2.1 w.2.2.2⟩
  · exact w.elim
end
end DL

/-! Data: new piles; deeds taken back. -/
namespace DL
open PySem L2 LamX
open PyProof.Rows (envOfC)
theorem upd_comm {H : Hp} {a b : Addr} {o u : HO} (h : a ≠ b) : upd (upd H a o) b u = upd (upd H b u) a o := by
  funext c
  by_cases h1 : c = a
  · subst h1; rw [upd_ne h, upd_same, upd_same]
  · by_cases h2 : c = b
    · subst h2; rw [upd_same, upd_ne h1, upd_same]
    · rw [upd_ne h2, upd_ne h1, upd_ne h1, upd_ne h2]
def spI (C : Addr) : Sp := fun vs H Q _ => ∃ x dx, vs = [.ref x] ∧ H x = some (.ins C dx []) ∧ ∀ r p a, H r = none → H p = none → H a = none → r ≠ p → r ≠ a → p ≠ a → Q .non (upd (upd (upd (upd H r (.lst [])) p (.lst [])) a (.lst [])) x (.ins C dx (pfl (.ref r) (.ref p) (.ref a))))
structure NewK (P : Program) (w : World) (K : PySem.W.Frag) (mg : Str → Option Value) (base : Heap) (C : Addr) (k : Nat) : Prop where
  ex : ∃ (f : Addr) (fd : FuncData) (ps : List Str), FnOk P w K mg base (L2N.CX P w) k f fd ps (spI C) ∧ Mk K C f ∧ Binds K fd ps []
  mg : mg "Pile" = some (.ref C)
  pk : PileK K C
theorem new_core {K : PySem.W.Frag} {T : Wd} {E : XK} {C : Addr} {Fr H0 : Hp} {ρ : DSt} {σ : St} {Hd H : Hp} {Q : VK} {x dx : Addr} (s : Sat K T Fr H0 ρ σ Hd H) (hx : H x = none) (hdx : H dx = none) (n : dx ≠ x)
    (k : ∀ (g : Gh) (dx r : Addr) (Fr5 Hd5 H5 : Hp), Sat K T Fr5 H0 ρ σ Hd5 H5 → Sub Fr Fr5 → Sub Hd Hd5 → (∀ b, g.has b → (∃ o, Fr5 b = some o) ∧ Fr b = none) → Fr5 g.x = some (.ins C dx (pfl (.ref r) (.ref g.pp) (.ref g.ap))) → Fr5 g.pp = some (.lst []) → Fr5 g.ap = some (.lst []) → Dt K Hd5 (.ref r) (.list []) → g.pp ≠ g.ap → Q (.ref g.x) H5) :
    spI C [.ref x] (upd (upd H dx (.own x)) x (.ins C dx [])) (fun v H2 => v = .non ∧ Q (.ref x) H2) E := by
  refine ⟨x, dx, rfl, upd_same, fun r p a hr hp ha n1 n2 n3 => ⟨rfl, ?_⟩⟩
  have fr : ∀ {b}, H b = none → Fr b = none := fun {b} h => by
    cases q : Fr b with
    | none => rfl
    | some o => have z := (s.frame b o q).2.1; rw [h] at z; cases z
  have fre : ∀ {b}, upd (upd H dx (.own x)) x (.ins C dx []) b = none → b ≠ x ∧ b ≠ dx ∧ H b = none := fun {b} h => by
    have h1 : b ≠ x := fun z => by rw [z, upd_same] at h; cases h
    rw [upd_ne h1] at h
    have h2 : b ≠ dx := fun z => by rw [z, upd_same] at h; cases h
    rw [upd_ne h2] at h
    exact ⟨h1, h2, h⟩
  obtain ⟨r1, r2, r3⟩ := fre hr
  obtain ⟨p1, p2, p3⟩ := fre hp
  obtain ⟨a1, a2, a3⟩ := fre ha
  have s1 := s.hold (p := dx) (o := .own x) hdx (fun _ z => by cases z)
  have s2 := s1.lay (p := r) (o := .lst []) (by rw [upd_ne r2]; exact r3)
  have s3 := s2.hold (p := p) (o := .lst []) (by rw [upd_ne (Ne.symm n1), upd_ne p2]; exact p3) (fun _ z => by cases z)
  have s4 := s3.hold (p := a) (o := .lst []) (by rw [upd_ne (Ne.symm n3), upd_ne (Ne.symm n2), upd_ne a2]; exact a3) (fun _ z => by cases z)
  have s5 := s4.hold (p := x) (o := .ins C dx (pfl (.ref r) (.ref p) (.ref a))) (by rw [upd_ne (Ne.symm a1), upd_ne (Ne.symm p1), upd_ne (Ne.symm r1), upd_ne (Ne.symm n)]; exact hx) (fun _ z => by cases z)
  have eH : upd (upd (upd (upd (upd (upd H dx (.own x)) x (.ins C dx [])) r (.lst [])) p (.lst [])) a (.lst [])) x (.ins C dx (pfl (.ref r) (.ref p) (.ref a))) = upd (upd (upd (upd (upd H dx (.own x)) r (.lst [])) p (.lst [])) a (.lst [])) x (.ins C dx (pfl (.ref r) (.ref p) (.ref a))) := by
    rw [upd_comm (a := x) (b := r) (Ne.symm r1), upd_comm (a := x) (b := p) (Ne.symm p1), upd_comm (a := x) (b := a) (Ne.symm a1), upd_upd]
  rw [eH]
  refine k ⟨x, p, a⟩ dx r _ _ _ s5 (fun b o e => ?_) (Sub.new (s.keep.free r3)) (fun b hb => ?_) upd_same ?_ ?_ (Dt.lst upd_same .nil) n3
  · have hb := (s.frame b o e).2.1
    rw [upd_ne (ne_of_none hb hx), upd_ne (ne_of_none hb a3), upd_ne (ne_of_none hb p3), upd_ne (ne_of_none hb hdx)]
    exact e
  · rcases hb with z | z | z
    · have z : b = x := z
      subst z; exact ⟨⟨_, upd_same⟩, fr hx⟩
    · have z : b = p := z
      subst z; exact ⟨⟨_, by rw [upd_ne p1, upd_ne n3, upd_same]⟩, fr p3⟩
    · have z : b = a := z
      subst z; exact ⟨⟨_, by rw [upd_ne a1, upd_same]⟩, fr a3⟩
  · show upd (upd (upd (upd Fr dx (.own x)) p (.lst [])) a (.lst [])) x _ p = _
    rw [upd_ne p1, upd_ne n3, upd_same]
  · show upd (upd (upd (upd Fr dx (.own x)) p (.lst [])) a (.lst [])) x _ a = _
    rw [upd_ne a1, upd_same]
/-- pile = Pile() -/
def dNew (C : Addr) (i : Nat) : DS := fun e ρ => ∀ g, e.nx (ρ.set i (some (.q C g ⟨[], [], []⟩)))
/-- pile, other = Pile(), .. -/
def dNewPar (C : Addr) (i j : Nat) (Te : DE) : DS := fun e ρ => Te e.xc ρ fun v => vD v fun d => ∀ g, e.nx ((ρ.set i (some (.q C g ⟨[], [], []⟩))).set j (some (.d d)))
/-- f(Pile()) -/
def dFnNew (C : Addr) (F : Ct) : DE := fun xc _ Q => ∀ x, F [.r C x []] (fun d => Q (.d d)) xc
section
variable {X : Cx} {T : Wd} {E : XK} {a b c e o tg iter : Expr} {es rest : List Expr} {pos p p2 p3 apos spos : Pos} {Ta Tb Tc Te : DE} {Al : DA} {st : Stmt} {sts sts2 : List Stmt} {t u : DS} {C : Addr}
theorem sd_new {x : Str} {k : Nat} (i : Nat) (M : NewK X.prog X.w X.K X.mg X.base C k) (hr : Room (k + 1) X.A) (hpx : Passes (L2N.CX X.prog X.w) X E) (hN : X.N.Nodup) (hg : Gl X "Pile" := by rfl) (hi : X.N[i]? = some x := by rfl) (hx : Loc X.env.scope x := by first | exact Or.inl rfl | exact Or.inr rfl) (hs : swapsWith (.Call (.Name "Pile" p2) [] [] p3) (some (.Name x p)) pos.line X.env = pure false := by rfl) (hf : X.fn x = true ∨ X.env.scope.names.lookup x = some .local := by first | exact .inl rfl | exact .inr rfl) :
    SD X T E (.Assign [.Name x p] (.Call (.Name "Pile" p2) [] [] p3) pos) (dNew C i) := by
  obtain ⟨f, fd, ps, h1, h2, h3⟩ := M.ex
  refine ps_imp (ps_set hN hi hx (pe_make0 h2 h1 hr hg M.mg h3 .nil hpx) hs hf) fun De σ H ⟨e, Fr, H0, ρ, Hd, s, ok, w⟩ => ?_
  intro x dx hx hdx n
  refine new_core (Q := fun x H1 => gName i x σ H1 De.nx) s hx hdx n fun g dx r Fr5 Hd5 H5 s5 sF sD hin f1 f2 f3 dt ne => ?_
  exact ok.nx _ _ Hd5 H5 (s5.claimQ sF hin ⟨dx, _, _, _, (s5.frame _ _ f1).2.1, (s5.frame _ _ f2).2.1, (s5.frame _ _ f3).2.1, dt, .nil, .nil⟩ ne) (by rw [List.length_set]) (w g)
theorem sd_newPar {k : Nat} {kv : Nat} {py : Pos} (i j : Nat) (M : NewK X.prog X.w X.K X.mg X.base C k) (hr : Room (k + 1) X.A) (hpx : Passes (L2N.CX X.prog X.w) X E) (he : ED X T E e Te) (hg : PG X tg (gOf X.K (.tp [i, j]))) (hgl : Gl X "Pile" := by rfl)
    (h1 : starEach [.Call (.Name "Pile" p2) [] [] p3, e] X.env = (false, eval (.Call (.Name "Pile" p2) [] [] p3) X.env) :: starEach [e] X.env := by rfl) (h2 : starEach [e] X.env = (false, eval e X.env) :: starEach [] X.env := by rfl)
    (hs : swapsWithSole [tg] (.Tuple [.Call (.Name "Pile" p2) [] [] p3, e] kv py) pos.line X.env = pure false := by rfl) (hw : swappedStores [tg] (.Tuple [.Call (.Name "Pile" p2) [] [] p3, e] kv py) X.env = pure none := by rfl)
    (hsg : (assignEach [tg] X.env).map (·.2) = [assign tg X.env] := by rfl) : SD X T E (.Assign [tg] (.Tuple [.Call (.Name "Pile" p2) [] [] p3, e] kv py) pos) (dNewPar C i j Te) := by
  obtain ⟨f, fd, ps, k1, k2, k3⟩ := M.ex
  refine ps_imp (ps_asg (pe_tup (pa_cons (pe_make0 k2 k1 hr hgl M.mg k3 .nil hpx) (pa_cons he pa_nil h2) h1)) hg hs hw hsg) fun De σ H ⟨e, Fr, H0, ρ, Hd, s, ok, w⟩ => ?_
  intro x dx hx hdx n
  refine new_core (Q := fun x H1 => tCons (LE X.K T E Te) tNil σ H1 fun xs H2 => (x :: xs).length ≤ sizeLine ∧ ∀ p, H2 p = none → gOf X.K (.tp [i, j]) (.ref p) σ (upd H2 p (.tup (x :: xs))) De.nx) s hx hdx n fun g dx r Fr5 Hd5 H5 s5 sF sD hin f1 f2 f3 dt ne => ?_
  refine ⟨e.xc, Fr5, H0, ρ, Hd5, _, s5, w, fun C Hd H s h => ok.xc C Hd H (s.weakF sF).out h, fun v y Hd6 H6 s6 b6 ok6 w6 => ?_⟩
  unfold vD at w6
  split at w6
  · rename_i d
    refine ⟨by show 2 ≤ sizeLine; decide, fun p hp => ?_⟩
    have s7 := s6.hold (p := p) (o := .tup [.ref g.x, v]) hp (fun _ z => by cases z)
    have fp : Fr5 p = none := by
      cases q : Fr5 p with
      | none => rfl
      | some o => have z := (s6.frame p o q).2.1; rw [hp] at z; cases z
    have sF7 : Sub Fr5 (upd Fr5 p (.tup [.ref g.x, v])) := Sub.new fp
    have c7 := s7.claimQ (i := i) (C := C) (g := g) (st := ⟨[], [], []⟩) (sF.trans sF7) (fun b hb => ⟨(hin b hb).1.elim fun o ho => ⟨o, sF7 _ _ ho⟩, (hin b hb).2⟩) ⟨dx, _, _, _, (s7.frame _ _ (sF7 _ _ f1)).2.1, (s7.frame _ _ (sF7 _ _ f2)).2.1, (s7.frame _ _ (sF7 _ _ f3)).2.1, dt.mono b6, .nil, .nil⟩ ne
    refine ⟨p, _, rfl, SqT.of upd_same, rfl, _, _, rfl, _, _, rfl, rfl, ?_⟩
    exact ok.nx _ _ Hd6 _ (c7.set ok6) (by rw [List.length_set, List.length_set]) (w6 g)
  · exact w6.elim
theorem de_fnNew {x : Str} {k k2 n : Nat} {F : Ct} (G : Df X.prog X.w X.K X.mg X.base T x k n F) (M : NewK X.prog X.w X.K X.mg X.base C k2) (hr : Room k X.A) (hr2 : Room (k2 + 1) X.A) (hx : Passes (L2N.CX X.prog X.w) X E)
    (hg : Gl X x := by rfl) (hg2 : Gl X "Pile" := by rfl) (hdb : (x == ("__debug__" : Str)) = false := by decide) (he : starEach [.Call (.Name "Pile" p2) [] [] p3] X.env = (false, eval (.Call (.Name "Pile" p2) [] [] p3) X.env) :: starEach [] X.env := by rfl) (hpl : (backTo pos (starEach [] X.env)).any (·.1) = false := by rfl) :
    ED X T E (.Call (.Name x p) [.Call (.Name "Pile" p2) [] [] p3] [] pos) (dFnNew C F) := by
  obtain ⟨f, fd, ps, h1, h2, h3, h4⟩ := G.ex
  obtain ⟨f', fd', ps', k1, k2, k3⟩ := M.ex
  refine pe_imp (pe_call h1 hr hg h2 h3 h4 .nil hx (pa_cons (pe_make0 k2 k1 hr2 hg2 M.mg k3 .nil hx) pa_nil he) hdb he hpl) fun σ H Q ⟨xc, Fr, H0, ρ, Hd, q, s, w, hx, k⟩ => ?_
  intro x dx nx ndx n'
  refine new_core (Q := fun x H1 => spD X.K T n F [x] H1 Q E) s nx ndx n' fun g dx r Fr5 Hd5 H5 s5 sF sD hin f1 f2 f3 dt ne => ?_
  obtain ⟨_, g1, g2⟩ := s5.frame _ _ f1
  have w1 := w g.x
  have sb : Sub Hd5 (upd Hd5 g.x (.ins C dx (pfl (.ref r) (.ref g.pp) (.ref g.ap)))) := Sub.new g2
  refine ⟨upd Hd5 g.x (.ins C dx (pfl (.ref r) (.ref g.pp) (.ref g.ap))), [.r C g.x []], fun d => q (.d d), xc, fun b o e => ?_, s5.ntb.upd (fun _ z => by cases z) (fun _ z => by cases z), s5.tabs, .cons ⟨dx, _, _, _, rfl, upd_same, dt.mono sb⟩ .nil, G.hn _ _ _ w1, w1, fun d v Hd2 H2 gr dt qd => ?_, fun C Hd2 H2 gr xC => ?_⟩
  · by_cases z : b = g.x
    · subst z; rw [upd_same] at e; cases e; exact g1
    · rw [upd_ne z] at e; exact s5.keep _ _ e
  · exact k v (.d d) (del Hd2 g.x) H2 ((s5.grow (gr.del g2 g1)).weakF sF) (sD.trans (gr.del g2 g1).dat) (dt.delI (gr.dat _ _ upd_same)) qd
  · exact hx C _ H2 ((s5.grow (gr.del g2 g1)).weakF sF) xC
end
/-! ### undo, redo -/
def spU (K : PySem.W.Frag) (T : Wd) (C : Addr) : Sp := fun vs H Q E => ∃ x dx rv pp ap ps as, vs = [.ref x] ∧ H x = some (.ins C dx (pfl rv (.ref pp) (.ref ap))) ∧ H pp = some (.lst ps) ∧ H ap = some (.lst as) ∧ pp ≠ ap ∧
  ((ps = [] ∧ ∀ l, H l = none → E (.ref (T.ca "Nothing")) none (upd H l (.lst []))) ∨ ∃ ps0 y ds, ps = ps0 ++ [y] ∧ as.length < sizeLine ∧ (∀ l, H l = none → DpAll K (upd H l (.lst [])) ps ds) ∧ okD 40 (.list ds) = true ∧ ∀ l, H l = none → Q .non (upd (upd (upd (upd H l (.lst [])) ap (.lst (as ++ [rv]))) pp (.lst ps0)) x (.ins C dx (pfl y (.ref pp) (.ref ap)))))
def spR (T : Wd) (C : Addr) : Sp := fun vs H _ E => ∃ x dx rv pp ap, vs = [.ref x] ∧ H x = some (.ins C dx (pfl rv (.ref pp) (.ref ap))) ∧ H ap = some (.lst []) ∧ ∀ l, H l = none → E (.ref (T.ca "Nothing")) none (upd H l (.lst []))
structure SpK (P : Program) (w : World) (K : PySem.W.Frag) (mg : Str → Option Value) (base : Heap) (C : Addr) (m : Str) (k : Nat) (sp : Sp) : Prop where
  ex : ∃ (f : Addr) (fd : FuncData) (ps : List Str), FnOk P w K mg base (L2N.CX P w) k f fd ps sp ∧ Meth K C m f ∧ Binds K fd ps []
  pk : PileK K C
def dUndoR (C : Addr) (i : Nat) : DE := fun xc ρ _ => ownQ ρ[i]? C fun st => st.past = [] ∧ xc "Nothing"
def dRedoR (C : Addr) (i : Nat) : DE := fun xc ρ _ => ownQ ρ[i]? C fun st => st.ahead = [] ∧ xc "Nothing"
def dUndo (C : Addr) (i : Nat) : DS := fun e ρ => ownQ ρ[i]? C fun st => onlyQ ρ i ∧ ∃ p0 rows', st.past = p0 ++ [.list rows'] ∧ okD 40 (.list st.past) = true ∧ st.ahead.length < sizeLine ∧ ∀ g', e.nx (ρ.set i (some (.q C g' ⟨rows', p0, st.ahead ++ [.list st.rows]⟩)))
theorem nf_undo : NoF "undo" := ⟨by decide +kernel, by decide +kernel, by decide +kernel⟩
theorem nf_redo : NoF "redo" := ⟨by decide +kernel, by decide +kernel, by decide +kernel⟩
section
variable {X : Cx} {T : Wd} {E : XK} {a b c e o tg iter : Expr} {es rest : List Expr} {pos p p2 p3 apos spos : Pos} {Ta Tb Tc Te : DE} {Al : DA} {st : Stmt} {sts sts2 : List Stmt} {t u : DS} {C : Addr}
theorem de_undoR {k : Nat} {pl : Sem Bool} (i : Nat) (M : SpK X.prog X.w X.K X.mg X.base C "undo" k (spU X.K T C)) (hr : Room k X.A) (hx : Passes (L2N.CX X.prog X.w) X E) (hv : PE X o (tVar i))
    (ht : eval (.Call (.Attribute o "undo" apos) [] [] pos) X.env = (do
      let ov ← eval o X.env
      standAt apos.atName
      let (f, first) ← holding [ov] (getMethod ov "undo" pl)
      callWith pos f first (backTo pos (starEach [] X.env)) (backToKw pos (keywordEach [] X.env))) := by rfl) :
    ED X T E (.Call (.Attribute o "undo" apos) [] [] pos) (dUndoR C i) := by
  obtain ⟨f, fd, ps, h1, h2, h3⟩ := M.ex
  refine pe_imp (pe_meth0 (pl := pl) hv M.pk.cl h2 h1 hr h3 .nil hx ht) fun σ H Q ⟨xc, Fr, H0, ρ, Hd, q, s, w, hx, k⟩ => ?_
  unfold dUndoR ownQ at w
  split at w
  · rename_i C' g st hq
    obtain ⟨rfl, w1, w2⟩ := w
    obtain ⟨v', h1', e1', qa⟩ := s.slot i _ hq
    subst e1'
    obtain ⟨dx, rv, ps, as, a1, a2, a3, a4, a5, a6⟩ := qa.ex
    rw [w1] at a5
    cases a5
    exact ⟨_, h1', g.x, dx, _, rfl, a1, pfl_no nf_undo _ _ _, g.x, dx, rv, g.pp, g.ap, [], as, rfl, a1, a2, a3, qa.ne, .inl ⟨rfl, fun l hl => hx _ _ _ (s.lay (o := .lst []) hl) w2⟩⟩
  · exact w.elim
theorem de_redoR {k : Nat} {pl : Sem Bool} (i : Nat) (M : SpK X.prog X.w X.K X.mg X.base C "redo" k (spR T C)) (hr : Room k X.A) (hx : Passes (L2N.CX X.prog X.w) X E) (hv : PE X o (tVar i))
    (ht : eval (.Call (.Attribute o "redo" apos) [] [] pos) X.env = (do
      let ov ← eval o X.env
      standAt apos.atName
      let (f, first) ← holding [ov] (getMethod ov "redo" pl)
      callWith pos f first (backTo pos (starEach [] X.env)) (backToKw pos (keywordEach [] X.env))) := by rfl) :
    ED X T E (.Call (.Attribute o "redo" apos) [] [] pos) (dRedoR C i) := by
  obtain ⟨f, fd, ps, h1, h2, h3⟩ := M.ex
  refine pe_imp (pe_meth0 (pl := pl) hv M.pk.cl h2 h1 hr h3 .nil hx ht) fun σ H Q ⟨xc, Fr, H0, ρ, Hd, q, s, w, hx, k⟩ => ?_
  unfold dRedoR ownQ at w
  split at w
  · rename_i C' g st hq
    obtain ⟨rfl, w1, w2⟩ := w
    obtain ⟨v', h1', e1', qa⟩ := s.slot i _ hq
    subst e1'
    obtain ⟨dx, rv, ps, as, a1, a2, a3, a4, a5, a6⟩ := qa.ex
    rw [w1] at a6
    cases a6
    exact ⟨_, h1', g.x, dx, _, rfl, a1, pfl_no nf_redo _ _ _, g.x, dx, rv, g.pp, g.ap, rfl, a1, a3, fun l hl => hx _ _ _ (s.lay (o := .lst []) hl) w2⟩
  · exact w.elim
theorem sd_undo {k : Nat} {pl : Sem Bool} (i : Nat) (M : SpK X.prog X.w X.K X.mg X.base C "undo" k (spU X.K T C)) (hr : Room k X.A) (hx : Passes (L2N.CX X.prog X.w) X E) (hv : PE X o (tVar i)) (hs : swapsWith (.Call (.Attribute o "undo" apos) [] [] pos) none spos.line X.env = pure false := by rfl)
    (ht : eval (.Call (.Attribute o "undo" apos) [] [] pos) X.env = (do
      let ov ← eval o X.env
      standAt apos.atName
      let (f, first) ← holding [ov] (getMethod ov "undo" pl)
      callWith pos f first (backTo pos (starEach [] X.env)) (backToKw pos (keywordEach [] X.env))) := by rfl) :
    SD X T E (.Expr (.Call (.Attribute o "undo" apos) [] [] pos) spos) (dUndo C i) := by
  obtain ⟨f, fd, ps, h1, h2, h3⟩ := M.ex
  refine ps_imp (ps_expr (pe_meth0 (pl := pl) hv M.pk.cl h2 h1 hr h3 .nil hx ht) hs) fun De σ H ⟨e, Fr, H0, ρ, Hd, s, ok, w⟩ => ?_
  unfold dUndo ownQ at w
  split at w
  · rename_i C' g st hq
    obtain ⟨rfl, ho, p0, rows', w1, w2, w3, w4⟩ := w
    obtain ⟨v', h1', e1', qa⟩ := s.slot i _ hq
    subst e1'
    obtain ⟨dx, rv, ps, as, a1, a2, a3, a4, a5, a6⟩ := qa.ex
    have npx : g.pp ≠ g.x := ne_of a2 a1 (by intro z; cases z)
    have nax : g.ap ≠ g.x := ne_of a3 a1 (by intro z; cases z)
    obtain ⟨ps0, y, rfl, d0, dy⟩ : ∃ ps0 y, ps = ps0 ++ [y] ∧ DtA X.K Hd ps0 p0 ∧ Dt X.K Hd y (.list rows') := by
      rw [w1] at a5
      have hl := a5.length
      rw [List.length_append, List.length_singleton] at hl
      have t1 := a5.take p0.length
      rw [List.take_left' rfl] at t1
      have t2 := a5.drop p0.length
      rw [List.drop_left' rfl] at t2
      cases hd : ps.drop p0.length with
      | nil => rw [hd] at t2; cases t2
      | cons y ys =>
        rw [hd] at t2
        cases t2 with
        | cons k1 k2 =>
          cases k2
          refine ⟨ps.take p0.length, y, ?_, t1, k1⟩
          rw [← hd, List.take_append_drop]
    have hpl : okD 40 (.list st.past) = true := w2
    have dpa : ∀ l, H l = none → DpAll X.K (upd H l (.lst [])) (ps0 ++ [y]) st.past := fun l hl => (a5.mono (s.keep.trans (Sub.new hl))).dp (by have z := okD_plain _ _ hpl; simpa [PyData.plain] using z)
    refine ⟨_, h1', g.x, dx, _, rfl, a1, pfl_no nf_undo _ _ _, g.x, dx, rv, g.pp, g.ap, _, as, rfl, a1, a2, a3, qa.ne, .inr ⟨ps0, y, st.past, rfl, by rw [a6.length]; exact w3, dpa, w2, fun l hl => ?_⟩⟩
    have sl := s.lay (o := .lst []) hl
    have sb : Sub Hd (upd Hd l (.lst [])) := Sub.new (s.keep.free hl)
    obtain ⟨_, _, _, qb⟩ := sl.slot i _ hq
    have c1 := (ne_of_none a1 hl)
    have c2 := (ne_of_none a2 hl)
    have c3 := (ne_of_none a3 hl)
    have a1 : upd H l (.lst []) g.x = _ := Eq.trans (upd_ne c1) a1
    have a2 : upd H l (.lst []) g.pp = _ := Eq.trans (upd_ne c2) a2
    have a3 : upd H l (.lst []) g.ap = _ := Eq.trans (upd_ne c3) a3
    generalize upd H l (.lst []) = H' at sl a1 a2 a3 qb ⊢
    have b1 : ∀ b, b ≠ g.x → b ≠ g.pp → b ≠ g.ap → upd (upd (upd H' g.ap (.lst (as ++ [rv]))) g.pp (.lst ps0)) g.x (.ins C' dx (pfl y (.ref g.pp) (.ref g.ap))) b = H' b := fun b n1 n2 n3 => by rw [upd_ne n1, upd_ne n2, upd_ne n3]
    have t1 : Tabs T.tb (upd H' g.ap (.lst (as ++ [rv]))) := Tabs.put sl.tabs (fun _ z => by rw [a3] at z; cases z) fun _ _ z => by rw [a3] at z; unfold CodeO at z; cases z
    have a2' : upd H' g.ap (.lst (as ++ [rv])) g.pp = some (.lst (ps0 ++ [y])) := by rw [upd_ne qa.ne]; exact a2
    have t2 : Tabs T.tb (upd (upd H' g.ap (.lst (as ++ [rv]))) g.pp (.lst ps0)) := Tabs.put t1 (fun _ z => by rw [a2'] at z; cases z) fun _ _ z => by rw [a2'] at z; unfold CodeO at z; cases z
    have a1' : upd (upd H' g.ap (.lst (as ++ [rv]))) g.pp (.lst ps0) g.x = some (.ins C' dx (pfl rv (.ref g.pp) (.ref g.ap))) := by rw [upd_ne (Ne.symm npx), upd_ne (Ne.symm nax)]; exact a1
    refine ok.nx _ _ _ _ (sl.mutQ (g' := g) hq ho (Sub.refl _) (fun b o eb => ?_) sl.ntb (Tabs.put t2 (fun _ z => by rw [a1'] at z; cases z) fun _ _ z => by rw [a1'] at z; unfold CodeO at z; cases z) (fun b o e1 e2 e3 n => ?_) ⟨dx, y, _, _, upd_same, ?_, ?_, dy.mono sb, d0.mono sb, (a6.append (.cons a4 .nil)).mono sb⟩ (fun b hb => qb.out b hb) qa.ne rfl) (by rw [List.length_set]) (w4 _)
    · rw [b1 b (fun z => by rw [z, (qb.out _ (.inl rfl)).1] at eb; cases eb) (fun z => by rw [z, (qb.out _ (.inr (.inl rfl))).1] at eb; cases eb) (fun z => by rw [z, (qb.out _ (.inr (.inr rfl))).1] at eb; cases eb)]
      exact sl.keep _ _ eb
    · rw [b1 b (fun z => n (.inl z)) (fun z => n (.inr (.inl z))) (fun z => n (.inr (.inr z)))]
      exact ⟨e1, e2, n⟩
    · rw [upd_ne npx, upd_same]
    · rw [upd_ne nax, upd_ne (Ne.symm qa.ne), upd_same]
  · exact w.elim
end
end DL

/-! The readings of the defs (printed). -/
namespace DL
open PySem
def t__law_drawn : DS :=
  dSeq (dSet 2 (dOp gMod (dOp gAdd (dOp gMul (dVar 0) (dC (.int 6364136223846793005))) (dOp gMul (dOp gAdd (dVar 1) (dC (.int 1))) (dC (.int 1442695040888963407)))) (dC (.int 340282366920938463463374607431768211507)))) (dSeq (dSet 2 (dOp gMod (dOp gMul (dVar 2) (dVar 2)) (dC (.int 340282366920938463463374607431768211297)))) (dSeq (dSet 2 (dOp gMul (dOp gMul (dOp gAdd (dOp gMod (dVar 2) (dC (.int 18446744073709551557))) (dC (.int 1))) (dOp gAdd (dOp gFdiv (dVar 2) (dC (.int 18446744073709551557))) (dC (.int 1)))) (dVar 2))) (dRet (dOp gMod (dVar 2) (dC (.int 340282366920938463463374607431768211507))))))
def t__law_row (F__law_drawn : Ct) : DS :=
  dSeq (dOwnL 2 (dNil)) (dSeq (dFor (dRng1 (dCons (dOp gAdd (dC (.int 1)) (dOp gMod (dVar 0) (dVar 1))) (dNil))) (.nm 3) (dSeq (dSet 4 (dCall F__law_drawn (dCons (dVar 0) (dCons (dVar 3) (dNil))))) (dSeq (dSet 5 (dOp gIx (dLst (dCons (dC (.int 1)) (dCons (dC (.int 2)) (dCons (dC (.int 8)) (dCons (dC (.int 1)) (dCons (dC (.int 3)) (dCons (dC (.int 12)) (dCons (dC (.int 27)) (dCons (dC (.int 2)) (dCons (dC (.int 5)) (dCons (dC (.int 50)) (dCons (dC (.int 99)) (dCons (dOp gAdd (dC (.int 1)) (dOp gMod (dOp gFdiv (dVar 4) (dOp gPow (dC (.int 2)) (dC (.int 20)))) (dC (.int 99)))) (dNil)))))))))))))) (dOp gMod (dVar 4) (dC (.int 12))))) (dSeq (dSet 6 (dOp gIx (dLst (dCons (dOp gSub (dOp gMod (dOp gFdiv (dVar 4) (dC (.int 64))) (dC (.int 9))) (dC (.int 4))) (dCons (dOp gSub (dOp gMod (dOp gFdiv (dVar 4) (dC (.int 64))) (dC (.int 199))) (dC (.int 99))) (dCons (dOp gAdd (dC (.int 1)) (dOp gMod (dOp gFdiv (dVar 4) (dC (.int 64))) (dC (.int 3)))) (dNil))))) (dOp gMod (dOp gFdiv (dVar 4) (dC (.int 16))) (dC (.int 3))))) (dApp 2 (dTup (dCons (dVar 6) (dCons (dVar 5) (dNil))))))))) (dRet (dVar 2)))
def t__law_cell : DS :=
  dSeq (dIf (dTest (dOp gEq (dVar 0) (dLst (dNil)))) (dRet (dOp gMul (dVar 1) (dC (.int 7919)))) (dNext)) (dRet (dOp gAdd (dOp gIx (dVar 0) (dOp gMod (dVar 1) (dCB gLen (dCons (dVar 0) (dNil))))) (dOp gMul (dOp gFdiv (dVar 1) (dCB gLen (dCons (dVar 0) (dNil)))) (dC (.int 104729)))))
def t_is_count : DS :=
  dRet (dAndV (dIsi "int" (dVar 0)) (dAndV (dNotV (dIsi "bool" (dVar 0))) (dChain gLe gLe (dVar 1) (dVar 0) (dVar 2))))
def t_is_number (F_is_count : Ct) : DS :=
  dSeq (dSet 1 (dAndV (dIsi "tuple" (dVar 0)) (dOp gEq (dCB gLen (dCons (dVar 0) (dNil))) (dC (.int 2))))) (dRet (dAndV (dVar 1) (dAndV (dCall F_is_count (dCons (dOp gIx (dVar 0) (dC (.int 0))) (dCons (dOp gSub (dC (.int 0)) (dC (.int (99)))) (dCons (dC (.int (99))) (dNil))))) (dCall F_is_count (dCons (dOp gIx (dVar 0) (dC (.int 1))) (dCons (dC (.int 1)) (dCons (dC (.int (99))) (dNil))))))))
def t_need_number (F_is_number : Ct) : DS :=
  dIf (dNot (dTest (dCall F_is_number (dCons (dVar 0) (dNil))))) (dRaise "BadNumber") (dNext)
def t_plain_of : DS :=
  dSeq (dAsg (.tp [1, 2]) (dVar 0)) (dSeq (dSet 3 (dC (.int 2))) (dSeq (dWhile (dTest (dOp gLe (dOp gMul (dVar 3) (dVar 3)) (dVar 2))) (dIf (dTest (dOp gEq (dOp gMod (dVar 2) (dOp gMul (dVar 3) (dVar 3))) (dC (.int 0)))) (dPar 1 2 (dCons (dOp gMul (dVar 1) (dVar 3)) (dCons (dOp gFdiv (dVar 2) (dOp gMul (dVar 3) (dVar 3))) (dNil)))) (dSet 3 (dOp gAdd (dVar 3) (dC (.int 1)))))) (dRet (dIfE (dTest (dOp gNe (dVar 1) (dC (.int 0)))) (dTup (dCons (dVar 1) (dCons (dVar 2) (dNil)))) (dTup (dCons (dC (.int 0)) (dCons (dC (.int 1)) (dNil))))))))
def t_plain (F_need_number : Ct) (F_plain_of : Ct) : DS :=
  dSeq (dDrop (dCall F_need_number (dCons (dVar 0) (dNil)))) (dRet (dCall F_plain_of (dCons (dVar 0) (dNil))))
def t_need_row (F_is_number : Ct) : DS :=
  dIf (dOr (dNot (dTest (dIsi "list" (dVar 0)))) (dOr (dNot (dTest (dChain gLe gLe (dC (.int 1)) (dCB gLen (dCons (dVar 0) (dNil))) (dC (.int (5)))))) (dNot (dTest (dCB gAll (dCons (dLc (dWalk (dVar 0)) (.nm 1) (dYes) (dCall F_is_number (dCons (dVar 1) (dNil))) [1]) (dNil))))))) (dRaise "BadRow") (dNext)
def t_need_times (F_is_count : Ct) : DS :=
  dSeq (dSet 2 (dAndV (dIsi "list" (dVar 1)) (dOp gEq (dCB gLen (dCons (dVar 1) (dNil))) (dCB gLen (dCons (dVar 0) (dNil)))))) (dIf (dOr (dNot (dTest (dVar 2))) (dNot (dTest (dCB gAll (dCons (dLc (dWalk (dVar 1)) (.nm 3) (dYes) (dCall F_is_count (dCons (dVar 3) (dCons (dOp gSub (dC (.int 0)) (dC (.int (1000)))) (dCons (dC (.int (1000))) (dNil))))) [3]) (dNil)))))) (dRaise "BadRow") (dNext))
def t_need_count (F_is_count : Ct) : DS :=
  dIf (dNot (dTest (dCall F_is_count (dCons (dVar 0) (dCons (dVar 1) (dCons (dVar 2) (dNil))))))) (dRaise "BadNumber") (dNext)
def t_root_below : DS :=
  dSeq (dPar 1 2 (dCons (dC (.int 0)) (dCons (dOp gAdd (dVar 0) (dC (.int 1))) (dNil)))) (dSeq (dWhile (dTest (dOp gGt (dOp gSub (dVar 2) (dVar 1)) (dC (.int 1)))) (dSeq (dSet 3 (dOp gFdiv (dOp gAdd (dVar 1) (dVar 2)) (dC (.int 2)))) (dIf (dTest (dOp gLe (dOp gMul (dVar 3) (dVar 3)) (dVar 0))) (dSet 1 (dVar 3)) (dSet 2 (dVar 3))))) (dRet (dVar 1)))
def t_power_of : DS :=
  dSeq (dSet 1 (dC (.int 1))) (dSeq (dFor (dRng1 (dCons (dVar 0) (dNil))) (.nm 2) (dSet 1 (dOp gMul (dVar 1) (dC (.int 10))))) (dRet (dVar 1)))
def t_digits_of (F_power_of : Ct) (F_root_below : Ct) : DS :=
  dSeq (dAsg (.tp [2, 3]) (dVar 0)) (dSeq (dSet 4 (dOp gMul (dOp gMul (dOp gMul (dVar 2) (dVar 2)) (dVar 3)) (dCall F_power_of (dCons (dOp gMul (dC (.int 2)) (dVar 1)) (dNil))))) (dSeq (dSet 5 (dCall F_root_below (dCons (dVar 4) (dNil)))) (dSeq (dIf (dTest (dOp gGe (dVar 2) (dC (.int 0)))) (dRet (dVar 5)) (dNext)) (dRet (dIfE (dTest (dOp gEq (dOp gMul (dVar 5) (dVar 5)) (dVar 4))) (dOp gSub (dC (.int 0)) (dVar 5)) (dOp gSub (dOp gSub (dC (.int 0)) (dVar 5)) (dC (.int 1))))))))
def t_digits (F_need_number : Ct) (F_need_count : Ct) (F_digits_of : Ct) : DS :=
  dSeq (dDrop (dCall F_need_number (dCons (dVar 0) (dNil)))) (dSeq (dDrop (dCall F_need_count (dCons (dVar 1) (dCons (dC (.int 0)) (dCons (dC (.int (30))) (dNil)))))) (dRet (dCall F_digits_of (dCons (dVar 0) (dCons (dVar 1) (dNil))))))
def t__law_refused_k10 (cs : List Str) (F_plain : Ct) (F_digits : Ct) (F_need_row : Ct) (F_need_times : Ct) : DS :=
  dSeq (dSet 1 (dLst (dCons (dC .none) (dCons (dTup (dNil)) (dCons (dTup (dCons (dC (.int 1)) (dNil))) (dCons (dLst (dCons (dC (.int 1)) (dCons (dC (.int 2)) (dNil)))) (dCons (dTup (dCons (dC (.int 1)) (dCons (dC (.int 0)) (dNil)))) (dCons (dTup (dCons (dC (.int 1)) (dCons (dC (.int 100)) (dNil)))) (dCons (dTup (dCons (dC (.int 100)) (dCons (dC (.int 1)) (dNil)))) (dCons (dTup (dCons (dNeg (dC (.int 100))) (dCons (dC (.int 1)) (dNil)))) (dCons (dTup (dCons (dC (.bool true)) (dCons (dC (.int 1)) (dNil)))) (dCons (dTup (dCons (dC (.int 1)) (dCons (dC (.bool true)) (dNil)))) (dNil))))))))))))) (dSeq (dFor (dWalk (dOp gAdd (dVar 1) (dLst (dCons (dTup (dCons (dC (.int 1)) (dCons (dC .none) (dNil)))) (dCons (dTup (dCons (dC (.int 1)) (dCons (dC (.int 2)) (dCons (dC (.int 3)) (dNil))))) (dNil)))))) (.nm 2) (dSeq (dOwnL 3 (dCons (dTold cs (dCall F_plain (dCons (dVar 2) (dNil)))) (dNil))) (dSeq (dApp 3 (dTold cs (dCall F_digits (dCons (dVar 2) (dCons (dC .none) (dNil)))))) (dIf (dOr (dTest (dOp gNe (dVar 3) (dOp gMul (dLst (dCons (dC (.str "BadNumber")) (dNil))) (dC (.int 2))))) (dTest (dOp gNe (dTold cs (dCall F_need_row (dCons (dLst (dCons (dVar 2) (dNil))) (dNil)))) (dC (.str "BadRow"))))) (dRet (dC (.bool false))) (dNext))))) (dSeq (dFor (dWalk (dLst (dCons (dNeg (dC (.int 1))) (dCons (dC (.int 31)) (dCons (dC .none) (dCons (dC (.bool true)) (dNil))))))) (.nm 2) (dIf (dTest (dOp gNe (dTold cs (dCall F_digits (dCons (dTup (dCons (dC (.int 1)) (dCons (dC (.int 2)) (dNil)))) (dCons (dVar 2) (dNil))))) (dC (.str "BadNumber")))) (dRet (dC (.bool false))) (dNext))) (dSeq (dFor (dWalk (dLst (dCons (dC .none) (dCons (dTup (dNil)) (dCons (dLst (dNil)) (dCons (dCB gTupleOf (dCons (dVar 0) (dNil))) (dCons (dOp gMul (dLst (dCons (dTup (dCons (dC (.int 1)) (dCons (dC (.int 1)) (dNil)))) (dNil))) (dC (.int 6))) (dNil)))))))) (.nm 2) (dIf (dTest (dOp gNe (dTold cs (dCall F_need_row (dCons (dVar 2) (dNil)))) (dC (.str "BadRow")))) (dRet (dC (.bool false))) (dNext))) (dSeq (dSet 4 (dCB gLen (dCons (dVar 0) (dNil)))) (dSeq (dFor (dWalk (dLst (dCons (dC .none) (dCons (dOp gMulT (dTup (dCons (dC (.int 0)) (dNil))) (dVar 4)) (dCons (dOp gMul (dLst (dCons (dC (.int 0)) (dNil))) (dOp gAdd (dVar 4) (dC (.int 1)))) (dCons (dOp gMul (dLst (dCons (dC (.int 1001)) (dNil))) (dVar 4)) (dCons (dOp gMul (dLst (dCons (dC (.bool true)) (dNil))) (dVar 4)) (dCons (dOp gMul (dLst (dCons (dC .none) (dNil))) (dVar 4)) (dNil))))))))) (.nm 2) (dIf (dTest (dOp gNe (dTold cs (dCall F_need_times (dCons (dVar 0) (dCons (dVar 2) (dNil))))) (dC (.str "BadRow")))) (dRet (dC (.bool false))) (dNext))) (dSeq (dSet 5 (dOp gMul (dLst (dCons (dNeg (dC (.int 1000))) (dNil))) (dCB gLen (dCons (dVar 0) (dNil))))) (dRet (dAndV (dOp gIs (dCall F_need_row (dCons (dVar 0) (dNil))) (dC .none)) (dAndV (dOp gIs (dCall F_need_times (dCons (dVar 0) (dCons (dVar 5) (dNil)))) (dC .none)) (dOp gEq (dVar 5) (dOp gMul (dLst (dCons (dNeg (dC (.int 1000))) (dNil))) (dCB gLen (dCons (dVar 0) (dNil))))))))))))))
def t__law_root : DS :=
  dSeq (dIf (dTest (dOp gLt (dVar 0) (dC (.int 2)))) (dRet (dVar 0)) (dNext)) (dSeq (dSet 1 (dCB gIntS (dCons (dOp gAdd (dC (.str "1")) (dOp gMulS (dC (.str "0")) (dOp gFdiv (dOp gAdd (dCB gLen (dCons (dCB gStrB (dCons (dVar 0) (dNil))) (dNil))) (dC (.int 1))) (dC (.int 2))))) (dNil)))) (dSeq (dSet 2 (dOp gFdiv (dOp gAdd (dVar 1) (dOp gFdiv (dVar 0) (dVar 1))) (dC (.int 2)))) (dSeq (dWhile (dTest (dOp gLt (dVar 2) (dVar 1))) (dSeq (dSet 1 (dVar 2)) (dSet 2 (dOp gFdiv (dOp gAdd (dVar 1) (dOp gFdiv (dVar 0) (dVar 1))) (dC (.int 2)))))) (dRet (dVar 1)))))
def t__law_ten : DS :=
  dRet (dCB gIntS (dCons (dOp gAdd (dC (.str "1")) (dOp gMulS (dC (.str "0")) (dVar 0))) (dNil)))
def t__law_spans (F__law_ten : Ct) (F__law_root : Ct) : DS :=
  dSeq (dAsg (.tp [2, 3]) (dVar 0)) (dSeq (dSet 4 (dOp gMul (dOp gMul (dOp gMul (dVar 2) (dVar 2)) (dVar 3)) (dCall F__law_ten (dCons (dOp gMul (dC (.int 2)) (dVar 1)) (dNil))))) (dSeq (dSet 5 (dCall F__law_root (dCons (dVar 4) (dNil)))) (dSeq (dAsg (.tp [6, 7]) (dIfE (dTest (dOp gEq (dOp gMul (dVar 5) (dVar 5)) (dVar 4))) (dTup (dCons (dVar 5) (dCons (dVar 5) (dNil)))) (dTup (dCons (dVar 5) (dCons (dOp gAdd (dVar 5) (dC (.int 1))) (dNil)))))) (dRet (dIfE (dTest (dOp gGe (dVar 2) (dC (.int 0)))) (dTup (dCons (dVar 6) (dCons (dVar 7) (dNil)))) (dTup (dCons (dOp gSub (dC (.int 0)) (dVar 7)) (dCons (dOp gSub (dC (.int 0)) (dVar 6)) (dNil)))))))))
def t_law_k10 (F__law_drawn : Ct) (F__law_cell : Ct) (F__law_row : Ct) (F_plain : Ct) (F__law_spans : Ct) (F_digits : Ct) (F__law_ten : Ct) (F__law_refused_k10 : Ct) : DS :=
  dSeq (dFor (dRng1 (dCons (dCB gMax2 (dCons (dC (.int 1)) (dCons (dCB gMin2 (dCons (dC (.int 4)) (dCons (dCB gLen (dCons (dVar 0) (dNil))) (dNil)))) (dNil)))) (dNil))) (.nm 1) (dSeq (dSet 2 (dCall F__law_drawn (dCons (dCall F__law_cell (dCons (dVar 0) (dCons (dVar 1) (dNil)))) (dCons (dVar 1) (dNil))))) (dSeq (dSet 3 (dCall F__law_row (dCons (dOp gFdiv (dVar 2) (dC (.int 64))) (dCons (dC (.int 5)) (dNil))))) (dSeq (dFor (dWalk (dOp gAdd (dVar 3) (dLst (dCons (dTup (dCons (dC (.int 99)) (dCons (dC (.int 99)) (dNil)))) (dCons (dTup (dCons (dNeg (dC (.int 99))) (dCons (dC (.int 98)) (dNil)))) (dCons (dTup (dCons (dC (.int 0)) (dCons (dC (.int 50)) (dNil)))) (dCons (dTup (dCons (dC (.int 7)) (dCons (dC (.int 64)) (dNil)))) (dNil)))))))) (.nm 4) (dSeq (dAsg (.tp [5, 6]) (dCall F_plain (dCons (dVar 4) (dNil)))) (dSeq (dIf (dOr (dTest (dOp gNe (dOp gMul (dOp gMul (dVar 5) (dVar 5)) (dVar 6)) (dOp gMul (dOp gMul (dOp gIx (dVar 4) (dC (.int 0))) (dOp gIx (dVar 4) (dC (.int 0)))) (dOp gIx (dVar 4) (dC (.int 1)))))) (dTest (dOp gLt (dOp gMul (dVar 5) (dOp gIx (dVar 4) (dC (.int 0)))) (dC (.int 0))))) (dRet (dC (.bool false))) (dNext)) (dSeq (dIf (dOr (dTest (dOp gNe (dLc (dRng2 (dCons (dC (.int 2)) (dCons (dC (.int 10)) (dNil)))) (.nm 11) (dTest (dOp gEq (dOp gMod (dVar 6) (dOp gMul (dVar 11) (dVar 11))) (dC (.int 0)))) (dVar 11) [11]) (dLst (dNil)))) (dAnd (dTest (dOp gEq (dVar 5) (dC (.int 0)))) (dTest (dOp gNe (dVar 6) (dC (.int 1)))))) (dRet (dC (.bool false))) (dNext)) (dFor (dWalk (dLst (dCons (dC (.int 0)) (dCons (dC (.int 1)) (dCons (dC (.int 30)) (dCons (dOp gMod (dVar 2) (dC (.int 31))) (dNil))))))) (.nm 7) (dSeq (dAsg (.tp [8, 9]) (dCall F__law_spans (dCons (dVar 4) (dCons (dVar 7) (dNil))))) (dSeq (dIf (dTest (dOp gNe (dCall F_digits (dCons (dVar 4) (dCons (dVar 7) (dNil)))) (dVar 8))) (dRet (dC (.bool false))) (dNext)) (dSeq (dSet 10 (dOp gMul (dOp gMul (dOp gMul (dOp gIx (dVar 4) (dC (.int 0))) (dOp gIx (dVar 4) (dC (.int 0)))) (dOp gIx (dVar 4) (dC (.int 1)))) (dCall F__law_ten (dCons (dOp gMul (dC (.int 2)) (dVar 7)) (dNil))))) (dIf (dOr (dTest (dOp gGt (dOp gIx (dCB gSorted (dCons (dLst (dCons (dOp gMul (dVar 8) (dVar 8)) (dCons (dOp gMul (dVar 9) (dVar 9)) (dNil)))) (dNil))) (dC (.int 0))) (dVar 10))) (dTest (dOp gLt (dOp gIx (dCB gSorted (dCons (dLst (dCons (dOp gMul (dVar 8) (dVar 8)) (dCons (dOp gMul (dVar 9) (dVar 9)) (dNil)))) (dNil))) (dC (.int 1))) (dVar 10)))) (dRet (dC (.bool false))) (dNext)))))))))) (dIf (dNot (dTest (dCall F__law_refused_k10 (dCons (dVar 3) (dNil))))) (dRet (dC (.bool false))) (dNext)))))) (dRet (dC (.bool true)))
def t__law_plain : DS :=
  dSeq (dAsg (.tp [1, 2]) (dVar 0)) (dSeq (dIf (dTest (dOp gEq (dVar 1) (dC (.int 0)))) (dRet (dTup (dCons (dC (.int 0)) (dCons (dC (.int 1)) (dNil))))) (dNext)) (dSeq (dSet 3 (dCB gMaxL (dCons (dLc (dRng2 (dCons (dC (.int 1)) (dCons (dC (.int 10)) (dNil)))) (.nm 4) (dTest (dOp gEq (dOp gMod (dVar 2) (dOp gMul (dVar 4) (dVar 4))) (dC (.int 0)))) (dVar 4) [4]) (dNil)))) (dRet (dTup (dCons (dOp gMul (dVar 1) (dVar 3)) (dCons (dOp gFdiv (dVar 2) (dOp gMul (dVar 3) (dVar 3))) (dNil)))))))
def t__law_parts (F__law_plain : Ct) : DS :=
  dSeq (dOwnK 2) (dSeq (dFor (dZip (dCons (dVar 0) (dCons (dVar 1) (dNil)))) (.tp [3, 4]) (dSeq (dAsg (.tp [5, 6]) (dCall F__law_plain (dCons (dVar 3) (dNil)))) (dPutK 2 (dVar 6) (dOp gAdd (dGet2 (dVar 2) (dVar 6) (dC (.int 0))) (dOp gMul (dVar 5) (dVar 4)))))) (dRet (dLc (dWalk (dCB gSortedK (dCons (dVar 2) (dNil)))) (.nm 6) (dTest (dOp gNe (dOp gGetK (dVar 2) (dVar 6)) (dC (.int 0)))) (dTup (dCons (dVar 6) (dCons (dOp gGetK (dVar 2) (dVar 6)) (dNil)))) [6])))
def t_span_of (F_digits_of : Ct) : DS :=
  dSeq (dAsg (.tp [2, 3]) (dTup (dCons (dC (.int 0)) (dCons (dC (.int 0)) (dNil))))) (dSeq (dFor (dKeys (dVar 0)) (.nm 4) (dSeq (dSet 5 (dCall F_digits_of (dCons (dTup (dCons (dOp gGetK (dVar 0) (dVar 4)) (dCons (dVar 4) (dNil)))) (dCons (dVar 1) (dNil))))) (dSeq (dSet 2 (dOp gAdd (dVar 2) (dVar 5))) (dSet 3 (dOp gAdd (dOp gAdd (dVar 3) (dVar 5)) (dCB gInt1 (dCons (dOp gGt (dVar 4) (dC (.int 1))) (dNil)))))))) (dRet (dTup (dCons (dVar 2) (dCons (dVar 3) (dNil))))))
def t_sign_of (F_span_of : Ct) : DS :=
  dSeq (dIf (dTest (dOp gEqE (dVar 0) (dC (.dict [])))) (dRet (dC (.int 0))) (dNext)) (dSeq (dSet 1 (dC (.int 1))) (dSeq (dAsg (.tp [2, 3]) (dCall F_span_of (dCons (dVar 0) (dCons (dVar 1) (dNil))))) (dSeq (dWhile (dTest (dChain gLe gLe (dVar 2) (dC (.int 0)) (dVar 3))) (dSeq (dSet 1 (dOp gMul (dVar 1) (dC (.int 2)))) (dAsg (.tp [2, 3]) (dCall F_span_of (dCons (dVar 0) (dCons (dVar 1) (dNil))))))) (dRet (dIfE (dTest (dOp gGt (dVar 2) (dC (.int 0)))) (dC (.int 1)) (dNeg (dC (.int 1))))))))
def t_parts_of (F_plain_of : Ct) : DS :=
  dSeq (dOwnK 2) (dSeq (dFor (dZip (dCons (dVar 0) (dCons (dVar 1) (dNil)))) (.tp [3, 4]) (dSeq (dAsg (.tp [5, 6]) (dCall F_plain_of (dCons (dVar 3) (dNil)))) (dPutK 2 (dVar 6) (dOp gAdd (dGet2 (dVar 2) (dVar 6) (dC (.int 0))) (dOp gMul (dVar 5) (dVar 4)))))) (dRet (dDict (dCons (dLc (dWalk (dCB gSortedK (dCons (dVar 2) (dNil)))) (.nm 6) (dTest (dOp gNe (dOp gGetK (dVar 2) (dVar 6)) (dC (.int 0)))) (dTup (dCons (dVar 6) (dCons (dOp gGetK (dVar 2) (dVar 6)) (dNil)))) [6]) (dNil)))))
def t_compare (F_need_row : Ct) (F_need_times : Ct) (F_sign_of : Ct) (F_parts_of : Ct) : DS :=
  dSeq (dDrop (dCall F_need_row (dCons (dVar 0) (dNil)))) (dSeq (dDrop (dCall F_need_times (dCons (dVar 0) (dCons (dVar 1) (dNil))))) (dSeq (dDrop (dCall F_need_times (dCons (dVar 0) (dCons (dVar 2) (dNil))))) (dRet (dCall F_sign_of (dCons (dCall F_parts_of (dCons (dVar 0) (dCons (dLc (dZip (dCons (dVar 1) (dCons (dVar 2) (dNil)))) (.tp [3, 4]) (dYes) (dOp gSub (dVar 3) (dVar 4)) [3, 4]) (dNil)))) (dNil))))))
def t_less_by : DS :=
  dSeq (dOwnD 2 (dCons (dVar 0) (dNil))) (dSeq (dPutK 2 (dC (.int 1)) (dOp gSub (dGet2 (dVar 2) (dC (.int 1)) (dC (.int 0))) (dVar 1))) (dFrzK 2 (dRet (dDict (dCons (dLc (dKeys (dVar 2)) (.nm 3) (dTest (dOp gNe (dOp gGetK (dVar 2) (dVar 3)) (dC (.int 0)))) (dTup (dCons (dVar 3) (dCons (dOp gGetK (dVar 2) (dVar 3)) (dNil)))) [3]) (dNil))))))
def t_floor_of (F_span_of : Ct) (F_sign_of : Ct) (F_less_by : Ct) : DS :=
  dSeq (dAsg (.tp [1, 2]) (dCall F_span_of (dCons (dVar 0) (dCons (dC (.int 0)) (dNil))))) (dSeq (dWhile (dAnd (dTest (dOp gGt (dVar 2) (dVar 1))) (dTest (dOp gLt (dCall F_sign_of (dCons (dCall F_less_by (dCons (dVar 0) (dCons (dVar 2) (dNil)))) (dNil))) (dC (.int 0))))) (dSet 2 (dOp gSub (dVar 2) (dC (.int 1))))) (dRet (dVar 2)))
def t_sum_digits (F_need_row : Ct) (F_need_times : Ct) (F_need_count : Ct) (F_parts_of : Ct) (F_power_of : Ct) (F_floor_of : Ct) : DS :=
  dSeq (dDrop (dCall F_need_row (dCons (dVar 0) (dNil)))) (dSeq (dDrop (dCall F_need_times (dCons (dVar 0) (dCons (dVar 1) (dNil))))) (dSeq (dDrop (dCall F_need_count (dCons (dVar 2) (dCons (dC (.int 0)) (dCons (dC (.int (30))) (dNil)))))) (dSeq (dSet 3 (dCall F_parts_of (dCons (dVar 0) (dCons (dVar 1) (dNil))))) (dSeq (dSet 4 (dCall F_power_of (dCons (dVar 2) (dNil)))) (dRet (dCall F_floor_of (dCons (dDict (dCons (dLc (dWalk (dVar 3)) (.nm 5) (dYes) (dTup (dCons (dVar 5) (dCons (dOp gMul (dOp gIx (dVar 3) (dVar 5)) (dVar 4)) (dNil)))) [5]) (dNil))) (dNil))))))))
def t_parts (F_need_row : Ct) (F_need_times : Ct) (F_parts_of : Ct) : DS :=
  dSeq (dDrop (dCall F_need_row (dCons (dVar 0) (dNil)))) (dSeq (dDrop (dCall F_need_times (dCons (dVar 0) (dCons (dVar 1) (dNil))))) (dSeq (dSet 2 (dCall F_parts_of (dCons (dVar 0) (dCons (dVar 1) (dNil))))) (dRet (dLc (dKeys (dVar 2)) (.nm 3) (dYes) (dTup (dCons (dVar 3) (dCons (dOp gGetK (dVar 2) (dVar 3)) (dNil)))) [3]))))
def t_is_nought (F_parts : Ct) : DS :=
  dRet (dOp gEq (dCall F_parts (dCons (dVar 0) (dCons (dVar 1) (dNil)))) (dLst (dNil)))
def t_sign (F_need_row : Ct) (F_need_times : Ct) (F_sign_of : Ct) (F_parts_of : Ct) : DS :=
  dSeq (dDrop (dCall F_need_row (dCons (dVar 0) (dNil)))) (dSeq (dDrop (dCall F_need_times (dCons (dVar 0) (dCons (dVar 1) (dNil))))) (dRet (dCall F_sign_of (dCons (dCall F_parts_of (dCons (dVar 0) (dCons (dVar 1) (dNil)))) (dNil)))))
def t_law_k20 (cs : List Str) (F__law_drawn : Ct) (F__law_cell : Ct) (F__law_row : Ct) (F__law_parts : Ct) (F_parts : Ct) (F_is_nought : Ct) (F_sign : Ct) (F__law_sign : Ct) (F_compare : Ct) (F_sum_digits : Ct) (F__law_ten : Ct) : DS :=
  dSeq (dFor (dRng1 (dCons (dCB gMax2 (dCons (dC (.int 1)) (dCons (dCB gMin2 (dCons (dC (.int 3)) (dCons (dCB gLen (dCons (dVar 0) (dNil))) (dNil)))) (dNil)))) (dNil))) (.nm 1) (dSeq (dSet 2 (dCall F__law_drawn (dCons (dCall F__law_cell (dCons (dVar 0) (dCons (dVar 1) (dNil)))) (dCons (dVar 1) (dNil))))) (dSeq (dSet 3 (dOp gIx (dLst (dCons (dCall F__law_row (dCons (dOp gFdiv (dVar 2) (dC (.int 64))) (dCons (dC (.int 5)) (dNil)))) (dCons (dLst (dCons (dTup (dCons (dC (.int 1)) (dCons (dC (.int 2)) (dNil)))) (dCons (dTup (dCons (dC (.int 1)) (dCons (dC (.int 3)) (dNil)))) (dCons (dTup (dCons (dC (.int 1)) (dCons (dC (.int 5)) (dNil)))) (dCons (dTup (dCons (dC (.int 1)) (dCons (dC (.int 7)) (dNil)))) (dCons (dTup (dCons (dC (.int 1)) (dCons (dC (.int 1)) (dNil)))) (dNil))))))) (dCons (dLst (dCons (dTup (dCons (dC (.int 1)) (dCons (dC (.int 2)) (dNil)))) (dCons (dTup (dCons (dC (.int 1)) (dCons (dC (.int 1)) (dNil)))) (dCons (dTup (dCons (dC (.int 1)) (dCons (dC (.int 8)) (dNil)))) (dNil))))) (dNil))))) (dOp gMod (dVar 2) (dC (.int 3))))) (dSeq (dFor (dRng1 (dCons (dC (.int 5)) (dNil))) (.nm 4) (dSeq (dSet 5 (dCall F__law_drawn (dCons (dVar 2) (dCons (dOp gAdd (dC (.int 10)) (dVar 4)) (dNil))))) (dSeq (dSet 6 (dLc (dRng1 (dCons (dCB gLen (dCons (dVar 3) (dNil))) (dNil))) (.nm 16) (dYes) (dOp gSub (dOp gMod (dCall F__law_drawn (dCons (dVar 5) (dCons (dVar 16) (dNil)))) (dOp gIx (dLst (dCons (dC (.int 7)) (dCons (dC (.int 2001)) (dNil)))) (dOp gMod (dVar 5) (dC (.int 2))))) (dOp gIx (dLst (dCons (dC (.int 3)) (dCons (dC (.int 1000)) (dNil)))) (dOp gMod (dVar 5) (dC (.int 2))))) [16])) (dSeq (dSet 7 (dLc (dRng1 (dCons (dCB gLen (dCons (dVar 3) (dNil))) (dNil))) (.nm 16) (dYes) (dOp gSub (dOp gMod (dCall F__law_drawn (dCons (dVar 5) (dCons (dOp gAdd (dC (.int 9)) (dVar 16)) (dNil)))) (dC (.int 7))) (dC (.int 3))) [16])) (dSeq (dIf (dAnd (dTest (dOp gEq (dOp gMod (dOp gFdiv (dVar 5) (dC (.int 64))) (dC (.int 4))) (dC (.int 0)))) (dTest (dOp gEq (dOp gMod (dVar 2) (dC (.int 3))) (dC (.int 2))))) (dSet 6 (dOp gIx (dLst (dCons (dLst (dCons (dC (.int 99)) (dCons (dNeg (dC (.int 140))) (dCons (dC (.int 0)) (dNil))))) (dCons (dLst (dCons (dC (.int 577)) (dCons (dNeg (dC (.int 816))) (dCons (dC (.int 0)) (dNil))))) (dCons (dLst (dCons (dC (.int 2)) (dCons (dC (.int 0)) (dCons (dNeg (dC (.int 1))) (dNil))))) (dCons (dLst (dCons (dC (.int 408)) (dCons (dNeg (dC (.int 577))) (dCons (dC (.int 0)) (dNil))))) (dNil)))))) (dOp gMod (dOp gFdiv (dVar 5) (dC (.int 512))) (dC (.int 4))))) (dNext)) (dSeq (dSet 8 (dCall F__law_parts (dCons (dVar 3) (dCons (dVar 6) (dNil))))) (dSeq (dIf (dOr (dTest (dOp gNe (dCall F_parts (dCons (dVar 3) (dCons (dVar 6) (dNil)))) (dVar 8))) (dOr (dTest (dOp gNe (dCall F_is_nought (dCons (dVar 3) (dCons (dVar 6) (dNil)))) (dOp gEq (dVar 8) (dLst (dNil))))) (dTest (dOp gNe (dCall F_sign (dCons (dVar 3) (dCons (dVar 6) (dNil)))) (dCall F__law_sign (dCons (dVar 8) (dNil))))))) (dRet (dC (.bool false))) (dNext)) (dSeq (dIf (dTest (dOp gNe (dCall F_compare (dCons (dVar 3) (dCons (dVar 6) (dCons (dVar 7) (dNil))))) (dCall F__law_sign (dCons (dCall F__law_parts (dCons (dVar 3) (dCons (dLc (dZip (dCons (dVar 6) (dCons (dVar 7) (dNil)))) (.tp [17, 18]) (dYes) (dOp gSub (dVar 17) (dVar 18)) [17, 18]) (dNil)))) (dNil))))) (dRet (dC (.bool false))) (dNext)) (dFor (dWalk (dLst (dCons (dC (.int 0)) (dCons (dC (.int 5)) (dCons (dOp gMod (dVar 5) (dC (.int 31))) (dNil)))))) (.nm 9) (dSeq (dSet 10 (dCall F_sum_digits (dCons (dVar 3) (dCons (dVar 6) (dCons (dVar 9) (dNil)))))) (dSeq (dSet 11 (dCall F__law_ten (dCons (dVar 9) (dNil)))) (dSeq (dSet 12 (dCall F__law_sign (dCons (dCall F__law_parts (dCons (dOp gAdd (dVar 3) (dLst (dCons (dTup (dCons (dC (.int 1)) (dCons (dC (.int 1)) (dNil)))) (dNil)))) (dCons (dOp gAdd (dLc (dWalk (dVar 6)) (.nm 19) (dYes) (dOp gMul (dVar 19) (dVar 11)) [19]) (dLst (dCons (dOp gSub (dC (.int 0)) (dVar 10)) (dNil)))) (dNil)))) (dNil)))) (dSeq (dSet 13 (dCall F__law_sign (dCons (dCall F__law_parts (dCons (dOp gAdd (dVar 3) (dLst (dCons (dTup (dCons (dC (.int 1)) (dCons (dC (.int 1)) (dNil)))) (dNil)))) (dCons (dOp gAdd (dLc (dWalk (dVar 6)) (.nm 19) (dYes) (dOp gMul (dVar 19) (dVar 11)) [19]) (dLst (dCons (dOp gSub (dOp gSub (dC (.int 0)) (dVar 10)) (dC (.int 1))) (dNil)))) (dNil)))) (dNil)))) (dIf (dOr (dTest (dOp gLt (dVar 12) (dC (.int 0)))) (dTest (dOp gGe (dVar 13) (dC (.int 0))))) (dRet (dC (.bool false))) (dNext))))))))))))))) (dFor (dWalk (dLst (dCons (dC .none) (dCons (dOp gMul (dLst (dCons (dC (.int 0)) (dNil))) (dOp gAdd (dCB gLen (dCons (dVar 3) (dNil))) (dC (.int 1)))) (dCons (dOp gMul (dLst (dCons (dC (.bool true)) (dNil))) (dCB gLen (dCons (dVar 3) (dNil)))) (dNil)))))) (.nm 14) (dSeq (dOwnL 15 (dCons (dTold cs (dCall F_parts (dCons (dVar 3) (dCons (dVar 14) (dNil))))) (dNil))) (dSeq (dApp 15 (dTold cs (dCall F_is_nought (dCons (dVar 3) (dCons (dVar 14) (dNil)))))) (dSeq (dApp 15 (dTold cs (dCall F_sign (dCons (dVar 3) (dCons (dVar 14) (dNil)))))) (dSeq (dApp 15 (dTold cs (dCall F_compare (dCons (dVar 3) (dCons (dVar 6) (dCons (dVar 14) (dNil))))))) (dSeq (dApp 15 (dTold cs (dCall F_sum_digits (dCons (dVar 3) (dCons (dVar 14) (dCons (dC .none) (dNil))))))) (dSeq (dApp 15 (dTold cs (dCall F_parts (dCons (dLst (dCons (dTup (dCons (dC (.int 1)) (dCons (dC (.int 0)) (dNil)))) (dNil))) (dCons (dVar 14) (dNil)))))) (dIf (dOr (dTest (dOp gNe (dVar 15) (dOp gMul (dLst (dCons (dC (.str "BadRow")) (dNil))) (dC (.int 6))))) (dTest (dOp gNe (dTold cs (dCall F_sum_digits (dCons (dVar 3) (dCons (dVar 6) (dCons (dC (.int 31)) (dNil)))))) (dC (.str "BadNumber"))))) (dRet (dC (.bool false))) (dNext))))))))))))) (dRet (dC (.bool true)))
def t_less_times : DS :=
  dRet (dLc (dZip (dCons (dVar 0) (dCons (dVar 1) (dNil)))) (.tp [3, 4]) (dYes) (dOp gSub (dVar 3) (dOp gMul (dVar 2) (dVar 4))) [3, 4])
def t_cleared (F_less_times : Ct) : DS :=
  dSeq (dSet 0 (dLc (dWalk (dVar 0)) (.nm 6) (dYes) (dCB gListOf (dCons (dVar 6) (dNil))) [6])) (dSeq (dSet 2 (dLc (dWalk (dVar 0)) (.nm 6) (dTest (dOp gNe (dOp gIx (dVar 6) (dVar 1)) (dC (.int 0)))) (dVar 6) [6])) (dSeq (dSet 3 (dLc (dWalk (dVar 0)) (.nm 6) (dTest (dOp gEq (dOp gIx (dVar 6) (dVar 1)) (dC (.int 0)))) (dVar 6) [6])) (dSeq (dWhile (dTest (dOp gGt (dCB gLen (dCons (dVar 2) (dNil))) (dC (.int 1)))) (dSeq (dSet 2 (dSortAbs 1 (dVar 2))) (dSeq (dSet 4 (dOp gIx (dVar 2) (dC (.int 0)))) (dSeq (dSet 5 (dLc (dWalk (dSlc (dVar 2) (dP (dC (.int 1))) dNoP)) (.nm 6) (dYes) (dCall F_less_times (dCons (dVar 6) (dCons (dVar 4) (dCons (dOp gFdiv (dOp gIx (dVar 6) (dVar 1)) (dOp gIx (dVar 4) (dVar 1))) (dNil))))) [6])) (dSeq (dSet 3 (dOp gAdd (dVar 3) (dLc (dWalk (dVar 5)) (.nm 6) (dTest (dOp gEq (dOp gIx (dVar 6) (dVar 1)) (dC (.int 0)))) (dVar 6) [6]))) (dSet 2 (dOp gAdd (dLst (dCons (dVar 4) (dNil))) (dLc (dWalk (dVar 5)) (.nm 6) (dTest (dOp gNe (dOp gIx (dVar 6) (dVar 1)) (dC (.int 0)))) (dVar 6) [6])))))))) (dRet (dTup (dCons (dIfE (dTest (dOp gNe (dVar 2) (dLst (dNil)))) (dOp gIx (dVar 2) (dC (.int 0))) (dC .none)) (dCons (dVar 3) (dNil))))))))
def t_shaped (F_cleared : Ct) (F_less_times : Ct) : DS :=
  dSeq (dSet 2 (dLst (dNil))) (dSeq (dFor (dRng1 (dCons (dVar 1) (dNil))) (.nm 3) (dSeq (dAsg (.tp [4, 0]) (dCall F_cleared (dCons (dVar 0) (dCons (dVar 3) (dNil))))) (dIf (dTest (dOp gIsNot (dVar 4) (dC .none))) (dSeq (dIf (dTest (dOp gLt (dOp gIx (dVar 4) (dVar 3)) (dC (.int 0)))) (dSet 4 (dLc (dWalk (dVar 4)) (.nm 5) (dYes) (dOp gSub (dC (.int 0)) (dVar 5)) [5])) (dNext)) (dSet 2 (dOp gAdd (dLc (dWalk (dVar 2)) (.nm 6) (dYes) (dCall F_less_times (dCons (dVar 6) (dCons (dVar 4) (dCons (dOp gFdiv (dOp gIx (dVar 6) (dVar 3)) (dOp gIx (dVar 4) (dVar 3))) (dNil))))) [6]) (dLst (dCons (dVar 4) (dNil)))))) (dNext)))) (dRet (dVar 2)))
def t_images (F_plain_of : Ct) : DS :=
  dSeq (dSet 1 (dLc (dWalk (dVar 0)) (.nm 3) (dYes) (dCall F_plain_of (dCons (dVar 3) (dNil))) [3])) (dSeq (dSet 2 (dSortSet (dLc (dWalk (dVar 1)) (.tp [4, 5]) (dTest (dOp gNe (dVar 4) (dC (.int 0)))) (dVar 5) [4, 5]))) (dRet (dLc (dWalk (dVar 1)) (.tp [4, 5]) (dYes) (dLc (dWalk (dVar 2)) (.nm 6) (dYes) (dIfE (dAnd (dTest (dOp gNe (dVar 4) (dC (.int 0)))) (dTest (dOp gEq (dVar 5) (dVar 6)))) (dVar 4) (dC (.int 0))) [6]) [4, 5])))
def t_kernel (F_images : Ct) (F_cleared : Ct) : DS :=
  dSeq (dSet 1 (dCall F_images (dCons (dVar 0) (dNil)))) (dSeq (dSet 2 (dCB gLen (dCons (dOp gIx (dVar 1) (dC (.int 0))) (dNil)))) (dSeq (dSet 3 (dLc (dRng1 (dCons (dCB gLen (dCons (dVar 0) (dNil))) (dNil))) (.nm 5) (dYes) (dOp gAdd (dOp gIx (dVar 1) (dVar 5)) (dLc (dRng1 (dCons (dCB gLen (dCons (dVar 0) (dNil))) (dNil))) (.nm 6) (dYes) (dCB gInt1 (dCons (dOp gEq (dVar 5) (dVar 6)) (dNil))) [6])) [5])) (dSeq (dFor (dRng1 (dCons (dVar 2) (dNil))) (.nm 4) (dSet 3 (dOp gIx (dCall F_cleared (dCons (dVar 3) (dCons (dVar 4) (dNil)))) (dC (.int 1))))) (dRet (dLc (dWalk (dVar 3)) (.nm 7) (dYes) (dSlc (dVar 7) (dP (dVar 2)) dNoP) [7])))))
def t_basis (F_need_row : Ct) (F_shaped : Ct) (F_kernel : Ct) : DS :=
  dSeq (dDrop (dCall F_need_row (dCons (dVar 0) (dNil)))) (dRet (dCall F_shaped (dCons (dCall F_kernel (dCons (dVar 0) (dNil))) (dCons (dCB gLen (dCons (dVar 0) (dNil))) (dNil)))))
def t__law_begin : DS :=
  dRet (dOp gIx (dLc (dEnum (dCons (dVar 0) (dNil))) (.tp [1, 2]) (dTest (dOp gNe (dVar 2) (dC (.int 0)))) (dVar 1) [1, 2]) (dC (.int 0)))
def t__law_rows (F__law_rows : Ct) : DS :=
  dSeq (dIf (dTest (dOp gEq (dVar 0) (dC (.int 0)))) (dRet (dIfE (dTest (dOp gEq (dVar 1) (dC (.int 0)))) (dLst (dCons (dLst (dNil)) (dNil))) (dLst (dNil)))) (dNext)) (dSeq (dOwnL 2 (dNil)) (dSeq (dFor (dRng2 (dCons (dOp gSub (dC (.int 0)) (dVar 1)) (dCons (dOp gAdd (dVar 1) (dC (.int 1))) (dNil)))) (.nm 3) (dExt 2 (dLc (dWalk (dCall F__law_rows (dCons (dOp gSub (dVar 0) (dC (.int 1))) (dCons (dOp gSub (dVar 1) (dCB gAbs (dCons (dVar 3) (dNil)))) (dNil))))) (.nm 4) (dYes) (dOp gAdd (dLst (dCons (dVar 3) (dNil))) (dVar 4)) [4]))) (dRet (dVar 2))))
def t_free (F_basis : Ct) : DS :=
  dRet (dOp gEq (dCall F_basis (dCons (dVar 0) (dNil))) (dLst (dNil)))
def t__law_is_made (F__law_begin : Ct) : DS :=
  dSeq (dSet 2 (dCB gListOf (dCons (dVar 1) (dNil)))) (dSeq (dFor (dWalk (dVar 0)) (.nm 3) (dSeq (dSet 4 (dCall F__law_begin (dCons (dVar 3) (dNil)))) (dSeq (dIf (dTest (dOp gNe (dOp gMod (dOp gIx (dVar 2) (dVar 4)) (dOp gIx (dVar 3) (dVar 4))) (dC (.int 0)))) (dRet (dC (.bool false))) (dNext)) (dSeq (dSet 5 (dOp gFdiv (dOp gIx (dVar 2) (dVar 4)) (dOp gIx (dVar 3) (dVar 4)))) (dSet 2 (dLc (dZip (dCons (dVar 2) (dCons (dVar 3) (dNil)))) (.tp [6, 7]) (dYes) (dOp gSub (dVar 6) (dOp gMul (dVar 5) (dVar 7))) [6, 7])))))) (dRet (dOp gEq (dVar 2) (dOp gMul (dLst (dCons (dC (.int 0)) (dNil))) (dCB gLen (dCons (dVar 1) (dNil)))))))
def t__law_common : DS :=
  dSeq (dWhile (dTest (dOp gNe (dVar 1) (dC (.int 0)))) (dPar 0 1 (dCons (dVar 1) (dCons (dOp gMod (dVar 0) (dVar 1)) (dNil))))) (dRet (dCB gAbs (dCons (dVar 0) (dNil))))
def t_law_k30 (F__law_drawn : Ct) (F__law_cell : Ct) (F__law_row : Ct) (F_basis : Ct) (F__law_plain : Ct) (F_free : Ct) (F__law_begin : Ct) (F__law_parts : Ct) (F__law_is_made : Ct) (F__law_common : Ct) (F__law_rows : Ct) : DS :=
  dSeq (dFor (dRng1 (dCons (dCB gMax2 (dCons (dC (.int 1)) (dCons (dCB gMin2 (dCons (dC (.int 4)) (dCons (dCB gLen (dCons (dVar 0) (dNil))) (dNil)))) (dNil)))) (dNil))) (.nm 1) (dSeq (dSet 2 (dCall F__law_drawn (dCons (dCall F__law_cell (dCons (dVar 0) (dCons (dVar 1) (dNil)))) (dCons (dVar 1) (dNil))))) (dSeq (dSet 3 (dCall F__law_row (dCons (dOp gFdiv (dVar 2) (dC (.int 64))) (dCons (dC (.int 5)) (dNil))))) (dSeq (dSet 4 (dCall F_basis (dCons (dVar 3) (dNil)))) (dSeq (dSet 5 (dLc (dWalk (dVar 3)) (.nm 18) (dYes) (dCall F__law_plain (dCons (dVar 18) (dNil))) [18])) (dSeq (dSet 6 (dSortSet (dLc (dWalk (dVar 5)) (.tp [16, 19]) (dTest (dOp gNe (dVar 16) (dC (.int 0)))) (dVar 19) [16, 19]))) (dSeq (dIf (dOr (dTest (dOp gNe (dCB gLen (dCons (dVar 4) (dNil))) (dOp gSub (dCB gLen (dCons (dVar 3) (dNil))) (dCB gLen (dCons (dVar 6) (dNil)))))) (dTest (dOp gNe (dCall F_free (dCons (dVar 3) (dNil))) (dOp gEq (dVar 4) (dLst (dNil)))))) (dRet (dC (.bool false))) (dNext)) (dFrz 16 (dSeq (dSet 7 (dLc (dWalk (dVar 4)) (.nm 16) (dYes) (dCall F__law_begin (dCons (dVar 16) (dNil))) [16])) (dFrz 16 (dSeq (dIf (dOr (dTest (dOp gNe (dVar 7) (dSortSet (dVar 7)))) (dTest (dOp gNe (dLc (dWalk (dVar 4)) (.nm 16) (dTest (dOp gNe (dCall F__law_parts (dCons (dVar 3) (dCons (dVar 16) (dNil)))) (dLst (dNil)))) (dC (.int 1)) [16]) (dLst (dNil))))) (dRet (dC (.bool false))) (dNext)) (dSeq (dFor (dEnum (dCons (dVar 7) (dNil))) (.tp [8, 9]) (dSeq (dSet 10 (dOp gIx (dOp gIx (dVar 4) (dVar 8)) (dVar 9))) (dSeq (dSet 11 (dLc (dWalk (dSlc (dVar 4) dNoP (dP (dVar 8)))) (.nm 16) (dNot (dTest (dChain gLe gLt (dC (.int 0)) (dOp gIx (dVar 16) (dVar 9)) (dVar 10)))) (dC (.int 1)) [16])) (dIf (dOr (dTest (dOp gLt (dVar 10) (dC (.int 1)))) (dTest (dOp gNe (dVar 11) (dLst (dNil))))) (dRet (dC (.bool false))) (dNext))))) (dSeq (dFor (dRng1 (dCons (dCB gLen (dCons (dVar 3) (dNil))) (dNil))) (.nm 12) (dSeq (dSet 13 (dLc (dRng1 (dCons (dCB gLen (dCons (dVar 3) (dNil))) (dNil))) (.nm 8) (dYes) (dCB gInt1 (dCons (dOp gEq (dVar 8) (dVar 12)) (dNil))) [8])) (dSeq (dIf (dAnd (dTest (dOp gEq (dOp gIx (dOp gIx (dVar 5) (dVar 12)) (dC (.int 0))) (dC (.int 0)))) (dNot (dTest (dCall F__law_is_made (dCons (dVar 4) (dCons (dVar 13) (dNil))))))) (dRet (dC (.bool false))) (dNext)) (dFor (dRng1 (dCons (dVar 12) (dNil))) (.nm 14) (dIf (dAnd (dTest (dOp gEq (dOp gIx (dOp gIx (dVar 5) (dVar 12)) (dC (.int 1))) (dOp gIx (dOp gIx (dVar 5) (dVar 14)) (dC (.int 1))))) (dTest (dOp gNe (dOp gMul (dOp gIx (dOp gIx (dVar 5) (dVar 12)) (dC (.int 0))) (dOp gIx (dOp gIx (dVar 5) (dVar 14)) (dC (.int 0)))) (dC (.int 0))))) (dSeq (dSet 15 (dCall F__law_common (dCons (dOp gIx (dOp gIx (dVar 5) (dVar 12)) (dC (.int 0))) (dCons (dOp gIx (dOp gIx (dVar 5) (dVar 14)) (dC (.int 0))) (dNil))))) (dSeq (dOwnR 16 (dLst (dCons (dC (.int 0)) (dNil))) (dCB gLen (dCons (dVar 3) (dNil)))) (dSeq (dPutL 16 (dVar 12) (dOp gFdiv (dOp gIx (dOp gIx (dVar 5) (dVar 14)) (dC (.int 0))) (dVar 15))) (dSeq (dPutL 16 (dVar 14) (dOp gSub (dC (.int 0)) (dOp gFdiv (dOp gIx (dOp gIx (dVar 5) (dVar 12)) (dC (.int 0))) (dVar 15)))) (dFrz 16 (dIf (dNot (dTest (dCall F__law_is_made (dCons (dVar 4) (dCons (dVar 16) (dNil)))))) (dRet (dC (.bool false))) (dNext))))))) (dNext)))))) (dFor (dRng2 (dCons (dC (.int 1)) (dCons (dC (.int 4)) (dNil)))) (.nm 17) (dFor (dWalk (dCall F__law_rows (dCons (dCB gLen (dCons (dVar 3) (dNil))) (dCons (dVar 17) (dNil))))) (.nm 16) (dFrz 16 (dIf (dTest (dOp gNe (dOp gEq (dCall F__law_parts (dCons (dVar 3) (dCons (dVar 16) (dNil)))) (dLst (dNil))) (dCall F__law_is_made (dCons (dVar 4) (dCons (dVar 16) (dNil)))))) (dRet (dC (.bool false))) (dNext)))))))))))))))))) (dRet (dC (.bool true)))
def t_is_of_roots (F_plain_of : Ct) : DS :=
  dSeq (dSet 2 (dLc (dWalk (dVar 0)) (.nm 4) (dYes) (dCall F_plain_of (dCons (dVar 4) (dNil))) [4])) (dSeq (dSet 3 (dLc (dWalk (dVar 2)) (.tp [5, 6]) (dYes) (dVar 6) [5, 6])) (dRet (dAndV (dOp gEq (dVar 1) (dVar 3)) (dAndV (dOp gEq (dLenSet (dVar 3)) (dCB gLen (dCons (dVar 3) (dNil)))) (dOp gNotIn (dTup (dCons (dC (.int 0)) (dCons (dC (.int 1)) (dNil)))) (dVar 2))))))
def t_of_size (F_of_size : Ct) : DS :=
  dSeq (dIf (dTest (dOp gEq (dVar 0) (dC (.int 1)))) (dRet (dIfE (dTest (dOp gEq (dVar 1) (dC (.int 0)))) (dLst (dCons (dLst (dCons (dC (.int 0)) (dNil))) (dNil))) (dLst (dCons (dLst (dCons (dOp gSub (dC (.int 0)) (dVar 1)) (dNil))) (dCons (dLst (dCons (dVar 1) (dNil))) (dNil)))))) (dNext)) (dSeq (dOwnL 2 (dNil)) (dSeq (dFor (dRng2 (dCons (dOp gSub (dC (.int 0)) (dVar 1)) (dCons (dOp gAdd (dVar 1) (dC (.int 1))) (dNil)))) (.nm 3) (dExt 2 (dLc (dWalk (dCall F_of_size (dCons (dOp gSub (dVar 0) (dC (.int 1))) (dCons (dOp gSub (dVar 1) (dCB gAbs (dCons (dVar 3) (dNil)))) (dNil))))) (.nm 4) (dYes) (dOp gAdd (dLst (dCons (dVar 3) (dNil))) (dVar 4)) [4]))) (dRet (dVar 2))))
def t_begins_above : DS :=
  dSeq (dSet 1 (dLc (dWalk (dVar 0)) (.nm 2) (dTest (dOp gNe (dVar 2) (dC (.int 0)))) (dVar 2) [2])) (dRet (dAndV (dOp gNe (dVar 1) (dLst (dNil))) (dOp gGt (dOp gIx (dVar 1) (dC (.int 0))) (dC (.int 0)))))
def t_noughts (F_need_row : Ct) (F_need_count : Ct) (F_of_size : Ct) (F_begins_above : Ct) (F_parts_of : Ct) : DS :=
  dSeq (dDrop (dCall F_need_row (dCons (dVar 0) (dNil)))) (dSeq (dDrop (dCall F_need_count (dCons (dVar 1) (dCons (dC (.int 1)) (dCons (dC (.int (8))) (dNil)))))) (dRet (dLc (dWalk (dCall F_of_size (dCons (dCB gLen (dCons (dVar 0) (dNil))) (dCons (dVar 1) (dNil))))) (.nm 2) (dAnd (dTest (dCall F_begins_above (dCons (dVar 2) (dNil)))) (dTest (dOp gEqE (dCall F_parts_of (dCons (dVar 0) (dCons (dVar 2) (dNil)))) (dC (.dict []))))) (dVar 2) [2])))
def t_least (F_need_row : Ct) (F_need_count : Ct) (F_noughts : Ct) : DS :=
  dSeq (dDrop (dCall F_need_row (dCons (dVar 0) (dNil)))) (dSeq (dDrop (dCall F_need_count (dCons (dVar 1) (dCons (dC (.int 1)) (dCons (dC (.int (8))) (dNil)))))) (dSeq (dFor (dRng2 (dCons (dC (.int 1)) (dCons (dOp gAdd (dVar 1) (dC (.int 1))) (dNil)))) (.nm 2) (dSeq (dSet 3 (dCall F_noughts (dCons (dVar 0) (dCons (dVar 2) (dNil))))) (dIf (dTest (dOp gNe (dVar 3) (dLst (dNil)))) (dRet (dOp gIx (dVar 3) (dC (.int 0)))) (dNext)))) (dRet (dC .none))))
def t_paper (F_least : Ct) (F_plain_of : Ct) (F_is_of_roots : Ct) : DS :=
  dSeq (dIf (dTest (dOp gIsNot (dCall F_least (dCons (dVar 0) (dCons (dVar 1) (dNil)))) (dC .none))) (dRet (dC .none)) (dNext)) (dSeq (dSet 2 (dLc (dWalk (dVar 0)) (.nm 3) (dYes) (dOp gIx (dCall F_plain_of (dCons (dVar 3) (dNil))) (dC (.int 1))) [3])) (dSeq (dIf (dTest (dCall F_is_of_roots (dCons (dVar 0) (dCons (dVar 2) (dNil))))) (dRet (dTup (dCons (dC (.str "roots")) (dCons (dVar 2) (dNil))))) (dNext)) (dRet (dTup (dCons (dC (.str "halves")) (dCons (dOp gFdiv (dOp gAdd (dVar 1) (dC (.int 1))) (dC (.int 2))) (dCons (dOp gFdiv (dVar 1) (dC (.int 2))) (dNil))))))))
def t__law_above : DS :=
  dRet (dOp gGtD (dSlc (dLc (dWalk (dVar 0)) (.nm 1) (dTest (dOp gNe (dVar 1) (dC (.int 0)))) (dVar 1) [1]) dNoP (dP (dC (.int 1)))) (dLst (dCons (dC (.int 0)) (dNil))))
def t_key_of (F_parts_of : Ct) : DS :=
  dSeq (dSet 2 (dCall F_parts_of (dCons (dVar 0) (dCons (dVar 1) (dNil))))) (dRet (dCB gTupleOf (dCons (dLc (dKeys (dVar 2)) (.nm 3) (dYes) (dTup (dCons (dVar 3) (dCons (dOp gGetK (dVar 2) (dVar 3)) (dNil)))) [3]) (dNil))))
def t_all_unlike (wd : World) (F_of_size : Ct) (F_key_of : Ct) : DS :=
  dSeq (dOwnN wd 3) (dSeq (dFor (dRng1 (dCons (dOp gAdd (dVar 2) (dC (.int 1))) (dNil))) (.nm 4) (dFor (dWalk (dCall F_of_size (dCons (dCB gLen (dCons (dVar 0) (dNil))) (dCons (dVar 4) (dNil))))) (.nm 5) (dPutN wd 3 (dCall F_key_of (dCons (dVar 0) (dCons (dVar 5) (dNil)))) (dVar 5)))) (dSeq (dFor (dRng1 (dCons (dOp gAdd (dVar 1) (dC (.int 1))) (dNil))) (.nm 4) (dFor (dWalk (dCall F_of_size (dCons (dCB gLen (dCons (dVar 0) (dNil))) (dCons (dVar 4) (dNil))))) (.nm 5) (dIf (dTest (dOp gNe (dGet2N wd 3 (dCall F_key_of (dCons (dVar 0) (dCons (dVar 5) (dNil)))) (dVar 5)) (dVar 5))) (dRet (dC (.bool false))) (dNext)))) (dRet (dC (.bool true)))))
def t_shows (F_need_row : Ct) (F_need_count : Ct) (F_is_of_roots : Ct) (F_is_count : Ct) (F_all_unlike : Ct) : DS :=
  dSeq (dDrop (dCall F_need_row (dCons (dVar 0) (dNil)))) (dSeq (dDrop (dCall F_need_count (dCons (dVar 1) (dCons (dC (.int 1)) (dCons (dC (.int (8))) (dNil)))))) (dSeq (dIf (dOr (dNot (dTest (dIsi "tuple" (dVar 2)))) (dTest (dOp gNotInT (dCB gLen (dCons (dVar 2) (dNil))) (dTup (dCons (dC (.int 2)) (dCons (dC (.int 3)) (dNil))))))) (dRet (dC (.bool false))) (dNext)) (dSeq (dIf (dAnd (dTest (dOp gEq (dOp gIx (dVar 2) (dC (.int 0))) (dC (.str "roots")))) (dTest (dOp gEq (dCB gLen (dCons (dVar 2) (dNil))) (dC (.int 2))))) (dRet (dAndV (dIsi "list" (dOp gIx (dVar 2) (dC (.int 1)))) (dCall F_is_of_roots (dCons (dVar 0) (dCons (dOp gIx (dVar 2) (dC (.int 1))) (dNil)))))) (dNext)) (dSeq (dIf (dOr (dTest (dOp gNe (dOp gIx (dVar 2) (dC (.int 0))) (dC (.str "halves")))) (dOr (dTest (dOp gNe (dCB gLen (dCons (dVar 2) (dNil))) (dC (.int 3)))) (dNot (dTest (dCB gAll (dCons (dLc (dWalkT (dSlc (dVar 2) (dP (dC (.int 1))) dNoP)) (.nm 3) (dYes) (dCall F_is_count (dCons (dVar 3) (dCons (dC (.int 0)) (dCons (dOp gFdiv (dC (.int (8))) (dC (.int 2))) (dNil))))) [3]) (dNil))))))) (dRet (dC (.bool false))) (dNext)) (dRet (dAndV (dOp gGe (dOp gAdd (dOp gIx (dVar 2) (dC (.int 1))) (dOp gIx (dVar 2) (dC (.int 2)))) (dVar 1)) (dCall F_all_unlike (dCons (dVar 0) (dCons (dOp gIx (dVar 2) (dC (.int 1))) (dCons (dOp gIx (dVar 2) (dC (.int 2))) (dNil)))))))))))
def t_law_k40 (cs : List Str) (F__law_drawn : Ct) (F__law_cell : Ct) (F__law_row : Ct) (F__law_rows : Ct) (F__law_above : Ct) (F__law_parts : Ct) (F_noughts : Ct) (F_least : Ct) (F_paper : Ct) (F__law_plain : Ct) (F_shows : Ct) : DS :=
  dSeq (dFor (dRng1 (dCons (dCB gMax2 (dCons (dC (.int 1)) (dCons (dCB gMin2 (dCons (dC (.int 2)) (dCons (dCB gLen (dCons (dVar 0) (dNil))) (dNil)))) (dNil)))) (dNil))) (.nm 1) (dSeq (dSet 2 (dCall F__law_drawn (dCons (dCall F__law_cell (dCons (dVar 0) (dCons (dVar 1) (dNil)))) (dCons (dVar 1) (dNil))))) (dSeq (dSet 3 (dCall F__law_row (dCons (dOp gFdiv (dVar 2) (dC (.int 64))) (dCons (dOp gIx (dLst (dCons (dC (.int 3)) (dCons (dC (.int 4)) (dCons (dC (.int 3)) (dCons (dC (.int 5)) (dNil)))))) (dOp gMod (dVar 2) (dC (.int 4)))) (dNil))))) (dSeq (dSet 4 (dOp gIx (dLst (dCons (dC (.int 8)) (dCons (dC (.int 8)) (dCons (dC (.int 6)) (dCons (dC (.int 6)) (dCons (dC (.int 4)) (dNil))))))) (dOp gSub (dCB gLen (dCons (dVar 3) (dNil))) (dC (.int 1))))) (dSeq (dSet 5 (dC .none)) (dSeq (dFor (dRng2 (dCons (dC (.int 1)) (dCons (dOp gAdd (dVar 4) (dC (.int 1))) (dNil)))) (.nm 6) (dSeq (dSet 7 (dLc (dWalk (dCall F__law_rows (dCons (dCB gLen (dCons (dVar 3) (dNil))) (dCons (dVar 6) (dNil))))) (.nm 13) (dAnd (dTest (dCall F__law_above (dCons (dVar 13) (dNil)))) (dTest (dOp gEq (dCall F__law_parts (dCons (dVar 3) (dCons (dVar 13) (dNil)))) (dLst (dNil))))) (dVar 13) [13])) (dSeq (dIf (dTest (dOp gNe (dCall F_noughts (dCons (dVar 3) (dCons (dVar 6) (dNil)))) (dVar 7))) (dRet (dC (.bool false))) (dNext)) (dSeq (dSet 5 (dIfE (dAnd (dTest (dOp gIs (dVar 5) (dC .none))) (dTest (dOp gNe (dVar 7) (dLst (dNil))))) (dOp gIx (dVar 7) (dC (.int 0))) (dVar 5))) (dSeq (dIf (dTest (dOp gNe (dCall F_least (dCons (dVar 3) (dCons (dVar 6) (dNil)))) (dVar 5))) (dRet (dC (.bool false))) (dNext)) (dSeq (dSet 8 (dCall F_paper (dCons (dVar 3) (dCons (dVar 6) (dNil))))) (dSeq (dIf (dTest (dOp gNe (dOp gIs (dVar 8) (dC .none)) (dOp gIsNot (dVar 5) (dC .none)))) (dRet (dC (.bool false))) (dNext)) (dIf (dTest (dOp gIsNot (dVar 8) (dC .none))) (dSeq (dSet 9 (dLc (dWalk (dVar 3)) (.nm 14) (dYes) (dOp gIx (dCall F__law_plain (dCons (dVar 14) (dNil))) (dC (.int 1))) [14])) (dSeq (dSet 10 (dAndV (dOp gEq (dLenSet (dVar 9)) (dCB gLen (dCons (dVar 9) (dNil)))) (dOp gNotIn (dC (.int 0)) (dLc (dWalk (dVar 3)) (.nm 14) (dYes) (dOp gIx (dVar 14) (dC (.int 0))) [14])))) (dSeq (dIf (dTest (dOp gNe (dVar 8) (dIfE (dTest (dVar 10)) (dTup (dCons (dC (.str "roots")) (dCons (dVar 9) (dNil)))) (dTup (dCons (dC (.str "halves")) (dCons (dOp gSub (dVar 6) (dOp gFdiv (dVar 6) (dC (.int 2)))) (dCons (dOp gFdiv (dVar 6) (dC (.int 2))) (dNil)))))))) (dRet (dC (.bool false))) (dNext)) (dIf (dOr (dTest (dOp gIsNot (dCall F_shows (dCons (dVar 3) (dCons (dVar 6) (dCons (dVar 8) (dNil))))) (dC (.bool true)))) (dTest (dOp gIsNot (dCall F_shows (dCons (dVar 3) (dCons (dC (.int 1)) (dCons (dVar 8) (dNil))))) (dC (.bool true))))) (dRet (dC (.bool false))) (dNext))))) (dNext))))))))) (dFor (dWalk (dLst (dCons (dC (.int 0)) (dCons (dC (.int 9)) (dCons (dNeg (dC (.int 1))) (dCons (dC .none) (dCons (dC (.bool true)) (dCons (dC (.str "1")) (dNil))))))))) (.nm 11) (dSeq (dOwnL 12 (dCons (dTold cs (dCall F_noughts (dCons (dVar 3) (dCons (dVar 11) (dNil))))) (dNil))) (dSeq (dApp 12 (dTold cs (dCall F_least (dCons (dVar 3) (dCons (dVar 11) (dNil)))))) (dSeq (dApp 12 (dTold cs (dCall F_paper (dCons (dVar 3) (dCons (dVar 11) (dNil)))))) (dSeq (dApp 12 (dTold cs (dCall F_shows (dCons (dVar 3) (dCons (dVar 11) (dCons (dC .none) (dNil))))))) (dIf (dOr (dTest (dOp gNe (dVar 12) (dOp gMul (dLst (dCons (dC (.str "BadNumber")) (dNil))) (dC (.int 4))))) (dTest (dOp gNe (dTold cs (dCall F_least (dCons (dLst (dNil)) (dCons (dVar 11) (dNil))))) (dC (.str "BadRow"))))) (dRet (dC (.bool false))) (dNext))))))))))))) (dRet (dC (.bool true)))
def t__law_halves (wd : World) (F__law_rows : Ct) (F__law_parts : Ct) : DS :=
  dSeq (dOwnN wd 3) (dSeq (dFor (dRng1 (dCons (dOp gAdd (dCB gMax2 (dCons (dVar 1) (dCons (dVar 2) (dNil)))) (dC (.int 1))) (dNil))) (.nm 4) (dFor (dWalk (dCall F__law_rows (dCons (dCB gLen (dCons (dVar 0) (dNil))) (dCons (dVar 4) (dNil))))) (.nm 5) (dSeq (dSet 6 (dCB gTupleOf (dCons (dCall F__law_parts (dCons (dVar 0) (dCons (dVar 5) (dNil)))) (dNil)))) (dSeq (dFor (dWalk (dGet2N wd 3 (dVar 6) (dLst (dNil)))) (.tp [7, 8]) (dIf (dAnd (dTest (dOp gLe (dCB gMin2 (dCons (dVar 4) (dCons (dVar 8) (dNil)))) (dCB gMin2 (dCons (dVar 1) (dCons (dVar 2) (dNil)))))) (dTest (dOp gLe (dCB gMax2 (dCons (dVar 4) (dCons (dVar 8) (dNil)))) (dCB gMax2 (dCons (dVar 1) (dCons (dVar 2) (dNil))))))) (dRet (dC (.bool false))) (dNext))) (dPutN wd 3 (dVar 6) (dOp gAdd (dGet2N wd 3 (dVar 6) (dLst (dNil))) (dLst (dCons (dTup (dCons (dVar 5) (dCons (dVar 4) (dNil)))) (dNil))))))))) (dRet (dC (.bool true))))
def t_law_k41 (F__law_drawn : Ct) (F__law_cell : Ct) (F__law_row : Ct) (F__law_plain : Ct) (F_least : Ct) (F__law_halves : Ct) (F_shows : Ct) : DS :=
  dSeq (dFor (dRng1 (dCons (dCB gMax2 (dCons (dC (.int 1)) (dCons (dCB gMin2 (dCons (dC (.int 2)) (dCons (dCB gLen (dCons (dVar 0) (dNil))) (dNil)))) (dNil)))) (dNil))) (.nm 1) (dSeq (dSet 2 (dCall F__law_drawn (dCons (dCall F__law_cell (dCons (dVar 0) (dCons (dVar 1) (dNil)))) (dCons (dVar 1) (dNil))))) (dSeq (dSet 3 (dCall F__law_row (dCons (dOp gFdiv (dVar 2) (dC (.int 64))) (dCons (dC (.int 3)) (dNil))))) (dSeq (dSet 4 (dOp gAdd (dC (.int 1)) (dOp gMod (dVar 2) (dC (.int 8))))) (dSeq (dSet 5 (dLc (dWalk (dVar 3)) (.nm 14) (dYes) (dCall F__law_plain (dCons (dVar 14) (dNil))) [14])) (dSeq (dSet 6 (dLc (dWalk (dVar 5)) (.tp [15, 16]) (dYes) (dVar 16) [15, 16])) (dSeq (dSet 7 (dAndV (dOp gEq (dLenSet (dVar 6)) (dCB gLen (dCons (dVar 6) (dNil)))) (dOp gNotIn (dTup (dCons (dC (.int 0)) (dCons (dC (.int 1)) (dNil)))) (dVar 5)))) (dSeq (dSet 8 (dCall F_least (dCons (dVar 3) (dCons (dVar 4) (dNil))))) (dSeq (dFor (dRng1 (dCons (dC (.int 5)) (dNil))) (.nm 9) (dFor (dRng1 (dCons (dC (.int 5)) (dNil))) (.nm 10) (dSeq (dSet 11 (dAndV (dOp gGe (dOp gAdd (dVar 9) (dVar 10)) (dVar 4)) (dCall F__law_halves (dCons (dVar 3) (dCons (dVar 9) (dCons (dVar 10) (dNil))))))) (dIf (dOr (dTest (dOp gNe (dCall F_shows (dCons (dVar 3) (dCons (dVar 4) (dCons (dTup (dCons (dC (.str "halves")) (dCons (dVar 9) (dCons (dVar 10) (dNil))))) (dNil))))) (dVar 11))) (dAnd (dTest (dVar 11)) (dTest (dOp gIsNot (dVar 8) (dC .none))))) (dRet (dC (.bool false))) (dNext))))) (dSeq (dIf (dOr (dTest (dOp gNe (dCall F_shows (dCons (dVar 3) (dCons (dVar 4) (dCons (dTup (dCons (dC (.str "roots")) (dCons (dVar 6) (dNil)))) (dNil))))) (dVar 7))) (dAnd (dTest (dVar 7)) (dTest (dOp gIsNot (dVar 8) (dC .none))))) (dRet (dC (.bool false))) (dNext)) (dSeq (dIf (dAnd (dTest (dOp gIs (dVar 8) (dC .none))) (dNot (dTest (dCall F_shows (dCons (dVar 3) (dCons (dVar 4) (dCons (dTup (dCons (dC (.str "halves")) (dCons (dOp gSub (dVar 4) (dOp gFdiv (dVar 4) (dC (.int 2)))) (dCons (dOp gFdiv (dVar 4) (dC (.int 2))) (dNil))))) (dNil)))))))) (dRet (dC (.bool false))) (dNext)) (dSeq (dSet 12 (dLst (dCons (dC .none) (dCons (dTup (dNil)) (dCons (dTup (dCons (dC (.str "halves")) (dNil))) (dCons (dTup (dCons (dC (.str "halves")) (dCons (dC (.int 4)) (dNil)))) (dCons (dTup (dCons (dC (.str "halves")) (dCons (dC (.int 4)) (dCons (dC (.int 5)) (dNil))))) (dCons (dTup (dCons (dC (.str "halves")) (dCons (dC (.int 8)) (dCons (dC (.int 0)) (dNil))))) (dCons (dTup (dCons (dC (.str "halves")) (dCons (dNeg (dC (.int 1))) (dCons (dC (.int 4)) (dNil))))) (dNil)))))))))) (dSeq (dSet 12 (dOp gAdd (dVar 12) (dLst (dCons (dLst (dCons (dC (.str "roots")) (dCons (dVar 6) (dNil)))) (dCons (dTup (dCons (dC (.str "roots")) (dNil))) (dCons (dTup (dCons (dC (.str "roots")) (dCons (dCB gTupleOf (dCons (dVar 6) (dNil))) (dNil)))) (dCons (dTup (dCons (dC (.str "roots")) (dCons (dOp gAdd (dVar 6) (dLst (dCons (dC (.int 2)) (dNil)))) (dNil)))) (dNil)))))))) (dSeq (dSet 12 (dOp gAdd (dVar 12) (dLst (dCons (dTup (dCons (dC (.str "roots")) (dCons (dC .none) (dNil)))) (dCons (dTup (dCons (dC (.str "halves")) (dCons (dC (.bool true)) (dCons (dC (.int 4)) (dNil))))) (dCons (dTup (dCons (dC (.str "sum")) (dCons (dC (.int 4)) (dCons (dC (.int 4)) (dNil))))) (dCons (dTup (dCons (dC (.str "roots")) (dCons (dVar 6) (dCons (dC (.int 1)) (dNil))))) (dCons (dC (.str "roots")) (dNil))))))))) (dFor (dWalk (dOp gAdd (dVar 12) (dLst (dCons (dTup (dCons (dC (.str "roots")) (dCons (dLc (dWalk (dVar 6)) (.nm 16) (dYes) (dOp gAdd (dVar 16) (dC (.int 1))) [16]) (dNil)))) (dCons (dTup (dCons (dC .none) (dCons (dVar 6) (dNil)))) (dNil)))))) (.nm 13) (dIf (dTest (dOp gIsNot (dCall F_shows (dCons (dVar 3) (dCons (dVar 4) (dCons (dVar 13) (dNil))))) (dC (.bool false)))) (dRet (dC (.bool false))) (dNext))))))))))))))))) (dRet (dC (.bool true)))
def t__law_sized (F_noughts : Ct) : DS :=
  dRet (dLc (dRng2 (dCons (dC (.int 1)) (dCons (dOp gAdd (dVar 1) (dC (.int 1))) (dNil)))) (.nm 2) (dYes) (dCall F_noughts (dCons (dVar 0) (dCons (dVar 2) (dNil)))) [2])
def t__law_signs_right (F_sign : Ct) (F_compare : Ct) (F_parts : Ct) (F_is_nought : Ct) : DS :=
  dSeq (dIf (dOr (dTest (dOp gNe (dCall F_sign (dCons (dVar 1) (dCons (dVar 2) (dNil)))) (dOp gSub (dC (.int 0)) (dCall F_sign (dCons (dVar 0) (dCons (dVar 2) (dNil))))))) (dTest (dOp gNe (dCall F_compare (dCons (dVar 0) (dCons (dVar 2) (dCons (dVar 3) (dNil))))) (dOp gSub (dC (.int 0)) (dCall F_compare (dCons (dVar 0) (dCons (dVar 3) (dCons (dVar 2) (dNil))))))))) (dRet (dC (.bool false))) (dNext)) (dSeq (dIf (dOr (dTest (dOp gNe (dCall F_compare (dCons (dVar 1) (dCons (dVar 2) (dCons (dVar 3) (dNil))))) (dCall F_compare (dCons (dVar 0) (dCons (dVar 3) (dCons (dVar 2) (dNil))))))) (dTest (dOp gNe (dCall F_compare (dCons (dVar 0) (dCons (dVar 2) (dCons (dVar 2) (dNil))))) (dC (.int 0))))) (dRet (dC (.bool false))) (dNext)) (dSeq (dIf (dTest (dOp gNe (dCall F_parts (dCons (dVar 1) (dCons (dVar 2) (dNil)))) (dLc (dWalk (dCall F_parts (dCons (dVar 0) (dCons (dVar 2) (dNil))))) (.tp [4, 5]) (dYes) (dTup (dCons (dVar 4) (dCons (dOp gSub (dC (.int 0)) (dVar 5)) (dNil)))) [4, 5]))) (dRet (dC (.bool false))) (dNext)) (dRet (dChain gEq gEq (dCall F_is_nought (dCons (dVar 0) (dCons (dVar 2) (dNil)))) (dOp gEq (dCall F_sign (dCons (dVar 0) (dCons (dVar 2) (dNil)))) (dC (.int 0))) (dOp gEq (dCall F_parts (dCons (dVar 0) (dCons (dVar 2) (dNil)))) (dLst (dNil)))))))
def t__law_up : DS :=
  dSeq (dSet 1 (dLc (dWalk (dVar 0)) (.nm 2) (dTest (dOp gNe (dVar 2) (dC (.int 0)))) (dVar 2) [2])) (dRet (dIfE (dOr (dTest (dOp gEq (dVar 1) (dLst (dNil)))) (dTest (dOp gGt (dOp gIx (dVar 1) (dC (.int 0))) (dC (.int 0))))) (dCB gListOf (dCons (dVar 0) (dNil))) (dLc (dWalk (dVar 0)) (.nm 2) (dYes) (dOp gSub (dC (.int 0)) (dVar 2)) [2])))
def t_law_k42 (F__law_drawn : Ct) (F__law_cell : Ct) (F__law_row : Ct) (F__law_sized : Ct) (F_free : Ct) (F__law_up : Ct) (F_least : Ct) (F__law_signs_right : Ct) (F_basis : Ct) (F_is_nought : Ct) : DS :=
  dSeq (dFor (dRng1 (dCons (dCB gMax2 (dCons (dC (.int 1)) (dCons (dCB gMin2 (dCons (dC (.int 3)) (dCons (dCB gLen (dCons (dVar 0) (dNil))) (dNil)))) (dNil)))) (dNil))) (.nm 1) (dSeq (dSet 2 (dCall F__law_drawn (dCons (dCall F__law_cell (dCons (dVar 0) (dCons (dVar 1) (dNil)))) (dCons (dVar 1) (dNil))))) (dSeq (dSet 3 (dCall F__law_row (dCons (dOp gFdiv (dVar 2) (dC (.int 8))) (dCons (dC (.int 4)) (dNil))))) (dSeq (dPar 4 5 (dCons (dCall F__law_sized (dCons (dVar 3) (dCons (dC (.int 3)) (dNil)))) (dCons (dCB gLen (dCons (dVar 3) (dNil))) (dNil)))) (dSeq (dPar 6 7 (dCons (dLc (dWalk (dVar 3)) (.tp [13, 16]) (dYes) (dTup (dCons (dOp gSub (dC (.int 0)) (dVar 13)) (dCons (dVar 16) (dNil)))) [13, 16]) (dCons (dRev (dVar 3)) (dNil)))) (dSeq (dIf (dOr (dTest (dOp gNe (dCall F__law_sized (dCons (dVar 6) (dCons (dC (.int 3)) (dNil)))) (dVar 4))) (dOr (dTest (dOp gNe (dCall F_free (dCons (dVar 6) (dNil))) (dCall F_free (dCons (dVar 3) (dNil))))) (dTest (dOp gNe (dCall F_free (dCons (dVar 7) (dNil))) (dCall F_free (dCons (dVar 3) (dNil))))))) (dRet (dC (.bool false))) (dNext)) (dSeq (dIf (dTest (dOp gNe (dCall F__law_sized (dCons (dVar 7) (dCons (dC (.int 3)) (dNil)))) (dLc (dWalk (dVar 4)) (.nm 12) (dYes) (dSortRows (dLc (dWalk (dVar 12)) (.nm 9) (dYes) (dCall F__law_up (dCons (dRev (dVar 9)) (dNil))) [9])) [12]))) (dRet (dC (.bool false))) (dNext)) (dSeq (dSet 8 (dLc (dWalk (dVar 3)) (.tp [13, 16]) (dYes) (dTup (dCons (dVar 13) (dCons (dOp gMul (dVar 16) (dC (.int 2))) (dNil)))) [13, 16])) (dSeq (dIf (dAnd (dTest (dOp gLt (dCB gMaxL (dCons (dLc (dWalk (dVar 8)) (.tp [13, 16]) (dYes) (dVar 16) [13, 16]) (dNil))) (dC (.int 100)))) (dTest (dOp gNe (dCall F__law_sized (dCons (dVar 8) (dCons (dC (.int 3)) (dNil)))) (dVar 4)))) (dRet (dC (.bool false))) (dNext)) (dSeq (dIf (dTest (dOp gNe (dOp gIs (dCall F_least (dCons (dVar 3) (dCons (dC (.int 3)) (dNil)))) (dC .none)) (dOp gIs (dCall F_least (dCons (dVar 7) (dCons (dC (.int 3)) (dNil)))) (dC .none)))) (dRet (dC (.bool false))) (dNext)) (dSeq (dSet 9 (dLc (dRng1 (dCons (dVar 5) (dNil))) (.nm 17) (dYes) (dOp gSub (dOp gMod (dOp gFdiv (dCall F__law_drawn (dCons (dVar 2) (dCons (dOp gAdd (dC (.int 40)) (dVar 17)) (dNil)))) (dC (.int 8))) (dC (.int 9))) (dC (.int 4))) [17])) (dSeq (dSet 10 (dLc (dRng1 (dCons (dVar 5) (dNil))) (.nm 17) (dYes) (dOp gSub (dOp gMod (dOp gFdiv (dCall F__law_drawn (dCons (dVar 2) (dCons (dOp gAdd (dC (.int 50)) (dVar 17)) (dNil)))) (dC (.int 8))) (dC (.int 9))) (dC (.int 4))) [17])) (dSeq (dIf (dNot (dTest (dCall F__law_signs_right (dCons (dVar 3) (dCons (dVar 6) (dCons (dVar 9) (dCons (dVar 10) (dNil)))))))) (dRet (dC (.bool false))) (dNext)) (dSeq (dSet 11 (dCall F_basis (dCons (dVar 3) (dNil)))) (dSeq (dFor (dWalk (dVar 4)) (.nm 12) (dSet 11 (dOp gAdd (dVar 11) (dSlc (dVar 12) dNoP (dP (dC (.int 3))))))) (dFor (dWalk (dVar 11)) (.nm 13) (dFor (dWalk (dSlc (dVar 11) dNoP (dP (dC (.int 4))))) (.nm 14) (dSeq (dSet 15 (dLc (dZip (dCons (dVar 13) (dCons (dVar 14) (dNil)))) (.tp [18, 19]) (dYes) (dOp gAdd (dVar 18) (dVar 19)) [18, 19])) (dIf (dAnd (dTest (dOp gLt (dCB gMaxL (dCons (dLc (dWalk (dVar 15)) (.nm 18) (dYes) (dCB gAbs (dCons (dVar 18) (dNil))) [18]) (dNil))) (dC (.int 1001)))) (dNot (dTest (dCall F_is_nought (dCons (dVar 3) (dCons (dVar 15) (dNil))))))) (dRet (dC (.bool false))) (dNext)))))))))))))))))))) (dRet (dC (.bool true)))
def t_rows_up_to (F_of_size : Ct) (F_begins_above : Ct) : DS :=
  dSeq (dOwnL 2 (dNil)) (dSeq (dFor (dRng2 (dCons (dC (.int 1)) (dCons (dOp gAdd (dVar 1) (dC (.int 1))) (dNil)))) (.nm 3) (dExt 2 (dLc (dWalk (dCall F_of_size (dCons (dVar 0) (dCons (dVar 3) (dNil))))) (.nm 4) (dTest (dCall F_begins_above (dCons (dVar 4) (dNil)))) (dVar 4) [4]))) (dRet (dVar 2)))
def t_may_be : DS :=
  dSeq (dSet 2 (dCB gSum (dCons (dLc (dZip (dCons (dVar 1) (dCons (dVar 0) (dNil)))) (.tp [4, 5]) (dYes) (dOp gMul (dVar 4) (dVar 5)) [4, 5]) (dNil)))) (dSeq (dSet 3 (dOp gAdd (dVar 2) (dCB gSum (dCons (dLc (dWalk (dVar 1)) (.nm 4) (dTest (dOp gLt (dVar 4) (dC (.int 0)))) (dVar 4) [4]) (dNil))))) (dRet (dChain gLe gLe (dVar 3) (dC (.int 0)) (dOp gAdd (dVar 2) (dCB gSum (dCons (dLc (dWalk (dVar 1)) (.nm 4) (dTest (dOp gGt (dVar 4) (dC (.int 0)))) (dVar 4) [4]) (dNil)))))))
def t_enough (F_need_row : Ct) (F_need_count : Ct) (F_rows_up_to : Ct) (F_parts_of : Ct) (F_digits_of : Ct) (F_may_be : Ct) : DS :=
  dSeq (dDrop (dCall F_need_row (dCons (dVar 0) (dNil)))) (dSeq (dDrop (dCall F_need_count (dCons (dVar 1) (dCons (dC (.int 1)) (dCons (dC (.int (8))) (dNil)))))) (dSeq (dSet 2 (dLc (dWalk (dCall F_rows_up_to (dCons (dCB gLen (dCons (dVar 0) (dNil))) (dCons (dVar 1) (dNil))))) (.nm 5) (dTest (dOp gNeE (dCall F_parts_of (dCons (dVar 0) (dCons (dVar 5) (dNil)))) (dC (.dict [])))) (dVar 5) [5])) (dSeq (dFor (dRng1 (dCons (dOp gAdd (dC (.int (30))) (dC (.int 1))) (dNil))) (.nm 3) (dSeq (dSet 4 (dLc (dWalk (dVar 0)) (.nm 6) (dYes) (dCall F_digits_of (dCons (dVar 6) (dCons (dVar 3) (dNil)))) [6])) (dIf (dNot (dTest (dCB gAny (dCons (dLc (dWalk (dVar 2)) (.nm 5) (dYes) (dCall F_may_be (dCons (dVar 4) (dCons (dVar 5) (dNil)))) [5]) (dNil))))) (dRet (dVar 3)) (dNext)))) (dRet (dC .none)))))
def t__law_perhaps (F__law_spans : Ct) : DS :=
  dSeq (dSet 3 (dLc (dWalk (dVar 0)) (.nm 7) (dYes) (dOp gIx (dCall F__law_spans (dCons (dVar 7) (dCons (dVar 1) (dNil)))) (dC (.int 0))) [7])) (dSeq (dOwnL 4 (dNil)) (dSeq (dFor (dWalk (dVar 2)) (.nm 5) (dSeq (dSet 6 (dLc (dZip (dCons (dVar 5) (dCons (dVar 3) (dNil)))) (.tp [8, 9]) (dYes) (dTup (dCons (dOp gMul (dVar 8) (dVar 9)) (dCons (dOp gMul (dVar 8) (dOp gAdd (dVar 9) (dC (.int 1)))) (dNil)))) [8, 9])) (dIf (dTest (dChain gLe gLe (dCB gSum (dCons (dLc (dWalk (dVar 6)) (.nm 10) (dYes) (dCB gMinT (dCons (dVar 10) (dNil))) [10]) (dNil))) (dC (.int 0)) (dCB gSum (dCons (dLc (dWalk (dVar 6)) (.nm 10) (dYes) (dCB gMaxT (dCons (dVar 10) (dNil))) [10]) (dNil))))) (dApp 4 (dVar 5)) (dNext)))) (dRet (dVar 4))))
def t_perhaps (F_need_row : Ct) (F_need_count : Ct) (F_digits_of : Ct) (F_rows_up_to : Ct) (F_may_be : Ct) : DS :=
  dSeq (dDrop (dCall F_need_row (dCons (dVar 0) (dNil)))) (dSeq (dDrop (dCall F_need_count (dCons (dVar 1) (dCons (dC (.int 0)) (dCons (dC (.int (30))) (dNil)))))) (dSeq (dDrop (dCall F_need_count (dCons (dVar 2) (dCons (dC (.int 1)) (dCons (dC (.int (8))) (dNil)))))) (dSeq (dSet 3 (dLc (dWalk (dVar 0)) (.nm 4) (dYes) (dCall F_digits_of (dCons (dVar 4) (dCons (dVar 1) (dNil)))) [4])) (dRet (dLc (dWalk (dCall F_rows_up_to (dCons (dCB gLen (dCons (dVar 0) (dNil))) (dCons (dVar 2) (dNil))))) (.nm 5) (dTest (dCall F_may_be (dCons (dVar 3) (dCons (dVar 5) (dNil))))) (dVar 5) [5])))))
def t__law_refused_k50 (cs : List Str) (F_perhaps : Ct) (F_enough : Ct) : DS :=
  dSeq (dFor (dWalk (dLst (dCons (dNeg (dC (.int 1))) (dCons (dC (.int 31)) (dCons (dC .none) (dCons (dC (.bool true)) (dNil))))))) (.nm 1) (dSeq (dOwnL 2 (dCons (dTold cs (dCall F_perhaps (dCons (dVar 0) (dCons (dVar 1) (dCons (dC .none) (dNil)))))) (dNil))) (dSeq (dApp 2 (dTold cs (dCall F_perhaps (dCons (dLst (dNil)) (dCons (dVar 1) (dCons (dC (.int 1)) (dNil))))))) (dIf (dTest (dOp gNe (dVar 2) (dLst (dCons (dC (.str "BadNumber")) (dCons (dC (.str "BadRow")) (dNil)))))) (dRet (dC (.bool false))) (dNext))))) (dSeq (dFor (dWalk (dLst (dCons (dC (.int 0)) (dCons (dC (.int 9)) (dCons (dC .none) (dCons (dC (.bool true)) (dNil))))))) (.nm 1) (dSeq (dOwnL 2 (dCons (dTold cs (dCall F_perhaps (dCons (dVar 0) (dCons (dC (.int 1)) (dCons (dVar 1) (dNil)))))) (dNil))) (dSeq (dApp 2 (dTold cs (dCall F_enough (dCons (dVar 0) (dCons (dVar 1) (dNil)))))) (dIf (dTest (dOp gNe (dVar 2) (dOp gMul (dLst (dCons (dC (.str "BadNumber")) (dNil))) (dC (.int 2))))) (dRet (dC (.bool false))) (dNext))))) (dRet (dC (.bool true))))
def t_law_k50 (F__law_drawn : Ct) (F__law_cell : Ct) (F__law_row : Ct) (F__law_rows : Ct) (F__law_above : Ct) (F__law_parts : Ct) (F__law_perhaps : Ct) (F_perhaps : Ct) (F_enough : Ct) (F__law_refused_k50 : Ct) : DS :=
  dSeq (dFor (dRng1 (dCons (dCB gMax2 (dCons (dC (.int 1)) (dCons (dCB gMin2 (dCons (dC (.int 2)) (dCons (dCB gLen (dCons (dVar 0) (dNil))) (dNil)))) (dNil)))) (dNil))) (.nm 1) (dSeq (dSet 2 (dCall F__law_drawn (dCons (dCall F__law_cell (dCons (dVar 0) (dCons (dVar 1) (dNil)))) (dCons (dVar 1) (dNil))))) (dSeq (dSet 3 (dCall F__law_row (dCons (dOp gFdiv (dVar 2) (dC (.int 64))) (dCons (dC (.int 4)) (dNil))))) (dSeq (dSet 4 (dOp gAdd (dC (.int 1)) (dOp gMod (dVar 2) (dOp gIx (dLst (dCons (dC (.int 4)) (dCons (dC (.int 4)) (dCons (dC (.int 4)) (dCons (dC (.int 3)) (dNil)))))) (dOp gSub (dCB gLen (dCons (dVar 3) (dNil))) (dC (.int 1))))))) (dSeq (dOwnL 5 (dNil)) (dSeq (dFor (dRng2 (dCons (dC (.int 1)) (dCons (dOp gAdd (dVar 4) (dC (.int 1))) (dNil)))) (.nm 6) (dExt 5 (dLc (dWalk (dCall F__law_rows (dCons (dCB gLen (dCons (dVar 3) (dNil))) (dCons (dVar 6) (dNil))))) (.nm 13) (dTest (dCall F__law_above (dCons (dVar 13) (dNil)))) (dVar 13) [13]))) (dFrz 5 (dSeq (dSet 7 (dLc (dWalk (dVar 5)) (.nm 13) (dTest (dOp gEq (dCall F__law_parts (dCons (dVar 3) (dCons (dVar 13) (dNil)))) (dLst (dNil)))) (dVar 13) [13])) (dFrz 5 (dSeq (dAsg (.tp [8, 9]) (dTup (dCons (dC .none) (dCons (dVar 5) (dNil))))) (dSeq (dFor (dWalk (dLst (dCons (dC (.int 0)) (dCons (dC (.int 1)) (dCons (dC (.int 2)) (dCons (dC (.int 3)) (dCons (dC (.int 5)) (dCons (dC (.int 8)) (dCons (dC (.int 13)) (dCons (dC (.int 30)) (dNil))))))))))) (.nm 10) (dFrz 5 (dSeq (dSet 11 (dCall F__law_perhaps (dCons (dVar 3) (dCons (dVar 10) (dCons (dVar 5) (dNil)))))) (dSeq (dIf (dOr (dTest (dOp gNe (dCall F_perhaps (dCons (dVar 3) (dCons (dVar 10) (dCons (dVar 4) (dNil))))) (dVar 11))) (dTest (dOp gNe (dLc (dWalk (dVar 7)) (.nm 13) (dTest (dOp gNotIn (dVar 13) (dVar 11))) (dVar 13) [13]) (dLst (dNil))))) (dRet (dC (.bool false))) (dNext)) (dSeq (dIf (dTest (dOp gNe (dLc (dWalk (dVar 11)) (.nm 13) (dTest (dOp gNotIn (dVar 13) (dVar 9))) (dVar 13) [13]) (dLst (dNil)))) (dRet (dC (.bool false))) (dNext)) (dSeq (dSet 9 (dVar 11)) (dSet 8 (dIfE (dAnd (dTest (dOp gIs (dVar 8) (dC .none))) (dTest (dOp gEq (dVar 11) (dVar 7)))) (dVar 10) (dVar 8))))))))) (dSeq (dSet 12 (dCall F_enough (dCons (dVar 3) (dCons (dVar 4) (dNil))))) (dSeq (dIf (dOr (dTest (dOp gNe (dOp gIs (dVar 12) (dC .none)) (dOp gIs (dVar 8) (dC .none)))) (dAnd (dTest (dOp gIsNot (dVar 12) (dC .none))) (dTest (dOp gGt (dVar 12) (dVar 8))))) (dRet (dC (.bool false))) (dNext)) (dSeq (dIf (dAnd (dTest (dOp gIsNot (dVar 12) (dC .none))) (dTest (dOp gNe (dCall F_perhaps (dCons (dVar 3) (dCons (dVar 12) (dCons (dVar 4) (dNil))))) (dVar 7)))) (dRet (dC (.bool false))) (dNext)) (dSeq (dIf (dAnd (dTest (dOp gIsNot (dVar 12) (dC .none))) (dAnd (dTest (dOp gGt (dVar 12) (dC (.int 0)))) (dTest (dOp gEq (dCall F_perhaps (dCons (dVar 3) (dCons (dOp gSub (dVar 12) (dC (.int 1))) (dCons (dVar 4) (dNil))))) (dVar 7))))) (dRet (dC (.bool false))) (dNext)) (dIf (dNot (dTest (dCall F__law_refused_k50 (dCons (dVar 3) (dNil))))) (dRet (dC (.bool false))) (dNext))))))))))))))))) (dRet (dC (.bool true)))
def t__law_terms (F__law_root : Ct) : DS :=
  dSeq (dSet 2 (dCall F__law_root (dCons (dVar 0) (dNil)))) (dSeq (dOwn2 3 4 (dCons (dVar 2) (dNil)) (dNil)) (dSeq (dPar 5 6 (dCons (dVar 2) (dCons (dOp gSub (dVar 0) (dOp gMul (dVar 2) (dVar 2))) (dNil)))) (dSeq (dFor (dRng1 (dCons (dVar 1) (dNil))) (.nm 7) (dSeq (dApp 4 (dTup (dCons (dVar 5) (dCons (dVar 6) (dNil))))) (dSeq (dSet 8 (dOp gFdiv (dOp gAdd (dVar 2) (dVar 5)) (dVar 6))) (dSeq (dApp 3 (dVar 8)) (dSeq (dSet 5 (dOp gSub (dOp gMul (dVar 8) (dVar 6)) (dVar 5))) (dSet 6 (dOp gFdiv (dOp gSub (dVar 0) (dOp gMul (dVar 5) (dVar 5))) (dVar 6)))))))) (dFrz 4 (dFrz 3 (dRet (dTup (dCons (dVar 3) (dCons (dVar 4) (dNil))))))))))
def t_need_under (F_need_count : Ct) (F_root_below : Ct) : DS :=
  dSeq (dDrop (dCall F_need_count (dCons (dVar 0) (dCons (dC (.int 2)) (dCons (dC (.int (99))) (dNil)))))) (dIf (dTest (dOp gEq (dOp gMul (dCall F_root_below (dCons (dVar 0) (dNil))) (dCall F_root_below (dCons (dVar 0) (dNil)))) (dVar 0))) (dRaise "BadNumber") (dNext))
def t_terms_of (F_root_below : Ct) : DS :=
  dSeq (dSet 2 (dCall F_root_below (dCons (dVar 0) (dNil)))) (dSeq (dPar3 3 4 5 (dCons (dVar 2) (dCons (dC (.int 0)) (dCons (dC (.int 1)) (dNil))))) (dSeq (dOwnL 6 (dCons (dVar 3) (dNil))) (dSeq (dOwnL 7 (dNil)) (dSeq (dFor (dRng1 (dCons (dVar 1) (dNil))) (.nm 8) (dSeq (dSet 4 (dOp gSub (dOp gMul (dVar 3) (dVar 5)) (dVar 4))) (dSeq (dSet 5 (dOp gFdiv (dOp gSub (dVar 0) (dOp gMul (dVar 4) (dVar 4))) (dVar 5))) (dSeq (dSet 3 (dOp gFdiv (dOp gAdd (dVar 2) (dVar 4)) (dVar 5))) (dSeq (dApp 6 (dVar 3)) (dApp 7 (dTup (dCons (dVar 4) (dCons (dVar 5) (dNil)))))))))) (dFrz 7 (dFrz 6 (dRet (dTup (dCons (dVar 6) (dCons (dVar 7) (dNil)))))))))))
def t_nearer (F_need_under : Ct) (F_need_count : Ct) (F_terms_of : Ct) : DS :=
  dSeq (dDrop (dCall F_need_under (dCons (dVar 0) (dNil)))) (dSeq (dDrop (dCall F_need_count (dCons (dVar 1) (dCons (dC (.int 1)) (dCons (dC (.int (40))) (dNil)))))) (dSeq (dOwn2 2 3 (dCons (dC (.int 1)) (dNil)) (dCons (dC (.int 0)) (dNil))) (dSeq (dOwnL 4 (dNil)) (dSeq (dFor (dWalk (dSlc (dOp gIx (dCall F_terms_of (dCons (dVar 0) (dCons (dVar 1) (dNil)))) (dC (.int 0))) dNoP (dP (dVar 1)))) (.nm 5) (dSeq (dApp 2 (dOp gAdd (dOp gMul (dVar 5) (dOp gIx (dVar 2) (dNeg (dC (.int 1))))) (dIfE (dTest (dOp gGt (dCB gLen (dCons (dVar 2) (dNil))) (dC (.int 1)))) (dOp gIx (dVar 2) (dNeg (dC (.int 2)))) (dC (.int 0))))) (dSeq (dApp 3 (dOp gAdd (dOp gMul (dVar 5) (dOp gIx (dVar 3) (dNeg (dC (.int 1))))) (dIfE (dTest (dOp gGt (dCB gLen (dCons (dVar 3) (dNil))) (dC (.int 1)))) (dOp gIx (dVar 3) (dNeg (dC (.int 2)))) (dC (.int 1))))) (dApp 4 (dTup (dCons (dOp gIx (dVar 2) (dNeg (dC (.int 1)))) (dCons (dOp gIx (dVar 3) (dNeg (dC (.int 1)))) (dNil)))))))) (dRet (dVar 4))))))
def t_is_nearer : DS :=
  dSeq (dPar 3 4 (dCons (dOp gMul (dOp gIx (dVar 1) (dC (.int 0))) (dOp gIx (dVar 2) (dC (.int 1)))) (dCons (dOp gMul (dOp gIx (dVar 2) (dC (.int 0))) (dOp gIx (dVar 1) (dC (.int 1)))) (dNil)))) (dSeq (dSet 5 (dOp gMul (dOp gIx (dVar 1) (dC (.int 1))) (dOp gIx (dVar 2) (dC (.int 1))))) (dSeq (dPar 6 7 (dCons (dCB gMin2 (dCons (dVar 3) (dCons (dVar 4) (dNil)))) (dCons (dCB gMax2 (dCons (dVar 3) (dCons (dVar 4) (dNil)))) (dNil)))) (dSeq (dIf (dTest (dOp gEq (dVar 3) (dVar 4))) (dRet (dC (.bool false))) (dNext)) (dSeq (dSet 8 (dOp gAdd (dVar 6) (dVar 7))) (dSeq (dSet 9 (dOp gGt (dOp gMul (dVar 8) (dVar 8)) (dOp gMul (dOp gMul (dOp gMul (dC (.int 4)) (dVar 0)) (dVar 5)) (dVar 5)))) (dRet (dOp gEq (dVar 9) (dOp gLt (dVar 3) (dVar 4)))))))))
def t_best (F_need_under : Ct) (F_need_count : Ct) (F_root_below : Ct) (F_is_nearer : Ct) : DS :=
  dSeq (dDrop (dCall F_need_under (dCons (dVar 0) (dNil)))) (dSeq (dDrop (dCall F_need_count (dCons (dVar 1) (dCons (dC (.int 1)) (dCons (dC (.int (200))) (dNil)))))) (dSeq (dSet 2 (dC .none)) (dSeq (dFor (dRng2 (dCons (dC (.int 1)) (dCons (dOp gAdd (dVar 1) (dC (.int 1))) (dNil)))) (.nm 3) (dSeq (dSet 4 (dCall F_root_below (dCons (dOp gMul (dOp gMul (dVar 0) (dVar 3)) (dVar 3)) (dNil)))) (dFor (dWalkT (dTup (dCons (dVar 4) (dCons (dOp gAdd (dVar 4) (dC (.int 1))) (dNil))))) (.nm 5) (dIf (dOr (dTest (dOp gIs (dVar 2) (dC .none))) (dTest (dCall F_is_nearer (dCons (dVar 0) (dCons (dTup (dCons (dVar 5) (dCons (dVar 3) (dNil)))) (dCons (dVar 2) (dNil))))))) (dSet 2 (dTup (dCons (dVar 5) (dCons (dVar 3) (dNil))))) (dNext))))) (dRet (dVar 2)))))
def t_steps (F_need_under : Ct) (F_terms_of : Ct) : DS :=
  dSeq (dDrop (dCall F_need_under (dCons (dVar 0) (dNil)))) (dSeq (dAsg (.tp [1, 2]) (dCall F_terms_of (dCons (dVar 0) (dCons (dOp gMul (dC (.int 2)) (dC (.int (99)))) (dNil))))) (dSeq (dSet 3 (dOp gAdd (dIdx (dSlc (dVar 2) (dP (dC (.int 1))) dNoP) (dOp gIx (dVar 2) (dC (.int 0)))) (dC (.int 1)))) (dRet (dTup (dCons (dOp gIx (dVar 1) (dC (.int 0))) (dCons (dSlc (dVar 1) (dP (dC (.int 1))) (dP (dOp gAdd (dVar 3) (dC (.int 1))))) (dNil)))))))
def t_squares (F_need_under : Ct) (F_nearer : Ct) : DS :=
  dSeq (dDrop (dCall F_need_under (dCons (dVar 0) (dNil)))) (dSeq (dFor (dWalk (dCall F_nearer (dCons (dVar 0) (dCons (dC (.int (40))) (dNil))))) (.tp [1, 2]) (dIf (dTest (dOp gEq (dOp gSub (dOp gMul (dVar 1) (dVar 1)) (dOp gMul (dOp gMul (dVar 0) (dVar 2)) (dVar 2))) (dC (.int 1)))) (dRet (dTup (dCons (dVar 1) (dCons (dVar 2) (dNil))))) (dNext))) (dRaise "BadNumber"))
def t__law_is_one_apart (F__law_root : Ct) : DS :=
  dSeq (dSet 2 (dOp gAdd (dOp gMul (dOp gMul (dVar 0) (dVar 1)) (dVar 1)) (dC (.int 1)))) (dRet (dOp gEq (dOp gMul (dCall F__law_root (dCons (dVar 2) (dNil))) (dCall F__law_root (dCons (dVar 2) (dNil)))) (dVar 2)))
def t__law_squares_right (F_squares : Ct) (F__law_is_one_apart : Ct) : DS :=
  dSeq (dAsg (.tp [2, 3]) (dCall F_squares (dCons (dVar 0) (dNil)))) (dSeq (dIf (dOr (dTest (dOp gNe (dOp gSub (dOp gMul (dVar 2) (dVar 2)) (dOp gMul (dOp gMul (dVar 0) (dVar 3)) (dVar 3))) (dC (.int 1)))) (dOr (dTest (dOp gLt (dVar 2) (dC (.int 1)))) (dTest (dOp gLt (dVar 3) (dC (.int 1)))))) (dRet (dC (.bool false))) (dNext)) (dSeq (dIf (dTest (dOp gNe (dLc (dRng2 (dCons (dC (.int 1)) (dCons (dCB gMin2 (dCons (dVar 3) (dCons (dC (.int 400)) (dNil)))) (dNil)))) (.nm 4) (dTest (dCall F__law_is_one_apart (dCons (dVar 0) (dCons (dVar 4) (dNil))))) (dVar 4) [4]) (dLst (dNil)))) (dRet (dC (.bool false))) (dNext)) (dRet (dOp gEq (dLc (dWalk (dVar 1)) (.tp [5, 6]) (dAnd (dTest (dOp gLt (dVar 6) (dVar 3))) (dTest (dOp gEq (dOp gSub (dOp gMul (dVar 5) (dVar 5)) (dOp gMul (dOp gMul (dVar 0) (dVar 6)) (dVar 6))) (dC (.int 1))))) (dC (.int 1)) [5, 6]) (dLst (dNil))))))
def t__law_refused_k60 (cs : List Str) (F_nearer : Ct) (F_best : Ct) (F_steps : Ct) (F_squares : Ct) : DS :=
  dSeq (dFor (dWalk (dLst (dCons (dC (.int 0)) (dCons (dC (.int 41)) (dCons (dC .none) (dCons (dC (.bool true)) (dNil))))))) (.nm 1) (dIf (dTest (dOp gNe (dTold cs (dCall F_nearer (dCons (dVar 0) (dCons (dVar 1) (dNil))))) (dC (.str "BadNumber")))) (dRet (dC (.bool false))) (dNext))) (dSeq (dFor (dWalk (dLst (dCons (dC (.int 0)) (dCons (dC (.int 201)) (dCons (dC .none) (dCons (dC (.bool true)) (dNil))))))) (.nm 1) (dIf (dTest (dOp gNe (dTold cs (dCall F_best (dCons (dVar 0) (dCons (dVar 1) (dNil))))) (dC (.str "BadNumber")))) (dRet (dC (.bool false))) (dNext))) (dSeq (dFor (dWalk (dLst (dCons (dC (.int 1)) (dCons (dC (.int 100)) (dCons (dC .none) (dCons (dC (.bool true)) (dCons (dC (.str "2")) (dCons (dC (.int 4)) (dCons (dC (.int 81)) (dNil)))))))))) (.nm 1) (dSeq (dOwnL 2 (dCons (dTold cs (dCall F_steps (dCons (dVar 1) (dNil)))) (dNil))) (dSeq (dApp 2 (dTold cs (dCall F_squares (dCons (dVar 1) (dNil))))) (dSeq (dApp 2 (dTold cs (dCall F_best (dCons (dVar 1) (dCons (dC (.int 1)) (dNil)))))) (dSeq (dApp 2 (dTold cs (dCall F_nearer (dCons (dVar 1) (dCons (dC (.int 1)) (dNil)))))) (dIf (dTest (dOp gNe (dVar 2) (dOp gMul (dLst (dCons (dC (.str "BadNumber")) (dNil))) (dC (.int 4))))) (dRet (dC (.bool false))) (dNext))))))) (dRet (dC (.bool true)))))
def t__law_fraction : DS :=
  dSeq (dPar 1 2 (dCons (dOp gIx (dVar 0) (dNeg (dC (.int 1)))) (dCons (dC (.int 1)) (dNil)))) (dSeq (dFor (dWalk (dRev (dSlc (dVar 0) dNoP (dP (dNeg (dC (.int 1))))))) (.nm 3) (dPar 1 2 (dCons (dOp gAdd (dOp gMul (dVar 3) (dVar 1)) (dVar 2)) (dCons (dVar 1) (dNil))))) (dRet (dTup (dCons (dVar 1) (dCons (dVar 2) (dNil))))))
def t__law_off (F__law_spans : Ct) (F__law_ten : Ct) : DS :=
  dSeq (dSet 3 (dOp gIx (dCall F__law_spans (dCons (dTup (dCons (dC (.int 1)) (dCons (dVar 0) (dNil)))) (dCons (dC (.int 300)) (dNil)))) (dC (.int 0)))) (dSeq (dSet 4 (dCall F__law_ten (dCons (dC (.int 300)) (dNil)))) (dSeq (dSet 5 (dLc (dWalkT (dTup (dCons (dVar 1) (dCons (dVar 2) (dNil))))) (.nm 6) (dYes) (dCB gAbs (dCons (dOp gSub (dOp gMul (dOp gIx (dVar 6) (dC (.int 0))) (dVar 4)) (dOp gMul (dVar 3) (dOp gIx (dVar 6) (dC (.int 1))))) (dNil))) [6])) (dRet (dOp gLt (dOp gMul (dOp gIx (dVar 5) (dC (.int 0))) (dOp gIx (dVar 2) (dC (.int 1)))) (dOp gMul (dOp gIx (dVar 5) (dC (.int 1))) (dOp gIx (dVar 1) (dC (.int 1))))))))
def t_law_k60 (F__law_drawn : Ct) (F__law_cell : Ct) (F__law_root : Ct) (F__law_terms : Ct) (F_steps : Ct) (F_nearer : Ct) (F__law_fraction : Ct) (F__law_squares_right : Ct) (F__law_refused_k60 : Ct) (F__law_off : Ct) (F_best : Ct) : DS :=
  dSeq (dFor (dRng1 (dCons (dCB gMax2 (dCons (dC (.int 1)) (dCons (dCB gMin2 (dCons (dC (.int 3)) (dCons (dCB gLen (dCons (dVar 0) (dNil))) (dNil)))) (dNil)))) (dNil))) (.nm 1) (dSeq (dSet 2 (dCall F__law_drawn (dCons (dCall F__law_cell (dCons (dVar 0) (dCons (dVar 1) (dNil)))) (dCons (dVar 1) (dNil))))) (dSeq (dSet 3 (dOp gAdd (dC (.int 2)) (dOp gMod (dVar 2) (dC (.int 98))))) (dSeq (dIf (dTest (dOp gEq (dOp gMul (dCall F__law_root (dCons (dVar 3) (dNil))) (dCall F__law_root (dCons (dVar 3) (dNil)))) (dVar 3))) (dSet 3 (dOp gAdd (dVar 3) (dC (.int 1)))) (dNext)) (dSeq (dAsg (.tp [4, 5]) (dCall F__law_terms (dCons (dVar 3) (dCons (dC (.int 60)) (dNil))))) (dSeq (dSet 6 (dOp gAdd (dIdx (dSlc (dVar 5) (dP (dC (.int 1))) dNoP) (dOp gIx (dVar 5) (dC (.int 0)))) (dC (.int 1)))) (dSeq (dIf (dOr (dTest (dOp gNe (dCall F_steps (dCons (dVar 3) (dNil))) (dTup (dCons (dOp gIx (dVar 4) (dC (.int 0))) (dCons (dSlc (dVar 4) (dP (dC (.int 1))) (dP (dOp gAdd (dVar 6) (dC (.int 1))))) (dNil)))))) (dTest (dOp gNe (dOp gIx (dVar 4) (dVar 6)) (dOp gMul (dC (.int 2)) (dOp gIx (dVar 4) (dC (.int 0))))))) (dRet (dC (.bool false))) (dNext)) (dSeq (dPar 7 8 (dCons (dCall F_nearer (dCons (dVar 3) (dCons (dC (.int 40)) (dNil)))) (dCons (dOp gAdd (dC (.int 1)) (dOp gMod (dOp gFdiv (dVar 2) (dC (.int 128))) (dC (.int 40)))) (dNil)))) (dSeq (dIf (dOr (dTest (dOp gNe (dVar 7) (dLc (dRng1 (dCons (dC (.int 40)) (dNil))) (.nm 9) (dYes) (dCall F__law_fraction (dCons (dSlc (dVar 4) dNoP (dP (dOp gAdd (dVar 9) (dC (.int 1))))) (dNil))) [9]))) (dTest (dOp gNe (dCall F_nearer (dCons (dVar 3) (dCons (dVar 8) (dNil)))) (dSlc (dVar 7) dNoP (dP (dVar 8)))))) (dRet (dC (.bool false))) (dNext)) (dSeq (dFor21 (dEnum (dCons (dVar 7) (dNil))) 9 10 11 (dIf (dTest (dOp gNe (dOp gGt (dOp gMul (dVar 10) (dVar 10)) (dOp gMul (dOp gMul (dVar 3) (dVar 11)) (dVar 11))) (dOp gEq (dOp gMod (dVar 9) (dC (.int 2))) (dC (.int 1))))) (dRet (dC (.bool false))) (dNext))) (dSeq (dIf (dOr (dNot (dTest (dCall F__law_squares_right (dCons (dVar 3) (dCons (dVar 7) (dNil)))))) (dNot (dTest (dCall F__law_refused_k60 (dCons (dVar 3) (dNil)))))) (dRet (dC (.bool false))) (dNext)) (dSeq (dSet 12 (dC .none)) (dSeq (dFor (dRng2 (dCons (dC (.int 1)) (dCons (dOp gAdd (dC (.int 2)) (dOp gMod (dOp gFdiv (dVar 2) (dC (.int 4096))) (dC (.int 200)))) (dNil)))) (.nm 13) (dSeq (dSet 14 (dCall F__law_root (dCons (dOp gMul (dOp gMul (dVar 3) (dVar 13)) (dVar 13)) (dNil)))) (dFor (dWalk (dLst (dCons (dTup (dCons (dVar 14) (dCons (dVar 13) (dNil)))) (dCons (dTup (dCons (dOp gAdd (dVar 14) (dC (.int 1))) (dCons (dVar 13) (dNil)))) (dNil))))) (.nm 15) (dSet 12 (dIfE (dOr (dTest (dOp gIs (dVar 12) (dC .none))) (dTest (dCall F__law_off (dCons (dVar 3) (dCons (dVar 15) (dCons (dVar 12) (dNil))))))) (dVar 15) (dVar 12)))))) (dIf (dTest (dOp gNe (dCall F_best (dCons (dVar 3) (dCons (dOp gAdd (dC (.int 1)) (dOp gMod (dOp gFdiv (dVar 2) (dC (.int 4096))) (dC (.int 200)))) (dNil)))) (dVar 12))) (dRet (dC (.bool false))) (dNext))))))))))))))) (dRet (dC (.bool true)))
def t__law_text : DS :=
  dRet (dJoin (dC (.str " ")) (dLc (dWalk (dVar 0)) (.tp [1, 2]) (dYes) (dIfE (dTest (dOp gEq (dVar 2) (dC (.int 1)))) (dCB gStrB (dCons (dVar 1) (dNil))) (dOp gAdd (dOp gAdd (dCB gStrB (dCons (dVar 1) (dNil))) (dC (.str "r"))) (dCB gStrB (dCons (dVar 2) (dNil))))) [1, 2]))
def t_row_text : DS :=
  dRet (dJoin (dC (.str " ")) (dLc (dWalk (dVar 0)) (.tp [1, 2]) (dYes) (dIfE (dTest (dOp gNe (dVar 2) (dC (.int 1)))) (dOp gAdd (dOp gAdd (dCB gStrB (dCons (dVar 1) (dNil))) (dC (.str "r"))) (dCB gStrB (dCons (dVar 2) (dNil)))) (dCB gStrB (dCons (dVar 1) (dNil)))) [1, 2]))
def t_written (F_need_row : Ct) (F_row_text : Ct) : DS :=
  dSeq (dDrop (dCall F_need_row (dCons (dVar 0) (dNil)))) (dRet (dCall F_row_text (dCons (dVar 0) (dNil))))
def t_need : DS :=
  dIf (dNot (dTest (dVar 0))) (dRaise "BadText") (dNext)
def t_count_in (F_need : Ct) : DS :=
  dSeq (dSet 1 (dIfE (dTest (dOp gEq (dSlc (dVar 0) dNoP (dP (dC (.int 1)))) (dC (.str "-")))) (dSlc (dVar 0) (dP (dC (.int 1))) dNoP) (dVar 0))) (dSeq (dDrop (dCall F_need (dCons (dAndV (dChain gLe gLe (dC (.int 1)) (dCB gLen (dCons (dVar 1) (dNil))) (dC (.int 2))) (dCB gAll (dCons (dLc (dWalkS (dVar 1)) (.nm 2) (dYes) (dOp gInS (dVar 2) (dC (.str "0123456789"))) [2]) (dNil)))) (dNil)))) (dRet (dCB gIntS (dCons (dVar 0) (dNil)))))
def t_number_in (F_count_in : Ct) : DS :=
  dSeq (dAsg (.tp [1, 2, 3]) (dPart (dVar 0) (dC (.str "r")))) (dRet (dTup (dCons (dCall F_count_in (dCons (dVar 1) (dNil))) (dCons (dIfE (dTest (dOp gNe (dVar 2) (dC (.str "")))) (dCall F_count_in (dCons (dVar 3) (dNil))) (dC (.int 1))) (dNil)))))
def t_read (F_need : Ct) (F_number_in : Ct) (F_is_number : Ct) (F_row_text : Ct) : DS :=
  dSeq (dDrop (dCall F_need (dCons (dIsi "str" (dVar 0)) (dNil)))) (dSeq (dSet 1 (dLcX (dWalk (dSplit (dVar 0) (dC (.str " ")))) (.nm 2) (dCall F_number_in (dCons (dVar 2) (dNil))) [2])) (dSeq (dDrop (dCall F_need (dCons (dAndV (dOp gLe (dCB gLen (dCons (dVar 1) (dNil))) (dC (.int (5)))) (dAndV (dCB gAll (dCons (dLc (dWalk (dVar 1)) (.nm 3) (dYes) (dCall F_is_number (dCons (dVar 3) (dNil))) [3]) (dNil))) (dOp gEq (dCall F_row_text (dCons (dVar 1) (dNil))) (dVar 0)))) (dNil)))) (dRet (dVar 1))))
def t__law_is_right (cs : List Str) (F_read : Ct) (F_need_row : Ct) (F__law_text : Ct) : DS :=
  dSeq (dSet 1 (dTold cs (dCall F_read (dCons (dVar 0) (dNil))))) (dRet (dOrV (dOp gEq (dVar 1) (dC (.str "BadText"))) (dAndV (dOp gIs (dCall F_need_row (dCons (dVar 1) (dNil))) (dC .none)) (dOp gEq (dCall F__law_text (dCons (dVar 1) (dNil))) (dVar 0)))))
def t_law_k70 (cs : List Str) (F__law_drawn : Ct) (F__law_cell : Ct) (F__law_row : Ct) (F__law_text : Ct) (F_written : Ct) (F_read : Ct) (F__law_is_right : Ct) : DS :=
  dSeq (dSet 1 (dC (.str "0123456789r- +."))) (dSeq (dFor (dRng1 (dCons (dCB gMax2 (dCons (dC (.int 1)) (dCons (dCB gMin2 (dCons (dC (.int 4)) (dCons (dCB gLen (dCons (dVar 0) (dNil))) (dNil)))) (dNil)))) (dNil))) (.nm 2) (dSeq (dSet 3 (dCall F__law_drawn (dCons (dCall F__law_cell (dCons (dVar 0) (dCons (dVar 2) (dNil)))) (dCons (dVar 2) (dNil))))) (dSeq (dSet 4 (dCall F__law_row (dCons (dOp gFdiv (dVar 3) (dC (.int 64))) (dCons (dC (.int 5)) (dNil))))) (dSeq (dSet 5 (dCall F__law_text (dCons (dVar 4) (dNil)))) (dSeq (dIf (dOr (dTest (dOp gNe (dCall F_written (dCons (dVar 4) (dNil))) (dVar 5))) (dTest (dOp gNe (dCall F_read (dCons (dVar 5) (dNil))) (dVar 4)))) (dRet (dC (.bool false))) (dNext)) (dSeq (dFor (dRng1 (dCons (dOp gAdd (dCB gLen (dCons (dVar 5) (dNil))) (dC (.int 1))) (dNil))) (.nm 6) (dSeq (dSet 7 (dOp gIx (dVar 1) (dOp gMod (dCall F__law_drawn (dCons (dVar 3) (dCons (dVar 6) (dNil)))) (dC (.int 15))))) (dSeq (dIf (dOr (dNot (dTest (dCall F__law_is_right (dCons (dOp gAdd (dSlc (dVar 5) dNoP (dP (dVar 6))) (dSlc (dVar 5) (dP (dOp gAdd (dVar 6) (dC (.int 1)))) dNoP)) (dNil))))) (dNot (dTest (dCall F__law_is_right (dCons (dOp gAdd (dOp gAdd (dSlc (dVar 5) dNoP (dP (dVar 6))) (dVar 7)) (dSlc (dVar 5) (dP (dVar 6)) dNoP)) (dNil)))))) (dRet (dC (.bool false))) (dNext)) (dIf (dNot (dTest (dCall F__law_is_right (dCons (dOp gAdd (dOp gAdd (dSlc (dVar 5) dNoP (dP (dVar 6))) (dVar 7)) (dSlc (dVar 5) (dP (dOp gAdd (dVar 6) (dC (.int 1)))) dNoP)) (dNil))))) (dRet (dC (.bool false))) (dNext))))) (dSeq (dSet 8 (dLst (dCons (dC .none) (dCons (dC (.int 5)) (dCons (dC (.str "")) (dCons (dC (.str " ")) (dCons (dC (.str "1r1")) (dCons (dC (.str "1r0")) (dCons (dC (.str "01")) (dCons (dC (.str "-0")) (dCons (dC (.str "1r")) (dCons (dC (.str "r2")) (dCons (dC (.str "100")) (dCons (dC (.str "1r100")) (dCons (dC (.str "1r-2")) (dCons (dLst (dCons (dC (.str "1")) (dNil))) (dNil))))))))))))))))) (dSeq (dFor (dWalk (dOp gAdd (dVar 8) (dLst (dCons (dC (.str "1 1 1 1 1 1")) (dNil))))) (.nm 9) (dIf (dTest (dOp gNe (dTold cs (dCall F_read (dCons (dVar 9) (dNil)))) (dC (.str "BadText")))) (dRet (dC (.bool false))) (dNext))) (dFor (dWalk (dLst (dCons (dC .none) (dCons (dLst (dNil)) (dCons (dLst (dCons (dTup (dCons (dC (.int 1)) (dCons (dC (.int 0)) (dNil)))) (dNil))) (dCons (dTup (dCons (dTup (dCons (dC (.int 1)) (dCons (dC (.int 1)) (dNil)))) (dNil))) (dNil))))))) (.nm 9) (dIf (dTest (dOp gNe (dTold cs (dCall F_written (dCons (dVar 9) (dNil)))) (dC (.str "BadRow")))) (dRet (dC (.bool false))) (dNext))))))))))) (dRet (dC (.bool true))))
def t__law_number : DS :=
  dSeq (dSet 1 (dLst (dCons (dTup (dCons (dOp gSub (dOp gMod (dVar 0) (dC (.int 9))) (dC (.int 4))) (dCons (dC (.int 1)) (dNil)))) (dCons (dTup (dCons (dOp gSub (dOp gMod (dVar 0) (dC (.int 19))) (dC (.int 9))) (dCons (dOp gAdd (dC (.int 2)) (dOp gMod (dOp gFdiv (dVar 0) (dC (.int 64))) (dC (.int 5)))) (dNil)))) (dCons (dTup (dCons (dOp gSub (dOp gMod (dVar 0) (dC (.int 199))) (dC (.int 99))) (dCons (dOp gAdd (dC (.int 1)) (dOp gMod (dOp gFdiv (dVar 0) (dC (.int 64))) (dC (.int 99)))) (dNil)))) (dNil)))))) (dRet (dOp gIx (dVar 1) (dOp gMod (dOp gFdiv (dVar 0) (dC (.int 8192))) (dC (.int 3)))))
def t_exact (F_need_number : Ct) (F_plain_of : Ct) : DS :=
  dSeq (dDrop (dCall F_need_number (dCons (dVar 0) (dNil)))) (dSeq (dAsg (.tp [1, 2]) (dCall F_plain_of (dCons (dVar 0) (dNil)))) (dRet (dIfE (dTest (dOp gNe (dVar 1) (dC (.int 0)))) (dLst (dCons (dTup (dCons (dVar 2) (dCons (dVar 1) (dNil)))) (dNil))) (dLst (dNil)))))
def t__law_free : DS :=
  dRet (dOp gEq (dLc (dRng2 (dCons (dC (.int 2)) (dCons (dC (.int 100)) (dNil)))) (.nm 1) (dTest (dOp gEq (dOp gMod (dVar 0) (dOp gMul (dVar 1) (dVar 1))) (dC (.int 0)))) (dVar 1) [1]) (dLst (dNil)))
def t__law_exact (F__law_drawn : Ct) (F__law_free : Ct) : DS :=
  dSeq (dOwnK 1) (dSeq (dFor (dRng1 (dCons (dOp gMod (dVar 0) (dOp gIx (dLst (dCons (dC (.int 3)) (dCons (dC (.int 7)) (dNil)))) (dOp gMod (dOp gFdiv (dVar 0) (dC (.int 16))) (dC (.int 2))))) (dNil))) (.nm 2) (dSeq (dSet 3 (dCall F__law_drawn (dCons (dVar 0) (dCons (dOp gAdd (dC (.int 300)) (dVar 2)) (dNil))))) (dSeq (dSet 4 (dOp gIx (dLst (dCons (dC (.int 1)) (dCons (dC (.int 2)) (dCons (dC (.int 3)) (dCons (dC (.int 6)) (dCons (dC (.int 5)) (dCons (dC (.int 10)) (dCons (dC (.int 15)) (dCons (dC (.int 7)) (dCons (dC (.int 2)) (dCons (dC (.int 1)) (dNil)))))))))))) (dOp gMod (dVar 3) (dC (.int 10))))) (dSeq (dIf (dTest (dOp gEq (dOp gMod (dOp gFdiv (dVar 3) (dC (.int 16))) (dC (.int 6))) (dC (.int 0)))) (dSeq (dSet 5 (dOp gAdd (dOp gMod (dOp gFdiv (dVar 3) (dC (.int 64))) (dC (.int 9900))) (dC (.int 1)))) (dSet 4 (dOp gIx (dLc (dRng2 (dCons (dVar 5) (dCons (dOp gAdd (dVar 5) (dC (.int 20))) (dNil)))) (.nm 7) (dTest (dCall F__law_free (dCons (dVar 7) (dNil)))) (dVar 7) [7]) (dC (.int 0))))) (dNext)) (dSeq (dSet 6 (dOp gSub (dOp gMod (dOp gFdiv (dVar 3) (dOp gPow (dC (.int 2)) (dC (.int 20)))) (dOp gIx (dLst (dCons (dC (.int 9)) (dCons (dC (.int 200)) (dCons (dC (.int 2000001)) (dNil))))) (dOp gMod (dOp gFdiv (dVar 3) (dC (.int 1024))) (dC (.int 3))))) (dOp gIx (dLst (dCons (dC (.int 4)) (dCons (dC (.int 100)) (dCons (dC (.int 1000000)) (dNil))))) (dOp gMod (dOp gFdiv (dVar 3) (dC (.int 1024))) (dC (.int 3)))))) (dIf (dTest (dOp gNe (dVar 6) (dC (.int 0)))) (dPutK 1 (dVar 4) (dVar 6)) (dNext))))))) (dRet (dLc (dWalk (dCB gSortedK (dCons (dVar 1) (dNil)))) (.nm 4) (dYes) (dTup (dCons (dVar 4) (dCons (dOp gGetK (dVar 1) (dVar 4)) (dNil)))) [4])))
def t_has_square : DS :=
  dSeq (dSet 1 (dC (.int 2))) (dSeq (dWhile (dTest (dOp gLe (dOp gMul (dVar 1) (dVar 1)) (dVar 0))) (dSeq (dIf (dTest (dOp gEq (dOp gMod (dVar 0) (dOp gMul (dVar 1) (dVar 1))) (dC (.int 0)))) (dRet (dC (.bool true))) (dNext)) (dSet 1 (dOp gAdd (dVar 1) (dC (.int 1)))))) (dRet (dC (.bool false))))
def t_is_pair (F_is_count : Ct) (F_has_square : Ct) : DS :=
  dSeq (dIf (dOr (dNot (dTest (dIsi "tuple" (dVar 0)))) (dOr (dTest (dOp gNe (dCB gLen (dCons (dVar 0) (dNil))) (dC (.int 2)))) (dNot (dTest (dCall F_is_count (dCons (dOp gIx (dVar 0) (dC (.int 0))) (dCons (dC (.int 1)) (dCons (dC (.int (9999))) (dNil))))))))) (dRet (dC (.bool false))) (dNext)) (dRet (dAndV (dCall F_is_count (dCons (dOp gIx (dVar 0) (dC (.int 1))) (dCons (dOp gSub (dC (.int 0)) (dC (.int (1000000)))) (dCons (dC (.int (1000000))) (dNil))))) (dAndV (dOp gNe (dOp gIx (dVar 0) (dC (.int 1))) (dC (.int 0))) (dNotV (dCall F_has_square (dCons (dOp gIx (dVar 0) (dC (.int 0))) (dNil)))))))
def t_is_exact (F_is_pair : Ct) : DS :=
  dSeq (dIf (dOr (dNot (dTest (dIsi "list" (dVar 0)))) (dOr (dTest (dOp gGt (dCB gLen (dCons (dVar 0) (dNil))) (dC (.int (6))))) (dNot (dTest (dCB gAll (dCons (dLc (dWalk (dVar 0)) (.nm 1) (dYes) (dCall F_is_pair (dCons (dVar 1) (dNil))) [1]) (dNil))))))) (dRet (dC (.bool false))) (dNext)) (dRet (dCB gAll (dCons (dLc (dZip (dCons (dSlc (dVar 0) dNoP (dP (dNeg (dC (.int 1))))) (dCons (dSlc (dVar 0) (dP (dC (.int 1))) dNoP) (dNil)))) (.tp [1, 2]) (dYes) (dOp gLt (dOp gIx (dVar 1) (dC (.int 0))) (dOp gIx (dVar 2) (dC (.int 0)))) [1, 2]) (dNil))))
def t_need_exact (F_is_exact : Ct) : DS :=
  dIf (dNot (dTest (dCall F_is_exact (dCons (dVar 0) (dNil))))) (dRaise "BadExact") (dNext)
def t_rows_told (F_is_exact : Ct) : DS :=
  dSeq (dSet 1 (dLc (dWalk (dCB gSortedK (dCons (dVar 0) (dNil)))) (.nm 2) (dTest (dOp gNe (dOp gGetK (dVar 0) (dVar 2)) (dC (.int 0)))) (dTup (dCons (dVar 2) (dCons (dOp gGetK (dVar 0) (dVar 2)) (dNil)))) [2])) (dSeq (dIf (dNot (dTest (dCall F_is_exact (dCons (dVar 1) (dNil))))) (dRaise "TooGreat") (dNext)) (dRet (dVar 1)))
def t_total_of (F_rows_told : Ct) : DS :=
  dSeq (dOwnD 3 (dCons (dVar 0) (dNil))) (dSeq (dFor (dWalk (dVar 1)) (.tp [4, 5]) (dPutK 3 (dVar 4) (dOp gAdd (dGet2 (dVar 3) (dVar 4) (dC (.int 0))) (dOp gMul (dVar 2) (dVar 5))))) (dFrzK 3 (dRet (dCall F_rows_told (dCons (dVar 3) (dNil))))))
def t_added (F_need_exact : Ct) (F_total_of : Ct) : DS :=
  dSeq (dDrop (dCall F_need_exact (dCons (dVar 0) (dNil)))) (dSeq (dDrop (dCall F_need_exact (dCons (dVar 1) (dNil)))) (dRet (dCall F_total_of (dCons (dVar 0) (dCons (dVar 1) (dCons (dC (.int 1)) (dNil)))))))
def t_side (F_need_exact : Ct) (F_sign_of : Ct) : DS :=
  dSeq (dDrop (dCall F_need_exact (dCons (dVar 0) (dNil)))) (dRet (dCall F_sign_of (dCons (dDict (dCons (dVar 0) (dNil))) (dNil))))
def t__law_between (F__law_root : Ct) (F__law_ten : Ct) : DS :=
  dSeq (dAsg (.tp [2, 3]) (dTup (dCons (dC (.int 0)) (dCons (dC (.int 0)) (dNil))))) (dSeq (dFor (dWalk (dVar 0)) (.tp [4, 5]) (dSeq (dSet 6 (dCall F__law_root (dCons (dOp gMul (dOp gMul (dOp gMul (dVar 5) (dVar 5)) (dVar 4)) (dCall F__law_ten (dCons (dOp gMul (dC (.int 2)) (dVar 1)) (dNil)))) (dNil)))) (dIf (dTest (dOp gEq (dVar 4) (dC (.int 1)))) (dSeq (dSet 6 (dOp gMul (dVar 5) (dCall F__law_ten (dCons (dVar 1) (dNil))))) (dPar 2 3 (dCons (dOp gAdd (dVar 2) (dVar 6)) (dCons (dOp gAdd (dVar 3) (dVar 6)) (dNil))))) (dIf (dTest (dOp gGt (dVar 5) (dC (.int 0)))) (dPar 2 3 (dCons (dOp gAdd (dVar 2) (dVar 6)) (dCons (dOp gAdd (dOp gAdd (dVar 3) (dVar 6)) (dC (.int 1))) (dNil)))) (dPar 2 3 (dCons (dOp gSub (dOp gSub (dVar 2) (dVar 6)) (dC (.int 1))) (dCons (dOp gSub (dVar 3) (dVar 6)) (dNil)))))))) (dRet (dTup (dCons (dVar 2) (dCons (dVar 3) (dNil))))))
def t__law_side (F__law_between : Ct) : DS :=
  dSeq (dIf (dTest (dOp gEq (dVar 0) (dLst (dNil)))) (dRet (dC (.int 0))) (dNext)) (dSeq (dAsg (.tp [1, 2]) (dCall F__law_between (dCons (dVar 0) (dCons (dC (.int 20)) (dNil))))) (dSeq (dIf (dTest (dChain gLe gLe (dVar 1) (dC (.int 0)) (dVar 2))) (dAsg (.tp [1, 2]) (dCall F__law_between (dCons (dVar 0) (dCons (dC (.int 700)) (dNil))))) (dNext)) (dRet (dIfE (dTest (dOp gGt (dVar 1) (dC (.int 0)))) (dC (.int 1)) (dNeg (dC (.int 1)))))))
def t_places_of (F_power_of : Ct) (F_floor_of : Ct) : DS :=
  dSeq (dSet 2 (dCall F_power_of (dCons (dVar 1) (dNil)))) (dRet (dCall F_floor_of (dCons (dDict (dCons (dLc (dWalk (dVar 0)) (.tp [3, 4]) (dYes) (dTup (dCons (dVar 3) (dCons (dOp gMul (dVar 4) (dVar 2)) (dNil)))) [3, 4]) (dNil))) (dNil))))
def t_to_places (F_need_exact : Ct) (F_need_count : Ct) (F_places_of : Ct) : DS :=
  dSeq (dDrop (dCall F_need_exact (dCons (dVar 0) (dNil)))) (dSeq (dDrop (dCall F_need_count (dCons (dVar 1) (dCons (dC (.int 0)) (dCons (dC (.int (30))) (dNil)))))) (dRet (dCall F_places_of (dCons (dVar 0) (dCons (dVar 1) (dNil))))))
def t__law_floor (F__law_between : Ct) (F__law_ten : Ct) : DS :=
  dSeq (dAsg (.tp [2, 3]) (dCall F__law_between (dCons (dVar 0) (dCons (dC (.int 60)) (dNil))))) (dSeq (dIf (dAnd (dTest (dOp gNe (dOp gFdiv (dVar 2) (dCall F__law_ten (dCons (dOp gSub (dC (.int 60)) (dVar 1)) (dNil)))) (dOp gFdiv (dVar 3) (dCall F__law_ten (dCons (dOp gSub (dC (.int 60)) (dVar 1)) (dNil)))))) (dTest (dOp gNe (dVar 2) (dVar 3)))) (dSeq (dAsg (.tp [2, 3]) (dCall F__law_between (dCons (dVar 0) (dCons (dC (.int 700)) (dNil))))) (dRet (dOp gFdiv (dVar 2) (dCall F__law_ten (dCons (dOp gSub (dC (.int 700)) (dVar 1)) (dNil)))))) (dNext)) (dRet (dOp gFdiv (dVar 2) (dCall F__law_ten (dCons (dOp gSub (dC (.int 60)) (dVar 1)) (dNil))))))
def t_lessened (F_need_exact : Ct) (F_total_of : Ct) : DS :=
  dSeq (dDrop (dCall F_need_exact (dCons (dVar 0) (dNil)))) (dSeq (dDrop (dCall F_need_exact (dCons (dVar 1) (dNil)))) (dRet (dCall F_total_of (dCons (dVar 0) (dCons (dVar 1) (dCons (dNeg (dC (.int 1))) (dNil)))))))
def t_common : DS :=
  dSeq (dWhile (dTest (dOp gNe (dVar 1) (dC (.int 0)))) (dPar 0 1 (dCons (dVar 1) (dCons (dOp gMod (dVar 0) (dVar 1)) (dNil))))) (dRet (dVar 0))
def t_product_of (F_common : Ct) (F_rows_told : Ct) : DS :=
  dSeq (dOwnK 2) (dSeq (dFor (dWalk (dVar 0)) (.tp [3, 4]) (dFor (dWalk (dVar 1)) (.tp [5, 6]) (dSeq (dSet 7 (dCall F_common (dCons (dVar 3) (dCons (dVar 5) (dNil))))) (dSeq (dSet 8 (dOp gMul (dOp gFdiv (dVar 3) (dVar 7)) (dOp gFdiv (dVar 5) (dVar 7)))) (dPutK 2 (dVar 8) (dOp gAdd (dGet2 (dVar 2) (dVar 8) (dC (.int 0))) (dOp gMul (dOp gMul (dVar 7) (dVar 4)) (dVar 6)))))))) (dFrzK 2 (dRet (dCall F_rows_told (dCons (dVar 2) (dNil))))))
def t_multiplied (F_need_exact : Ct) (F_product_of : Ct) : DS :=
  dSeq (dDrop (dCall F_need_exact (dCons (dVar 0) (dNil)))) (dSeq (dDrop (dCall F_need_exact (dCons (dVar 1) (dNil)))) (dRet (dCall F_product_of (dCons (dVar 0) (dCons (dVar 1) (dNil))))))
def t__law_is_exact : DS :=
  dSeq (dIf (dOr (dTest (dOp gGt (dCB gLen (dCons (dVar 0) (dNil))) (dC (.int 6)))) (dTest (dOp gNe (dLc (dWalk (dVar 0)) (.nm 1) (dYes) (dOp gIx (dVar 1) (dC (.int 0))) [1]) (dSortSet (dLc (dWalk (dVar 0)) (.nm 1) (dYes) (dOp gIx (dVar 1) (dC (.int 0))) [1]))))) (dRet (dC (.bool false))) (dNext)) (dRet (dOp gEq (dLc (dWalk (dVar 0)) (.nm 1) (dOr (dTest (dOp gEq (dOp gIx (dVar 1) (dC (.int 1))) (dC (.int 0)))) (dOr (dTest (dOp gGt (dCB gAbs (dCons (dOp gIx (dVar 1) (dC (.int 1))) (dNil))) (dOp gPow (dC (.int 10)) (dC (.int 6))))) (dTest (dOp gGt (dOp gIx (dVar 1) (dC (.int 0))) (dC (.int 9999)))))) (dVar 1) [1]) (dLst (dNil))))
def t__law_rows_of (F__law_is_exact : Ct) : DS :=
  dSeq (dSet 1 (dLc (dWalk (dCB gSorted (dCons (dVar 0) (dNil)))) (.nm 2) (dTest (dOp gNe (dOp gIx (dVar 0) (dVar 2)) (dC (.int 0)))) (dTup (dCons (dVar 2) (dCons (dOp gIx (dVar 0) (dVar 2)) (dNil)))) [2])) (dRet (dIfE (dTest (dCall F__law_is_exact (dCons (dVar 1) (dNil)))) (dVar 1) (dC (.str "TooGreat"))))
def t_total_free : DS :=
  dSeq (dOwnD 2 (dCons (dVar 0) (dNil))) (dSeq (dFor (dWalk (dVar 1)) (.tp [3, 4]) (dPutK 2 (dVar 3) (dOp gSub (dGet2 (dVar 2) (dVar 3) (dC (.int 0))) (dVar 4)))) (dFrzK 2 (dRet (dLc (dKeys (dVar 2)) (.nm 3) (dTest (dOp gNe (dOp gGetK (dVar 2) (dVar 3)) (dC (.int 0)))) (dTup (dCons (dVar 3) (dCons (dOp gGetK (dVar 2) (dVar 3)) (dNil)))) [3]))))
def t_rising (F_need_exact : Ct) (F_sign_of : Ct) (F_total_free : Ct) : DS :=
  dSeq (dIf (dOr (dNot (dTest (dIsi "list" (dVar 0)))) (dTest (dOp gGt (dCB gLen (dCons (dVar 0) (dNil))) (dC (.int (10)))))) (dRaise "BadExact") (dNext)) (dSeq (dFor (dWalk (dVar 0)) (.nm 1) (dDrop (dCall F_need_exact (dCons (dVar 1) (dNil))))) (dSeq (dOwnL 2 (dNil)) (dSeq (dFor (dWalk (dVar 0)) (.nm 1) (dIf (dTest (dOp gNotIn (dVar 1) (dVar 2))) (dSeq (dSet 3 (dCB gLen (dCons (dLcE 2 [4]) (dNil)))) (dIns 2 (dCons (dVar 3) (dCons (dCB gListOf (dCons (dVar 1) (dNil))) (dNil))))) (dNext))) (dRet (dVar 2)))))
def t__law_below (F_side : Ct) (F_lessened : Ct) : DS :=
  dSeq (dFor (dZip (dCons (dVar 0) (dCons (dSlc (dVar 0) (dP (dC (.int 1))) dNoP) (dNil)))) (.tp [1, 2]) (dIf (dAnd (dTest (dOp gLt (dOp gAdd (dCB gLen (dCons (dVar 1) (dNil))) (dCB gLen (dCons (dVar 2) (dNil)))) (dC (.int 7)))) (dTest (dOp gLt (dCB gMaxL (dCons (dOp gAdd (dLc (dWalk (dOp gAdd (dVar 1) (dVar 2))) (.tp [3, 4]) (dYes) (dCB gAbs (dCons (dVar 4) (dNil))) [3, 4]) (dLst (dCons (dC (.int 0)) (dNil)))) (dNil))) (dC (.int 500000))))) (dIf (dTest (dOp gNe (dCall F_side (dCons (dCall F_lessened (dCons (dVar 2) (dCons (dVar 1) (dNil)))) (dNil))) (dC (.int 1)))) (dRet (dC (.bool true))) (dNext)) (dNext))) (dRet (dC (.bool false)))
def t_law_k81 (F__law_drawn : Ct) (F__law_cell : Ct) (F__law_exact : Ct) (F__law_floor : Ct) (F_rising : Ct) (F__law_below : Ct) : DS :=
  dSeq (dFor (dRng1 (dCons (dCB gMax2 (dCons (dC (.int 1)) (dCons (dCB gMin2 (dCons (dC (.int 3)) (dCons (dCB gLen (dCons (dVar 0) (dNil))) (dNil)))) (dNil)))) (dNil))) (.nm 1) (dSeq (dSet 2 (dCall F__law_drawn (dCons (dCall F__law_cell (dCons (dVar 0) (dCons (dVar 1) (dNil)))) (dCons (dVar 1) (dNil))))) (dSeq (dOwnL 3 (dNil)) (dSeq (dFor (dRng1 (dCons (dOp gMod (dVar 2) (dC (.int 11))) (dNil))) (.nm 4) (dSeq (dSet 5 (dCall F__law_drawn (dCons (dVar 2) (dCons (dOp gAdd (dC (.int 10)) (dVar 4)) (dNil))))) (dSeq (dSet 6 (dCall F__law_exact (dCons (dVar 5) (dNil)))) (dSeq (dIf (dAnd (dTest (dOp gEq (dOp gMod (dVar 5) (dC (.int 4))) (dC (.int 0)))) (dTest (dOp gNe (dVar 3) (dLst (dNil))))) (dSet 6 (dCB gListOf (dCons (dOp gIx (dVar 3) (dOp gMod (dOp gFdiv (dVar 5) (dC (.int 8))) (dCB gLen (dCons (dVar 3) (dNil))))) (dNil)))) (dNext)) (dSeq (dIf (dAnd (dTest (dOp gEq (dOp gMod (dVar 5) (dC (.int 4))) (dC (.int 1)))) (dAnd (dTest (dOp gNe (dVar 6) (dLst (dNil)))) (dTest (dOp gGt (dCB gAbs (dCons (dOp gIx (dOp gIx (dVar 6) (dC (.int 0))) (dC (.int 1))) (dNil))) (dC (.int 1)))))) (dSet 6 (dOp gAdd (dLst (dCons (dTup (dCons (dOp gIx (dOp gIx (dVar 6) (dC (.int 0))) (dC (.int 0))) (dCons (dOp gAdd (dOp gSub (dOp gIx (dOp gIx (dVar 6) (dC (.int 0))) (dC (.int 1))) (dCB gInt1 (dCons (dOp gGt (dOp gIx (dOp gIx (dVar 6) (dC (.int 0))) (dC (.int 1))) (dC (.int 0))) (dNil)))) (dCB gInt1 (dCons (dOp gLt (dOp gIx (dOp gIx (dVar 6) (dC (.int 0))) (dC (.int 1))) (dC (.int 0))) (dNil)))) (dNil)))) (dNil))) (dSlc (dVar 6) (dP (dC (.int 1))) dNoP))) (dNext)) (dFrz 6 (dApp 3 (dVar 6)))))))) (dFrz 3 (dSeq (dSet 7 (dLc (dWalk (dVar 3)) (.nm 6) (dYes) (dCB gListOf (dCons (dVar 6) (dNil))) [6])) (dSeq (dOwnL 8 (dNil)) (dFrz 3 (dSeq (dFor (dWalk (dVar 3)) (.nm 6) (dIf (dTest (dOp gNotIn (dVar 6) (dVar 8))) (dFrz 6 (dApp 8 (dVar 6))) (dNext))) (dFrz 6 (dSeq (dSet 9 (dLc (dEnum (dCons (dVar 8) (dNil))) (.tp [11, 6]) (dYes) (dTup (dCons (dCall F__law_floor (dCons (dVar 6) (dCons (dC (.int 60)) (dNil)))) (dCons (dVar 11) (dNil)))) [11, 6])) (dFrz 3 (dSeq (dSet 10 (dCall F_rising (dCons (dVar 3) (dNil)))) (dSeq (dIf (dTest (dOp gNe (dVar 10) (dLc (dWalk (dCB gSorted (dCons (dVar 9) (dNil)))) (.tp [12, 11]) (dYes) (dOp gIx (dVar 8) (dVar 11)) [12, 11]))) (dRet (dC (.bool false))) (dNext)) (dSeq (dIf (dOr (dTest (dOp gNe (dCall F_rising (dCons (dRev (dVar 3)) (dNil))) (dVar 10))) (dTest (dOp gNe (dVar 3) (dVar 7)))) (dRet (dC (.bool false))) (dNext)) (dSeq (dIf (dTest (dCall F__law_below (dCons (dVar 10) (dNil)))) (dRet (dC (.bool false))) (dNext)) (dSeq (dFor (dWalk (dVar 10)) (.nm 6) (dApp 6 (dC .none))) (dFrz 3 (dIf (dAnd (dTest (dOp gEq (dCall F_rising (dCons (dVar 3) (dNil))) (dVar 10))) (dTest (dOp gNe (dVar 10) (dLst (dNil))))) (dRet (dC (.bool false))) (dNext)))))))))))))))))))) (dRet (dC (.bool true)))
def t_law_k82 (cs : List Str) (F__law_drawn : Ct) (F__law_cell : Ct) (F__law_exact : Ct) (F_exact : Ct) (F_added : Ct) (F_lessened : Ct) (F_multiplied : Ct) (F_side : Ct) (F_to_places : Ct) (F_rising : Ct) : DS :=
  dSeq (dFor (dRng1 (dCons (dCB gMax2 (dCons (dC (.int 1)) (dCons (dCB gMin2 (dCons (dC (.int 4)) (dCons (dCB gLen (dCons (dVar 0) (dNil))) (dNil)))) (dNil)))) (dNil))) (.nm 1) (dSeq (dSet 2 (dCall F__law_drawn (dCons (dCall F__law_cell (dCons (dVar 0) (dCons (dVar 1) (dNil)))) (dCons (dVar 1) (dNil))))) (dSeq (dSet 3 (dCall F__law_exact (dCons (dOp gFdiv (dVar 2) (dC (.int 8))) (dNil)))) (dSeq (dFor (dWalk (dLst (dCons (dC .none) (dCons (dTup (dNil)) (dCons (dTup (dCons (dC (.int 1)) (dNil))) (dCons (dLst (dCons (dC (.int 1)) (dCons (dC (.int 2)) (dNil)))) (dCons (dTup (dCons (dC (.int 1)) (dCons (dC (.int 0)) (dNil)))) (dCons (dTup (dCons (dC (.int 1)) (dCons (dC (.int 100)) (dNil)))) (dCons (dTup (dCons (dC (.int 100)) (dCons (dC (.int 1)) (dNil)))) (dCons (dTup (dCons (dC (.bool true)) (dCons (dC (.int 1)) (dNil)))) (dCons (dTup (dCons (dC (.int 1)) (dCons (dC .none) (dNil)))) (dNil)))))))))))) (.nm 4) (dIf (dTest (dOp gNe (dTold cs (dCall F_exact (dCons (dVar 4) (dNil)))) (dC (.str "BadNumber")))) (dRet (dC (.bool false))) (dNext))) (dSeq (dSet 5 (dLst (dCons (dC .none) (dCons (dTup (dNil)) (dCons (dLst (dCons (dC .none) (dNil))) (dCons (dLst (dCons (dTup (dCons (dC (.int 1)) (dNil))) (dNil))) (dCons (dLst (dCons (dTup (dCons (dC (.int 1)) (dCons (dC (.int 0)) (dNil)))) (dNil))) (dCons (dLst (dCons (dTup (dCons (dC (.int 0)) (dCons (dC (.int 1)) (dNil)))) (dNil))) (dCons (dLst (dCons (dTup (dCons (dC (.int 4)) (dCons (dC (.int 1)) (dNil)))) (dNil))) (dCons (dLst (dCons (dTup (dCons (dOp gAdd (dOp gMul (dOp gFdiv (dC (.int 9998)) (dC (.int 2))) (dC (.int 2))) (dC (.int 2))) (dCons (dC (.int 1)) (dNil)))) (dNil))) (dCons (dLst (dCons (dTup (dCons (dC (.int 2)) (dCons (dC (.int 1)) (dNil)))) (dCons (dTup (dCons (dC (.int 2)) (dCons (dC (.int 1)) (dNil)))) (dNil)))) (dNil)))))))))))) (dSeq (dSet 5 (dOp gAdd (dVar 5) (dLst (dCons (dLst (dCons (dTup (dCons (dC (.int 3)) (dCons (dC (.int 1)) (dNil)))) (dCons (dTup (dCons (dC (.int 2)) (dCons (dC (.int 1)) (dNil)))) (dNil)))) (dCons (dLst (dCons (dLst (dCons (dC (.int 2)) (dCons (dC (.int 1)) (dNil)))) (dNil))) (dCons (dLst (dCons (dTup (dCons (dC (.bool true)) (dCons (dC (.int 1)) (dNil)))) (dNil))) (dCons (dLst (dCons (dTup (dCons (dC (.int 2)) (dCons (dC (.bool true)) (dNil)))) (dNil))) (dCons (dLst (dCons (dTup (dCons (dC (.int 2)) (dCons (dC (.int 1000001)) (dNil)))) (dNil))) (dCons (dLst (dCons (dTup (dCons (dC (.int 2)) (dCons (dNeg (dC (.int 1000001))) (dNil)))) (dNil))) (dNil)))))))))) (dSeq (dFor (dWalk (dOp gAdd (dVar 5) (dLst (dCons (dLst (dCons (dTup (dCons (dC (.str "2")) (dCons (dC (.int 1)) (dNil)))) (dNil))) (dCons (dLc (dWalk (dLst (dCons (dC (.int 1)) (dCons (dC (.int 2)) (dCons (dC (.int 3)) (dCons (dC (.int 5)) (dCons (dC (.int 6)) (dCons (dC (.int 7)) (dCons (dC (.int 10)) (dNil)))))))))) (.nm 9) (dYes) (dTup (dCons (dVar 9) (dCons (dC (.int 1)) (dNil)))) [9]) (dNil)))))) (.nm 4) (dSeq (dOwnL 6 (dCons (dTold cs (dCall F_added (dCons (dVar 4) (dCons (dC .none) (dNil))))) (dNil))) (dSeq (dApp 6 (dTold cs (dCall F_added (dCons (dVar 3) (dCons (dVar 4) (dNil)))))) (dSeq (dApp 6 (dTold cs (dCall F_lessened (dCons (dVar 3) (dCons (dVar 4) (dNil)))))) (dSeq (dApp 6 (dTold cs (dCall F_multiplied (dCons (dVar 4) (dCons (dC .none) (dNil)))))) (dSeq (dApp 6 (dTold cs (dCall F_multiplied (dCons (dVar 3) (dCons (dVar 4) (dNil)))))) (dSeq (dApp 6 (dTold cs (dCall F_side (dCons (dVar 4) (dNil))))) (dSeq (dApp 6 (dTold cs (dCall F_to_places (dCons (dVar 4) (dCons (dC .none) (dNil)))))) (dSeq (dApp 6 (dTold cs (dCall F_rising (dCons (dLst (dCons (dVar 3) (dCons (dVar 4) (dNil)))) (dNil))))) (dIf (dTest (dOp gNe (dVar 6) (dOp gMul (dLst (dCons (dC (.str "BadExact")) (dNil))) (dC (.int 8))))) (dRet (dC (.bool false))) (dNext))))))))))) (dSeq (dFor (dWalk (dLst (dCons (dNeg (dC (.int 1))) (dCons (dC (.int 31)) (dCons (dC .none) (dCons (dC (.bool true)) (dCons (dC (.str "1")) (dNil)))))))) (.nm 4) (dIf (dTest (dOp gNe (dTold cs (dCall F_to_places (dCons (dVar 3) (dCons (dVar 4) (dNil))))) (dC (.str "BadNumber")))) (dRet (dC (.bool false))) (dNext))) (dSeq (dFor (dWalk (dLst (dCons (dC .none) (dCons (dTup (dCons (dVar 3) (dNil))) (dCons (dOp gMul (dLst (dCons (dVar 3) (dNil))) (dC (.int 11))) (dCons (dOp gAdd (dVar 3) (dLst (dCons (dC .none) (dNil)))) (dNil))))))) (.nm 4) (dIf (dTest (dOp gNe (dTold cs (dCall F_rising (dCons (dVar 4) (dNil)))) (dC (.str "BadExact")))) (dRet (dC (.bool false))) (dNext))) (dSeq (dSet 7 (dLst (dCons (dTup (dCons (dC (.int 9998)) (dCons (dC (.int 1000000)) (dNil)))) (dNil)))) (dSeq (dOwnL 6 (dCons (dTold cs (dCall F_added (dCons (dVar 7) (dCons (dLst (dCons (dTup (dCons (dC (.int 9998)) (dCons (dC (.int 1)) (dNil)))) (dNil))) (dNil))))) (dNil))) (dSeq (dApp 6 (dTold cs (dCall F_multiplied (dCons (dVar 7) (dCons (dLst (dCons (dTup (dCons (dC (.int 3)) (dCons (dC (.int 1)) (dNil)))) (dNil))) (dNil)))))) (dSeq (dIf (dOr (dTest (dOp gNe (dVar 6) (dOp gMul (dLst (dCons (dC (.str "TooGreat")) (dNil))) (dC (.int 2))))) (dTest (dOp gNe (dCall F_added (dCons (dVar 7) (dCons (dLst (dCons (dTup (dCons (dC (.int 9998)) (dCons (dNeg (dC (.int 1))) (dNil)))) (dNil))) (dNil)))) (dLst (dCons (dTup (dCons (dC (.int 9998)) (dCons (dC (.int 999999)) (dNil)))) (dNil)))))) (dRet (dC (.bool false))) (dNext)) (dSeq (dIf (dTest (dOp gNe (dCall F_rising (dCons (dOp gMul (dLst (dCons (dVar 7) (dNil))) (dC (.int 10))) (dNil))) (dLst (dCons (dVar 7) (dNil))))) (dRet (dC (.bool false))) (dNext)) (dSeq (dSet 8 (dLc (dWalk (dLst (dCons (dC (.int 1)) (dCons (dC (.int 2)) (dCons (dC (.int 3)) (dCons (dC (.int 5)) (dCons (dC (.int 6)) (dCons (dC (.int 7)) (dNil))))))))) (.nm 9) (dYes) (dTup (dCons (dVar 9) (dCons (dC (.int 1)) (dNil)))) [9])) (dIf (dOr (dTest (dOp gNe (dTold cs (dCall F_added (dCons (dVar 8) (dCons (dLst (dCons (dTup (dCons (dC (.int 10)) (dCons (dC (.int 1)) (dNil)))) (dNil))) (dNil))))) (dC (.str "TooGreat")))) (dTest (dOp gNe (dOp gIx (dCall F_added (dCons (dVar 8) (dCons (dLst (dCons (dTup (dCons (dC (.int 7)) (dCons (dC (.int 1)) (dNil)))) (dNil))) (dNil)))) (dC (.int 5))) (dTup (dCons (dC (.int 7)) (dCons (dC (.int 2)) (dNil))))))) (dRet (dC (.bool false))) (dNext))))))))))))))))) (dRet (dC (.bool true)))
def t_Pile_exacts (C : Addr) : DS :=
  dRet (dLc (dWalk (dRows C 0)) (.nm 1) (dYes) (dCB gListOf (dCons (dVar 1) (dNil))) [1])
def t_Pile_need (C : Addr) : DS :=
  dIf (dTest (dOp gLt (dCB gLen (dCons (dRows C 0) (dNil))) (dVar 1))) (dRaise "TooFew") (dNext)
def t_Pile_multiply (C : Addr) (F_Pile_need : Ct) (F_product_of : Ct) : DS :=
  dSeq (dDrop (dMth C 0 F_Pile_need (dCons (dC (.int 2)) (dNil)))) (dBecR C 0 (dOp gAdd (dSlc (dRows C 0) dNoP (dP (dNeg (dC (.int 2))))) (dLst (dCons (dCall F_product_of (dCons (dOp gIx (dRows C 0) (dNeg (dC (.int 2)))) (dCons (dOp gIx (dRows C 0) (dNeg (dC (.int 1)))) (dNil)))) (dNil)))))
def u_Pile_multiply (C : Addr) (F_product_of : Ct) (F_Pile_need : Ct) : DM :=
  dSeqM C 0 (dDrop (dMth C 0 F_Pile_need (dCons (dC (.int 2)) (dNil)))) (dBecM (dOp gAdd (dSlc (dRows C 0) dNoP (dP (dNeg (dC (.int 2))))) (dLst (dCons (dCall F_product_of (dCons (dOp gIx (dRows C 0) (dNeg (dC (.int 2)))) (dCons (dOp gIx (dRows C 0) (dNeg (dC (.int 1)))) (dNil)))) (dNil)))))
def t_Pile_add (C : Addr) (F_Pile_need : Ct) (F_total_of : Ct) : DS :=
  dSeq (dDrop (dMth C 0 F_Pile_need (dCons (dC (.int 2)) (dNil)))) (dBecR C 0 (dOp gAdd (dSlc (dRows C 0) dNoP (dP (dNeg (dC (.int 2))))) (dLst (dCons (dCall F_total_of (dCons (dOp gIx (dRows C 0) (dNeg (dC (.int 2)))) (dCons (dOp gIx (dRows C 0) (dNeg (dC (.int 1)))) (dCons (dC (.int 1)) (dNil))))) (dNil)))))
def t_Pile_subtract (C : Addr) (F_Pile_need : Ct) (F_total_of : Ct) : DS :=
  dSeq (dDrop (dMth C 0 F_Pile_need (dCons (dC (.int 2)) (dNil)))) (dBecR C 0 (dOp gAdd (dSlc (dRows C 0) dNoP (dP (dNeg (dC (.int 2))))) (dLst (dCons (dCall F_total_of (dCons (dOp gIx (dRows C 0) (dNeg (dC (.int 2)))) (dCons (dOp gIx (dRows C 0) (dNeg (dC (.int 1)))) (dCons (dNeg (dC (.int 1))) (dNil))))) (dNil)))))
def t__law_two (C : Addr) (cs : List Str) (F_Pile_add : Ct) (F_Pile_subtract : Ct) (F_Pile_multiply : Ct) : DS :=
  dSeq (dIf (dTest (dOp gEq (dVar 1) (dC (.int 5)))) (dRet (dTold cs (dMth C 0 F_Pile_add dNil))) (dNext)) (dSeq (dIf (dTest (dOp gEq (dVar 1) (dC (.int 6)))) (dRet (dTold cs (dMth C 0 F_Pile_subtract dNil))) (dNext)) (dRet (dTold cs (dMth C 0 F_Pile_multiply dNil))))
def t_Pile_need_room (C : Addr) : DS :=
  dIf (dTest (dOp gGe (dCB gLen (dCons (dRows C 0) (dNil))) (dC (.int (12))))) (dRaise "TooFew") (dNext)
def t_Pile_press (C : Addr) (F_exact : Ct) (F_Pile_need_room : Ct) : DS :=
  dSeq (dSet 2 (dCall F_exact (dCons (dVar 1) (dNil)))) (dSeq (dDrop (dMth C 0 F_Pile_need_room dNil)) (dBecR C 0 (dOp gAdd (dRows C 0) (dLst (dCons (dVar 2) (dNil))))))
def u_Pile_press (C : Addr) (F_Pile_need_room : Ct) (F_exact : Ct) : DM :=
  dSeqM C 0 (dSet 2 (dCall F_exact (dCons (dVar 1) (dNil)))) (dSeqM C 0 (dDrop (dMth C 0 F_Pile_need_room dNil)) (dBecM (dOp gAdd (dRows C 0) (dLst (dCons (dVar 2) (dNil))))))
def t_Pile_drop (C : Addr) (F_Pile_need : Ct) : DS :=
  dSeq (dDrop (dMth C 0 F_Pile_need (dCons (dC (.int 1)) (dNil)))) (dBecR C 0 (dSlc (dRows C 0) dNoP (dP (dNeg (dC (.int 1))))))
def t_Pile_negate (C : Addr) (F_Pile_need : Ct) : DS :=
  dSeq (dDrop (dMth C 0 F_Pile_need (dCons (dC (.int 1)) (dNil)))) (dBecR C 0 (dOp gAdd (dSlc (dRows C 0) dNoP (dP (dNeg (dC (.int 1))))) (dLst (dCons (dLc (dWalk (dOp gIx (dRows C 0) (dNeg (dC (.int 1))))) (.tp [1, 2]) (dYes) (dTup (dCons (dVar 1) (dCons (dOp gSub (dC (.int 0)) (dVar 2)) (dNil)))) [1, 2]) (dNil)))))
def t_Pile_swap (C : Addr) (F_Pile_need : Ct) : DS :=
  dSeq (dDrop (dMth C 0 F_Pile_need (dCons (dC (.int 2)) (dNil)))) (dBecR C 0 (dOp gAdd (dSlc (dRows C 0) dNoP (dP (dNeg (dC (.int 2))))) (dLst (dCons (dOp gIx (dRows C 0) (dNeg (dC (.int 1)))) (dCons (dOp gIx (dRows C 0) (dNeg (dC (.int 2)))) (dNil))))))
def t__law_one (C : Addr) (cs : List Str) (F_Pile_negate : Ct) (F_Pile_swap : Ct) (F_Pile_drop : Ct) : DS :=
  dSeq (dIf (dTest (dOp gEq (dVar 1) (dC (.int 8)))) (dRet (dTold cs (dMth C 0 F_Pile_negate dNil))) (dNext)) (dSeq (dIf (dTest (dOp gEq (dVar 1) (dC (.int 9)))) (dRet (dTold cs (dMth C 0 F_Pile_swap dNil))) (dNext)) (dRet (dTold cs (dMth C 0 F_Pile_drop dNil))))
def t_Pile_copy (C : Addr) (F_need_count : Ct) (F_Pile_need : Ct) (F_Pile_need_room : Ct) : DS :=
  dSeq (dDrop (dCall F_need_count (dCons (dVar 1) (dCons (dC (.int 0)) (dCons (dOp gSub (dC (.int (12))) (dC (.int 1))) (dNil)))))) (dSeq (dDrop (dMth C 0 F_Pile_need (dCons (dOp gAdd (dVar 1) (dC (.int 1))) (dNil)))) (dSeq (dDrop (dMth C 0 F_Pile_need_room dNil)) (dBecR C 0 (dOp gAdd (dRows C 0) (dLst (dCons (dCB gListOf (dCons (dOp gIx (dRows C 0) (dOp gSub (dOp gSub (dCB gLen (dCons (dRows C 0) (dNil))) (dC (.int 1))) (dVar 1))) (dNil))) (dNil)))))))
def u_Pile_copy (C : Addr) (F_Pile_need_room : Ct) (F_Pile_need : Ct) (F_need_count : Ct) : DM :=
  dSeqM C 0 (dDrop (dCall F_need_count (dCons (dVar 1) (dCons (dC (.int 0)) (dCons (dOp gSub (dC (.int (12))) (dC (.int 1))) (dNil)))))) (dSeqM C 0 (dDrop (dMth C 0 F_Pile_need (dCons (dOp gAdd (dVar 1) (dC (.int 1))) (dNil)))) (dSeqM C 0 (dDrop (dMth C 0 F_Pile_need_room dNil)) (dBecM (dOp gAdd (dRows C 0) (dLst (dCons (dCB gListOf (dCons (dOp gIx (dRows C 0) (dOp gSub (dOp gSub (dCB gLen (dCons (dRows C 0) (dNil))) (dC (.int 1))) (dVar 1))) (dNil))) (dNil)))))))
def t_Pile_digits_of_top (C : Addr) (F_need_count : Ct) (F_Pile_need : Ct) (F_places_of : Ct) : DS :=
  dSeq (dDrop (dCall F_need_count (dCons (dVar 1) (dCons (dC (.int 0)) (dCons (dC (.int (30))) (dNil)))))) (dSeq (dDrop (dMth C 0 F_Pile_need (dCons (dC (.int 1)) (dNil)))) (dRet (dCall F_places_of (dCons (dOp gIx (dRows C 0) (dNeg (dC (.int 1)))) (dCons (dVar 1) (dNil))))))
def t_Pile_top (C : Addr) (F_Pile_need : Ct) : DS :=
  dSeq (dDrop (dMth C 0 F_Pile_need (dCons (dC (.int 1)) (dNil)))) (dRet (dCB gListOf (dCons (dOp gIx (dRows C 0) (dNeg (dC (.int 1)))) (dNil))))
def t__law_pile_like (C : Addr) (cs : List Str) (F_Pile_exacts : Ct) (F_Pile_top : Ct) (F_Pile_side_of_top_k90 : Ct) (F_Pile_digits_of_top : Ct) (F__law_side : Ct) (F__law_floor : Ct) : DS :=
  dSeq (dSet 3 (dOp gIx (dVar 1) (dC (.str "rows")))) (dSeq (dIf (dTest (dOp gNe (dMth C 0 F_Pile_exacts dNil) (dVar 3))) (dRet (dC (.bool false))) (dNext)) (dSeq (dIf (dTest (dOp gEq (dVar 3) (dLst (dNil)))) (dSeq (dOwnL 4 (dCons (dTold cs (dMth C 0 F_Pile_top dNil)) (dNil))) (dSeq (dApp 4 (dTold cs (dMth C 0 F_Pile_side_of_top_k90 dNil))) (dSeq (dApp 4 (dTold cs (dMth C 0 F_Pile_digits_of_top (dCons (dVar 2) (dNil))))) (dRet (dOp gEq (dVar 4) (dOp gMul (dLst (dCons (dC (.str "TooFew")) (dNil))) (dC (.int 3)))))))) (dNext)) (dSeq (dIf (dOr (dTest (dOp gNe (dMth C 0 F_Pile_top dNil) (dOp gIx (dVar 3) (dNeg (dC (.int 1)))))) (dTest (dOp gNe (dMth C 0 F_Pile_side_of_top_k90 dNil) (dCall F__law_side (dCons (dOp gIx (dVar 3) (dNeg (dC (.int 1)))) (dNil)))))) (dRet (dC (.bool false))) (dNext)) (dRet (dOp gEq (dMth C 0 F_Pile_digits_of_top (dCons (dVar 2) (dNil))) (dCall F__law_floor (dCons (dOp gIx (dVar 3) (dNeg (dC (.int 1)))) (dCons (dVar 2) (dNil)))))))))
def t__law_none_let (C : Addr) (cs : List Str) (F_Pile_press : Ct) (F_Pile_copy : Ct) (F_Pile_digits_of_top : Ct) : DS :=
  dSeq (dFor (dWalk (dLst (dCons (dC .none) (dCons (dTup (dNil)) (dCons (dTup (dCons (dC (.int 1)) (dCons (dC (.int 0)) (dNil)))) (dCons (dTup (dCons (dC (.int 100)) (dCons (dC (.int 1)) (dNil)))) (dCons (dTup (dCons (dC (.bool true)) (dCons (dC (.int 1)) (dNil)))) (dCons (dLst (dCons (dC (.int 1)) (dCons (dC (.int 2)) (dNil)))) (dNil))))))))) (.nm 1) (dIf (dTest (dOp gNe (dTold cs (dMth C 0 F_Pile_press (dCons (dVar 1) (dNil)))) (dC (.str "BadNumber")))) (dRet (dC (.bool false))) (dNext))) (dSeq (dFor (dWalk (dLst (dCons (dNeg (dC (.int 1))) (dCons (dC (.int 12)) (dCons (dC .none) (dCons (dC (.bool true)) (dCons (dC (.str "0")) (dNil)))))))) (.nm 1) (dIf (dTest (dOp gNe (dTold cs (dMth C 0 F_Pile_copy (dCons (dVar 1) (dNil)))) (dC (.str "BadNumber")))) (dRet (dC (.bool false))) (dNext))) (dSeq (dFor (dWalk (dLst (dCons (dNeg (dC (.int 1))) (dCons (dC (.int 31)) (dCons (dC .none) (dCons (dC (.bool true)) (dCons (dC (.str "0")) (dNil)))))))) (.nm 1) (dIf (dTest (dOp gNe (dTold cs (dMth C 0 F_Pile_digits_of_top (dCons (dVar 1) (dNil)))) (dC (.str "BadNumber")))) (dRet (dC (.bool false))) (dNext))) (dRet (dC (.bool true)))))
def t__law_few_right (C : Addr) (cs : List Str) (F_Pile_add : Ct) (F_Pile_multiply : Ct) (F_Pile_negate : Ct) (F_Pile_drop : Ct) (F_Pile_copy : Ct) (F_Pile_top : Ct) (F_Pile_subtract : Ct) (F_Pile_swap : Ct) (F_Pile_exacts : Ct) (G_Pile_press : Cm) : DS :=
  dSeq (dNew C 0) (dSeq (dOwnL 1 (dCons (dTold cs (dMth C 0 F_Pile_add dNil)) (dNil))) (dSeq (dApp 1 (dTold cs (dMth C 0 F_Pile_multiply dNil))) (dSeq (dApp 1 (dTold cs (dMth C 0 F_Pile_negate dNil))) (dSeq (dApp 1 (dTold cs (dMth C 0 F_Pile_drop dNil))) (dSeq (dApp 1 (dTold cs (dMth C 0 F_Pile_copy (dCons (dC (.int 0)) (dNil))))) (dSeq (dApp 1 (dTold cs (dMth C 0 F_Pile_top dNil))) (dSeq (dIf (dOr (dTest (dOp gNe (dVar 1) (dOp gMul (dLst (dCons (dC (.str "TooFew")) (dNil))) (dC (.int 6))))) (dTest (dOp gNe (dTold cs (dUndoR C 0)) (dC (.str "Nothing"))))) (dRet (dC (.bool false))) (dNext)) (dSeq (dMut C 0 G_Pile_press (dCons (dTup (dCons (dC (.int 3)) (dCons (dC (.int 2)) (dNil)))) (dNil))) (dSeq (dOwnL 1 (dCons (dTold cs (dMth C 0 F_Pile_add dNil)) (dNil))) (dSeq (dApp 1 (dTold cs (dMth C 0 F_Pile_subtract dNil))) (dSeq (dApp 1 (dTold cs (dMth C 0 F_Pile_multiply dNil))) (dSeq (dApp 1 (dTold cs (dMth C 0 F_Pile_swap dNil))) (dSeq (dApp 1 (dTold cs (dMth C 0 F_Pile_copy (dCons (dC (.int 1)) (dNil))))) (dRet (dAndV (dOp gEq (dVar 1) (dOp gMul (dLst (dCons (dC (.str "TooFew")) (dNil))) (dC (.int 5)))) (dOp gEq (dMth C 0 F_Pile_exacts dNil) (dLst (dCons (dLst (dCons (dTup (dCons (dC (.int 2)) (dCons (dC (.int 3)) (dNil)))) (dNil))) (dNil)))))))))))))))))))
def t_law_k91 (C : Addr) (cs : List Str) (F__law_drawn : Ct) (F__law_cell : Ct) (F__law_number : Ct) (F_Pile_press : Ct) (F_Pile_copy : Ct) (F_Pile_exacts : Ct) (F__law_none_let : Ct) (F__law_few_right : Ct) (F_Pile_multiply : Ct) (F_Pile_digits_of_top : Ct) (G_Pile_press : Cm) (G_Pile_copy : Cm) (G_Pile_multiply : Cm) : DS :=
  dSeq (dFor (dRng1 (dCons (dCB gMax2 (dCons (dC (.int 1)) (dCons (dCB gMin2 (dCons (dC (.int 4)) (dCons (dCB gLen (dCons (dVar 0) (dNil))) (dNil)))) (dNil)))) (dNil))) (.nm 1) (dSeq (dSet 2 (dCall F__law_drawn (dCons (dCall F__law_cell (dCons (dVar 0) (dCons (dVar 1) (dNil)))) (dCons (dVar 1) (dNil))))) (dSeq (dNewPar C 3 4 (dCall F__law_number (dCons (dOp gFdiv (dVar 2) (dC (.int 8))) (dNil)))) (dSeq (dMut C 3 G_Pile_press (dCons (dVar 4) (dNil))) (dSeq (dFor (dRng1 (dCons (dC (.int 11)) (dNil))) (.nm 5) (dMut C 3 G_Pile_copy (dCons (dC (.int 0)) (dNil)))) (dSeq (dOwnL 6 (dCons (dTold cs (dMth C 3 F_Pile_press (dCons (dVar 4) (dNil)))) (dNil))) (dSeq (dApp 6 (dTold cs (dMth C 3 F_Pile_copy (dCons (dC (.int 0)) (dNil))))) (dSeq (dIf (dOr (dTest (dOp gNe (dVar 6) (dOp gMul (dLst (dCons (dC (.str "TooFew")) (dNil))) (dC (.int 2))))) (dOr (dTest (dOp gNe (dCB gLen (dCons (dMth C 3 F_Pile_exacts dNil) (dNil))) (dC (.int 12)))) (dTest (dOp gNe (dTold cs (dRedoR C 3)) (dC (.str "Nothing")))))) (dRet (dC (.bool false))) (dNext)) (dSeq (dIf (dOr (dNot (dTest (dMth C 3 F__law_none_let dNil))) (dOr (dNot (dTest (dFnNew C F__law_none_let))) (dNot (dTest (dCall F__law_few_right dNil))))) (dRet (dC (.bool false))) (dNext)) (dSeq (dNew C 3) (dSeq (dMut C 3 G_Pile_press (dCons (dTup (dCons (dC (.int 99)) (dCons (dC (.int 97)) (dNil)))) (dNil))) (dSeq (dMut C 3 G_Pile_copy (dCons (dC (.int 0)) (dNil))) (dSeq (dMut C 3 G_Pile_multiply dNil) (dSeq (dSet 7 (dMth C 3 F_Pile_exacts dNil)) (dSeq (dMut C 3 G_Pile_copy (dCons (dC (.int 0)) (dNil))) (dSeq (dIf (dOr (dTest (dOp gNe (dTold cs (dMth C 3 F_Pile_multiply dNil)) (dC (.str "TooGreat")))) (dTest (dOp gNe (dMth C 3 F_Pile_exacts dNil) (dOp gMul (dVar 7) (dC (.int 2)))))) (dRet (dC (.bool false))) (dNext)) (dSeq (dUndo C 3) (dIf (dOr (dTest (dOp gNe (dMth C 3 F_Pile_exacts dNil) (dVar 7))) (dTest (dOp gNe (dMth C 3 F_Pile_digits_of_top (dCons (dC (.int 0)) (dNil))) (dC (.int 950697))))) (dRet (dC (.bool false))) (dNext))))))))))))))))))) (dRet (dC (.bool true)))
def t__law_copy (F__law_copy : Ct) : DS :=
  dSeq (dIf (dTest (dIsi "list" (dVar 0))) (dRet (dLc (dWalk (dVar 0)) (.nm 1) (dYes) (dCall F__law_copy (dCons (dVar 1) (dNil))) [1])) (dNext)) (dSeq (dIf (dTest (dIsi "tuple" (dVar 0))) (dRet (dCB gTupleOf (dCons (dLc (dWalk (dVar 0)) (.nm 1) (dYes) (dCall F__law_copy (dCons (dVar 1) (dNil))) [1]) (dNil)))) (dNext)) (dSeq (dIf (dTest (dIsi "dict" (dVar 0))) (dRet (dDict (dCons (dLc (dWalk (dVar 0)) (.nm 2) (dYes) (dTup (dCons (dVar 2) (dCons (dCall F__law_copy (dCons (dOp gIx (dVar 0) (dVar 2)) (dNil))) (dNil)))) [2]) (dNil)))) (dNext)) (dRet (dVar 0))))
end DL

namespace R91
open PySem L2 LamX DL
def topS (i : Nat) : Stmt := PySem.Challenge.pw_noughtsums_k91_piles_refused.main.body.getD i (.Pass ⟨0, 0, 0, 0⟩)
structure Txt (K : PySem.W.Frag) (mg : Str → Option Value) (T : Wd) : Prop where
  n_all : mg "all" = none
  n_bool : mg "bool" = none
  n_dict : mg "dict" = none
  n_int : mg "int" = none
  n_isinstance : mg "isinstance" = none
  n_len : mg "len" = none
  n_list : mg "list" = none
  n_max : mg "max" = none
  n_min : mg "min" = none
  n_range : mg "range" = none
  n_sorted : mg "sorted" = none
  n_tuple : mg "tuple" = none
  n_zip : mg "zip" = none
  c_MOST : ∃ t, mg "MOST" = some (.int (99) t)
  c_MOST_MANY : ∃ t, mg "MOST_MANY" = some (.int (1000000) t)
  c_MOST_PILE : ∃ t, mg "MOST_PILE" = some (.int (12) t)
  c_MOST_PLACES : ∃ t, mg "MOST_PLACES" = some (.int (30) t)
  c_MOST_ROOTS : ∃ t, mg "MOST_ROOTS" = some (.int (6) t)
  c_MOST_UNDER : ∃ t, mg "MOST_UNDER" = some (.int (9999) t)
  x_BadNumber : ExC K mg T "BadNumber"
  x_TooFew : ExC K mg T "TooFew"
  x_TooGreat : ExC K mg T "TooGreat"
section
variable {P : Program} {w : World} {K : PySem.W.Frag} {mg : Str → Option Value} {base : Heap} {T : Wd}
abbrev st__law_drawn : Stmt := topS 44
theorem sc__law_drawn : FnScope ["cell", "k", "more"] ["cell", "k"] (defScope st__law_drawn) := ⟨rfl, rfl, rfl, by decide +kernel, rfl, by decide +kernel, by decide +kernel⟩
theorem bd__law_drawn (tx : Txt K mg T) {f : Addr} {cdv : Value} {A : Around} {outer : List Env} {s : Shared} {H : Hp} {E : XK} (hr : Room 0 (A.deeper (PyProof.Rows.envOfC "_law_drawn" (defScope st__law_drawn) s.heap.objs.size f cdv))) :
    BD (cxOf (L2N.CX P w) P w K mg base ["cell", "k", "more"] "_law_drawn" (defScope st__law_drawn) f cdv A outer s H E) T E (defBody st__law_drawn) (t__law_drawn) := by
  exact (bd_cons (sd_set 2 (de_mod (de_add (de_mul (de_var (pv 0)) de_int) (de_mul (de_add (de_var (pv 1)) de_int) de_int)) de_int) sc__law_drawn.nd)
    (bd_cons (sd_set 2 (de_mod (de_mul (de_var (pv 2)) (de_var (pv 2))) de_int) sc__law_drawn.nd)
    (bd_cons (sd_set 2 (de_mul (de_mul (de_add (de_mod (de_var (pv 2)) de_int) de_int) (de_add (de_fdiv (de_var (pv 2)) de_int) de_int)) (de_var (pv 2))) sc__law_drawn.nd)
    (bd_one (sd_ret (de_mod (de_var (pv 2)) de_int))))))
abbrev st_is_count : Stmt := topS 13
theorem sc_is_count : FnScope ["thing", "low", "high"] ["thing", "low", "high"] (defScope st_is_count) := ⟨rfl, rfl, rfl, by decide +kernel, rfl, by decide +kernel, by decide +kernel⟩
theorem bd_is_count (tx : Txt K mg T) {f : Addr} {cdv : Value} {A : Around} {outer : List Env} {s : Shared} {H : Hp} {E : XK} (hr : Room 0 (A.deeper (PyProof.Rows.envOfC "is_count" (defScope st_is_count) s.heap.objs.size f cdv))) :
    BD (cxOf (L2N.CX P w) P w K mg base ["thing", "low", "high"] "is_count" (defScope st_is_count) f cdv A outer s H E) T E (defBody st_is_count) (t_is_count) := by
  exact (bd_one (sd_ret (de_and (de_isi tx.n_isinstance tx.n_int (de_var (pv 0))) (de_and (de_not (de_isi tx.n_isinstance tx.n_bool (de_var (pv 0)))) (de_one (de_ch c_le c_le (de_var (pv 1)) (de_var (pv 0)) (de_var (pv 2))))))))
abbrev st_is_number : Stmt := topS 15
theorem sc_is_number : FnScope ["thing", "good"] ["thing"] (defScope st_is_number) := ⟨rfl, rfl, rfl, by decide +kernel, rfl, by decide +kernel, by decide +kernel⟩
theorem bd_is_number (tx : Txt K mg T) {F_is_count : Ct} (d_is_count : Df P w K mg base T "is_count" 1 3 F_is_count) {f : Addr} {cdv : Value} {A : Around} {outer : List Env} {s : Shared} {H : Hp} {E : XK} (hr : Room 1 (A.deeper (PyProof.Rows.envOfC "is_number" (defScope st_is_number) s.heap.objs.size f cdv))) :
    BD (cxOf (L2N.CX P w) P w K mg base ["thing", "good"] "is_number" (defScope st_is_number) f cdv A outer s H E) T E (defBody st_is_number) (t_is_number F_is_count) := by
  exact (bd_cons (sd_set 1 (de_and (de_isi tx.n_isinstance tx.n_tuple (de_var (pv 0))) (de_one (de_cm (c_eq hr) (de_b b_len tx.n_len (ad_cons (de_var (pv 0)) ad_nil)) de_int))) sc_is_number.nd)
    (bd_one (sd_ret (de_and (de_var (pv 1)) (de_and (de_fn d_is_count (hr.mono (by decide)) (L2N.passes_call (L2N.takes_of rfl rfl rfl rfl) fun _ _ _ _ h => h) (ad_cons (de_idx (de_var (pv 0)) de_int) (ad_cons (de_sub de_int (de_gI tx.c_MOST)) (ad_cons (de_gI tx.c_MOST) ad_nil)))) (de_one (de_fn d_is_count (hr.mono (by decide)) (L2N.passes_call (L2N.takes_of rfl rfl rfl rfl) fun _ _ _ _ h => h) (ad_cons (de_idx (de_var (pv 0)) de_int) (ad_cons de_int (ad_cons (de_gI tx.c_MOST) ad_nil))))))))))
abbrev st_need_number : Stmt := topS 16
theorem sc_need_number : FnScope ["number"] ["number"] (defScope st_need_number) := ⟨rfl, rfl, rfl, by decide +kernel, rfl, by decide +kernel, by decide +kernel⟩
theorem bd_need_number (tx : Txt K mg T) {F_is_number : Ct} (d_is_number : Df P w K mg base T "is_number" 2 1 F_is_number) {f : Addr} {cdv : Value} {A : Around} {outer : List Env} {s : Shared} {H : Hp} {E : XK} (hr : Room 2 (A.deeper (PyProof.Rows.envOfC "need_number" (defScope st_need_number) s.heap.objs.size f cdv))) :
    BD (cxOf (L2N.CX P w) P w K mg base ["number"] "need_number" (defScope st_need_number) f cdv A outer s H E) T E (defBody st_need_number) (t_need_number F_is_number) := by
  exact (bd_one (sd_if (td_not (td_val (de_fn d_is_number (hr.mono (by decide)) (L2N.passes_call (L2N.takes_of rfl rfl rfl rfl) fun _ _ _ _ h => h) (ad_cons (de_var (pv 0)) ad_nil)))) (bd_one (sd_raiseC tx.x_BadNumber (L2N.takes_of rfl rfl rfl rfl))) bd_nil))
abbrev st_plain_of : Stmt := topS 17
theorem sc_plain_of : FnScope ["number", "times", "under", "by"] ["number"] (defScope st_plain_of) := ⟨rfl, rfl, rfl, by decide +kernel, rfl, by decide +kernel, by decide +kernel⟩
theorem bd_plain_of (tx : Txt K mg T) {f : Addr} {cdv : Value} {A : Around} {outer : List Env} {s : Shared} {H : Hp} {E : XK} (hr : Room 0 (A.deeper (PyProof.Rows.envOfC "plain_of" (defScope st_plain_of) s.heap.objs.size f cdv))) :
    BD (cxOf (L2N.CX P w) P w K mg base ["number", "times", "under", "by"] "plain_of" (defScope st_plain_of) f cdv A outer s H E) T E (defBody st_plain_of) (t_plain_of) := by
  exact (bd_cons (sd_asg (de_var (pv 0)) (pg_tp2 1 2 sc_plain_of.nd))
    (bd_cons (sd_set 3 de_int sc_plain_of.nd)
    (bd_cons (sd_while (passes_of rfl) (td_cm c_le (de_mul (de_var (pv 3)) (de_var (pv 3))) (de_var (pv 2))) (bd_one (sd_if (td_cm (c_eq hr) (de_mod (de_var (pv 2)) (de_mul (de_var (pv 3)) (de_var (pv 3)))) de_int) (bd_one (sd_par 1 2 (ad_cons (de_mul (de_var (pv 1)) (de_var (pv 3))) (ad_cons (de_fdiv (de_var (pv 2)) (de_mul (de_var (pv 3)) (de_var (pv 3)))) ad_nil)) sc_plain_of.nd)) (bd_one (sd_set 3 (de_add (de_var (pv 3)) de_int) sc_plain_of.nd)))))
    (bd_one (sd_ret (de_ifExp (td_cm (c_ne hr) (de_var (pv 1)) de_int) (de_tup (ad_cons (de_var (pv 1)) (ad_cons (de_var (pv 2)) ad_nil))) (de_tup (ad_cons de_int (ad_cons de_int ad_nil)))))))))
abbrev st_exact : Stmt := topS 34
theorem sc_exact : FnScope ["number", "times", "under"] ["number"] (defScope st_exact) := ⟨rfl, rfl, rfl, by decide +kernel, rfl, by decide +kernel, by decide +kernel⟩
theorem bd_exact (tx : Txt K mg T) {F_need_number : Ct} {F_plain_of : Ct} (d_need_number : Df P w K mg base T "need_number" 3 1 F_need_number) (d_plain_of : Df P w K mg base T "plain_of" 1 1 F_plain_of) {f : Addr} {cdv : Value} {A : Around} {outer : List Env} {s : Shared} {H : Hp} {E : XK} (hr : Room 3 (A.deeper (PyProof.Rows.envOfC "exact" (defScope st_exact) s.heap.objs.size f cdv))) :
    BD (cxOf (L2N.CX P w) P w K mg base ["number", "times", "under"] "exact" (defScope st_exact) f cdv A outer s H E) T E (defBody st_exact) (t_exact F_need_number F_plain_of) := by
  exact (bd_cons (sd_expr (de_fn d_need_number (hr.mono (by decide)) (L2N.passes_call (L2N.takes_of rfl rfl rfl rfl) fun _ _ _ _ h => h) (ad_cons (de_var (pv 0)) ad_nil)))
    (bd_cons (sd_asg (de_fn d_plain_of (hr.mono (by decide)) (L2N.passes_call (L2N.takes_of rfl rfl rfl rfl) fun _ _ _ _ h => h) (ad_cons (de_var (pv 0)) ad_nil)) (pg_tp2 1 2 sc_exact.nd))
    (bd_one (sd_ret (de_ifExp (td_cm (c_ne hr) (de_var (pv 1)) de_int) (de_lst (ad_cons (de_tup (ad_cons (de_var (pv 2)) (ad_cons (de_var (pv 1)) ad_nil))) ad_nil)) (de_lst ad_nil))))))
abbrev st_Pile_need_room : Stmt := inClass (topS 41) 3
theorem sc_Pile_need_room : FnScope ["self"] ["self"] (defScope st_Pile_need_room) := ⟨rfl, rfl, rfl, by decide +kernel, rfl, by decide +kernel, by decide +kernel⟩
theorem bd_Pile_need_room (tx : Txt K mg T) {C : Addr} (pk : PileK K C) {f : Addr} {cdv : Value} {A : Around} {outer : List Env} {s : Shared} {H : Hp} {E : XK} (hr : Room 0 (A.deeper (PyProof.Rows.envOfC "Pile.need_room" (defScope st_Pile_need_room) s.heap.objs.size f cdv))) :
    BD (cxOf (L2N.CX P w) P w K mg base ["self"] "Pile.need_room" (defScope st_Pile_need_room) f cdv A outer s H E) T E (defBody st_Pile_need_room) (t_Pile_need_room C) := by
  exact (bd_one (sd_if (td_cm c_ge (de_b b_len tx.n_len (ad_cons (de_rows 0 pk (pv 0)) ad_nil)) (de_gI tx.c_MOST_PILE)) (bd_one (sd_raiseC tx.x_TooFew (L2N.takes_of rfl rfl rfl rfl))) bd_nil))
abbrev st_Pile_press : Stmt := inClass (topS 41) 4
theorem sc_Pile_press : FnScope ["self", "number", "one"] ["self", "number"] (defScope st_Pile_press) := ⟨rfl, rfl, rfl, by decide +kernel, rfl, by decide +kernel, by decide +kernel⟩
theorem bd_Pile_press (tx : Txt K mg T) {F_exact : Ct} {F_Pile_need_room : Ct} {C : Addr} (pk : PileK K C) (bk : BecK P w K mg base C 1) (d_exact : Df P w K mg base T "exact" 4 1 F_exact) (d_Pile_need_room : Mt P w K mg base T C "need_room" 1 1 F_Pile_need_room) {f : Addr} {cdv : Value} {A : Around} {outer : List Env} {s : Shared} {H : Hp} {E : XK} (hr : Room 4 (A.deeper (PyProof.Rows.envOfC "Pile.press" (defScope st_Pile_press) s.heap.objs.size f cdv))) :
    BD (cxOf (L2N.CX P w) P w K mg base ["self", "number", "one"] "Pile.press" (defScope st_Pile_press) f cdv A outer s H E) T E (defBody st_Pile_press) (t_Pile_press C F_exact F_Pile_need_room) := by
  exact (bd_cons (sd_set 2 (de_fn d_exact (hr.mono (by decide)) (L2N.passes_call (L2N.takes_of rfl rfl rfl rfl) fun _ _ _ _ h => h) (ad_cons (de_var (pv 1)) ad_nil)) sc_Pile_press.nd)
    (bd_cons (sd_expr (de_mth0 0 d_Pile_need_room (hr.mono (by decide)) (L2N.passes_call (L2N.takes_of rfl rfl rfl rfl) fun _ _ _ _ h => h) (pv 0)))
    (bd_one (sd_becR 0 bk (hr.mono (by decide)) (L2N.passes_call (L2N.takes_of rfl rfl rfl rfl) fun _ _ _ _ h => h) (pv 0) (de_add (de_rows 0 pk (pv 0)) (de_lst (ad_cons (de_var (pv 2)) ad_nil)))))))
theorem bm_Pile_press (tx : Txt K mg T) {F_Pile_need_room : Ct} {F_exact : Ct} {C : Addr} (pk : PileK K C) (bk : BecK P w K mg base C 1) (d_Pile_need_room : Mt P w K mg base T C "need_room" 1 1 F_Pile_need_room) (d_exact : Df P w K mg base T "exact" 4 1 F_exact) {f : Addr} {cdv : Value} {A : Around} {outer : List Env} {s : Shared} {H : Hp} {E : XK} (hr : Room 4 (A.deeper (PyProof.Rows.envOfC "Pile.press" (defScope st_Pile_press) s.heap.objs.size f cdv))) :
    BM (cxOf (L2N.CX P w) P w K mg base ["self", "number", "one"] "Pile.press" (defScope st_Pile_press) f cdv A outer s H E) T E C 0 (defBody st_Pile_press) (u_Pile_press C F_Pile_need_room F_exact) := by
  exact (bm_cons (sd_set 2 (de_fn d_exact (hr.mono (by decide)) (L2N.passes_call (L2N.takes_of rfl rfl rfl rfl) fun _ _ _ _ h => h) (ad_cons (de_var (pv 1)) ad_nil)) sc_Pile_press.nd)
    (bm_cons (sd_expr (de_mth0 0 d_Pile_need_room (hr.mono (by decide)) (L2N.passes_call (L2N.takes_of rfl rfl rfl rfl) fun _ _ _ _ h => h) (pv 0)))
    (bm_last 0 bk (hr.mono (by decide)) (L2N.passes_call (L2N.takes_of rfl rfl rfl rfl) fun _ _ _ _ h => h) (pv 0) (de_add (de_rows 0 pk (pv 0)) (de_lst (ad_cons (de_var (pv 2)) ad_nil))))))
abbrev st_need_count : Stmt := topS 14
theorem sc_need_count : FnScope ["thing", "low", "high"] ["thing", "low", "high"] (defScope st_need_count) := ⟨rfl, rfl, rfl, by decide +kernel, rfl, by decide +kernel, by decide +kernel⟩
theorem bd_need_count (tx : Txt K mg T) {F_is_count : Ct} (d_is_count : Df P w K mg base T "is_count" 1 3 F_is_count) {f : Addr} {cdv : Value} {A : Around} {outer : List Env} {s : Shared} {H : Hp} {E : XK} (hr : Room 1 (A.deeper (PyProof.Rows.envOfC "need_count" (defScope st_need_count) s.heap.objs.size f cdv))) :
    BD (cxOf (L2N.CX P w) P w K mg base ["thing", "low", "high"] "need_count" (defScope st_need_count) f cdv A outer s H E) T E (defBody st_need_count) (t_need_count F_is_count) := by
  exact (bd_one (sd_if (td_not (td_val (de_fn d_is_count (hr.mono (by decide)) (L2N.passes_call (L2N.takes_of rfl rfl rfl rfl) fun _ _ _ _ h => h) (ad_cons (de_var (pv 0)) (ad_cons (de_var (pv 1)) (ad_cons (de_var (pv 2)) ad_nil)))))) (bd_one (sd_raiseC tx.x_BadNumber (L2N.takes_of rfl rfl rfl rfl))) bd_nil))
abbrev st_Pile_need : Stmt := inClass (topS 41) 2
theorem sc_Pile_need : FnScope ["self", "many"] ["self", "many"] (defScope st_Pile_need) := ⟨rfl, rfl, rfl, by decide +kernel, rfl, by decide +kernel, by decide +kernel⟩
theorem bd_Pile_need (tx : Txt K mg T) {C : Addr} (pk : PileK K C) {f : Addr} {cdv : Value} {A : Around} {outer : List Env} {s : Shared} {H : Hp} {E : XK} (hr : Room 0 (A.deeper (PyProof.Rows.envOfC "Pile.need" (defScope st_Pile_need) s.heap.objs.size f cdv))) :
    BD (cxOf (L2N.CX P w) P w K mg base ["self", "many"] "Pile.need" (defScope st_Pile_need) f cdv A outer s H E) T E (defBody st_Pile_need) (t_Pile_need C) := by
  exact (bd_one (sd_if (td_cm c_lt (de_b b_len tx.n_len (ad_cons (de_rows 0 pk (pv 0)) ad_nil)) (de_var (pv 1))) (bd_one (sd_raiseC tx.x_TooFew (L2N.takes_of rfl rfl rfl rfl))) bd_nil))
abbrev st_Pile_copy : Stmt := inClass (topS 41) 11
theorem sc_Pile_copy : FnScope ["self", "deep"] ["self", "deep"] (defScope st_Pile_copy) := ⟨rfl, rfl, rfl, by decide +kernel, rfl, by decide +kernel, by decide +kernel⟩
theorem bd_Pile_copy (tx : Txt K mg T) {F_need_count : Ct} {F_Pile_need : Ct} {F_Pile_need_room : Ct} {C : Addr} (pk : PileK K C) (bk : BecK P w K mg base C 1) (d_need_count : Df P w K mg base T "need_count" 2 3 F_need_count) (d_Pile_need : Mt P w K mg base T C "need" 1 2 F_Pile_need) (d_Pile_need_room : Mt P w K mg base T C "need_room" 1 1 F_Pile_need_room) {f : Addr} {cdv : Value} {A : Around} {outer : List Env} {s : Shared} {H : Hp} {E : XK} (hr : Room 2 (A.deeper (PyProof.Rows.envOfC "Pile.copy" (defScope st_Pile_copy) s.heap.objs.size f cdv))) :
    BD (cxOf (L2N.CX P w) P w K mg base ["self", "deep"] "Pile.copy" (defScope st_Pile_copy) f cdv A outer s H E) T E (defBody st_Pile_copy) (t_Pile_copy C F_need_count F_Pile_need F_Pile_need_room) := by
  exact (bd_cons (sd_expr (de_fn d_need_count (hr.mono (by decide)) (L2N.passes_call (L2N.takes_of rfl rfl rfl rfl) fun _ _ _ _ h => h) (ad_cons (de_var (pv 1)) (ad_cons de_int (ad_cons (de_sub (de_gI tx.c_MOST_PILE) de_int) ad_nil)))))
    (bd_cons (sd_expr (de_mth 0 d_Pile_need (hr.mono (by decide)) (L2N.passes_call (L2N.takes_of rfl rfl rfl rfl) fun _ _ _ _ h => h) (pv 0) (ad_cons (de_add (de_var (pv 1)) de_int) ad_nil)))
    (bd_cons (sd_expr (de_mth0 0 d_Pile_need_room (hr.mono (by decide)) (L2N.passes_call (L2N.takes_of rfl rfl rfl rfl) fun _ _ _ _ h => h) (pv 0)))
    (bd_one (sd_becR 0 bk (hr.mono (by decide)) (L2N.passes_call (L2N.takes_of rfl rfl rfl rfl) fun _ _ _ _ h => h) (pv 0) (de_add (de_rows 0 pk (pv 0)) (de_lst (ad_cons (de_y y_list tx.n_list (ad_cons (de_idx (de_rows 0 pk (pv 0)) (de_sub (de_sub (de_b b_len tx.n_len (ad_cons (de_rows 0 pk (pv 0)) ad_nil)) de_int) (de_var (pv 1)))) ad_nil)) ad_nil))))))))
theorem bm_Pile_copy (tx : Txt K mg T) {F_Pile_need_room : Ct} {F_Pile_need : Ct} {F_need_count : Ct} {C : Addr} (pk : PileK K C) (bk : BecK P w K mg base C 1) (d_Pile_need_room : Mt P w K mg base T C "need_room" 1 1 F_Pile_need_room) (d_Pile_need : Mt P w K mg base T C "need" 1 2 F_Pile_need) (d_need_count : Df P w K mg base T "need_count" 2 3 F_need_count) {f : Addr} {cdv : Value} {A : Around} {outer : List Env} {s : Shared} {H : Hp} {E : XK} (hr : Room 2 (A.deeper (PyProof.Rows.envOfC "Pile.copy" (defScope st_Pile_copy) s.heap.objs.size f cdv))) :
    BM (cxOf (L2N.CX P w) P w K mg base ["self", "deep"] "Pile.copy" (defScope st_Pile_copy) f cdv A outer s H E) T E C 0 (defBody st_Pile_copy) (u_Pile_copy C F_Pile_need_room F_Pile_need F_need_count) := by
  exact (bm_cons (sd_expr (de_fn d_need_count (hr.mono (by decide)) (L2N.passes_call (L2N.takes_of rfl rfl rfl rfl) fun _ _ _ _ h => h) (ad_cons (de_var (pv 1)) (ad_cons de_int (ad_cons (de_sub (de_gI tx.c_MOST_PILE) de_int) ad_nil)))))
    (bm_cons (sd_expr (de_mth 0 d_Pile_need (hr.mono (by decide)) (L2N.passes_call (L2N.takes_of rfl rfl rfl rfl) fun _ _ _ _ h => h) (pv 0) (ad_cons (de_add (de_var (pv 1)) de_int) ad_nil)))
    (bm_cons (sd_expr (de_mth0 0 d_Pile_need_room (hr.mono (by decide)) (L2N.passes_call (L2N.takes_of rfl rfl rfl rfl) fun _ _ _ _ h => h) (pv 0)))
    (bm_last 0 bk (hr.mono (by decide)) (L2N.passes_call (L2N.takes_of rfl rfl rfl rfl) fun _ _ _ _ h => h) (pv 0) (de_add (de_rows 0 pk (pv 0)) (de_lst (ad_cons (de_y y_list tx.n_list (ad_cons (de_idx (de_rows 0 pk (pv 0)) (de_sub (de_sub (de_b b_len tx.n_len (ad_cons (de_rows 0 pk (pv 0)) ad_nil)) de_int) (de_var (pv 1)))) ad_nil)) ad_nil)))))))
abbrev st_has_square : Stmt := topS 30
theorem sc_has_square : FnScope ["under", "by"] ["under"] (defScope st_has_square) := ⟨rfl, rfl, rfl, by decide +kernel, rfl, by decide +kernel, by decide +kernel⟩
theorem bd_has_square (tx : Txt K mg T) {f : Addr} {cdv : Value} {A : Around} {outer : List Env} {s : Shared} {H : Hp} {E : XK} (hr : Room 0 (A.deeper (PyProof.Rows.envOfC "has_square" (defScope st_has_square) s.heap.objs.size f cdv))) :
    BD (cxOf (L2N.CX P w) P w K mg base ["under", "by"] "has_square" (defScope st_has_square) f cdv A outer s H E) T E (defBody st_has_square) (t_has_square) := by
  exact (bd_cons (sd_set 1 de_int sc_has_square.nd)
    (bd_cons (sd_while (passes_of rfl) (td_cm c_le (de_mul (de_var (pv 1)) (de_var (pv 1))) (de_var (pv 0))) (bd_cons (sd_if (td_cm (c_eq hr) (de_mod (de_var (pv 0)) (de_mul (de_var (pv 1)) (de_var (pv 1)))) de_int) (bd_one (sd_ret de_bl)) bd_nil)
    (bd_one (sd_set 1 (de_add (de_var (pv 1)) de_int) sc_has_square.nd))))
    (bd_one (sd_ret de_bl))))
abbrev st_is_pair : Stmt := topS 31
theorem sc_is_pair : FnScope ["thing"] ["thing"] (defScope st_is_pair) := ⟨rfl, rfl, rfl, by decide +kernel, rfl, by decide +kernel, by decide +kernel⟩
theorem bd_is_pair (tx : Txt K mg T) {F_is_count : Ct} {F_has_square : Ct} (d_is_count : Df P w K mg base T "is_count" 1 3 F_is_count) (d_has_square : Df P w K mg base T "has_square" 1 1 F_has_square) {f : Addr} {cdv : Value} {A : Around} {outer : List Env} {s : Shared} {H : Hp} {E : XK} (hr : Room 1 (A.deeper (PyProof.Rows.envOfC "is_pair" (defScope st_is_pair) s.heap.objs.size f cdv))) :
    BD (cxOf (L2N.CX P w) P w K mg base ["thing"] "is_pair" (defScope st_is_pair) f cdv A outer s H E) T E (defBody st_is_pair) (t_is_pair F_is_count F_has_square) := by
  exact (bd_cons (sd_if (WD.td (wd_or (td_not (td_val (de_isi tx.n_isinstance tx.n_tuple (de_var (pv 0))))) (wd_or (td_cm (c_ne hr) (de_b b_len tx.n_len (ad_cons (de_var (pv 0)) ad_nil)) de_int) (wd_or1 (td_not (td_val (de_fn d_is_count (hr.mono (by decide)) (L2N.passes_call (L2N.takes_of rfl rfl rfl rfl) fun _ _ _ _ h => h) (ad_cons (de_idx (de_var (pv 0)) de_int) (ad_cons de_int (ad_cons (de_gI tx.c_MOST_UNDER) ad_nil)))))))))) (bd_one (sd_ret de_bl)) bd_nil)
    (bd_one (sd_ret (de_and (de_fn d_is_count (hr.mono (by decide)) (L2N.passes_call (L2N.takes_of rfl rfl rfl rfl) fun _ _ _ _ h => h) (ad_cons (de_idx (de_var (pv 0)) de_int) (ad_cons (de_sub de_int (de_gI tx.c_MOST_MANY)) (ad_cons (de_gI tx.c_MOST_MANY) ad_nil)))) (de_and (de_cm (c_ne hr) (de_idx (de_var (pv 0)) de_int) de_int) (de_one (de_not (de_fn d_has_square (hr.mono (by decide)) (L2N.passes_call (L2N.takes_of rfl rfl rfl rfl) fun _ _ _ _ h => h) (ad_cons (de_idx (de_var (pv 0)) de_int) ad_nil)))))))))
abbrev st_is_exact : Stmt := topS 32
theorem sc_is_exact : FnScope ["thing", "one", "other"] ["thing"] (defScope st_is_exact) := ⟨rfl, rfl, rfl, by decide +kernel, rfl, by decide +kernel, by decide +kernel⟩
theorem bd_is_exact (tx : Txt K mg T) {F_is_pair : Ct} (d_is_pair : Df P w K mg base T "is_pair" 2 1 F_is_pair) {f : Addr} {cdv : Value} {A : Around} {outer : List Env} {s : Shared} {H : Hp} {E : XK} (hr : Room 2 (A.deeper (PyProof.Rows.envOfC "is_exact" (defScope st_is_exact) s.heap.objs.size f cdv))) :
    BD (cxOf (L2N.CX P w) P w K mg base ["thing", "one", "other"] "is_exact" (defScope st_is_exact) f cdv A outer s H E) T E (defBody st_is_exact) (t_is_exact F_is_pair) := by
  exact (bd_cons (sd_if (WD.td (wd_or (td_not (td_val (de_isi tx.n_isinstance tx.n_list (de_var (pv 0))))) (wd_or (td_cm c_gt (de_b b_len tx.n_len (ad_cons (de_var (pv 0)) ad_nil)) (de_gI tx.c_MOST_ROOTS)) (wd_or1 (td_not (td_val (de_b b_all tx.n_all (ad_cons (de_lc [("one", 1)] sc_is_exact.nd (id_list (de_var (pv 0))) (blkOk_by (own := [("one", 1)]) (N := ["thing", "one", "other"]) (sc := defScope st_is_exact) (by decide +kernel)) (fun _ _ _ _ _ => (pg_nm 1 sc_is_exact.nd)) (fun _ _ _ _ _ => tsd_nil) (fun _ _ _ _ _ => (de_fn d_is_pair (hr.mono (by decide)) passN0 (ad_cons (de_var (pv 1)) ad_nil)))) ad_nil)))))))) (bd_one (sd_ret de_bl)) bd_nil)
    (bd_one (sd_ret (de_b b_all tx.n_all (ad_cons (de_lc [("one", 1), ("other", 2)] sc_is_exact.nd (id_zip tx.n_zip (ad_cons (de_slc (de_var (pv 0)) od_none (od_some (de_neg de_int))) (ad_cons (de_slc (de_var (pv 0)) (od_some de_int) od_none) ad_nil))) (blkOk_by (own := [("one", 1), ("other", 2)]) (N := ["thing", "one", "other"]) (sc := defScope st_is_exact) (by decide +kernel)) (fun _ _ _ _ _ => (pg_tp2 1 2 sc_is_exact.nd)) (fun _ _ _ _ _ => tsd_nil) (fun _ _ _ _ _ => (de_cm c_lt (de_idx (de_var (pv 1)) de_int) (de_idx (de_var (pv 2)) de_int)))) ad_nil)))))
abbrev st_rows_told : Stmt := topS 33
theorem sc_rows_told : FnScope ["found", "rows", "under"] ["found"] (defScope st_rows_told) := ⟨rfl, rfl, rfl, by decide +kernel, rfl, by decide +kernel, by decide +kernel⟩
theorem bd_rows_told (tx : Txt K mg T) {F_is_exact : Ct} (d_is_exact : Df P w K mg base T "is_exact" 3 1 F_is_exact) {f : Addr} {cdv : Value} {A : Around} {outer : List Env} {s : Shared} {H : Hp} {E : XK} (hr : Room 3 (A.deeper (PyProof.Rows.envOfC "rows_told" (defScope st_rows_told) s.heap.objs.size f cdv))) :
    BD (cxOf (L2N.CX P w) P w K mg base ["found", "rows", "under"] "rows_told" (defScope st_rows_told) f cdv A outer s H E) T E (defBody st_rows_told) (t_rows_told F_is_exact) := by
  exact (bd_cons (sd_setLc 1 [("under", 2)] sc_rows_told.nd (sw_true rfl rfl rfl (by decide +kernel)) (id_list (de_b b_sortedK tx.n_sorted (ad_cons (de_var (pv 0)) ad_nil))) (blkOk_by (own := [("under", 2)]) (N := ["found", "rows", "under"]) (sc := defScope st_rows_told) (by decide +kernel)) (fun _ _ _ _ _ => (pg_nm 2 sc_rows_told.nd)) (fun _ _ _ _ _ => (tsd_one (td_cm (c_ne hr) (de_getK hr (de_var (pv 0)) (de_var (pv 2))) de_int))) (fun _ _ _ _ _ => (de_tup (ad_cons (de_var (pv 2)) (ad_cons (de_getK hr (de_var (pv 0)) (de_var (pv 2))) ad_nil)))))
    (bd_cons (sd_if (td_not (td_val (de_fn d_is_exact (hr.mono (by decide)) (L2N.passes_call (L2N.takes_of rfl rfl rfl rfl) fun _ _ _ _ h => h) (ad_cons (de_var (pv 1)) ad_nil)))) (bd_one (sd_raiseC tx.x_TooGreat (L2N.takes_of rfl rfl rfl rfl))) bd_nil)
    (bd_one (sd_ret (de_var (pv 1))))))
abbrev st_common : Stmt := topS 36
theorem sc_common : FnScope ["one", "other"] ["one", "other"] (defScope st_common) := ⟨rfl, rfl, rfl, by decide +kernel, rfl, by decide +kernel, by decide +kernel⟩
theorem bd_common (tx : Txt K mg T) {f : Addr} {cdv : Value} {A : Around} {outer : List Env} {s : Shared} {H : Hp} {E : XK} (hr : Room 0 (A.deeper (PyProof.Rows.envOfC "common" (defScope st_common) s.heap.objs.size f cdv))) :
    BD (cxOf (L2N.CX P w) P w K mg base ["one", "other"] "common" (defScope st_common) f cdv A outer s H E) T E (defBody st_common) (t_common) := by
  exact (bd_cons (sd_while (passes_of rfl) (td_cm (c_ne hr) (de_var (pv 1)) de_int) (bd_one (sd_par 0 1 (ad_cons (de_var (pv 1)) (ad_cons (de_mod (de_var (pv 0)) (de_var (pv 1))) ad_nil)) sc_common.nd)))
    (bd_one (sd_ret (de_var (pv 0)))))
abbrev st_product_of : Stmt := topS 37
theorem sc_product_of : FnScope ["one", "other", "found", "under", "many", "its", "more", "by", "left"] ["one", "other"] (defScope st_product_of) := ⟨rfl, rfl, rfl, by decide +kernel, rfl, by decide +kernel, by decide +kernel⟩
theorem bd_product_of (tx : Txt K mg T) {F_common : Ct} {F_rows_told : Ct} (d_common : Df P w K mg base T "common" 1 2 F_common) (d_rows_told : Df P w K mg base T "rows_told" 4 1 F_rows_told) {f : Addr} {cdv : Value} {A : Around} {outer : List Env} {s : Shared} {H : Hp} {E : XK} (hr : Room 4 (A.deeper (PyProof.Rows.envOfC "product_of" (defScope st_product_of) s.heap.objs.size f cdv))) :
    BD (cxOf (L2N.CX P w) P w K mg base ["one", "other", "found", "under", "many", "its", "more", "by", "left"] "product_of" (defScope st_product_of) f cdv A outer s H E) T E (defBody st_product_of) (t_product_of F_common F_rows_told) := by
  exact (bd_cons (sd_ownK 2 sc_product_of.nd)
    (bd_cons (sd_for (passes_of rfl) (id_list (de_var (pv 0))) (pg_tp2 3 4 sc_product_of.nd) (bd_one (sd_for (passes_of rfl) (id_list (de_var (pv 1))) (pg_tp2 5 6 sc_product_of.nd) (bd_cons (sd_set 7 (de_fn d_common (hr.mono (by decide)) (L2N.passes_call (L2N.takes_of rfl rfl rfl rfl) fun _ _ _ _ h => h) (ad_cons (de_var (pv 3)) (ad_cons (de_var (pv 5)) ad_nil))) sc_product_of.nd)
    (bd_cons (sd_set 8 (de_mul (de_fdiv (de_var (pv 3)) (de_var (pv 7))) (de_fdiv (de_var (pv 5)) (de_var (pv 7)))) sc_product_of.nd)
    (bd_one (sd_putK hr 2 (pv 2) (de_var (pv 8)) (de_add (de_get2 hr (de_var (pv 2)) (de_var (pv 8)) de_int) (de_mul (de_mul (de_var (pv 7)) (de_var (pv 4))) (de_var (pv 6)))))))))))
    (bd_frzK 2 (bd_one (sd_ret (de_fn d_rows_told (hr.mono (by decide)) (L2N.passes_call (L2N.takes_of rfl rfl rfl rfl) fun _ _ _ _ h => h) (ad_cons (de_var (pv 2)) ad_nil)))))))
abbrev st_Pile_multiply : Stmt := inClass (topS 41) 7
theorem sc_Pile_multiply : FnScope ["self"] ["self"] (defScope st_Pile_multiply) := ⟨rfl, rfl, rfl, by decide +kernel, rfl, by decide +kernel, by decide +kernel⟩
theorem bd_Pile_multiply (tx : Txt K mg T) {F_Pile_need : Ct} {F_product_of : Ct} {C : Addr} (pk : PileK K C) (bk : BecK P w K mg base C 1) (d_Pile_need : Mt P w K mg base T C "need" 1 2 F_Pile_need) (d_product_of : Df P w K mg base T "product_of" 5 2 F_product_of) {f : Addr} {cdv : Value} {A : Around} {outer : List Env} {s : Shared} {H : Hp} {E : XK} (hr : Room 5 (A.deeper (PyProof.Rows.envOfC "Pile.multiply" (defScope st_Pile_multiply) s.heap.objs.size f cdv))) :
    BD (cxOf (L2N.CX P w) P w K mg base ["self"] "Pile.multiply" (defScope st_Pile_multiply) f cdv A outer s H E) T E (defBody st_Pile_multiply) (t_Pile_multiply C F_Pile_need F_product_of) := by
  exact (bd_cons (sd_expr (de_mth 0 d_Pile_need (hr.mono (by decide)) (L2N.passes_call (L2N.takes_of rfl rfl rfl rfl) fun _ _ _ _ h => h) (pv 0) (ad_cons de_int ad_nil)))
    (bd_one (sd_becR 0 bk (hr.mono (by decide)) (L2N.passes_call (L2N.takes_of rfl rfl rfl rfl) fun _ _ _ _ h => h) (pv 0) (de_add (de_slc (de_rows 0 pk (pv 0)) od_none (od_some (de_neg de_int))) (de_lst (ad_cons (de_fn d_product_of (hr.mono (by decide)) (L2N.passes_call (L2N.takes_of rfl rfl rfl rfl) fun _ _ _ _ h => h) (ad_cons (de_idx (de_rows 0 pk (pv 0)) (de_neg de_int)) (ad_cons (de_idx (de_rows 0 pk (pv 0)) (de_neg de_int)) ad_nil))) ad_nil))))))
theorem bm_Pile_multiply (tx : Txt K mg T) {F_product_of : Ct} {F_Pile_need : Ct} {C : Addr} (pk : PileK K C) (bk : BecK P w K mg base C 1) (d_product_of : Df P w K mg base T "product_of" 5 2 F_product_of) (d_Pile_need : Mt P w K mg base T C "need" 1 2 F_Pile_need) {f : Addr} {cdv : Value} {A : Around} {outer : List Env} {s : Shared} {H : Hp} {E : XK} (hr : Room 5 (A.deeper (PyProof.Rows.envOfC "Pile.multiply" (defScope st_Pile_multiply) s.heap.objs.size f cdv))) :
    BM (cxOf (L2N.CX P w) P w K mg base ["self"] "Pile.multiply" (defScope st_Pile_multiply) f cdv A outer s H E) T E C 0 (defBody st_Pile_multiply) (u_Pile_multiply C F_product_of F_Pile_need) := by
  exact (bm_cons (sd_expr (de_mth 0 d_Pile_need (hr.mono (by decide)) (L2N.passes_call (L2N.takes_of rfl rfl rfl rfl) fun _ _ _ _ h => h) (pv 0) (ad_cons de_int ad_nil)))
    (bm_last 0 bk (hr.mono (by decide)) (L2N.passes_call (L2N.takes_of rfl rfl rfl rfl) fun _ _ _ _ h => h) (pv 0) (de_add (de_slc (de_rows 0 pk (pv 0)) od_none (od_some (de_neg de_int))) (de_lst (ad_cons (de_fn d_product_of (hr.mono (by decide)) (L2N.passes_call (L2N.takes_of rfl rfl rfl rfl) fun _ _ _ _ h => h) (ad_cons (de_idx (de_rows 0 pk (pv 0)) (de_neg de_int)) (ad_cons (de_idx (de_rows 0 pk (pv 0)) (de_neg de_int)) ad_nil))) ad_nil)))))
abbrev st_Pile_exacts : Stmt := inClass (topS 41) 14
theorem sc_Pile_exacts : FnScope ["self", "one"] ["self"] (defScope st_Pile_exacts) := ⟨rfl, rfl, rfl, by decide +kernel, rfl, by decide +kernel, by decide +kernel⟩
theorem bd_Pile_exacts (tx : Txt K mg T) {C : Addr} (pk : PileK K C) {f : Addr} {cdv : Value} {A : Around} {outer : List Env} {s : Shared} {H : Hp} {E : XK} (hr : Room 0 (A.deeper (PyProof.Rows.envOfC "Pile.exacts" (defScope st_Pile_exacts) s.heap.objs.size f cdv))) :
    BD (cxOf (L2N.CX P w) P w K mg base ["self", "one"] "Pile.exacts" (defScope st_Pile_exacts) f cdv A outer s H E) T E (defBody st_Pile_exacts) (t_Pile_exacts C) := by
  exact (bd_one (sd_ret (de_lc [("one", 1)] sc_Pile_exacts.nd (id_list (de_rows 0 pk (pv 0))) (blkOk_by (own := [("one", 1)]) (N := ["self", "one"]) (sc := defScope st_Pile_exacts) (by decide +kernel)) (fun _ _ _ _ _ => (pg_nm 1 sc_Pile_exacts.nd)) (fun _ _ _ _ _ => tsd_nil) (fun _ _ _ _ _ => (de_y y_list tx.n_list (ad_cons (de_var (pv 1)) ad_nil))))))
abbrev st__law_cell : Stmt := topS 43
theorem sc__law_cell : FnScope ["script", "k"] ["script", "k"] (defScope st__law_cell) := ⟨rfl, rfl, rfl, by decide +kernel, rfl, by decide +kernel, by decide +kernel⟩
theorem bd__law_cell (tx : Txt K mg T) {f : Addr} {cdv : Value} {A : Around} {outer : List Env} {s : Shared} {H : Hp} {E : XK} (hr : Room 0 (A.deeper (PyProof.Rows.envOfC "_law_cell" (defScope st__law_cell) s.heap.objs.size f cdv))) :
    BD (cxOf (L2N.CX P w) P w K mg base ["script", "k"] "_law_cell" (defScope st__law_cell) f cdv A outer s H E) T E (defBody st__law_cell) (t__law_cell) := by
  exact (bd_cons (sd_if (td_cm (c_eq hr) (de_var (pv 0)) (de_lst ad_nil)) (bd_one (sd_ret (de_mul (de_var (pv 1)) de_int))) bd_nil)
    (bd_one (sd_ret (de_add (de_idx (de_var (pv 0)) (de_mod (de_var (pv 1)) (de_b b_len tx.n_len (ad_cons (de_var (pv 0)) ad_nil)))) (de_mul (de_fdiv (de_var (pv 1)) (de_b b_len tx.n_len (ad_cons (de_var (pv 0)) ad_nil))) de_int)))))
abbrev st__law_number : Stmt := topS 47
theorem sc__law_number : FnScope ["more", "some"] ["more"] (defScope st__law_number) := ⟨rfl, rfl, rfl, by decide +kernel, rfl, by decide +kernel, by decide +kernel⟩
theorem bd__law_number (tx : Txt K mg T) {f : Addr} {cdv : Value} {A : Around} {outer : List Env} {s : Shared} {H : Hp} {E : XK} (hr : Room 0 (A.deeper (PyProof.Rows.envOfC "_law_number" (defScope st__law_number) s.heap.objs.size f cdv))) :
    BD (cxOf (L2N.CX P w) P w K mg base ["more", "some"] "_law_number" (defScope st__law_number) f cdv A outer s H E) T E (defBody st__law_number) (t__law_number) := by
  exact (bd_cons (sd_set 1 (de_lst (ad_cons (de_tup (ad_cons (de_sub (de_mod (de_var (pv 0)) de_int) de_int) (ad_cons de_int ad_nil))) (ad_cons (de_tup (ad_cons (de_sub (de_mod (de_var (pv 0)) de_int) de_int) (ad_cons (de_add de_int (de_mod (de_fdiv (de_var (pv 0)) de_int) de_int)) ad_nil))) (ad_cons (de_tup (ad_cons (de_sub (de_mod (de_var (pv 0)) de_int) de_int) (ad_cons (de_add de_int (de_mod (de_fdiv (de_var (pv 0)) de_int) de_int)) ad_nil))) ad_nil)))) sc__law_number.nd)
    (bd_one (sd_ret (de_idx (de_var (pv 1)) (de_mod (de_fdiv (de_var (pv 0)) de_int) de_int)))))
abbrev st_power_of : Stmt := topS 19
theorem sc_power_of : FnScope ["places", "found", "turn"] ["places"] (defScope st_power_of) := ⟨rfl, rfl, rfl, by decide +kernel, rfl, by decide +kernel, by decide +kernel⟩
theorem bd_power_of (tx : Txt K mg T) {f : Addr} {cdv : Value} {A : Around} {outer : List Env} {s : Shared} {H : Hp} {E : XK} (hr : Room 0 (A.deeper (PyProof.Rows.envOfC "power_of" (defScope st_power_of) s.heap.objs.size f cdv))) :
    BD (cxOf (L2N.CX P w) P w K mg base ["places", "found", "turn"] "power_of" (defScope st_power_of) f cdv A outer s H E) T E (defBody st_power_of) (t_power_of) := by
  exact (bd_cons (sd_set 1 de_int sc_power_of.nd)
    (bd_cons (sd_for (passes_of rfl) (id_range1 tx.n_range (ad_cons (de_var (pv 0)) ad_nil)) (pg_nm 2 sc_power_of.nd) (bd_one (sd_set 1 (de_mul (de_var (pv 1)) de_int) sc_power_of.nd)))
    (bd_one (sd_ret (de_var (pv 1))))))
abbrev st_root_below : Stmt := topS 18
theorem sc_root_below : FnScope ["square", "low", "high", "middle"] ["square"] (defScope st_root_below) := ⟨rfl, rfl, rfl, by decide +kernel, rfl, by decide +kernel, by decide +kernel⟩
theorem bd_root_below (tx : Txt K mg T) {f : Addr} {cdv : Value} {A : Around} {outer : List Env} {s : Shared} {H : Hp} {E : XK} (hr : Room 0 (A.deeper (PyProof.Rows.envOfC "root_below" (defScope st_root_below) s.heap.objs.size f cdv))) :
    BD (cxOf (L2N.CX P w) P w K mg base ["square", "low", "high", "middle"] "root_below" (defScope st_root_below) f cdv A outer s H E) T E (defBody st_root_below) (t_root_below) := by
  exact (bd_cons (sd_par 1 2 (ad_cons de_int (ad_cons (de_add (de_var (pv 0)) de_int) ad_nil)) sc_root_below.nd)
    (bd_cons (sd_while (passes_of rfl) (td_cm c_gt (de_sub (de_var (pv 2)) (de_var (pv 1))) de_int) (bd_cons (sd_set 3 (de_fdiv (de_add (de_var (pv 1)) (de_var (pv 2))) de_int) sc_root_below.nd)
    (bd_one (sd_if (td_cm c_le (de_mul (de_var (pv 3)) (de_var (pv 3))) (de_var (pv 0))) (bd_one (sd_set 1 (de_var (pv 3)) sc_root_below.nd)) (bd_one (sd_set 2 (de_var (pv 3)) sc_root_below.nd))))))
    (bd_one (sd_ret (de_var (pv 1))))))
abbrev st_digits_of : Stmt := topS 20
theorem sc_digits_of : FnScope ["number", "places", "times", "under", "square", "found"] ["number", "places"] (defScope st_digits_of) := ⟨rfl, rfl, rfl, by decide +kernel, rfl, by decide +kernel, by decide +kernel⟩
theorem bd_digits_of (tx : Txt K mg T) {F_power_of : Ct} {F_root_below : Ct} (d_power_of : Df P w K mg base T "power_of" 1 1 F_power_of) (d_root_below : Df P w K mg base T "root_below" 1 1 F_root_below) {f : Addr} {cdv : Value} {A : Around} {outer : List Env} {s : Shared} {H : Hp} {E : XK} (hr : Room 1 (A.deeper (PyProof.Rows.envOfC "digits_of" (defScope st_digits_of) s.heap.objs.size f cdv))) :
    BD (cxOf (L2N.CX P w) P w K mg base ["number", "places", "times", "under", "square", "found"] "digits_of" (defScope st_digits_of) f cdv A outer s H E) T E (defBody st_digits_of) (t_digits_of F_power_of F_root_below) := by
  exact (bd_cons (sd_asg (de_var (pv 0)) (pg_tp2 2 3 sc_digits_of.nd))
    (bd_cons (sd_set 4 (de_mul (de_mul (de_mul (de_var (pv 2)) (de_var (pv 2))) (de_var (pv 3))) (de_fn d_power_of (hr.mono (by decide)) (L2N.passes_call (L2N.takes_of rfl rfl rfl rfl) fun _ _ _ _ h => h) (ad_cons (de_mul de_int (de_var (pv 1))) ad_nil))) sc_digits_of.nd)
    (bd_cons (sd_set 5 (de_fn d_root_below (hr.mono (by decide)) (L2N.passes_call (L2N.takes_of rfl rfl rfl rfl) fun _ _ _ _ h => h) (ad_cons (de_var (pv 4)) ad_nil)) sc_digits_of.nd)
    (bd_cons (sd_if (td_cm c_ge (de_var (pv 2)) de_int) (bd_one (sd_ret (de_var (pv 5)))) bd_nil)
    (bd_one (sd_ret (de_ifExp (td_cm (c_eq hr) (de_mul (de_var (pv 5)) (de_var (pv 5))) (de_var (pv 4))) (de_sub de_int (de_var (pv 5))) (de_sub (de_sub de_int (de_var (pv 5))) de_int))))))))
abbrev st_span_of : Stmt := topS 22
theorem sc_span_of : FnScope ["found", "places", "low", "high", "under", "own"] ["found", "places"] (defScope st_span_of) := ⟨rfl, rfl, rfl, by decide +kernel, rfl, by decide +kernel, by decide +kernel⟩
theorem bd_span_of (tx : Txt K mg T) {F_digits_of : Ct} (d_digits_of : Df P w K mg base T "digits_of" 2 2 F_digits_of) {f : Addr} {cdv : Value} {A : Around} {outer : List Env} {s : Shared} {H : Hp} {E : XK} (hr : Room 2 (A.deeper (PyProof.Rows.envOfC "span_of" (defScope st_span_of) s.heap.objs.size f cdv))) :
    BD (cxOf (L2N.CX P w) P w K mg base ["found", "places", "low", "high", "under", "own"] "span_of" (defScope st_span_of) f cdv A outer s H E) T E (defBody st_span_of) (t_span_of F_digits_of) := by
  exact (bd_cons (sd_asg (de_tup (ad_cons de_int (ad_cons de_int ad_nil))) (pg_tp2 2 3 sc_span_of.nd))
    (bd_cons (sd_for (passes_of rfl) (id_keys (de_var (pv 0))) (pg_nm 4 sc_span_of.nd) (bd_cons (sd_set 5 (de_fn d_digits_of (hr.mono (by decide)) (L2N.passes_call (L2N.takes_of rfl rfl rfl rfl) fun _ _ _ _ h => h) (ad_cons (de_tup (ad_cons (de_getK hr (de_var (pv 0)) (de_var (pv 4))) (ad_cons (de_var (pv 4)) ad_nil))) (ad_cons (de_var (pv 1)) ad_nil))) sc_span_of.nd)
    (bd_cons (sd_set 2 (de_add (de_var (pv 2)) (de_var (pv 5))) sc_span_of.nd)
    (bd_one (sd_set 3 (de_add (de_add (de_var (pv 3)) (de_var (pv 5))) (de_y y_int tx.n_int (ad_cons (de_cm c_gt (de_var (pv 4)) de_int) ad_nil))) sc_span_of.nd)))))
    (bd_one (sd_ret (de_tup (ad_cons (de_var (pv 2)) (ad_cons (de_var (pv 3)) ad_nil)))))))
abbrev st_sign_of : Stmt := topS 23
abbrev st_less_by : Stmt := topS 24
abbrev st_floor_of : Stmt := topS 25
theorem sc_floor_of : FnScope ["found", "low", "high"] ["found"] (defScope st_floor_of) := ⟨rfl, rfl, rfl, by decide +kernel, rfl, by decide +kernel, by decide +kernel⟩
theorem bd_floor_of (tx : Txt K mg T) {F_span_of : Ct} {F_sign_of : Ct} {F_less_by : Ct} (d_span_of : Df P w K mg base T "span_of" 3 2 F_span_of) (d_sign_of : Df P w K mg base T "sign_of" 1 1 F_sign_of) (d_less_by : Df P w K mg base T "less_by" 1 2 F_less_by) {f : Addr} {cdv : Value} {A : Around} {outer : List Env} {s : Shared} {H : Hp} {E : XK} (hr : Room 3 (A.deeper (PyProof.Rows.envOfC "floor_of" (defScope st_floor_of) s.heap.objs.size f cdv))) :
    BD (cxOf (L2N.CX P w) P w K mg base ["found", "low", "high"] "floor_of" (defScope st_floor_of) f cdv A outer s H E) T E (defBody st_floor_of) (t_floor_of F_span_of F_sign_of F_less_by) := by
  exact (bd_cons (sd_asg (de_fn d_span_of (hr.mono (by decide)) (L2N.passes_call (L2N.takes_of rfl rfl rfl rfl) fun _ _ _ _ h => h) (ad_cons (de_var (pv 0)) (ad_cons de_int ad_nil))) (pg_tp2 1 2 sc_floor_of.nd))
    (bd_cons (sd_while (passes_of rfl) (WD.td (wd_and (td_cm c_gt (de_var (pv 2)) (de_var (pv 1))) (wd_and1 (td_cm c_lt (de_fn d_sign_of (hr.mono (by decide)) (L2N.passes_call (L2N.takes_of rfl rfl rfl rfl) fun _ _ _ _ h => h) (ad_cons (de_fn d_less_by (hr.mono (by decide)) (L2N.passes_call (L2N.takes_of rfl rfl rfl rfl) fun _ _ _ _ h => h) (ad_cons (de_var (pv 0)) (ad_cons (de_var (pv 2)) ad_nil))) ad_nil)) de_int)))) (bd_one (sd_set 2 (de_sub (de_var (pv 2)) de_int) sc_floor_of.nd)))
    (bd_one (sd_ret (de_var (pv 2))))))
abbrev st_places_of : Stmt := topS 38
theorem sc_places_of : FnScope ["one", "places", "by", "under", "many"] ["one", "places"] (defScope st_places_of) := ⟨rfl, rfl, rfl, by decide +kernel, rfl, by decide +kernel, by decide +kernel⟩
theorem bd_places_of (tx : Txt K mg T) {F_power_of : Ct} {F_floor_of : Ct} (d_power_of : Df P w K mg base T "power_of" 1 1 F_power_of) (d_floor_of : Df P w K mg base T "floor_of" 4 1 F_floor_of) {f : Addr} {cdv : Value} {A : Around} {outer : List Env} {s : Shared} {H : Hp} {E : XK} (hr : Room 4 (A.deeper (PyProof.Rows.envOfC "places_of" (defScope st_places_of) s.heap.objs.size f cdv))) :
    BD (cxOf (L2N.CX P w) P w K mg base ["one", "places", "by", "under", "many"] "places_of" (defScope st_places_of) f cdv A outer s H E) T E (defBody st_places_of) (t_places_of F_power_of F_floor_of) := by
  exact (bd_cons (sd_set 2 (de_fn d_power_of (hr.mono (by decide)) (L2N.passes_call (L2N.takes_of rfl rfl rfl rfl) fun _ _ _ _ h => h) (ad_cons (de_var (pv 1)) ad_nil)) sc_places_of.nd)
    (bd_one (sd_ret (de_fn d_floor_of (hr.mono (by decide)) (L2N.passes_call (L2N.takes_of rfl rfl rfl rfl) fun _ _ _ _ h => h) (ad_cons (de_dict tx.n_dict (ad_cons (de_lc [("under", 3), ("many", 4)] sc_places_of.nd (id_list (de_var (pv 0))) (blkOk_by (own := [("under", 3), ("many", 4)]) (N := ["one", "places", "by", "under", "many"]) (sc := defScope st_places_of) (by decide +kernel)) (fun _ _ _ _ _ => (pg_tp2 3 4 sc_places_of.nd)) (fun _ _ _ _ _ => tsd_nil) (fun _ _ _ _ _ => (de_tup (ad_cons (de_var (pv 3)) (ad_cons (de_mul (de_var (pv 4)) (de_var (pv 2))) ad_nil))))) ad_nil)) ad_nil)))))
abbrev st_Pile_digits_of_top : Stmt := inClass (topS 41) 17
theorem sc_Pile_digits_of_top : FnScope ["self", "places"] ["self", "places"] (defScope st_Pile_digits_of_top) := ⟨rfl, rfl, rfl, by decide +kernel, rfl, by decide +kernel, by decide +kernel⟩
theorem bd_Pile_digits_of_top (tx : Txt K mg T) {F_need_count : Ct} {F_Pile_need : Ct} {F_places_of : Ct} {C : Addr} (pk : PileK K C) (d_need_count : Df P w K mg base T "need_count" 2 3 F_need_count) (d_Pile_need : Mt P w K mg base T C "need" 1 2 F_Pile_need) (d_places_of : Df P w K mg base T "places_of" 5 2 F_places_of) {f : Addr} {cdv : Value} {A : Around} {outer : List Env} {s : Shared} {H : Hp} {E : XK} (hr : Room 5 (A.deeper (PyProof.Rows.envOfC "Pile.digits_of_top" (defScope st_Pile_digits_of_top) s.heap.objs.size f cdv))) :
    BD (cxOf (L2N.CX P w) P w K mg base ["self", "places"] "Pile.digits_of_top" (defScope st_Pile_digits_of_top) f cdv A outer s H E) T E (defBody st_Pile_digits_of_top) (t_Pile_digits_of_top C F_need_count F_Pile_need F_places_of) := by
  exact (bd_cons (sd_expr (de_fn d_need_count (hr.mono (by decide)) (L2N.passes_call (L2N.takes_of rfl rfl rfl rfl) fun _ _ _ _ h => h) (ad_cons (de_var (pv 1)) (ad_cons de_int (ad_cons (de_gI tx.c_MOST_PLACES) ad_nil)))))
    (bd_cons (sd_expr (de_mth 0 d_Pile_need (hr.mono (by decide)) (L2N.passes_call (L2N.takes_of rfl rfl rfl rfl) fun _ _ _ _ h => h) (pv 0) (ad_cons de_int ad_nil)))
    (bd_one (sd_ret (de_fn d_places_of (hr.mono (by decide)) (L2N.passes_call (L2N.takes_of rfl rfl rfl rfl) fun _ _ _ _ h => h) (ad_cons (de_idx (de_rows 0 pk (pv 0)) (de_neg de_int)) (ad_cons (de_var (pv 1)) ad_nil)))))))
abbrev st__law_none_let : Stmt := topS 49
theorem sc__law_none_let : FnScope ["pile", "bad"] ["pile"] (defScope st__law_none_let) := ⟨rfl, rfl, rfl, by decide +kernel, rfl, by decide +kernel, by decide +kernel⟩
theorem bd__law_none_let (tx : Txt K mg T) {F_Pile_press : Ct} {F_Pile_copy : Ct} {F_Pile_digits_of_top : Ct} {C : Addr} (d_Pile_press : Mt P w K mg base T C "press" 5 2 F_Pile_press) (d_Pile_copy : Mt P w K mg base T C "copy" 3 2 F_Pile_copy) (d_Pile_digits_of_top : Mt P w K mg base T C "digits_of_top" 6 2 F_Pile_digits_of_top) {cs : List Str} {g CN cA tA : Addr} {sg : Scope} (tl : ToldAt K mg base T cs g CN sg) (wo : WordsOk P w K mg base T cs) (TB : TabB base mg cA tA) (hmT : (tA, ("_law_none_let" ++ ".<locals>." : Str) ++ "<lambda>") ∈ T.tb) (huT : ∀ p ∈ T.tb, p.1 = tA → p.2 = ("_law_none_let" ++ ".<locals>." : Str) ++ "<lambda>") {f : Addr} {A : Around} {outer : List Env} {s : Shared} {H : Hp} {E : XK} (hr : Room 8 (A.deeper (PyProof.Rows.envOfC "_law_none_let" (defScope st__law_none_let) s.heap.objs.size f (.ref cA)))) :
    BD (cxOf (L2N.CX P w) P w K mg base ["pile", "bad"] "_law_none_let" (defScope st__law_none_let) f (.ref cA) A outer s H E) T E (defBody st__law_none_let) (t__law_none_let C cs F_Pile_press F_Pile_copy F_Pile_digits_of_top) := by
  exact (bd_cons (sd_for (passes_of rfl) (id_list (de_lst (ad_cons de_non (ad_cons (de_tup ad_nil) (ad_cons (de_tup (ad_cons de_int (ad_cons de_int ad_nil))) (ad_cons (de_tup (ad_cons de_int (ad_cons de_int ad_nil))) (ad_cons (de_tup (ad_cons de_bl (ad_cons de_int ad_nil))) (ad_cons (de_lst (ad_cons de_int (ad_cons de_int ad_nil))) ad_nil)))))))) (pg_nm 1 sc__law_none_let.nd) (bd_one (sd_if (td_cm (c_ne hr) (de_told (k := 1) tl wo TB rfl hmT huT (hr.mono (by decide)) (show LamS (defScope st__law_none_let) _ from lamS_by (by decide +kernel)) (fun A outer s H E f c hl => by exact (de_mth 0 d_Pile_press (hl.mono (by decide)) (L2N.passes_call (L2N.takes_of rfl rfl rfl rfl) fun _ _ _ _ h => h) (pv 0) (ad_cons (de_var (pv 1)) ad_nil)))) de_str) (bd_one (sd_ret de_bl)) bd_nil)))
    (bd_cons (sd_for (passes_of rfl) (id_list (de_lst (ad_cons (de_neg de_int) (ad_cons de_int (ad_cons de_non (ad_cons de_bl (ad_cons de_str ad_nil))))))) (pg_nm 1 sc__law_none_let.nd) (bd_one (sd_if (td_cm (c_ne hr) (de_told (k := 1) tl wo TB rfl hmT huT (hr.mono (by decide)) (show LamS (defScope st__law_none_let) _ from lamS_by (by decide +kernel)) (fun A outer s H E f c hl => by exact (de_mth 0 d_Pile_copy (hl.mono (by decide)) (L2N.passes_call (L2N.takes_of rfl rfl rfl rfl) fun _ _ _ _ h => h) (pv 0) (ad_cons (de_var (pv 1)) ad_nil)))) de_str) (bd_one (sd_ret de_bl)) bd_nil)))
    (bd_cons (sd_for (passes_of rfl) (id_list (de_lst (ad_cons (de_neg de_int) (ad_cons de_int (ad_cons de_non (ad_cons de_bl (ad_cons de_str ad_nil))))))) (pg_nm 1 sc__law_none_let.nd) (bd_one (sd_if (td_cm (c_ne hr) (de_told (k := 1) tl wo TB rfl hmT huT (hr.mono (by decide)) (show LamS (defScope st__law_none_let) _ from lamS_by (by decide +kernel)) (fun A outer s H E f c hl => by exact (de_mth 0 d_Pile_digits_of_top (hl.mono (by decide)) (L2N.passes_call (L2N.takes_of rfl rfl rfl rfl) fun _ _ _ _ h => h) (pv 0) (ad_cons (de_var (pv 1)) ad_nil)))) de_str) (bd_one (sd_ret de_bl)) bd_nil)))
    (bd_one (sd_ret de_bl)))))
abbrev st_total_of : Stmt := topS 35
abbrev st_Pile_add : Stmt := inClass (topS 41) 5
theorem sc_Pile_add : FnScope ["self"] ["self"] (defScope st_Pile_add) := ⟨rfl, rfl, rfl, by decide +kernel, rfl, by decide +kernel, by decide +kernel⟩
theorem bd_Pile_add (tx : Txt K mg T) {F_Pile_need : Ct} {F_total_of : Ct} {C : Addr} (pk : PileK K C) (bk : BecK P w K mg base C 1) (d_Pile_need : Mt P w K mg base T C "need" 1 2 F_Pile_need) (d_total_of : Df P w K mg base T "total_of" 1 3 F_total_of) {f : Addr} {cdv : Value} {A : Around} {outer : List Env} {s : Shared} {H : Hp} {E : XK} (hr : Room 1 (A.deeper (PyProof.Rows.envOfC "Pile.add" (defScope st_Pile_add) s.heap.objs.size f cdv))) :
    BD (cxOf (L2N.CX P w) P w K mg base ["self"] "Pile.add" (defScope st_Pile_add) f cdv A outer s H E) T E (defBody st_Pile_add) (t_Pile_add C F_Pile_need F_total_of) := by
  exact (bd_cons (sd_expr (de_mth 0 d_Pile_need (hr.mono (by decide)) (L2N.passes_call (L2N.takes_of rfl rfl rfl rfl) fun _ _ _ _ h => h) (pv 0) (ad_cons de_int ad_nil)))
    (bd_one (sd_becR 0 bk (hr.mono (by decide)) (L2N.passes_call (L2N.takes_of rfl rfl rfl rfl) fun _ _ _ _ h => h) (pv 0) (de_add (de_slc (de_rows 0 pk (pv 0)) od_none (od_some (de_neg de_int))) (de_lst (ad_cons (de_fn d_total_of (hr.mono (by decide)) (L2N.passes_call (L2N.takes_of rfl rfl rfl rfl) fun _ _ _ _ h => h) (ad_cons (de_idx (de_rows 0 pk (pv 0)) (de_neg de_int)) (ad_cons (de_idx (de_rows 0 pk (pv 0)) (de_neg de_int)) (ad_cons de_int ad_nil)))) ad_nil))))))
abbrev st_Pile_negate : Stmt := inClass (topS 41) 8
theorem sc_Pile_negate : FnScope ["self", "under", "many"] ["self"] (defScope st_Pile_negate) := ⟨rfl, rfl, rfl, by decide +kernel, rfl, by decide +kernel, by decide +kernel⟩
theorem bd_Pile_negate (tx : Txt K mg T) {F_Pile_need : Ct} {C : Addr} (pk : PileK K C) (bk : BecK P w K mg base C 1) (d_Pile_need : Mt P w K mg base T C "need" 1 2 F_Pile_need) {f : Addr} {cdv : Value} {A : Around} {outer : List Env} {s : Shared} {H : Hp} {E : XK} (hr : Room 1 (A.deeper (PyProof.Rows.envOfC "Pile.negate" (defScope st_Pile_negate) s.heap.objs.size f cdv))) :
    BD (cxOf (L2N.CX P w) P w K mg base ["self", "under", "many"] "Pile.negate" (defScope st_Pile_negate) f cdv A outer s H E) T E (defBody st_Pile_negate) (t_Pile_negate C F_Pile_need) := by
  exact (bd_cons (sd_expr (de_mth 0 d_Pile_need (hr.mono (by decide)) (L2N.passes_call (L2N.takes_of rfl rfl rfl rfl) fun _ _ _ _ h => h) (pv 0) (ad_cons de_int ad_nil)))
    (bd_one (sd_becR 0 bk (hr.mono (by decide)) (L2N.passes_call (L2N.takes_of rfl rfl rfl rfl) fun _ _ _ _ h => h) (pv 0) (de_add (de_slc (de_rows 0 pk (pv 0)) od_none (od_some (de_neg de_int))) (de_lst (ad_cons (de_lc [("under", 1), ("many", 2)] sc_Pile_negate.nd (id_list (de_idx (de_rows 0 pk (pv 0)) (de_neg de_int))) (blkOk_by (own := [("under", 1), ("many", 2)]) (N := ["self", "under", "many"]) (sc := defScope st_Pile_negate) (by decide +kernel)) (fun _ _ _ _ _ => (pg_tp2 1 2 sc_Pile_negate.nd)) (fun _ _ _ _ _ => tsd_nil) (fun _ _ _ _ _ => (de_tup (ad_cons (de_var (pv 1)) (ad_cons (de_sub de_int (de_var (pv 2))) ad_nil))))) ad_nil))))))
abbrev st_Pile_drop : Stmt := inClass (topS 41) 10
theorem sc_Pile_drop : FnScope ["self"] ["self"] (defScope st_Pile_drop) := ⟨rfl, rfl, rfl, by decide +kernel, rfl, by decide +kernel, by decide +kernel⟩
theorem bd_Pile_drop (tx : Txt K mg T) {F_Pile_need : Ct} {C : Addr} (pk : PileK K C) (bk : BecK P w K mg base C 1) (d_Pile_need : Mt P w K mg base T C "need" 1 2 F_Pile_need) {f : Addr} {cdv : Value} {A : Around} {outer : List Env} {s : Shared} {H : Hp} {E : XK} (hr : Room 1 (A.deeper (PyProof.Rows.envOfC "Pile.drop" (defScope st_Pile_drop) s.heap.objs.size f cdv))) :
    BD (cxOf (L2N.CX P w) P w K mg base ["self"] "Pile.drop" (defScope st_Pile_drop) f cdv A outer s H E) T E (defBody st_Pile_drop) (t_Pile_drop C F_Pile_need) := by
  exact (bd_cons (sd_expr (de_mth 0 d_Pile_need (hr.mono (by decide)) (L2N.passes_call (L2N.takes_of rfl rfl rfl rfl) fun _ _ _ _ h => h) (pv 0) (ad_cons de_int ad_nil)))
    (bd_one (sd_becR 0 bk (hr.mono (by decide)) (L2N.passes_call (L2N.takes_of rfl rfl rfl rfl) fun _ _ _ _ h => h) (pv 0) (de_slc (de_rows 0 pk (pv 0)) od_none (od_some (de_neg de_int))))))
abbrev st_Pile_top : Stmt := inClass (topS 41) 15
theorem sc_Pile_top : FnScope ["self"] ["self"] (defScope st_Pile_top) := ⟨rfl, rfl, rfl, by decide +kernel, rfl, by decide +kernel, by decide +kernel⟩
theorem bd_Pile_top (tx : Txt K mg T) {F_Pile_need : Ct} {C : Addr} (pk : PileK K C) (d_Pile_need : Mt P w K mg base T C "need" 1 2 F_Pile_need) {f : Addr} {cdv : Value} {A : Around} {outer : List Env} {s : Shared} {H : Hp} {E : XK} (hr : Room 1 (A.deeper (PyProof.Rows.envOfC "Pile.top" (defScope st_Pile_top) s.heap.objs.size f cdv))) :
    BD (cxOf (L2N.CX P w) P w K mg base ["self"] "Pile.top" (defScope st_Pile_top) f cdv A outer s H E) T E (defBody st_Pile_top) (t_Pile_top C F_Pile_need) := by
  exact (bd_cons (sd_expr (de_mth 0 d_Pile_need (hr.mono (by decide)) (L2N.passes_call (L2N.takes_of rfl rfl rfl rfl) fun _ _ _ _ h => h) (pv 0) (ad_cons de_int ad_nil)))
    (bd_one (sd_ret (de_y y_list tx.n_list (ad_cons (de_idx (de_rows 0 pk (pv 0)) (de_neg de_int)) ad_nil)))))
abbrev st_Pile_subtract : Stmt := inClass (topS 41) 6
theorem sc_Pile_subtract : FnScope ["self"] ["self"] (defScope st_Pile_subtract) := ⟨rfl, rfl, rfl, by decide +kernel, rfl, by decide +kernel, by decide +kernel⟩
theorem bd_Pile_subtract (tx : Txt K mg T) {F_Pile_need : Ct} {F_total_of : Ct} {C : Addr} (pk : PileK K C) (bk : BecK P w K mg base C 1) (d_Pile_need : Mt P w K mg base T C "need" 1 2 F_Pile_need) (d_total_of : Df P w K mg base T "total_of" 1 3 F_total_of) {f : Addr} {cdv : Value} {A : Around} {outer : List Env} {s : Shared} {H : Hp} {E : XK} (hr : Room 1 (A.deeper (PyProof.Rows.envOfC "Pile.subtract" (defScope st_Pile_subtract) s.heap.objs.size f cdv))) :
    BD (cxOf (L2N.CX P w) P w K mg base ["self"] "Pile.subtract" (defScope st_Pile_subtract) f cdv A outer s H E) T E (defBody st_Pile_subtract) (t_Pile_subtract C F_Pile_need F_total_of) := by
  exact (bd_cons (sd_expr (de_mth 0 d_Pile_need (hr.mono (by decide)) (L2N.passes_call (L2N.takes_of rfl rfl rfl rfl) fun _ _ _ _ h => h) (pv 0) (ad_cons de_int ad_nil)))
    (bd_one (sd_becR 0 bk (hr.mono (by decide)) (L2N.passes_call (L2N.takes_of rfl rfl rfl rfl) fun _ _ _ _ h => h) (pv 0) (de_add (de_slc (de_rows 0 pk (pv 0)) od_none (od_some (de_neg de_int))) (de_lst (ad_cons (de_fn d_total_of (hr.mono (by decide)) (L2N.passes_call (L2N.takes_of rfl rfl rfl rfl) fun _ _ _ _ h => h) (ad_cons (de_idx (de_rows 0 pk (pv 0)) (de_neg de_int)) (ad_cons (de_idx (de_rows 0 pk (pv 0)) (de_neg de_int)) (ad_cons (de_neg de_int) ad_nil)))) ad_nil))))))
abbrev st_Pile_swap : Stmt := inClass (topS 41) 9
theorem sc_Pile_swap : FnScope ["self"] ["self"] (defScope st_Pile_swap) := ⟨rfl, rfl, rfl, by decide +kernel, rfl, by decide +kernel, by decide +kernel⟩
theorem bd_Pile_swap (tx : Txt K mg T) {F_Pile_need : Ct} {C : Addr} (pk : PileK K C) (bk : BecK P w K mg base C 1) (d_Pile_need : Mt P w K mg base T C "need" 1 2 F_Pile_need) {f : Addr} {cdv : Value} {A : Around} {outer : List Env} {s : Shared} {H : Hp} {E : XK} (hr : Room 1 (A.deeper (PyProof.Rows.envOfC "Pile.swap" (defScope st_Pile_swap) s.heap.objs.size f cdv))) :
    BD (cxOf (L2N.CX P w) P w K mg base ["self"] "Pile.swap" (defScope st_Pile_swap) f cdv A outer s H E) T E (defBody st_Pile_swap) (t_Pile_swap C F_Pile_need) := by
  exact (bd_cons (sd_expr (de_mth 0 d_Pile_need (hr.mono (by decide)) (L2N.passes_call (L2N.takes_of rfl rfl rfl rfl) fun _ _ _ _ h => h) (pv 0) (ad_cons de_int ad_nil)))
    (bd_one (sd_becR 0 bk (hr.mono (by decide)) (L2N.passes_call (L2N.takes_of rfl rfl rfl rfl) fun _ _ _ _ h => h) (pv 0) (de_add (de_slc (de_rows 0 pk (pv 0)) od_none (od_some (de_neg de_int))) (de_lst (ad_cons (de_idx (de_rows 0 pk (pv 0)) (de_neg de_int)) (ad_cons (de_idx (de_rows 0 pk (pv 0)) (de_neg de_int)) ad_nil)))))))
abbrev st__law_few_right : Stmt := topS 48
theorem sc__law_few_right : FnScope ["pile", "told"] [] (defScope st__law_few_right) := ⟨rfl, rfl, rfl, by decide +kernel, rfl, by decide +kernel, by decide +kernel⟩
theorem bd__law_few_right (tx : Txt K mg T) {F_Pile_add : Ct} {F_Pile_multiply : Ct} {F_Pile_negate : Ct} {F_Pile_drop : Ct} {F_Pile_copy : Ct} {F_Pile_top : Ct} {F_Pile_subtract : Ct} {F_Pile_swap : Ct} {F_Pile_exacts : Ct} {C : Addr} (nk : NewK P w K mg base C 1) (uk : SpK P w K mg base C "undo" 1 (spU K T C)) {G_Pile_press : Cm} (m_Pile_press : MtM P w K mg base T C "press" 5 2 G_Pile_press) (d_Pile_add : Mt P w K mg base T C "add" 2 1 F_Pile_add) (d_Pile_multiply : Mt P w K mg base T C "multiply" 6 1 F_Pile_multiply) (d_Pile_negate : Mt P w K mg base T C "negate" 2 1 F_Pile_negate) (d_Pile_drop : Mt P w K mg base T C "drop" 2 1 F_Pile_drop) (d_Pile_copy : Mt P w K mg base T C "copy" 3 2 F_Pile_copy) (d_Pile_top : Mt P w K mg base T C "top" 2 1 F_Pile_top) (d_Pile_subtract : Mt P w K mg base T C "subtract" 2 1 F_Pile_subtract) (d_Pile_swap : Mt P w K mg base T C "swap" 2 1 F_Pile_swap) (d_Pile_exacts : Mt P w K mg base T C "exacts" 1 1 F_Pile_exacts) {cs : List Str} {g CN cA tA : Addr} {sg : Scope} (tl : ToldAt K mg base T cs g CN sg) (wo : WordsOk P w K mg base T cs) (TB : TabB base mg cA tA) (hmT : (tA, ("_law_few_right" ++ ".<locals>." : Str) ++ "<lambda>") ∈ T.tb) (huT : ∀ p ∈ T.tb, p.1 = tA → p.2 = ("_law_few_right" ++ ".<locals>." : Str) ++ "<lambda>") {f : Addr} {A : Around} {outer : List Env} {s : Shared} {H : Hp} {E : XK} (hr : Room 8 (A.deeper (PyProof.Rows.envOfC "_law_few_right" (defScope st__law_few_right) s.heap.objs.size f (.ref cA)))) :
    BD (cxOf (L2N.CX P w) P w K mg base ["pile", "told"] "_law_few_right" (defScope st__law_few_right) f (.ref cA) A outer s H E) T E (defBody st__law_few_right) (t__law_few_right C cs F_Pile_add F_Pile_multiply F_Pile_negate F_Pile_drop F_Pile_copy F_Pile_top F_Pile_subtract F_Pile_swap F_Pile_exacts G_Pile_press) := by
  exact (bd_cons (sd_new 0 nk (hr.mono (by decide)) (L2N.passes_call (L2N.takes_of rfl rfl rfl rfl) fun _ _ _ _ h => h) sc__law_few_right.nd)
    (bd_cons (sd_ownL 1 (ad_cons (de_told (k := 1) tl wo TB rfl hmT huT (hr.mono (by decide)) (show LamS (defScope st__law_few_right) _ from lamS_by (by decide +kernel)) (fun A outer s H E f c hl => by exact (de_mth0 0 d_Pile_add (hl.mono (by decide)) (L2N.passes_call (L2N.takes_of rfl rfl rfl rfl) fun _ _ _ _ h => h) (pv 0)))) ad_nil) sc__law_few_right.nd)
    (bd_cons (sd_append 1 (pe_bm PySem.F.plainAttrs_list PySem.F.slot_list_append PySem.F.type_list_append mt_append (pv 1) (pa_cons (de_told (k := 1) tl wo TB rfl hmT huT (hr.mono (by decide)) (show LamS (defScope st__law_few_right) _ from lamS_by (by decide +kernel)) (fun A outer s H E f c hl => by exact (de_mth0 0 d_Pile_multiply (hl.mono (by decide)) (L2N.passes_call (L2N.takes_of rfl rfl rfl rfl) fun _ _ _ _ h => h) (pv 0)))) pa_nil)))
    (bd_cons (sd_append 1 (pe_bm PySem.F.plainAttrs_list PySem.F.slot_list_append PySem.F.type_list_append mt_append (pv 1) (pa_cons (de_told (k := 1) tl wo TB rfl hmT huT (hr.mono (by decide)) (show LamS (defScope st__law_few_right) _ from lamS_by (by decide +kernel)) (fun A outer s H E f c hl => by exact (de_mth0 0 d_Pile_negate (hl.mono (by decide)) (L2N.passes_call (L2N.takes_of rfl rfl rfl rfl) fun _ _ _ _ h => h) (pv 0)))) pa_nil)))
    (bd_cons (sd_append 1 (pe_bm PySem.F.plainAttrs_list PySem.F.slot_list_append PySem.F.type_list_append mt_append (pv 1) (pa_cons (de_told (k := 1) tl wo TB rfl hmT huT (hr.mono (by decide)) (show LamS (defScope st__law_few_right) _ from lamS_by (by decide +kernel)) (fun A outer s H E f c hl => by exact (de_mth0 0 d_Pile_drop (hl.mono (by decide)) (L2N.passes_call (L2N.takes_of rfl rfl rfl rfl) fun _ _ _ _ h => h) (pv 0)))) pa_nil)))
    (bd_cons (sd_append 1 (pe_bm PySem.F.plainAttrs_list PySem.F.slot_list_append PySem.F.type_list_append mt_append (pv 1) (pa_cons (de_told (k := 1) tl wo TB rfl hmT huT (hr.mono (by decide)) (show LamS (defScope st__law_few_right) _ from lamS_by (by decide +kernel)) (fun A outer s H E f c hl => by exact (de_mth 0 d_Pile_copy (hl.mono (by decide)) (L2N.passes_call (L2N.takes_of rfl rfl rfl rfl) fun _ _ _ _ h => h) (pv 0) (ad_cons de_int ad_nil)))) pa_nil)))
    (bd_cons (sd_append 1 (pe_bm PySem.F.plainAttrs_list PySem.F.slot_list_append PySem.F.type_list_append mt_append (pv 1) (pa_cons (de_told (k := 1) tl wo TB rfl hmT huT (hr.mono (by decide)) (show LamS (defScope st__law_few_right) _ from lamS_by (by decide +kernel)) (fun A outer s H E f c hl => by exact (de_mth0 0 d_Pile_top (hl.mono (by decide)) (L2N.passes_call (L2N.takes_of rfl rfl rfl rfl) fun _ _ _ _ h => h) (pv 0)))) pa_nil)))
    (bd_cons (sd_if (WD.td (wd_or (td_cm (c_ne hr) (de_var (pv 1)) (de_mul (de_lst (ad_cons de_str ad_nil)) de_int)) (wd_or1 (td_cm (c_ne hr) (de_told (k := 1) tl wo TB rfl hmT huT (hr.mono (by decide)) (show LamS (defScope st__law_few_right) _ from lamS_by (by decide +kernel)) (fun A outer s H E f c hl => by exact (de_undoR 0 uk (hl.mono (by decide)) (L2N.passes_call (L2N.takes_of rfl rfl rfl rfl) fun _ _ _ _ h => h) (pv 0)))) de_str)))) (bd_one (sd_ret de_bl)) bd_nil)
    (bd_cons (sd_mut 0 m_Pile_press (hr.mono (by decide)) (L2N.passes_call (L2N.takes_of rfl rfl rfl rfl) fun _ _ _ _ h => h) (pv 0) (ad_cons (de_tup (ad_cons de_int (ad_cons de_int ad_nil))) ad_nil))
    (bd_cons (sd_ownL 1 (ad_cons (de_told (k := 1) tl wo TB rfl hmT huT (hr.mono (by decide)) (show LamS (defScope st__law_few_right) _ from lamS_by (by decide +kernel)) (fun A outer s H E f c hl => by exact (de_mth0 0 d_Pile_add (hl.mono (by decide)) (L2N.passes_call (L2N.takes_of rfl rfl rfl rfl) fun _ _ _ _ h => h) (pv 0)))) ad_nil) sc__law_few_right.nd)
    (bd_cons (sd_append 1 (pe_bm PySem.F.plainAttrs_list PySem.F.slot_list_append PySem.F.type_list_append mt_append (pv 1) (pa_cons (de_told (k := 1) tl wo TB rfl hmT huT (hr.mono (by decide)) (show LamS (defScope st__law_few_right) _ from lamS_by (by decide +kernel)) (fun A outer s H E f c hl => by exact (de_mth0 0 d_Pile_subtract (hl.mono (by decide)) (L2N.passes_call (L2N.takes_of rfl rfl rfl rfl) fun _ _ _ _ h => h) (pv 0)))) pa_nil)))
    (bd_cons (sd_append 1 (pe_bm PySem.F.plainAttrs_list PySem.F.slot_list_append PySem.F.type_list_append mt_append (pv 1) (pa_cons (de_told (k := 1) tl wo TB rfl hmT huT (hr.mono (by decide)) (show LamS (defScope st__law_few_right) _ from lamS_by (by decide +kernel)) (fun A outer s H E f c hl => by exact (de_mth0 0 d_Pile_multiply (hl.mono (by decide)) (L2N.passes_call (L2N.takes_of rfl rfl rfl rfl) fun _ _ _ _ h => h) (pv 0)))) pa_nil)))
    (bd_cons (sd_append 1 (pe_bm PySem.F.plainAttrs_list PySem.F.slot_list_append PySem.F.type_list_append mt_append (pv 1) (pa_cons (de_told (k := 1) tl wo TB rfl hmT huT (hr.mono (by decide)) (show LamS (defScope st__law_few_right) _ from lamS_by (by decide +kernel)) (fun A outer s H E f c hl => by exact (de_mth0 0 d_Pile_swap (hl.mono (by decide)) (L2N.passes_call (L2N.takes_of rfl rfl rfl rfl) fun _ _ _ _ h => h) (pv 0)))) pa_nil)))
    (bd_cons (sd_append 1 (pe_bm PySem.F.plainAttrs_list PySem.F.slot_list_append PySem.F.type_list_append mt_append (pv 1) (pa_cons (de_told (k := 1) tl wo TB rfl hmT huT (hr.mono (by decide)) (show LamS (defScope st__law_few_right) _ from lamS_by (by decide +kernel)) (fun A outer s H E f c hl => by exact (de_mth 0 d_Pile_copy (hl.mono (by decide)) (L2N.passes_call (L2N.takes_of rfl rfl rfl rfl) fun _ _ _ _ h => h) (pv 0) (ad_cons de_int ad_nil)))) pa_nil)))
    (bd_one (sd_ret (de_and (de_cm (c_eq hr) (de_var (pv 1)) (de_mul (de_lst (ad_cons de_str ad_nil)) de_int)) (de_one (de_cm (c_eq hr) (de_mth0 0 d_Pile_exacts (hr.mono (by decide)) (L2N.passes_call (L2N.takes_of rfl rfl rfl rfl) fun _ _ _ _ h => h) (pv 0)) (de_lst (ad_cons (de_lst (ad_cons (de_tup (ad_cons de_int (ad_cons de_int ad_nil))) ad_nil)) ad_nil)))))))))))))))))))))
abbrev st_law : Stmt := topS 50
theorem sc_law : FnScope ["script", "k", "more", "pile", "number", "j", "told", "kept"] ["script"] (defScope st_law) := ⟨rfl, rfl, rfl, by decide +kernel, rfl, by decide +kernel, by decide +kernel⟩
theorem bd_law (tx : Txt K mg T) {F__law_drawn : Ct} {F__law_cell : Ct} {F__law_number : Ct} {F_Pile_press : Ct} {F_Pile_copy : Ct} {F_Pile_exacts : Ct} {F__law_none_let : Ct} {F__law_few_right : Ct} {F_Pile_multiply : Ct} {F_Pile_digits_of_top : Ct} {C : Addr} (nk : NewK P w K mg base C 1) (uk : SpK P w K mg base C "undo" 1 (spU K T C)) (rk : SpK P w K mg base C "redo" 1 (spR T C)) {G_Pile_press : Cm} (m_Pile_press : MtM P w K mg base T C "press" 5 2 G_Pile_press) {G_Pile_copy : Cm} (m_Pile_copy : MtM P w K mg base T C "copy" 3 2 G_Pile_copy) {G_Pile_multiply : Cm} (m_Pile_multiply : MtM P w K mg base T C "multiply" 6 1 G_Pile_multiply) (d__law_drawn : Df P w K mg base T "_law_drawn" 1 2 F__law_drawn) (d__law_cell : Df P w K mg base T "_law_cell" 1 2 F__law_cell) (d__law_number : Df P w K mg base T "_law_number" 1 1 F__law_number) (d_Pile_press : Mt P w K mg base T C "press" 5 2 F_Pile_press) (d_Pile_copy : Mt P w K mg base T C "copy" 3 2 F_Pile_copy) (d_Pile_exacts : Mt P w K mg base T C "exacts" 1 1 F_Pile_exacts) (d__law_none_let : Df P w K mg base T "_law_none_let" 9 1 F__law_none_let) (d__law_few_right : Df P w K mg base T "_law_few_right" 9 0 F__law_few_right) (d_Pile_multiply : Mt P w K mg base T C "multiply" 6 1 F_Pile_multiply) (d_Pile_digits_of_top : Mt P w K mg base T C "digits_of_top" 6 2 F_Pile_digits_of_top) {cs : List Str} {g CN cA tA : Addr} {sg : Scope} (tl : ToldAt K mg base T cs g CN sg) (wo : WordsOk P w K mg base T cs) (TB : TabB base mg cA tA) (hmT : (tA, ("law" ++ ".<locals>." : Str) ++ "<lambda>") ∈ T.tb) (huT : ∀ p ∈ T.tb, p.1 = tA → p.2 = ("law" ++ ".<locals>." : Str) ++ "<lambda>") {f : Addr} {A : Around} {outer : List Env} {s : Shared} {H : Hp} {E : XK} (hr : Room 11 (A.deeper (PyProof.Rows.envOfC "law" (defScope st_law) s.heap.objs.size f (.ref cA)))) :
    BD (cxOf (L2N.CX P w) P w K mg base ["script", "k", "more", "pile", "number", "j", "told", "kept"] "law" (defScope st_law) f (.ref cA) A outer s H E) T E (defBody st_law) (t_law_k91 C cs F__law_drawn F__law_cell F__law_number F_Pile_press F_Pile_copy F_Pile_exacts F__law_none_let F__law_few_right F_Pile_multiply F_Pile_digits_of_top G_Pile_press G_Pile_copy G_Pile_multiply) := by
  exact (bd_cons (sd_for (passes_of rfl) (id_range1 tx.n_range (ad_cons (de_b b_max2 tx.n_max (ad_cons de_int (ad_cons (de_b b_min2 tx.n_min (ad_cons de_int (ad_cons (de_b b_len tx.n_len (ad_cons (de_var (pv 0)) ad_nil)) ad_nil))) ad_nil))) ad_nil)) (pg_nm 1 sc_law.nd) (bd_cons (sd_set 2 (de_fn d__law_drawn (hr.mono (by decide)) (L2N.passes_call (L2N.takes_of rfl rfl rfl rfl) fun _ _ _ _ h => h) (ad_cons (de_fn d__law_cell (hr.mono (by decide)) (L2N.passes_call (L2N.takes_of rfl rfl rfl rfl) fun _ _ _ _ h => h) (ad_cons (de_var (pv 0)) (ad_cons (de_var (pv 1)) ad_nil))) (ad_cons (de_var (pv 1)) ad_nil))) sc_law.nd)
    (bd_cons (sd_newPar 3 4 nk (hr.mono (by decide)) (L2N.passes_call (L2N.takes_of rfl rfl rfl rfl) fun _ _ _ _ h => h) (de_fn d__law_number (hr.mono (by decide)) (L2N.passes_call (L2N.takes_of rfl rfl rfl rfl) fun _ _ _ _ h => h) (ad_cons (de_fdiv (de_var (pv 2)) de_int) ad_nil)) (pg_tp2 3 4 sc_law.nd))
    (bd_cons (sd_mut 3 m_Pile_press (hr.mono (by decide)) (L2N.passes_call (L2N.takes_of rfl rfl rfl rfl) fun _ _ _ _ h => h) (pv 3) (ad_cons (de_var (pv 4)) ad_nil))
    (bd_cons (sd_for (passes_of rfl) (id_range1 tx.n_range (ad_cons de_int ad_nil)) (pg_nm 5 sc_law.nd) (bd_one (sd_mut 3 m_Pile_copy (hr.mono (by decide)) (L2N.passes_call (L2N.takes_of rfl rfl rfl rfl) fun _ _ _ _ h => h) (pv 3) (ad_cons de_int ad_nil))))
    (bd_cons (sd_ownL 6 (ad_cons (de_told (k := 4) tl wo TB rfl hmT huT (hr.mono (by decide)) (show LamS (defScope st_law) _ from lamS_by (by decide +kernel)) (fun A outer s H E f c hl => by exact (de_mth 3 d_Pile_press (hl.mono (by decide)) (L2N.passes_call (L2N.takes_of rfl rfl rfl rfl) fun _ _ _ _ h => h) (pv 3) (ad_cons (de_var (pv 4)) ad_nil)))) ad_nil) sc_law.nd)
    (bd_cons (sd_append 6 (pe_bm PySem.F.plainAttrs_list PySem.F.slot_list_append PySem.F.type_list_append mt_append (pv 6) (pa_cons (de_told (k := 4) tl wo TB rfl hmT huT (hr.mono (by decide)) (show LamS (defScope st_law) _ from lamS_by (by decide +kernel)) (fun A outer s H E f c hl => by exact (de_mth 3 d_Pile_copy (hl.mono (by decide)) (L2N.passes_call (L2N.takes_of rfl rfl rfl rfl) fun _ _ _ _ h => h) (pv 3) (ad_cons de_int ad_nil)))) pa_nil)))
    (bd_cons (sd_if (WD.td (wd_or (td_cm (c_ne hr) (de_var (pv 6)) (de_mul (de_lst (ad_cons de_str ad_nil)) de_int)) (wd_or (td_cm (c_ne hr) (de_b b_len tx.n_len (ad_cons (de_mth0 3 d_Pile_exacts (hr.mono (by decide)) (L2N.passes_call (L2N.takes_of rfl rfl rfl rfl) fun _ _ _ _ h => h) (pv 3)) ad_nil)) de_int) (wd_or1 (td_cm (c_ne hr) (de_told (k := 4) tl wo TB rfl hmT huT (hr.mono (by decide)) (show LamS (defScope st_law) _ from lamS_by (by decide +kernel)) (fun A outer s H E f c hl => by exact (de_redoR 3 rk (hl.mono (by decide)) (L2N.passes_call (L2N.takes_of rfl rfl rfl rfl) fun _ _ _ _ h => h) (pv 3)))) de_str))))) (bd_one (sd_ret de_bl)) bd_nil)
    (bd_cons (sd_if (WD.td (wd_or (td_not (td_val (de_fnQ 3 d__law_none_let (hr.mono (by decide)) (L2N.passes_call (L2N.takes_of rfl rfl rfl rfl) fun _ _ _ _ h => h) (pv 3)))) (wd_or (td_not (td_val (de_fnNew d__law_none_let nk (hr.mono (by decide)) (hr.mono (by decide)) (L2N.passes_call (L2N.takes_of rfl rfl rfl rfl) fun _ _ _ _ h => h)))) (wd_or1 (td_not (td_val (de_fn0 d__law_few_right (hr.mono (by decide)) (L2N.passes_call (L2N.takes_of rfl rfl rfl rfl) fun _ _ _ _ h => h)))))))) (bd_one (sd_ret de_bl)) bd_nil)
    (bd_cons (sd_new 3 nk (hr.mono (by decide)) (L2N.passes_call (L2N.takes_of rfl rfl rfl rfl) fun _ _ _ _ h => h) sc_law.nd)
    (bd_cons (sd_mut 3 m_Pile_press (hr.mono (by decide)) (L2N.passes_call (L2N.takes_of rfl rfl rfl rfl) fun _ _ _ _ h => h) (pv 3) (ad_cons (de_tup (ad_cons de_int (ad_cons de_int ad_nil))) ad_nil))
    (bd_cons (sd_mut 3 m_Pile_copy (hr.mono (by decide)) (L2N.passes_call (L2N.takes_of rfl rfl rfl rfl) fun _ _ _ _ h => h) (pv 3) (ad_cons de_int ad_nil))
    (bd_cons (sd_mut0 3 m_Pile_multiply (hr.mono (by decide)) (L2N.passes_call (L2N.takes_of rfl rfl rfl rfl) fun _ _ _ _ h => h) (pv 3))
    (bd_cons (sd_set 7 (de_mth0 3 d_Pile_exacts (hr.mono (by decide)) (L2N.passes_call (L2N.takes_of rfl rfl rfl rfl) fun _ _ _ _ h => h) (pv 3)) sc_law.nd)
    (bd_cons (sd_mut 3 m_Pile_copy (hr.mono (by decide)) (L2N.passes_call (L2N.takes_of rfl rfl rfl rfl) fun _ _ _ _ h => h) (pv 3) (ad_cons de_int ad_nil))
    (bd_cons (sd_if (WD.td (wd_or (td_cm (c_ne hr) (de_told (k := 4) tl wo TB rfl hmT huT (hr.mono (by decide)) (show LamS (defScope st_law) _ from lamS_by (by decide +kernel)) (fun A outer s H E f c hl => by exact (de_mth0 3 d_Pile_multiply (hl.mono (by decide)) (L2N.passes_call (L2N.takes_of rfl rfl rfl rfl) fun _ _ _ _ h => h) (pv 3)))) de_str) (wd_or1 (td_cm (c_ne hr) (de_mth0 3 d_Pile_exacts (hr.mono (by decide)) (L2N.passes_call (L2N.takes_of rfl rfl rfl rfl) fun _ _ _ _ h => h) (pv 3)) (de_mul (de_var (pv 7)) de_int))))) (bd_one (sd_ret de_bl)) bd_nil)
    (bd_cons (sd_undo 3 uk (hr.mono (by decide)) (L2N.passes_call (L2N.takes_of rfl rfl rfl rfl) fun _ _ _ _ h => h) (pv 3))
    (bd_one (sd_if (WD.td (wd_or (td_cm (c_ne hr) (de_mth0 3 d_Pile_exacts (hr.mono (by decide)) (L2N.passes_call (L2N.takes_of rfl rfl rfl rfl) fun _ _ _ _ h => h) (pv 3)) (de_var (pv 7))) (wd_or1 (td_cm (c_ne hr) (de_mth 3 d_Pile_digits_of_top (hr.mono (by decide)) (L2N.passes_call (L2N.takes_of rfl rfl rfl rfl) fun _ _ _ _ h => h) (pv 3) (ad_cons de_int ad_nil)) de_int)))) (bd_one (sd_ret de_bl)) bd_nil)))))))))))))))))))
    (bd_one (sd_ret de_bl)))
end
end R91

/-! Plain sums: whole roots, powers of ten as texts, sizes. -/
namespace DL
open PySem L2
/-! ### sizes -/
theorem log2_lt_of {n k : Nat} (h : n < 2 ^ k) (hk : 0 < k) : n.log2 < k := by
  by_cases h0 : n = 0
  · subst h0; simpa using hk
  · exact (Nat.log2_lt h0).mpr h
theorem lt_of_log2 {n k : Nat} (h : n.log2 < k) : n < 2 ^ k := by
  by_cases h0 : n = 0
  · subst h0; exact Nat.two_pow_pos k
  · exact (Nat.log2_lt h0).mp h
theorem log2_mono {a b : Nat} (h : a ≤ b) : a.log2 ≤ b.log2 := by
  have := lt_of_log2 (Nat.lt_succ_self b.log2)
  have := log2_lt_of (Nat.lt_of_le_of_lt h this) (Nat.succ_pos _)
  omega
theorem cml_l {i j : Int} (h1 : -(2 ^ 64) < i) (h2 : i < 2 ^ 64) : CMl i j := .inl (.inl ⟨h1, h2⟩)
theorem cml_r {i j : Int} (h1 : -(2 ^ 64) < j) (h2 : j < 2 ^ 64) : CMl i j := .inl (.inr ⟨h1, h2⟩)
theorem cml_w {i j : Int} (h1 : i.natAbs.log2 < 500000) (h2 : j.natAbs.log2 < 500000) : CMl i j := .inr (by show _ < _; omega)
theorem cdv_of {i j : Int} (h0 : j ≠ 0) (h1 : -(2 ^ 64) < j) (h2 : j < 2 ^ 64) : CDv i j := ⟨h0, by
  have : j.natAbs < 2 ^ 64 := by omega
  have := log2_lt_of this (by decide)
  omega⟩
theorem fdiv_pos {i j : Int} (h : 0 < j) : i.fdiv j = i / j := Int.fdiv_eq_ediv_of_nonneg _ (Int.le_of_lt h)
theorem fmod_pos {i j : Int} (h : 0 < j) : i.fmod j = i % j := Int.fmod_eq_emod_of_nonneg _ (Int.le_of_lt h)
/-! ### whole roots -/
def isqN : Nat → Nat
  | 0 => 0
  | n + 1 => if (isqN n + 1) * (isqN n + 1) ≤ n + 1 then isqN n + 1 else isqN n
theorem isqN_spec : ∀ n : Nat, isqN n * isqN n ≤ n ∧ n < (isqN n + 1) * (isqN n + 1)
  | 0 => by decide
  | n + 1 => by
    have ⟨h1, h2⟩ := isqN_spec n
    unfold isqN
    split
    · rename_i h
      refine ⟨h, ?_⟩
      have e : (isqN n + 1 + 1) * (isqN n + 1 + 1) = (isqN n + 1) * (isqN n + 1) + 2 * (isqN n + 1) + 1 := by simp only [Nat.add_mul, Nat.mul_add]; omega
      omega
    · rename_i h
      omega
def isq (i : Int) : Int := (isqN i.toNat : Nat)
theorem isq_nonneg (i : Int) : 0 ≤ isq i := Int.natCast_nonneg _
theorem isq_le {i : Int} (h : 0 ≤ i) : isq i * isq i ≤ i := by
  have := (isqN_spec i.toNat).1
  unfold isq
  rw [← Int.natCast_mul]
  omega
theorem lt_isq {i : Int} (h : 0 ≤ i) : i < (isq i + 1) * (isq i + 1) := by
  have := (isqN_spec i.toNat).2
  unfold isq
  rw [show ((isqN i.toNat : Nat) : Int) + 1 = ((isqN i.toNat + 1 : Nat) : Int) by simp, ← Int.natCast_mul]
  omega
theorem mul_lt_self {a b : Int} (ha : 0 ≤ a) (h : a < b) : a * a < b * b := by
  have h1 : a * a ≤ a * b := Int.mul_le_mul_of_nonneg_left (Int.le_of_lt h) ha
  have h2 : a * b < b * b := Int.mul_lt_mul_of_pos_right h (by omega)
  omega
theorem mul_le_self {a b : Int} (ha : 0 ≤ a) (h : a ≤ b) : a * a ≤ b * b := by
  rcases Int.lt_or_eq_of_le h with h | rfl
  · exact Int.le_of_lt (mul_lt_self ha h)
  · exact Int.le_refl _
theorem lt_of_sq {a b : Int} (hb : 0 ≤ b) (h : a * a < b * b) : a < b := by
  rcases Int.lt_or_le a b with q | q
  · exact q
  · have := mul_le_self hb q; omega
theorem isq_eq {i r : Int} (h0 : 0 ≤ r) (h1 : r * r ≤ i) (h2 : i < (r + 1) * (r + 1)) : isq i = r := by
  have hi : 0 ≤ i := Int.le_trans (Int.mul_nonneg h0 h0) h1
  have a1 := isq_le hi
  have a2 := lt_isq hi
  have a3 := isq_nonneg i
  have := lt_of_sq (a := r) (b := isq i + 1) (by omega) (by omega)
  have := lt_of_sq (a := isq i) (b := r + 1) (by omega) (by omega)
  omega
theorem le_isq {i r : Int} (h0 : 0 ≤ r) (h1 : r * r ≤ i) : r ≤ isq i := by
  have hi : 0 ≤ i := Int.le_trans (Int.mul_nonneg h0 h0) h1
  have := lt_of_sq (a := r) (b := isq i + 1) (by have := isq_nonneg i; omega) (by have := lt_isq hi; omega)
  omega
theorem isq_le_self {i : Int} (h : 0 ≤ i) : isq i ≤ i := by
  have a1 := isq_le h
  have a3 := isq_nonneg i
  rcases Int.lt_or_le (isq i) 1 with q | q
  · omega
  · have : isq i * 1 ≤ isq i * isq i := Int.mul_le_mul_of_nonneg_left q a3
    omega
/-- one step of the rule of halves -/
theorem newton_ge {S f : Int} (hS : 0 ≤ S) (hf : 1 ≤ f) : isq S ≤ (f + S / f) / 2 := by
  have a1 := isq_le hS
  have h1 : (2 * isq S - f) * f ≤ S := by
    have : 0 ≤ (isq S - f) * (isq S - f) := by
      rcases Int.le_total 0 (isq S - f) with q | q
      · exact Int.mul_nonneg q q
      · exact Int.mul_nonneg_of_nonpos_of_nonpos q q
    have e : (isq S - f) * (isq S - f) = isq S * isq S - (2 * isq S - f) * f := by
      simp only [Int.sub_mul, Int.mul_sub, Int.mul_assoc, Int.mul_comm f (isq S)]; omega
    omega
  have h2 : 2 * isq S - f ≤ S / f := (Int.le_ediv_iff_mul_le (by omega)).mpr h1
  omega
theorem newton_end {S f : Int} (hS : 0 ≤ S) (hf : 1 ≤ f) (hge : isq S ≤ f) (h : f ≤ (f + S / f) / 2) : isq S = f := by
  have h1 : f ≤ S / f := by omega
  have h2 : f * f ≤ S := (Int.le_ediv_iff_mul_le (by omega)).mp h1
  have := le_isq (by omega) h2
  omega
/-! ### texts of numbers -/
theorem foldl_dig : ∀ (n acc : Nat), (List.replicate n 48).foldl (fun acc c => acc * 10 + (c - 48)) acc = acc * 10 ^ n
  | 0, acc => by simp
  | n + 1, acc => by
    rw [List.replicate_succ, List.foldl_cons, foldl_dig n, Nat.pow_succ, Nat.mul_comm (10 ^ n) 10, ← Nat.mul_assoc]
    rfl
theorem sRep_toList (x : Str) : ∀ n : Nat, (sRep x n).cps.toList = (List.replicate n x.cps.toList).flatten := by
  intro n
  have key : ∀ (n : Nat) (acc : Array Nat), ((List.replicate n x.cps).foldl (· ++ ·) acc).toList = acc.toList ++ (List.replicate n x.cps.toList).flatten := by
    intro n
    induction n with
    | zero => intro acc; simp
    | succ n ih =>
      intro acc
      rw [List.replicate_succ, List.foldl_cons, ih, List.replicate_succ, List.flatten_cons]
      simp
  have := key n #[]
  simpa [sRep] using this
theorem ten_toList (n : Nat) : (("1" : Str) ++ sRep "0" n).cps.toList = 49 :: List.replicate n 48 := by
  have e1 : (("1" : Str) ++ sRep "0" n).cps = ("1" : Str).cps ++ (sRep "0" n).cps := rfl
  have e2 : ("1" : Str).cps.toList = [49] := by decide +kernel
  have e3 : ("0" : Str).cps.toList = [48] := by decide +kernel
  rw [e1, Array.toList_append, e2, sRep_toList, e3]
  have : ∀ n : Nat, (List.replicate n [48]).flatten = List.replicate n 48 := fun n => by
    induction n with
    | zero => rfl
    | succ n ih => rw [List.replicate_succ, List.flatten_cons, ih, List.replicate_succ]; rfl
  rw [this]
  rfl
theorem ten_len (n : Nat) : (("1" : Str) ++ sRep "0" n).length = n + 1 := by
  have := congrArg List.length (ten_toList n)
  rw [Array.length_toList, List.length_cons, List.length_replicate] at this
  exact this
theorem ten_text {n : Nat} (h : n < 4300) : PySem.intText? (("1" : Str) ++ sRep "0" n) = some ((10 ^ n : Nat) : Int) := by
  rw [PySem.intText_digits (x := ("1" : Str) ++ sRep "0" n)]
  · rw [ten_toList]
    unfold PySem.NumText.digitsVal
    rw [List.foldl_cons, foldl_dig]
    simp
  · rw [ten_toList]
    intro c hc
    rcases List.mem_cons.mp hc with rfl | hc
    · omega
    · have := List.eq_of_mem_replicate hc; omega
  · rw [ten_toList]; simp
  · rw [ten_len]; omega
theorem digitsVal_lt : ∀ (cs : List Nat) (acc : Nat), PySem.NumText.AllDigits cs → cs.foldl (fun acc c => acc * 10 + (c - 48)) acc < (acc + 1) * 10 ^ cs.length
  | [], acc, _ => by simp
  | c :: cs, acc, h => by
    rw [List.foldl_cons]
    have h1 := digitsVal_lt cs (acc * 10 + (c - 48)) h.tail
    have h2 := h.head
    have h3 : acc * 10 + (c - 48) + 1 ≤ (acc + 1) * 10 := by omega
    have h4 := Nat.mul_le_mul_right (10 ^ cs.length) h3
    rw [List.length_cons, Nat.pow_succ, Nat.mul_comm (10 ^ cs.length) 10, ← Nat.mul_assoc]
    omega
theorem numL_big (n : Nat) : n < 10 ^ (TL.numL n).length := by
  have h := digitsVal_lt (TL.numL n) 0 (TL.numL_digits n)
  have v : (TL.numL n).foldl (fun acc c => acc * 10 + (c - 48)) 0 = n := TL.numL_val n
  rw [v] at h
  simpa using h
theorem len_str {i : Int} (h : 0 ≤ i) : ((toString i : String) : Str).length = (TL.numL i.toNat).length := by
  have e : i = ((i.toNat : Nat) : Int) := by omega
  have := TL.tl_num i.toNat
  rw [← e] at this
  have h2 := congrArg List.length this
  rw [← h2]
  exact (Array.length_toList).symm
end DL

/-! What the small defs compute. -/
namespace DL
open PySem L2 LamX
abbrev En (q : D → Prop) (xc : DX) : DEnds := { nx := fun _ => q .none, rt := q, xc := xc }
def isCnt (x : D) (l h : Int) : Bool := match x with
  | .int i => decide (l ≤ i) && decide (i ≤ h)
  | _ => false
def F_is_count : Ct := fun xs q _ => match xs with
  | [.d x, .d (.int l), .d (.int h)] => q (.bool (isCnt x l h))
  | _ => False
theorem hn_is_count (xs : List Vl) (q : D → Prop) (xc : DX) (h : F_is_count xs q xc) : xs.length = 3 := by
  unfold F_is_count at h; split at h
  · rfl
  · exact h.elim
theorem sem_is_count (xs : List Vl) (q : D → Prop) (xc : DX) (h : F_is_count xs q xc) : t_is_count (En q xc) (dstart ["thing", "low", "high"] xs) := by
  unfold F_is_count at h; split at h
  · rename_i x lo hi
    simp only [t_is_count, dstart]
    cases x <;> simp [isI, isB, isCnt] at h ⊢
    all_goals first | exact h | skip
    rename_i i
    by_cases h1 : lo ≤ i
    · simp [h1] at h; exact ⟨fun _ => h, fun z => absurd h1 (by omega)⟩
    · simp [h1] at h; exact ⟨fun z => absurd z h1, fun _ => h⟩
  · exact h.elim
def F_need_count : Ct := fun xs q xc => match xs with
  | [.d x, .d (.int l), .d (.int h)] => bc (isCnt x l h) (q .none) (xc "BadNumber")
  | _ => False
theorem hn_need_count (xs : List Vl) (q : D → Prop) (xc : DX) (h : F_need_count xs q xc) : xs.length = 3 := by
  unfold F_need_count at h; split at h
  · rfl
  · exact h.elim
theorem sem_need_count (xs : List Vl) (q : D → Prop) (xc : DX) (h : F_need_count xs q xc) : t_need_count F_is_count (En q xc) (dstart ["thing", "low", "high"] xs) := by
  unfold F_need_count at h; split at h
  · rename_i x lo hi
    simp [t_need_count, dstart, F_is_count]
    exact h
  · exact h.elim
def isNum (x : D) : Bool := match x with
  | .tuple [a, b] => isCnt a (-99) 99 && isCnt b 1 99
  | _ => false
def F_is_number : Ct := fun xs q _ => match xs with
  | [.d x] => q (.bool (isNum x))
  | _ => False
theorem hn_is_number (xs : List Vl) (q : D → Prop) (xc : DX) (h : F_is_number xs q xc) : xs.length = 1 := by
  unfold F_is_number at h; split at h
  · rfl
  · exact h.elim
theorem sem_is_number (xs : List Vl) (q : D → Prop) (xc : DX) (h : F_is_number xs q xc) : t_is_number F_is_count (En q xc) (dstart ["thing", "good"] xs) := by
  unfold F_is_number at h; split at h
  · rename_i x
    simp only [t_is_number, dstart]
    cases x
    case tuple ds =>
      match ds, h with
      | [], h => simpa [isT, isNum] using h
      | [a], h => simpa [isT, isNum] using h
      | [a, b], h =>
        simp [isT, isNum, F_is_count] at h ⊢
        cases e1 : isCnt a (-99) 99 <;> simp [e1] at h ⊢ <;> exact h
      | a :: b :: c :: r, h =>
        simp [isT, isNum] at h ⊢
        have : ¬ ((r.length : Int) + 1 + 1 + 1 = 2) := by omega
        simp [this]
        exact h
    all_goals simpa [isT, isNum] using h
  · exact h.elim
def F_need_number : Ct := fun xs q xc => match xs with
  | [.d x] => bc (isNum x) (q .none) (xc "BadNumber")
  | _ => False
theorem hn_need_number (xs : List Vl) (q : D → Prop) (xc : DX) (h : F_need_number xs q xc) : xs.length = 1 := by
  unfold F_need_number at h; split at h
  · rfl
  · exact h.elim
theorem sem_need_number (xs : List Vl) (q : D → Prop) (xc : DX) (h : F_need_number xs q xc) : t_need_number F_is_number (En q xc) (dstart ["number"] xs) := by
  unfold F_need_number at h; split at h
  · rename_i x
    simp [t_need_number, dstart, F_is_number]
    exact h
  · exact h.elim
/-! ### rows -/
def isRow (x : D) : Bool := match x with
  | .list ds => decide (1 ≤ ds.length) && decide (ds.length ≤ 5) && ds.all isNum
  | _ => false
theorem bools_map (ds : List D) (f : D → Bool) : bools? (ds.map fun d => PyData.bool (f d)) = some (ds.map f) := by
  have := bools?_map (ds.map f)
  rw [List.map_map] at this
  exact this
theorem all_map (ds : List D) (f : D → Bool) : (ds.map f).all id = ds.all f := by simp [List.all_map]
def F_need_row : Ct := fun xs q xc => match xs with
  | [.d x] => bc (isRow x) (q .none) (xc "BadRow")
  | _ => False
theorem hn_need_row (xs : List Vl) (q : D → Prop) (xc : DX) (h : F_need_row xs q xc) : xs.length = 1 := by
  unfold F_need_row at h; split at h
  · rfl
  · exact h.elim
theorem sem_need_row (xs : List Vl) (q : D → Prop) (xc : DX) (h : F_need_row xs q xc) : t_need_row F_is_number (En q xc) (dstart ["row", "one"] xs) := by
  unfold F_need_row at h; split at h
  · rename_i x
    simp only [t_need_row, dstart]
    cases x
    case list ds =>
      simp [isL]
      refine ⟨fun a1 => ⟨fun a5 => ⟨rfl, lc_nm (f := fun d => .bool (isNum d)) (few (m := 5) (by omega)) (fun d _ Q hQ => ?_) ?_⟩, fun a5 => ?_⟩, fun a1 => ?_⟩
      · simpa [F_is_number, wipeD] using hQ
      · rw [gAll_of (bools_map ds isNum), all_map]
        have e : isRow (.list ds) = ds.all isNum := by
          have h1 : 1 ≤ ds.length := by omega
          have h5 : ds.length ≤ 5 := by omega
          simp [isRow, h1, h5]
        rw [e] at h
        exact h
      · have e : isRow (.list ds) = false := by
          have h5 : ¬ ds.length ≤ 5 := by omega
          simp [isRow, h5]
        rw [e] at h
        exact h
      · have e : isRow (.list ds) = false := by
          have h5 : ¬ 1 ≤ ds.length := by omega
          simp [isRow, h5]
        rw [e] at h
        exact h
    all_goals simpa [isL, isRow] using h
  · exact h.elim
def isTimes (n : Nat) (x : D) : Bool := match x with
  | .list ds => decide (ds.length = n) && ds.all fun d => isCnt d (-1000) 1000
  | _ => false
def F_need_times : Ct := fun xs q xc => match xs with
  | [.d (.list rs), .d x] => rs.length ≤ 1000 ∧ bc (isTimes rs.length x) (q .none) (xc "BadRow")
  | _ => False
theorem hn_need_times (xs : List Vl) (q : D → Prop) (xc : DX) (h : F_need_times xs q xc) : xs.length = 2 := by
  unfold F_need_times at h; split at h
  · rfl
  · exact h.elim
theorem sem_need_times (xs : List Vl) (q : D → Prop) (xc : DX) (h : F_need_times xs q xc) : t_need_times F_is_count (En q xc) (dstart ["row", "times", "good", "one"] xs) := by
  unfold F_need_times at h; split at h
  · rename_i rs x
    obtain ⟨hl, h⟩ := h
    simp only [t_need_times, dstart]
    cases x
    case list ds =>
      simp [isL]
      refine ⟨fun a1 => ⟨rfl, lc_nm (f := fun d => .bool (isCnt d (-1000) 1000)) (few (m := 1000) (by omega)) (fun d _ Q hQ => ?_) ?_⟩, fun a1 => ?_⟩
      · simpa [F_is_count, wipeD] using hQ
      · rw [gAll_of (bools_map ds _), all_map]
        have e : isTimes rs.length (.list ds) = ds.all fun d => isCnt d (-1000) 1000 := by
          have h1 : ds.length = rs.length := by omega
          simp [isTimes, h1]
        rw [e] at h
        exact h
      · have e : isTimes rs.length (.list ds) = false := by
          have h1 : ¬ ds.length = rs.length := by omega
          simp [isTimes, h1]
        rw [e] at h
        exact h
    all_goals simpa [isL, isTimes] using h
  · exact h.elim
end DL

/-! plain_of, root_below, power_of, digits_of. -/
namespace DL
open PySem L2 LamX
structure PlainOf (t u t' u' : Int) : Prop where
  sq : t' * t' * u' = t * t * u
  sgn : 0 ≤ t' * t
  pos : 1 ≤ u'
  le : u' ≤ u
  free : ∀ b : Int, 2 ≤ b → ¬ b * b ∣ u'
  zero : t = 0 → t' = 0 ∧ u' = 1
  nz : t ≠ 0 → ∃ m : Int, 1 ≤ m ∧ t' = t * m ∧ u' * (m * m) = u
theorem PlainOf.t0 {t u t' u' : Int} (h : PlainOf t u t' u') (e : t' = 0) : u' = 1 := by
  by_cases ht : t = 0
  · exact (h.zero ht).2
  · obtain ⟨m, h1, h2, _⟩ := h.nz ht
    have : t * m ≠ 0 := Int.mul_ne_zero ht (by omega)
    omega
def F_plain_of : Ct := fun xs q _ => match xs with
  | [.d (.tuple [.int t, .int u])] => 1 ≤ u ∧ u < 2 ^ 62 ∧ ∀ t' u', PlainOf t u t' u' → q (.tuple [.int t', .int u'])
  | _ => False
theorem hn_plain_of (xs : List Vl) (q : D → Prop) (xc : DX) (h : F_plain_of xs q xc) : xs.length = 1 := by
  unfold F_plain_of at h; split at h
  · rfl
  · exact h.elim
structure PlI (t u t1 u1 b m : Int) : Prop where
  m1 : 1 ≤ m
  et : t1 = t * m
  eu : u1 * (m * m) = u
  hu : 1 ≤ u1
  b2 : 2 ≤ b
  free : ∀ c : Int, 2 ≤ c → c < b → ¬ c * c ∣ u1
theorem PlI.le {t u t1 u1 b m : Int} (h : PlI t u t1 u1 b m) : u1 ≤ u := by
  have : 1 * 1 ≤ m * m := mul_le_self (by omega) h.m1
  have h2 : u1 * 1 ≤ u1 * (m * m) := Int.mul_le_mul_of_nonneg_left (by omega) (by have := h.hu; omega)
  have := h.eu
  omega
theorem PlI.next {t u t1 u1 b m : Int} (h : PlI t u t1 u1 b m) (hd : b * b ∣ u1) : PlI t u (t1 * b) (u1 / (b * b)) b (m * b) := by
  have hb := h.b2
  have hbb : 0 < b * b := Int.mul_pos (by omega) (by omega)
  obtain ⟨c, hc⟩ := hd
  have e : u1 / (b * b) = c := by rw [hc]; exact Int.mul_ediv_cancel_left _ (by omega)
  have hc1 : 1 ≤ c := by
    rcases Int.lt_or_le c 1 with q | q
    · have : b * b * c ≤ 0 := Int.mul_nonpos_of_nonneg_of_nonpos (by omega) (by omega)
      have := h.hu; omega
    · exact q
  rw [e]
  refine ⟨?_, ?_, ?_, hc1, hb, fun k hk1 hk2 hk3 => h.free k hk1 hk2 ?_⟩
  · have : 1 * 1 ≤ m * b := Int.mul_le_mul h.m1 (by omega) (by omega) (by have := h.m1; omega)
    omega
  · rw [h.et, Int.mul_assoc]
  · rw [← h.eu, hc]
    simp only [Int.mul_assoc, Int.mul_left_comm, Int.mul_comm]
  · rw [hc]; exact Int.dvd_mul_of_dvd_right hk3
theorem PlI.up {t u t1 u1 b m : Int} (h : PlI t u t1 u1 b m) (hd : ¬ b * b ∣ u1) : PlI t u t1 u1 (b + 1) m :=
  ⟨h.m1, h.et, h.eu, h.hu, by have := h.b2; omega, fun c h1 h2 => by
    by_cases hc : c = b
    · subst hc; exact hd
    · exact h.free c h1 (by omega)⟩
theorem PlI.done {t u t1 u1 b m : Int} (h : PlI t u t1 u1 b m) (hb : u1 < b * b) : if t1 ≠ 0 then PlainOf t u t1 u1 else PlainOf t u 0 1 := by
  have hf : ∀ c : Int, 2 ≤ c → ¬ c * c ∣ u1 := fun c h1 h2 => by
    rcases Int.lt_or_le c b with q | q
    · exact h.free c h1 q h2
    · have a1 := mul_le_self (a := b) (b := c) (by have := h.b2; omega) q
      have a2 := Int.le_of_dvd (by have := h.hu; omega) h2
      omega
  split
  · rename_i hne
    have ht : t ≠ 0 := fun e => hne (by rw [h.et, e, Int.zero_mul])
    refine ⟨?_, ?_, h.hu, h.le, hf, fun e => absurd e ht, fun _ => ⟨m, h.m1, h.et, h.eu⟩⟩
    · rw [h.et, ← h.eu]
      simp only [Int.mul_assoc, Int.mul_left_comm, Int.mul_comm]
    · rw [h.et, Int.mul_right_comm]
      exact Int.mul_nonneg (by rcases Int.le_total 0 t with q | q; (· exact Int.mul_nonneg q q); (· exact Int.mul_nonneg_of_nonpos_of_nonpos q q)) (by have := h.m1; omega)
  · rename_i hne
    have ht1 : t1 = 0 := by omega
    have ht : t = 0 := by
      have := h.et
      rw [ht1] at this
      rcases Int.mul_eq_zero.mp this.symm with q | q
      · exact q
      · have := h.m1; omega
    subst ht
    refine ⟨by simp, by simp, by omega, by have := h.le; have := h.hu; omega, fun c h1 h2 => ?_, fun _ => ⟨rfl, rfl⟩, fun z => absurd rfl z⟩
    have a1 := mul_le_self (a := 2) (b := c) (by omega) h1
    have a2 := Int.le_of_dvd (by omega) h2
    omega
theorem sem_plain_of (xs : List Vl) (q : D → Prop) (xc : DX) (h : F_plain_of xs q xc) : t_plain_of (En q xc) (dstart ["number", "times", "under", "by"] xs) := by
  unfold F_plain_of at h; split at h
  · rename_i t u
    obtain ⟨hu, hu2, h⟩ := h
    simp only [t_plain_of, dstart]
    simp
    refine while_ind (fun n ρ => ∃ t1 u1 b m : Int, ρ = [some (.d (.tuple [.int t, .int u])), some (.d (.int t1)), some (.d (.int u1)), some (.d (.int b))] ∧ PlI t u t1 u1 b m ∧ b ≤ u + 2 ∧ n = (2 * u1 - b).toNat) (fun n ρ K hI hK => ?_)
      (n := (2 * u - 2).toNat) ⟨t, u, 2, 1, rfl, ⟨by omega, by omega, by omega, hu, by omega, fun c h1 h2 => by omega⟩, by omega, rfl⟩
    obtain ⟨t1, u1, b, m, rfl, I, hb, hn⟩ := hI
    have hle := I.le
    have hb2 := I.b2
    have hbb : 0 < b * b := Int.mul_pos (by omega) (by omega)
    simp [gMul_i, gFdiv_i]
    refine ⟨cml_l (by omega) (by omega), fun hc => ⟨cml_l (by omega) (by omega), by omega, fun hd => ⟨cml_r (by omega) (by omega), cml_l (by omega) (by omega), ?_, ?_⟩, fun hd => ?_⟩, fun hc => ?_⟩
    · exact cdv_of (by omega) (by omega) (by omega)
    · rw [fmod_pos hbb] at hd
      have hdv : b * b ∣ u1 := Int.dvd_of_emod_eq_zero hd
      rw [fdiv_pos hbb]
      have N := I.next hdv
      have : u1 / (b * b) * 4 ≤ u1 := by
        have a1 : u1 / (b * b) * (b * b) ≤ u1 := Int.ediv_mul_le u1 (by omega)
        have a2 : (4 : Int) ≤ b * b := mul_le_self (a := 2) (b := b) (by omega) hb2
        have a3 : u1 / (b * b) * 4 ≤ u1 / (b * b) * (b * b) := Int.mul_le_mul_of_nonneg_left a2 (by have := N.hu; omega)
        omega
      refine hK (2 * (u1 / (b * b)) - b).toNat _ ?_ ⟨t1 * b, u1 / (b * b), b, m * b, rfl, N, hb, rfl⟩
      have := N.hu
      have : b * 2 ≤ b * b := Int.mul_le_mul_of_nonneg_left hb2 (by omega)
      omega
    · rw [fmod_pos hbb] at hd
      have hdv : ¬ b * b ∣ u1 := fun z => hd (Int.emod_eq_zero_of_dvd z)
      have : b * 2 ≤ b * b := Int.mul_le_mul_of_nonneg_left hb2 (by omega)
      exact hK (2 * u1 - (b + 1)).toNat _ (by omega) ⟨t1, u1, b + 1, m, rfl, I.up hdv, by omega, rfl⟩
    · have := I.done (by omega)
      by_cases h0 : t1 = 0
      · simp [h0] at this ⊢
        exact h _ _ this
      · simp [h0] at this ⊢
        exact h _ _ this
  · exact h.elim
/-! ### plain -/
def F_plain : Ct := fun xs q xc => match xs with
  | [.d x] => bc (isNum x) (F_plain_of [.d x] q xc) (xc "BadNumber")
  | _ => False
theorem hn_plain (xs : List Vl) (q : D → Prop) (xc : DX) (h : F_plain xs q xc) : xs.length = 1 := by
  unfold F_plain at h; split at h
  · rfl
  · exact h.elim
theorem sem_plain (xs : List Vl) (q : D → Prop) (xc : DX) (h : F_plain xs q xc) : t_plain F_need_number F_plain_of (En q xc) (dstart ["number"] xs) := by
  unfold F_plain at h; split at h
  · rename_i x
    simp [t_plain, dstart, F_need_number]
    exact h
  · exact h.elim
/-! ### root_below -/
def F_root_below : Ct := fun xs q _ => match xs with
  | [.d (.int n)] => 0 ≤ n ∧ (n + 1).natAbs.log2 < 400000 ∧ q (.int (isq n))
  | _ => False
theorem hn_root_below (xs : List Vl) (q : D → Prop) (xc : DX) (h : F_root_below xs q xc) : xs.length = 1 := by
  unfold F_root_below at h; split at h
  · rfl
  · exact h.elim
theorem sem_root_below (xs : List Vl) (q : D → Prop) (xc : DX) (h : F_root_below xs q xc) : t_root_below (En q xc) (dstart ["square", "low", "high", "middle"] xs) := by
  unfold F_root_below at h; split at h
  · rename_i n
    obtain ⟨h0, hlog, h⟩ := h
    simp only [t_root_below, dstart]
    simp
    have hbig : n < (n + 1) * (n + 1) := by
      have : (n + 1) * 1 ≤ (n + 1) * (n + 1) := Int.mul_le_mul_of_nonneg_left (by omega) (by omega)
      omega
    refine while_ind (fun k ρ => ∃ (lo hi : Int) (v : Option Vl), ρ = [some (.d (.int n)), some (.d (.int lo)), some (.d (.int hi)), v] ∧ 0 ≤ lo ∧ lo < hi ∧ hi ≤ n + 1 ∧ lo * lo ≤ n ∧ n < hi * hi ∧ k = (hi - lo).toNat) (fun k ρ K hI hK => ?_)
      (n := (n + 1).toNat) ⟨0, n + 1, none, rfl, by omega, by omega, by omega, by omega, hbig, by simp⟩
    obtain ⟨lo, hi, v, rfl, a1, a2, a3, a4, a5, hk⟩ := hI
    simp [gMul_i, gFdiv_i]
    refine ⟨fun hc => ⟨cdv_of (by omega) (by omega) (by omega), ?_⟩, fun hc => ?_⟩
    · rw [fdiv_pos (by omega)]
      have m1 : lo < (lo + hi) / 2 := by omega
      have m2 : (lo + hi) / 2 < hi := by omega
      have hlg : ((lo + hi) / 2).natAbs.log2 < 500000 := by
        have := log2_mono (a := ((lo + hi) / 2).natAbs) (b := (n + 1).natAbs) (by omega)
        omega
      refine ⟨cml_w hlg hlg, fun hm => ?_, fun hm => ?_⟩
      · exact hK (hi - (lo + hi) / 2).toNat _ (by omega) ⟨_, _, _, rfl, by omega, by omega, a3, hm, a5, rfl⟩
      · exact hK ((lo + hi) / 2 - lo).toNat _ (by omega) ⟨_, _, _, rfl, by omega, by omega, by omega, a4, by omega, rfl⟩
    · have e : hi = lo + 1 := by omega
      subst e
      rw [← isq_eq a1 a4 a5]
      exact h
  · exact h.elim
/-! ### power_of -/
def F_power_of : Ct := fun xs q _ => match xs with
  | [.d (.int n)] => -(2 ^ 62) ≤ n ∧ n < 2 ^ 62 ∧ q (.int (10 ^ n.toNat))
  | _ => False
theorem hn_power_of (xs : List Vl) (q : D → Prop) (xc : DX) (h : F_power_of xs q xc) : xs.length = 1 := by
  unfold F_power_of at h; split at h
  · rfl
  · exact h.elim
theorem rangeD_zero (lo : Int) : rangeD lo 0 = [] := rfl
theorem rangeD_succ (lo : Int) (n : Nat) : rangeD lo (n + 1) = .int lo :: rangeD (lo + 1) n := by
  unfold rangeD
  rw [List.range_succ_eq_map, List.map_cons, List.map_map]
  congr 1
  · simp
  · apply List.map_congr_left
    intro a _
    show PyData.int (lo + ((a + 1 : Nat) : Int)) = PyData.int (lo + 1 + (a : Nat))
    congr 1
    omega
theorem rangeD_len (lo : Int) (n : Nat) : (rangeD lo n).length = n := by simp [rangeD]
theorem rangeD_cons {lo : Int} {n : Nat} {d : D} {r : List D} (h : rangeD lo n = d :: r) : d = .int lo ∧ ∃ k, n = k + 1 ∧ r = rangeD (lo + 1) k := by
  cases n with
  | zero => cases h
  | succ k =>
    rw [rangeD_succ] at h
    injection h with h1 h2
    exact ⟨h1.symm, k, rfl, h2.symm⟩
theorem sem_power_of (xs : List Vl) (q : D → Prop) (xc : DX) (h : F_power_of xs q xc) : t_power_of (En q xc) (dstart ["places", "found", "turn"] xs) := by
  unfold F_power_of at h; split at h
  · rename_i n
    obtain ⟨h1, h2, h⟩ := h
    simp only [t_power_of, dstart]
    simp
    refine ⟨⟨h1, h2⟩, for_ind (fun ds ρ => ∃ (k : Nat) (lo : Int) (v : Option Vl), k ≤ n.toNat ∧ ds = rangeD lo (n.toNat - k) ∧ ρ = [some (.d (.int n)), some (.d (.int (10 ^ k))), v]) ⟨0, 0, none, by omega, by simp, by simp⟩ (fun d r ρ K hI hK => ?_) (fun ρ hI => ?_)⟩
    · obtain ⟨k, lo, v, hk, hd, rfl⟩ := hI
      obtain ⟨e1, j, ej, er⟩ := rangeD_cons hd.symm
      refine ⟨_, rfl, ?_⟩
      simp [gMul_i]
      refine ⟨cml_r (by omega) (by omega), hK _ ⟨k + 1, lo + 1, some (.d d), by omega, ?_, ?_⟩⟩
      · rw [er, show n.toNat - (k + 1) = j by omega]
      · rw [Int.pow_succ]
    · obtain ⟨k, lo, v, hk, hd, rfl⟩ := hI
      have : n.toNat - k = 0 := by
        have := congrArg List.length hd
        rw [rangeD_len] at this
        simpa using this.symm
      simp
      rw [show k = n.toNat by omega]
      exact h
  · exact h.elim
/-! ### digits_of -/
def sqF (t u : Int) (p : Nat) : Int := t * t * u * 10 ^ (2 * p)
def digF (t u : Int) (p : Nat) : Int := if 0 ≤ t then isq (sqF t u p) else if isq (sqF t u p) * isq (sqF t u p) = sqF t u p then 0 - isq (sqF t u p) else 0 - isq (sqF t u p) - 1
theorem sq_nonneg (t : Int) : 0 ≤ t * t := by
  rcases Int.le_total 0 t with q | q
  · exact Int.mul_nonneg q q
  · exact Int.mul_nonneg_of_nonpos_of_nonpos q q
theorem ten_pos (n : Nat) : (0 : Int) < 10 ^ n := Int.pow_pos (by omega)
theorem sqF_nonneg {t u : Int} {p : Nat} (h : 0 ≤ u) : 0 ≤ sqF t u p := Int.mul_nonneg (Int.mul_nonneg (sq_nonneg t) h) (Int.le_of_lt (ten_pos _))
theorem ten_log (n : Nat) : (10 ^ n : Nat) ≤ 2 ^ (4 * n) := by
  rw [Nat.pow_mul]
  exact Nat.pow_le_pow_left (by decide) n
theorem sqF_log {t u : Int} {p : Nat} (ht : t.natAbs < 2 ^ 64) (hu : u.natAbs < 2 ^ 64) : (sqF t u p + 1).natAbs.log2 ≤ 192 + 8 * p := by
  have e : (sqF t u p).natAbs = t.natAbs * t.natAbs * u.natAbs * 10 ^ (2 * p) := by
    unfold sqF
    rw [Int.natAbs_mul, Int.natAbs_mul, Int.natAbs_mul, Int.natAbs_pow]
    rfl
  have a1 : t.natAbs * t.natAbs * u.natAbs < 2 ^ 192 := by
    have b1 : t.natAbs * t.natAbs < 2 ^ 64 * 2 ^ 64 := Nat.mul_lt_mul'' ht ht
    have b2 := Nat.mul_lt_mul'' b1 hu
    have b3 : 2 ^ 64 * 2 ^ 64 * 2 ^ 64 = 2 ^ 192 := by decide
    omega
  have a2 := ten_log (2 * p)
  have a3 : t.natAbs * t.natAbs * u.natAbs * 10 ^ (2 * p) < 2 ^ 192 * 2 ^ (4 * (2 * p)) := Nat.mul_lt_mul_of_lt_of_le a1 a2 (Nat.two_pow_pos _)
  rw [← Nat.pow_add] at a3
  have a4 : (sqF t u p + 1).natAbs ≤ 2 ^ (192 + 4 * (2 * p)) := by omega
  have a5 : (sqF t u p + 1).natAbs < 2 ^ (192 + 4 * (2 * p) + 1) := by rw [Nat.pow_succ]; have := Nat.two_pow_pos (192 + 4 * (2 * p)); omega
  have := log2_lt_of a5 (by omega)
  omega
def F_digits_of : Ct := fun xs q _ => match xs with
  | [.d (.tuple [.int t, .int u]), .d (.int p)] => t.natAbs < 2 ^ 60 ∧ 1 ≤ u ∧ u < 2 ^ 60 ∧ 0 ≤ p ∧ p ≤ 10000 ∧ q (.int (digF t u p.toNat))
  | _ => False
theorem hn_digits_of (xs : List Vl) (q : D → Prop) (xc : DX) (h : F_digits_of xs q xc) : xs.length = 2 := by
  unfold F_digits_of at h; split at h
  · rfl
  · exact h.elim
theorem sem_digits_of (xs : List Vl) (q : D → Prop) (xc : DX) (h : F_digits_of xs q xc) : t_digits_of F_power_of F_root_below (En q xc) (dstart ["number", "places", "times", "under", "square", "found"] xs) := by
  unfold F_digits_of at h; split at h
  · rename_i t u p
    obtain ⟨ht, hu1, hu2, hp1, hp2, h⟩ := h
    simp only [t_digits_of, dstart]
    simp [gMul_i, F_power_of, F_root_below]
    have e : t * t * u * 10 ^ (2 * p).toNat = sqF t u p.toNat := by
      unfold sqF
      rw [show (2 * p).toNat = 2 * p.toNat by omega]
    have hs0 : 0 ≤ sqF t u p.toNat := sqF_nonneg (by omega)
    have hlg := sqF_log (t := t) (u := u) (p := p.toNat) (by omega) (by omega)
    have hl2 : (isq (sqF t u p.toNat)).natAbs.log2 < 500000 := by
      have := log2_mono (a := (isq (sqF t u p.toNat)).natAbs) (b := (sqF t u p.toNat + 1).natAbs) (by have := isq_le_self hs0; have := isq_nonneg (sqF t u p.toNat); omega)
      omega
    rw [e]
    refine ⟨cml_l (by omega) (by omega), cml_r (by omega) (by omega), cml_l (by omega) (by omega), by omega, by omega, ?_, hs0, by omega, fun hc => ?_, fun hc => ⟨cml_w hl2 hl2, fun hq => ?_, fun hq => ?_⟩⟩
    · refine .inr ?_
      show _ < _
      have a1 : (t * t * u).natAbs < 2 ^ 192 := by
        rw [Int.natAbs_mul, Int.natAbs_mul]
        have b1 : t.natAbs * t.natAbs < 2 ^ 60 * 2 ^ 60 := Nat.mul_lt_mul'' ht ht
        have b2 := Nat.mul_lt_mul'' b1 (show u.natAbs < 2 ^ 60 by omega)
        have b3 : 2 ^ 60 * 2 ^ 60 * 2 ^ 60 ≤ 2 ^ 192 := by decide
        omega
      have a2 : (10 ^ (2 * p).toNat : Int).natAbs < 2 ^ (4 * (2 * p).toNat + 1) := by
        rw [Int.natAbs_pow]
        have b1 : ((10 : Int).natAbs ^ (2 * p).toNat) ≤ 2 ^ (4 * (2 * p).toNat) := ten_log _
        exact Nat.lt_of_le_of_lt b1 (Nat.pow_lt_pow_right (by decide) (by omega))
      have := log2_lt_of a1 (by decide)
      have := log2_lt_of a2 (by omega)
      omega
    · simp [digF, hc] at h; exact h
    · simp [digF, show ¬ 0 ≤ t by omega, hq] at h; exact h
    · simp [digF, show ¬ 0 ≤ t by omega, hq] at h; exact h
  · exact h.elim
def F_digits : Ct := fun xs q xc => match xs with
  | [.d x, .d p] => bc (isNum x) (bc (isCnt p 0 30) (F_digits_of [.d x, .d p] q xc) (xc "BadNumber")) (xc "BadNumber")
  | _ => False
theorem hn_digits (xs : List Vl) (q : D → Prop) (xc : DX) (h : F_digits xs q xc) : xs.length = 2 := by
  unfold F_digits at h; split at h
  · rfl
  · exact h.elim
theorem sem_digits (xs : List Vl) (q : D → Prop) (xc : DX) (h : F_digits xs q xc) : t_digits F_need_number F_need_count F_digits_of (En q xc) (dstart ["number", "places"] xs) := by
  unfold F_digits at h; split at h
  · rename_i x p
    simp [t_digits, dstart, F_need_number, F_need_count]
    exact h
  · exact h.elim
end DL

/-! the law's own helpers -/
namespace DL
open PySem L2 LamX
/-! ### _law_drawn: some number -/
def F__law_drawn : Ct := fun xs q _ => match xs with
  | [.d (.int c), .d (.int k)] => ∀ r : Int, 0 ≤ r → r < 340282366920938463463374607431768211507 → q (.int r)
  | _ => False
theorem hn__law_drawn (xs : List Vl) (q : D → Prop) (xc : DX) (h : F__law_drawn xs q xc) : xs.length = 2 := by
  unfold F__law_drawn at h; split at h
  · rfl
  · exact h.elim
theorem cml_129 {i j : Int} (h1 : i.natAbs < 2 ^ 250) (h2 : j.natAbs < 2 ^ 250) : CMl i j := by
  have a1 := log2_lt_of h1 (by decide)
  have a2 := log2_lt_of h2 (by decide)
  exact cml_w (by omega) (by omega)
theorem sem__law_drawn (xs : List Vl) (q : D → Prop) (xc : DX) (h : F__law_drawn xs q xc) : t__law_drawn (En q xc) (dstart ["cell", "k", "more"] xs) := by
  unfold F__law_drawn at h; split at h
  · rename_i c k
    simp only [t__law_drawn, dstart]
    simp [gMul_i, gFdiv_i]
    refine ⟨cml_r (by omega) (by omega), cml_r (by omega) (by omega), ?_⟩
    rw [fmod_pos (by omega)]
    generalize e1 : (c * 6364136223846793005 + (k + 1) * 1442695040888963407) % 340282366920938463463374607431768211507 = m1
    have b1 : 0 ≤ m1 ∧ m1 < 340282366920938463463374607431768211507 := by omega
    refine ⟨cml_129 (by omega) (by omega), ?_⟩
    rw [fmod_pos (by omega)]
    generalize e2 : m1 * m1 = m2
    generalize e3 : m2 % 340282366920938463463374607431768211297 = m3
    have b3 : 0 ≤ m3 ∧ m3 < 340282366920938463463374607431768211297 := by omega
    refine ⟨cdv_of (by omega) (by omega) (by omega), ?_⟩
    rw [fmod_pos (by omega), fdiv_pos (by omega)]
    have b4 : 0 ≤ m3 % 18446744073709551557 + 1 ∧ m3 % 18446744073709551557 + 1 < 2 ^ 64 := by omega
    have b5 : 0 ≤ m3 / 18446744073709551557 + 1 ∧ m3 / 18446744073709551557 + 1 < 2 ^ 65 := by omega
    refine ⟨cml_l (by omega) (by omega), ?_, ?_⟩
    · refine cml_129 ?_ (by omega)
      rw [Int.natAbs_mul]
      have : (m3 % 18446744073709551557 + 1).natAbs * (m3 / 18446744073709551557 + 1).natAbs < 2 ^ 64 * 2 ^ 65 := Nat.mul_lt_mul'' (by omega) (by omega)
      omega
    · rw [fmod_pos (by omega)]
      exact h _ (by omega) (by omega)
  · exact h.elim
/-! ### _law_cell: some number -/
def F__law_cell : Ct := fun xs q _ => match xs with
  | [.s ns, .d (.int k)] => 0 ≤ k ∧ k < 2 ^ 60 ∧ ns.length < 2 ^ 60 ∧ ∀ r : Int, q (.int r)
  | _ => False
theorem hn__law_cell (xs : List Vl) (q : D → Prop) (xc : DX) (h : F__law_cell xs q xc) : xs.length = 2 := by
  unfold F__law_cell at h; split at h
  · rfl
  · exact h.elim
theorem okD_ints (ns : List Int) : okD 40 (.list (ns.map .int)) = true := by
  show (ns.map PyData.int).all (okD 39) = true
  simp [List.all_map]
  intro _ _
  rfl
theorem atI_in {α : Type} {xs : List α} {i : Int} (h0 : 0 ≤ i) (h1 : i < xs.length) : ∃ v, v ∈ xs ∧ L2.atI xs i = some v := by
  have hl : i.toNat < xs.length := by omega
  refine ⟨xs[i.toNat], List.getElem_mem hl, ?_⟩
  have := L2.atI_nat (xs := xs) (j := i.toNat) (v := xs[i.toNat]) (List.getElem?_eq_getElem hl)
  rwa [Int.toNat_of_nonneg h0] at this
theorem sem__law_cell (xs : List Vl) (q : D → Prop) (xc : DX) (h : F__law_cell xs q xc) : t__law_cell (En q xc) (dstart ["script", "k"] xs) := by
  unfold F__law_cell at h; split at h
  · rename_i ns k
    obtain ⟨h1, h2, hl, h⟩ := h
    simp only [t__law_cell, dstart]
    simp
    rw [gEq_of (by exact okD_ints ns) rfl]
    cases ns with
    | nil =>
      simp [Vl.all, gMul_i]
      exact ⟨cml_l (by omega) (by omega), h _⟩
    | cons a r =>
      simp [Vl.all]
      have hp : (0 : Int) < (r.length : Int) + 1 := by omega
      rw [fmod_pos hp]
      have hl2 : (r.length : Int) + 1 = ((a :: r).length : Nat) := by simp
      obtain ⟨v, _, hv⟩ := atI_in (xs := a :: r) (i := k % ((r.length : Int) + 1)) (Int.emod_nonneg _ (by omega)) (by have := Int.emod_lt_of_pos k hp; omega)
      rw [gIx_scr hv]
      simp only [List.length_cons] at hl
      simp [gMul_i, gFdiv_i]
      refine ⟨cdv_of (by omega) (by omega) (by omega), ?_, h _⟩
      exact cml_r (by omega) (by omega)
  · exact h.elim
/-! ### _law_row: some row -/
def numD (p : Int × Int) : D := .tuple [.int p.1, .int p.2]
def NumOk (p : Int × Int) : Prop := -99 ≤ p.1 ∧ p.1 ≤ 99 ∧ 1 ≤ p.2 ∧ p.2 ≤ 99
def F__law_row : Ct := fun xs q _ => match xs with
  | [.d (.int m), .d (.int k)] => 1 ≤ k ∧ k ≤ 1000 ∧ ∀ rs : List (Int × Int), 1 ≤ rs.length → rs.length ≤ k → (∀ p ∈ rs, NumOk p) → q (.list (rs.map numD))
  | _ => False
theorem hn__law_row (xs : List Vl) (q : D → Prop) (xc : DX) (h : F__law_row xs q xc) : xs.length = 2 := by
  unfold F__law_row at h; split at h
  · rfl
  · exact h.elim
theorem gLst_all {xs : List Vl} {ds : List D} {Q : Vl → Prop} (e : allD xs = some ds) (hl : ds.length ≤ 1000) (h : Q (.d (.list ds))) : gLst xs Q := by
  rw [gLst_of e]; exact ⟨few hl, h⟩
/-- one of a list of numbers -/
theorem gIx_ints {ns : List Int} {i : Int} {Q : Vl → Prop} (h0 : 0 ≤ i) (h1 : i < ns.length) (h : ∀ v ∈ ns, Q (.d (.int v))) : gIx (.d (.list (ns.map .int))) (.d (.int i)) Q := by
  obtain ⟨v, hv, e⟩ := atI_in (xs := ns) h0 h1
  rw [gIx_list (v := .int v) (by rw [atI_map, e]; rfl)]
  exact h v hv
theorem pw20 {Q : Vl → Prop} : gPow (.d (.int 2)) (.d (.int 20)) Q = Q (.d (.int 1048576)) := by
  rw [s_gPow, show (CPow 2 20) = True from eq_true ⟨by omega, by omega, by decide⟩, true_and]
  rfl
theorem sem__law_row (xs : List Vl) (q : D → Prop) (xc : DX) (h : F__law_row xs q xc) : t__law_row F__law_drawn (En q xc) (dstart ["more", "most", "found", "j", "here", "under", "times"] xs) := by
  unfold F__law_row at h; split at h
  · rename_i m k
    obtain ⟨h1, h2, h⟩ := h
    simp only [t__law_row, dstart]
    simp
    refine ⟨by omega, ?_⟩
    rw [fmod_pos (by omega)]
    have hm0 := Int.emod_nonneg m (b := k) (by omega)
    have hm1 := Int.emod_lt_of_pos m (b := k) (by omega)
    refine ⟨⟨by omega, by omega⟩, for_ind (fun ds ρ => ∃ (rs : List (Int × Int)) (lo : Int) (v w x y : Option Vl), ds = rangeD lo ((1 + m % k).toNat - rs.length) ∧ rs.length ≤ (1 + m % k).toNat ∧ (∀ p ∈ rs, NumOk p) ∧ ρ = [some (.d (.int m)), some (.d (.int k)), some (.o (.list (rs.map numD))), v, w, x, y]) ⟨[], 0, none, none, none, none, by simp, by simp, by simp, by simp⟩ (fun d r ρ K hI hK => ?_) (fun ρ hI => ?_)⟩
    · obtain ⟨rs, lo, v, w, x, y, hd, hlen, hok, rfl⟩ := hI
      obtain ⟨e1, j, ej, er⟩ := rangeD_cons hd.symm
      subst e1
      refine ⟨_, rfl, ?_⟩
      refine ⟨rfl, fun hh hh0 hh1 => ?_⟩
      simp only [s_gSet, s_dSeq, s_dSet, s_dOp, s_dLst, s_dCons, s_dC, s_dNil, s_dVar]
      simp only [List.set_cons_succ, List.set_cons_zero, List.getElem?_cons_zero, List.getElem?_cons_succ, s_gVar, pw20, gFdiv_i]
      simp [-s_gPow]
      refine ⟨cdv_of (by omega) (by omega) (by omega), ?_⟩
      rw [fdiv_pos (by omega), fmod_pos (by omega), fmod_pos (by omega)]
      refine gLst_all rfl (by simp) ?_
      refine gIx_ints (ns := [1, 2, 8, 1, 3, 12, 27, 2, 5, 50, 99, 1 + hh / 1048576 % 99]) (by omega) (by simp; omega) (fun un hun => ?_)
      have hun2 : 1 ≤ un ∧ un ≤ 99 := by
        have z1 := Int.emod_nonneg (hh / 1048576) (b := 99) (by omega)
        have z2 := Int.emod_lt_of_pos (hh / 1048576) (b := 99) (by omega)
        generalize hh / 1048576 % 99 = z at hun z1 z2
        clear hh0 hh1 hK ej hd
        simp at hun
        omega
      simp [gFdiv_i]
      rw [fdiv_pos (i := hh) (j := 64) (by omega), fdiv_pos (i := hh) (j := 16) (by omega), fmod_pos (j := 9) (by omega), fmod_pos (j := 199) (by omega), fmod_pos (j := 3) (by omega), fmod_pos (j := 3) (by omega)]
      refine ⟨cdv_of (by omega) (by omega) (by omega), cdv_of (by omega) (by omega) (by omega), ?_⟩
      refine gIx_ints (ns := [hh / 64 % 9 - 4, hh / 64 % 199 - 99, 1 + hh / 64 % 3]) (by omega) (by simp; omega) (fun ti hti => ?_)
      have hti2 : -99 ≤ ti ∧ ti ≤ 99 := by
        generalize hh / 64 = z at hti
        clear hh0 hh1 hK ej hd
        simp at hti
        omega
      simp
      refine ⟨fewer (m := 1000) (by omega), hK _ ⟨rs ++ [(ti, un)], lo + 1, some (.d (.int lo)), some (.d (.int hh)), some (.d (.int un)), some (.d (.int ti)), ?_, ?_, ?_, ?_⟩⟩
      · rw [er, List.length_append]; congr 1; simp; omega
      · simp; omega
      · intro p hp
        rcases List.mem_append.mp hp with hp | hp
        · exact hok p hp
        · simp at hp; subst hp; exact ⟨hti2.1, hti2.2, hun2.1, hun2.2⟩
      · simp [numD]
    · obtain ⟨rs, lo, v, w, x, y, hd, hlen, hok, rfl⟩ := hI
      have := congrArg List.length hd
      rw [rangeD_len] at this
      simp at this
      simp
      exact h rs (by omega) (by omega) hok
  · exact h.elim
/-! ### _law_ten, _law_root, _law_spans -/
def F__law_ten : Ct := fun xs q _ => match xs with
  | [.d (.int p)] => 0 ≤ p ∧ p ≤ 630 ∧ q (.int (10 ^ p.toNat))
  | _ => False
theorem hn__law_ten (xs : List Vl) (q : D → Prop) (xc : DX) (h : F__law_ten xs q xc) : xs.length = 1 := by
  unfold F__law_ten at h; split at h
  · rfl
  · exact h.elim
theorem one_len : ("1" : Str).length = 1 := by decide +kernel
theorem nought_len : ("0" : Str).length = 1 := by decide +kernel
theorem sRep_len (n : Nat) : (sRep "0" n).length = n := by
  have := ten_len n
  have e : (("1" : Str) ++ sRep "0" n).length = ("1" : Str).length + (sRep "0" n).length := by
    show (("1" : Str).cps ++ (sRep "0" n).cps).size = _
    rw [Array.size_append]; rfl
  rw [e, one_len] at this
  omega
theorem sem__law_ten (xs : List Vl) (q : D → Prop) (xc : DX) (h : F__law_ten xs q xc) : t__law_ten (En q xc) (dstart ["places"] xs) := by
  unfold F__law_ten at h; split at h
  · rename_i p
    obtain ⟨h1, h2, h⟩ := h
    simp only [t__law_ten, dstart]
    simp
    refine ⟨⟨by rw [nought_len]; exact Nat.le_refl _, by omega, by omega, by rw [nought_len]; exact few (m := 1000) (by omega)⟩, by rw [one_len, sRep_len]; exact few (m := 1000) (by omega), ?_⟩
    refine gIntS_of (ten_text (by omega)) (by rw [ten_len]; omega) ?_
    simpa using h
  · exact h.elim
def F__law_root : Ct := fun xs q _ => match xs with
  | [.d (.int n)] => 0 ≤ n ∧ (∃ e : Nat, n < 10 ^ e ∧ e ≤ 620) ∧ q (.int (isq n))
  | _ => False
theorem hn__law_root (xs : List Vl) (q : D → Prop) (xc : DX) (h : F__law_root xs q xc) : xs.length = 1 := by
  unfold F__law_root at h; split at h
  · rfl
  · exact h.elim
theorem isq_small {n : Int} (h0 : 0 ≤ n) (h : n < 2) : isq n = n := by
  rcases (show n = 0 ∨ n = 1 by omega) with rfl | rfl
  · exact isq_eq (by omega) (by decide) (by decide)
  · exact isq_eq (by omega) (by decide) (by decide)
theorem ten_log3 (k : Nat) : (10 ^ (3 * k) : Nat) ≤ 2 ^ (10 * k) := by
  rw [Nat.pow_mul, Nat.pow_mul]
  exact Nat.pow_le_pow_left (by decide) k
theorem ten_log4 {e : Nat} (h : e ≤ 3 * k) : (10 ^ e : Nat) ≤ 2 ^ (10 * k) := Nat.le_trans (Nat.pow_le_pow_right (by decide) h) (ten_log3 k)
theorem ten_cast (e : Nat) : ((10 ^ e : Nat) : Int) = 10 ^ e := by simp
theorem sem__law_root (xs : List Vl) (q : D → Prop) (xc : DX) (h : F__law_root xs q xc) : t__law_root (En q xc) (dstart ["square", "found", "other"] xs) := by
  unfold F__law_root at h; split at h
  · rename_i n
    obtain ⟨h0, ⟨ex, hb, hex⟩, h⟩ := h
    simp only [t__law_root, dstart]
    simp
    refine ⟨fun hc => ?_, fun hc => ?_⟩
    · rw [isq_small h0 hc] at h
      exact h
    · have hn : n.natAbs < 10 ^ ex := by
        have := ten_cast ex
        omega
      have hlog : n.natAbs < 10 ^ 4300 := Nat.lt_of_lt_of_le hn (Nat.pow_le_pow_right (by decide) (by omega))
      have hlen : (Str.ofString n.repr).length = (TL.numL n.toNat).length := len_str h0
      have hL1 : (TL.numL n.toNat).length ≤ ex + 1 := TL.numL_len (by omega) (by
        have : 10 ^ ex ≤ 10 ^ (ex + 1) := Nat.pow_le_pow_right (by decide) (by omega)
        omega)
      have hbig := numL_big n.toNat
      generalize (TL.numL n.toNat).length = L at hlen hL1 hbig
      rw [hlen]
      simp [gFdiv_i]
      refine ⟨hlog, few (m := 1000) (by omega), cdv_of (by omega) (by omega) (by omega), ?_⟩
      rw [fdiv_pos (by omega)]
      have hj : (((L : Int) + 1) / 2).toNat ≤ 311 := by omega
      have hj2 : L ≤ 2 * (((L : Int) + 1) / 2).toNat := by omega
      refine ⟨⟨by rw [nought_len]; exact Nat.le_refl _, by omega, by omega, by rw [nought_len]; exact few (m := 1000) (by omega)⟩, by rw [one_len, sRep_len]; exact few (m := 1000) (by omega), ?_⟩
      generalize (((L : Int) + 1) / 2).toNat = j at hj hj2
      refine gIntS_of (ten_text (n := j) (by omega)) (by rw [ten_len]; omega) ?_
      rw [ten_cast]
      have f1 : (1 : Int) ≤ 10 ^ j := by have := ten_pos j; omega
      have fr : isq n ≤ 10 ^ j := by
        have a1 := isq_le h0
        have a2 : n < 10 ^ j * 10 ^ j := by
          rw [← Int.pow_add]
          have b1 : (10 : Nat) ^ L ≤ 10 ^ (j + j) := Nat.pow_le_pow_right (by decide) (by omega)
          have b2 := ten_cast (j + j)
          omega
        have := lt_of_sq (a := isq n) (b := 10 ^ j) (by omega) (by omega)
        omega
      have fl : ∀ f : Int, 1 ≤ f → f ≤ 10 ^ j → CDv n f := fun f g1 g2 => ⟨by omega, by
        have b2 := ten_cast j
        have b3 := ten_log j
        have := log2_lt_of (n := f.natAbs) (k := 4 * j + 1) (by rw [Nat.pow_succ]; omega) (by omega)
        omega⟩
      have r1 : 1 ≤ isq n := le_isq (by omega) (by omega)
      simp [gFdiv_i]
      refine ⟨fl _ f1 (Int.le_refl _), cdv_of (by omega) (by omega) (by omega), ?_⟩
      rw [fdiv_pos (by omega), fdiv_pos (by omega)]
      refine while_ind (fun k ρ => ∃ f : Int, ρ = [some (.d (.int n)), some (.d (.int f)), some (.d (.int ((f + n / f) / 2)))] ∧ 1 ≤ f ∧ f ≤ 10 ^ j ∧ isq n ≤ f ∧ k = f.toNat) (fun k ρ K hI hK => ?_) (n := (10 ^ j : Int).toNat) ⟨10 ^ j, rfl, f1, Int.le_refl _, fr, rfl⟩
      obtain ⟨f, rfl, g1, g2, g3, hk⟩ := hI
      have ng := newton_ge h0 g1
      simp [gFdiv_i]
      refine ⟨fun hlt => ⟨fl _ (by omega) (by omega), cdv_of (by omega) (by omega) (by omega), ?_⟩, fun hge => ?_⟩
      · rw [fdiv_pos (by omega), fdiv_pos (by omega)]
        exact hK _ _ (by omega) ⟨(f + n / f) / 2, rfl, by omega, by omega, ng, rfl⟩
      · rw [newton_end h0 g1 g3 (by omega)] at h
        exact h
  · exact h.elim
/-- the two whole numbers about a root -/
def spanF (t u : Int) (p : Nat) : Int × Int :=
  let r := isq (sqF t u p)
  let hi := if r * r = sqF t u p then r else r + 1
  if 0 ≤ t then (r, hi) else (0 - hi, 0 - r)
def F__law_spans : Ct := fun xs q _ => match xs with
  | [.d (.tuple [.int t, .int u]), .d (.int p)] => t.natAbs ≤ 100000 ∧ 1 ≤ u ∧ u ≤ 100000 ∧ 0 ≤ p ∧ p ≤ 300 ∧ q (numD (spanF t u p.toNat))
  | _ => False
theorem hn__law_spans (xs : List Vl) (q : D → Prop) (xc : DX) (h : F__law_spans xs q xc) : xs.length = 2 := by
  unfold F__law_spans at h; split at h
  · rfl
  · exact h.elim
theorem sq_small {t u : Int} (ht : t.natAbs ≤ 100000) (hu1 : 1 ≤ u) (hu2 : u ≤ 100000) : 0 ≤ t * t ∧ t * t ≤ 10000000000 ∧ 0 ≤ t * t * u ∧ t * t * u ≤ 1000000000000000 := by
  have a0 := sq_nonneg t
  have a1 : t * t ≤ 100000 * 100000 := by
    rcases Int.le_total 0 t with q | q
    · exact mul_le_self q (by omega)
    · rw [show t * t = (-t) * (-t) from (Int.neg_mul_neg t t).symm]
      exact mul_le_self (by omega) (by omega)
  have a2 : t * t * u ≤ 10000000000 * 100000 := Int.mul_le_mul (by omega) hu2 (by omega) (by omega)
  have a3 : 0 ≤ t * t * u := Int.mul_nonneg a0 (by omega)
  exact ⟨a0, by omega, a3, by omega⟩
theorem sqF_lt {t u : Int} {p : Nat} (ht : t.natAbs ≤ 100000) (hu1 : 1 ≤ u) (hu2 : u ≤ 100000) : sqF t u p < 10 ^ (16 + 2 * p) := by
  obtain ⟨_, _, a3, a4⟩ := sq_small ht hu1 hu2
  unfold sqF
  rw [Int.pow_add]
  exact Int.mul_lt_mul_of_pos_right (by omega) (ten_pos _)
theorem sem__law_spans (xs : List Vl) (q : D → Prop) (xc : DX) (h : F__law_spans xs q xc) : t__law_spans F__law_ten F__law_root (En q xc) (dstart ["number", "places", "times", "under", "square", "root", "low", "high"] xs) := by
  unfold F__law_spans at h; split at h
  · rename_i t u p
    obtain ⟨ht, hu1, hu2, hp1, hp2, h⟩ := h
    simp only [t__law_spans, dstart]
    simp [gMul_i, F__law_ten, F__law_root]
    have e : t * t * u * 10 ^ (2 * p).toNat = sqF t u p.toNat := by
      unfold sqF
      rw [show (2 * p).toNat = 2 * p.toNat by omega]
    have hs0 : 0 ≤ sqF t u p.toNat := sqF_nonneg (by omega)
    have hlt := sqF_lt (p := p.toNat) ht hu1 hu2
    obtain ⟨z1, z2, z3, z4⟩ := sq_small ht hu1 hu2
    have hl2 : (isq (sqF t u p.toNat)).natAbs.log2 < 500000 := by
      have hlg := sqF_log (t := t) (u := u) (p := p.toNat) (by omega) (by omega)
      have := log2_mono (a := (isq (sqF t u p.toNat)).natAbs) (b := (sqF t u p.toNat + 1).natAbs) (by have := isq_le_self hs0; have := isq_nonneg (sqF t u p.toNat); omega)
      omega
    rw [e]
    refine ⟨cml_l (by omega) (by omega), cml_l (by omega) (by omega), cml_l (by omega) (by omega), by omega, by omega, cml_l (by omega) (by omega), hs0, ⟨_, hlt, by omega⟩, cml_w hl2 hl2, fun hq => ⟨fun hc => ?_, fun hc => ?_⟩, fun hq => ⟨fun hc => ?_, fun hc => ?_⟩⟩
    · simpa [spanF, numD, hq, hc] using h
    · simpa [spanF, numD, hq, show ¬ 0 ≤ t by omega] using h
    · simpa [spanF, numD, hq, hc] using h
    · simpa [spanF, numD, hq, show ¬ 0 ≤ t by omega] using h
  · exact h.elim
end DL

/-! Plain sums: all rows of whole numbers of a size. -/
namespace DL
open PySem L2
def aI (f : Int) : Int := if f < 0 then -f else f
theorem aI_nonneg (f : Int) : 0 ≤ aI f := by unfold aI; split <;> omega
def upI (lo : Int) (n : Nat) : List Int := (List.range n).map fun i => lo + (i : Nat)
theorem upI_D (lo : Int) (n : Nat) : rangeD lo n = (upI lo n).map .int := by
  unfold rangeD upI
  rw [List.map_map]
  rfl
theorem mem_upI {lo : Int} {n : Nat} {x : Int} : x ∈ upI lo n ↔ lo ≤ x ∧ x < lo + n := by
  unfold upI
  rw [List.mem_map]
  refine ⟨fun ⟨i, hi, e⟩ => ?_, fun h => ⟨(x - lo).toNat, ?_, ?_⟩⟩
  · have := List.mem_range.mp hi; omega
  · exact List.mem_range.mpr (by omega)
  · omega
theorem upI_len (lo : Int) (n : Nat) : (upI lo n).length = n := by simp [upI]
theorem upI_succ (lo : Int) (n : Nat) : upI lo (n + 1) = lo :: upI (lo + 1) n := by
  unfold upI
  rw [List.range_succ_eq_map, List.map_cons, List.map_map]
  congr 1
  · simp
  · apply List.map_congr_left
    intro a _
    show lo + ((a + 1 : Nat) : Int) = lo + 1 + (a : Nat)
    omega
/-- -s .. s -/
def symR (s : Int) : List Int := upI (0 - s) (s + 1 - (0 - s)).toNat
theorem mem_symR {s x : Int} (hs : 0 ≤ s) : x ∈ symR s ↔ aI x ≤ s := by
  unfold symR
  rw [mem_upI]
  unfold aI
  split <;> omega
def ofSz : Nat → Int → List (List Int)
  | 0, _ => []
  | 1, s => if s = 0 then [[0]] else [[0 - s], [s]]
  | n + 2, s => (symR s).flatMap fun f => (ofSz (n + 1) (s - aI f)).map (f :: ·)
def lawSz : Nat → Int → List (List Int)
  | 0, s => if s = 0 then [[]] else []
  | n + 1, s => (symR s).flatMap fun f => (lawSz n (s - aI f)).map (f :: ·)
theorem flat_len {α β : Type} {g : α → List β} {b : Nat} : ∀ (xs : List α), (∀ x ∈ xs, (g x).length ≤ b) → (xs.flatMap g).length ≤ xs.length * b
  | [], _ => by simp
  | x :: xs, h => by
    rw [List.flatMap_cons, List.length_append, List.length_cons, Nat.succ_mul]
    have h1 := h x List.mem_cons_self
    have h2 := flat_len xs fun y hy => h y (List.mem_cons_of_mem _ hy)
    omega
theorem symR_len {s : Int} (h : 0 ≤ s) : (symR s).length = 2 * s.toNat + 1 := by
  unfold symR; rw [upI_len]; omega
theorem lawSz_len : ∀ (n : Nat) (s : Int), 0 ≤ s → (lawSz n s).length ≤ (2 * s.toNat + 1) ^ n
  | 0, s, _ => by unfold lawSz; split <;> simp
  | n + 1, s, h => by
    unfold lawSz
    have := flat_len (g := fun f => (lawSz n (s - aI f)).map (f :: ·)) (b := (2 * s.toNat + 1) ^ n) (symR s) (fun f hf => by
      rw [List.length_map]
      have hf := (mem_symR h).mp hf
      have h0 := aI_nonneg f
      exact Nat.le_trans (lawSz_len n _ (by omega)) (Nat.pow_le_pow_left (by omega) n))
    rw [symR_len h] at this
    rw [Nat.pow_succ, Nat.mul_comm]
    exact this
theorem flat_one {g : Int → List (List Int)} : ∀ (n : Nat) (lo s : Int), 0 ≤ s → g = (fun f => if s - aI f = 0 then [[f]] else []) →
    (upI lo n).flatMap g = (if lo ≤ -s ∧ -s < lo + n then [[-s]] else []) ++ (if s ≠ 0 ∧ lo ≤ s ∧ s < lo + n then [[s]] else [])
  | 0, lo, s, h, e => by
    rw [if_neg (by omega), if_neg (by omega)]
    rfl
  | n + 1, lo, s, h, e => by
    rw [upI_succ, List.flatMap_cons, flat_one n (lo + 1) s h e]
    have eg : g lo = if s - aI lo = 0 then [[lo]] else [] := by rw [e]
    rw [eg]
    have ea : s - aI lo = 0 ↔ (lo = s ∨ lo = -s) := by unfold aI; split <;> omega
    by_cases h1 : lo = -s
    · by_cases h0 : s = 0
      · subst h0
        rw [if_pos (ea.mpr (.inr h1)), if_neg (by omega), if_neg (by omega), if_pos (by omega), if_neg (by omega), h1]; rfl
      · rw [if_pos (ea.mpr (.inr h1)), if_neg (by omega), if_pos (by omega : lo ≤ -s ∧ -s < lo + ((n + 1 : Nat) : Int)), h1]
        by_cases h2 : s < -s + 1 + n
        · rw [if_pos (by omega), if_pos (by omega)]; rfl
        · rw [if_neg (by omega), if_neg (by omega)]; rfl
    · by_cases h2 : lo = s
      · rw [if_pos (ea.mpr (.inl h2)), if_neg (by omega), if_neg (by omega), if_neg (by omega), if_pos (by omega), h2]; rfl
      · rw [if_neg (fun z => (ea.mp z).elim h2 h1), List.nil_append]
        congr 1
        · by_cases h3 : lo + 1 ≤ -s ∧ -s < lo + 1 + (n : Int)
          · rw [if_pos h3, if_pos (by omega)]
          · rw [if_neg h3, if_neg (by omega)]
        · by_cases h3 : s ≠ 0 ∧ lo + 1 ≤ s ∧ s < lo + 1 + (n : Int)
          · rw [if_pos h3, if_pos (by omega)]
          · rw [if_neg h3, if_neg (by omega)]
theorem flat_congr {α β : Type} {g g' : α → List β} : ∀ (xs : List α), (∀ x ∈ xs, g x = g' x) → xs.flatMap g = xs.flatMap g'
  | [], _ => rfl
  | x :: xs, h => by rw [List.flatMap_cons, List.flatMap_cons, h x List.mem_cons_self, flat_congr xs fun y hy => h y (List.mem_cons_of_mem _ hy)]
theorem ofSz_law : ∀ (n : Nat) (s : Int), 0 ≤ s → ofSz (n + 1) s = lawSz (n + 1) s
  | 0, s, h => by
    have e : lawSz 1 s = (symR s).flatMap fun f => if s - aI f = 0 then [[f]] else [] := by
      show (symR s).flatMap (fun f => (lawSz 0 (s - aI f)).map (f :: ·)) = _
      congr 1
      funext f
      unfold lawSz
      split <;> rfl
    rw [e]
    unfold symR
    rw [flat_one _ _ s h rfl]
    unfold ofSz
    by_cases h0 : s = 0
    · subst h0; simp
    · rw [if_neg h0, if_pos (by omega), if_pos (by omega)]
      simp
  | n + 1, s, h => by
    show (symR s).flatMap (fun f => (ofSz (n + 1) (s - aI f)).map (f :: ·)) = (symR s).flatMap (fun f => (lawSz (n + 1) (s - aI f)).map (f :: ·))
    refine flat_congr _ fun f hf => ?_
    rw [ofSz_law n _ (by have := (mem_symR h).mp hf; omega)]
theorem lawSz_row : ∀ {n : Nat} {s : Int} {t : List Int}, 0 ≤ s → t ∈ lawSz n s → t.length = n ∧ ∀ x ∈ t, aI x ≤ s
  | 0, s, t, h, ht => by
    unfold lawSz at ht
    split at ht
    · simp at ht; subst ht; simp
    · simp at ht
  | n + 1, s, t, h, ht => by
    obtain ⟨f, hf, ht⟩ := List.mem_flatMap.mp (show t ∈ (symR s).flatMap (fun f => (lawSz n (s - aI f)).map (f :: ·)) from ht)
    obtain ⟨r, hr, rfl⟩ := List.mem_map.mp ht
    have hf := (mem_symR h).mp hf
    have h0 := aI_nonneg f
    obtain ⟨h1, h2⟩ := lawSz_row (by omega) hr
    refine ⟨by simp [h1], fun x hx => ?_⟩
    rcases List.mem_cons.mp hx with rfl | hx
    · exact hf
    · have := h2 x hx; omega
end DL

/-! of_size, begins_above, the law's own listing. -/
namespace DL
open PySem L2 LamX
theorem few24 {n m : Nat} (h : n ≤ m) (hm : m ≤ 16777216 := by decide) : n ≤ sizeLine := by
  rw [sizeLine_eq]; omega
def iP (p : Int → Bool) : D → Bool
  | .int i => p i
  | _ => false
theorem filt_ints (p : Int → Bool) (ts : List Int) : (ts.map PyData.int).filter (iP p) = (ts.filter p).map .int := by
  rw [List.filter_map]
  rfl
def lP (p : List Int → Bool) : D → Bool
  | .list ds => match ints? ds with
    | some ns => p ns
    | none => false
  | _ => false
theorem lP_tD (p : List Int → Bool) (t : List Int) : lP p (tD t) = p t := by
  show (match ints? (t.map PyData.int) with | some ns => p ns | none => false) = _
  rw [ints?_map]
theorem filt_tts (p : List Int → Bool) (rs : List (List Int)) : (rs.map tD).filter (lP p) = (rs.filter p).map tD := by
  rw [List.filter_map]
  congr 1
  apply List.filter_congr
  intro t _
  exact lP_tD p t
/-- a comprehension over a list of lists, tested -/
theorem lc_tts {ρ : DSt} {i : Nat} {tc : DT} {te : DE} {p : List Int → Bool} {rs : List (List Int)} {k : List D → Prop} (hl : rs.length ≤ sizeLine) (h1 : ∀ t ∈ rs, ∀ k : Bool → Prop, k (p t) → tc noX (ρ.set i (some (.d (tD t)))) k)
    (h : ∀ t ∈ rs, ∀ Q : Vl → Prop, Q (.d (tD t)) → te noX (ρ.set i (some (.d (tD t)))) Q) (hk : k ((rs.filter p).map tD)) : lcL (.nm i) tc te ρ (rs.map tD) [] k := by
  refine lc_nmF (p := lP p) (f := fun d => d) (by rw [List.length_map]; exact hl) (fun d hd k hk => ?_) (fun d hd _ Q hQ => ?_) ?_
  · obtain ⟨t, ht, rfl⟩ := List.mem_map.mp hd
    rw [lP_tD] at hk
    exact h1 t ht k hk
  · obtain ⟨t, ht, rfl⟩ := List.mem_map.mp hd
    exact h t ht Q hQ
  · rw [filt_tts, List.map_id']
    exact hk
theorem lc_ints {ρ : DSt} {i : Nat} {tc : DT} {te : DE} {p : Int → Bool} {ts : List Int} {k : List D → Prop} (hl : ts.length ≤ sizeLine) (h1 : ∀ t ∈ ts, ∀ k : Bool → Prop, k (p t) → tc noX (ρ.set i (some (.d (.int t)))) k)
    (h : ∀ t ∈ ts, ∀ Q : Vl → Prop, Q (.d (.int t)) → te noX (ρ.set i (some (.d (.int t)))) Q) (hk : k ((ts.filter p).map .int)) : lcL (.nm i) tc te ρ (ts.map .int) [] k := by
  refine lc_nmF (p := iP p) (f := fun d => d) (by rw [List.length_map]; exact hl) (fun d hd k hk => ?_) (fun d hd _ Q hQ => ?_) ?_
  · obtain ⟨t, ht, rfl⟩ := List.mem_map.mp hd
    exact h1 t ht k hk
  · obtain ⟨t, ht, rfl⟩ := List.mem_map.mp hd
    exact h t ht Q hQ
  · rw [filt_ints, List.map_id']
    exact hk
/-! ### of_size -/
def Fr_of_size (d : Nat) : Ct := fun xs q _ => match xs with
  | [.d (.int m), .d (.int s)] => 1 ≤ m ∧ m ≤ d ∧ m ≤ 5 ∧ 0 ≤ s ∧ s ≤ 8 ∧ q (ttD (ofSz m.toNat s))
  | _ => False
def F_of_size : Ct := fun xs q xc => ∃ n, n ≤ 8 ∧ Fr_of_size n xs q xc
theorem hr_of_size (d : Nat) (xs : List Vl) (q : D → Prop) (xc : DX) (h : Fr_of_size d xs q xc) : xs.length = 2 := by
  unfold Fr_of_size at h; split at h
  · rfl
  · exact h.elim
theorem hn_of_size (xs : List Vl) (q : D → Prop) (xc : DX) (h : F_of_size xs q xc) : xs.length = 2 := by
  obtain ⟨n, _, h⟩ := h
  exact hr_of_size n xs q xc h
theorem h0_of_size (xs : List Vl) (q : D → Prop) (xc : DX) : ¬ Fr_of_size 0 xs q xc := fun h => by
  unfold Fr_of_size at h; split at h
  · have h1 := h.1
    have h2 := h.2.1
    omega
  · exact h.elim
theorem ofSz_len {n : Nat} {s : Int} (hn : 1 ≤ n) (h5 : n ≤ 5) (h0 : 0 ≤ s) (h8 : s ≤ 8) : (ofSz n s).length ≤ 1419857 := by
  obtain ⟨k, rfl⟩ : ∃ k, n = k + 1 := ⟨n - 1, by omega⟩
  rw [ofSz_law k s h0]
  have := lawSz_len (k + 1) s h0
  have a1 : (2 * s.toNat + 1) ^ (k + 1) ≤ 17 ^ (k + 1) := Nat.pow_le_pow_left (by omega) _
  have a2 : 17 ^ (k + 1) ≤ 17 ^ 5 := Nat.pow_le_pow_right (by decide) h5
  have a3 : 17 ^ 5 = 1419857 := by decide
  omega
theorem pre_len {α β : Type} {g : α → List β} {xs pre post : List α} {x : α} (e : xs = pre ++ x :: post) : (pre.flatMap g).length + (g x).length ≤ (xs.flatMap g).length := by
  rw [e, List.flatMap_append, List.length_append, List.flatMap_cons, List.length_append]
  omega
theorem sem_of_size (d : Nat) (xs : List Vl) (q : D → Prop) (xc : DX) (h : Fr_of_size (d + 1) xs q xc) : t_of_size (Fr_of_size d) (En q xc) (dstart ["many", "size", "found", "first", "rest"] xs) := by
  unfold Fr_of_size at h; split at h
  · rename_i m s
    obtain ⟨h1, h2, h5, h0, h8, h⟩ := h
    simp only [t_of_size, dstart]
    simp
    refine ⟨fun hm => ?_, fun hm => ?_⟩
    · subst hm
      refine ⟨fun hs => ?_, fun hs => ?_⟩
      · subst hs; exact h
      · have e : ofSz (1 : Int).toNat s = [[0 - s], [s]] := by
          show (if s = 0 then [[0]] else [[0 - s], [s]]) = _
          rw [if_neg hs]
        rw [e] at h
        simpa [ttD, tD] using h
    · obtain ⟨k, hk⟩ : ∃ k : Nat, m.toNat = k + 2 := ⟨m.toNat - 2, by omega⟩
      have hlen := ofSz_len (n := m.toNat) (s := s) (by omega) (by omega) h0 h8
      have eo : ofSz m.toNat s = (symR s).flatMap fun f => (ofSz (k + 1) (s - aI f)).map (f :: ·) := by rw [hk]; rfl
      rw [eo] at h hlen
      refine ⟨⟨by omega, by omega, by omega, by omega⟩, ?_⟩
      rw [upI_D]
      refine for_ind (fun ds ρ => ∃ (pre post : List Int) (v : Option Vl), symR s = pre ++ post ∧ ds = post.map .int ∧ ρ = [some (.d (.int m)), some (.d (.int s)), some (.o (.list ((pre.flatMap fun f => (ofSz (k + 1) (s - aI f)).map (f :: ·)).map tD))), v, none])
        ⟨[], symR s, none, rfl, by simp [symR], rfl⟩ (fun x r ρ K hI hK => ?_) (fun ρ hI => ?_)
      · obtain ⟨pre, post, v, e1, e2, rfl⟩ := hI
        obtain ⟨f, post2, rfl, rfl, rfl⟩ : ∃ f p2, post = f :: p2 ∧ x = .int f ∧ r = p2.map .int := by
          cases post with
          | nil => cases e2
          | cons f p2 => injection e2 with z1 z2; exact ⟨f, p2, rfl, z1, z2⟩
        have hf := (mem_symR h0).mp (show f ∈ symR s by rw [e1]; simp)
        have hf0 := aI_nonneg f
        have hpl := pre_len (g := fun f => (ofSz (k + 1) (s - aI f)).map (f :: ·)) e1
        rw [List.length_map] at hpl
        have fin := fun W (hW : (pre.flatMap fun f => (ofSz (k + 1) (s - aI f)).map (f :: ·)) = W) => hK [some (.d (.int m)), some (.d (.int s)), some (.o (.list ((W ++ (ofSz (k + 1) (s - aI f)).map (f :: ·)).map tD))), some (.d (.int f)), none] ⟨pre ++ [f], post2, some (.d (.int f)), by rw [e1]; simp, rfl, by rw [← hW]; simp⟩
        generalize hW : (pre.flatMap fun f => (ofSz (k + 1) (s - aI f)).map (f :: ·)) = W at hpl
        have fin := fin W hW
        refine ⟨_, rfl, ?_⟩
        simp only [s_dExt, List.set_cons_succ, List.set_cons_zero, List.getElem?_cons_zero, List.getElem?_cons_succ, s_ownLo, s_dLc, s_dWalk, s_dCall, s_dCons, s_dNil, s_dOp, s_dVar, s_gVar, s_dC, s_gSub, s_dCB, s_gAbs]
        have e3 : ofSz (m - 1).toNat (s - if f < 0 then -f else f) = ofSz (k + 1) (s - aI f) := by
          rw [show (m - 1).toNat = k + 1 by omega]
          rfl
        refine ⟨rfl, rfl, by omega, by omega, by omega, (by show 0 ≤ s - aI f; omega), (by show s - aI f ≤ 8; omega), ?_⟩
        rw [e3]
        show lcL _ _ _ _ ((ofSz (k + 1) (s - aI f)).map tD) [] _
        refine lc_nm (f := fun d => match d with | .list ds => .list (.int f :: ds) | _ => d) (by rw [List.length_map]; exact few24 (m := 1419857) (by omega)) (fun d hd Q hQ => ?_) ?_
        · obtain ⟨t, ht, rfl⟩ := List.mem_map.mp hd
          have htl := (lawSz_row (n := k + 1) (s := s - aI f) (by omega) (by rw [← ofSz_law k _ (by omega)]; exact ht)).1
          simp [wipeD, tD] at hQ ⊢
          exact ⟨few24 (m := 1000) (by omega), hQ⟩
        · have e4 : ((ofSz (k + 1) (s - aI f)).map tD).map (fun d => match d with | .list ds => .list (.int f :: ds) | _ => d) = ((ofSz (k + 1) (s - aI f)).map (f :: ·)).map tD := by
            rw [List.map_map, List.map_map]
            rfl
          rw [e4]
          refine ⟨few24 (m := 1419857) (by rw [List.length_map, List.length_map, List.length_map]; omega), ?_⟩
          rw [← List.map_append]
          exact fin
      · obtain ⟨pre, post, v, e1, e2, rfl⟩ := hI
        have : post = [] := by cases post with | nil => rfl | cons a b => cases e2
        subst this
        rw [List.append_nil] at e1
        rw [e1] at h
        exact h
  · exact h.elim
end DL

/-! _law_rows, begins_above, _law_above. -/
namespace DL
open PySem L2 LamX
def Fr__law_rows (d : Nat) : Ct := fun xs q _ => match xs with
  | [.d (.int m), .d (.int s)] => 0 ≤ m ∧ m + 1 ≤ d ∧ m ≤ 5 ∧ 0 ≤ s ∧ s ≤ 8 ∧ q (ttD (lawSz m.toNat s))
  | _ => False
def F__law_rows : Ct := fun xs q xc => ∃ n, n ≤ 8 ∧ Fr__law_rows n xs q xc
theorem hr__law_rows (d : Nat) (xs : List Vl) (q : D → Prop) (xc : DX) (h : Fr__law_rows d xs q xc) : xs.length = 2 := by
  unfold Fr__law_rows at h; split at h
  · rfl
  · exact h.elim
theorem hn__law_rows (xs : List Vl) (q : D → Prop) (xc : DX) (h : F__law_rows xs q xc) : xs.length = 2 := by
  obtain ⟨n, _, h⟩ := h
  exact hr__law_rows n xs q xc h
theorem h0__law_rows (xs : List Vl) (q : D → Prop) (xc : DX) : ¬ Fr__law_rows 0 xs q xc := fun h => by
  unfold Fr__law_rows at h; split at h
  · have h1 := h.1
    have h2 := h.2.1
    omega
  · exact h.elim
theorem lawSz_len5 {n : Nat} {s : Int} (h5 : n ≤ 5) (h0 : 0 ≤ s) (h8 : s ≤ 8) : (lawSz n s).length ≤ 1419857 := by
  have := lawSz_len n s h0
  have a1 : (2 * s.toNat + 1) ^ n ≤ 17 ^ n := Nat.pow_le_pow_left (by omega) _
  have a2 : 17 ^ n ≤ 17 ^ 5 := Nat.pow_le_pow_right (by decide) h5
  have a3 : 17 ^ 5 = 1419857 := by decide
  omega
theorem sem__law_rows (d : Nat) (xs : List Vl) (q : D → Prop) (xc : DX) (h : Fr__law_rows (d + 1) xs q xc) : t__law_rows (Fr__law_rows d) (En q xc) (dstart ["many", "size", "found", "first", "rest"] xs) := by
  unfold Fr__law_rows at h; split at h
  · rename_i m s
    obtain ⟨h1, h2, h5, h0, h8, h⟩ := h
    simp only [t__law_rows, dstart]
    simp
    refine ⟨fun hm => ?_, fun hm => ?_⟩
    · subst hm
      refine ⟨fun hs => ?_, fun hs => ?_⟩
      · subst hs; exact h
      · have e : lawSz (0 : Int).toNat s = [] := by
          show (if s = 0 then [[]] else []) = _
          rw [if_neg hs]
        rw [e] at h
        exact h
    · obtain ⟨k, hk⟩ : ∃ k : Nat, m.toNat = k + 1 := ⟨m.toNat - 1, by omega⟩
      have hlen := lawSz_len5 (n := m.toNat) (s := s) (by omega) h0 h8
      have eo : lawSz m.toNat s = (symR s).flatMap fun f => (lawSz k (s - aI f)).map (f :: ·) := by rw [hk]; rfl
      rw [eo] at h hlen
      refine ⟨⟨by omega, by omega, by omega, by omega⟩, ?_⟩
      rw [upI_D]
      refine for_ind (fun ds ρ => ∃ (pre post : List Int) (v : Option Vl), symR s = pre ++ post ∧ ds = post.map .int ∧ ρ = [some (.d (.int m)), some (.d (.int s)), some (.o (.list ((pre.flatMap fun f => (lawSz k (s - aI f)).map (f :: ·)).map tD))), v, none])
        ⟨[], symR s, none, rfl, by simp [symR], rfl⟩ (fun x r ρ K hI hK => ?_) (fun ρ hI => ?_)
      · obtain ⟨pre, post, v, e1, e2, rfl⟩ := hI
        obtain ⟨f, post2, rfl, rfl, rfl⟩ : ∃ f p2, post = f :: p2 ∧ x = .int f ∧ r = p2.map .int := by
          cases post with
          | nil => cases e2
          | cons f p2 => injection e2 with z1 z2; exact ⟨f, p2, rfl, z1, z2⟩
        have hf := (mem_symR h0).mp (show f ∈ symR s by rw [e1]; simp)
        have hf0 := aI_nonneg f
        have hpl := pre_len (g := fun f => (lawSz k (s - aI f)).map (f :: ·)) e1
        rw [List.length_map] at hpl
        have fin := fun W (hW : (pre.flatMap fun f => (lawSz k (s - aI f)).map (f :: ·)) = W) => hK [some (.d (.int m)), some (.d (.int s)), some (.o (.list ((W ++ (lawSz k (s - aI f)).map (f :: ·)).map tD))), some (.d (.int f)), none] ⟨pre ++ [f], post2, some (.d (.int f)), by rw [e1]; simp, rfl, by rw [← hW]; simp⟩
        generalize hW : (pre.flatMap fun f => (lawSz k (s - aI f)).map (f :: ·)) = W at hpl
        have fin := fin W hW
        refine ⟨_, rfl, ?_⟩
        simp only [s_dExt, List.set_cons_succ, List.set_cons_zero, List.getElem?_cons_zero, List.getElem?_cons_succ, s_ownLo, s_dLc, s_dWalk, s_dCall, s_dCons, s_dNil, s_dOp, s_dVar, s_gVar, s_dC, s_gSub, s_dCB, s_gAbs]
        have e3 : lawSz (m - 1).toNat (s - if f < 0 then -f else f) = lawSz k (s - aI f) := by
          rw [show (m - 1).toNat = k by omega]
          rfl
        refine ⟨rfl, rfl, by omega, by omega, by omega, (by show 0 ≤ s - aI f; omega), (by show s - aI f ≤ 8; omega), ?_⟩
        rw [e3]
        show lcL _ _ _ _ ((lawSz k (s - aI f)).map tD) [] _
        refine lc_nm (f := fun d => match d with | .list ds => .list (.int f :: ds) | _ => d) (by rw [List.length_map]; exact few24 (m := 1419857) (by omega)) (fun d hd Q hQ => ?_) ?_
        · obtain ⟨t, ht, rfl⟩ := List.mem_map.mp hd
          have htl := (lawSz_row (n := k) (s := s - aI f) (by omega) ht).1
          simp [wipeD, tD] at hQ ⊢
          exact ⟨few24 (m := 1000) (by omega), hQ⟩
        · have e4 : ((lawSz k (s - aI f)).map tD).map (fun d => match d with | .list ds => .list (.int f :: ds) | _ => d) = ((lawSz k (s - aI f)).map (f :: ·)).map tD := by
            rw [List.map_map, List.map_map]
            rfl
          rw [e4]
          refine ⟨few24 (m := 1419857) (by rw [List.length_map, List.length_map, List.length_map]; omega), ?_⟩
          rw [← List.map_append]
          exact fin
      · obtain ⟨pre, post, v, e1, e2, rfl⟩ := hI
        have : post = [] := by cases post with | nil => rfl | cons a b => cases e2
        subst this
        rw [List.append_nil] at e1
        rw [e1] at h
        exact h
  · exact h.elim
/-! ### the first that is not nought -/
def begB (ts : List Int) : Bool := match ts.filter (fun x => !decide (x = 0)) with
  | [] => false
  | x :: _ => decide (0 < x)
def tsOf (x : D) : Option (List Int) := match x with
  | .list ds => ints? ds
  | _ => none
theorem tsOf_tD (t : List Int) : tsOf (tD t) = some t := ints?_map t
theorem ints?_eq : ∀ {ds : List D} {ns : List Int}, ints? ds = some ns → ds = ns.map .int
  | [], _, e => by cases e; rfl
  | .int i :: r, ns, e => by
    have e : (match ints? r with | some xs => some (i :: xs) | none => none) = some ns := e
    cases q : ints? r with
    | none => rw [q] at e; cases e
    | some r' => rw [q] at e; cases e; rw [List.map_cons, ints?_eq q]
  | .none :: r, ns, e => by cases e
  | .bool _ :: r, ns, e => by cases e
  | .str _ :: r, ns, e => by cases e
  | .list _ :: r, ns, e => by cases e
  | .tuple _ :: r, ns, e => by cases e
  | .dict _ :: r, ns, e => by cases e
theorem tsOf_eq {x : D} {t : List Int} (h : tsOf x = some t) : x = tD t := by
  unfold tsOf at h
  split at h
  · rw [ints?_eq h]; rfl
  · cases h
def F_begins_above : Ct := fun xs q _ => match xs with
  | [.d x] => ∃ ts, tsOf x = some ts ∧ ts.length ≤ 1000 ∧ q (.bool (begB ts))
  | _ => False
theorem hn_begins_above (xs : List Vl) (q : D → Prop) (xc : DX) (h : F_begins_above xs q xc) : xs.length = 1 := by
  unfold F_begins_above at h; split at h
  · rfl
  · exact h.elim
theorem sem_begins_above (xs : List Vl) (q : D → Prop) (xc : DX) (h : F_begins_above xs q xc) : t_begins_above (En q xc) (dstart ["times", "some", "one"] xs) := by
  unfold F_begins_above at h; split at h
  · obtain ⟨ts, e, hl, h⟩ := h
    cases tsOf_eq e
    simp only [t_begins_above, dstart]
    simp [tD]
    refine ⟨rfl, lc_ints (p := fun x => !decide (x = 0)) (few hl) (fun t _ k hk => ?_) (fun t _ Q hQ => ?_) ?_⟩
    · simpa [wipeD] using hk
    · simpa [wipeD] using hQ
    · show gNe (.d (tD (ts.filter (fun x => !decide (x = 0))))) (.d (.list [])) _
      rw [gNe_of (x := .d (tD (ts.filter (fun x => !decide (x = 0))))) (y := .d (.list [])) (okD_tD 38 _) rfl]
      unfold begB at h
      cases q : ts.filter (fun x => !decide (x = 0)) with
      | nil =>
        rw [q] at h
        simpa [Vl.all, tD] using h
      | cons x r =>
        rw [q] at h
        simpa [Vl.all, tD] using h
  · exact h.elim
def F__law_above : Ct := F_begins_above
theorem hn__law_above (xs : List Vl) (q : D → Prop) (xc : DX) (h : F__law_above xs q xc) : xs.length = 1 := hn_begins_above xs q xc h
theorem cut1 {α : Type} (xs : List α) : cutD xs none (some 1) = xs.take 1 := by
  unfold cutD
  simp [HT.sIx]
theorem dl_nil : PySem.W.dataLt (.list [.int 0]) (.list []) = false := by decide +kernel
theorem dl_one (x : Int) : PySem.W.dataLt (.list [.int 0]) (.list [.int x]) = decide (0 < x) := by
  rw [PySem.W.dataLt_list, PySem.W.dataLt_cons rfl, eqv_int, PySem.W.dataLt_int]
  by_cases h : 0 = x
  · subst h
    simp [PySem.W.keyToksAll]
    decide +kernel
  · simp [h]
theorem sem__law_above (xs : List Vl) (q : D → Prop) (xc : DX) (h : F__law_above xs q xc) : t__law_above (En q xc) (dstart ["times", "one"] xs) := by
  unfold F__law_above F_begins_above at h; split at h
  · obtain ⟨ts, e, hl, h⟩ := h
    cases tsOf_eq e
    simp only [t__law_above, dstart]
    simp [tD]
    refine ⟨rfl, lc_ints (p := fun x => !decide (x = 0)) (few hl) (fun t _ k hk => ?_) (fun t _ Q hQ => ?_) ?_⟩
    · simpa [wipeD] using hk
    · simpa [wipeD] using hQ
    · rw [cut1]
      unfold begB at h
      cases q : ts.filter (fun x => !decide (x = 0)) with
      | nil =>
        rw [q] at h
        refine ⟨rfl, rfl, rfl, (by intro z; cases z), ?_⟩
        show gRet _ _
        simp only [Vl.all, List.map_nil, List.take_nil]
        rw [dl_nil]
        exact h
      | cons x r =>
        rw [q] at h
        refine ⟨rfl, rfl, rfl, (by intro z; cases z), ?_⟩
        show gRet _ _
        simp only [Vl.all, List.map_cons, List.take_succ_cons, List.take_zero]
        rw [dl_one]
        exact h
  · exact h.elim
end DL

/-! plain numbers by the law's own, parts. -/
namespace DL
open PySem L2 LamX
def mSqN (u : Nat) : Nat := if u % 81 = 0 then 9 else if u % 64 = 0 then 8 else if u % 49 = 0 then 7 else if u % 36 = 0 then 6 else if u % 25 = 0 then 5 else if u % 16 = 0 then 4 else if u % 9 = 0 then 3 else if u % 4 = 0 then 2 else 1
theorem mSq_max : ∀ u : Fin 100, 1 ≤ u.1 → ∀ m : Fin 10, 1 ≤ m.1 → u.1 % (m.1 * m.1) = 0 → (∀ y : Fin 10, 1 ≤ y.1 → u.1 % (y.1 * y.1) = 0 → y.1 ≤ m.1) → m.1 = mSqN u.1 := by decide +kernel
theorem mSq_free : ∀ u : Fin 100, 1 ≤ u.1 → ∀ m : Fin 10, 1 ≤ m.1 → u.1 % (m.1 * m.1) = 0 → (∀ y : Fin 10, 2 ≤ y.1 → ¬ u.1 / (m.1 * m.1) % (y.1 * y.1) = 0) → m.1 = mSqN u.1 := by decide +kernel
def mSq (u : Int) : Int := (mSqN u.toNat : Nat)
def plF (p : Int × Int) : Int × Int := if p.1 = 0 then (0, 1) else (p.1 * mSq p.2, p.2 / (mSq p.2 * mSq p.2))
theorem mSq_le (u : Nat) : 1 ≤ mSqN u ∧ mSqN u ≤ 9 := by
  unfold mSqN
  constructor
  · (repeat' split) <;> omega
  · (repeat' split) <;> omega
theorem mSq_bound (u : Int) : 1 ≤ mSq u ∧ mSq u ≤ 9 := by
  have := mSq_le u.toNat
  unfold mSq
  omega
theorem sq_small9 {m u : Int} (h1 : 1 ≤ m) (hu : u ≤ 99) (h : m * m ≤ u) : m ≤ 9 := by
  rcases Int.lt_or_le 9 m with q | q
  · have := mul_le_self (a := 10) (b := m) (by omega) (by omega); omega
  · exact q
theorem plF_plain {t u t' u' : Int} (hu1 : 1 ≤ u) (hu : u ≤ 99) (h : PlainOf t u t' u') : (t', u') = plF (t, u) := by
  unfold plF
  by_cases h0 : t = 0
  · rw [if_pos h0, (h.zero h0).1, (h.zero h0).2]
  · rw [if_neg h0]
    obtain ⟨m, h1, h2, h3⟩ := h.nz h0
    have hp := h.pos
    have hm9 : m ≤ 9 := by
      have a2 : 1 * (m * m) ≤ u' * (m * m) := Int.mul_le_mul_of_nonneg_right hp (sq_nonneg m)
      exact sq_small9 h1 hu (by omega)
    have hmm : 0 < m * m := Int.mul_pos (by omega) (by omega)
    have ed : u / (m * m) = u' := by rw [← h3]; exact Int.mul_ediv_cancel _ (by omega)
    have em : m = mSq u := by
      have key := mSq_free ⟨u.toNat, by omega⟩ (by show 1 ≤ u.toNat; omega) ⟨m.toNat, by omega⟩ (by show 1 ≤ m.toNat; omega)
      have c1 : ((u.toNat : Nat) : Int) = u := Int.toNat_of_nonneg (by omega)
      have c2 : ((m.toNat : Nat) : Int) = m := Int.toNat_of_nonneg (by omega)
      have c3 : ((u'.toNat : Nat) : Int) = u' := Int.toNat_of_nonneg (by omega)
      have c4 : u.toNat = u'.toNat * (m.toNat * m.toNat) := by
        have : ((u'.toNat * (m.toNat * m.toNat) : Nat) : Int) = u := by rw [Int.natCast_mul, Int.natCast_mul, c2, c3]; exact h3
        omega
      have hmp : 0 < m.toNat * m.toNat := Nat.mul_pos (by omega) (by omega)
      have := key (by show u.toNat % (m.toNat * m.toNat) = 0; rw [c4]; exact Nat.mul_mod_left _ _) (fun y hy hz => by
        have e1 : u.toNat / (m.toNat * m.toNat) = u'.toNat := by rw [c4]; exact Nat.mul_div_cancel _ hmp
        rw [show (⟨u.toNat, _⟩ : Fin 100).1 = u.toNat from rfl, show (⟨m.toNat, _⟩ : Fin 10).1 = m.toNat from rfl, e1] at hz
        refine h.free (y.1 : Nat) (by omega) ?_
        obtain ⟨c, hc⟩ := Nat.dvd_of_mod_eq_zero hz
        refine ⟨(c : Nat), ?_⟩
        rw [← c3, hc]
        simp)
      have this : m.toNat = mSqN u.toNat := this
      unfold mSq
      omega
    rw [← em, ← h2, ed]
def F__law_plain : Ct := fun xs q _ => match xs with
  | [.d (.tuple [.int t, .int u])] => 1 ≤ u ∧ u ≤ 99 ∧ q (numD (plF (t, u)))
  | _ => False
theorem hn__law_plain (xs : List Vl) (q : D → Prop) (xc : DX) (h : F__law_plain xs q xc) : xs.length = 1 := by
  unfold F__law_plain at h; split at h
  · rfl
  · exact h.elim
theorem sem__law_plain (xs : List Vl) (q : D → Prop) (xc : DX) (h : F__law_plain xs q xc) : t__law_plain (En q xc) (dstart ["number", "times", "under", "by", "one"] xs) := by
  unfold F__law_plain at h; split at h
  · rename_i t u
    obtain ⟨h1, h99, h⟩ := h
    simp only [t__law_plain, dstart]
    simp
    refine ⟨fun ht => ?_, fun ht => ⟨rfl, ?_⟩⟩
    · subst ht; exact h
    · rw [upI_D]
      refine lc_ints (p := fun o => decide (u % (o * o) = 0)) (by rw [upI_len]; exact few (m := 9) (by omega)) (fun o ho k hk => ?_) (fun o _ Q hQ => ?_) ?_
      · have ho := mem_upI.mp ho
        have hoo : 0 < o * o := Int.mul_pos (by omega) (by omega)
        simp [wipeD, gMul_i]
        rw [fmod_pos hoo]
        exact ⟨cml_l (by omega) (by omega), by omega, hk⟩
      · simpa [wipeD] using hQ
      · have one : (1 : Int) ∈ (upI 1 9).filter (fun o => decide (u % (o * o) = 0)) := by
          rw [List.mem_filter]
          exact ⟨mem_upI.mpr (by omega), by simp⟩
        refine gMaxL_of (List.length_pos_of_mem one) (fun m hm hmax => ?_)
        rw [List.mem_filter] at hm
        have hm1 := mem_upI.mp hm.1
        have hm2 : u % (m * m) = 0 := by simpa using hm.2
        have em : m = mSq u := by
          have c1 : ((u.toNat : Nat) : Int) = u := Int.toNat_of_nonneg (by omega)
          have c2 : ((m.toNat : Nat) : Int) = m := Int.toNat_of_nonneg (by omega)
          have := mSq_max ⟨u.toNat, by omega⟩ (by show 1 ≤ u.toNat; omega) ⟨m.toNat, by omega⟩ (by show 1 ≤ m.toNat; omega) (by
            show u.toNat % (m.toNat * m.toNat) = 0
            have : ((u.toNat % (m.toNat * m.toNat) : Nat) : Int) = 0 := by rw [Int.natCast_emod, Int.natCast_mul, c1, c2]; exact hm2
            omega) (fun y hy hz => by
            have hz : u.toNat % (y.1 * y.1) = 0 := hz
            have := hmax (y.1 : Nat) (by
              rw [List.mem_filter]
              refine ⟨mem_upI.mpr (by have := y.2; omega), ?_⟩
              have e : u % (((y.1 : Nat) : Int) * ((y.1 : Nat) : Int)) = 0 := by
                rw [← c1, ← Int.natCast_mul, ← Int.natCast_emod, hz]; rfl
              simpa using e)
            show y.1 ≤ m.toNat
            omega)
          have this : m.toNat = mSqN u.toNat := this
          unfold mSq
          omega
        have hmm : 0 < m * m := Int.mul_pos (by omega) (by omega)
        have hm81 : m * m ≤ 9 * 9 := mul_le_self (by omega) (by omega)
        simp [gMul_i, gFdiv_i]
        refine ⟨cml_r (by omega) (by omega), cml_l (by omega) (by omega), cdv_of (by omega) (by omega) (by omega), ?_⟩
        rw [fdiv_pos hmm]
        unfold plF at h
        rw [if_neg ht, ← em] at h
        exact h
  · exact h.elim
/-! ### parts -/
def foundF : List (Int × Int) → List Int → List (Int × Int) → List (Int × Int)
  | p :: row, c :: times, acc => foundF row times (putM acc (plF p).2 ((getM acc (plF p).2).getD 0 + (plF p).1 * c))
  | _, _, acc => acc
def partsOf (f : List (Int × Int)) : List (Int × Int) := ((isort (f.map (·.1))).filter (fun k => !decide ((getM f k).getD 0 = 0))).map fun k => (k, (getM f k).getD 0)
def partsL (row : List (Int × Int)) (times : List Int) : List (Int × Int) := partsOf (foundF row times [])
theorem putM_len (m : List (Int × Int)) (i v : Int) : (putM m i v).length ≤ m.length + 1 := by
  unfold putM
  split
  · rw [List.length_map]; omega
  · rw [List.length_append]; simp
theorem getI_getD (m : List (Int × Int)) (k : Int) : (getI (mD m) k).getD (.int 0) = .int ((getM m k).getD 0) := by
  rw [getI_mD]
  cases getM m k <;> rfl
theorem plF_small {p : Int × Int} (h : NumOk p) : (plF p).1.natAbs ≤ 891 := by
  obtain ⟨h1, h2, h3, h4⟩ := h
  have hb := mSq_bound p.2
  unfold plF
  split
  · decide
  · show (p.1 * mSq p.2).natAbs ≤ 891
    rw [Int.natAbs_mul]
    have := Nat.mul_le_mul (show p.1.natAbs ≤ 99 by omega) (show (mSq p.2).natAbs ≤ 9 by omega)
    omega
theorem numD_inv {rs : List (Int × Int)} {x : D} {r : List D} (e : x :: r = rs.map numD) : ∃ p rs2, rs = p :: rs2 ∧ x = numD p ∧ r = rs2.map numD := by
  cases rs with
  | nil => cases e
  | cons p rs2 => injection e with z1 z2; exact ⟨p, rs2, rfl, z1, z2⟩
theorem getM_mem : ∀ {m : List (Int × Int)} {k : Int}, k ∈ m.map (·.1) → ∃ v, getM m k = some v
  | (a, v) :: m, k, h => by
    by_cases e : a = k
    · exact ⟨v, by simp [getM, List.find?_cons, e]⟩
    · obtain ⟨w, hw⟩ := getM_mem (m := m) (k := k) (by
        rw [List.map_cons] at h
        rcases List.mem_cons.mp h with z | z
        · exact absurd z.symm e
        · exact z)
      refine ⟨w, ?_⟩
      simp only [getM, List.find?_cons, decide_eq_false e] at hw ⊢
      exact hw
def prF (f : List (Int × Int)) : D → D
  | .int j => numD (j, (getM f j).getD 0)
  | d => d
/-- what both parts defs do with what is found -/
theorem parts_comp {f : List (Int × Int)} {ρ : DSt} {k : List D → Prop} (hl : f.length < 64) (hρ : ρ[2]? = some (some (.o (.dict (mD f))))) (hk : k ((partsOf f).map numD)) (h6 : 6 < ρ.length) :
    lcL (.nm 6) (dTest (dOp gNe (dOp gGetK (dVar 2) (dVar 6)) (dC (.int 0)))) (dTup (dCons (dVar 6) (dCons (dOp gGetK (dVar 2) (dVar 6)) dNil))) ρ ((isort (f.map (·.1))).map .int) [] k := by
  have mem : ∀ d ∈ (isort (f.map (·.1))).map PyData.int, ∃ j v, d = .int j ∧ getM f j = some v := fun d hd => by
    obtain ⟨j, hj, rfl⟩ := List.mem_map.mp hd
    obtain ⟨v, hv⟩ := getM_mem ((isort_perm _).mem_iff.mp hj)
    exact ⟨j, v, rfl, hv⟩
  have at2 : ∀ d : D, (ρ.set 6 (some (.d d)))[2]? = some (some (.o (.dict (mD f)))) := fun d => by rw [List.getElem?_set_ne (by omega)]; exact hρ
  have at6 : ∀ d : D, (ρ.set 6 (some (.d d)))[6]? = some (some (.d d)) := fun d => List.getElem?_set_self h6
  refine lc_nmF (p := iP fun j => !decide ((getM f j).getD 0 = 0)) (f := prF f) ?_ (fun d hd k hk => ?_) (fun d hd _ Q hQ => ?_) ?_
  · rw [List.length_map, (isort_perm _).length_eq, List.length_map]
    exact few (m := 64) (by omega)
  · obtain ⟨j, v, rfl, hv⟩ := mem d hd
    simp only [s_dTest, s_dOp, s_dVar, at2, at6, s_gVar]
    rw [gGetK_o (v := .int v) (by rw [getI_mD, hv]; rfl)]
    simp
    simpa [iP, hv] using hk
  · obtain ⟨j, v, rfl, hv⟩ := mem d hd
    simp only [s_dTup, s_dCons, s_dOp, s_dVar, at2, at6, s_gVar, s_dNil]
    rw [gGetK_o (v := .int v) (by rw [getI_mD, hv]; rfl)]
    simp
    simpa [hv, numD, prF] using hQ
  · rw [filt_ints]
    have e : (((isort (f.map (·.1))).filter (fun j => !decide ((getM f j).getD 0 = 0))).map PyData.int).map (prF f) = (partsOf f).map numD := by
      unfold partsOf
      rw [List.map_map, List.map_map]
      rfl
    rw [e]
    exact hk
theorem foundF_len : ∀ (row : List (Int × Int)) (times : List Int) (acc : List (Int × Int)), (foundF row times acc).length ≤ acc.length + row.length
  | p :: row, c :: times, acc => by
    have h1 := foundF_len row times (putM acc (plF p).2 ((getM acc (plF p).2).getD 0 + (plF p).1 * c))
    have h2 := putM_len acc (plF p).2 ((getM acc (plF p).2).getD 0 + (plF p).1 * c)
    show (foundF row times _).length ≤ _
    rw [List.length_cons]
    omega
  | [], _, acc => by simp [foundF]
  | _ :: _, [], acc => by simp [foundF]
theorem zip_inv {rs : List (Int × Int)} {ts : List Int} {x : D} {r : List D} (e : x :: r = zipD (rs.map numD) (ts.map .int)) : ∃ p rs2 c ts2, rs = p :: rs2 ∧ ts = c :: ts2 ∧ x = .tuple [numD p, .int c] ∧ r = zipD (rs2.map numD) (ts2.map .int) := by
  cases rs with
  | nil => cases e
  | cons p rs2 =>
    cases ts with
    | nil => cases e
    | cons c ts2 => injection e with z1 z2; exact ⟨p, rs2, c, ts2, rfl, rfl, z1, z2⟩
theorem foundF_end {rs : List (Int × Int)} {ts : List Int} {acc : List (Int × Int)} (e : [] = zipD (rs.map numD) (ts.map .int)) : foundF rs ts acc = acc := by
  cases rs with
  | nil => simp [foundF]
  | cons p rs2 =>
    cases ts with
    | nil => simp [foundF]
    | cons c ts2 => cases e
def F_parts_of : Ct := fun xs q _ => match xs with
  | [.d (.list ds), .d x] => ∃ rs ts, ds = rs.map numD ∧ (∀ p ∈ rs, NumOk p) ∧ rs.length ≤ 50 ∧ tsOf x = some ts ∧ q (.dict (mergeI [] ((partsL rs ts).map fun p => (p.1, .int p.2))))
  | _ => False
theorem hn_parts_of (xs : List Vl) (q : D → Prop) (xc : DX) (h : F_parts_of xs q xc) : xs.length = 2 := by
  unfold F_parts_of at h; split at h
  · rfl
  · exact h.elim
theorem pairsI_num : ∀ ps : List (Int × Int), pairsI (ps.map numD) = some (ps.map fun p => (p.1, .int p.2))
  | [] => rfl
  | p :: ps => by
    show (pairsI (ps.map numD)).map ((p.1, PyData.int p.2) :: ·) = _
    rw [pairsI_num ps]
    rfl
theorem sem_parts_of (xs : List Vl) (q : D → Prop) (xc : DX) (h : F_parts_of xs q xc) : t_parts_of F_plain_of (En q xc) (dstart ["row", "times", "found", "number", "many", "own", "under"] xs) := by
  unfold F_parts_of at h; split at h
  · obtain ⟨rs, ts, rfl, hok, hl, e, h⟩ := h
    cases tsOf_eq e
    simp only [t_parts_of, dstart]
    simp [tD]
    refine for_ind (fun es ρ => ∃ (rs2 : List (Int × Int)) (ts2 : List Int) (acc : List (Int × Int)) (v1 v2 v3 v4 : Option Vl), es = zipD (rs2.map numD) (ts2.map .int) ∧ foundF rs ts [] = foundF rs2 ts2 acc ∧ acc.length + rs2.length ≤ 50 ∧ (∀ p ∈ rs2, NumOk p) ∧ ((∀ w, v4 ≠ some (.o w)) ∧ (∀ w es, v4 ≠ some (.n w es)) ∧ ∀ C g st, v4 ≠ some (.q C g st)) ∧ ρ = [some (.d (.list (rs.map numD))), some (.d (tD ts)), some (.o (.dict (mD acc))), v1, v2, v3, v4])
      ⟨rs, ts, [], none, none, none, none, rfl, rfl, by simpa using hl, hok, by simp, rfl⟩ (fun x r ρ K hI hK => ?_) (fun ρ hI => ?_)
    · obtain ⟨rs2, ts2, acc, v1, v2, v3, v4, e1, e2, e3, e4, _, rfl⟩ := hI
      obtain ⟨⟨t, u⟩, rs3, c, ts3, rfl, rfl, rfl, rfl⟩ := zip_inv e1
      have hp := e4 _ List.mem_cons_self
      have hs := plF_small hp
      obtain ⟨n1, n2, n3, n4⟩ := hp
      dsimp only at n1 n2 n3 n4
      refine ⟨_, rfl, ?_⟩
      rw [List.length_cons] at e3
      simp [F_plain_of, numD]
      refine ⟨n3, by omega, fun t' u' P => ?_⟩
      have ep := plF_plain n3 n4 P
      have e5 : (plF (t, u)).1 = t' := by rw [← ep]
      have e6 : (plF (t, u)).2 = u' := by rw [← ep]
      rw [e5] at hs
      simp [gMul_i]
      rw [getI_getD]
      simp
      refine ⟨cml_l (by omega) (by omega), ?_, ?_⟩
      · unfold mD; rw [List.length_map]; exact fewer (m := 100) (by omega)
      · rw [putI_mD]
        have := putM_len acc u' ((getM acc u').getD 0 + t' * c)
        refine hK _ ⟨rs3, ts3, putM acc u' ((getM acc u').getD 0 + t' * c), some (.d (.tuple [.int t, .int u])), some (.d (.int c)), some (.d (.int t')), some (.d (.int u')), rfl, ?_, by omega, fun p hp => e4 p (List.mem_cons_of_mem _ hp), by simp, rfl⟩
        rw [e2]
        show foundF rs3 ts3 _ = _
        rw [e5, e6]
    · obtain ⟨rs2, ts2, acc, v1, v2, v3, v4, e1, e2, e3, e4, hv, rfl⟩ := hI
      rw [foundF_end e1] at e2
      simp
      rw [gSortK_of (keysI_mD acc)]
      refine ⟨?_, by rw [List.length_map]; omega, ?_⟩
      · cases v4 with
        | none => rfl
        | some w => cases w with
          | d _ => rfl
          | s _ => rfl
          | o w => exact absurd rfl (hv.1 w)
          | n w es => exact absurd rfl (hv.2.1 w es)
          | q C g st => exact absurd rfl (hv.2.2 C g st)
          | r _ _ _ => rfl
      · refine parts_comp (f := acc) (by omega) rfl ?_ (show 6 < 7 by decide)
        rw [gDictE_l (pairsI_num _)]
        unfold partsL at h
        rw [e2] at h
        exact h
  · exact h.elim
def F__law_parts : Ct := fun xs q _ => match xs with
  | [.d (.list ds), .d x] => ∃ rs ts, ds = rs.map numD ∧ (∀ p ∈ rs, NumOk p) ∧ rs.length ≤ 50 ∧ tsOf x = some ts ∧ q (.list ((partsL rs ts).map numD))
  | _ => False
theorem hn__law_parts (xs : List Vl) (q : D → Prop) (xc : DX) (h : F__law_parts xs q xc) : xs.length = 2 := by
  unfold F__law_parts at h; split at h
  · rfl
  · exact h.elim
theorem sem__law_parts (xs : List Vl) (q : D → Prop) (xc : DX) (h : F__law_parts xs q xc) : t__law_parts F__law_plain (En q xc) (dstart ["row", "times", "found", "number", "many", "own", "under"] xs) := by
  unfold F__law_parts at h; split at h
  · obtain ⟨rs, ts, rfl, hok, hl, e, h⟩ := h
    cases tsOf_eq e
    simp only [t__law_parts, dstart]
    simp [tD]
    refine for_ind (fun es ρ => ∃ (rs2 : List (Int × Int)) (ts2 : List Int) (acc : List (Int × Int)) (v1 v2 v3 v4 : Option Vl), es = zipD (rs2.map numD) (ts2.map .int) ∧ foundF rs ts [] = foundF rs2 ts2 acc ∧ acc.length + rs2.length ≤ 50 ∧ (∀ p ∈ rs2, NumOk p) ∧ ((∀ w, v4 ≠ some (.o w)) ∧ (∀ w es, v4 ≠ some (.n w es)) ∧ ∀ C g st, v4 ≠ some (.q C g st)) ∧ ρ = [some (.d (.list (rs.map numD))), some (.d (tD ts)), some (.o (.dict (mD acc))), v1, v2, v3, v4])
      ⟨rs, ts, [], none, none, none, none, rfl, rfl, by simpa using hl, hok, by simp, rfl⟩ (fun x r ρ K hI hK => ?_) (fun ρ hI => ?_)
    · obtain ⟨rs2, ts2, acc, v1, v2, v3, v4, e1, e2, e3, e4, _, rfl⟩ := hI
      obtain ⟨⟨t, u⟩, rs3, c, ts3, rfl, rfl, rfl, rfl⟩ := zip_inv e1
      have hp := e4 _ List.mem_cons_self
      have hs := plF_small hp
      obtain ⟨n1, n2, n3, n4⟩ := hp
      dsimp only at n1 n2 n3 n4
      refine ⟨_, rfl, ?_⟩
      rw [List.length_cons] at e3
      simp [F__law_plain, numD]
      refine ⟨n3, n4, ?_⟩
      generalize e5 : (plF (t, u)).1 = t' at hs
      generalize e6 : (plF (t, u)).2 = u'
      simp [gMul_i]
      rw [getI_getD]
      simp
      refine ⟨cml_l (by omega) (by omega), ?_, ?_⟩
      · unfold mD; rw [List.length_map]; exact fewer (m := 100) (by omega)
      · rw [putI_mD]
        have := putM_len acc u' ((getM acc u').getD 0 + t' * c)
        refine hK _ ⟨rs3, ts3, putM acc u' ((getM acc u').getD 0 + t' * c), some (.d (.tuple [.int t, .int u])), some (.d (.int c)), some (.d (.int t')), some (.d (.int u')), rfl, ?_, by omega, fun p hp => e4 p (List.mem_cons_of_mem _ hp), by simp, rfl⟩
        rw [e2]
        show foundF rs3 ts3 _ = _
        rw [e5, e6]
    · obtain ⟨rs2, ts2, acc, v1, v2, v3, v4, e1, e2, e3, e4, hv, rfl⟩ := hI
      rw [foundF_end e1] at e2
      simp
      rw [gSortK_of (keysI_mD acc)]
      refine ⟨?_, by rw [List.length_map]; omega, ?_⟩
      · cases v4 with
        | none => rfl
        | some w => cases w with
          | d _ => rfl
          | s _ => rfl
          | o w => exact absurd rfl (hv.1 w)
          | n w es => exact absurd rfl (hv.2.1 w es)
          | q C g st => exact absurd rfl (hv.2.2 C g st)
          | r _ _ _ => rfl
      · refine parts_comp (f := acc) (by omega) rfl ?_ (show 6 < 7 by decide)
        unfold partsL at h
        rw [e2] at h
        exact h
  · exact h.elim
end DL

/-! Exacts: what the defs of exacts compute. -/
namespace DL
open PySem L2 LamX
def hasSq (u : Int) : Bool := (List.range 98).any fun i => decide (u % (((i + 2 : Nat) : Int) * ((i + 2 : Nat) : Int)) = 0)
theorem hasSq_true {u b : Int} (h1 : 2 ≤ b) (h2 : b ≤ 99) (h : u % (b * b) = 0) : hasSq u = true := by
  unfold hasSq
  rw [List.any_eq_true]
  refine ⟨(b - 2).toNat, List.mem_range.mpr (by omega), ?_⟩
  have e : (((b - 2).toNat + 2 : Nat) : Int) = b := by omega
  rw [e]
  simpa using h
theorem hasSq_false {u : Int} (h : ∀ b : Int, 2 ≤ b → b ≤ 99 → u % (b * b) ≠ 0) : hasSq u = false := by
  unfold hasSq
  rw [List.any_eq_false]
  intro i hi
  have := List.mem_range.mp hi
  simpa using h ((i + 2 : Nat) : Int) (by omega) (by omega)
def F_has_square : Ct := fun xs q _ => match xs with
  | [.d (.int u)] => 1 ≤ u ∧ u ≤ 9999 ∧ q (.bool (hasSq u))
  | _ => False
theorem hn_has_square (xs : List Vl) (q : D → Prop) (xc : DX) (h : F_has_square xs q xc) : xs.length = 1 := by
  unfold F_has_square at h; split at h
  · rfl
  · exact h.elim
theorem sem_has_square (xs : List Vl) (q : D → Prop) (xc : DX) (h : F_has_square xs q xc) : t_has_square (En q xc) (dstart ["under", "by"] xs) := by
  unfold F_has_square at h; split at h
  · rename_i u
    obtain ⟨h1, h2, h⟩ := h
    simp only [t_has_square, dstart]
    simp
    refine while_ind (fun n ρ => ∃ b : Int, ρ = [some (.d (.int u)), some (.d (.int b))] ∧ 2 ≤ b ∧ b ≤ 101 ∧ (∀ c : Int, 2 ≤ c → c < b → u % (c * c) ≠ 0) ∧ n = (101 - b).toNat) (fun n ρ K hI hK => ?_)
      (n := 99) ⟨2, rfl, by omega, by omega, fun c _ _ => by omega, by omega⟩
    obtain ⟨b, rfl, hb1, hb2, hno, hn⟩ := hI
    have hbb : 0 < b * b := Int.mul_pos (by omega) (by omega)
    simp [gMul_i]
    refine ⟨cml_l (by omega) (by omega), fun hc => ⟨cml_l (by omega) (by omega), by omega, fun hd => ?_, fun hd => ?_⟩, fun hc => ?_⟩
    · rw [fmod_pos hbb] at hd
      have hb3 : b ≤ 99 := by
        rcases Int.lt_or_le 99 b with z | z
        · have := mul_le_self (a := 100) (b := b) (by omega) (by omega)
          omega
        · exact z
      rw [hasSq_true hb1 hb3 hd] at h
      exact h
    · rw [fmod_pos hbb] at hd
      have hb3 : b ≤ 99 := by
        rcases Int.lt_or_le 99 b with z | z
        · have := mul_le_self (a := 100) (b := b) (by omega) (by omega)
          omega
        · exact z
      exact hK (101 - (b + 1)).toNat _ (by omega) ⟨b + 1, rfl, by omega, by omega, fun c c1 c2 => by
        by_cases e : c = b
        · subst e; exact hd
        · exact hno c c1 (by omega), rfl⟩
    · have e : hasSq u = false := hasSq_false fun c c1 c2 z => by
        rcases Int.lt_or_le c b with y | y
        · exact hno c c1 y z
        · have a1 := mul_le_self (a := b) (b := c) (by omega) y
          rw [Int.emod_eq_of_lt (by omega) (by omega)] at z
          omega
      rw [e] at h
      exact h
  · exact h.elim
def isPair (x : D) : Bool := match x with
  | .tuple [.int u, .int k] => isCnt (.int u) 1 9999 && isCnt (.int k) (-1000000) 1000000 && !decide (k = 0) && !hasSq u
  | _ => false
theorem isPair_inv {x : D} (h : isPair x = true) : ∃ u k : Int, x = .tuple [.int u, .int k] ∧ 1 ≤ u ∧ u ≤ 9999 ∧ -1000000 ≤ k ∧ k ≤ 1000000 ∧ k ≠ 0 ∧ hasSq u = false := by
  unfold isPair at h
  split at h
  · rename_i u k
    simp [isCnt] at h
    exact ⟨u, k, rfl, h.1.1.1.1, h.1.1.1.2, h.1.1.2.1, h.1.1.2.2, h.1.2, h.2⟩
  · cases h
def F_is_pair : Ct := fun xs q _ => match xs with
  | [.d x] => q (.bool (isPair x))
  | _ => False
theorem hn_is_pair (xs : List Vl) (q : D → Prop) (xc : DX) (h : F_is_pair xs q xc) : xs.length = 1 := by
  unfold F_is_pair at h; split at h
  · rfl
  · exact h.elim
theorem isCnt_no {x : D} {l h : Int} (e : ∀ i, x ≠ .int i) : isCnt x l h = false := by
  unfold isCnt
  split
  · rename_i i; exact absurd rfl (e i)
  · rfl
theorem sem_is_pair (xs : List Vl) (q : D → Prop) (xc : DX) (h : F_is_pair xs q xc) : t_is_pair F_is_count F_has_square (En q xc) (dstart ["thing"] xs) := by
  unfold F_is_pair at h; split at h
  · rename_i x
    simp only [t_is_pair, dstart]
    cases x
    case tuple ds =>
      match ds, h with
      | [], h => simpa [isT, isPair] using h
      | [a], h => simpa [isT, isPair] using h
      | [a, b], h =>
        simp [isT, F_is_count]
        cases e1 : isCnt a 1 9999 with
        | false =>
          have : isPair (.tuple [a, b]) = false := by
            cases hp : isPair (.tuple [a, b]) with
            | false => rfl
            | true =>
              obtain ⟨u, k, e, z1, z2, _⟩ := isPair_inv hp
              injection e with e; injection e with e3 e4
              subst e3
              simp [isCnt, z1, z2] at e1
          rw [this] at h
          simpa using h
        | true =>
          obtain ⟨u, rfl, u1, u2⟩ : ∃ u, a = .int u ∧ 1 ≤ u ∧ u ≤ 9999 := by
            unfold isCnt at e1; split at e1
            · rename_i i; simp at e1; exact ⟨i, rfl, e1.1, e1.2⟩
            · cases e1
          simp
          cases e2 : isCnt b (-1000000) 1000000 with
          | false =>
            have : isPair (.tuple [.int u, b]) = false := by
              cases hp : isPair (.tuple [.int u, b]) with
              | false => rfl
              | true =>
                obtain ⟨u', k, e, z1, z2, z3, z4, _⟩ := isPair_inv hp
                injection e with e; injection e with e3 e4; injection e4 with e4 e5
                subst e4
                simp [isCnt, z3, z4] at e2
            rw [this] at h
            simpa using h
          | true =>
            obtain ⟨k, rfl, k1, k2⟩ : ∃ u, b = .int u ∧ -1000000 ≤ u ∧ u ≤ 1000000 := by
              unfold isCnt at e2; split at e2
              · rename_i i; simp at e2; exact ⟨i, rfl, e2.1, e2.2⟩
              · cases e2
            simp [F_has_square]
            have e : isPair (.tuple [.int u, .int k]) = (!decide (k = 0) && !hasSq u) := by
              simp [isPair, e1, e2]
            rw [e] at h
            refine ⟨fun hk => ?_, fun hk => ⟨u1, u2, ?_⟩⟩
            · simpa [hk] using h
            · simpa [hk] using h
      | a :: b :: c :: r, h =>
        have e : isPair (.tuple (a :: b :: c :: r)) = false := by
          unfold isPair
          split
          · rename_i z; injection z with z; injection z with _ z; injection z with _ z; cases z
          · rfl
        rw [e] at h
        simp [isT] at h ⊢
        have : ¬ ((r.length : Int) + 1 + 1 + 1 = 2) := by omega
        simp [this]
        exact h
    all_goals simpa [isT, isPair] using h
  · exact h.elim
def keyOf : D → Int
  | .tuple (.int u :: _) => u
  | _ => 0
def asc : List D → Bool
  | a :: b :: r => decide (keyOf a < keyOf b) && asc (b :: r)
  | _ => true
def isExact (x : D) : Bool := match x with
  | .list ds => decide (ds.length ≤ 6) && ds.all isPair && asc ds
  | _ => false
def F_is_exact : Ct := fun xs q _ => match xs with
  | [.d x] => q (.bool (isExact x))
  | _ => False
theorem hn_is_exact (xs : List Vl) (q : D → Prop) (xc : DX) (h : F_is_exact xs q xc) : xs.length = 1 := by
  unfold F_is_exact at h; split at h
  · rfl
  · exact h.elim
theorem cut_init {α : Type} (xs : List α) : cutD xs none (some (-1)) = xs.dropLast := by
  unfold cutD
  simp [HT.sIx, List.dropLast_eq_take]
  congr 1
  omega
theorem cut_tail {α : Type} (xs : List α) : cutD xs (some 1) none = xs.drop 1 := by
  unfold cutD
  simp [HT.sIx]
  cases xs with
  | nil => rfl
  | cons a r => simp [show min 1 (r.length + 1) = 1 by omega]
def ltP2 : D → D
  | .tuple [a, b] => .bool (decide (keyOf a < keyOf b))
  | x => x
def ltB2 : D → Bool
  | .tuple [a, b] => decide (keyOf a < keyOf b)
  | _ => true
theorem zip_asc : ∀ ds : List D, (zipD ds.dropLast (ds.drop 1)).map ltP2 = ((zipD ds.dropLast (ds.drop 1)).map ltB2).map .bool ∧ ((zipD ds.dropLast (ds.drop 1)).map ltB2).all id = asc ds
  | [] => ⟨rfl, rfl⟩
  | [a] => ⟨rfl, rfl⟩
  | a :: b :: r => by
    obtain ⟨h1, h2⟩ := zip_asc (b :: r)
    have e : zipD (a :: b :: r).dropLast ((a :: b :: r).drop 1) = .tuple [a, b] :: zipD (b :: r).dropLast ((b :: r).drop 1) := rfl
    rw [e]
    refine ⟨by rw [List.map_cons, List.map_cons, List.map_cons, h1]; rfl, ?_⟩
    rw [List.map_cons, List.all_cons, h2]
    rfl
theorem zip_mem2 : ∀ {xs ys : List D} {x : D}, x ∈ zipD xs ys → ∃ a b, x = .tuple [a, b] ∧ a ∈ xs ∧ b ∈ ys
  | [], _, _, h => by cases h
  | _ :: _, [], _, h => by cases h
  | a :: xs, b :: ys, x, h => by
    rcases List.mem_cons.mp (show x ∈ PyData.tuple [a, b] :: zipD xs ys from h) with rfl | h
    · exact ⟨a, b, rfl, List.mem_cons_self, List.mem_cons_self⟩
    · obtain ⟨c, d, e, h1, h2⟩ := zip_mem2 h
      exact ⟨c, d, e, List.mem_cons_of_mem _ h1, List.mem_cons_of_mem _ h2⟩
theorem sem_is_exact (xs : List Vl) (q : D → Prop) (xc : DX) (h : F_is_exact xs q xc) : t_is_exact F_is_pair (En q xc) (dstart ["thing", "one", "other"] xs) := by
  unfold F_is_exact at h; split at h
  · rename_i x
    simp only [t_is_exact, dstart]
    cases x
    case list ds =>
      simp [isL]
      refine ⟨fun a1 => ?_, fun a1 => ⟨rfl, lc_nm (f := fun d => .bool (isPair d)) (few (m := 6) (by omega)) (fun d _ Q hQ => ?_) ?_⟩⟩
      · have e : isExact (.list ds) = false := by
          have : ¬ ds.length ≤ 6 := by omega
          simp [isExact, this]
        rw [e] at h
        exact h
      · simpa [F_is_pair, wipeD] using hQ
      · rw [gAll_of (bools_map ds isPair), all_map]
        have e : isExact (.list ds) = (ds.all isPair && asc ds) := by
          have : ds.length ≤ 6 := by omega
          simp [isExact, this]
        rw [e] at h
        cases hp : ds.all isPair with
        | false => rw [hp] at h; simpa using h
        | true =>
          rw [hp] at h
          simp at h ⊢
          have hpp : ∀ d ∈ ds, isPair d = true := by simpa using hp
          refine ⟨rfl, ?_⟩
          rw [cut_init, cut_tail]
          refine lc_map (p := fun _ => true) (f := ltP2) _ [] _ ?_ (fun d hd => ?_) (fun d hd _ => ?_) ?_
          · rw [zipD_len, List.length_nil, List.length_dropLast]
            exact few (m := 6) (by omega)
          · obtain ⟨a, b, rfl, _, _⟩ := zip_mem2 hd
            exact ⟨_, rfl, fun k hk => hk⟩
          · obtain ⟨a, b, rfl, ha, hb⟩ := zip_mem2 hd
            obtain ⟨u, k, rfl, _⟩ := isPair_inv (hpp a (List.dropLast_subset _ ha))
            obtain ⟨u2, k2, rfl, _⟩ := isPair_inv (hpp b (List.mem_of_mem_drop hb))
            refine ⟨_, rfl, fun Q hQ => ?_⟩
            simp [wipeD]
            exact hQ
          · obtain ⟨z1, z2⟩ := zip_asc ds
            rw [List.nil_append, List.filter_eq_self.mpr (fun _ _ => rfl), z1, gAll_of (bools?_map _), z2]
            exact h
    all_goals simpa [isL, isExact] using h
  · exact h.elim
def F_need_exact : Ct := fun xs q xc => match xs with
  | [.d x] => bc (isExact x) (q .none) (xc "BadExact")
  | _ => False
theorem hn_need_exact (xs : List Vl) (q : D → Prop) (xc : DX) (h : F_need_exact xs q xc) : xs.length = 1 := by
  unfold F_need_exact at h; split at h
  · rfl
  · exact h.elim
theorem sem_need_exact (xs : List Vl) (q : D → Prop) (xc : DX) (h : F_need_exact xs q xc) : t_need_exact F_is_exact (En q xc) (dstart ["one"] xs) := by
  unfold F_need_exact at h; split at h
  · rename_i x
    simp [t_need_exact, dstart, F_is_exact]
    exact h
  · exact h.elim
end DL

/-! Exacts added, multiplied. -/
namespace DL
open PySem L2 LamX
/-- what is made of a dict of whole numbers, wherever it stands -/
theorem dict_comp {f : List (Int × Int)} {ρ : DSt} {k : List D → Prop} {i j : Nat} {dv : Vl} (hdv : dv = .o (.dict (mD f)) ∨ dv = .d (.dict (mD f))) (hl : f.length < 64) (hρ : ρ[i]? = some (some dv)) (hij : j ≠ i) (hk : k ((partsOf f).map numD)) (hj : j < ρ.length) :
    lcL (.nm j) (dTest (dOp gNe (dOp gGetK (dVar i) (dVar j)) (dC (.int 0)))) (dTup (dCons (dVar j) (dCons (dOp gGetK (dVar i) (dVar j)) dNil))) ρ ((isort (f.map (·.1))).map .int) [] k := by
  have mem : ∀ d ∈ (isort (f.map (·.1))).map PyData.int, ∃ j v, d = .int j ∧ getM f j = some v := fun d hd => by
    obtain ⟨j, hj, rfl⟩ := List.mem_map.mp hd
    obtain ⟨v, hv⟩ := getM_mem ((isort_perm _).mem_iff.mp hj)
    exact ⟨j, v, rfl, hv⟩
  have at2 : ∀ d : D, (ρ.set j (some (.d d)))[i]? = some (some dv) := fun d => by rw [List.getElem?_set_ne hij]; exact hρ
  have at6 : ∀ d : D, (ρ.set j (some (.d d)))[j]? = some (some (.d d)) := fun d => List.getElem?_set_self hj
  have gk : ∀ {z v : Int} {Q : Vl → Prop}, getM f z = some v → gGetK dv (.d (.int z)) Q = Q (.d (.int v)) := fun hv => by
    rcases hdv with rfl | rfl
    · exact gGetK_o (v := .int _) (by rw [getI_mD, hv]; rfl)
    · exact gGetK_d (v := .int _) (by rw [getI_mD, hv]; rfl)
  refine lc_nmF (p := iP fun j => !decide ((getM f j).getD 0 = 0)) (f := prF f) ?_ (fun d hd k hk => ?_) (fun d hd _ Q hQ => ?_) ?_
  · rw [List.length_map, (isort_perm _).length_eq, List.length_map]
    exact few (m := 64) (by omega)
  · obtain ⟨j, v, rfl, hv⟩ := mem d hd
    simp only [s_dTest, s_dOp, s_dVar, at2, at6, s_gVar]
    rw [gk hv]
    simp
    simpa [iP, hv] using hk
  · obtain ⟨j, v, rfl, hv⟩ := mem d hd
    simp only [s_dTup, s_dCons, s_dOp, s_dVar, at2, at6, s_gVar, s_dNil]
    rw [gk hv]
    simp
    simpa [hv, numD, prF] using hQ
  · rw [filt_ints]
    have e : (((isort (f.map (·.1))).filter (fun j => !decide ((getM f j).getD 0 = 0))).map PyData.int).map (prF f) = (partsOf f).map numD := by
      unfold partsOf
      rw [List.map_map, List.map_map]
      rfl
    rw [e]
    exact hk
def exD (f : List (Int × Int)) : D := .list ((partsOf f).map numD)
def F_rows_told : Ct := fun xs q xc => match xs with
  | [.d (.dict es)] => ∃ m, es = mD m ∧ m.length < 64 ∧ bc (isExact (exD m)) (q (exD m)) (xc "TooGreat")
  | _ => False
theorem hn_rows_told (xs : List Vl) (q : D → Prop) (xc : DX) (h : F_rows_told xs q xc) : xs.length = 1 := by
  unfold F_rows_told at h; split at h
  · rfl
  · exact h.elim
theorem sem_rows_told (xs : List Vl) (q : D → Prop) (xc : DX) (h : F_rows_told xs q xc) : t_rows_told F_is_exact (En q xc) (dstart ["found", "rows", "under"] xs) := by
  unfold F_rows_told at h; split at h
  · obtain ⟨m, rfl, hl, h⟩ := h
    simp only [t_rows_told, dstart]
    simp
    refine ⟨rfl, ?_⟩
    rw [gSortK_of (keysI_mD m)]
    refine ⟨by rw [List.length_map]; exact hl, ?_⟩
    refine dict_comp (f := m) (.inr rfl) hl rfl (by decide) ?_ (by show 2 < 3; decide)
    simp [F_is_exact]
    exact h
  · exact h.elim
/-- the dict of a list of pairs -/
def mergeM (as : List (Int × Int)) : List (Int × Int) := as.foldl (fun m p => putM m p.1 p.2) []
theorem merge_mD (as : List (Int × Int)) : mergeI [] (as.map fun p => (p.1, PyData.int p.2)) = mD (mergeM as) := by
  have key : ∀ (as m : List (Int × Int)), mergeI (mD m) (as.map fun p => (p.1, PyData.int p.2)) = mD (as.foldl (fun m p => putM m p.1 p.2) m) := by
    intro as
    induction as with
    | nil => intro m; rfl
    | cons p as ih =>
      intro m
      show mergeI (putI (mD m) p.1 (.int p.2)) _ = _
      rw [putI_mD, ih]
      rfl
  exact key as []
theorem fold_len {f : List (Int × Int) → Int × Int → List (Int × Int)} (hf : ∀ m p, (f m p).length ≤ m.length + 1) : ∀ (as m : List (Int × Int)), (as.foldl f m).length ≤ m.length + as.length
  | [], m => by simp
  | p :: as, m => by
    have := fold_len hf as (f m p)
    have := hf m p
    rw [List.foldl_cons, List.length_cons]
    omega
theorem merge_len (as : List (Int × Int)) : (mergeM as).length ≤ as.length := by
  have := fold_len (f := fun m p => putM m p.1 p.2) (fun m p => putM_len m _ _) as []
  simpa [mergeM] using this
def totStep (s : Int) (m : List (Int × Int)) (p : Int × Int) : List (Int × Int) := putM m p.1 ((getM m p.1).getD 0 + s * p.2)
def totF (as bs : List (Int × Int)) (s : Int) : List (Int × Int) := bs.foldl (totStep s) (mergeM as)
def F_total_of : Ct := fun xs q xc => match xs with
  | [.d (.list a), .d (.list b), .d (.int s)] => ∃ as bs, a = as.map numD ∧ b = bs.map numD ∧ as.length ≤ 20 ∧ bs.length ≤ 20 ∧ s.natAbs ≤ 1000 ∧ bc (isExact (exD (totF as bs s))) (q (exD (totF as bs s))) (xc "TooGreat")
  | _ => False
theorem hn_total_of (xs : List Vl) (q : D → Prop) (xc : DX) (h : F_total_of xs q xc) : xs.length = 3 := by
  unfold F_total_of at h; split at h
  · rfl
  · exact h.elim
@[simp] theorem s_dFrzK_d (i : Nat) (t : DS) (e : DEnds) (ρ : DSt) : dFrzK i t e ρ = t e (frzK i ρ) := rfl
theorem sem_total_of (xs : List Vl) (q : D → Prop) (xc : DX) (h : F_total_of xs q xc) : t_total_of F_rows_told (En q xc) (dstart ["one", "other", "sign", "found", "under", "many"] xs) := by
  unfold F_total_of at h; split at h
  · rename_i s
    obtain ⟨as, bs, rfl, rfl, ha, hb, hs, h⟩ := h
    simp only [t_total_of, dstart]
    simp
    rw [gDictE_l (pairsI_num _), merge_mD]
    have hm := merge_len as
    refine for_ind (fun es ρ => ∃ (bs2 : List (Int × Int)) (m : List (Int × Int)) (v1 v2 : Option Vl), es = bs2.map numD ∧ totF as bs s = bs2.foldl (totStep s) m ∧ m.length + bs2.length ≤ 40 ∧ ρ = [some (.d (.list (as.map numD))), some (.d (.list (bs.map numD))), some (.d (.int s)), some (.o (.dict (mD m))), v1, v2])
      ⟨bs, mergeM as, none, none, rfl, rfl, by omega, rfl⟩ (fun x r ρ K hI hK => ?_) (fun ρ hI => ?_)
    · obtain ⟨bs2, m, v1, v2, e1, e2, e3, rfl⟩ := hI
      obtain ⟨p, bs3, rfl, rfl, rfl⟩ := numD_inv e1
      rw [List.length_cons] at e3
      refine ⟨_, rfl, ?_⟩
      simp [gMul_i, getI_getD]
      refine ⟨cml_l (by omega) (by omega), ?_, ?_⟩
      · unfold mD; rw [List.length_map]; exact fewer (m := 100) (by omega)
      · rw [putI_mD]
        have := putM_len m p.1 ((getM m p.1).getD 0 + s * p.2)
        exact hK _ ⟨bs3, putM m p.1 ((getM m p.1).getD 0 + s * p.2), _, _, rfl, e2, by omega, rfl⟩
    · obtain ⟨bs2, m, v1, v2, e1, e2, e3, rfl⟩ := hI
      have : bs2 = [] := by cases bs2 with | nil => rfl | cons a b => cases e1
      subst this
      simp [frzK, F_rows_told]
      rw [show totF as bs s = m from e2] at h
      exact ⟨m, rfl, by simp at e3; omega, h⟩
  · exact h.elim
/-- exacts as lists of pairs -/
theorem exact_inv {x : D} (h : isExact x = true) : ∃ as : List (Int × Int), x = .list (as.map numD) ∧ as.length ≤ 6 ∧ ∀ p ∈ as, 1 ≤ p.1 ∧ p.1 ≤ 9999 ∧ -1000000 ≤ p.2 ∧ p.2 ≤ 1000000 := by
  unfold isExact at h
  split at h
  · rename_i ds
    simp at h
    obtain ⟨⟨h1, h2⟩, _⟩ := h
    have key : ∀ ds : List D, (∀ d ∈ ds, isPair d = true) → ∃ as : List (Int × Int), ds = as.map numD ∧ ∀ p ∈ as, 1 ≤ p.1 ∧ p.1 ≤ 9999 ∧ -1000000 ≤ p.2 ∧ p.2 ≤ 1000000 := by
      intro ds
      induction ds with
      | nil => intro _; exact ⟨[], rfl, by simp⟩
      | cons d ds ih =>
        intro h
        obtain ⟨as, e1, e2⟩ := ih fun x hx => h x (List.mem_cons_of_mem _ hx)
        obtain ⟨u, k, rfl, a1, a2, a3, a4, _⟩ := isPair_inv (h d List.mem_cons_self)
        exact ⟨(u, k) :: as, by rw [List.map_cons, ← e1]; rfl, fun p hp => by
          rcases List.mem_cons.mp hp with rfl | hp
          · exact ⟨a1, a2, a3, a4⟩
          · exact e2 p hp⟩
    obtain ⟨as, rfl, e2⟩ := key ds h2
    exact ⟨as, rfl, by rw [List.length_map] at h1; exact h1, e2⟩
  · cases h
def prsOf : List D → List (Int × Int)
  | [] => []
  | .tuple [.int u, .int k] :: r => (u, k) :: prsOf r
  | _ :: r => prsOf r
theorem prsOf_num : ∀ as : List (Int × Int), prsOf (as.map numD) = as
  | [] => rfl
  | p :: as => by
    show (p.1, p.2) :: prsOf (as.map numD) = _
    rw [prsOf_num as]
def lstOf : D → List (Int × Int)
  | .list ds => prsOf ds
  | _ => []
def F_added : Ct := fun xs q xc => match xs with
  | [.d x, .d y] => bc (isExact x) (bc (isExact y) (bc (isExact (exD (totF (lstOf x) (lstOf y) 1))) (q (exD (totF (lstOf x) (lstOf y) 1))) (xc "TooGreat")) (xc "BadExact")) (xc "BadExact")
  | _ => False
theorem hn_added (xs : List Vl) (q : D → Prop) (xc : DX) (h : F_added xs q xc) : xs.length = 2 := by
  unfold F_added at h; split at h
  · rfl
  · exact h.elim
theorem sem_added (xs : List Vl) (q : D → Prop) (xc : DX) (h : F_added xs q xc) : t_added F_need_exact F_total_of (En q xc) (dstart ["one", "other"] xs) := by
  unfold F_added at h; split at h
  · rename_i x y
    simp [t_added, dstart, F_need_exact]
    cases hx : isExact x with
    | false => rw [hx] at h; exact h
    | true =>
      rw [hx] at h
      simp only [s_bcT] at h ⊢
      cases hy : isExact y with
      | false => rw [hy] at h; exact h
      | true =>
        rw [hy] at h
        simp only [s_bcT] at h ⊢
        obtain ⟨as, rfl, a1, _⟩ := exact_inv hx
        obtain ⟨bs, rfl, b1, _⟩ := exact_inv hy
        simp only [lstOf, prsOf_num] at h
        exact ⟨as, bs, rfl, rfl, by omega, by omega, by decide, h⟩
  · exact h.elim
def F_lessened : Ct := fun xs q xc => match xs with
  | [.d x, .d y] => bc (isExact x) (bc (isExact y) (bc (isExact (exD (totF (lstOf x) (lstOf y) (-1)))) (q (exD (totF (lstOf x) (lstOf y) (-1)))) (xc "TooGreat")) (xc "BadExact")) (xc "BadExact")
  | _ => False
theorem hn_lessened (xs : List Vl) (q : D → Prop) (xc : DX) (h : F_lessened xs q xc) : xs.length = 2 := by
  unfold F_lessened at h; split at h
  · rfl
  · exact h.elim
theorem sem_lessened (xs : List Vl) (q : D → Prop) (xc : DX) (h : F_lessened xs q xc) : t_lessened F_need_exact F_total_of (En q xc) (dstart ["one", "other"] xs) := by
  unfold F_lessened at h; split at h
  · rename_i x y
    simp [t_lessened, dstart, F_need_exact]
    cases hx : isExact x with
    | false => rw [hx] at h; exact h
    | true =>
      rw [hx] at h
      simp only [s_bcT] at h ⊢
      cases hy : isExact y with
      | false => rw [hy] at h; exact h
      | true =>
        rw [hy] at h
        simp only [s_bcT] at h ⊢
        obtain ⟨as, rfl, a1, _⟩ := exact_inv hx
        obtain ⟨bs, rfl, b1, _⟩ := exact_inv hy
        simp only [lstOf, prsOf_num] at h
        exact ⟨as, bs, rfl, rfl, by omega, by omega, by decide, h⟩
  · exact h.elim
/-! ### products -/
def gcdI (a b : Int) : Int := ((Nat.gcd a.toNat b.toNat : Nat) : Int)
def F_common : Ct := fun xs q _ => match xs with
  | [.d (.int a), .d (.int b)] => 0 ≤ a ∧ 0 ≤ b ∧ q (.int (gcdI a b))
  | _ => False
theorem hn_common (xs : List Vl) (q : D → Prop) (xc : DX) (h : F_common xs q xc) : xs.length = 2 := by
  unfold F_common at h; split at h
  · rfl
  · exact h.elim
theorem gcdI_step {a b : Int} (ha : 0 ≤ a) (hb : 0 < b) : gcdI a b = gcdI b (a % b) := by
  unfold gcdI
  have e : (a % b).toNat = a.toNat % b.toNat := by
    obtain ⟨m, rfl⟩ := Int.eq_ofNat_of_zero_le ha
    obtain ⟨n, rfl⟩ := Int.eq_ofNat_of_zero_le (Int.le_of_lt hb)
    rfl
  rw [e, Nat.gcd_comm b.toNat, ← Nat.gcd_rec, Nat.gcd_comm]
theorem sem_common (xs : List Vl) (q : D → Prop) (xc : DX) (h : F_common xs q xc) : t_common (En q xc) (dstart ["one", "other"] xs) := by
  unfold F_common at h; split at h
  · rename_i a b
    obtain ⟨h1, h2, h⟩ := h
    simp only [t_common, dstart]
    simp
    refine while_ind (fun n ρ => ∃ x y : Int, ρ = [some (.d (.int x)), some (.d (.int y))] ∧ 0 ≤ x ∧ 0 ≤ y ∧ gcdI a b = gcdI x y ∧ n = y.toNat) (fun n ρ K hI hK => ?_) (n := b.toNat) ⟨a, b, rfl, h1, h2, rfl, rfl⟩
    obtain ⟨x, y, rfl, hx, hy, e, hn⟩ := hI
    simp
    refine ⟨fun hc => ?_, fun hc => ⟨hc, ?_⟩⟩
    · subst hc
      rw [e] at h
      have : gcdI x 0 = x := by unfold gcdI; simp; omega
      rw [this] at h
      exact h
    · have hy1 : 0 < y := by omega
      rw [fmod_pos hy1]
      have := Int.emod_nonneg x (b := y) (by omega)
      have := Int.emod_lt_of_pos x hy1
      exact hK _ _ (by omega) ⟨y, x % y, rfl, by omega, by omega, by rw [e, gcdI_step hx hy1], rfl⟩
  · exact h.elim
def proStep (a : Int × Int) (m : List (Int × Int)) (p : Int × Int) : List (Int × Int) :=
  let g := gcdI a.1 p.1
  let l := a.1 / g * (p.1 / g)
  putM m l ((getM m l).getD 0 + g * a.2 * p.2)
def proRow (bs : List (Int × Int)) (m : List (Int × Int)) (a : Int × Int) : List (Int × Int) := bs.foldl (proStep a) m
def proF (as bs : List (Int × Int)) : List (Int × Int) := as.foldl (proRow bs) []
def PrOk (p : Int × Int) : Prop := 1 ≤ p.1 ∧ p.1 ≤ 9999 ∧ -1000000 ≤ p.2 ∧ p.2 ≤ 1000000
def F_product_of : Ct := fun xs q xc => match xs with
  | [.d (.list a), .d (.list b)] => ∃ as bs, a = as.map numD ∧ b = bs.map numD ∧ as.length ≤ 6 ∧ bs.length ≤ 6 ∧ (∀ p ∈ as, PrOk p) ∧ (∀ p ∈ bs, PrOk p) ∧ bc (isExact (exD (proF as bs))) (q (exD (proF as bs))) (xc "TooGreat")
  | _ => False
theorem hn_product_of (xs : List Vl) (q : D → Prop) (xc : DX) (h : F_product_of xs q xc) : xs.length = 2 := by
  unfold F_product_of at h; split at h
  · rfl
  · exact h.elim
theorem gcdI_pos {a b : Int} (ha : 1 ≤ a) : 1 ≤ gcdI a b ∧ gcdI a b ≤ a := by
  unfold gcdI
  have h1 := Nat.gcd_pos_of_pos_left b.toNat (show 0 < a.toNat by omega)
  have h2 := Nat.gcd_le_left b.toNat (show 0 < a.toNat by omega)
  omega
theorem sem_product_of (xs : List Vl) (q : D → Prop) (xc : DX) (h : F_product_of xs q xc) : t_product_of F_common F_rows_told (En q xc) (dstart ["one", "other", "found", "under", "many", "its", "more", "by", "left"] xs) := by
  unfold F_product_of at h; split at h
  · obtain ⟨as, bs, rfl, rfl, ha, hb, oa, ob, h⟩ := h
    simp only [t_product_of, dstart]
    simp
    refine for_ind (fun es ρ => ∃ (as2 m : List (Int × Int)) (v1 v2 v3 v4 v5 v6 : Option Vl), es = as2.map numD ∧ (∀ p ∈ as2, PrOk p) ∧ proF as bs = as2.foldl (proRow bs) m ∧ m.length + as2.length * 6 ≤ 36 ∧ ρ = [some (.d (.list (as.map numD))), some (.d (.list (bs.map numD))), some (.o (.dict (mD m))), v1, v2, v3, v4, v5, v6])
      ⟨as, [], none, none, none, none, none, none, rfl, oa, rfl, by simp; omega, rfl⟩ (fun x r ρ K hI hK => ?_) (fun ρ hI => ?_)
    · obtain ⟨as2, m, v1, v2, v3, v4, v5, v6, e1, e0, e2, e3, rfl⟩ := hI
      obtain ⟨⟨u, k⟩, as3, rfl, rfl, rfl⟩ := numD_inv e1
      rw [List.length_cons] at e3
      obtain ⟨p1, p2, p3, p4⟩ := e0 _ List.mem_cons_self
      dsimp only at p1 p2 p3 p4
      refine ⟨_, rfl, ?_⟩
      simp
      refine for_ind (fun es ρ => ∃ (bs2 m2 : List (Int × Int)) (v3 v4 v5 v6 : Option Vl), es = bs2.map numD ∧ (∀ p ∈ bs2, PrOk p) ∧ proRow bs m (u, k) = bs2.foldl (proStep (u, k)) m2 ∧ m2.length + bs2.length ≤ m.length + 6 ∧ ρ = [some (.d (.list (as.map numD))), some (.d (.list (bs.map numD))), some (.o (.dict (mD m2))), some (.d (.int u)), some (.d (.int k)), v3, v4, v5, v6])
        ⟨bs, m, _, _, _, _, rfl, ob, rfl, by omega, rfl⟩ (fun x r ρ K2 hI hK2 => ?_) (fun ρ hI => ?_)
      · obtain ⟨bs2, m2, v3, v4, v5, v6, f1, f0, f2, f3, rfl⟩ := hI
        obtain ⟨⟨u2, k2⟩, bs3, rfl, rfl, rfl⟩ := numD_inv f1
        rw [List.length_cons] at f3
        obtain ⟨q1, q2, q3, q4⟩ := f0 _ List.mem_cons_self
        dsimp only at q1 q2 q3 q4
        refine ⟨_, rfl, ?_⟩
        simp [F_common, gFdiv_i, gMul_i]
        obtain ⟨g1, g2⟩ := gcdI_pos (b := u2) p1
        have gg : gcdI u u2 = gcdI u u2 := rfl
        rw [fdiv_pos (by omega), fdiv_pos (by omega)]
        have d1 : 0 ≤ u / gcdI u u2 ∧ u / gcdI u u2 ≤ u := ⟨Int.ediv_nonneg (by omega) (by omega), Int.ediv_le_self _ (by omega)⟩
        rw [getI_getD]
        simp
        refine ⟨by omega, by omega, cdv_of (by omega) (by omega) (by omega), cdv_of (by omega) (by omega) (by omega), cml_l (by omega) (by omega), cml_l (by omega) (by omega), cml_r (by omega) (by omega), ?_, ?_⟩
        · unfold mD; rw [List.length_map]; exact fewer (m := 100) (by omega)
        · rw [putI_mD]
          have := putM_len m2 (u / gcdI u u2 * (u2 / gcdI u u2)) ((getM m2 (u / gcdI u u2 * (u2 / gcdI u u2))).getD 0 + gcdI u u2 * k * k2)
          exact hK2 _ ⟨bs3, putM m2 (u / gcdI u u2 * (u2 / gcdI u u2)) ((getM m2 (u / gcdI u u2 * (u2 / gcdI u u2))).getD 0 + gcdI u u2 * k * k2), _, _, _, _, rfl, fun p hp => f0 p (List.mem_cons_of_mem _ hp), f2, by omega, rfl⟩
      · obtain ⟨bs2, m2, v3, v4, v5, v6, f1, f0, f2, f3, rfl⟩ := hI
        have : bs2 = [] := by cases bs2 with | nil => rfl | cons a b => cases f1
        subst this
        refine hK _ ⟨as3, m2, _, _, _, _, _, _, rfl, fun p hp => e0 p (List.mem_cons_of_mem _ hp), ?_, by simp at f3; omega, rfl⟩
        rw [e2, List.foldl_cons, f2]
        rfl
    · obtain ⟨as2, m, v1, v2, v3, v4, v5, v6, e1, e0, e2, e3, rfl⟩ := hI
      have : as2 = [] := by cases as2 with | nil => rfl | cons a b => cases e1
      subst this
      simp [frzK, F_rows_told]
      rw [show proF as bs = m from e2] at h
      exact ⟨m, rfl, by simp at e3; omega, h⟩
  · exact h.elim
def F_multiplied : Ct := fun xs q xc => match xs with
  | [.d x, .d y] => bc (isExact x) (bc (isExact y) (bc (isExact (exD (proF (lstOf x) (lstOf y)))) (q (exD (proF (lstOf x) (lstOf y)))) (xc "TooGreat")) (xc "BadExact")) (xc "BadExact")
  | _ => False
theorem hn_multiplied (xs : List Vl) (q : D → Prop) (xc : DX) (h : F_multiplied xs q xc) : xs.length = 2 := by
  unfold F_multiplied at h; split at h
  · rfl
  · exact h.elim
theorem sem_multiplied (xs : List Vl) (q : D → Prop) (xc : DX) (h : F_multiplied xs q xc) : t_multiplied F_need_exact F_product_of (En q xc) (dstart ["one", "other"] xs) := by
  unfold F_multiplied at h; split at h
  · rename_i x y
    simp [t_multiplied, dstart, F_need_exact]
    cases hx : isExact x with
    | false => rw [hx] at h; exact h
    | true =>
      rw [hx] at h
      simp only [s_bcT] at h ⊢
      cases hy : isExact y with
      | false => rw [hy] at h; exact h
      | true =>
        rw [hy] at h
        simp only [s_bcT] at h ⊢
        obtain ⟨as, rfl, a1, a2⟩ := exact_inv hx
        obtain ⟨bs, rfl, b1, b2⟩ := exact_inv hy
        simp only [lstOf, prsOf_num] at h
        exact ⟨as, bs, rfl, rfl, a1, b1, a2, b2, h⟩
  · exact h.elim
/-! ### the exact of a number -/
def F_exact : Ct := fun xs q xc => match xs with
  | [.d x] => bc (isNum x) (F_plain_of [.d x] (fun d => ∃ t u : Int, d = .tuple [.int t, .int u] ∧ q (if t = 0 then .list [] else .list [.tuple [.int u, .int t]])) xc) (xc "BadNumber")
  | _ => False
theorem hn_exact (xs : List Vl) (q : D → Prop) (xc : DX) (h : F_exact xs q xc) : xs.length = 1 := by
  unfold F_exact at h; split at h
  · rfl
  · exact h.elim
theorem sem_exact (xs : List Vl) (q : D → Prop) (xc : DX) (h : F_exact xs q xc) : t_exact F_need_number F_plain_of (En q xc) (dstart ["number", "times", "under"] xs) := by
  unfold F_exact at h; split at h
  · rename_i x
    simp [t_exact, dstart, F_need_number]
    cases hx : isNum x with
    | false => rw [hx] at h; exact h
    | true =>
      rw [hx] at h
      simp only [s_bcT] at h ⊢
      unfold F_plain_of at h ⊢
      split at h
      · rename_i t u e
        refine ⟨h.1, h.2.1, fun t' u' P => ?_⟩
        obtain ⟨_, _, e2, hq⟩ := h.2.2 t' u' P
        cases e2
        simp
        by_cases h0 : t' = 0
        · simp [h0] at hq ⊢; exact hq
        · simp [h0] at hq ⊢; exact hq
      · exact h.elim
  · exact h.elim
end DL

/-! k82: refusals. -/
namespace DL
open PySem L2 LamX
abbrev al7 : List Str := ["BadNumber", "BadRow", "BadText", "BadExact", "TooGreat", "TooFew", "Nothing"]
theorem al7_num : al7.contains ("BadNumber" : Str) = true := by decide +kernel
theorem al7_ex : al7.contains ("BadExact" : Str) = true := by decide +kernel
theorem al7_gr : al7.contains ("TooGreat" : Str) = true := by decide +kernel
def F_side : Ct := fun xs _ xc => match xs with
  | [.d x] => isExact x = false ∧ xc "BadExact"
  | _ => False
theorem hn_side (xs : List Vl) (q : D → Prop) (xc : DX) (h : F_side xs q xc) : xs.length = 1 := by
  unfold F_side at h; split at h
  · rfl
  · exact h.elim
theorem sem_side (xs : List Vl) (q : D → Prop) (xc : DX) (h : F_side xs q xc) : t_side F_need_exact F_no (En q xc) (dstart ["one"] xs) := by
  unfold F_side at h; split at h
  · rename_i x
    simp [t_side, dstart, F_need_exact, h.1]
    exact h.2
  · exact h.elim
def F_to_places : Ct := fun xs _ xc => match xs with
  | [.d x, .d p] => (isExact x = false ∧ xc "BadExact") ∨ (isExact x = true ∧ isCnt p 0 30 = false ∧ xc "BadNumber")
  | _ => False
theorem hn_to_places (xs : List Vl) (q : D → Prop) (xc : DX) (h : F_to_places xs q xc) : xs.length = 2 := by
  unfold F_to_places at h; split at h
  · rfl
  · exact h.elim
theorem sem_to_places (xs : List Vl) (q : D → Prop) (xc : DX) (h : F_to_places xs q xc) : t_to_places F_need_exact F_need_count F_no (En q xc) (dstart ["one", "places"] xs) := by
  unfold F_to_places at h; split at h
  · rename_i x p
    rcases h with ⟨h1, h2⟩ | ⟨h1, h2, h3⟩
    · simp [t_to_places, dstart, F_need_exact, h1]
      exact h2
    · simp [t_to_places, dstart, F_need_exact, F_need_count, h1, h2]
      exact h3
  · exact h.elim
def risBad (x : D) : Bool := match x with
  | .list ds => decide (10 < ds.length) || ds.any fun d => !isExact d
  | _ => true
def F_rising : Ct := fun xs q xc => match xs with
  | [.d x] => (risBad x = true ∧ xc "BadExact") ∨ ∃ (n : Nat) (as : List (Int × Int)), x = .list (List.replicate (n + 1) (.list (as.map numD))) ∧ n < 10 ∧ isExact (.list (as.map numD)) = true ∧ q (.list [.list (as.map numD)])
  | _ => False
theorem hn_rising (xs : List Vl) (q : D → Prop) (xc : DX) (h : F_rising xs q xc) : xs.length = 1 := by
  unfold F_rising at h; split at h
  · rfl
  · exact h.elim
theorem lay_num : ∀ a : List (Int × Int), PyData.canLayAll0 (a.map numD) = true
  | [] => rfl
  | x :: a => by rw [List.map_cons, PyData.canLayAll0, lay_num a]; rfl
theorem shaped_num (a : List (Int × Int)) : SeqAt.shaped (.list (a.map numD)) = true := by
  have h := okD_depth 3 (.list (a.map numD)) (by
    show (a.map numD).all (okD 2) = true
    simp [List.all_map]
    intro x _ _
    rfl)
  unfold SeqAt.shaped
  rw [show (PyData.list (a.map numD)).canLay0 = true by rw [PyData.canLay0]; exact lay_num a]
  simp
  omega
theorem shaped_num1 (a : List (Int × Int)) : SeqAt.shaped (.list [.list (a.map numD)]) = true := by
  have h := okD_depth 4 (.list [.list (a.map numD)]) (by
    show ([PyData.list (a.map numD)]).all (okD 3) = true
    simp [okD]
    intro x y _
    rfl)
  unfold SeqAt.shaped
  rw [show (PyData.list [.list (a.map numD)]).canLay0 = true by rw [PyData.canLay0, PyData.canLayAll0, PyData.canLay0, lay_num a]; rfl]
  simp
  omega
theorem eqv_num (a : List (Int × Int)) : PyData.eqv (.list (a.map numD)) (.list (a.map numD)) = true := by
  refine PySem.SeqAt.eqv_refl_plain _ (okD_plain 40 _ ?_)
  show (a.map numD).all (okD 39) = true
  simp [List.all_map]
  intro x _ _
  rfl
theorem sem_rising (xs : List Vl) (q : D → Prop) (xc : DX) (h : F_rising xs q xc) : t_rising F_need_exact F_no F_no (En q xc) (dstart ["some", "one", "found", "at", "other"] xs) := by
  unfold F_rising at h; split at h
  · rename_i x
    rcases h with ⟨hb, h⟩ | ⟨n, as, rfl, hn, he, h⟩
    · simp only [t_rising, dstart]
      cases x
      case list ds =>
        simp [isL]
        refine ⟨fun _ => h, fun hl => ?_⟩
        refine for_ind (fun es ρ => (∃ d ∈ es, isExact d = false) ∧ ∃ v, ρ = [some (.d (.list ds)), v, none, none, none]) ⟨?_, none, rfl⟩ (fun d r ρ K hI hK => ?_) (fun ρ hI => ?_)
        · unfold risBad at hb
          have : ¬ 10 < ds.length := by omega
          simp [this] at hb
          obtain ⟨d, h1, h2⟩ := hb
          exact ⟨d, h1, h2⟩
        · obtain ⟨⟨d2, h1, h2⟩, v, rfl⟩ := hI
          refine ⟨_, rfl, ?_⟩
          simp [F_need_exact]
          cases hd : isExact d with
          | false => exact h
          | true =>
            rcases List.mem_cons.mp h1 with rfl | h1
            · rw [hd] at h2; cases h2
            · exact hK _ ⟨⟨d2, h1, h2⟩, _, rfl⟩
        · obtain ⟨⟨d, hd, _⟩, _⟩ := hI
          cases hd
      all_goals simpa [isL] using h
    · simp only [t_rising, dstart]
      simp [isL]
      refine ⟨fun z => by omega, fun _ => ?_⟩
      refine for_ind (fun es ρ => (∀ d ∈ es, d = .list (as.map numD)) ∧ ∃ v, ρ = [some (.d (.list (List.replicate (n + 1) (.list (as.map numD))))), v, none, none, none]) ⟨fun d hd => (List.mem_replicate.mp hd).2, none, rfl⟩ (fun d r ρ K hI hK => ?_) (fun ρ hI => ?_)
      · obtain ⟨hes, v, rfl⟩ := hI
        have := hes d List.mem_cons_self
        subst this
        refine ⟨_, rfl, ?_⟩
        simp [F_need_exact, he]
        exact hK _ ⟨fun x hx => hes x (List.mem_cons_of_mem _ hx), _, rfl⟩
      · obtain ⟨_, v, rfl⟩ := hI
        simp
        refine for_ind (fun es ρ => (∀ d ∈ es, d = .list (as.map numD)) ∧ ∃ (f : List D) (v w : Option Vl), (f = [] ∧ es ≠ [] ∨ f = [.list (as.map numD)]) ∧ ρ = [some (.d (.list (List.replicate (n + 1) (.list (as.map numD))))), v, some (.o (.list f)), w, none]) ⟨fun d hd => (List.mem_replicate.mp hd).2, [], _, _, .inl ⟨rfl, by simp [List.replicate_succ]⟩, rfl⟩ (fun d r ρ K hI hK => ?_) (fun ρ hI => ?_)
        · obtain ⟨hes, f, v, w, hf, rfl⟩ := hI
          have := hes d List.mem_cons_self
          subst this
          refine ⟨_, rfl, ?_⟩
          rcases hf with ⟨rfl, _⟩ | rfl
          · simp
            show SeqAt.shaped (.list (as.map numD)) = true ∧ SeqAt.shaped (.list []) = true ∧ _
            refine ⟨shaped_num as, by decide +kernel, ?_⟩
            simp
            refine ⟨rfl, ?_⟩
            exact ⟨by decide, hK _ ⟨fun x hx => hes x (List.mem_cons_of_mem _ hx), [.list (as.map numD)], _, _, .inr rfl, rfl⟩⟩
          · simp
            show SeqAt.shaped (.list (as.map numD)) = true ∧ SeqAt.shaped (.list [.list (as.map numD)]) = true ∧ _
            refine ⟨shaped_num as, shaped_num1 as, ?_⟩
            simp only [Vl.all, List.any_cons, List.any_nil, eqv_num]
            simp
            exact hK _ ⟨fun x hx => hes x (List.mem_cons_of_mem _ hx), [.list (as.map numD)], _, _, .inr rfl, rfl⟩
        · obtain ⟨_, f, v, w, hf, rfl⟩ := hI
          rcases hf with ⟨_, z⟩ | rfl
          · exact absurd rfl z
          · simp
            exact h
  · exact h.elim
/-! ### the law's own exacts -/
def F__law_free : Ct := fun xs q _ => match xs with
  | [.d (.int u)] => q (.bool (!hasSq u))
  | _ => False
theorem hn__law_free (xs : List Vl) (q : D → Prop) (xc : DX) (h : F__law_free xs q xc) : xs.length = 1 := by
  unfold F__law_free at h; split at h
  · rfl
  · exact h.elim
theorem filter_isEmpty {α : Type} (p : α → Bool) (l : List α) : (l.filter p).isEmpty = !l.any p := by
  induction l with
  | nil => rfl
  | cons a l ih =>
    rw [List.filter_cons, List.any_cons]
    cases p a
    · simpa using ih
    · simp
theorem sem__law_free (xs : List Vl) (q : D → Prop) (xc : DX) (h : F__law_free xs q xc) : t__law_free (En q xc) (dstart ["under", "by"] xs) := by
  unfold F__law_free at h; split at h
  · rename_i u
    simp only [t__law_free, dstart]
    simp
    refine ⟨rfl, ?_⟩
    rw [show rangeD 2 98 = (upI 2 98).map .int from upI_D 2 98]
    refine lc_ints (p := fun b => decide (u % (b * b) = 0)) (few (m := 98) (by rw [upI_len]; exact Nat.le_refl _)) (fun b hb k hk => ?_) (fun b hb Q hQ => hQ) ?_
    · have hb2 := mem_upI.mp hb
      have hbb : 0 < b * b := Int.mul_pos (by omega) (by omega)
      simp [wipeD, gMul_i]
      refine ⟨cml_l (by omega) (by omega), by omega, ?_⟩
      rw [fmod_pos hbb]
      exact hk
    · have e1 : ∀ l : List Int, gEq (.d (tD l)) (.d (.list [])) = gEq (.d (tD l)) (.d (tD [])) := fun _ => rfl
      show gEq (.d (tD _)) (.d (.list [])) _
      rw [e1, s_gEqT]
      have e2 : decide ((upI 2 98).filter (fun b => decide (u % (b * b) = 0)) = []) = !hasSq u := by
        have z := filter_isEmpty (fun b => decide (u % (b * b) = 0)) (upI 2 98)
        have y : (upI 2 98).any (fun b => decide (u % (b * b) = 0)) = hasSq u := by
          unfold upI hasSq
          rw [List.any_map]
          congr 1
          funext i
          show decide (u % ((2 + (i : Int)) * (2 + (i : Int))) = 0) = _
          rw [show (2 + (i : Int)) = ((i + 2 : Nat) : Int) by omega]
        rw [← y, ← z]
        cases (upI 2 98).filter (fun b => decide (u % (b * b) = 0)) <;> simp
      rw [e2]
      simpa using h
  · exact h.elim
end DL

/-! Plain sums: what may come to nought. -/
namespace DL
open PySem L2
/-- the digits lie just below -/
structure IsFl (t A d : Int) : Prop where
  pos : 0 ≤ t → 0 ≤ d ∧ d * d ≤ t * t * A ∧ t * t * A < (d + 1) * (d + 1)
  neg : t < 0 → d ≤ 0 ∧ t * t * A ≤ d * d ∧ (d < 0 → (d + 1) * (d + 1) < t * t * A)
theorem isFl_dig {t u : Int} {p : Nat} (hu : 0 ≤ u) : IsFl t (u * 10 ^ (2 * p)) (digF t u p) := by
  have e : t * t * (u * 10 ^ (2 * p)) = sqF t u p := by unfold sqF; rw [Int.mul_assoc (t * t)]
  have h0 : 0 ≤ sqF t u p := sqF_nonneg hu
  have a1 := isq_le h0
  have a2 := lt_isq h0
  have a3 := isq_nonneg (sqF t u p)
  constructor
  · intro ht
    rw [e]
    unfold digF
    rw [if_pos ht]
    exact ⟨a3, a1, a2⟩
  · intro ht
    rw [e]
    unfold digF
    rw [if_neg (by omega)]
    generalize sqF t u p = S at *
    generalize isq S = r at *
    split
    · rename_i hq
      refine ⟨by omega, ?_, fun hd => ?_⟩
      · rw [show (0 - r) * (0 - r) = r * r by rw [Int.zero_sub]; exact Int.neg_mul_neg r r]; omega
      · rw [show (0 - r + 1) * (0 - r + 1) = (r - 1) * (r - 1) by rw [show 0 - r + 1 = -(r - 1) by omega]; exact Int.neg_mul_neg _ _]
        have := mul_lt_self (a := r - 1) (b := r) (by omega) (by omega)
        omega
    · rename_i hq
      refine ⟨by omega, ?_, fun _ => ?_⟩
      · rw [show (0 - r - 1) * (0 - r - 1) = (r + 1) * (r + 1) by rw [show 0 - r - 1 = -(r + 1) by omega]; exact Int.neg_mul_neg _ _]; omega
      · rw [show (0 - r - 1 + 1) * (0 - r - 1 + 1) = r * r by rw [show 0 - r - 1 + 1 = -r by omega]; exact Int.neg_mul_neg _ _]; omega
theorem sq_mul (a b : Int) : (a * b) * (a * b) = a * a * (b * b) := by
  simp only [Int.mul_assoc, Int.mul_left_comm, Int.mul_comm]
theorem le_of_sq {a b : Int} (hb : 0 ≤ b) (h : a * a ≤ b * b) : a ≤ b := by
  rcases Int.lt_or_le b a with q | q
  · have := mul_lt_self hb q; omega
  · exact q
/-- by the root to N parts -/
theorem fl_bounds {t A d N : Int} (hA : 0 ≤ A) (hN : 1 ≤ N) (h : IsFl t A d) : t * isq (A * (N * N)) - N - aI t ≤ d * N ∧ d * N ≤ t * isq (A * (N * N)) + aI t := by
  have hAN : 0 ≤ A * (N * N) := Int.mul_nonneg hA (sq_nonneg N)
  have r1 := isq_le hAN
  have r2 := lt_isq hAN
  have r3 := isq_nonneg (A * (N * N))
  generalize isq (A * (N * N)) = r at *
  have eT : ∀ z : Int, t * t * A * (N * N) = t * t * (A * (N * N)) := fun _ => by rw [Int.mul_assoc]
  have hNN : 0 < N * N := Int.mul_pos (by omega) (by omega)
  have lo : (t * r) * (t * r) ≤ t * t * A * (N * N) := by
    rw [sq_mul, eT 0]
    exact Int.mul_le_mul_of_nonneg_left r1 (sq_nonneg t)
  have hi : t * t * A * (N * N) ≤ (t * (r + 1)) * (t * (r + 1)) := by
    rw [sq_mul, eT 0]
    exact Int.mul_le_mul_of_nonneg_left (by omega) (sq_nonneg t)
  by_cases ht : 0 ≤ t
  · obtain ⟨h1, h2, h3⟩ := h.pos ht
    have ea : aI t = t := by unfold aI; rw [if_neg (by omega)]
    rw [ea]
    constructor
    · have b1 : t * t * A * (N * N) < ((d + 1) * N) * ((d + 1) * N) := by
        rw [sq_mul]
        exact Int.mul_lt_mul_of_pos_right h3 hNN
      have := lt_of_sq (a := t * r) (b := (d + 1) * N) (Int.mul_nonneg (by omega) (by omega)) (by omega)
      rw [Int.add_mul, Int.one_mul] at this
      omega
    · have b1 : (d * N) * (d * N) ≤ t * t * A * (N * N) := by
        rw [sq_mul]
        exact Int.mul_le_mul_of_nonneg_right h2 (by omega)
      have := le_of_sq (a := d * N) (b := t * (r + 1)) (Int.mul_nonneg ht (by omega)) (by omega)
      rw [Int.mul_add, Int.mul_one] at this
      omega
  · obtain ⟨h1, h2, h3⟩ := h.neg (by omega)
    have ea : aI t = -t := by unfold aI; rw [if_pos (by omega)]
    rw [ea]
    have tr : 0 ≤ -(t * r) := by rw [← Int.neg_mul]; exact Int.mul_nonneg (by omega) r3
    constructor
    · by_cases hd : d < 0
      · have h3 := h3 hd
        have b1 : ((d + 1) * N) * ((d + 1) * N) ≤ t * t * A * (N * N) := by
          rw [sq_mul]
          exact Int.mul_le_mul_of_nonneg_right (by omega) (by omega)
        have e1 : (-((d + 1) * N)) * (-((d + 1) * N)) = ((d + 1) * N) * ((d + 1) * N) := Int.neg_mul_neg _ _
        have e2 : (-(t * (r + 1))) * (-(t * (r + 1))) = (t * (r + 1)) * (t * (r + 1)) := Int.neg_mul_neg _ _
        have := le_of_sq (a := -((d + 1) * N)) (b := -(t * (r + 1))) (by rw [← Int.neg_mul]; exact Int.mul_nonneg (by omega) (by omega)) (by omega)
        rw [Int.add_mul, Int.one_mul, Int.mul_add, Int.mul_one] at this
        omega
      · have : d = 0 := by omega
        subst this
        omega
    · have b1 : t * t * A * (N * N) ≤ (d * N) * (d * N) := by
        rw [sq_mul]
        exact Int.mul_le_mul_of_nonneg_right h2 (by omega)
      have e1 : (-(d * N)) * (-(d * N)) = (d * N) * (d * N) := Int.neg_mul_neg _ _
      have e2 : (-(t * r)) * (-(t * r)) = (t * r) * (t * r) := Int.neg_mul_neg _ _
      have := le_of_sq (a := -(t * r)) (b := -(d * N)) (by rw [← Int.neg_mul]; exact Int.mul_nonneg (by omega) (by omega)) (by omega)
      omega
end DL

/-! Plain sums: rows that come to nought are let by at any places; more places let by no more. -/
namespace DL
open PySem L2
def dotP : List Int → List Int → Int
  | c :: cs, d :: ds => c * d + dotP cs ds
  | _, _ => 0
def negS (ts : List Int) : Int := (ts.filter fun c => decide (c < 0)).sum
def posS (ts : List Int) : Int := (ts.filter fun c => decide (0 < c)).sum
def mayF (ds ts : List Int) : Bool := decide (dotP ts ds + negS ts ≤ 0) && decide (0 ≤ dotP ts ds + posS ts)
theorem negS_cons (c : Int) (ts : List Int) : negS (c :: ts) = (if c < 0 then c else 0) + negS ts := by
  unfold negS
  by_cases h : c < 0
  · simp [List.filter_cons, h]
  · simp [List.filter_cons, h]
theorem posS_cons (c : Int) (ts : List Int) : posS (c :: ts) = (if 0 < c then c else 0) + posS ts := by
  unfold posS
  by_cases h : 0 < c
  · simp [List.filter_cons, h]
  · simp [List.filter_cons, h]
def digL (row : List (Int × Int)) (p : Nat) : List Int := row.map fun q => digF q.1 q.2 p
/-! ### sums over what is found -/
def wS (R : Int → Int) : List (Int × Int) → Int
  | [] => 0
  | p :: m => p.2 * R p.1 + wS R m
theorem wS_app (R : Int → Int) : ∀ (m : List (Int × Int)) (p : Int × Int), wS R (m ++ [p]) = wS R m + p.2 * R p.1
  | [], p => by simp [wS]
  | q :: m, p => by
    show q.2 * R q.1 + wS R (m ++ [p]) = q.2 * R q.1 + wS R m + p.2 * R p.1
    rw [wS_app R m p]; omega
theorem repl_not {m : List (Int × Int)} {k v : Int} (h : k ∉ m.map (·.1)) : m.map (fun p => if p.1 = k then (p.1, v) else p) = m := by
  induction m with
  | nil => rfl
  | cons p m ih =>
    rw [List.map_cons, List.mem_cons, not_or] at h
    rw [List.map_cons, if_neg (fun z => h.1 z.symm), ih h.2]
theorem getM_none {m : List (Int × Int)} {k : Int} (h : k ∉ m.map (·.1)) : getM m k = none := by
  induction m with
  | nil => rfl
  | cons p m ih =>
    rw [List.map_cons, List.mem_cons, not_or] at h
    have := ih h.2
    simp only [getM, List.find?_cons, decide_eq_false (fun z : p.1 = k => h.1 z.symm)] at this ⊢
    exact this
theorem wS_repl (R : Int → Int) {k v : Int} : ∀ {m : List (Int × Int)}, (m.map (·.1)).Nodup → k ∈ m.map (·.1) → wS R (m.map fun p => if p.1 = k then (p.1, v) else p) = wS R m + (v - (getM m k).getD 0) * R k
  | (a, w) :: m, nd, h => by
    rw [List.map_cons, List.nodup_cons] at nd
    by_cases e : a = k
    · subst e
      rw [List.map_cons, if_pos rfl, repl_not nd.1]
      have : getM ((a, w) :: m) a = some w := by simp [getM, List.find?_cons]
      rw [this]
      show v * R a + wS R m = w * R a + wS R m + (v - w) * R a
      rw [Int.sub_mul]; omega
    · have h2 : k ∈ m.map (·.1) := by
        rw [List.map_cons] at h
        rcases List.mem_cons.mp h with z | z
        · exact absurd z.symm e
        · exact z
      have ih := wS_repl R (k := k) (v := v) nd.2 h2
      have eg : getM ((a, w) :: m) k = getM m k := by simp only [getM, List.find?_cons, decide_eq_false e]
      rw [List.map_cons, if_neg e, eg]
      show w * R a + wS R _ = w * R a + wS R m + _
      rw [ih]; omega
theorem any_key {m : List (Int × Int)} {k : Int} : (m.any fun p => decide (p.1 = k)) = true ↔ k ∈ m.map (·.1) := by
  rw [List.any_eq_true, List.mem_map]
  exact ⟨fun ⟨p, h1, h2⟩ => ⟨p, h1, by simpa using h2⟩, fun ⟨p, h1, h2⟩ => ⟨p, h1, by simpa using h2⟩⟩
theorem wS_put (R : Int → Int) {m : List (Int × Int)} {k v : Int} (nd : (m.map (·.1)).Nodup) : wS R (putM m k v) = wS R m + (v - (getM m k).getD 0) * R k := by
  unfold putM
  split
  · rename_i h
    exact wS_repl R nd (any_key.mp h)
  · rename_i h
    rw [wS_app, getM_none (fun z => h (any_key.mpr z))]
    simp
theorem putM_keys {m : List (Int × Int)} {k v : Int} (nd : (m.map (·.1)).Nodup) : ((putM m k v).map (·.1)).Nodup := by
  unfold putM
  split
  · rw [List.map_map]
    have : ((fun p : Int × Int => p.1) ∘ fun p => if p.1 = k then (p.1, v) else p) = fun p => p.1 := by
      funext p
      show (if p.1 = k then (p.1, v) else p).1 = p.1
      split <;> rfl
    rw [this]
    exact nd
  · rename_i h
    rw [List.map_append, List.map_cons, List.map_nil]
    refine List.nodup_append.mpr ⟨nd, by simp, fun a ha b hb => ?_⟩
    simp at hb
    subst hb
    intro e
    subst e
    exact h (any_key.mpr ha)
def ctS (R : Int → Int) : List (Int × Int) → List Int → Int
  | p :: row, c :: ts => c * ((plF p).1 * R (plF p).2) + ctS R row ts
  | _, _ => 0
theorem wS_found (R : Int → Int) : ∀ (row : List (Int × Int)) (ts : List Int) (acc : List (Int × Int)), (acc.map (·.1)).Nodup → wS R (foundF row ts acc) = wS R acc + ctS R row ts ∧ ((foundF row ts acc).map (·.1)).Nodup
  | p :: row, c :: ts, acc, nd => by
    have ih := wS_found R row ts (putM acc (plF p).2 ((getM acc (plF p).2).getD 0 + (plF p).1 * c)) (putM_keys nd)
    refine ⟨?_, ih.2⟩
    show wS R (foundF row ts _) = wS R acc + (c * ((plF p).1 * R (plF p).2) + ctS R row ts)
    rw [ih.1, wS_put R nd]
    have : ((getM acc (plF p).2).getD 0 + (plF p).1 * c - (getM acc (plF p).2).getD 0) * R (plF p).2 = c * ((plF p).1 * R (plF p).2) := by
      rw [show (getM acc (plF p).2).getD 0 + (plF p).1 * c - (getM acc (plF p).2).getD 0 = (plF p).1 * c by omega, Int.mul_comm (plF p).1 c, Int.mul_assoc]
    omega
  | [], ts, acc, nd => by simp [foundF, ctS]; exact nd
  | _ :: _, [], acc, nd => by simp [foundF, ctS]; exact nd
theorem getM_of_mem : ∀ {m : List (Int × Int)} {p : Int × Int}, (m.map (·.1)).Nodup → p ∈ m → getM m p.1 = some p.2
  | q :: m, p, nd, h => by
    rw [List.map_cons, List.nodup_cons] at nd
    rcases List.mem_cons.mp h with rfl | h
    · simp [getM, List.find?_cons]
    · have hne : ¬ q.1 = p.1 := fun e => nd.1 (by rw [e]; exact List.mem_map.mpr ⟨p, h, rfl⟩)
      have ih := getM_of_mem nd.2 h
      simp only [getM, List.find?_cons, decide_eq_false hne] at ih ⊢
      exact ih
theorem wS_zero (R : Int → Int) : ∀ {m : List (Int × Int)}, (∀ p ∈ m, p.2 = 0) → wS R m = 0
  | [], _ => rfl
  | p :: m, h => by
    show p.2 * R p.1 + wS R m = 0
    rw [h p List.mem_cons_self, wS_zero R fun q hq => h q (List.mem_cons_of_mem _ hq)]
    simp
/-- no parts: the sum is nought, whatever stands for the roots -/
theorem ct_zero (R : Int → Int) {row : List (Int × Int)} {ts : List Int} (h : partsL row ts = []) : ctS R row ts = 0 := by
  obtain ⟨h1, h2⟩ := wS_found R row ts [] (by simp)
  have hz : ∀ p ∈ foundF row ts [], p.2 = 0 := fun p hp => by
    unfold partsL partsOf at h
    rw [List.map_eq_nil_iff, List.filter_eq_nil_iff] at h
    have := h p.1 ((isort_perm _).mem_iff.mpr (List.mem_map.mpr ⟨p, hp, rfl⟩))
    rw [getM_of_mem h2 hp] at this
    simpa using this
  rw [wS_zero R hz] at h1
  have : wS R [] = 0 := rfl
  omega
/-! ### the rows let by -/
theorem mSq_dvd : ∀ u : Fin 100, u.1 % (mSqN u.1 * mSqN u.1) = 0 := by decide +kernel
theorem isFl_plain {q : Int × Int} {p : Nat} (h : NumOk q) : IsFl (plF q).1 ((plF q).2 * 10 ^ (2 * p)) (digF q.1 q.2 p) := by
  obtain ⟨t, u⟩ := q
  obtain ⟨h1, h2, h3, h4⟩ := h
  dsimp only at h1 h2 h3 h4 ⊢
  have base := isFl_dig (t := t) (u := u) (p := p) (by omega)
  unfold plF
  by_cases h0 : t = 0
  · rw [if_pos h0]
    subst h0
    constructor
    · intro _
      have := base.pos (by omega)
      simpa using this
    · intro z; exact absurd z (by decide)
  · rw [if_neg h0]
    dsimp only
    have hb := mSq_bound u
    generalize hm : mSq u = m at hb
    have hmm : 0 < m * m := Int.mul_pos (by omega) (by omega)
    have hd : u % (m * m) = 0 := by
      have := mSq_dvd ⟨u.toNat, by omega⟩
      have this : u.toNat % (mSqN u.toNat * mSqN u.toNat) = 0 := this
      have e1 : ((u.toNat : Nat) : Int) = u := Int.toNat_of_nonneg (by omega)
      have e2 : ((mSqN u.toNat : Nat) : Int) = m := hm
      have e3 : ((u.toNat % (mSqN u.toNat * mSqN u.toNat) : Nat) : Int) = u % (m * m) := by rw [Int.natCast_emod, Int.natCast_mul, e1, e2]
      rw [← e3, this]; rfl
    have eu : u / (m * m) * (m * m) = u := Int.ediv_mul_cancel (Int.dvd_of_emod_eq_zero hd)
    have es : t * m * (t * m) * (u / (m * m) * 10 ^ (2 * p)) = t * t * (u * 10 ^ (2 * p)) := by
      rw [sq_mul, ← Int.mul_assoc (t * t * (m * m)), Int.mul_assoc (t * t), Int.mul_comm (m * m), eu, Int.mul_assoc]
    constructor
    · intro ht
      rw [es]
      exact base.pos (by
        rcases Int.lt_or_le t 0 with z | z
        · have : t * m < 0 := Int.mul_neg_of_neg_of_pos z (by omega)
          omega
        · exact z)
    · intro ht
      rw [es]
      exact base.neg (by
        rcases Int.lt_or_le t 0 with z | z
        · exact z
        · have : 0 ≤ t * m := Int.mul_nonneg z (by omega)
          omega)
def cS : List (Int × Int) → List Int → Int
  | p :: row, c :: ts => aI c * aI (plF p).1 + cS row ts
  | _, _ => 0
theorem cS_nonneg : ∀ (row : List (Int × Int)) (ts : List Int), 0 ≤ cS row ts
  | p :: row, c :: ts => by
    have := cS_nonneg row ts
    have := Int.mul_nonneg (aI_nonneg c) (aI_nonneg (plF p).1)
    show 0 ≤ aI c * aI (plF p).1 + cS row ts
    omega
  | [], _ => by simp [cS]
  | _ :: _, [] => by simp [cS]
theorem dot_bounds {N : Int} {p : Nat} (hN : 1 ≤ N) : ∀ (row : List (Int × Int)) (ts : List Int), (∀ q ∈ row, NumOk q) → row.length = ts.length →
    dotP ts (digL row p) * N ≤ ctS (fun k => isq (k * 10 ^ (2 * p) * (N * N))) row ts + cS row ts - N * negS ts ∧ ctS (fun k => isq (k * 10 ^ (2 * p) * (N * N))) row ts - cS row ts - N * posS ts ≤ dotP ts (digL row p) * N
  | [], [], _, _ => by simp [dotP, ctS, cS, negS, posS, digL]
  | q :: row, c :: ts, hok, hl => by
    obtain ⟨i1, i2⟩ := dot_bounds (p := p) hN row ts (fun z hz => hok z (List.mem_cons_of_mem _ hz)) (by simpa using hl)
    have hq := hok q List.mem_cons_self
    have fl := isFl_plain (p := p) hq
    have hA : 0 ≤ (plF q).2 * 10 ^ (2 * p) := by
      refine Int.mul_nonneg ?_ (Int.le_of_lt (ten_pos _))
      unfold plF
      split
      · decide
      · exact Int.ediv_nonneg (by have := hq.2.2.1; omega) (sq_nonneg _)
    obtain ⟨b1, b2⟩ := fl_bounds hA hN fl
    rw [negS_cons, posS_cons]
    show (c * digF q.1 q.2 p + dotP ts (digL row p)) * N ≤ c * ((plF q).1 * isq ((plF q).2 * 10 ^ (2 * p) * (N * N))) + ctS _ row ts + (aI c * aI (plF q).1 + cS row ts) - N * _ ∧ c * ((plF q).1 * isq ((plF q).2 * 10 ^ (2 * p) * (N * N))) + ctS _ row ts - (aI c * aI (plF q).1 + cS row ts) - N * _ ≤ (c * digF q.1 q.2 p + dotP ts (digL row p)) * N
    generalize (plF q).1 * isq ((plF q).2 * 10 ^ (2 * p) * (N * N)) = X at *
    generalize digF q.1 q.2 p = d at *
    generalize aI (plF q).1 = a at *
    rw [Int.add_mul, Int.mul_assoc c d N]
    generalize d * N = e at *
    rw [Int.mul_add, Int.mul_add]
    by_cases hc : 0 ≤ c
    · have ea : aI c = c := by unfold aI; rw [if_neg (by omega)]
      rw [ea, if_neg (by omega)]
      have m1 := Int.mul_le_mul_of_nonneg_left b2 hc
      have m2 := Int.mul_le_mul_of_nonneg_left b1 hc
      rw [Int.mul_add] at m1
      rw [Int.mul_sub, Int.mul_sub] at m2
      have e1 : N * (if 0 < c then c else 0) = c * N := by
        split
        · rw [Int.mul_comm]
        · have : c = 0 := by omega
          subst this; simp
      rw [e1]
      constructor <;> omega
    · have ea : aI c = -c := by unfold aI; rw [if_pos (by omega)]
      rw [ea, if_pos (by omega), if_neg (by omega)]
      have m1 := Int.mul_le_mul_of_nonneg_left b1 (show 0 ≤ -c by omega)
      have m2 := Int.mul_le_mul_of_nonneg_left b2 (show 0 ≤ -c by omega)
      rw [Int.mul_sub, Int.mul_sub] at m1
      rw [Int.mul_add] at m2
      simp only [Int.neg_mul] at m1 m2 ⊢
      rw [Int.mul_comm N c]
      constructor <;> omega
  | [], _ :: _, _, hl => by simp at hl
  | _ :: _, [], _, hl => by simp at hl
/-- what comes to nought is let by -/
theorem may_right {row : List (Int × Int)} {ts : List Int} {p : Nat} (hok : ∀ q ∈ row, NumOk q) (hl : row.length = ts.length) (h : partsL row ts = []) : mayF (digL row p) ts = true := by
  have c0 := cS_nonneg row ts
  obtain ⟨b1, b2⟩ := dot_bounds (N := cS row ts + 1) (p := p) (by omega) row ts hok hl
  rw [ct_zero _ h] at b1 b2
  unfold mayF
  generalize dotP ts (digL row p) = x at *
  generalize cS row ts = C at *
  have d1 : (x + negS ts) * (C + 1) ≤ C := by rw [Int.add_mul, Int.mul_comm (negS ts)]; omega
  have d2 : -C ≤ (x + posS ts) * (C + 1) := by rw [Int.add_mul, Int.mul_comm (posS ts)]; omega
  have e1 : x + negS ts ≤ 0 := by
    rcases Int.lt_or_le 0 (x + negS ts) with z | z
    · have := Int.mul_le_mul_of_nonneg_right (show 1 ≤ x + negS ts by omega) (show 0 ≤ C + 1 by omega)
      omega
    · exact z
  have e2 : 0 ≤ x + posS ts := by
    rcases Int.lt_or_le (x + posS ts) 0 with z | z
    · have := Int.mul_le_mul_of_nonneg_right (show x + posS ts ≤ -1 by omega) (show 0 ≤ C + 1 by omega)
      omega
    · exact z
  simp [e1, e2]
/-! ### more places -/
theorem fl_more {t A d d' K : Int} (hA : 0 ≤ A) (hK : 1 ≤ K) (h : IsFl t A d) (h' : IsFl t (A * (K * K)) d') : d * K ≤ d' ∧ d' < (d + 1) * K := by
  have hKK : 0 < K * K := Int.mul_pos (by omega) (by omega)
  have eT : t * t * (A * (K * K)) = t * t * A * (K * K) := by rw [Int.mul_assoc (t * t)]
  by_cases ht : 0 ≤ t
  · obtain ⟨a1, a2, a3⟩ := h.pos ht
    obtain ⟨b1, b2, b3⟩ := h'.pos ht
    rw [eT] at b2 b3
    have c1 : (d * K) * (d * K) ≤ t * t * A * (K * K) := by rw [sq_mul]; exact Int.mul_le_mul_of_nonneg_right a2 (by omega)
    have c2 : t * t * A * (K * K) < ((d + 1) * K) * ((d + 1) * K) := by rw [sq_mul]; exact Int.mul_lt_mul_of_pos_right a3 hKK
    have := lt_of_sq (a := d * K) (b := d' + 1) (by omega) (by omega)
    have := lt_of_sq (a := d') (b := (d + 1) * K) (Int.mul_nonneg (by omega) (by omega)) (by omega)
    constructor <;> omega
  · obtain ⟨a1, a2, a3⟩ := h.neg (by omega)
    obtain ⟨b1, b2, b3⟩ := h'.neg (by omega)
    rw [eT] at b2 b3
    have c1 : t * t * A * (K * K) ≤ (d * K) * (d * K) := by rw [sq_mul]; exact Int.mul_le_mul_of_nonneg_right a2 (by omega)
    have nd : d * K ≤ 0 := Int.mul_nonpos_of_nonpos_of_nonneg a1 (by omega)
    constructor
    · by_cases hd' : d' < 0
      · have b3 := b3 hd'
        have e1 : (-(d' + 1)) * (-(d' + 1)) = (d' + 1) * (d' + 1) := Int.neg_mul_neg _ _
        have e2 : (-(d * K)) * (-(d * K)) = (d * K) * (d * K) := Int.neg_mul_neg _ _
        have := lt_of_sq (a := -(d' + 1)) (b := -(d * K)) (by omega) (by omega)
        omega
      · omega
    · by_cases hd : d < 0
      · have a3 := a3 hd
        have c2 : ((d + 1) * K) * ((d + 1) * K) < t * t * A * (K * K) := by rw [sq_mul]; exact Int.mul_lt_mul_of_pos_right a3 hKK
        have e1 : (-((d + 1) * K)) * (-((d + 1) * K)) = ((d + 1) * K) * ((d + 1) * K) := Int.neg_mul_neg _ _
        have e2 : (-d') * (-d') = d' * d' := Int.neg_mul_neg _ _
        have := lt_of_sq (a := -((d + 1) * K)) (b := -d') (by omega) (by omega)
        omega
      · have : d = 0 := by omega
        subst this
        omega
theorem dig_more {q : Int × Int} {p k : Nat} (h : NumOk q) : digF q.1 q.2 p * 10 ^ k ≤ digF q.1 q.2 (p + k) ∧ digF q.1 q.2 (p + k) < (digF q.1 q.2 p + 1) * 10 ^ k := by
  have h3 := h.2.2.1
  have f1 := isFl_dig (t := q.1) (u := q.2) (p := p) (by omega)
  have f2 := isFl_dig (t := q.1) (u := q.2) (p := p + k) (by omega)
  have e : q.2 * 10 ^ (2 * (p + k)) = q.2 * 10 ^ (2 * p) * (10 ^ k * 10 ^ k) := by
    rw [← Int.pow_add, Int.mul_assoc, ← Int.pow_add]
    congr 2
    omega
  rw [e] at f2
  exact fl_more (Int.mul_nonneg (by omega) (Int.le_of_lt (ten_pos _))) (by have := ten_pos k; omega) f1 f2
theorem dot_more {p k : Nat} : ∀ (row : List (Int × Int)) (ts : List Int), (∀ q ∈ row, NumOk q) → row.length = ts.length →
    dotP ts (digL row p) * 10 ^ k ≤ dotP ts (digL row (p + k)) - (10 ^ k - 1) * negS ts ∧ dotP ts (digL row (p + k)) - (10 ^ k - 1) * posS ts ≤ dotP ts (digL row p) * 10 ^ k
  | [], [], _, _ => by simp [dotP, negS, posS, digL]
  | q :: row, c :: ts, hok, hl => by
    obtain ⟨i1, i2⟩ := dot_more (p := p) (k := k) row ts (fun z hz => hok z (List.mem_cons_of_mem _ hz)) (by simpa using hl)
    obtain ⟨b1, b2⟩ := dig_more (p := p) (k := k) (hok q List.mem_cons_self)
    rw [negS_cons, posS_cons]
    show (c * digF q.1 q.2 p + dotP ts (digL row p)) * 10 ^ k ≤ c * digF q.1 q.2 (p + k) + dotP ts (digL row (p + k)) - (10 ^ k - 1) * _ ∧ c * digF q.1 q.2 (p + k) + dotP ts (digL row (p + k)) - (10 ^ k - 1) * _ ≤ (c * digF q.1 q.2 p + dotP ts (digL row p)) * 10 ^ k
    have hK := ten_pos k
    generalize (10 : Int) ^ k = K at *
    generalize digF q.1 q.2 (p + k) = d' at *
    generalize digF q.1 q.2 p = d at *
    rw [Int.add_mul, Int.mul_assoc c d K, Int.mul_add, Int.mul_add]
    rw [Int.add_mul, Int.one_mul] at b2
    generalize d * K = e at *
    by_cases hc : 0 ≤ c
    · rw [if_neg (by omega)]
      have m1 := Int.mul_le_mul_of_nonneg_left b1 hc
      have m2 := Int.mul_le_mul_of_nonneg_left (show d' ≤ e + (K - 1) by omega) hc
      rw [Int.mul_add] at m2
      have e1 : (K - 1) * (if 0 < c then c else 0) = c * (K - 1) := by
        split
        · rw [Int.mul_comm]
        · have : c = 0 := by omega
          subst this; simp
      rw [e1]
      constructor <;> omega
    · rw [if_pos (by omega), if_neg (by omega)]
      have m1 := Int.mul_le_mul_of_nonneg_left b1 (show 0 ≤ -c by omega)
      have m2 := Int.mul_le_mul_of_nonneg_left (show d' ≤ e + (K - 1) by omega) (show 0 ≤ -c by omega)
      rw [Int.mul_add] at m2
      simp only [Int.neg_mul] at m1 m2
      rw [Int.mul_comm (K - 1) c]
      constructor <;> omega
  | [], _ :: _, _, hl => by simp at hl
  | _ :: _, [], _, hl => by simp at hl
/-- more places let by no more -/
theorem may_more {row : List (Int × Int)} {ts : List Int} {p p' : Nat} (hok : ∀ q ∈ row, NumOk q) (hl : row.length = ts.length) (hp : p ≤ p') (h : mayF (digL row p') ts = true) : mayF (digL row p) ts = true := by
  obtain ⟨k, rfl⟩ : ∃ k, p' = p + k := ⟨p' - p, by omega⟩
  obtain ⟨b1, b2⟩ := dot_more (p := p) (k := k) row ts hok hl
  have hK := ten_pos k
  unfold mayF at h ⊢
  simp at h ⊢
  obtain ⟨h1, h2⟩ := h
  generalize dotP ts (digL row p) = x at *
  generalize dotP ts (digL row (p + k)) = x' at *
  generalize (10 : Int) ^ k = K at *
  rw [Int.sub_mul, Int.one_mul] at b1 b2
  have d1 : (x + negS ts) * K ≤ 0 := by rw [Int.add_mul, Int.mul_comm (negS ts)]; omega
  have d2 : 0 ≤ (x + posS ts) * K := by rw [Int.add_mul, Int.mul_comm (posS ts)]; omega
  constructor
  · rcases Int.lt_or_le 0 (x + negS ts) with z | z
    · have := Int.mul_pos z hK; omega
    · exact z
  · rcases Int.lt_or_le (x + posS ts) 0 with z | z
    · have := Int.mul_neg_of_neg_of_pos z hK; omega
    · exact z
end DL

/-! rows_up_to, may_be, perhaps, enough. -/
namespace DL
open PySem L2 LamX
def rowsUp (n : Nat) (s : Nat) : List (List Int) := (upI 1 s).flatMap fun o => (ofSz n o).filter begB
theorem rowsUp_len {n s : Nat} (h1 : 1 ≤ n) (h5 : n ≤ 5) (h8 : s ≤ 8) : (rowsUp n s).length ≤ 11358856 := by
  have := flat_len (g := fun o => (ofSz n o).filter begB) (b := 1419857) (upI 1 s) (fun o ho => by
    have ho := mem_upI.mp ho
    exact Nat.le_trans (List.length_filter_le _ _) (ofSz_len h1 h5 (by omega) (by omega)))
  rw [upI_len] at this
  have a := Nat.mul_le_mul_right 1419857 h8
  show (List.flatMap _ _).length ≤ _
  omega
theorem rowsUp_row {n s : Nat} {t : List Int} (h1 : 1 ≤ n) (h8 : s ≤ 8) (h : t ∈ rowsUp n s) : t.length = n := by
  obtain ⟨o, ho, ht⟩ := List.mem_flatMap.mp h
  have ho := mem_upI.mp ho
  obtain ⟨k, rfl⟩ : ∃ k, n = k + 1 := ⟨n - 1, by omega⟩
  have ht := (List.mem_filter.mp ht).1
  rw [ofSz_law k o (by omega)] at ht
  exact (lawSz_row (by omega) ht).1
def F_rows_up_to : Ct := fun xs q _ => match xs with
  | [.d (.int m), .d (.int s)] => 1 ≤ m ∧ m ≤ 5 ∧ 0 ≤ s ∧ s ≤ 8 ∧ q (ttD (rowsUp m.toNat s.toNat))
  | _ => False
theorem hn_rows_up_to (xs : List Vl) (q : D → Prop) (xc : DX) (h : F_rows_up_to xs q xc) : xs.length = 2 := by
  unfold F_rows_up_to at h; split at h
  · rfl
  · exact h.elim
theorem int_inv {ns : List Int} {x : D} {r : List D} (e : x :: r = ns.map .int) : ∃ i ns2, ns = i :: ns2 ∧ x = .int i ∧ r = ns2.map .int := by
  cases ns with
  | nil => cases e
  | cons i ns2 => injection e with z1 z2; exact ⟨i, ns2, rfl, z1, z2⟩
theorem sem_rows_up_to (xs : List Vl) (q : D → Prop) (xc : DX) (h : F_rows_up_to xs q xc) : t_rows_up_to F_of_size F_begins_above (En q xc) (dstart ["many", "size", "found", "own", "times"] xs) := by
  unfold F_rows_up_to at h; split at h
  · rename_i m s
    obtain ⟨h1, h5, h0, h8, h⟩ := h
    simp only [t_rows_up_to, dstart]
    simp
    refine ⟨⟨by omega, by omega⟩, ?_⟩
    rw [upI_D]
    have hlen := rowsUp_len (n := m.toNat) (s := s.toNat) (by omega) (by omega) (by omega)
    refine for_ind (fun ds ρ => ∃ (pre post : List Int) (v : Option Vl), upI 1 s.toNat = pre ++ post ∧ ds = post.map .int ∧ ρ = [some (.d (.int m)), some (.d (.int s)), some (.o (.list ((pre.flatMap fun o => (ofSz m.toNat o).filter begB).map tD))), v, none])
      ⟨[], upI 1 s.toNat, none, rfl, rfl, rfl⟩ (fun x r ρ K hI hK => ?_) (fun ρ hI => ?_)
    · obtain ⟨pre, post, v, e1, e2, rfl⟩ := hI
      obtain ⟨f, post2, rfl, rfl, rfl⟩ := int_inv e2
      have hf := mem_upI.mp (show f ∈ upI 1 s.toNat by rw [e1]; simp)
      have hpl := pre_len (g := fun o => (ofSz m.toNat o).filter begB) e1
      have fin := fun W (hW : (pre.flatMap fun o => (ofSz m.toNat o).filter begB) = W) => hK [some (.d (.int m)), some (.d (.int s)), some (.o (.list ((W ++ (ofSz m.toNat f).filter begB).map tD))), some (.d (.int f)), none] ⟨pre ++ [f], post2, some (.d (.int f)), by rw [e1]; simp, rfl, by rw [← hW]; simp⟩
      have hlen2 : (pre.flatMap fun o => (ofSz m.toNat o).filter begB).length + ((ofSz m.toNat f).filter begB).length ≤ 11358856 := Nat.le_trans hpl hlen
      generalize hW : (pre.flatMap fun o => (ofSz m.toNat o).filter begB) = W at hlen2
      have fin := fin W hW
      have hsz := ofSz_len (n := m.toNat) (s := f) (by omega) (by omega) (by omega) (by omega)
      refine ⟨_, rfl, ?_⟩
      simp only [s_dExt, List.set_cons_succ, List.set_cons_zero, List.getElem?_cons_zero, List.getElem?_cons_succ, s_ownLo, s_dLc, s_dWalk, s_dCall, s_dCons, s_dNil, s_dVar, s_gVar]
      refine ⟨rfl, rfl, 8, by omega, ⟨h1, by omega, h5, by omega, by omega, ?_⟩⟩
      show lcL _ _ _ _ ((ofSz m.toNat f).map tD) [] _
      refine lc_tts (p := begB) (few24 (m := 1419857) (by omega)) (fun t ht k hk => ?_) (fun t ht Q hQ => ?_) ?_
      · have htl : t.length ≤ 1000 := by
          obtain ⟨j, hj⟩ : ∃ j, m.toNat = j + 1 := ⟨m.toNat - 1, by omega⟩
          rw [hj, ofSz_law j f (by omega)] at ht
          have := (lawSz_row (by omega) ht).1
          omega
        exact ⟨rfl, t, tsOf_tD t, htl, hk⟩
      · exact hQ
      · refine ⟨few24 (m := 11358856) (by rw [List.length_map, List.length_map]; exact hlen2), ?_⟩
        rw [← List.map_append]
        exact fin
    · obtain ⟨pre, post, v, e1, e2, rfl⟩ := hI
      have : post = [] := by cases post with | nil => rfl | cons a b => cases e2
      subst this
      rw [List.append_nil] at e1
      unfold rowsUp at h
      rw [e1] at h
      exact h
  · exact h.elim
/-! ### may_be -/
def F_may_be : Ct := fun xs q _ => match xs with
  | [.d x, .d y] => ∃ ds ts, tsOf x = some ds ∧ tsOf y = some ts ∧ ts.length ≤ 1000 ∧ (∀ c ∈ ts, aI c ≤ 1000) ∧ q (.bool (mayF ds ts))
  | _ => False
theorem hn_may_be (xs : List Vl) (q : D → Prop) (xc : DX) (h : F_may_be xs q xc) : xs.length = 2 := by
  unfold F_may_be at h; split at h
  · rfl
  · exact h.elim
def mulP : D → D
  | .tuple [.int c, .int d] => .int (c * d)
  | x => x
theorem zip_mul : ∀ (ts ds : List Int), ((zipD (ts.map .int) (ds.map .int)).map mulP) = ((List.zip ts ds).map fun p => p.1 * p.2).map .int
  | [], _ => rfl
  | _ :: _, [] => rfl
  | c :: ts, d :: ds => by
    show PyData.int (c * d) :: (zipD (ts.map .int) (ds.map .int)).map mulP = _
    rw [zip_mul ts ds]
    rfl
theorem zip_sum : ∀ (ts ds : List Int), ((List.zip ts ds).map fun p => p.1 * p.2).sum = dotP ts ds
  | [], _ => by simp [dotP]
  | _ :: _, [] => by simp [dotP]
  | c :: ts, d :: ds => by
    rw [List.zip_cons_cons, List.map_cons, List.sum_cons, zip_sum ts ds]
    rfl
theorem zip_mem {ts ds : List Int} {x : D} (h : x ∈ zipD (ts.map .int) (ds.map .int)) : ∃ c d, x = .tuple [.int c, .int d] ∧ c ∈ ts ∧ d ∈ ds := by
  obtain ⟨i, hi⟩ := List.getElem?_of_mem h
  obtain ⟨a, b, rfl, h1, h2⟩ := zipD_get hi
  obtain ⟨c, hc, rfl⟩ := List.mem_map.mp (List.mem_of_getElem? h1)
  obtain ⟨d, hd, rfl⟩ := List.mem_map.mp (List.mem_of_getElem? h2)
  exact ⟨c, d, rfl, hc, hd⟩
theorem sem_may_be (xs : List Vl) (q : D → Prop) (xc : DX) (h : F_may_be xs q xc) : t_may_be (En q xc) (dstart ["digits", "times", "middle", "low", "one", "own"] xs) := by
  unfold F_may_be at h; split at h
  · obtain ⟨ds, ts, ex, ey, hl, hc, h⟩ := h
    cases tsOf_eq ex
    cases tsOf_eq ey
    simp only [t_may_be, dstart]
    simp [tD]
    refine ⟨rfl, lc_map (f := mulP) (p := fun _ => true) _ [] _ (by
      rw [zipD_len, List.length_map, List.length_map, List.length_nil]
      exact few (m := 1000) (by omega)) (fun d hd => ?_) (fun d hd _ => ?_) ?_⟩
    · obtain ⟨c, z, rfl, _, _⟩ := zip_mem hd
      exact ⟨_, rfl, fun k hk => hk⟩
    · obtain ⟨c, z, rfl, hcm, _⟩ := zip_mem hd
      refine ⟨_, rfl, fun Q hQ => ?_⟩
      have := hc c hcm
      simp [wipeD, gMul_i]
      exact ⟨cml_l (by unfold aI at this; split at this <;> omega) (by unfold aI at this; split at this <;> omega), hQ⟩
    · rw [List.nil_append, List.filter_eq_self.mpr (fun _ _ => rfl), zip_mul, gSum_of (ints?_map _), zip_sum]
      simp
      refine ⟨rfl, lc_ints (p := fun c => decide (c < 0)) (few hl) (fun c _ k hk => by simpa [wipeD] using hk) (fun c _ Q hQ => by simpa [wipeD] using hQ) ?_⟩
      rw [gSum_of (ints?_map _)]
      simp
      refine ⟨fun hlo => ⟨rfl, lc_ints (p := fun c => decide (0 < c)) (few hl) (fun c _ k hk => by simpa [wipeD] using hk) (fun c _ Q hQ => by simpa [wipeD] using hQ) ?_⟩, fun hlo => ?_⟩
      · rw [gSum_of (ints?_map _)]
        simp
        have e : mayF ds ts = decide (0 ≤ dotP ts ds + posS ts) := by
          unfold mayF
          have : dotP ts ds + negS ts ≤ 0 := hlo
          simp [this]
        rw [e] at h
        exact h
      · have e : mayF ds ts = false := by
          unfold mayF
          have : ¬ dotP ts ds + negS ts ≤ 0 := by show ¬ _ ≤ (0 : Int); unfold negS; omega
          simp [this]
        rw [e] at h
        exact h
  · exact h.elim
end DL

/-! perhaps, enough, the law's own perhaps. -/
namespace DL
open PySem L2 LamX
theorem rowsUp_small {n s : Nat} {t : List Int} (h1 : 1 ≤ n) (h8 : s ≤ 8) (h : t ∈ rowsUp n s) : ∀ c ∈ t, aI c ≤ 8 := by
  obtain ⟨o, ho, ht⟩ := List.mem_flatMap.mp h
  have ho := mem_upI.mp ho
  obtain ⟨k, rfl⟩ : ∃ k, n = k + 1 := ⟨n - 1, by omega⟩
  have ht := (List.mem_filter.mp ht).1
  rw [ofSz_law k o (by omega)] at ht
  intro c hc
  have := (lawSz_row (by omega) ht).2 c hc
  omega
/-- a row of numbers as data -/
theorem row_inv {x : D} (h : isRow x = true) : ∃ rs : List (Int × Int), x = .list (rs.map numD) ∧ (∀ q ∈ rs, NumOk q) ∧ 1 ≤ rs.length ∧ rs.length ≤ 5 := by
  unfold isRow at h
  split at h
  · rename_i ds
    simp at h
    obtain ⟨⟨h1, h5⟩, hall⟩ := h
    have key : ∀ ds : List D, (∀ d ∈ ds, isNum d = true) → ∃ rs : List (Int × Int), ds = rs.map numD ∧ ∀ q ∈ rs, NumOk q := by
      intro ds
      induction ds with
      | nil => intro _; exact ⟨[], rfl, by simp⟩
      | cons d ds ih =>
        intro h
        obtain ⟨rs, e1, e2⟩ := ih fun x hx => h x (List.mem_cons_of_mem _ hx)
        have hd := h d List.mem_cons_self
        unfold isNum at hd
        split at hd
        · rename_i a b
          rw [Bool.and_eq_true] at hd
          obtain ⟨c1, c2⟩ := hd
          unfold isCnt at c1 c2
          split at c1
          · rename_i t
            split at c2
            · rename_i u
              simp at c1 c2
              exact ⟨(t, u) :: rs, by rw [List.map_cons, ← e1]; rfl, fun q hq => by
                rcases List.mem_cons.mp hq with rfl | hq
                · exact ⟨c1.1, c1.2, c2.1, c2.2⟩
                · exact e2 q hq⟩
            · cases c2
          · cases c1
        · cases hd
    obtain ⟨rs, e1, e2⟩ := key ds hall
    subst e1
    rw [List.length_map] at h1 h5
    exact ⟨rs, rfl, e2, h1, h5⟩
  · cases h
theorem cnt_inv {x : D} {l h : Int} (e : isCnt x l h = true) : ∃ i, x = .int i ∧ l ≤ i ∧ i ≤ h := by
  unfold isCnt at e
  split at e
  · rename_i i
    simp at e
    exact ⟨i, rfl, e.1, e.2⟩
  · cases e
def dgN (p : Nat) : D → D
  | .tuple [.int t, .int u] => .int (digF t u p)
  | x => x
theorem lc_digits {ρ : DSt} {i : Nat} {te : DE} {rs : List (Int × Int)} {p : Nat} {k : List D → Prop} (hl : rs.length ≤ 1000) (h : ∀ q ∈ rs, ∀ Q : Vl → Prop, Q (.d (.int (digF q.1 q.2 p))) → te noX (ρ.set i (some (.d (numD q)))) Q) (hk : k ((digL rs p).map .int)) :
    lcL (.nm i) dYes te ρ (rs.map numD) [] k := by
  refine lc_nm (f := dgN p) (by rw [List.length_map]; exact few hl) (fun d hd Q hQ => ?_) ?_
  · obtain ⟨q, hq, rfl⟩ := List.mem_map.mp hd
    exact h q hq Q hQ
  · have e : (rs.map numD).map (dgN p) = (digL rs p).map .int := by
      unfold digL
      rw [List.map_map, List.map_map]
      rfl
    exact e ▸ hk
def F_perhaps : Ct := fun xs q xc => match xs with
  | [.d x, .d y, .d z] => bc (isRow x) (bc (isCnt y 0 30) (bc (isCnt z 1 8) (∃ (rs : List (Int × Int)) (p s : Int), x = .list (rs.map numD) ∧ y = .int p ∧ z = .int s ∧ (∀ q ∈ rs, NumOk q) ∧ q (ttD ((rowsUp rs.length s.toNat).filter (mayF (digL rs p.toNat))))) (xc "BadNumber")) (xc "BadNumber")) (xc "BadRow")
  | _ => False
theorem hn_perhaps (xs : List Vl) (q : D → Prop) (xc : DX) (h : F_perhaps xs q xc) : xs.length = 3 := by
  unfold F_perhaps at h; split at h
  · rfl
  · exact h.elim
theorem sem_perhaps (xs : List Vl) (q : D → Prop) (xc : DX) (h : F_perhaps xs q xc) : t_perhaps F_need_row F_need_count F_digits_of F_rows_up_to F_may_be (En q xc) (dstart ["row", "places", "size", "digits", "number", "times"] xs) := by
  unfold F_perhaps at h; split at h
  · rename_i x y z
    simp only [t_perhaps, dstart]
    simp [F_need_row, F_need_count]
    cases hx : isRow x with
    | false => rw [hx] at h; exact h
    | true =>
      rw [hx] at h
      simp only [s_bcT] at h ⊢
      cases hy : isCnt y 0 30 with
      | false => rw [hy] at h; exact h
      | true =>
        rw [hy] at h
        simp only [s_bcT] at h ⊢
        cases hz : isCnt z 1 8 with
        | false => rw [hz] at h; exact h
        | true =>
          rw [hz] at h
          simp only [s_bcT] at h ⊢
          obtain ⟨rs, p, s, rfl, rfl, rfl, hok, h⟩ := h
          obtain ⟨_, ep, hp0, hp1⟩ := cnt_inv hy
          cases ep
          obtain ⟨_, es, hs0, hs1⟩ := cnt_inv hz
          cases es
          have hr : 1 ≤ rs.length ∧ rs.length ≤ 5 := by
            obtain ⟨rs2, e1, _, e3, e4⟩ := row_inv hx
            have := congrArg List.length (PyData.list.inj e1)
            rw [List.length_map, List.length_map] at this
            omega
          simp
          refine ⟨rfl, lc_digits (p := p.toNat) (by omega) (fun q hq Q hQ => ?_) ?_⟩
          · obtain ⟨n1, n2, n3, n4⟩ := hok q hq
            simp [wipeD, F_digits_of, numD]
            exact ⟨by omega, n3, by omega, hp0, by omega, hQ⟩
          · simp [F_rows_up_to]
            refine ⟨rfl, by omega, by omega, by omega, hs1, ?_⟩
            have hlen := rowsUp_len (n := rs.length) (s := s.toNat) hr.1 hr.2 (by omega)
            show lcL _ _ _ _ ((rowsUp rs.length s.toNat).map tD) [] _
            refine lc_tts (p := mayF (digL rs p.toNat)) (few24 (m := 11358856) hlen) (fun t ht k hk => ?_) (fun t ht Q hQ => hQ) h
            have tl := rowsUp_row hr.1 (by omega) ht
            have ts := rowsUp_small hr.1 (by omega) ht
            exact ⟨rfl, digL rs p.toNat, t, tsOf_tD _, tsOf_tD t, by omega, fun c hc => by have := ts c hc; omega, hk⟩
  · exact h.elim
/-! ### enough -/
def leftL (rs : List (Int × Int)) (s : Nat) : List (List Int) := (rowsUp rs.length s).filter fun t => !(partsL rs t).isEmpty
def enF (rs : List (Int × Int)) (s : Nat) : Option Nat := (List.range 31).find? fun p => !((leftL rs s).any fun t => mayF (digL rs p) t)
def enD : Option Nat → D
  | some p => .int (p : Nat)
  | none => .none
def F_enough : Ct := fun xs q xc => match xs with
  | [.d x, .d z] => bc (isRow x) (bc (isCnt z 1 8) (∃ (rs : List (Int × Int)) (s : Int), x = .list (rs.map numD) ∧ z = .int s ∧ (∀ q ∈ rs, NumOk q) ∧ q (enD (enF rs s.toNat))) (xc "BadNumber")) (xc "BadRow")
  | _ => False
theorem hn_enough (xs : List Vl) (q : D → Prop) (xc : DX) (h : F_enough xs q xc) : xs.length = 2 := by
  unfold F_enough at h; split at h
  · rfl
  · exact h.elim
theorem merge_empty (ps : List (Int × D)) : (mergeI [] ps).isEmpty = ps.isEmpty := by
  have key : ∀ (ps : List (Int × D)) (es : List (D × D)), es ≠ [] → mergeI es ps ≠ [] := by
    intro ps
    induction ps with
    | nil => intro es h; exact h
    | cons p ps ih =>
      intro es h
      refine ih _ fun z => ?_
      have z : putI es p.1 p.2 = [] := z
      unfold putI at z
      split at z
      · exact h (List.map_eq_nil_iff.mp z)
      · simp at z
  cases ps with
  | nil => rfl
  | cons p ps =>
    have := key ps (putI [] p.1 p.2) (by simp [putI])
    show (mergeI (putI [] p.1 p.2) ps).isEmpty = false
    cases q : mergeI (putI [] p.1 p.2) ps with
    | nil => exact absurd q this
    | cons _ _ => rfl
theorem sem_enough (xs : List Vl) (q : D → Prop) (xc : DX) (h : F_enough xs q xc) : t_enough F_need_row F_need_count F_rows_up_to F_parts_of F_digits_of F_may_be (En q xc) (dstart ["row", "size", "left", "places", "digits", "times", "number"] xs) := by
  unfold F_enough at h; split at h
  · rename_i x z
    simp only [t_enough, dstart]
    simp [F_need_row, F_need_count]
    cases hx : isRow x with
    | false => rw [hx] at h; exact h
    | true =>
      rw [hx] at h
      simp only [s_bcT] at h ⊢
      cases hz : isCnt z 1 8 with
      | false => rw [hz] at h; exact h
      | true =>
        rw [hz] at h
        simp only [s_bcT] at h ⊢
        obtain ⟨rs, s, rfl, rfl, hok, h⟩ := h
        obtain ⟨_, es, hs0, hs1⟩ := cnt_inv hz
        cases es
        have hr : 1 ≤ rs.length ∧ rs.length ≤ 5 := by
          obtain ⟨rs2, e1, _, e3, e4⟩ := row_inv hx
          have := congrArg List.length (PyData.list.inj e1)
          rw [List.length_map, List.length_map] at this
          omega
        simp [F_rows_up_to]
        refine ⟨rfl, by omega, by omega, by omega, hs1, ?_⟩
        have hlen := rowsUp_len (n := rs.length) (s := s.toNat) hr.1 hr.2 (by omega)
        show lcL _ _ _ _ ((rowsUp rs.length s.toNat).map tD) [] _
        refine lc_tts (p := fun t => !(partsL rs t).isEmpty) (few24 (m := 11358856) hlen) (fun t ht k hk => ?_) (fun t ht Q hQ => hQ) ?_
        · simp [wipeD, F_parts_of]
          refine ⟨rs, rfl, fun a b hab => hok _ hab, by omega, t, tsOf_tD t, ?_⟩
          rw [merge_empty]
          simpa using hk
        · have hll : (leftL rs s.toNat).length ≤ 11358856 := Nat.le_trans (List.length_filter_le _ _) hlen
          have hle : ∀ t ∈ leftL rs s.toNat, t.length = rs.length ∧ ∀ c ∈ t, aI c ≤ 8 := fun t ht => by
            have ht := (List.mem_filter.mp ht).1
            exact ⟨rowsUp_row hr.1 (by omega) ht, rowsUp_small hr.1 (by omega) ht⟩
          rw [upI_D]
          refine for_ind (fun ds ρ => ∃ (a : Nat) (v1 v2 : Option Vl), a ≤ 31 ∧ ds = (upI (a : Nat) (31 - a)).map .int ∧ (List.range a).find? (fun p => !((leftL rs s.toNat).any fun t => mayF (digL rs p) t)) = none ∧ ρ = [some (.d (.list (rs.map numD))), some (.d (.int s)), some (.d (ttD (leftL rs s.toNat))), v1, v2, none, none])
            ⟨0, none, none, by omega, rfl, rfl, rfl⟩ (fun d r ρ K hI hK => ?_) (fun ρ hI => ?_)
          · obtain ⟨a, v1, v2, ha, e1, e2, rfl⟩ := hI
            have ha2 : a < 31 := by
              rcases Nat.lt_or_ge a 31 with q | q
              · exact q
              · rw [show 31 - a = 0 by omega] at e1; cases e1
            rw [show 31 - a = (30 - a) + 1 by omega, upI_succ] at e1
            injection e1 with e1 e1'
            subst e1 e1'
            refine ⟨_, rfl, ?_⟩
            simp
            refine ⟨rfl, lc_digits (p := a) (by omega) (fun q hq Q hQ => ?_) ?_⟩
            · obtain ⟨n1, n2, n3, n4⟩ := hok q hq
              simp [wipeD, F_digits_of, numD]
              exact ⟨by omega, n3, by omega, by omega, hQ⟩
            · refine ⟨rfl, ?_⟩
              show lcL _ _ _ _ ((leftL rs s.toNat).map tD) [] _
              refine lc_nm (f := fun d => .bool (lP (mayF (digL rs a)) d)) (by rw [List.length_map]; exact few24 (m := 11358856) hll) (fun d hd Q hQ => ?_) ?_
              · obtain ⟨t, ht, rfl⟩ := List.mem_map.mp hd
                rw [lP_tD] at hQ
                obtain ⟨g1, g2⟩ := hle t ht
                exact ⟨rfl, digL rs a, t, tsOf_tD _, tsOf_tD t, by omega, fun c hc => by have := g2 c hc; omega, hQ⟩
              · rw [gAny_of (bools_map _ _)]
                have eA : (((leftL rs s.toNat).map tD).map (lP (mayF (digL rs a)))).any id = (leftL rs s.toNat).any fun t => mayF (digL rs a) t := by
                  rw [List.any_map, List.any_map]
                  congr 1
                  funext t
                  exact lP_tD _ t
                rw [eA]
                have step : ∀ b : Bool, ((leftL rs s.toNat).any fun t => mayF (digL rs a) t) = b → (List.range (a + 1)).find? (fun p => !((leftL rs s.toNat).any fun t => mayF (digL rs p) t)) = bif b then none else some a := fun b hb => by
                  rw [List.range_succ, List.find?_append, e2, Option.none_or, List.find?_cons, hb]
                  cases b <;> rfl
                cases hA : (leftL rs s.toNat).any fun t => mayF (digL rs a) t with
                | true =>
                  exact hK _ ⟨a + 1, some (.d (.int (a : Nat))), some (.d (tD (digL rs a))), by omega, by rw [show 31 - (a + 1) = 30 - a by omega]; rfl, step true hA, rfl⟩
                | false =>
                  have e3 : enF rs s.toNat = some a := by
                    unfold enF
                    rw [show (31 : Nat) = (a + 1) + (30 - a) by omega, List.range_add, List.find?_append, step false hA]
                    rfl
                  rw [e3] at h
                  exact h
          · obtain ⟨a, v1, v2, ha, e1, e2, rfl⟩ := hI
            have : a = 31 := by
              have := congrArg List.length e1
              rw [List.length_map, upI_len] at this
              simp at this
              omega
            subst this
            have e3 : enF rs s.toNat = none := e2
            rw [e3] at h
            exact h
  · exact h.elim
end DL

/-! More values of expressions. -/
namespace DL
open PySem L2 LamX
theorem ev_ix {ρ : DSt} {a b : DE} {ds : List D} {i : Int} {v : D} (h1 : Ev ρ a (.list ds)) (h2 : Ev ρ b (.int i)) (h : L2.atI ds i = some v) : Ev ρ (dOp gIx a b) v := fun xc Q hQ => h1 xc _ (h2 xc _ (by rw [gIx_list h]; exact hQ))
theorem ev_ixT {ρ : DSt} {a b : DE} {ds : List D} {i : Int} {v : D} (h1 : Ev ρ a (.tuple ds)) (h2 : Ev ρ b (.int i)) (h : L2.atI ds i = some v) : Ev ρ (dOp gIx a b) v := fun xc Q hQ => h1 xc _ (h2 xc _ (by rw [gIx_tup h]; exact hQ))
theorem sq_rng2 {ρ : DSt} {e : DEnds} {u : DS} {Al : DA} {tt : Tgt} {tb : DS} {i j : Int} (h : EvA ρ Al [.int i, .int j]) (hb : -(2 ^ 62) ≤ i ∧ i < 2 ^ 62 ∧ -(2 ^ 62) ≤ j ∧ j < 2 ^ 62) (k : forL tt tb { e with nx := u e } (rangeD i (j - i).toNat) ρ) : dSeq (dFor (dRng2 Al) tt tb) u e ρ := h _ _ ⟨hb, k⟩
theorem ev_isN {ρ : DSt} {a : DE} {x : D} (h : Ev ρ a x) : Ev ρ (dOp gIs a (dC .none)) (.bool (isNone (.d x))) := fun xc Q hQ => h xc _ (by
  show gIs (.d x) (.d .none) Q
  rw [s_gIsN]; exact hQ)
theorem ev_isNotN {ρ : DSt} {a : DE} {x : D} (h : Ev ρ a x) : Ev ρ (dOp gIsNot a (dC .none)) (.bool (!isNone (.d x))) := fun xc Q hQ => h xc _ (by
  show gIsNot (.d x) (.d .none) Q
  rw [s_gIsNotN]; exact hQ)
theorem evt_isNotT {ρ : DSt} {a : DE} (h : Ev ρ a (.bool true)) : EvT ρ (dTest (dOp gIsNot a (dC (.bool true)))) false := evt_val (fun xc Q hQ => h xc _ hQ)
theorem ev_ifE {ρ : DSt} {t : DT} {a b : DE} {c : Bool} {x : D} (h : EvT ρ t c) (h1 : c = true → Ev ρ a x) (h2 : c = false → Ev ρ b x) : Ev ρ (dIfE t a b) x := fun xc Q hQ => h xc _ (by
  cases c with
  | true => exact h1 rfl xc Q hQ
  | false => exact h2 rfl xc Q hQ)
theorem evt_and {ρ : DSt} {t u : DT} {a b : Bool} (h1 : EvT ρ t a) (h2 : EvT ρ u b) : EvT ρ (dAnd t u) (a && b) := by
  cases a with
  | true => exact evt_andT h1 h2
  | false => exact evt_andF h1
theorem ev_fdiv {ρ : DSt} {a b : DE} {i j : Int} (h1 : Ev ρ a (.int i)) (h2 : Ev ρ b (.int j)) (hj : 0 < j) (hj2 : j < 2 ^ 64) : Ev ρ (dOp gFdiv a b) (.int (i / j)) := fun xc Q hQ => h1 xc _ (h2 xc _ (by
  show gFdiv (.d (.int i)) (.d (.int j)) Q
  rw [gFdiv_i]
  refine ⟨cdv_of (by omega) (by omega) (by omega), ?_⟩
  rw [fdiv_pos hj]
  exact hQ))
theorem ev_mod {ρ : DSt} {a b : DE} {i j : Int} (h1 : Ev ρ a (.int i)) (h2 : Ev ρ b (.int j)) (hj : 0 < j) (hj2 : j < 2 ^ 62) : Ev ρ (dOp gMod a b) (.int (i % j)) := fun xc Q hQ => h1 xc _ (h2 xc _ (by
  show gMod (.d (.int i)) (.d (.int j)) Q
  rw [s_gMod]
  refine ⟨by omega, ?_⟩
  rw [fmod_pos hj]
  exact hQ))
theorem st_if {ρ : DSt} {e : DEnds} {tc : DT} {t f : DS} {b : Bool} (h : EvT ρ tc b) (h1 : b = true → t e ρ) (h2 : b = false → f e ρ) : dIf tc t f e ρ := h _ _ (by
  cases b with
  | true => exact h1 rfl
  | false => exact h2 rfl)
theorem sq_if {ρ : DSt} {e : DEnds} {u : DS} {tc : DT} {t : DS} {b : Bool} (h : EvT ρ tc b) (h1 : b = true → t { e with nx := u e } ρ) (h2 : b = false → u e ρ) : dSeq (dIf tc t dNext) u e ρ := h _ _ (by
  cases b with
  | true => exact h1 rfl
  | false => exact h2 rfl)
theorem sq_ifT {ρ : DSt} {e : DEnds} {u : DS} {tc : DT} {t f : DS} (h : EvT ρ tc true) (h1 : t { e with nx := u e } ρ) : dSeq (dIf tc t f) u e ρ := h _ _ h1
theorem evt_or {ρ : DSt} {t u : DT} {a b : Bool} (h1 : EvT ρ t a) (h2 : a = false → EvT ρ u b) : EvT ρ (dOr t u) (a || b) := by
  cases a with
  | true => exact evt_orT h1
  | false => exact evt_orF h1 (h2 rfl)
theorem ev_andV {ρ : DSt} {ta tb : DE} {a b : Bool} (h1 : Ev ρ ta (.bool a)) (h2 : a = true → Ev ρ tb (.bool b)) : Ev ρ (dAndV ta tb) (.bool (a && b)) := fun xc Q hQ => h1 xc _ (by
  cases a with
  | true => exact h2 rfl xc _ hQ
  | false => exact hQ)
theorem ev_lenT {ρ : DSt} {a : DE} {i : List D} (h1 : Ev ρ a (.tuple i)) : Ev ρ (dCB gLen (dCons a dNil)) (.int i.length) := fun xc Q hQ => h1 xc _ hQ
theorem ev_isT {ρ : DSt} {a : DE} {x : D} (h : Ev ρ a x) : Ev ρ (dIsi "tuple" a) (.bool (isT x)) := fun xc Q hQ => h xc _ (by
  show gIsi "tuple" (some x) Q
  rw [s_isT]; exact hQ)
theorem ev_isL {ρ : DSt} {a : DE} {x : D} (h : Ev ρ a x) : Ev ρ (dIsi "list" a) (.bool (isL x)) := fun xc Q hQ => h xc _ (by
  show gIsi "list" (some x) Q
  rw [s_isL]; exact hQ)
theorem ev_ge {ρ : DSt} {a b : DE} {i j : Int} (h1 : Ev ρ a (.int i)) (h2 : Ev ρ b (.int j)) : Ev ρ (dOp gGe a b) (.bool (decide (j ≤ i))) := fun xc Q hQ => h1 xc _ (h2 xc _ hQ)
theorem ev_eqI {ρ : DSt} {a b : DE} {i j : Int} (h1 : Ev ρ a (.int i)) (h2 : Ev ρ b (.int j)) : Ev ρ (dOp gEq a b) (.bool (decide (i = j))) := by
  have := ev_eq h1 h2 rfl rfl
  rw [eqv_int] at this
  exact this
theorem ev_neI {ρ : DSt} {a b : DE} {i j : Int} (h1 : Ev ρ a (.int i)) (h2 : Ev ρ b (.int j)) : Ev ρ (dOp gNe a b) (.bool (!decide (i = j))) := by
  have := ev_ne h1 h2 rfl rfl
  rw [eqv_int] at this
  exact this
theorem sq_draw {ρ : DSt} {e : DEnds} {u : DS} {ns : List Int} {k : Int} {i j : Nat} (h0 : ρ[0]? = some (some (.s ns))) (h1 : ρ[j]? = some (some (.d (.int k)))) (hns : ns.length < 2 ^ 60) (hk0 : 0 ≤ k) (hk1 : k < 100) (h : ∀ more : Int, 0 ≤ more → more < 340282366920938463463374607431768211507 → u e (ρ.set i (some (.d (.int more))))) :
    dSeq (dSet i (dCall F__law_drawn (dCons (dCall F__law_cell (dCons (dVar 0) (dCons (dVar j) (dNil)))) (dCons (dVar j) (dNil))))) u e ρ := by
  simp only [s_dSeq, s_dSet, s_dCall, s_dCons, s_dNil, s_dVar, h0, h1, s_gVar, s_noOwnS, s_noOwnD, s_noOwn0, true_and, F__law_cell, F__law_drawn, s_gSet]
  exact ⟨hk0, by omega, hns, fun c more hm0 hm1 => h more hm0 hm1⟩
/-- the loop over the cells of a script -/
theorem law_for {ns : List Int} {N : Int} {j : Nat} (hN : 1 ≤ N ∧ N < 100) {tb u : DS} {e : DEnds} {ρ0 : DSt} (h0 : ρ0[0]? = some (some (.s ns))) (hns : ns.length < 2 ^ 60) (I : DSt → Prop) (hI : I ρ0) (step : ∀ (k : Int) (ρ : DSt) (K : DSt → Prop), 0 ≤ k → k < 100 → I ρ → (∀ ρ, I ρ → K ρ) → tb { e with nx := K, ct := K, bk := u e } (ρ.set j (some (.d (.int k))))) (fin : ∀ ρ, I ρ → u e ρ) :
    dSeq (dFor (dRng1 (dCons (dCB gMax2 (dCons (dC (.int 1)) (dCons (dCB gMin2 (dCons (dC (.int N)) (dCons (dCB gLen (dCons (dVar 0) (dNil))) (dNil)))) (dNil)))) (dNil))) (.nm j) tb) u e ρ0 := by
  simp only [s_dSeq, s_dFor, s_dRng1, s_dCB, s_dCons, s_dNil, s_dC, s_dVar, h0, s_gVar, s_gLenS, s_gMin2, s_gMax2, s_gRng1]
  refine ⟨⟨by split <;> split <;> omega, by split <;> split <;> omega⟩, ?_⟩
  refine for_ind (fun es ρ => (∀ d ∈ es, ∃ k : Int, d = .int k ∧ 0 ≤ k ∧ k < 100) ∧ I ρ) ⟨?_, hI⟩ (fun d r ρ K hI hK => ?_) (fun ρ hI => fin ρ hI.2)
  · intro d hd
    unfold rangeD at hd
    obtain ⟨i, hi, rfl⟩ := List.mem_map.mp hd
    have := List.mem_range.mp hi
    refine ⟨_, rfl, by omega, ?_⟩
    revert this
    split <;> split <;> intro this <;> omega
  · obtain ⟨k, rfl, hk0, hk1⟩ := hI.1 d List.mem_cons_self
    exact ⟨_, rfl, step k ρ K hk0 hk1 hI.2 (fun ρ' h' => hK ρ' ⟨fun d hd => hI.1 d (List.mem_cons_of_mem _ hd), h'⟩)⟩
/-- a row is drawn -/
theorem sq_row {ρ : DSt} {e : DEnds} {u : DS} {i : Nat} {Al : DA} {m : Int} {c : Int} (ha : EvA ρ Al [.int m, .int c]) (c1 : 1 ≤ c) (c2 : c ≤ 1000) (h : ∀ rs : List (Int × Int), 1 ≤ rs.length → (rs.length : Int) ≤ c → (∀ p ∈ rs, NumOk p) → u e (ρ.set i (some (.d (.list (rs.map numD)))))) : dSeq (dSet i (dCall F__law_row Al)) u e ρ :=
by
  show dCall F__law_row Al e.xc ρ (fun v => gSet i v ρ (u e))
  exact call_ev ha ⟨c1, c2, fun rs h1 h2 h3 => h rs h1 h2 h3⟩
theorem sq_drop {ρ : DSt} {e : DEnds} {u : DS} {t : DE} (h : t e.xc ρ fun _ => u e ρ) : dSeq (dDrop t) u e ρ := h
end DL

/-! Values of expressions: piles. -/
namespace DL
open PySem L2 LamX
/-- a slot holds a pile with these rows -/
def IsP (ρ : DSt) (i : Nat) (C x : Addr) (rows : List D) : Prop := ρ[i]? = some (some (.r C x rows)) ∨ ∃ g st, ρ[i]? = some (some (.q C g st)) ∧ g.x = x ∧ st.rows = rows
theorem IsP.of {ρ : DSt} {i : Nat} {C x : Addr} {rows : List D} (h : IsP ρ i C x rows) {k : Addr → List D → Prop} (hk : k x rows) : pileOf ρ[i]? C k := by
  rcases h with h | ⟨g, st, h, h1, h2⟩
  · rw [h]; exact ⟨rfl, hk⟩
  · rw [h]; subst h1; subst h2; exact ⟨rfl, hk⟩
theorem isR {ρ : DSt} {i : Nat} {C x : Addr} {rows : List D} (h : ρ[i]? = some (some (.r C x rows))) : IsP ρ i C x rows := .inl h
theorem isQ {ρ : DSt} {i : Nat} {C : Addr} {g : Gh} {st : PSt} (h : ρ[i]? = some (some (.q C g st))) : IsP ρ i C g.x st.rows := .inr ⟨g, st, h, rfl, rfl⟩
section
variable {ρ : DSt} {e : DEnds} {u : DS} {C x : Addr} {rows : List D} {i : Nat}
theorem ev_rows (h : IsP ρ i C x rows) : Ev ρ (dRows C i) (.list rows) := fun xc Q hQ => h.of (k := fun _ rows => Q (.d (.list rows))) hQ
theorem s_noOwnR (C x : Addr) (rows : List D) (xs : List Vl) : noOwn (.r C x rows :: xs) = noOwn xs := rfl
theorem mth_ev {F : Ct} {Al : DA} {xc : DX} {Q : Vl → Prop} {ds : List D} (h : IsP ρ i C x rows) (ha : EvA ρ Al ds) (hf : F (.r C x rows :: ds.map .d) (fun d => Q (.d d)) xc) : dMth C i F Al xc ρ Q :=
  h.of (k := fun x rows => Al xc ρ fun xs => noOwn xs = true ∧ F (.r C x rows :: xs) (fun d => Q (.d d)) xc) (ha _ _ ⟨noOwn_map ds, hf⟩)
theorem ev_mth {F : Ct} {Al : DA} {ds : List D} {y : D} (h : IsP ρ i C x rows) (ha : EvA ρ Al ds) (hf : ∀ (q : D → Prop) (xc' : DX), q y → F (.r C x rows :: ds.map .d) q xc') : Ev ρ (dMth C i F Al) y := fun xc Q hQ => mth_ev h ha (hf _ _ hQ)
theorem ev_toldM {cs : List Str} {F : Ct} {Al : DA} {c : Str} {ds : List D} (h : IsP ρ i C x rows) (ha : EvA ρ Al ds) (hf : ∀ (q : D → Prop) (xc' : DX), xc' c → F (.r C x rows :: ds.map .d) q xc') (hc : cs.contains c = true) : Ev ρ (dTold cs (dMth C i F Al)) (.str c) := fun xc Q hQ => mth_ev h ha (hf _ _ ⟨hc, hQ⟩)
theorem ev_toldU {cs : List Str} {g : Gh} {st : PSt} (h : ρ[i]? = some (some (.q C g st))) (hp : st.past = []) (hc : cs.contains ("Nothing" : Str) = true) : Ev ρ (dTold cs (dUndoR C i)) (.str "Nothing") := fun xc Q hQ => by
  show ownQ ρ[i]? C _
  rw [h]
  exact ⟨rfl, hp, hc, hQ⟩
theorem ev_toldR {cs : List Str} {g : Gh} {st : PSt} (h : ρ[i]? = some (some (.q C g st))) (hp : st.ahead = []) (hc : cs.contains ("Nothing" : Str) = true) : Ev ρ (dTold cs (dRedoR C i)) (.str "Nothing") := fun xc Q hQ => by
  show ownQ ρ[i]? C _
  rw [h]
  exact ⟨rfl, hp, hc, hQ⟩
theorem ev_fnNew {F : Ct} {y : D} (hf : ∀ (x : Addr) (q : D → Prop) (xc' : DX), q y → F [.r C x []] q xc') : Ev ρ (dFnNew C F) y := fun xc Q hQ x => hf x _ _ hQ
theorem st_mut {G : Cm} {Al : DA} {ds : List D} {g : Gh} {st : PSt} {rows' : List D} (hq : ρ[i]? = some (some (.q C g st))) (ho : onlyQ ρ i) (ha : EvA ρ Al ds) (hp : st.past.length < 1000) (hf : ∀ qm : List D → Prop, qm rows' → G st.rows (ds.map .d) qm)
    (k : ∀ g', e.nx (ρ.set i (some (.q C g' ⟨rows', st.past ++ [.list st.rows], []⟩)))) : dMut C i G Al e ρ := by
  show ownQ ρ[i]? C _
  rw [hq]
  exact ⟨rfl, ha _ _ ⟨noOwn_map ds, ho, fewer (m := 999) (by omega), hf _ k⟩⟩
theorem sq_mut {G : Cm} {Al : DA} {ds : List D} {g : Gh} {st : PSt} {rows' : List D} (hq : ρ[i]? = some (some (.q C g st))) (ho : onlyQ ρ i) (ha : EvA ρ Al ds) (hp : st.past.length < 1000) (hf : ∀ qm : List D → Prop, qm rows' → G st.rows (ds.map .d) qm)
    (k : ∀ g', u e (ρ.set i (some (.q C g' ⟨rows', st.past ++ [.list st.rows], []⟩)))) : dSeq (dMut C i G Al) u e ρ := st_mut hq ho ha hp hf k
theorem sq_new (k : ∀ g, u e (ρ.set i (some (.q C g ⟨[], [], []⟩)))) : dSeq (dNew C i) u e ρ := k
theorem sq_newPar {j : Nat} {t : DE} {y : D} (h : Ev ρ t y) (k : ∀ g, u e ((ρ.set i (some (.q C g ⟨[], [], []⟩))).set j (some (.d y)))) : dSeq (dNewPar C i j t) u e ρ := h _ _ k
theorem sq_undo {g : Gh} {st : PSt} {p0 rows' : List D} (hq : ρ[i]? = some (some (.q C g st))) (ho : onlyQ ρ i) (h1 : st.past = p0 ++ [.list rows']) (h2 : okD 40 (.list st.past) = true) (h3 : st.ahead.length < 1000) (k : ∀ g', u e (ρ.set i (some (.q C g' ⟨rows', p0, st.ahead ++ [.list st.rows]⟩)))) : dSeq (dUndo C i) u e ρ := by
  show ownQ ρ[i]? C _
  rw [hq]
  exact ⟨rfl, ho, p0, rows', h1, h2, fewer (m := 999) (by omega), k⟩
end
/-! no pile in a slot -/
def nq : Option Vl → Bool
  | some (.q _ _ _) => false
  | _ => true
def onlyB (i : Nat) : List (Option Vl) → Nat → Bool
  | [], _ => true
  | v :: r, j => (decide (j = i) || nq v) && onlyB i r (j + 1)
theorem onlyB_ok {i : Nat} : ∀ {ρ : List (Option Vl)} {j : Nat}, onlyB i ρ j = true → ∀ (m : Nat) (C : Addr) (g : Gh) (st : PSt), j + m ≠ i → ρ[m]? ≠ some (some (.q C g st))
  | [], j, _, m, C, g, st, _ => by simp
  | v :: r, j, h, 0, C, g, st, hm => by
    simp only [onlyB, Bool.and_eq_true, Bool.or_eq_true, decide_eq_true_eq] at h
    have h1 := h.1.resolve_left (by simpa using hm)
    intro z
    simp at z
    subst z
    cases h1
  | v :: r, j, h, m + 1, C, g, st, hm => by
    simp only [onlyB, Bool.and_eq_true] at h
    have := onlyB_ok h.2 m C g st (by omega)
    simpa using this
theorem only_of {i : Nat} {ρ : DSt} (h : onlyB i ρ 0 = true) : onlyQ ρ i := fun j hj C g st => onlyB_ok h j C g st (by omega)
end DL

/-! What a pile's methods compute. -/
namespace DL
open PySem L2 LamX
theorem al7_few : al7.contains ("TooFew" : Str) = true := by decide +kernel
theorem al7_no : al7.contains ("Nothing" : Str) = true := by decide +kernel
section
variable {ρ : DSt}
theorem ev_lt {a b : DE} {i j : Int} (h1 : Ev ρ a (.int i)) (h2 : Ev ρ b (.int j)) : Ev ρ (dOp gLt a b) (.bool (decide (i < j))) := fun xc Q hQ => h1 xc _ (h2 xc _ hQ)
theorem ev_gt {a b : DE} {i j : Int} (h1 : Ev ρ a (.int i)) (h2 : Ev ρ b (.int j)) : Ev ρ (dOp gGt a b) (.bool (decide (j < i))) := fun xc Q hQ => h1 xc _ (h2 xc _ hQ)
theorem ev_eqO {b : DE} {i : Nat} {x : D} (h1 : ρ[i]? = some (some (.o x))) (h2 : Ev ρ b x) (o : okD 40 x = true := by rfl) : Ev ρ (dOp gEq (dVar i) b) (.bool true) := fun xc Q hQ => by
  rw [s_dOp, s_dVar, h1]
  refine h2 xc _ ⟨o, o, ?_⟩
  show Q (.d (.bool (PyData.eqv x x)))
  rw [eqv_same o]
  exact hQ
theorem ev_eqT {a b : DE} {x : D} (h1 : Ev ρ a x) (h2 : Ev ρ b x) (o : okD 40 x = true := by rfl) : Ev ρ (dOp gEq a b) (.bool true) := by
  have := ev_eq h1 h2 o o
  rw [eqv_same o] at this
  exact this
theorem ev_listOf {a : DE} {l : List D} (h : Ev ρ a (.list l)) : Ev ρ (dCB gListOf (dCons a dNil)) (.list l) := fun xc Q hQ => h xc _ hQ
theorem sq_setCall {e : DEnds} {u : DS} {i : Nat} {F : Ct} {Al : DA} {ds : List D} (ha : EvA ρ Al ds) (hf : F (ds.map .d) (fun d => u e (ρ.set i (some (.d d)))) e.xc) : dSeq (dSet i (dCall F Al)) u e ρ := by
  show dCall F Al e.xc ρ (fun v => gSet i v ρ (u e))
  exact call_ev ha hf
theorem sq_dropCall {e : DEnds} {u : DS} {F : Ct} {Al : DA} {ds : List D} (ha : EvA ρ Al ds) (hf : F (ds.map .d) (fun _ => u e ρ) e.xc) : dSeq (dDrop (dCall F Al)) u e ρ := by
  show dCall F Al e.xc ρ (fun _ => u e ρ)
  exact call_ev ha hf
theorem sq_dropMth {e : DEnds} {u : DS} {C x : Addr} {rows : List D} {i : Nat} {F : Ct} {Al : DA} {ds : List D} (h : IsP ρ i C x rows) (ha : EvA ρ Al ds) (hf : F (.r C x rows :: ds.map .d) (fun _ => u e ρ) e.xc) : dSeq (dDrop (dMth C i F Al)) u e ρ := by
  show dMth C i F Al e.xc ρ (fun _ => u e ρ)
  exact mth_ev h ha hf
theorem sm_setCall {e : DEnds} {u : DM} {qm : List D → Prop} {C x : Addr} {rows : List D} {i : Nat} {F : Ct} {Al : DA} {ds : List D} (hr : ρ[0]? = some (some (.r C x rows))) (h0 : i ≠ 0) (ha : EvA ρ Al ds) (hf : F (ds.map .d) (fun d => u e qm (ρ.set i (some (.d d)))) e.xc) (mono : ∀ q q' : D → Prop, (∀ d, q d → q' d) → F (ds.map .d) q e.xc → F (ds.map .d) q' e.xc) : dSeqM C 0 (dSet i (dCall F Al)) u e qm ρ :=
  ⟨x, rows, hr, call_ev ha (mono _ _ (fun d h => ⟨⟨rows, by rw [List.getElem?_set_ne h0]; exact hr⟩, h⟩) hf)⟩
theorem sm_dropCall {e : DEnds} {u : DM} {qm : List D → Prop} {C x : Addr} {rows : List D} {F : Ct} {Al : DA} {ds : List D} (hr : ρ[0]? = some (some (.r C x rows))) (ha : EvA ρ Al ds) (hf : F (ds.map .d) (fun _ => (∃ rows', ρ[0]? = some (some (.r C x rows'))) ∧ u e qm ρ) e.xc) : dSeqM C 0 (dDrop (dCall F Al)) u e qm ρ := ⟨x, rows, hr, call_ev ha hf⟩
theorem sm_dropMth {e : DEnds} {u : DM} {qm : List D → Prop} {C x : Addr} {rows : List D} {F : Ct} {Al : DA} {ds : List D} (hr : ρ[0]? = some (some (.r C x rows))) (ha : EvA ρ Al ds) (hf : F (.r C x rows :: ds.map .d) (fun _ => (∃ rows', ρ[0]? = some (some (.r C x rows'))) ∧ u e qm ρ) e.xc) : dSeqM C 0 (dDrop (dMth C 0 F Al)) u e qm ρ := ⟨x, rows, hr, mth_ev (isR hr) ha hf⟩
theorem sm_last {e : DEnds} {qm : List D → Prop} {t : DE} {ds : List D} (h : Ev ρ t (.list ds)) (k : qm ds) : dBecM t e qm ρ := h _ _ k
theorem ev_slc2 {a b : DE} {l : List D} {i : Int} (h : Ev ρ a (.list l)) (h2 : Ev ρ b (.int i)) (hb : -1000 ≤ i ∧ i ≤ 1000) : Ev ρ (dSlc a dNoP (dP b)) (.list (cutD l none (some i))) := fun xc Q hQ => h xc _ (h2 xc _ hQ)
end
/-- the exact of a number -/
def exF (p : Int × Int) : List (Int × Int) := if (plF p).1 = 0 then [] else [((plF p).2, (plF p).1)]
theorem num_inv {x : D} (h : isNum x = true) : ∃ p : Int × Int, x = numD p ∧ NumOk p := by
  unfold isNum at h
  split at h
  · rename_i a b
    simp only [Bool.and_eq_true] at h
    obtain ⟨h1, h2⟩ := h
    unfold isCnt at h1 h2
    split at h1
    · rename_i i
      split at h2
      · rename_i j
        simp only [Bool.and_eq_true, decide_eq_true_eq] at h1 h2
        exact ⟨(i, j), rfl, h1.1, h1.2, h2.1, h2.2⟩
      · cases h2
    · cases h1
  · cases h
theorem num_is {p : Int × Int} (h : NumOk p) : isNum (numD p) = true := by
  obtain ⟨h1, h2, h3, h4⟩ := h
  simp [isNum, numD, isCnt, h1, h2, h3, h4]
theorem exact_ok {p : Int × Int} (h : NumOk p) {q : D → Prop} {xc : DX} (hq : q (.list ((exF p).map numD))) : F_exact [.d (numD p)] q xc := by
  simp only [F_exact, num_is h, s_bcT]
  obtain ⟨h1, h2, h3, h4⟩ := h
  refine ⟨h3, by omega, fun t' u' P => ⟨t', u', rfl, ?_⟩⟩
  have e := plF_plain h3 h4 P
  unfold exF at hq
  rw [show p = (p.1, p.2) from rfl, ← e] at hq
  by_cases h0 : t' = 0
  · rw [if_pos h0] at hq ⊢; exact hq
  · rw [if_neg h0] at hq ⊢; exact hq
def F_Pile_need (C : Addr) : Ct := fun xs q xc => match xs with
  | [.r C' _ rows, .d (.int n)] => C' = C ∧ bc (decide ((rows.length : Int) < n)) (xc "TooFew") (q .none)
  | _ => False
theorem hn_Pile_need (C : Addr) (xs : List Vl) (q : D → Prop) (xc : DX) (h : F_Pile_need C xs q xc) : xs.length = 2 := by
  unfold F_Pile_need at h; split at h
  · rfl
  · exact h.elim
theorem sem_Pile_need (C : Addr) (xs : List Vl) (q : D → Prop) (xc : DX) (h : F_Pile_need C xs q xc) : t_Pile_need C (En q xc) (dstart ["self", "many"] xs) := by
  unfold F_Pile_need at h; split at h
  · rename_i C' x rows n
    obtain ⟨rfl, h⟩ := h
    simp only [t_Pile_need, dstart]
    refine st_if (evt_val (ev_lt (ev_len (ev_rows (x := x) (rows := rows) (isR rfl))) (ev_var (x := .int n) rfl))) (fun hb => ?_) (fun hb => ?_)
    · rw [hb] at h; exact h
    · rw [hb] at h; exact h
  · exact h.elim
theorem need_ok {C x : Addr} {rows : List D} {n : Int} {q : D → Prop} {xc : DX} (h : n ≤ rows.length) (hq : q .none) : F_Pile_need C [.r C x rows, .d (.int n)] q xc := by
  refine ⟨rfl, ?_⟩
  rw [show decide ((rows.length : Int) < n) = false from decide_eq_false (by omega)]
  exact hq
theorem need_no {C x : Addr} {rows : List D} {n : Int} {q : D → Prop} {xc : DX} (h : (rows.length : Int) < n) (hq : xc "TooFew") : F_Pile_need C [.r C x rows, .d (.int n)] q xc := by
  refine ⟨rfl, ?_⟩
  rw [show decide ((rows.length : Int) < n) = true from decide_eq_true h]
  exact hq
def F_Pile_need_room (C : Addr) : Ct := fun xs q xc => match xs with
  | [.r C' _ rows] => C' = C ∧ bc (decide ((12 : Int) ≤ rows.length)) (xc "TooFew") (q .none)
  | _ => False
theorem hn_Pile_need_room (C : Addr) (xs : List Vl) (q : D → Prop) (xc : DX) (h : F_Pile_need_room C xs q xc) : xs.length = 1 := by
  unfold F_Pile_need_room at h; split at h
  · rfl
  · exact h.elim
theorem sem_Pile_need_room (C : Addr) (xs : List Vl) (q : D → Prop) (xc : DX) (h : F_Pile_need_room C xs q xc) : t_Pile_need_room C (En q xc) (dstart ["self"] xs) := by
  unfold F_Pile_need_room at h; split at h
  · rename_i C' x rows
    obtain ⟨rfl, h⟩ := h
    simp only [t_Pile_need_room, dstart]
    refine st_if (evt_val (ev_ge (ev_len (ev_rows (x := x) (rows := rows) (isR rfl))) ev_c)) (fun hb => ?_) (fun hb => ?_)
    · rw [hb] at h; exact h
    · rw [hb] at h; exact h
  · exact h.elim
theorem room_ok {C x : Addr} {rows : List D} {q : D → Prop} {xc : DX} (h : rows.length < 12) (hq : q .none) : F_Pile_need_room C [.r C x rows] q xc := by
  refine ⟨rfl, ?_⟩
  rw [show decide ((12 : Int) ≤ rows.length) = false from decide_eq_false (by omega)]
  exact hq
theorem room_no {C x : Addr} {rows : List D} {q : D → Prop} {xc : DX} (h : 12 ≤ rows.length) (hq : xc "TooFew") : F_Pile_need_room C [.r C x rows] q xc := by
  refine ⟨rfl, ?_⟩
  rw [show decide ((12 : Int) ≤ rows.length) = true from decide_eq_true (by omega)]
  exact hq
/-! ### press -/
def F_Pile_press (C : Addr) : Ct := fun xs q xc => match xs with
  | [.r C' _ rows, .d v] => C' = C ∧ ((isNum v = false ∧ xc "BadNumber") ∨ (isNum v = true ∧ 12 ≤ rows.length ∧ xc "TooFew"))
  | _ => False
theorem hn_Pile_press (C : Addr) (xs : List Vl) (q : D → Prop) (xc : DX) (h : F_Pile_press C xs q xc) : xs.length = 2 := by
  unfold F_Pile_press at h; split at h
  · rfl
  · exact h.elim
theorem sem_Pile_press (C : Addr) (xs : List Vl) (q : D → Prop) (xc : DX) (h : F_Pile_press C xs q xc) : t_Pile_press C F_exact (F_Pile_need_room C) (En q xc) (dstart ["self", "number", "one"] xs) := by
  unfold F_Pile_press at h; split at h
  · rename_i C' x rows v
    obtain ⟨rfl, h⟩ := h
    simp only [t_Pile_press, dstart]
    rcases h with ⟨h1, h2⟩ | ⟨h1, h2, h3⟩
    · refine sq_setCall (ds := [v]) (evA_cons (ev_var rfl) evA_nil) ?_
      simp only [F_exact, List.map_cons, List.map_nil, h1, s_bcF]
      exact h2
    · obtain ⟨p, rfl, hp⟩ := num_inv h1
      refine sq_setCall (ds := [numD p]) (evA_cons (ev_var rfl) evA_nil) (exact_ok hp ?_)
      exact sq_dropMth (x := x) (rows := rows) (isR rfl) evA_nil (room_no h2 h3)
  · exact h.elim
def G_Pile_press : Cm := fun rows xs qm => match xs with
  | [.d v] => ∃ p, v = numD p ∧ NumOk p ∧ rows.length < 12 ∧ qm (rows ++ [.list ((exF p).map numD)])
  | _ => False
theorem gn_Pile_press (rows : List D) (xs : List Vl) (qm : List D → Prop) (h : G_Pile_press rows xs qm) : xs.length + 1 = 2 := by
  unfold G_Pile_press at h; split at h
  · rfl
  · exact h.elim
theorem sem_mPile_press (C x : Addr) (rows : List D) (xs : List Vl) (qm : List D → Prop) (h : G_Pile_press rows xs qm) : u_Pile_press C (F_Pile_need_room C) F_exact { nx := fun _ => False, rt := fun _ => False, xc := fun _ => False } qm (dstart ["self", "number", "one"] (.r C x rows :: xs)) := by
  unfold G_Pile_press at h; split at h
  · obtain ⟨p, rfl, hp, hl, h⟩ := h
    simp only [u_Pile_press, dstart]
    refine ⟨x, rows, rfl, call_ev (ds := [numD p]) (evA_cons (ev_var rfl) evA_nil) (exact_ok hp ⟨⟨rows, rfl⟩, ?_⟩)⟩
    refine sm_dropMth (x := x) (rows := rows) rfl evA_nil (room_ok hl ⟨⟨rows, rfl⟩, ?_⟩)
    exact sm_last (ev_addL (ev_rows (x := x) (rows := rows) (isR rfl)) (ev_lst (evA_cons (ev_var (x := .list ((exF p).map numD)) rfl) evA_nil)) (by simp; omega)) h
  · exact h.elim
/-! ### copy -/
def F_Pile_copy (C : Addr) : Ct := fun xs q xc => match xs with
  | [.r C' _ rows, .d v] => C' = C ∧ ((isCnt v 0 11 = false ∧ xc "BadNumber") ∨ ∃ n : Int, v = .int n ∧ 0 ≤ n ∧ n ≤ 11 ∧ ((rows.length : Int) < n + 1 ∨ 12 ≤ rows.length) ∧ xc "TooFew")
  | _ => False
theorem hn_Pile_copy (C : Addr) (xs : List Vl) (q : D → Prop) (xc : DX) (h : F_Pile_copy C xs q xc) : xs.length = 2 := by
  unfold F_Pile_copy at h; split at h
  · rfl
  · exact h.elim
theorem isCnt_i {n l h : Int} (h1 : l ≤ n) (h2 : n ≤ h) : isCnt (.int n) l h = true := by
  simp [isCnt, h1, h2]
theorem sem_Pile_copy (C : Addr) (xs : List Vl) (q : D → Prop) (xc : DX) (h : F_Pile_copy C xs q xc) : t_Pile_copy C F_need_count (F_Pile_need C) (F_Pile_need_room C) (En q xc) (dstart ["self", "deep"] xs) := by
  unfold F_Pile_copy at h; split at h
  · rename_i C' x rows v
    obtain ⟨rfl, h⟩ := h
    simp only [t_Pile_copy, dstart]
    rcases h with ⟨h1, h2⟩ | ⟨n, rfl, h1, h2, h3, h4⟩
    · refine sq_dropCall (ds := [v, .int 0, .int (12 - 1)]) (evA_cons (ev_var rfl) (evA_cons ev_c (evA_cons (ev_sub ev_c ev_c) evA_nil))) ?_
      show F_need_count [.d v, .d (.int 0), .d (.int 11)] _ _
      simp only [F_need_count, List.map_cons, List.map_nil, h1, s_bcF]
      exact h2
    · refine sq_dropCall (ds := [.int n, .int 0, .int (12 - 1)]) (evA_cons (ev_var rfl) (evA_cons ev_c (evA_cons (ev_sub ev_c ev_c) evA_nil))) ?_
      show F_need_count [.d (.int n), .d (.int 0), .d (.int 11)] _ _
      simp only [F_need_count, List.map_cons, List.map_nil, isCnt_i h1 h2, s_bcT]
      by_cases h5 : (rows.length : Int) < n + 1
      · exact sq_dropMth (x := x) (rows := rows) (ds := [.int (n + 1)]) (isR rfl) (evA_cons (ev_add (ev_var rfl) ev_c) evA_nil) (need_no h5 h4)
      · refine sq_dropMth (x := x) (rows := rows) (ds := [.int (n + 1)]) (isR rfl) (evA_cons (ev_add (ev_var rfl) ev_c) evA_nil) (need_ok (by omega) ?_)
        exact sq_dropMth (x := x) (rows := rows) (isR rfl) evA_nil (room_no (h3.resolve_left h5) h4)
  · exact h.elim
def G_Pile_copy : Cm := fun rows xs qm => match xs with
  | [.d v] => v = .int 0 ∧ rows.length < 12 ∧ ∃ r0 l, rows = r0 ++ [.list l] ∧ qm (rows ++ [.list l])
  | _ => False
theorem gn_Pile_copy (rows : List D) (xs : List Vl) (qm : List D → Prop) (h : G_Pile_copy rows xs qm) : xs.length + 1 = 2 := by
  unfold G_Pile_copy at h; split at h
  · rfl
  · exact h.elim
theorem at_last {r0 : List D} {y : D} : L2.atI (r0 ++ [y]) (((r0 ++ [y]).length : Int) - 1 - 0) = some y := by
  have e : (((r0 ++ [y]).length : Int) - 1 - 0) = ((r0.length : Nat) : Int) := by
    rw [List.length_append, List.length_singleton]; omega
  rw [e]
  exact L2.atI_nat (by simp)
theorem sem_mPile_copy (C x : Addr) (rows : List D) (xs : List Vl) (qm : List D → Prop) (h : G_Pile_copy rows xs qm) : u_Pile_copy C (F_Pile_need_room C) (F_Pile_need C) F_need_count { nx := fun _ => False, rt := fun _ => False, xc := fun _ => False } qm (dstart ["self", "deep"] (.r C x rows :: xs)) := by
  unfold G_Pile_copy at h; split at h
  · obtain ⟨rfl, hl, r0, l, rfl, h⟩ := h
    simp only [u_Pile_copy, dstart]
    refine sm_dropCall (x := x) (rows := r0 ++ [.list l]) (ds := [.int 0, .int 0, .int (12 - 1)]) rfl (evA_cons (ev_var rfl) (evA_cons ev_c (evA_cons (ev_sub ev_c ev_c) evA_nil))) ?_
    show F_need_count [.d (.int 0), .d (.int 0), .d (.int 11)] _ _
    simp only [F_need_count, isCnt_i (Int.le_refl 0) (show (0 : Int) ≤ 11 by decide), s_bcT]
    refine ⟨⟨_, rfl⟩, sm_dropMth (x := x) (rows := r0 ++ [.list l]) (ds := [.int (0 + 1)]) rfl (evA_cons (ev_add (ev_var rfl) ev_c) evA_nil) (need_ok (by simp; omega) ?_)⟩
    refine ⟨⟨_, rfl⟩, sm_dropMth (x := x) (rows := r0 ++ [.list l]) rfl evA_nil (room_ok hl ⟨⟨_, rfl⟩, ?_⟩)⟩
    have hR : ∀ ρ : DSt, ρ[0]? = some (some (.r C x (r0 ++ [.list l]))) → Ev ρ (dRows C 0) (.list (r0 ++ [.list l])) := fun ρ h => ev_rows (isR h)
    refine sm_last (ev_addL (hR _ rfl) (ev_lst (evA_cons (ev_listOf (l := l) (ev_ix (v := .list l) (hR _ rfl) (ev_sub (ev_sub (ev_len (hR _ rfl)) ev_c) (ev_var (x := .int 0) rfl)) at_last)) evA_nil)) (by simp at hl ⊢; omega)) h
  · exact h.elim
/-! ### multiply -/
def F_Pile_multiply (C : Addr) : Ct := fun xs q xc => match xs with
  | [.r C' _ rows] => C' = C ∧ ((rows.length < 2 ∧ xc "TooFew") ∨ ∃ as bs : List (Int × Int), rows = [.list (as.map numD), .list (bs.map numD)] ∧ as.length ≤ 6 ∧ bs.length ≤ 6 ∧ (∀ p ∈ as, PrOk p) ∧ (∀ p ∈ bs, PrOk p) ∧ isExact (exD (proF as bs)) = false ∧ xc "TooGreat")
  | _ => False
theorem hn_Pile_multiply (C : Addr) (xs : List Vl) (q : D → Prop) (xc : DX) (h : F_Pile_multiply C xs q xc) : xs.length = 1 := by
  unfold F_Pile_multiply at h; split at h
  · rfl
  · exact h.elim
theorem cut2 (a b : D) : cutD [a, b] none (some (-2)) = ([] : List D) := rfl
theorem sem_Pile_multiply (C : Addr) (xs : List Vl) (q : D → Prop) (xc : DX) (h : F_Pile_multiply C xs q xc) : t_Pile_multiply C (F_Pile_need C) F_product_of (En q xc) (dstart ["self"] xs) := by
  unfold F_Pile_multiply at h; split at h
  · rename_i C' x rows
    obtain ⟨rfl, h⟩ := h
    simp only [t_Pile_multiply, dstart]
    rcases h with ⟨h1, h2⟩ | ⟨as, bs, rfl, l1, l2, k1, k2, h1, h2⟩
    · exact sq_dropMth (x := x) (rows := rows) (ds := [.int 2]) (isR rfl) (evA_cons ev_c evA_nil) (need_no (by omega) h2)
    · refine sq_dropMth (x := x) (rows := [.list (as.map numD), .list (bs.map numD)]) (ds := [.int 2]) (isR rfl) (evA_cons ev_c evA_nil) (need_ok (by simp) ?_)
      have hR : ∀ ρ : DSt, ρ[0]? = some (some (.r C' x [.list (as.map numD), .list (bs.map numD)])) → Ev ρ (dRows C' 0) (.list [.list (as.map numD), .list (bs.map numD)]) := fun ρ h => ev_rows (isR h)
      refine ⟨IsP.of (isR (x := x) (rows := [.list (as.map numD), .list (bs.map numD)]) rfl) True.intro, ?_⟩
      refine (ev_slc2 (hR _ rfl) (ev_neg ev_c) (by omega)) _ _ ?_
      rw [s_dLst, s_dCons]
      refine call_ev (ds := [.list (as.map numD), .list (bs.map numD)]) (evA_cons (ev_ix (i := -2) (hR _ rfl) (ev_neg (i := 2) ev_c) rfl) (evA_cons (ev_ix (i := -1) (hR _ rfl) (ev_neg (i := 1) ev_c) rfl) evA_nil)) ?_
      refine ⟨as, bs, rfl, rfl, l1, l2, k1, k2, ?_⟩
      rw [h1]
      exact h2
  · exact h.elim
def G_Pile_multiply : Cm := fun rows xs qm => match xs with
  | [] => ∃ as bs : List (Int × Int), rows = [.list (as.map numD), .list (bs.map numD)] ∧ as.length ≤ 6 ∧ bs.length ≤ 6 ∧ (∀ p ∈ as, PrOk p) ∧ (∀ p ∈ bs, PrOk p) ∧ isExact (exD (proF as bs)) = true ∧ qm [exD (proF as bs)]
  | _ => False
theorem gn_Pile_multiply (rows : List D) (xs : List Vl) (qm : List D → Prop) (h : G_Pile_multiply rows xs qm) : xs.length + 1 = 1 := by
  unfold G_Pile_multiply at h; split at h
  · rfl
  · exact h.elim
theorem sem_mPile_multiply (C x : Addr) (rows : List D) (xs : List Vl) (qm : List D → Prop) (h : G_Pile_multiply rows xs qm) : u_Pile_multiply C F_product_of (F_Pile_need C) { nx := fun _ => False, rt := fun _ => False, xc := fun _ => False } qm (dstart ["self"] (.r C x rows :: xs)) := by
  unfold G_Pile_multiply at h; split at h
  · obtain ⟨as, bs, rfl, l1, l2, k1, k2, h1, h2⟩ := h
    simp only [u_Pile_multiply, dstart]
    refine sm_dropMth (x := x) (rows := [.list (as.map numD), .list (bs.map numD)]) (ds := [.int 2]) rfl (evA_cons ev_c evA_nil) (need_ok (by simp) ⟨⟨_, rfl⟩, ?_⟩)
    have hR : ∀ ρ : DSt, ρ[0]? = some (some (.r C x [.list (as.map numD), .list (bs.map numD)])) → Ev ρ (dRows C 0) (.list [.list (as.map numD), .list (bs.map numD)]) := fun ρ h => ev_rows (isR h)
    have e1 : ∀ ρ : DSt, ρ[0]? = some (some (.r C x [.list (as.map numD), .list (bs.map numD)])) → Ev ρ (dCall F_product_of (dCons (dOp gIx (dRows C 0) (dNeg (dC (.int 2)))) (dCons (dOp gIx (dRows C 0) (dNeg (dC (.int 1)))) (dNil)))) (exD (proF as bs)) := fun ρ hρ => ev_call (ds := [.list (as.map numD), .list (bs.map numD)]) (evA_cons (ev_ix (i := -2) (hR _ hρ) (ev_neg (i := 2) ev_c) rfl) (evA_cons (ev_ix (i := -1) (hR _ hρ) (ev_neg (i := 1) ev_c) rfl) evA_nil)) fun q xc hq => by
      refine ⟨as, bs, rfl, rfl, l1, l2, k1, k2, ?_⟩
      rw [h1]
      exact hq
    refine sm_last (ev_addL (ev_slc2 (hR _ rfl) (ev_neg ev_c) (by omega)) (ev_lst (evA_cons (e1 _ rfl) evA_nil)) (by rw [cut2]; simp)) ?_
    rw [cut2]
    exact h2
  · exact h.elim
/-! ### those that are refused for too few alone -/
def F_few (n : Nat) (C : Addr) : Ct := fun xs _ xc => match xs with
  | [.r C' _ rows] => C' = C ∧ rows.length < n ∧ xc "TooFew"
  | _ => False
theorem hn_few (n : Nat) (C : Addr) (xs : List Vl) (q : D → Prop) (xc : DX) (h : F_few n C xs q xc) : xs.length = 1 := by
  unfold F_few at h; split at h
  · rfl
  · exact h.elim
def F_Pile_add (C : Addr) : Ct := F_few 2 C
def F_Pile_subtract (C : Addr) : Ct := F_few 2 C
def F_Pile_swap (C : Addr) : Ct := F_few 2 C
def F_Pile_negate (C : Addr) : Ct := F_few 1 C
def F_Pile_drop (C : Addr) : Ct := F_few 1 C
def F_Pile_top (C : Addr) : Ct := F_few 1 C
def hn_Pile_add (C : Addr) := hn_few 2 C
def hn_Pile_subtract (C : Addr) := hn_few 2 C
def hn_Pile_swap (C : Addr) := hn_few 2 C
def hn_Pile_negate (C : Addr) := hn_few 1 C
def hn_Pile_drop (C : Addr) := hn_few 1 C
def hn_Pile_top (C : Addr) := hn_few 1 C
theorem few_sem {n : Nat} {C : Addr} {xs : List Vl} {q : D → Prop} {xc : DX} {u : DS} {N : List Str} (h : F_few n C xs q xc) : dSeq (dDrop (dMth C 0 (F_Pile_need C) (dCons (dC (.int n)) dNil))) u (En q xc) (dstart N xs) := by
  unfold F_few at h; split at h
  · rename_i C' x rows
    obtain ⟨rfl, h1, h2⟩ := h
    simp only [dstart]
    exact sq_dropMth (x := x) (rows := rows) (ds := [.int n]) (isR rfl) (evA_cons ev_c evA_nil) (need_no (by omega) h2)
  · exact h.elim
theorem sem_Pile_add (C : Addr) (xs : List Vl) (q : D → Prop) (xc : DX) (h : F_Pile_add C xs q xc) : t_Pile_add C (F_Pile_need C) F_no (En q xc) (dstart ["self"] xs) := few_sem h
theorem sem_Pile_subtract (C : Addr) (xs : List Vl) (q : D → Prop) (xc : DX) (h : F_Pile_subtract C xs q xc) : t_Pile_subtract C (F_Pile_need C) F_no (En q xc) (dstart ["self"] xs) := few_sem h
theorem sem_Pile_swap (C : Addr) (xs : List Vl) (q : D → Prop) (xc : DX) (h : F_Pile_swap C xs q xc) : t_Pile_swap C (F_Pile_need C) (En q xc) (dstart ["self"] xs) := few_sem h
theorem sem_Pile_negate (C : Addr) (xs : List Vl) (q : D → Prop) (xc : DX) (h : F_Pile_negate C xs q xc) : t_Pile_negate C (F_Pile_need C) (En q xc) (dstart ["self", "under", "many"] xs) := few_sem h
theorem sem_Pile_drop (C : Addr) (xs : List Vl) (q : D → Prop) (xc : DX) (h : F_Pile_drop C xs q xc) : t_Pile_drop C (F_Pile_need C) (En q xc) (dstart ["self"] xs) := few_sem h
theorem sem_Pile_top (C : Addr) (xs : List Vl) (q : D → Prop) (xc : DX) (h : F_Pile_top C xs q xc) : t_Pile_top C (F_Pile_need C) (En q xc) (dstart ["self"] xs) := few_sem h
/-! ### exacts -/
def F_Pile_exacts (C : Addr) : Ct := fun xs q _ => match xs with
  | [.r C' _ rows] => C' = C ∧ rows.length ≤ 100 ∧ (∀ r ∈ rows, ∃ l, r = .list l) ∧ q (.list rows)
  | _ => False
theorem hn_Pile_exacts (C : Addr) (xs : List Vl) (q : D → Prop) (xc : DX) (h : F_Pile_exacts C xs q xc) : xs.length = 1 := by
  unfold F_Pile_exacts at h; split at h
  · rfl
  · exact h.elim
theorem sem_Pile_exacts (C : Addr) (xs : List Vl) (q : D → Prop) (xc : DX) (h : F_Pile_exacts C xs q xc) : t_Pile_exacts C (En q xc) (dstart ["self", "one"] xs) := by
  unfold F_Pile_exacts at h; split at h
  · rename_i C' x rows
    obtain ⟨rfl, hl, h1, h⟩ := h
    simp only [t_Pile_exacts, dstart]
    rw [s_dRet, s_dLc]
    refine ⟨rfl, ?_⟩
    refine (ev_rows (x := x) (rows := rows) (isR rfl)) _ _ ?_
    refine lc_nm (f := id) (few (m := 100) hl) (fun d hd Q hQ => ?_) ?_
    · obtain ⟨l, rfl⟩ := h1 d hd
      exact (ev_listOf (l := l) (ev_var rfl)) _ _ hQ
    · rw [List.map_id]; exact h
  · exact h.elim
/-! ### the places of a whole number -/
def F_span_of : Ct := fun xs q _ => match xs with
  | [.d x, .d y] => ∃ k : Int, 1 ≤ k ∧ k < 2 ^ 60 ∧ x = .dict [(.int 1, .int k)] ∧ y = .int 0 ∧ q (.tuple [.int k, .int k])
  | _ => False
theorem hn_span_of (xs : List Vl) (q : D → Prop) (xc : DX) (h : F_span_of xs q xc) : xs.length = 2 := by
  unfold F_span_of at h; split at h
  · rfl
  · exact h.elim
theorem sem_span_of (xs : List Vl) (q : D → Prop) (xc : DX) (h : F_span_of xs q xc) : t_span_of F_digits_of (En q xc) (dstart ["found", "places", "low", "high", "under", "own"] xs) := by
  unfold F_span_of at h; split at h
  · obtain ⟨k, k1, k2, rfl, rfl, h⟩ := h
    simp only [t_span_of, dstart]
    refine (fun h => by simpa using h : forL (.nm 4) (dSeq (dSet 5 (dCall F_digits_of (dCons (dTup (dCons (dOp gGetK (dVar 0) (dVar 4)) (dCons (dVar 4) (dNil)))) (dCons (dVar 1) (dNil))))) (dSeq (dSet 2 (dOp gAdd (dVar 2) (dVar 5))) (dSet 3 (dOp gAdd (dOp gAdd (dVar 3) (dVar 5)) (dCB gInt1 (dCons (dOp gGt (dVar 4) (dC (.int 1))) (dNil))))))) { (En q xc) with nx := dRet (dTup (dCons (dVar 2) (dCons (dVar 3) dNil))) (En q xc) } [.int 1] [some (.d (.dict [(.int 1, .int k)])), some (.d (.int 0)), some (.d (.int 0)), some (.d (.int 0)), none, none] → _) ?_
    have e : digF k 1 0 = k := by
      unfold digF sqF
      rw [if_pos (by omega)]
      exact isq_eq (by omega) (by simp) (by simp; rw [Int.add_mul, Int.mul_add]; omega)
    refine sq_setCall (ds := [.tuple [.int k, .int 1], .int 0]) (evA_cons (ev_tup (evA_cons (fun xc Q hQ => ?_) (evA_cons (ev_var rfl) evA_nil))) (evA_cons (ev_var rfl) evA_nil)) ⟨by omega, by omega, by omega, by omega, by omega, ?_⟩
    · show gGetK (.d (.dict [(.int 1, .int k)])) (.d (.int 1)) Q
      rw [gGetK_d (v := .int k) rfl]
      exact hQ
    · show dSeq _ _ _ [some (.d (.dict [(.int 1, .int k)])), some (.d (.int 0)), some (.d (.int 0)), some (.d (.int 0)), some (.d (.int 1)), some (.d (.int (digF k 1 0)))]
      rw [e]
      refine sq_set (x := .int (0 + k)) (ev_add (ev_var rfl) (ev_var rfl)) ?_
      refine st_set (x := .int (0 + k + 0)) (ev_add (ev_add (ev_var rfl) (ev_var rfl)) (fun xc Q hQ => hQ)) ?_
      show dRet (dTup (dCons (dVar 2) (dCons (dVar 3) dNil))) (En q xc) [some (.d (.dict [(.int 1, .int k)])), some (.d (.int 0)), some (.d (.int (0 + k))), some (.d (.int (0 + k + 0))), some (.d (.int 1)), some (.d (.int k))]
      refine st_retF (x := .tuple [.int (0 + k), .int (0 + k + 0)]) (ev_tup (evA_cons (ev_var rfl) (evA_cons (ev_var rfl) evA_nil))) ?_
      rw [show (0 : Int) + k + 0 = k by omega, show (0 : Int) + k = k by omega]
      exact h
  · exact h.elim
def F_floor_of : Ct := fun xs q _ => match xs with
  | [.d x] => ∃ k : Int, 1 ≤ k ∧ k < 2 ^ 60 ∧ x = .dict [(.int 1, .int k)] ∧ q (.int k)
  | _ => False
theorem hn_floor_of (xs : List Vl) (q : D → Prop) (xc : DX) (h : F_floor_of xs q xc) : xs.length = 1 := by
  unfold F_floor_of at h; split at h
  · rfl
  · exact h.elim
theorem sem_floor_of (xs : List Vl) (q : D → Prop) (xc : DX) (h : F_floor_of xs q xc) : t_floor_of F_span_of F_no F_no (En q xc) (dstart ["found", "low", "high"] xs) := by
  unfold F_floor_of at h; split at h
  · obtain ⟨k, k1, k2, rfl, h⟩ := h
    simp only [t_floor_of, dstart]
    rw [s_dSeq, s_dAsg]
    refine call_ev (ds := [.dict [(.int 1, .int k)], .int 0]) (evA_cons (ev_var rfl) (evA_cons ev_c evA_nil)) ⟨k, k1, k2, rfl, rfl, ?_⟩
    show dSeq (dWhile _ _) _ _ [some (.d (.dict [(.int 1, .int k)])), some (.d (.int k)), some (.d (.int k))]
    refine ⟨1, ?_⟩
    refine (evt_andF (ρ := [some (.d (.dict [(.int 1, .int k)])), some (.d (.int k)), some (.d (.int k))]) (evt_val (by have z := ev_gt (ρ := [some (.d (.dict [(.int 1, .int k)])), some (.d (.int k)), some (.d (.int k))]) (a := dVar 2) (b := dVar 1) (ev_var (x := .int k) rfl) (ev_var (x := .int k) rfl); rw [show decide (k < k) = false from decide_eq_false (by omega)] at z; exact z))) _ _ ?_
    show dRet (dVar 2) (En q xc) [some (.d (.dict [(.int 1, .int k)])), some (.d (.int k)), some (.d (.int k))]
    exact st_retF (x := .int k) (ev_var rfl) h
  · exact h.elim
def F_places_of : Ct := fun xs q _ => match xs with
  | [.d x, .d y] => ∃ k : Int, 1 ≤ k ∧ k < 2 ^ 60 ∧ x = .list [.tuple [.int 1, .int k]] ∧ y = .int 0 ∧ q (.int k)
  | _ => False
theorem hn_places_of (xs : List Vl) (q : D → Prop) (xc : DX) (h : F_places_of xs q xc) : xs.length = 2 := by
  unfold F_places_of at h; split at h
  · rfl
  · exact h.elim
theorem sem_places_of (xs : List Vl) (q : D → Prop) (xc : DX) (h : F_places_of xs q xc) : t_places_of F_power_of F_floor_of (En q xc) (dstart ["one", "places", "by", "under", "many"] xs) := by
  unfold F_places_of at h; split at h
  · obtain ⟨k, k1, k2, rfl, rfl, h⟩ := h
    simp only [t_places_of, dstart]
    refine sq_setCall (ds := [.int 0]) (evA_cons (ev_var rfl) evA_nil) ⟨by omega, by omega, ?_⟩
    show dRet _ _ [some (.d (.list [.tuple [.int 1, .int k]])), some (.d (.int 0)), some (.d (.int 1)), none, none]
    rw [s_dRet]
    refine (fun xc' Q hQ => ?_ : ∀ (xc' : DX) (Q : Vl → Prop), Q (.d (.int k)) → dCall F_floor_of _ xc' [some (.d (.list [.tuple [.int 1, .int k]])), some (.d (.int 0)), some (.d (.int 1)), none, none] Q) _ _ h
    refine call_ev (ds := [.dict [(.int 1, .int k)]]) (evA_cons (fun xc Q hQ => ?_) evA_nil) ⟨k, k1, k2, rfl, hQ⟩
    have hm : CMl k 1 := cml_r (by omega) (by omega)
    simp only [s_dDict, s_dCons, s_dNil, s_dLc, s_dWalk, s_dVar, List.getElem?_cons_zero, s_gVar, s_gSeq]
    refine ⟨rfl, ?_⟩
    simp [lcL, gBnd, bindT, bindL, gMul_i, wipeD]
    refine ⟨hm, by decide, ?_⟩
    exact hQ
  · exact h.elim
def F_Pile_digits_of_top (C : Addr) : Ct := fun xs q xc => match xs with
  | [.r C' _ rows, .d v] => C' = C ∧ ((isCnt v 0 30 = false ∧ xc "BadNumber") ∨ ∃ k : Int, 1 ≤ k ∧ k < 2 ^ 60 ∧ v = .int 0 ∧ rows = [.list [.tuple [.int 1, .int k]]] ∧ q (.int k))
  | _ => False
theorem hn_Pile_digits_of_top (C : Addr) (xs : List Vl) (q : D → Prop) (xc : DX) (h : F_Pile_digits_of_top C xs q xc) : xs.length = 2 := by
  unfold F_Pile_digits_of_top at h; split at h
  · rfl
  · exact h.elim
theorem sem_Pile_digits_of_top (C : Addr) (xs : List Vl) (q : D → Prop) (xc : DX) (h : F_Pile_digits_of_top C xs q xc) : t_Pile_digits_of_top C F_need_count (F_Pile_need C) F_places_of (En q xc) (dstart ["self", "places"] xs) := by
  unfold F_Pile_digits_of_top at h; split at h
  · rename_i C' x rows v
    obtain ⟨rfl, h⟩ := h
    simp only [t_Pile_digits_of_top, dstart]
    rcases h with ⟨h1, h2⟩ | ⟨k, k1, k2, rfl, rfl, h⟩
    · refine sq_dropCall (ds := [v, .int 0, .int 30]) (evA_cons (ev_var rfl) (evA_cons ev_c (evA_cons ev_c evA_nil))) ?_
      simp only [F_need_count, List.map_cons, List.map_nil, h1, s_bcF]
      exact h2
    · refine sq_dropCall (ds := [.int 0, .int 0, .int 30]) (evA_cons (ev_var rfl) (evA_cons ev_c (evA_cons ev_c evA_nil))) ?_
      simp only [F_need_count, List.map_cons, List.map_nil, isCnt_i (Int.le_refl 0) (show (0 : Int) ≤ 30 by decide), s_bcT]
      refine sq_dropMth (x := x) (rows := [.list [.tuple [.int 1, .int k]]]) (ds := [.int 1]) (isR rfl) (evA_cons ev_c evA_nil) (need_ok (by simp) ?_)
      refine st_retF (x := .int k) (ev_call (ds := [.list [.tuple [.int 1, .int k]], .int 0]) (evA_cons (ev_ix (ev_rows (x := x) (rows := [.list [.tuple [.int 1, .int k]]]) (isR rfl)) (ev_neg ev_c) rfl) (evA_cons (ev_var rfl) evA_nil)) fun q xc hq => ⟨k, k1, k2, rfl, rfl, hq⟩) h
  · exact h.elim
end DL

/-! The law of refused piles. -/
namespace DL
open PySem L2 LamX
theorem sq_newNum {ρ : DSt} {e : DEnds} {u : DS} {C : Addr} {i j : Nat} {t : DE} (ht : ∀ (xc : DX) (Q : Vl → Prop), (∀ p, NumOk p → Q (.d (numD p))) → t xc ρ Q) (k : ∀ p, NumOk p → ∀ g, u e ((ρ.set i (some (.q C g ⟨[], [], []⟩))).set j (some (.d (numD p))))) : dSeq (dNewPar C i j t) u e ρ := ht _ _ fun p hp => k p hp
theorem sq_rng1 {ρ : DSt} {e : DEnds} {u : DS} {Al : DA} {tt : Tgt} {tb : DS} {j : Int} (h : EvA ρ Al [.int j]) (hb : -(2 ^ 62) ≤ j ∧ j < 2 ^ 62) (k : forL tt tb { e with nx := u e } (rangeD 0 j.toNat) ρ) : dSeq (dFor (dRng1 Al) tt tb) u e ρ := h _ _ ⟨hb, k⟩
theorem isort_id {ns : List Int} (h : ns.Pairwise (· ≤ ·)) : isort ns = ns := sorted_unique (isort_perm _) (isort_sorted _) h
def exD2 (m : List (Int × Int)) : D := .list ((((m.map (·.1)).filter (fun k => !decide ((getM m k).getD 0 = 0))).map fun k => (k, (getM m k).getD 0)).map numD)
theorem exD_id {m : List (Int × Int)} (h : (m.map (·.1)).Pairwise (· ≤ ·)) : exD m = exD2 m := by
  unfold exD partsOf exD2
  rw [isort_id h]
theorem only8 {a b c x d e f h : Option Vl} (ha : nq a = true) (hb : nq b = true) (hc : nq c = true) (hd : nq d = true) (he : nq e = true) (hf : nq f = true) (hh : nq h = true) : onlyQ [a, b, c, x, d, e, f, h] 3 := only_of (by simp [onlyB, ha, hb, hc, hd, he, hf, hh])
def F__law_number : Ct := fun xs q _ => match xs with
  | [.d (.int m)] => 0 ≤ m ∧ ∀ p, NumOk p → q (numD p)
  | _ => False
theorem hn__law_number (xs : List Vl) (q : D → Prop) (xc : DX) (h : F__law_number xs q xc) : xs.length = 1 := by
  unfold F__law_number at h; split at h
  · rfl
  · exact h.elim
theorem sem__law_number (xs : List Vl) (q : D → Prop) (xc : DX) (h : F__law_number xs q xc) : t__law_number (En q xc) (dstart ["more", "some"] xs) := by
  unfold F__law_number at h; split at h
  · rename_i m
    obtain ⟨h0, h⟩ := h
    simp only [t__law_number, dstart]
    refine sq_set (x := .list [numD (m % 9 - 4, 1), numD (m % 19 - 9, 2 + m / 64 % 5), numD (m % 199 - 99, 1 + m / 64 % 99)]) (ev_lst (evA_cons (ev_tup (evA_cons (ev_sub (ev_mod (ev_var rfl) ev_c (by omega) (by omega)) ev_c) (evA_cons ev_c evA_nil))) (evA_cons (ev_tup (evA_cons (ev_sub (ev_mod (ev_var rfl) ev_c (by omega) (by omega)) ev_c) (evA_cons (ev_add ev_c (ev_mod (ev_fdiv (ev_var rfl) ev_c (by omega) (by omega)) ev_c (by omega) (by omega))) evA_nil))) (evA_cons (ev_tup (evA_cons (ev_sub (ev_mod (ev_var rfl) ev_c (by omega) (by omega)) ev_c) (evA_cons (ev_add ev_c (ev_mod (ev_fdiv (ev_var rfl) ev_c (by omega) (by omega)) ev_c (by omega) (by omega))) evA_nil))) evA_nil)))) ?_
    have h3 : m / 8192 % 3 = 0 ∨ m / 8192 % 3 = 1 ∨ m / 8192 % 3 = 2 := by omega
    have ei : ∀ {v : D}, L2.atI [numD (m % 9 - 4, 1), numD (m % 19 - 9, 2 + m / 64 % 5), numD (m % 199 - 99, 1 + m / 64 % 99)] (m / 8192 % 3) = some v → q v → dRet (dOp gIx (dVar 1) (dOp gMod (dOp gFdiv (dVar 0) (dC (.int 8192))) (dC (.int 3)))) (En q xc) [some (.d (.int m)), some (.d (.list [numD (m % 9 - 4, 1), numD (m % 19 - 9, 2 + m / 64 % 5), numD (m % 199 - 99, 1 + m / 64 % 99)]))] := fun {v} hv hq => st_retF (x := v) (ev_ix (ev_var rfl) (ev_mod (ev_fdiv (ev_var rfl) ev_c (by omega) (by omega)) ev_c (by omega) (by omega)) hv) hq
    rcases h3 with e | e | e
    · exact ei (v := numD (m % 9 - 4, 1)) (by rw [e]; rfl) (h _ ⟨by omega, by omega, by omega, by omega⟩)
    · exact ei (v := numD (m % 19 - 9, 2 + m / 64 % 5)) (by rw [e]; rfl) (h _ ⟨by omega, by omega, by omega, by omega⟩)
    · exact ei (v := numD (m % 199 - 99, 1 + m / 64 % 99)) (by rw [e]; rfl) (h _ ⟨by omega, by omega, by omega, by omega⟩)
  · exact h.elim
def F__law_none_let (C : Addr) : Ct := fun xs q _ => match xs with
  | [.r C' _ _] => C' = C ∧ q (.bool true)
  | _ => False
theorem hn__law_none_let (C : Addr) (xs : List Vl) (q : D → Prop) (xc : DX) (h : F__law_none_let C xs q xc) : xs.length = 1 := by
  unfold F__law_none_let at h; split at h
  · rfl
  · exact h.elim
theorem sem__law_none_let (C : Addr) (xs : List Vl) (q : D → Prop) (xc : DX) (h : F__law_none_let C xs q xc) : t__law_none_let C al7 (F_Pile_press C) (F_Pile_copy C) (F_Pile_digits_of_top C) (En q xc) (dstart ["pile", "bad"] xs) := by
  unfold F__law_none_let at h; split at h
  · rename_i C' x rows
    obtain ⟨rfl, h⟩ := h
    simp only [t__law_none_let, dstart]
    refine sq_for (ds := [.none, .tuple [], .tuple [.int 1, .int 0], .tuple [.int 100, .int 1], .tuple [.bool true, .int 1], .list [.int 1, .int 2]]) (ev_lst (evA_cons ev_c (evA_cons (ev_tup evA_nil) (evA_cons (ev_tup (evA_cons ev_c (evA_cons ev_c evA_nil))) (evA_cons (ev_tup (evA_cons ev_c (evA_cons ev_c evA_nil))) (evA_cons (ev_tup (evA_cons ev_c (evA_cons ev_c evA_nil))) (evA_cons (ev_lst (evA_cons ev_c (evA_cons ev_c evA_nil))) evA_nil))))))) ?_
    refine for_ind (fun es ρ => (∀ d ∈ es, isNum d = false) ∧ ∃ v1 : Option Vl, ρ = [some (.r C' x rows), v1]) ⟨by decide +kernel, _, rfl⟩ (fun d r2 ρ K2 hI hK2 => ?_) (fun ρ hI => ?_)
    · obtain ⟨hno, v1, rfl⟩ := hI
      refine ⟨_, rfl, ?_⟩
      refine st_ifF (evt_neF (ev_toldM (x := x) (rows := rows) (c := "BadNumber") (ds := [d]) (isR rfl) (evA_cons (ev_var rfl) evA_nil) (fun q xc' h => ⟨rfl, .inl ⟨hno d List.mem_cons_self, h⟩⟩) al7_num) ev_c) (hK2 _ ⟨fun x hx => hno x (List.mem_cons_of_mem _ hx), _, rfl⟩)
    · obtain ⟨_, v1, rfl⟩ := hI
      refine sq_for (ds := [.int (-1), .int 12, .none, .bool true, .str "0"]) (ev_lst (evA_cons (ev_neg ev_c) (evA_cons ev_c (evA_cons ev_c (evA_cons ev_c (evA_cons ev_c evA_nil)))))) ?_
      refine for_ind (fun es ρ => (∀ d ∈ es, isCnt d 0 11 = false) ∧ ∃ v1 : Option Vl, ρ = [some (.r C' x rows), v1]) ⟨by decide +kernel, _, rfl⟩ (fun d r2 ρ K2 hI hK2 => ?_) (fun ρ hI => ?_)
      · obtain ⟨hno, v1, rfl⟩ := hI
        refine ⟨_, rfl, ?_⟩
        refine st_ifF (evt_neF (ev_toldM (x := x) (rows := rows) (c := "BadNumber") (ds := [d]) (isR rfl) (evA_cons (ev_var rfl) evA_nil) (fun q xc' h => ⟨rfl, .inl ⟨hno d List.mem_cons_self, h⟩⟩) al7_num) ev_c) (hK2 _ ⟨fun x hx => hno x (List.mem_cons_of_mem _ hx), _, rfl⟩)
      · obtain ⟨_, v1, rfl⟩ := hI
        refine sq_for (ds := [.int (-1), .int 31, .none, .bool true, .str "0"]) (ev_lst (evA_cons (ev_neg ev_c) (evA_cons ev_c (evA_cons ev_c (evA_cons ev_c (evA_cons ev_c evA_nil)))))) ?_
        refine for_ind (fun es ρ => (∀ d ∈ es, isCnt d 0 30 = false) ∧ ∃ v1 : Option Vl, ρ = [some (.r C' x rows), v1]) ⟨by decide +kernel, _, rfl⟩ (fun d r2 ρ K2 hI hK2 => ?_) (fun ρ hI => ?_)
        · obtain ⟨hno, v1, rfl⟩ := hI
          refine ⟨_, rfl, ?_⟩
          refine st_ifF (evt_neF (ev_toldM (x := x) (rows := rows) (c := "BadNumber") (ds := [d]) (isR rfl) (evA_cons (ev_var rfl) evA_nil) (fun q xc' h => ⟨rfl, .inl ⟨hno d List.mem_cons_self, h⟩⟩) al7_num) ev_c) (hK2 _ ⟨fun x hx => hno x (List.mem_cons_of_mem _ hx), _, rfl⟩)
        · obtain ⟨_, v1, rfl⟩ := hI
          show dRet (dC (.bool true)) (En q xc) [some (.r C' x rows), v1]
          exact st_retF (x := .bool true) ev_c h
  · exact h.elim
def F__law_few_right : Ct := fun xs q _ => match xs with
  | [] => q (.bool true)
  | _ => False
theorem hn__law_few_right (xs : List Vl) (q : D → Prop) (xc : DX) (h : F__law_few_right xs q xc) : xs.length = 0 := by
  unfold F__law_few_right at h; split at h
  · rfl
  · exact h.elim
theorem ex32 : (exF (3, 2)).map numD = [.tuple [.int 2, .int 3]] := by
  rw [show exF (3, 2) = [(2, 3)] by decide +kernel]; rfl
theorem ex99 : (exF (99, 97)).map numD = [.tuple [.int 97, .int 99]] := by
  rw [show exF (99, 97) = [(97, 99)] by decide +kernel]; rfl
theorem sem__law_few_right (C : Addr) (xs : List Vl) (q : D → Prop) (xc : DX) (h : F__law_few_right xs q xc) : t__law_few_right C al7 (F_Pile_add C) (F_Pile_multiply C) (F_Pile_negate C) (F_Pile_drop C) (F_Pile_copy C) (F_Pile_top C) (F_Pile_subtract C) (F_Pile_swap C) (F_Pile_exacts C) G_Pile_press (En q xc) (dstart ["pile", "told"] xs) := by
  unfold F__law_few_right at h; split at h
  · simp only [t__law_few_right, dstart]
    refine sq_new fun g => ?_
    show dSeq _ _ _ [some (.q C g ⟨[], [], []⟩), none]
    refine sq_ownL (evA_cons (ev_toldM (c := "TooFew") (isQ rfl) evA_nil (fun q xc' h => ⟨rfl, by decide, h⟩) al7_few) evA_nil) (by decide) ?_
    refine sq_app rfl (ev_toldM (c := "TooFew") (isQ rfl) evA_nil (fun q xc' h => ⟨rfl, .inl ⟨by decide, h⟩⟩) al7_few) (by decide) ?_
    refine sq_app rfl (ev_toldM (c := "TooFew") (isQ rfl) evA_nil (fun q xc' h => ⟨rfl, by decide, h⟩) al7_few) (by decide) ?_
    refine sq_app rfl (ev_toldM (c := "TooFew") (isQ rfl) evA_nil (fun q xc' h => ⟨rfl, by decide, h⟩) al7_few) (by decide) ?_
    refine sq_app rfl (ev_toldM (c := "TooFew") (ds := [.int 0]) (isQ rfl) (evA_cons ev_c evA_nil) (fun q xc' h => ⟨rfl, .inr ⟨0, rfl, by decide, by decide, .inl (by decide), h⟩⟩) al7_few) (by decide) ?_
    refine sq_app rfl (ev_toldM (c := "TooFew") (isQ rfl) evA_nil (fun q xc' h => ⟨rfl, by decide, h⟩) al7_few) (by decide) ?_
    refine sq_ifF (evt_orF (evt_neO rfl (ev_mulL (ev_lst (evA_cons ev_c evA_nil)) ev_c (by omega) (by omega) (by decide))) (evt_neF (ev_toldU rfl rfl al7_no) ev_c)) ?_
    refine sq_mut (rows' := [.list [.tuple [.int 2, .int 3]]]) (ds := [numD (3, 2)]) rfl (only_of rfl) (evA_cons (ev_tup (evA_cons ev_c (evA_cons ev_c evA_nil))) evA_nil) (by decide) (fun qm hq => ⟨(3, 2), rfl, ⟨by decide, by decide, by decide, by decide⟩, by decide, by rw [ex32]; exact hq⟩) fun g2 => ?_
    refine sq_ownL (evA_cons (ev_toldM (c := "TooFew") (isQ rfl) evA_nil (fun q xc' h => ⟨rfl, by decide, h⟩) al7_few) evA_nil) (by decide) ?_
    refine sq_app rfl (ev_toldM (c := "TooFew") (isQ rfl) evA_nil (fun q xc' h => ⟨rfl, by decide, h⟩) al7_few) (by decide) ?_
    refine sq_app rfl (ev_toldM (c := "TooFew") (isQ rfl) evA_nil (fun q xc' h => ⟨rfl, .inl ⟨by decide, h⟩⟩) al7_few) (by decide) ?_
    refine sq_app rfl (ev_toldM (c := "TooFew") (isQ rfl) evA_nil (fun q xc' h => ⟨rfl, by decide, h⟩) al7_few) (by decide) ?_
    refine sq_app rfl (ev_toldM (c := "TooFew") (ds := [.int 1]) (isQ rfl) (evA_cons ev_c evA_nil) (fun q xc' h => ⟨rfl, .inr ⟨1, rfl, by decide, by decide, .inl (by decide), h⟩⟩) al7_few) (by decide) ?_
    refine st_retF (x := .bool true) (ev_andV (a := true) (b := true) (ev_eqO rfl (ev_mulL (ev_lst (evA_cons ev_c evA_nil)) ev_c (by omega) (by omega) (by decide))) (fun _ => ev_eqT (x := .list [.list [.tuple [.int 2, .int 3]]]) (ev_mth (isQ rfl) evA_nil (fun q xc' h => ⟨rfl, by decide, fun r hr => ⟨_, List.mem_singleton.mp hr⟩, h⟩)) (ev_lst (evA_cons (ev_lst (evA_cons (ev_tup (evA_cons ev_c (evA_cons ev_c evA_nil))) evA_nil)) evA_nil)))) h
  · exact h.elim
def F_law_k91 : Ct := fun xs q _ => match xs with
  | [.s ns] => ns.length < 2 ^ 60 ∧ q (.bool true)
  | _ => False
theorem hn_law_k91 (xs : List Vl) (q : D → Prop) (xc : DX) (h : F_law_k91 xs q xc) : xs.length = 1 := by
  unfold F_law_k91 at h; split at h
  · rfl
  · exact h.elim
def l97 : List (Int × Int) := [(97, 99)]
def m97 : List (Int × Int) := [(1, 950697)]
theorem pr97 : exD (proF l97 l97) = .list (m97.map numD) := by
  rw [exD_id (by decide +kernel)]; rfl
theorem pr97x : isExact (exD (proF l97 l97)) = true := by rw [pr97]; decide +kernel
theorem prBig : isExact (exD (proF m97 m97)) = false := by
  rw [exD_id (by decide +kernel)]; decide +kernel
theorem ok97 : ∀ p ∈ l97, PrOk p := fun p hp => by rw [List.mem_singleton.mp hp]; exact ⟨by decide, by decide, by decide, by decide⟩
theorem okM : ∀ p ∈ m97, PrOk p := fun p hp => by rw [List.mem_singleton.mp hp]; exact ⟨by decide, by decide, by decide, by decide⟩
theorem sem_law_k91 (C : Addr) (xs : List Vl) (q : D → Prop) (xc : DX) (h : F_law_k91 xs q xc) : t_law_k91 C al7 F__law_drawn F__law_cell F__law_number (F_Pile_press C) (F_Pile_copy C) (F_Pile_exacts C) (F__law_none_let C) F__law_few_right (F_Pile_multiply C) (F_Pile_digits_of_top C) G_Pile_press G_Pile_copy G_Pile_multiply (En q xc) (dstart ["script", "k", "more", "pile", "number", "j", "told", "kept"] xs) := by
  unfold F_law_k91 at h; split at h
  · rename_i ns
    obtain ⟨hns, h⟩ := h
    simp only [t_law_k91, dstart]
    refine law_for (ns := ns) ⟨by decide, by decide⟩ rfl hns (fun ρ => ∃ v1 v2 v3 v4 v5 v6 v7 : Option Vl, ρ = [some (.s ns), v1, v2, v3, v4, v5, v6, v7] ∧ nq v1 = true ∧ nq v2 = true ∧ nq v4 = true ∧ nq v5 = true ∧ nq v6 = true ∧ nq v7 = true) ⟨_, _, _, _, _, _, _, rfl, rfl, rfl, rfl, rfl, rfl, rfl⟩ (fun k ρ K hk0 hk1 hI hK => ?_) (fun ρ hI => ?_)
    · obtain ⟨v1, v2, v3, v4, v5, v6, v7, rfl, n1, n2, n4, n5, n6, n7⟩ := hI
      refine sq_draw rfl rfl hns hk0 hk1 fun more hm0 hm1 => ?_
      refine sq_newNum (fun xc Q hQ => call_ev (ds := [.int (more / 8)]) (evA_cons (ev_fdiv (ev_var rfl) ev_c (by omega) (by omega)) evA_nil) ⟨by omega, hQ⟩) ?_
      intro p hp g
      refine sq_mut (rows' := [.list ((exF p).map numD)]) (ds := [numD p]) rfl (only8 rfl rfl rfl rfl n5 n6 n7) (evA_cons (ev_var rfl) evA_nil) (by decide) (fun qm hq => ⟨p, rfl, hp, by decide, hq⟩) fun g2 => ?_
      refine sq_rng1 (evA_cons ev_c evA_nil) ⟨by omega, by omega⟩ ?_
      show forL _ _ _ (rangeD 0 11) [some (.s ns), some (.d (.int k)), some (.d (.int more)), some (.q C g2 ⟨[.list ((exF p).map numD)], [.list []], []⟩), some (.d (numD p)), v5, v6, v7]
      refine for_ind (fun es ρ => ∃ (g : Gh) (rows past : List D) (v5 : Option Vl), rows.length + es.length = 12 ∧ past.length = rows.length ∧ (∃ r0, rows = r0 ++ [.list ((exF p).map numD)]) ∧ (∀ r ∈ rows, r = .list ((exF p).map numD)) ∧ nq v5 = true ∧ ρ = [some (.s ns), some (.d (.int k)), some (.d (.int more)), some (.q C g ⟨rows, past, []⟩), some (.d (numD p)), v5, v6, v7]) ⟨g2, [.list ((exF p).map numD)], [.list []], v5, rfl, rfl, ⟨[], rfl⟩, fun r hr => List.mem_singleton.mp hr, n5, rfl⟩ (fun d r ρ K2 hI hK2 => ?_) (fun ρ hI => ?_)
      · obtain ⟨g3, rows, past, w5, hl, hp1, ⟨r0, hr0⟩, hall, nw5, rfl⟩ := hI
        rw [List.length_cons] at hl
        refine ⟨_, rfl, ?_⟩
        refine st_mut (rows' := rows ++ [.list ((exF p).map numD)]) (ds := [.int 0]) rfl (only8 rfl rfl rfl rfl rfl n6 n7) (evA_cons ev_c evA_nil) (by show past.length < 1000; omega) (fun qm hq => ⟨rfl, by show rows.length < 12; omega, r0, _, hr0, hq⟩) fun g4 => ?_
        refine hK2 _ ⟨g4, _, _, _, ?_, ?_, ⟨rows, rfl⟩, fun r hr => ?_, rfl, rfl⟩
        · simp; omega
        · simp; omega
        · rcases List.mem_append.mp hr with z | z
          · exact hall r z
          · exact List.mem_singleton.mp z
      · obtain ⟨g3, rows, past, w5, hl, hp1, ⟨r0, hr0⟩, hall, nw5, rfl⟩ := hI
        rw [List.length_nil, Nat.add_zero] at hl
        dsimp only
        refine sq_ownL (evA_cons (ev_toldM (c := "TooFew") (ds := [numD p]) (isQ rfl) (evA_cons (ev_var rfl) evA_nil) (fun q xc' h => ⟨rfl, .inr ⟨num_is hp, by show 12 ≤ rows.length; omega, h⟩⟩) al7_few) evA_nil) (by decide) ?_
        refine sq_app rfl (ev_toldM (c := "TooFew") (ds := [.int 0]) (isQ rfl) (evA_cons ev_c evA_nil) (fun q xc' h => ⟨rfl, .inr ⟨0, rfl, by decide, by decide, .inr (by show 12 ≤ rows.length; omega), h⟩⟩) al7_few) (by decide) ?_
        show dSeq _ _ _ [some (.s ns), some (.d (.int k)), some (.d (.int more)), some (.q C g3 ⟨rows, past, []⟩), some (.d (numD p)), w5, some (.o (.list [.str "TooFew", .str "TooFew"])), v7]
        have e12 : Ev [some (.s ns), some (.d (.int k)), some (.d (.int more)), some (.q C g3 ⟨rows, past, []⟩), some (.d (numD p)), w5, some (.o (.list [.str "TooFew", .str "TooFew"])), v7] (dCB gLen (dCons (dMth C 3 (F_Pile_exacts C) dNil) dNil)) (.int 12) := by
          have z := ev_len (ρ := [some (.s ns), some (.d (.int k)), some (.d (.int more)), some (.q C g3 ⟨rows, past, []⟩), some (.d (numD p)), w5, some (.o (.list [.str "TooFew", .str "TooFew"])), v7]) (ev_mth (C := C) (i := 3) (F := F_Pile_exacts C) (y := .list rows) (isQ rfl) evA_nil (fun q xc' h => ⟨rfl, by show rows.length ≤ 100; omega, fun r hr => ⟨_, hall r hr⟩, h⟩))
          rw [hl] at z
          exact z
        refine sq_ifF (evt_orF (evt_neO rfl (ev_mulL (ev_lst (evA_cons ev_c evA_nil)) ev_c (by omega) (by omega) (by decide))) (evt_orF (evt_neF e12 ev_c) (evt_neF (ev_toldR rfl rfl al7_no) ev_c))) ?_
        refine sq_ifF (evt_orF (evt_not (b := true) (evt_val (ev_mth (isQ rfl) evA_nil (fun q xc' h => ⟨rfl, h⟩)))) (evt_orF (evt_not (b := true) (evt_val (ev_fnNew fun x q xc' h => ⟨rfl, h⟩))) (evt_not (b := true) (evt_val (ev_call (ds := []) evA_nil fun q xc' h => h))))) ?_
        refine sq_new fun g5 => ?_
        refine sq_mut (rows' := [.list (l97.map numD)]) (ds := [numD (99, 97)]) rfl (only8 rfl rfl rfl rfl nw5 rfl n7) (evA_cons (ev_tup (evA_cons ev_c (evA_cons ev_c evA_nil))) evA_nil) (by decide) (fun qm hq => ⟨(99, 97), rfl, ⟨by decide, by decide, by decide, by decide⟩, by decide, by rw [ex99]; exact hq⟩) fun g6 => ?_
        refine sq_mut (rows' := [.list (l97.map numD), .list (l97.map numD)]) (ds := [.int 0]) rfl (only8 rfl rfl rfl rfl nw5 rfl n7) (evA_cons ev_c evA_nil) (by decide) (fun qm hq => ⟨rfl, by decide, [], _, rfl, hq⟩) fun g7 => ?_
        refine sq_mut (rows' := [.list (m97.map numD)]) (ds := []) rfl (only8 rfl rfl rfl rfl nw5 rfl n7) evA_nil (by decide) (fun qm hq => ⟨l97, l97, rfl, by decide, by decide, ok97, ok97, pr97x, by rw [pr97]; exact hq⟩) fun g8 => ?_
        refine sq_set (x := .list [.list (m97.map numD)]) (ev_mth (isQ rfl) evA_nil (fun q xc' h => ⟨rfl, by decide, fun r hr => ⟨_, List.mem_singleton.mp hr⟩, h⟩)) ?_
        refine sq_mut (rows' := [.list (m97.map numD), .list (m97.map numD)]) (ds := [.int 0]) rfl (only8 rfl rfl rfl rfl nw5 rfl rfl) (evA_cons ev_c evA_nil) (by decide) (fun qm hq => ⟨rfl, by decide, [], _, rfl, hq⟩) fun g9 => ?_
        refine sq_ifF (evt_orF (evt_neF (ev_toldM (c := "TooGreat") (isQ rfl) evA_nil (fun q xc' h => ⟨rfl, .inr ⟨m97, m97, rfl, by decide, by decide, okM, okM, prBig, h⟩⟩) al7_gr) ev_c) (evt_neF (x := .list [.list (m97.map numD), .list (m97.map numD)]) (ev_mth (isQ rfl) evA_nil (fun q xc' h => ⟨rfl, by decide, fun r hr => (List.mem_cons.mp hr).elim (fun z => ⟨_, z⟩) fun z => ⟨_, List.mem_singleton.mp z⟩, h⟩)) (ev_mulL (i := [.list (m97.map numD)]) (j := 2) (ev_var rfl) ev_c (by omega) (by omega) (by decide)))) ?_
        refine sq_undo (p0 := [.list [], .list [.list (l97.map numD)], .list [.list (l97.map numD), .list (l97.map numD)]]) (rows' := [.list (m97.map numD)]) rfl (only8 rfl rfl rfl rfl nw5 rfl rfl) rfl rfl (by decide) fun g10 => ?_
        refine st_ifF (evt_orF (evt_neF (x := .list [.list (m97.map numD)]) (ev_mth (isQ rfl) evA_nil (fun q xc' h => ⟨rfl, by decide, fun r hr => ⟨_, List.mem_singleton.mp hr⟩, h⟩)) (ev_var rfl)) (evt_neF (x := .int 950697) (ev_mth (ds := [.int 0]) (isQ rfl) (evA_cons ev_c evA_nil) (fun q xc' h => ⟨rfl, .inr ⟨950697, by decide, by decide, rfl, rfl, h⟩⟩)) ev_c)) (hK _ ⟨_, _, _, _, _, _, _, rfl, rfl, rfl, rfl, nw5, rfl, rfl⟩)
    · obtain ⟨v1, v2, v3, v4, v5, v6, v7, rfl, _⟩ := hI
      show dRet (dC (.bool true)) (En q xc) [some (.s ns), v1, v2, v3, v4, v5, v6, v7]
      exact st_retF (x := .bool true) ev_c h
  · exact h.elim
end DL

namespace R91
open PySem L2 LamX DL
abbrev st__law_word : Stmt := topS 45
theorem sc__law_word : FnScope ["e", "flags"] ["e"] (defScope st__law_word) := ⟨rfl, rfl, rfl, by decide +kernel, rfl, by decide +kernel, by decide +kernel⟩
section
variable {P : Program} {w : World} {K : PySem.W.Frag} {mg : Str → Option Value} {base : Heap} {T : Wd}
theorem word_body {f a : Addr} {oe : Obj} {c : Str} {cdv : Value} (W : WordK K mg T al7 al7) (hc : al7.contains c = true) (h1 : oe.cls = .ref (T.ca c)) (h2 : oe.dict = none) (hf : ∃ vs, oe.data = .fields vs)
    (A : Around) (outer : List Env) (s : Shared) (H : Hp) (Q : VK) (hot : L2H.Hot1 (A.deeper (PyProof.Rows.envOfC "_law_word" (defScope st__law_word) s.heap.objs.size f cdv)) (a, oe)) (hQ : ∀ H', Sub H H' → Q (.str c) H') :
    ∃ u, PSs (L2H.cxH C8.CX0 P w K mg base ["e", "flags"] "_law_word" (defScope st__law_word) f cdv A outer s H C8.E0 (a, oe)).nox (defBody st__law_word) u ∧ u { nx := fun _ H' => Q .non H', rt := Q } (L2.start ["e", "flags"] [.ref a]) H := by
  have hp' : (a, oe) ∈ (L2H.cxH C8.CX0 P w K mg base ["e", "flags"] "_law_word" (defScope st__law_word) f cdv A outer s H C8.E0 (a, oe)).nox.pn := List.mem_cons_self
  refine ⟨_, pss_cons (ps_set (i := 1) sc__law_word.nd rfl (Or.inl rfl) (pe_lst (pa_cons (pe_isd W hp' hc h1 h2 hf (pv 0)) (pa_cons (pe_isd W hp' hc h1 h2 hf (pv 0)) (pa_cons (pe_isd W hp' hc h1 h2 hf (pv 0)) (pa_cons (pe_isd W hp' hc h1 h2 hf (pv 0)) pa_nil))))))
      (pss_cons (ps_set (i := 1) sc__law_word.nd rfl (Or.inl rfl) (pe_op op_cat (pv 1) (pe_lst (pa_cons (pe_isd W hp' hc h1 h2 hf (pv 0)) (pa_cons (pe_isd W hp' hc h1 h2 hf (pv 0)) (pa_cons (pe_isd W hp' hc h1 h2 hf (pv 0)) pa_nil))))))
      (pss_cons (ps_if (PW.pt (pw_or (pt_cmpR op_ne (pe_cntH hot hp' (pv 1) rfl W.nS W.nN (by decide +kernel) (by decide +kernel) rfl (by decide +kernel) rfl rfl (by decide +kernel) (fun _ => rfl) rfl (fun _ => rfl)) pe_int (nomark _)) (pw_or1 (pt_not (pt_val (pe_isv W hp' hc h1 h2 hf (pv 0))))))) (pss_one (ps_ret pe_str)) pss_nil)
      (pss_one (ps_ret (pe_ix ix_seq (pe_lst (pa_cons pe_str (pa_cons pe_str (pa_cons pe_str (pa_cons pe_str (pa_cons pe_str (pa_cons pe_str (pa_cons pe_str pa_nil)))))))) (pe_bm PySem.F.plainAttrs_list PySem.F.slot_list_index PySem.F.type_list_index mt_index (pv 1) (pa_cons pe_bl pa_nil)) (fun _ _ => rfl)))))), ?_⟩
  refine ⟨rfl, rfl, rfl, rfl, show 4 ≤ sizeLine by decide, fun p0 hp0 => ?_⟩
  have hH0 : Sub H (upd H p0 (.lst [.bl (c == "BadNumber"), .bl (c == "BadRow"), .bl (c == "BadText"), .bl (c == "BadExact")])) := Sub.new hp0
  refine ⟨_, rfl, rfl, rfl, rfl, show 3 ≤ sizeLine by decide, fun p1 hp1 => ?_⟩
  have np1 : p0 ≠ p1 := ne_of_none (upd_same (H := H)) hp1
  refine ⟨p0, p1, [.bl (c == "BadNumber"), .bl (c == "BadRow"), .bl (c == "BadText"), .bl (c == "BadExact")], [.bl (c == "TooGreat"), .bl (c == "TooFew"), .bl (c == "Nothing")], rfl, rfl, by rw [upd_ne np1, upd_same], upd_same, show 4 + 3 ≤ sizeLine by decide, fun p hp => ?_⟩
  have hH : Sub H (upd (upd (upd H p0 (.lst [.bl (c == "BadNumber"), .bl (c == "BadRow"), .bl (c == "BadText"), .bl (c == "BadExact")])) p1 (.lst [.bl (c == "TooGreat"), .bl (c == "TooFew"), .bl (c == "Nothing")])) p (.lst [.bl (c == "BadNumber"), .bl (c == "BadRow"), .bl (c == "BadText"), .bl (c == "BadExact"), .bl (c == "TooGreat"), .bl (c == "TooFew"), .bl (c == "Nothing")])) := (hH0.trans (Sub.new hp1)).trans (Sub.new hp)
  refine ⟨_, rfl, p, [c == "BadNumber", c == "BadRow", c == "BadText", c == "BadExact", c == "TooGreat", c == "TooFew", c == "Nothing"], rfl, SqL.of upd_same, show 7 ≤ 1000 by decide, ?_⟩
  have key : ∃ j : Nat, j < 7 ∧ (al7)[j]? = some c ∧ cntB [c == "BadNumber", c == "BadRow", c == "BadText", c == "BadExact", c == "TooGreat", c == "TooFew", c == "Nothing"] = 1 ∧ ([c == "BadNumber", c == "BadRow", c == "BadText", c == "BadExact", c == "TooGreat", c == "TooFew", c == "Nothing"] : List Bool)[j]? = some true ∧ ∀ m, m < j → ([c == "BadNumber", c == "BadRow", c == "BadText", c == "BadExact", c == "TooGreat", c == "TooFew", c == "Nothing"] : List Bool)[m]? = some false := by
    have hc2 : c = "BadNumber" ∨ c = "BadRow" ∨ c = "BadText" ∨ c = "BadExact" ∨ c = "TooGreat" ∨ c = "TooFew" ∨ c = "Nothing" := by simpa [al7] using hc
    rcases hc2 with rfl | rfl | rfl | rfl | rfl | rfl | rfl
    · exact ⟨0, by decide, rfl, by decide +kernel, by decide +kernel, fun m hm => by
        have : (∀ m : Fin 0, (([("BadNumber" : Str) == "BadNumber", ("BadNumber" : Str) == "BadRow", ("BadNumber" : Str) == "BadText", ("BadNumber" : Str) == "BadExact", ("BadNumber" : Str) == "TooGreat", ("BadNumber" : Str) == "TooFew", ("BadNumber" : Str) == "Nothing"] : List Bool)[m.1]?) = some false) := by decide +kernel
        exact this ⟨m, hm⟩⟩
    · exact ⟨1, by decide, rfl, by decide +kernel, by decide +kernel, fun m hm => by
        have : (∀ m : Fin 1, (([("BadRow" : Str) == "BadNumber", ("BadRow" : Str) == "BadRow", ("BadRow" : Str) == "BadText", ("BadRow" : Str) == "BadExact", ("BadRow" : Str) == "TooGreat", ("BadRow" : Str) == "TooFew", ("BadRow" : Str) == "Nothing"] : List Bool)[m.1]?) = some false) := by decide +kernel
        exact this ⟨m, hm⟩⟩
    · exact ⟨2, by decide, rfl, by decide +kernel, by decide +kernel, fun m hm => by
        have : (∀ m : Fin 2, (([("BadText" : Str) == "BadNumber", ("BadText" : Str) == "BadRow", ("BadText" : Str) == "BadText", ("BadText" : Str) == "BadExact", ("BadText" : Str) == "TooGreat", ("BadText" : Str) == "TooFew", ("BadText" : Str) == "Nothing"] : List Bool)[m.1]?) = some false) := by decide +kernel
        exact this ⟨m, hm⟩⟩
    · exact ⟨3, by decide, rfl, by decide +kernel, by decide +kernel, fun m hm => by
        have : (∀ m : Fin 3, (([("BadExact" : Str) == "BadNumber", ("BadExact" : Str) == "BadRow", ("BadExact" : Str) == "BadText", ("BadExact" : Str) == "BadExact", ("BadExact" : Str) == "TooGreat", ("BadExact" : Str) == "TooFew", ("BadExact" : Str) == "Nothing"] : List Bool)[m.1]?) = some false) := by decide +kernel
        exact this ⟨m, hm⟩⟩
    · exact ⟨4, by decide, rfl, by decide +kernel, by decide +kernel, fun m hm => by
        have : (∀ m : Fin 4, (([("TooGreat" : Str) == "BadNumber", ("TooGreat" : Str) == "BadRow", ("TooGreat" : Str) == "BadText", ("TooGreat" : Str) == "BadExact", ("TooGreat" : Str) == "TooGreat", ("TooGreat" : Str) == "TooFew", ("TooGreat" : Str) == "Nothing"] : List Bool)[m.1]?) = some false) := by decide +kernel
        exact this ⟨m, hm⟩⟩
    · exact ⟨5, by decide, rfl, by decide +kernel, by decide +kernel, fun m hm => by
        have : (∀ m : Fin 5, (([("TooFew" : Str) == "BadNumber", ("TooFew" : Str) == "BadRow", ("TooFew" : Str) == "BadText", ("TooFew" : Str) == "BadExact", ("TooFew" : Str) == "TooGreat", ("TooFew" : Str) == "TooFew", ("TooFew" : Str) == "Nothing"] : List Bool)[m.1]?) = some false) := by decide +kernel
        exact this ⟨m, hm⟩⟩
    · exact ⟨6, by decide, rfl, by decide +kernel, by decide +kernel, fun m hm => by
        have : (∀ m : Fin 6, (([("Nothing" : Str) == "BadNumber", ("Nothing" : Str) == "BadRow", ("Nothing" : Str) == "BadText", ("Nothing" : Str) == "BadExact", ("Nothing" : Str) == "TooGreat", ("Nothing" : Str) == "TooFew", ("Nothing" : Str) == "Nothing"] : List Bool)[m.1]?) = some false) := by decide +kernel
        exact this ⟨m, hm⟩⟩
  obtain ⟨j, hj, k1, k2, k3, k4⟩ := key
  rw [k2]
  refine ⟨by decide, false, by rw [decide_eq_true rfl]; rfl, iteF ?_⟩
  refine ⟨rfl, true, rfl, iteF ?_⟩
  refine ⟨show 7 ≤ sizeLine by decide, fun p2 hp2 => ?_⟩
  have npp : p ≠ p2 := ne_of_none (upd_same (H := (upd (upd H p0 (.lst [.bl (c == "BadNumber"), .bl (c == "BadRow"), .bl (c == "BadText"), .bl (c == "BadExact")])) p1 (.lst [.bl (c == "TooGreat"), .bl (c == "TooFew"), .bl (c == "Nothing")])))) hp2
  refine ⟨_, rfl, .inl ⟨rfl, _, SqL.of (by rw [upd_ne npp, upd_same])⟩, p, [.bl (c == "BadNumber"), .bl (c == "BadRow"), .bl (c == "BadText"), .bl (c == "BadExact"), .bl (c == "TooGreat"), .bl (c == "TooFew"), .bl (c == "Nothing")], .bl true, j, .bl true, rfl, rfl, SqL.of (by rw [upd_ne npp]; exact upd_same), rfl, rfl, ?_, rfl, ?_, ?_⟩
  · rw [show ([.bl (c == "BadNumber"), .bl (c == "BadRow"), .bl (c == "BadText"), .bl (c == "BadExact"), .bl (c == "TooGreat"), .bl (c == "TooFew"), .bl (c == "Nothing")] : List V) = ([c == "BadNumber", c == "BadRow", c == "BadText", c == "BadExact", c == "TooGreat", c == "TooFew", c == "Nothing"] : List Bool).map V.bl from rfl, List.getElem?_map, k3]
    rfl
  · intro m z hm hz
    rw [show ([.bl (c == "BadNumber"), .bl (c == "BadRow"), .bl (c == "BadText"), .bl (c == "BadExact"), .bl (c == "TooGreat"), .bl (c == "TooFew"), .bl (c == "Nothing")] : List V) = ([c == "BadNumber", c == "BadRow", c == "BadText", c == "BadExact", c == "TooGreat", c == "TooFew", c == "Nothing"] : List Bool).map V.bl from rfl, List.getElem?_map, k4 m hm] at hz
    cases hz
    rfl
  · refine .inl ⟨p2, al7.map V.str, (j : Nat), .str c, rfl, rfl, SqL.of upd_same, ?_, hQ _ (hH.trans (Sub.new hp2))⟩
    exact atI_nat (by rw [List.getElem?_map, k1]; rfl)
theorem words_ok {f : Addr} {fd : FuncData} (Fn : Fun K "_law_word" "_law_word" st__law_word f fd) (hm : mg "_law_word" = some (.ref f)) (hb : Binds K fd ["e"] [])
    (W : WordK K mg T al7 al7) : WordsOk P w K mg base T al7 := by
  intro Y e1 e2 e3 e4 e5 a oe c hp hot hr hg hc h1 h2 hf e te p pos he hst
  subst e1 e2 e3 e4 e5
  obtain ⟨oc, od, kV, doc, pm, an, cdv, ct, osl, e0, lk, hcd⟩ := Fn.ex
  subst e0
  refine pe_imp (pe_hot (k := 2) (sp := fun vs H Q => match vs with | [v] => v = .ref a ∧ ∀ H', Sub H H' → Q (.str c) H' | _ => False) hot hp hg hm Fn.kp lk hcd sc__law_word hb hr (fun vs H Q h => by split at h; (· rfl); (· exact h.elim)) (fun A outer s H vs Q hot' hr' hh => ?_) (pa_cons he pa_nil hst) hst rfl) fun σ H Q h => h
  split at hh
  · obtain ⟨ev, hQ⟩ := hh
    subst ev
    exact word_body W hc h1 h2 hf A outer s H Q hot' hQ
  · exact hh.elim
end
end R91

namespace R91
open PySem DL
theorem law_end (ns : List Int) (h : ns.length ≤ 63) : F_law_k91 [.s ns] (fun d => d = .bool true) fun _ => False := ⟨by omega, rfl⟩
end R91

/-! The pile's own: what is shown by hand. -/
namespace R91
open PySem L2 LamX DL
abbrev st_init : Stmt := inClass (topS 41) 0
abbrev st_become : Stmt := inClass (topS 41) 1
abbrev st_undo : Stmt := inClass (topS 41) 12
abbrev st_redo : Stmt := inClass (topS 41) 13
theorem e1 : ¬ (("rows" : Str) = "past") := by decide +kernel
theorem e2 : ¬ (("rows" : Str) = "ahead") := by decide +kernel
theorem e3 : ¬ (("past" : Str) = "ahead") := by decide +kernel
theorem pf0 (rv : V) : putF "rows" rv [] = ([("rows", rv)] : List (Str × V)) := rfl
theorem pf1 (rv pv : V) : putF "past" pv ([("rows", rv)] : List (Str × V)) = ([("rows", rv), ("past", pv)] : List (Str × V)) := by
  show (if ("rows" : Str) = "past" then _ else (("rows" : Str), rv) :: putF "past" pv []) = _
  rw [if_neg e1]; rfl
theorem pf2 (rv pv av : V) : putF "ahead" av ([("rows", rv), ("past", pv)] : List (Str × V)) = pfl rv pv av := by
  show (if ("rows" : Str) = "ahead" then _ else (("rows" : Str), rv) :: (if ("past" : Str) = "ahead" then _ else (("past" : Str), pv) :: putF "ahead" av [])) = _
  rw [if_neg e2, if_neg e3]; rfl
theorem pf3 (rv pv av a : V) : putF "ahead" a (pfl rv pv av) = pfl rv pv a := by
  show (if ("rows" : Str) = "ahead" then _ else (("rows" : Str), rv) :: (if ("past" : Str) = "ahead" then _ else (("past" : Str), pv) :: (if ("ahead" : Str) = "ahead" then [(("ahead" : Str), a)] else _))) = _
  rw [if_neg e2, if_neg e3, if_pos rfl]; rfl
theorem pf4 (rv pv av a : V) : putF "rows" a (pfl rv pv av) = pfl a pv av := by
  show (if ("rows" : Str) = "rows" then (("rows" : Str), a) :: _ else _) = _
  rw [if_pos rfl]; rfl
theorem scI : FnScope ["self"] ["self"] (defScope st_init) := ⟨rfl, rfl, rfl, by decide +kernel, rfl, by decide +kernel, by decide +kernel⟩
theorem scB : FnScope ["self", "rows"] ["self", "rows"] (defScope st_become) := ⟨rfl, rfl, rfl, by decide +kernel, rfl, by decide +kernel, by decide +kernel⟩
theorem scU : FnScope ["self"] ["self"] (defScope st_undo) := ⟨rfl, rfl, rfl, by decide +kernel, rfl, by decide +kernel, by decide +kernel⟩
theorem scR : FnScope ["self"] ["self"] (defScope st_redo) := ⟨rfl, rfl, rfl, by decide +kernel, rfl, by decide +kernel, by decide +kernel⟩
section
variable {P : Program} {w : World} {K : PySem.W.Frag} {mg : Str → Option Value} {base : Heap} {T : Wd} {C f : Addr} {fd : FuncData}
theorem ok_init (F : Fun K "__init__" "Pile.__init__" st_init f fd) (pk : PileK K C) : FnOk P w K mg base (L2N.CX P w) 1 f fd ["self"] (spI C) := by
  obtain ⟨oc, od, kV, doc, pm, an, cdv, ct, osl, e0, lk, hcd⟩ := F.ex
  subst e0
  refine fn_of lk hcd scI (fun vs H Q E ⟨x, dx, h0, _⟩ => by rw [h0]; rfl) (fun A outer s H vs Q E hr h => ?_)
  obtain ⟨x, dx, rfl, hx, k⟩ := h
  refine ⟨_, pss_cons (ps_fld (pv 0) (pe_lst pa_nil) rfl) (pss_cons (ps_fld (pv 0) (pe_lst pa_nil) rfl) (pss_one (ps_fld (pv 0) (pe_lst pa_nil) rfl))), ?_⟩
  refine ⟨Nat.zero_le _, fun r hr => ?_⟩
  have n1 : x ≠ r := ne_of_none hx hr
  refine ⟨_, rfl, x, C, dx, [], rfl, (by rw [upd_ne n1]; exact hx), pk.cl, pk.nR, (by show 0 < 1000; decide), Nat.zero_le _, fun p hp => ?_⟩
  have n2 : x ≠ p := fun z => by rw [← z, upd_same] at hp; cases hp
  rw [upd_ne (Ne.symm n2)] at hp
  have n3 : p ≠ r := fun z => by rw [z, upd_same] at hp; cases hp
  rw [upd_ne n3] at hp
  refine ⟨_, rfl, x, C, dx, _, rfl, Eq.trans (upd_ne n2) upd_same, pk.cl, pk.nP, (by show 1 < 1000; decide), Nat.zero_le _, fun a ha => ?_⟩
  have n4 : x ≠ a := fun z => by rw [← z, upd_same] at ha; cases ha
  rw [upd_ne (Ne.symm n4)] at ha
  have n5 : a ≠ p := fun z => by rw [z, upd_same] at ha; cases ha
  rw [upd_ne n5, upd_ne (Ne.symm n4)] at ha
  have n6 : a ≠ r := fun z => by rw [z, upd_same] at ha; cases ha
  rw [upd_ne n6] at ha
  refine ⟨_, rfl, x, C, dx, _, rfl, Eq.trans (upd_ne n4) upd_same, pk.cl, pk.nA, (by rw [pf0, pf1]; show 2 < 1000; decide), ?_⟩
  rw [pf0, pf1, pf2]
  have z := k r p a hr hp ha (Ne.symm n3) (Ne.symm n6) (Ne.symm n5)
  rw [upd_comm (H := upd H r (.lst [])) (a := x) (b := p) n2, upd_upd, upd_comm (a := x) (b := a) n4, upd_upd]
  exact z
theorem ok_become (F : Fun K "become" "Pile.become" st_become f fd) (pk : PileK K C) : FnOk P w K mg base (L2N.CX P w) 1 f fd ["self", "rows"] (spB C) := by
  obtain ⟨oc, od, kV, doc, pm, an, cdv, ct, osl, e0, lk, hcd⟩ := F.ex
  subst e0
  refine fn_of lk hcd scB (fun vs H Q E ⟨x, rv', dx, rv, pp, ap, ps, h0, _⟩ => by rw [h0]; rfl) (fun A outer s H vs Q E hr h => ?_)
  obtain ⟨x, rv', dx, rv, pp, ap, ps, rfl, hx, hp, hl, k⟩ := h
  have n1 : pp ≠ x := ne_of hp hx (by intro z; cases z)
  refine ⟨_, pss_cons (ps_expr (pe_bm PySem.F.plainAttrs_list PySem.F.slot_list_append PySem.F.type_list_append mt_append (pe_fld (pv 0) rfl) (pa_cons (pe_fld (pv 0) rfl) pa_nil))) (pss_cons (ps_fld (pv 0) (pe_lst pa_nil) rfl) (pss_one (ps_fld (pv 0) (pv 1) rfl))), ?_⟩
  refine ⟨_, rfl, x, C, dx, _, _, rfl, hx, pk.cl, pk.nP, pfl_past _ _ _, .inl ⟨rfl, _, SqL.of hp⟩, _, rfl, x, C, dx, _, _, rfl, hx, pk.cl, pk.nR, pfl_rows _ _ _, pp, ps, rv, rfl, rfl, hp, hl, ?_⟩
  refine ⟨Nat.zero_le _, fun a ha => ?_⟩
  have n2 : a ≠ pp := fun z => by rw [z, upd_same] at ha; cases ha
  rw [upd_ne n2] at ha
  have n3 : x ≠ a := ne_of_none hx ha
  have hx2 : upd (upd H pp (.lst (ps ++ [rv]))) a (.lst []) x = some (.ins C dx (pfl rv (.ref pp) (.ref ap))) := by rw [upd_ne n3, upd_ne (Ne.symm n1)]; exact hx
  refine ⟨_, rfl, x, C, dx, _, rfl, hx2, pk.cl, pk.nA, (by show 3 < 1000; decide), _, rfl, _, rfl, x, C, dx, _, rfl, upd_same, pk.cl, pk.nR, (by rw [pf3]; show 3 < 1000; decide), ?_⟩
  rw [pf3, pf4, upd_upd]
  exact k a ha
theorem ok_undo (F : Fun K "undo" "Pile.undo" st_undo f fd) (pk : PileK K C) (xN : ExC K mg T "Nothing") : FnOk P w K mg base (L2N.CX P w) 1 f fd ["self"] (spU K T C) := by
  obtain ⟨oc, od, kV, doc, pm, an, cdv, ct, osl, e0, lk, hcd⟩ := F.ex
  subst e0
  refine fn_of lk hcd scU (fun vs H Q E ⟨x, dx, rv, pp, ap, ps, as, h0, _⟩ => by rw [h0]; rfl) (fun A outer s H vs Q E hr h => ?_)
  obtain ⟨x, dx, rv, pp, ap, ps, as, rfl, hx, hp, ha, ne, h⟩ := h
  refine ⟨_, pss_cons (ps_if (pt_cmpR (op_eqP (Room.units hr)) (pe_fld (pv 0) rfl) (pe_lst pa_nil) rfl) (pss_one (L2N.ps_raise rfl (L2N.takes_of rfl rfl rfl rfl) (L2N.pmk_own PySem.F.excBase_ValueError xN.ei xN.gC xN.kC (raises_own xN.r1 xN.r2) rfl (by decide)))) pss_nil)
    (pss_cons (ps_expr (pe_bm PySem.F.plainAttrs_list PySem.F.slot_list_append PySem.F.type_list_append mt_append (pe_fld (pv 0) rfl) (pa_cons (pe_fld (pv 0) rfl) pa_nil))) (pss_one (ps_fld (pv 0) (pe_bm0 PySem.F.plainAttrs_list PySem.F.slot_list_pop PySem.F.type_list_pop mt_pop (pe_fld (pv 0) rfl)) rfl))), ?_⟩
  refine ⟨_, rfl, x, C, dx, _, _, rfl, hx, pk.cl, pk.nP, pfl_past _ _ _, Nat.zero_le _, fun l hl => ?_⟩
  have hp' : upd H l (.lst []) pp = some (.lst ps) := by rw [upd_ne (ne_of_none hp hl)]; exact hp
  have hx' : upd H l (.lst []) x = some (.ins C dx (pfl rv (.ref pp) (.ref ap))) := by rw [upd_ne (ne_of_none hx hl)]; exact hx
  have ha' : upd H l (.lst []) ap = some (.lst as) := by rw [upd_ne (ne_of_none ha hl)]; exact ha
  have dl : Dp K (upd H l (.lst [])) (.ref l) (.list []) := .lst (SqL.of upd_same) .nil
  rcases h with ⟨rfl, h⟩ | ⟨ps0, y, ds, rfl, h1, h2, h3, h4⟩
  · refine ⟨.list [], .list [], .lst (SqL.of hp') .nil, dl, rfl, rfl, (by decide), true, (by rfl), iteT ?_⟩
    exact h l hl
  · have hds : ds ≠ [] := fun z => by
      have := h2 l hl
      rw [z] at this
      cases h5 : ps0 ++ [y] with
      | nil => simp at h5
      | cons a b => rw [h5] at this; cases this
    refine ⟨.list ds, .list [], .lst (SqL.of hp') (h2 l hl), dl, okD_plain _ _ h3, rfl, (by have := okD_depth _ _ h3; omega), false, ?_, iteF ?_⟩
    · cases ds with
      | nil => exact absurd rfl hds
      | cons a b => rfl
    · have n1 : ap ≠ x := ne_of ha hx (by intro z; cases z)
      have n2 : pp ≠ x := ne_of hp hx (by intro z; cases z)
      refine ⟨_, rfl, x, C, dx, _, _, rfl, hx', pk.cl, pk.nA, pfl_ahead _ _ _, .inl ⟨rfl, _, SqL.of ha'⟩, _, rfl, x, C, dx, _, _, rfl, hx', pk.cl, pk.nR, pfl_rows _ _ _, ap, as, rv, rfl, rfl, ha', h1, ?_⟩
      have hx2 : upd (upd H l (.lst [])) ap (.lst (as ++ [rv])) x = some (.ins C dx (pfl rv (.ref pp) (.ref ap))) := by rw [upd_ne (Ne.symm n1)]; exact hx'
      have hp2 : upd (upd H l (.lst [])) ap (.lst (as ++ [rv])) pp = some (.lst (ps0 ++ [y])) := by rw [upd_ne ne]; exact hp'
      refine ⟨_, rfl, x, C, dx, _, _, rfl, hx2, pk.cl, pk.nP, pfl_past _ _ _, .inl ⟨rfl, _, SqL.of hp2⟩, pp, _, y, rfl, rfl, hp2, (by simp), ?_⟩
      refine ⟨_, rfl, x, C, dx, _, rfl, Eq.trans (upd_ne (Ne.symm n2)) hx2, pk.cl, pk.nR, (by show 3 < 1000; decide), ?_⟩
      rw [pf4, List.dropLast_concat]
      exact h4 l hl
theorem ok_redo (F : Fun K "redo" "Pile.redo" st_redo f fd) (pk : PileK K C) (xN : ExC K mg T "Nothing") : FnOk P w K mg base (L2N.CX P w) 1 f fd ["self"] (spR T C) := by
  obtain ⟨oc, od, kV, doc, pm, an, cdv, ct, osl, e0, lk, hcd⟩ := F.ex
  subst e0
  refine fn_of lk hcd scR (fun vs H Q E ⟨x, dx, rv, pp, ap, h0, _⟩ => by rw [h0]; rfl) (fun A outer s H vs Q E hr h => ?_)
  obtain ⟨x, dx, rv, pp, ap, rfl, hx, ha, h⟩ := h
  refine ⟨_, pss_cons (ps_if (pt_cmpR (op_eqP (Room.units hr)) (pe_fld (pv 0) rfl) (pe_lst pa_nil) rfl) (pss_one (L2N.ps_raise rfl (L2N.takes_of rfl rfl rfl rfl) (L2N.pmk_own PySem.F.excBase_ValueError xN.ei xN.gC xN.kC (raises_own xN.r1 xN.r2) rfl (by decide)))) pss_nil)
    (pss_cons (ps_expr (pe_bm PySem.F.plainAttrs_list PySem.F.slot_list_append PySem.F.type_list_append mt_append (pe_fld (pv 0) rfl) (pa_cons (pe_fld (pv 0) rfl) pa_nil))) (pss_one (ps_fld (pv 0) (pe_bm0 PySem.F.plainAttrs_list PySem.F.slot_list_pop PySem.F.type_list_pop mt_pop (pe_fld (pv 0) rfl)) rfl))), ?_⟩
  refine ⟨_, rfl, x, C, dx, _, _, rfl, hx, pk.cl, pk.nA, pfl_ahead _ _ _, Nat.zero_le _, fun l hl => ?_⟩
  have ha' : upd H l (.lst []) ap = some (.lst []) := by rw [upd_ne (ne_of_none ha hl)]; exact ha
  have dl : Dp K (upd H l (.lst [])) (.ref l) (.list []) := .lst (SqL.of upd_same) .nil
  exact ⟨.list [], .list [], .lst (SqL.of ha') .nil, dl, rfl, rfl, (by decide), true, (by rfl), iteT (h l hl)⟩
end
end R91

namespace R91
open PySem L2 LamX DL
abbrev st__law_told : Stmt := topS 46
theorem sc__law_told : FnScope ["deed", "e"] ["deed"] (defScope st__law_told) := ⟨rfl, rfl, rfl, by decide +kernel, rfl, by decide +kernel, by decide +kernel⟩
theorem all_mk {l : PySem.W.OpenLaw} {w : World} {K : PySem.W.Frag} {h : Heap} {mg : Str → Option Value} {fa : Addr} (X : K.In h) (G : h.Ns mainGlobals mg) (hfa : mg "law" = some (.ref fa))
    {CP : Addr} {f0 : Addr} {od0 an0 : Option Addr} {sl0 : Array (Option Value)} {oc0 kV0 dc0 pm0 ct0 : Value} {cd0 : Value} {f1 : Addr} {od1 an1 : Option Addr} {sl1 : Array (Option Value)} {oc1 kV1 dc1 pm1 ct1 : Value} {cd1 : Value} {f2 : Addr} {od2 an2 : Option Addr} {sl2 : Array (Option Value)} {oc2 kV2 dc2 pm2 ct2 : Value} {cd2 : Value} {f3 : Addr} {od3 an3 : Option Addr} {sl3 : Array (Option Value)} {oc3 kV3 dc3 pm3 ct3 : Value} {cd3 : Value} {f4 : Addr} {od4 an4 : Option Addr} {sl4 : Array (Option Value)} {oc4 kV4 dc4 pm4 ct4 : Value} {cd4 : Value} {f5 : Addr} {od5 an5 : Option Addr} {sl5 : Array (Option Value)} {oc5 kV5 dc5 pm5 ct5 : Value} {cd5 : Value} {f6 : Addr} {od6 an6 : Option Addr} {sl6 : Array (Option Value)} {oc6 kV6 dc6 pm6 ct6 : Value} {cd6 : Value} {f7 : Addr} {od7 an7 : Option Addr} {sl7 : Array (Option Value)} {oc7 kV7 dc7 pm7 ct7 : Value} {cd7 : Value} {f8 : Addr} {od8 an8 : Option Addr} {sl8 : Array (Option Value)} {oc8 kV8 dc8 pm8 ct8 : Value} {cd8 : Value} {f9 : Addr} {od9 an9 : Option Addr} {sl9 : Array (Option Value)} {oc9 kV9 dc9 pm9 ct9 : Value} {cd9 : Value} {f10 : Addr} {od10 an10 : Option Addr} {sl10 : Array (Option Value)} {oc10 kV10 dc10 pm10 ct10 : Value} {cd10 : Value} {f11 : Addr} {od11 an11 : Option Addr} {sl11 : Array (Option Value)} {oc11 kV11 dc11 pm11 ct11 : Value} {cd11 : Value} {f12 : Addr} {od12 an12 : Option Addr} {sl12 : Array (Option Value)} {oc12 kV12 dc12 pm12 ct12 : Value} {cd12 : Value} {f13 : Addr} {od13 an13 : Option Addr} {sl13 : Array (Option Value)} {oc13 kV13 dc13 pm13 ct13 : Value} {cd13 : Value} {f14 : Addr} {od14 an14 : Option Addr} {sl14 : Array (Option Value)} {oc14 kV14 dc14 pm14 ct14 : Value} {cd14 : Value} {f15 : Addr} {od15 an15 : Option Addr} {sl15 : Array (Option Value)} {oc15 kV15 dc15 pm15 ct15 : Value} {cd15 : Value} {f16 : Addr} {od16 an16 : Option Addr} {sl16 : Array (Option Value)} {oc16 kV16 dc16 pm16 ct16 : Value} {cd16 : Value} {f17 : Addr} {od17 an17 : Option Addr} {sl17 : Array (Option Value)} {oc17 kV17 dc17 pm17 ct17 : Value} {cd17 : Value} {f18 : Addr} {od18 an18 : Option Addr} {sl18 : Array (Option Value)} {oc18 kV18 dc18 pm18 ct18 : Value} {cd18 : Value} {f19 : Addr} {od19 an19 : Option Addr} {sl19 : Array (Option Value)} {oc19 kV19 dc19 pm19 ct19 : Value} {cd19 : Value} {f20 : Addr} {od20 an20 : Option Addr} {sl20 : Array (Option Value)} {oc20 kV20 dc20 pm20 ct20 : Value} {cd20 : Value} {f21 : Addr} {od21 an21 : Option Addr} {sl21 : Array (Option Value)} {oc21 kV21 dc21 pm21 ct21 : Value} {cd21 : Value} {f22 : Addr} {od22 an22 : Option Addr} {sl22 : Array (Option Value)} {oc22 kV22 dc22 pm22 ct22 : Value} {cd22 : Value} {f23 : Addr} {od23 an23 : Option Addr} {sl23 : Array (Option Value)} {oc23 kV23 dc23 pm23 ct23 : Value} {cd23 : Value} {f24 : Addr} {od24 an24 : Option Addr} {sl24 : Array (Option Value)} {oc24 kV24 dc24 pm24 ct24 : Value} {cd24 : Value} {f25 : Addr} {od25 an25 : Option Addr} {sl25 : Array (Option Value)} {oc25 kV25 dc25 pm25 ct25 : Value} {cd25 : Value} {f26 : Addr} {od26 an26 : Option Addr} {sl26 : Array (Option Value)} {oc26 kV26 dc26 pm26 ct26 : Value} {cd26 : Value} {f27 : Addr} {od27 an27 : Option Addr} {sl27 : Array (Option Value)} {oc27 kV27 dc27 pm27 ct27 : Value} {cd27 : Value} {f28 : Addr} {od28 an28 : Option Addr} {sl28 : Array (Option Value)} {oc28 kV28 dc28 pm28 ct28 : Value} {cd28 : Value} {f29 : Addr} {od29 an29 : Option Addr} {sl29 : Array (Option Value)} {oc29 kV29 dc29 pm29 ct29 : Value} {cd29 : Value} {f30 : Addr} {od30 an30 : Option Addr} {sl30 : Array (Option Value)} {oc30 kV30 dc30 pm30 ct30 : Value} {cA30 : Addr} {tA30 : Addr} {f31 : Addr} {od31 an31 : Option Addr} {sl31 : Array (Option Value)} {oc31 kV31 dc31 pm31 ct31 : Value} {cd31 : Value} {f32 : Addr} {od32 an32 : Option Addr} {sl32 : Array (Option Value)} {oc32 kV32 dc32 pm32 ct32 : Value} {cd32 : Value} {f33 : Addr} {od33 an33 : Option Addr} {sl33 : Array (Option Value)} {oc33 kV33 dc33 pm33 ct33 : Value} {cd33 : Value} {f34 : Addr} {od34 an34 : Option Addr} {sl34 : Array (Option Value)} {oc34 kV34 dc34 pm34 ct34 : Value} {cd34 : Value} {f35 : Addr} {od35 an35 : Option Addr} {sl35 : Array (Option Value)} {oc35 kV35 dc35 pm35 ct35 : Value} {cd35 : Value} {f36 : Addr} {od36 an36 : Option Addr} {sl36 : Array (Option Value)} {oc36 kV36 dc36 pm36 ct36 : Value} {cd36 : Value} {f37 : Addr} {od37 an37 : Option Addr} {sl37 : Array (Option Value)} {oc37 kV37 dc37 pm37 ct37 : Value} {cd37 : Value} {f38 : Addr} {od38 an38 : Option Addr} {sl38 : Array (Option Value)} {oc38 kV38 dc38 pm38 ct38 : Value} {cA38 : Addr} {tA38 : Addr} {f39 : Addr} {od39 an39 : Option Addr} {sl39 : Array (Option Value)} {oc39 kV39 dc39 pm39 ct39 : Value} {cA39 : Addr} {tA39 : Addr} {f40 : Addr} {od40 an40 : Option Addr} {sl40 : Array (Option Value)} {oc40 kV40 dc40 pm40 ct40 : Value} {cd40 : Value} {f41 : Addr} {od41 an41 : Option Addr} {sl41 : Array (Option Value)} {oc41 kV41 dc41 pm41 ct41 : Value} {cd41 : Value} {f42 : Addr} {od42 an42 : Option Addr} {sl42 : Array (Option Value)} {oc42 kV42 dc42 pm42 ct42 : Value} {cd42 : Value} {f43 : Addr} {od43 an43 : Option Addr} {sl43 : Array (Option Value)} {oc43 kV43 dc43 pm43 ct43 : Value} {cd43 : Value} {f44 : Addr} {od44 an44 : Option Addr} {sl44 : Array (Option Value)} {oc44 kV44 dc44 pm44 ct44 : Value} {cd44 : Value} {f45 : Addr} {od45 an45 : Option Addr} {sl45 : Array (Option Value)} {oc45 kV45 dc45 pm45 ct45 : Value} {cd45 : Value} {tk_MOST : Tok} {tk_MOST_MANY : Tok} {tk_MOST_PILE : Tok} {tk_MOST_PLACES : Tok} {tk_MOST_ROOTS : Tok} {tk_MOST_UNDER : Tok} {CN : Addr} {C0 : Addr} {C1 : Addr} {C2 : Addr} {C3 : Addr} {C4 : Addr} {C5 : Addr} {C6 : Addr}
    (gP : PySem.W.nsIn K mainGlobals "Pile" = some (some (.ref CP)))
    (pg : PySem.W.plainGet K CP Str.empty = true)
    (hdP : PySem.W.hasDictIn K CP = true)
    (po : PySem.W.plainOver K CP = true)
    (sa : PySem.W.findIn K (.ref CP) "__setattr__" = some (some (.builtin "object.__setattr__")))
    (mkP : PySem.W.makesIn K CP = true)
    (kcP : PySem.W.keepIn K (.ref CP) = true)
    (z_rows : PySem.W.findIn K (.ref CP) "rows" = some none)
    (z_past : PySem.W.findIn K (.ref CP) "past" = some none)
    (z_ahead : PySem.W.findIn K (.ref CP) "ahead" = some none)
    (a0 : PySem.W.nsIn K mainGlobals "_law_drawn" = some (some (.ref f0)))
    (l0 : K.lookup f0 = some ⟨oc0, od0, .func (PySem.W.fnOf "_law_drawn" "_law_drawn" (defArgs st__law_drawn) (defBody st__law_drawn) (defScope st__law_drawn) .none kV0 dc0 pm0 an0 cd0 ct0), sl0⟩)
    (c0 : PySem.W.codeIn K cd0 "_law_drawn" = true)
    (k0 : PySem.W.keepIn K (.ref f0) = true)
    (a1 : PySem.W.nsIn K mainGlobals "is_count" = some (some (.ref f1)))
    (l1 : K.lookup f1 = some ⟨oc1, od1, .func (PySem.W.fnOf "is_count" "is_count" (defArgs st_is_count) (defBody st_is_count) (defScope st_is_count) .none kV1 dc1 pm1 an1 cd1 ct1), sl1⟩)
    (c1 : PySem.W.codeIn K cd1 "is_count" = true)
    (k1 : PySem.W.keepIn K (.ref f1) = true)
    (a2 : PySem.W.nsIn K mainGlobals "is_number" = some (some (.ref f2)))
    (l2 : K.lookup f2 = some ⟨oc2, od2, .func (PySem.W.fnOf "is_number" "is_number" (defArgs st_is_number) (defBody st_is_number) (defScope st_is_number) .none kV2 dc2 pm2 an2 cd2 ct2), sl2⟩)
    (c2 : PySem.W.codeIn K cd2 "is_number" = true)
    (k2 : PySem.W.keepIn K (.ref f2) = true)
    (a3 : PySem.W.nsIn K mainGlobals "need_number" = some (some (.ref f3)))
    (l3 : K.lookup f3 = some ⟨oc3, od3, .func (PySem.W.fnOf "need_number" "need_number" (defArgs st_need_number) (defBody st_need_number) (defScope st_need_number) .none kV3 dc3 pm3 an3 cd3 ct3), sl3⟩)
    (c3 : PySem.W.codeIn K cd3 "need_number" = true)
    (k3 : PySem.W.keepIn K (.ref f3) = true)
    (a4 : PySem.W.nsIn K mainGlobals "plain_of" = some (some (.ref f4)))
    (l4 : K.lookup f4 = some ⟨oc4, od4, .func (PySem.W.fnOf "plain_of" "plain_of" (defArgs st_plain_of) (defBody st_plain_of) (defScope st_plain_of) .none kV4 dc4 pm4 an4 cd4 ct4), sl4⟩)
    (c4 : PySem.W.codeIn K cd4 "plain_of" = true)
    (k4 : PySem.W.keepIn K (.ref f4) = true)
    (a5 : PySem.W.nsIn K mainGlobals "exact" = some (some (.ref f5)))
    (l5 : K.lookup f5 = some ⟨oc5, od5, .func (PySem.W.fnOf "exact" "exact" (defArgs st_exact) (defBody st_exact) (defScope st_exact) .none kV5 dc5 pm5 an5 cd5 ct5), sl5⟩)
    (c5 : PySem.W.codeIn K cd5 "exact" = true)
    (k5 : PySem.W.keepIn K (.ref f5) = true)
    (a6 : PySem.W.findIn K (.ref CP) "need_room" = some (some (.ref f6)))
    (i6 : PySem.W.isFn K (.ref f6) = true)
    (l6 : K.lookup f6 = some ⟨oc6, od6, .func (PySem.W.fnOf "need_room" "Pile.need_room" (defArgs st_Pile_need_room) (defBody st_Pile_need_room) (defScope st_Pile_need_room) .none kV6 dc6 pm6 an6 cd6 ct6), sl6⟩)
    (c6 : PySem.W.codeIn K cd6 "Pile.need_room" = true)
    (k6 : PySem.W.keepIn K (.ref f6) = true)
    (a7 : PySem.W.findIn K (.ref CP) "press" = some (some (.ref f7)))
    (i7 : PySem.W.isFn K (.ref f7) = true)
    (l7 : K.lookup f7 = some ⟨oc7, od7, .func (PySem.W.fnOf "press" "Pile.press" (defArgs st_Pile_press) (defBody st_Pile_press) (defScope st_Pile_press) .none kV7 dc7 pm7 an7 cd7 ct7), sl7⟩)
    (c7 : PySem.W.codeIn K cd7 "Pile.press" = true)
    (k7 : PySem.W.keepIn K (.ref f7) = true)
    (a8 : PySem.W.nsIn K mainGlobals "need_count" = some (some (.ref f8)))
    (l8 : K.lookup f8 = some ⟨oc8, od8, .func (PySem.W.fnOf "need_count" "need_count" (defArgs st_need_count) (defBody st_need_count) (defScope st_need_count) .none kV8 dc8 pm8 an8 cd8 ct8), sl8⟩)
    (c8 : PySem.W.codeIn K cd8 "need_count" = true)
    (k8 : PySem.W.keepIn K (.ref f8) = true)
    (a9 : PySem.W.findIn K (.ref CP) "need" = some (some (.ref f9)))
    (i9 : PySem.W.isFn K (.ref f9) = true)
    (l9 : K.lookup f9 = some ⟨oc9, od9, .func (PySem.W.fnOf "need" "Pile.need" (defArgs st_Pile_need) (defBody st_Pile_need) (defScope st_Pile_need) .none kV9 dc9 pm9 an9 cd9 ct9), sl9⟩)
    (c9 : PySem.W.codeIn K cd9 "Pile.need" = true)
    (k9 : PySem.W.keepIn K (.ref f9) = true)
    (a10 : PySem.W.findIn K (.ref CP) "copy" = some (some (.ref f10)))
    (i10 : PySem.W.isFn K (.ref f10) = true)
    (l10 : K.lookup f10 = some ⟨oc10, od10, .func (PySem.W.fnOf "copy" "Pile.copy" (defArgs st_Pile_copy) (defBody st_Pile_copy) (defScope st_Pile_copy) .none kV10 dc10 pm10 an10 cd10 ct10), sl10⟩)
    (c10 : PySem.W.codeIn K cd10 "Pile.copy" = true)
    (k10 : PySem.W.keepIn K (.ref f10) = true)
    (a11 : PySem.W.nsIn K mainGlobals "has_square" = some (some (.ref f11)))
    (l11 : K.lookup f11 = some ⟨oc11, od11, .func (PySem.W.fnOf "has_square" "has_square" (defArgs st_has_square) (defBody st_has_square) (defScope st_has_square) .none kV11 dc11 pm11 an11 cd11 ct11), sl11⟩)
    (c11 : PySem.W.codeIn K cd11 "has_square" = true)
    (k11 : PySem.W.keepIn K (.ref f11) = true)
    (a12 : PySem.W.nsIn K mainGlobals "is_pair" = some (some (.ref f12)))
    (l12 : K.lookup f12 = some ⟨oc12, od12, .func (PySem.W.fnOf "is_pair" "is_pair" (defArgs st_is_pair) (defBody st_is_pair) (defScope st_is_pair) .none kV12 dc12 pm12 an12 cd12 ct12), sl12⟩)
    (c12 : PySem.W.codeIn K cd12 "is_pair" = true)
    (k12 : PySem.W.keepIn K (.ref f12) = true)
    (a13 : PySem.W.nsIn K mainGlobals "is_exact" = some (some (.ref f13)))
    (l13 : K.lookup f13 = some ⟨oc13, od13, .func (PySem.W.fnOf "is_exact" "is_exact" (defArgs st_is_exact) (defBody st_is_exact) (defScope st_is_exact) .none kV13 dc13 pm13 an13 cd13 ct13), sl13⟩)
    (c13 : PySem.W.codeIn K cd13 "is_exact" = true)
    (k13 : PySem.W.keepIn K (.ref f13) = true)
    (a14 : PySem.W.nsIn K mainGlobals "rows_told" = some (some (.ref f14)))
    (l14 : K.lookup f14 = some ⟨oc14, od14, .func (PySem.W.fnOf "rows_told" "rows_told" (defArgs st_rows_told) (defBody st_rows_told) (defScope st_rows_told) .none kV14 dc14 pm14 an14 cd14 ct14), sl14⟩)
    (c14 : PySem.W.codeIn K cd14 "rows_told" = true)
    (k14 : PySem.W.keepIn K (.ref f14) = true)
    (a15 : PySem.W.nsIn K mainGlobals "common" = some (some (.ref f15)))
    (l15 : K.lookup f15 = some ⟨oc15, od15, .func (PySem.W.fnOf "common" "common" (defArgs st_common) (defBody st_common) (defScope st_common) .none kV15 dc15 pm15 an15 cd15 ct15), sl15⟩)
    (c15 : PySem.W.codeIn K cd15 "common" = true)
    (k15 : PySem.W.keepIn K (.ref f15) = true)
    (a16 : PySem.W.nsIn K mainGlobals "product_of" = some (some (.ref f16)))
    (l16 : K.lookup f16 = some ⟨oc16, od16, .func (PySem.W.fnOf "product_of" "product_of" (defArgs st_product_of) (defBody st_product_of) (defScope st_product_of) .none kV16 dc16 pm16 an16 cd16 ct16), sl16⟩)
    (c16 : PySem.W.codeIn K cd16 "product_of" = true)
    (k16 : PySem.W.keepIn K (.ref f16) = true)
    (a17 : PySem.W.findIn K (.ref CP) "multiply" = some (some (.ref f17)))
    (i17 : PySem.W.isFn K (.ref f17) = true)
    (l17 : K.lookup f17 = some ⟨oc17, od17, .func (PySem.W.fnOf "multiply" "Pile.multiply" (defArgs st_Pile_multiply) (defBody st_Pile_multiply) (defScope st_Pile_multiply) .none kV17 dc17 pm17 an17 cd17 ct17), sl17⟩)
    (c17 : PySem.W.codeIn K cd17 "Pile.multiply" = true)
    (k17 : PySem.W.keepIn K (.ref f17) = true)
    (a18 : PySem.W.findIn K (.ref CP) "exacts" = some (some (.ref f18)))
    (i18 : PySem.W.isFn K (.ref f18) = true)
    (l18 : K.lookup f18 = some ⟨oc18, od18, .func (PySem.W.fnOf "exacts" "Pile.exacts" (defArgs st_Pile_exacts) (defBody st_Pile_exacts) (defScope st_Pile_exacts) .none kV18 dc18 pm18 an18 cd18 ct18), sl18⟩)
    (c18 : PySem.W.codeIn K cd18 "Pile.exacts" = true)
    (k18 : PySem.W.keepIn K (.ref f18) = true)
    (a19 : PySem.W.nsIn K mainGlobals "_law_cell" = some (some (.ref f19)))
    (l19 : K.lookup f19 = some ⟨oc19, od19, .func (PySem.W.fnOf "_law_cell" "_law_cell" (defArgs st__law_cell) (defBody st__law_cell) (defScope st__law_cell) .none kV19 dc19 pm19 an19 cd19 ct19), sl19⟩)
    (c19 : PySem.W.codeIn K cd19 "_law_cell" = true)
    (k19 : PySem.W.keepIn K (.ref f19) = true)
    (a20 : PySem.W.nsIn K mainGlobals "_law_number" = some (some (.ref f20)))
    (l20 : K.lookup f20 = some ⟨oc20, od20, .func (PySem.W.fnOf "_law_number" "_law_number" (defArgs st__law_number) (defBody st__law_number) (defScope st__law_number) .none kV20 dc20 pm20 an20 cd20 ct20), sl20⟩)
    (c20 : PySem.W.codeIn K cd20 "_law_number" = true)
    (k20 : PySem.W.keepIn K (.ref f20) = true)
    (a21 : PySem.W.nsIn K mainGlobals "power_of" = some (some (.ref f21)))
    (l21 : K.lookup f21 = some ⟨oc21, od21, .func (PySem.W.fnOf "power_of" "power_of" (defArgs st_power_of) (defBody st_power_of) (defScope st_power_of) .none kV21 dc21 pm21 an21 cd21 ct21), sl21⟩)
    (c21 : PySem.W.codeIn K cd21 "power_of" = true)
    (k21 : PySem.W.keepIn K (.ref f21) = true)
    (a22 : PySem.W.nsIn K mainGlobals "root_below" = some (some (.ref f22)))
    (l22 : K.lookup f22 = some ⟨oc22, od22, .func (PySem.W.fnOf "root_below" "root_below" (defArgs st_root_below) (defBody st_root_below) (defScope st_root_below) .none kV22 dc22 pm22 an22 cd22 ct22), sl22⟩)
    (c22 : PySem.W.codeIn K cd22 "root_below" = true)
    (k22 : PySem.W.keepIn K (.ref f22) = true)
    (a23 : PySem.W.nsIn K mainGlobals "digits_of" = some (some (.ref f23)))
    (l23 : K.lookup f23 = some ⟨oc23, od23, .func (PySem.W.fnOf "digits_of" "digits_of" (defArgs st_digits_of) (defBody st_digits_of) (defScope st_digits_of) .none kV23 dc23 pm23 an23 cd23 ct23), sl23⟩)
    (c23 : PySem.W.codeIn K cd23 "digits_of" = true)
    (k23 : PySem.W.keepIn K (.ref f23) = true)
    (a24 : PySem.W.nsIn K mainGlobals "span_of" = some (some (.ref f24)))
    (l24 : K.lookup f24 = some ⟨oc24, od24, .func (PySem.W.fnOf "span_of" "span_of" (defArgs st_span_of) (defBody st_span_of) (defScope st_span_of) .none kV24 dc24 pm24 an24 cd24 ct24), sl24⟩)
    (c24 : PySem.W.codeIn K cd24 "span_of" = true)
    (k24 : PySem.W.keepIn K (.ref f24) = true)
    (a25 : PySem.W.nsIn K mainGlobals "sign_of" = some (some (.ref f25)))
    (l25 : K.lookup f25 = some ⟨oc25, od25, .func (PySem.W.fnOf "sign_of" "sign_of" (defArgs st_sign_of) (defBody st_sign_of) (defScope st_sign_of) .none kV25 dc25 pm25 an25 cd25 ct25), sl25⟩)
    (c25 : PySem.W.codeIn K cd25 "sign_of" = true)
    (k25 : PySem.W.keepIn K (.ref f25) = true)
    (a26 : PySem.W.nsIn K mainGlobals "less_by" = some (some (.ref f26)))
    (l26 : K.lookup f26 = some ⟨oc26, od26, .func (PySem.W.fnOf "less_by" "less_by" (defArgs st_less_by) (defBody st_less_by) (defScope st_less_by) .none kV26 dc26 pm26 an26 cd26 ct26), sl26⟩)
    (c26 : PySem.W.codeIn K cd26 "less_by" = true)
    (k26 : PySem.W.keepIn K (.ref f26) = true)
    (a27 : PySem.W.nsIn K mainGlobals "floor_of" = some (some (.ref f27)))
    (l27 : K.lookup f27 = some ⟨oc27, od27, .func (PySem.W.fnOf "floor_of" "floor_of" (defArgs st_floor_of) (defBody st_floor_of) (defScope st_floor_of) .none kV27 dc27 pm27 an27 cd27 ct27), sl27⟩)
    (c27 : PySem.W.codeIn K cd27 "floor_of" = true)
    (k27 : PySem.W.keepIn K (.ref f27) = true)
    (a28 : PySem.W.nsIn K mainGlobals "places_of" = some (some (.ref f28)))
    (l28 : K.lookup f28 = some ⟨oc28, od28, .func (PySem.W.fnOf "places_of" "places_of" (defArgs st_places_of) (defBody st_places_of) (defScope st_places_of) .none kV28 dc28 pm28 an28 cd28 ct28), sl28⟩)
    (c28 : PySem.W.codeIn K cd28 "places_of" = true)
    (k28 : PySem.W.keepIn K (.ref f28) = true)
    (a29 : PySem.W.findIn K (.ref CP) "digits_of_top" = some (some (.ref f29)))
    (i29 : PySem.W.isFn K (.ref f29) = true)
    (l29 : K.lookup f29 = some ⟨oc29, od29, .func (PySem.W.fnOf "digits_of_top" "Pile.digits_of_top" (defArgs st_Pile_digits_of_top) (defBody st_Pile_digits_of_top) (defScope st_Pile_digits_of_top) .none kV29 dc29 pm29 an29 cd29 ct29), sl29⟩)
    (c29 : PySem.W.codeIn K cd29 "Pile.digits_of_top" = true)
    (k29 : PySem.W.keepIn K (.ref f29) = true)
    (a30 : PySem.W.nsIn K mainGlobals "_law_none_let" = some (some (.ref f30)))
    (l30 : K.lookup f30 = some ⟨oc30, od30, .func (PySem.W.fnOf "_law_none_let" "_law_none_let" (defArgs st__law_none_let) (defBody st__law_none_let) (defScope st__law_none_let) .none kV30 dc30 pm30 an30 (.ref cA30) ct30), sl30⟩)
    (c30 : PySem.W.codeIn K (.ref cA30) "_law_none_let" = true)
    (k30 : PySem.W.keepIn K (.ref f30) = true)
    (t30 : PySem.W.codeHdIn K cA30 tA30 = true)
    (u30 : h.get? tA30 = some { cls := .none, data := .fields #[] })
    (v30 : K.lookup tA30 = none)
    (a31 : PySem.W.nsIn K mainGlobals "total_of" = some (some (.ref f31)))
    (l31 : K.lookup f31 = some ⟨oc31, od31, .func (PySem.W.fnOf "total_of" "total_of" (defArgs st_total_of) (defBody st_total_of) (defScope st_total_of) .none kV31 dc31 pm31 an31 cd31 ct31), sl31⟩)
    (c31 : PySem.W.codeIn K cd31 "total_of" = true)
    (k31 : PySem.W.keepIn K (.ref f31) = true)
    (a32 : PySem.W.findIn K (.ref CP) "add" = some (some (.ref f32)))
    (i32 : PySem.W.isFn K (.ref f32) = true)
    (l32 : K.lookup f32 = some ⟨oc32, od32, .func (PySem.W.fnOf "add" "Pile.add" (defArgs st_Pile_add) (defBody st_Pile_add) (defScope st_Pile_add) .none kV32 dc32 pm32 an32 cd32 ct32), sl32⟩)
    (c32 : PySem.W.codeIn K cd32 "Pile.add" = true)
    (k32 : PySem.W.keepIn K (.ref f32) = true)
    (a33 : PySem.W.findIn K (.ref CP) "negate" = some (some (.ref f33)))
    (i33 : PySem.W.isFn K (.ref f33) = true)
    (l33 : K.lookup f33 = some ⟨oc33, od33, .func (PySem.W.fnOf "negate" "Pile.negate" (defArgs st_Pile_negate) (defBody st_Pile_negate) (defScope st_Pile_negate) .none kV33 dc33 pm33 an33 cd33 ct33), sl33⟩)
    (c33 : PySem.W.codeIn K cd33 "Pile.negate" = true)
    (k33 : PySem.W.keepIn K (.ref f33) = true)
    (a34 : PySem.W.findIn K (.ref CP) "drop" = some (some (.ref f34)))
    (i34 : PySem.W.isFn K (.ref f34) = true)
    (l34 : K.lookup f34 = some ⟨oc34, od34, .func (PySem.W.fnOf "drop" "Pile.drop" (defArgs st_Pile_drop) (defBody st_Pile_drop) (defScope st_Pile_drop) .none kV34 dc34 pm34 an34 cd34 ct34), sl34⟩)
    (c34 : PySem.W.codeIn K cd34 "Pile.drop" = true)
    (k34 : PySem.W.keepIn K (.ref f34) = true)
    (a35 : PySem.W.findIn K (.ref CP) "top" = some (some (.ref f35)))
    (i35 : PySem.W.isFn K (.ref f35) = true)
    (l35 : K.lookup f35 = some ⟨oc35, od35, .func (PySem.W.fnOf "top" "Pile.top" (defArgs st_Pile_top) (defBody st_Pile_top) (defScope st_Pile_top) .none kV35 dc35 pm35 an35 cd35 ct35), sl35⟩)
    (c35 : PySem.W.codeIn K cd35 "Pile.top" = true)
    (k35 : PySem.W.keepIn K (.ref f35) = true)
    (a36 : PySem.W.findIn K (.ref CP) "subtract" = some (some (.ref f36)))
    (i36 : PySem.W.isFn K (.ref f36) = true)
    (l36 : K.lookup f36 = some ⟨oc36, od36, .func (PySem.W.fnOf "subtract" "Pile.subtract" (defArgs st_Pile_subtract) (defBody st_Pile_subtract) (defScope st_Pile_subtract) .none kV36 dc36 pm36 an36 cd36 ct36), sl36⟩)
    (c36 : PySem.W.codeIn K cd36 "Pile.subtract" = true)
    (k36 : PySem.W.keepIn K (.ref f36) = true)
    (a37 : PySem.W.findIn K (.ref CP) "swap" = some (some (.ref f37)))
    (i37 : PySem.W.isFn K (.ref f37) = true)
    (l37 : K.lookup f37 = some ⟨oc37, od37, .func (PySem.W.fnOf "swap" "Pile.swap" (defArgs st_Pile_swap) (defBody st_Pile_swap) (defScope st_Pile_swap) .none kV37 dc37 pm37 an37 cd37 ct37), sl37⟩)
    (c37 : PySem.W.codeIn K cd37 "Pile.swap" = true)
    (k37 : PySem.W.keepIn K (.ref f37) = true)
    (a38 : PySem.W.nsIn K mainGlobals "_law_few_right" = some (some (.ref f38)))
    (l38 : K.lookup f38 = some ⟨oc38, od38, .func (PySem.W.fnOf "_law_few_right" "_law_few_right" (defArgs st__law_few_right) (defBody st__law_few_right) (defScope st__law_few_right) .none kV38 dc38 pm38 an38 (.ref cA38) ct38), sl38⟩)
    (c38 : PySem.W.codeIn K (.ref cA38) "_law_few_right" = true)
    (k38 : PySem.W.keepIn K (.ref f38) = true)
    (t38 : PySem.W.codeHdIn K cA38 tA38 = true)
    (u38 : h.get? tA38 = some { cls := .none, data := .fields #[] })
    (v38 : K.lookup tA38 = none)
    (a39 : PySem.W.nsIn K mainGlobals "law" = some (some (.ref f39)))
    (l39 : K.lookup f39 = some ⟨oc39, od39, .func (PySem.W.fnOf "law" "law" (defArgs st_law) (defBody st_law) (defScope st_law) .none kV39 dc39 pm39 an39 (.ref cA39) ct39), sl39⟩)
    (c39 : PySem.W.codeIn K (.ref cA39) "law" = true)
    (k39 : PySem.W.keepIn K (.ref f39) = true)
    (t39 : PySem.W.codeHdIn K cA39 tA39 = true)
    (u39 : h.get? tA39 = some { cls := .none, data := .fields #[] })
    (v39 : K.lookup tA39 = none)
    (a40 : PySem.W.nsIn K mainGlobals "_law_word" = some (some (.ref f40)))
    (l40 : K.lookup f40 = some ⟨oc40, od40, .func (PySem.W.fnOf "_law_word" "_law_word" (defArgs st__law_word) (defBody st__law_word) (defScope st__law_word) .none kV40 dc40 pm40 an40 cd40 ct40), sl40⟩)
    (c40 : PySem.W.codeIn K cd40 "_law_word" = true)
    (k40 : PySem.W.keepIn K (.ref f40) = true)
    (a41 : PySem.W.nsIn K mainGlobals "_law_told" = some (some (.ref f41)))
    (l41 : K.lookup f41 = some ⟨oc41, od41, .func (PySem.W.fnOf "_law_told" "_law_told" (defArgs st__law_told) (defBody st__law_told) (defScope st__law_told) .none kV41 dc41 pm41 an41 cd41 ct41), sl41⟩)
    (c41 : PySem.W.codeIn K cd41 "_law_told" = true)
    (k41 : PySem.W.keepIn K (.ref f41) = true)
    (a42 : PySem.W.findIn K (.ref CP) "__init__" = some (some (.ref f42)))
    (i42 : PySem.W.isFn K (.ref f42) = true)
    (l42 : K.lookup f42 = some ⟨oc42, od42, .func (PySem.W.fnOf "__init__" "Pile.__init__" (defArgs st_init) (defBody st_init) (defScope st_init) .none kV42 dc42 pm42 an42 cd42 ct42), sl42⟩)
    (c42 : PySem.W.codeIn K cd42 "Pile.__init__" = true)
    (k42 : PySem.W.keepIn K (.ref f42) = true)
    (a43 : PySem.W.findIn K (.ref CP) "become" = some (some (.ref f43)))
    (i43 : PySem.W.isFn K (.ref f43) = true)
    (l43 : K.lookup f43 = some ⟨oc43, od43, .func (PySem.W.fnOf "become" "Pile.become" (defArgs st_become) (defBody st_become) (defScope st_become) .none kV43 dc43 pm43 an43 cd43 ct43), sl43⟩)
    (c43 : PySem.W.codeIn K cd43 "Pile.become" = true)
    (k43 : PySem.W.keepIn K (.ref f43) = true)
    (a44 : PySem.W.findIn K (.ref CP) "undo" = some (some (.ref f44)))
    (i44 : PySem.W.isFn K (.ref f44) = true)
    (l44 : K.lookup f44 = some ⟨oc44, od44, .func (PySem.W.fnOf "undo" "Pile.undo" (defArgs st_undo) (defBody st_undo) (defScope st_undo) .none kV44 dc44 pm44 an44 cd44 ct44), sl44⟩)
    (c44 : PySem.W.codeIn K cd44 "Pile.undo" = true)
    (k44 : PySem.W.keepIn K (.ref f44) = true)
    (a45 : PySem.W.findIn K (.ref CP) "redo" = some (some (.ref f45)))
    (i45 : PySem.W.isFn K (.ref f45) = true)
    (l45 : K.lookup f45 = some ⟨oc45, od45, .func (PySem.W.fnOf "redo" "Pile.redo" (defArgs st_redo) (defBody st_redo) (defScope st_redo) .none kV45 dc45 pm45 an45 cd45 ct45), sl45⟩)
    (c45 : PySem.W.codeIn K cd45 "Pile.redo" = true)
    (k45 : PySem.W.keepIn K (.ref f45) = true)
    (w30_38 : tA30 ≠ tA38)
    (w30_39 : tA30 ≠ tA39)
    (w38_30 : tA38 ≠ tA30)
    (w38_39 : tA38 ≠ tA39)
    (w39_30 : tA39 ≠ tA30)
    (w39_38 : tA39 ≠ tA38)
    (n_all : PySem.W.nsIn K mainGlobals "all" = some none)
    (n_bool : PySem.W.nsIn K mainGlobals "bool" = some none)
    (n_dict : PySem.W.nsIn K mainGlobals "dict" = some none)
    (n_int : PySem.W.nsIn K mainGlobals "int" = some none)
    (n_isinstance : PySem.W.nsIn K mainGlobals "isinstance" = some none)
    (n_len : PySem.W.nsIn K mainGlobals "len" = some none)
    (n_list : PySem.W.nsIn K mainGlobals "list" = some none)
    (n_max : PySem.W.nsIn K mainGlobals "max" = some none)
    (n_min : PySem.W.nsIn K mainGlobals "min" = some none)
    (n_range : PySem.W.nsIn K mainGlobals "range" = some none)
    (n_sorted : PySem.W.nsIn K mainGlobals "sorted" = some none)
    (n_tuple : PySem.W.nsIn K mainGlobals "tuple" = some none)
    (n_zip : PySem.W.nsIn K mainGlobals "zip" = some none)
    (n_sum : PySem.W.nsIn K mainGlobals "sum" = some none)
    (n_ValueError : PySem.W.nsIn K mainGlobals "ValueError" = some none)
    (c_MOST : PySem.W.nsIn K mainGlobals "MOST" = some (some (.int (99) tk_MOST)))
    (c_MOST_MANY : PySem.W.nsIn K mainGlobals "MOST_MANY" = some (some (.int (1000000) tk_MOST_MANY)))
    (c_MOST_PILE : PySem.W.nsIn K mainGlobals "MOST_PILE" = some (some (.int (12) tk_MOST_PILE)))
    (c_MOST_PLACES : PySem.W.nsIn K mainGlobals "MOST_PLACES" = some (some (.int (30) tk_MOST_PLACES)))
    (c_MOST_ROOTS : PySem.W.nsIn K mainGlobals "MOST_ROOTS" = some (some (.int (6) tk_MOST_ROOTS)))
    (c_MOST_UNDER : PySem.W.nsIn K mainGlobals "MOST_UNDER" = some (some (.int (9999) tk_MOST_UNDER)))
    (gN : PySem.W.nsIn K mainGlobals "NoughtError" = some (some (.ref CN)))
    (gc0_ : PySem.W.nsIn K mainGlobals "BadNumber" = some (some (.ref C0)))
    (x0 : ClsF K C0 CN)
    (gc1_ : PySem.W.nsIn K mainGlobals "BadRow" = some (some (.ref C1)))
    (x1 : ClsF K C1 CN)
    (gc2_ : PySem.W.nsIn K mainGlobals "BadText" = some (some (.ref C2)))
    (x2 : ClsF K C2 CN)
    (gc3_ : PySem.W.nsIn K mainGlobals "BadExact" = some (some (.ref C3)))
    (x3 : ClsF K C3 CN)
    (gc4_ : PySem.W.nsIn K mainGlobals "TooGreat" = some (some (.ref C4)))
    (x4 : ClsF K C4 CN)
    (gc5_ : PySem.W.nsIn K mainGlobals "TooFew" = some (some (.ref C5)))
    (x5 : ClsF K C5 CN)
    (gc6_ : PySem.W.nsIn K mainGlobals "Nothing" = some (some (.ref C6)))
    (x6 : ClsF K C6 CN)
    (y0_0 : PySem.W.kitOne K (.ref C0) (.ref C0) = some true)
    (y0_1 : PySem.W.kitOne K (.ref C0) (.ref C1) = some false)
    (y0_2 : PySem.W.kitOne K (.ref C0) (.ref C2) = some false)
    (y0_3 : PySem.W.kitOne K (.ref C0) (.ref C3) = some false)
    (y0_4 : PySem.W.kitOne K (.ref C0) (.ref C4) = some false)
    (y0_5 : PySem.W.kitOne K (.ref C0) (.ref C5) = some false)
    (y0_6 : PySem.W.kitOne K (.ref C0) (.ref C6) = some false)
    (y1_0 : PySem.W.kitOne K (.ref C1) (.ref C0) = some false)
    (y1_1 : PySem.W.kitOne K (.ref C1) (.ref C1) = some true)
    (y1_2 : PySem.W.kitOne K (.ref C1) (.ref C2) = some false)
    (y1_3 : PySem.W.kitOne K (.ref C1) (.ref C3) = some false)
    (y1_4 : PySem.W.kitOne K (.ref C1) (.ref C4) = some false)
    (y1_5 : PySem.W.kitOne K (.ref C1) (.ref C5) = some false)
    (y1_6 : PySem.W.kitOne K (.ref C1) (.ref C6) = some false)
    (y2_0 : PySem.W.kitOne K (.ref C2) (.ref C0) = some false)
    (y2_1 : PySem.W.kitOne K (.ref C2) (.ref C1) = some false)
    (y2_2 : PySem.W.kitOne K (.ref C2) (.ref C2) = some true)
    (y2_3 : PySem.W.kitOne K (.ref C2) (.ref C3) = some false)
    (y2_4 : PySem.W.kitOne K (.ref C2) (.ref C4) = some false)
    (y2_5 : PySem.W.kitOne K (.ref C2) (.ref C5) = some false)
    (y2_6 : PySem.W.kitOne K (.ref C2) (.ref C6) = some false)
    (y3_0 : PySem.W.kitOne K (.ref C3) (.ref C0) = some false)
    (y3_1 : PySem.W.kitOne K (.ref C3) (.ref C1) = some false)
    (y3_2 : PySem.W.kitOne K (.ref C3) (.ref C2) = some false)
    (y3_3 : PySem.W.kitOne K (.ref C3) (.ref C3) = some true)
    (y3_4 : PySem.W.kitOne K (.ref C3) (.ref C4) = some false)
    (y3_5 : PySem.W.kitOne K (.ref C3) (.ref C5) = some false)
    (y3_6 : PySem.W.kitOne K (.ref C3) (.ref C6) = some false)
    (y4_0 : PySem.W.kitOne K (.ref C4) (.ref C0) = some false)
    (y4_1 : PySem.W.kitOne K (.ref C4) (.ref C1) = some false)
    (y4_2 : PySem.W.kitOne K (.ref C4) (.ref C2) = some false)
    (y4_3 : PySem.W.kitOne K (.ref C4) (.ref C3) = some false)
    (y4_4 : PySem.W.kitOne K (.ref C4) (.ref C4) = some true)
    (y4_5 : PySem.W.kitOne K (.ref C4) (.ref C5) = some false)
    (y4_6 : PySem.W.kitOne K (.ref C4) (.ref C6) = some false)
    (y5_0 : PySem.W.kitOne K (.ref C5) (.ref C0) = some false)
    (y5_1 : PySem.W.kitOne K (.ref C5) (.ref C1) = some false)
    (y5_2 : PySem.W.kitOne K (.ref C5) (.ref C2) = some false)
    (y5_3 : PySem.W.kitOne K (.ref C5) (.ref C3) = some false)
    (y5_4 : PySem.W.kitOne K (.ref C5) (.ref C4) = some false)
    (y5_5 : PySem.W.kitOne K (.ref C5) (.ref C5) = some true)
    (y5_6 : PySem.W.kitOne K (.ref C5) (.ref C6) = some false)
    (y6_0 : PySem.W.kitOne K (.ref C6) (.ref C0) = some false)
    (y6_1 : PySem.W.kitOne K (.ref C6) (.ref C1) = some false)
    (y6_2 : PySem.W.kitOne K (.ref C6) (.ref C2) = some false)
    (y6_3 : PySem.W.kitOne K (.ref C6) (.ref C3) = some false)
    (y6_4 : PySem.W.kitOne K (.ref C6) (.ref C4) = some false)
    (y6_5 : PySem.W.kitOne K (.ref C6) (.ref C5) = some false)
    (y6_6 : PySem.W.kitOne K (.ref C6) (.ref C6) = some true) :
    LawAtS l w K (L2N.CX l.prog w) 12 63 "script" mg fa h := by
  have e := hfa.symm.trans (PySem.W.mg_of X G a39)
  cases e
  obtain ⟨T, etb, ec0, ec1, ec2, ec3, ec4, ec5, ec6⟩ : ∃ T : Wd, T.tb = [(tA30, ("_law_none_let" ++ ".<locals>." : Str) ++ "<lambda>"), (tA38, ("_law_few_right" ++ ".<locals>." : Str) ++ "<lambda>"), (tA39, ("law" ++ ".<locals>." : Str) ++ "<lambda>")] ∧ T.ca "BadNumber" = C0 ∧ T.ca "BadRow" = C1 ∧ T.ca "BadText" = C2 ∧ T.ca "BadExact" = C3 ∧ T.ca "TooGreat" = C4 ∧ T.ca "TooFew" = C5 ∧ T.ca "Nothing" = C6 := ⟨({ tb := [(tA30, ("_law_none_let" ++ ".<locals>." : Str) ++ "<lambda>"), (tA38, ("_law_few_right" ++ ".<locals>." : Str) ++ "<lambda>"), (tA39, ("law" ++ ".<locals>." : Str) ++ "<lambda>")], ca := caOf [("BadNumber", C0), ("BadRow", C1), ("BadText", C2), ("BadExact", C3), ("TooGreat", C4), ("TooFew", C5), ("Nothing", C6)] } : Wd), rfl, (by show caOf _ _ = _; rw [ca1]), (by show caOf _ _ = _; rw [ca2 (x := "BadNumber") (y := "BadRow") (by decide +kernel), ca1]), (by show caOf _ _ = _; rw [ca2 (x := "BadNumber") (y := "BadText") (by decide +kernel), ca2 (x := "BadRow") (y := "BadText") (by decide +kernel), ca1]), (by show caOf _ _ = _; rw [ca2 (x := "BadNumber") (y := "BadExact") (by decide +kernel), ca2 (x := "BadRow") (y := "BadExact") (by decide +kernel), ca2 (x := "BadText") (y := "BadExact") (by decide +kernel), ca1]), (by show caOf _ _ = _; rw [ca2 (x := "BadNumber") (y := "TooGreat") (by decide +kernel), ca2 (x := "BadRow") (y := "TooGreat") (by decide +kernel), ca2 (x := "BadText") (y := "TooGreat") (by decide +kernel), ca2 (x := "BadExact") (y := "TooGreat") (by decide +kernel), ca1]), (by show caOf _ _ = _; rw [ca2 (x := "BadNumber") (y := "TooFew") (by decide +kernel), ca2 (x := "BadRow") (y := "TooFew") (by decide +kernel), ca2 (x := "BadText") (y := "TooFew") (by decide +kernel), ca2 (x := "BadExact") (y := "TooFew") (by decide +kernel), ca2 (x := "TooGreat") (y := "TooFew") (by decide +kernel), ca1]), (by show caOf _ _ = _; rw [ca2 (x := "BadNumber") (y := "Nothing") (by decide +kernel), ca2 (x := "BadRow") (y := "Nothing") (by decide +kernel), ca2 (x := "BadText") (y := "Nothing") (by decide +kernel), ca2 (x := "BadExact") (y := "Nothing") (by decide +kernel), ca2 (x := "TooGreat") (y := "Nothing") (by decide +kernel), ca2 (x := "TooFew") (y := "Nothing") (by decide +kernel), ca1])⟩
  have mc0 : mg "BadNumber" = some (.ref C0) := PySem.W.mg_of X G gc0_
  have mc1 : mg "BadRow" = some (.ref C1) := PySem.W.mg_of X G gc1_
  have mc2 : mg "BadText" = some (.ref C2) := PySem.W.mg_of X G gc2_
  have mc3 : mg "BadExact" = some (.ref C3) := PySem.W.mg_of X G gc3_
  have mc4 : mg "TooGreat" = some (.ref C4) := PySem.W.mg_of X G gc4_
  have mc5 : mg "TooFew" = some (.ref C5) := PySem.W.mg_of X G gc5_
  have mc6 : mg "Nothing" = some (.ref C6) := PySem.W.mg_of X G gc6_
  have tx : Txt K mg T := ⟨PySem.W.mg_none_of X G n_all, PySem.W.mg_none_of X G n_bool, PySem.W.mg_none_of X G n_dict, PySem.W.mg_none_of X G n_int, PySem.W.mg_none_of X G n_isinstance, PySem.W.mg_none_of X G n_len, PySem.W.mg_none_of X G n_list, PySem.W.mg_none_of X G n_max, PySem.W.mg_none_of X G n_min, PySem.W.mg_none_of X G n_range, PySem.W.mg_none_of X G n_sorted, PySem.W.mg_none_of X G n_tuple, PySem.W.mg_none_of X G n_zip, ⟨_, PySem.W.mg_of X G c_MOST⟩, ⟨_, PySem.W.mg_of X G c_MOST_MANY⟩, ⟨_, PySem.W.mg_of X G c_MOST_PILE⟩, ⟨_, PySem.W.mg_of X G c_MOST_PLACES⟩, ⟨_, PySem.W.mg_of X G c_MOST_ROOTS⟩, ⟨_, PySem.W.mg_of X G c_MOST_UNDER⟩, x0.exC ec0 mc0, x5.exC ec5 mc5, x4.exC ec4 mc4⟩
  have F0 := fun_mk (st := st__law_drawn) l0 c0 k0
  have b0 := F0.binds (ps := ["cell", "k"]) fun _ _ _ _ _ _ us hl => match us, hl with | [_, _], _ => rfl
  have F1 := fun_mk (st := st_is_count) l1 c1 k1
  have b1 := F1.binds (ps := ["thing", "low", "high"]) fun _ _ _ _ _ _ us hl => match us, hl with | [_, _, _], _ => rfl
  have F2 := fun_mk (st := st_is_number) l2 c2 k2
  have b2 := F2.binds (ps := ["thing"]) fun _ _ _ _ _ _ us hl => match us, hl with | [_], _ => rfl
  have F3 := fun_mk (st := st_need_number) l3 c3 k3
  have b3 := F3.binds (ps := ["number"]) fun _ _ _ _ _ _ us hl => match us, hl with | [_], _ => rfl
  have F4 := fun_mk (st := st_plain_of) l4 c4 k4
  have b4 := F4.binds (ps := ["number"]) fun _ _ _ _ _ _ us hl => match us, hl with | [_], _ => rfl
  have F5 := fun_mk (st := st_exact) l5 c5 k5
  have b5 := F5.binds (ps := ["number"]) fun _ _ _ _ _ _ us hl => match us, hl with | [_], _ => rfl
  have F6 := fun_mk (st := st_Pile_need_room) l6 c6 k6
  have b6 := F6.binds (ps := ["self"]) fun _ _ _ _ _ _ us hl => match us, hl with | [_], _ => rfl
  have F7 := fun_mk (st := st_Pile_press) l7 c7 k7
  have b7 := F7.binds (ps := ["self", "number"]) fun _ _ _ _ _ _ us hl => match us, hl with | [_, _], _ => rfl
  have F8 := fun_mk (st := st_need_count) l8 c8 k8
  have b8 := F8.binds (ps := ["thing", "low", "high"]) fun _ _ _ _ _ _ us hl => match us, hl with | [_, _, _], _ => rfl
  have F9 := fun_mk (st := st_Pile_need) l9 c9 k9
  have b9 := F9.binds (ps := ["self", "many"]) fun _ _ _ _ _ _ us hl => match us, hl with | [_, _], _ => rfl
  have F10 := fun_mk (st := st_Pile_copy) l10 c10 k10
  have b10 := F10.binds (ps := ["self", "deep"]) fun _ _ _ _ _ _ us hl => match us, hl with | [_, _], _ => rfl
  have F11 := fun_mk (st := st_has_square) l11 c11 k11
  have b11 := F11.binds (ps := ["under"]) fun _ _ _ _ _ _ us hl => match us, hl with | [_], _ => rfl
  have F12 := fun_mk (st := st_is_pair) l12 c12 k12
  have b12 := F12.binds (ps := ["thing"]) fun _ _ _ _ _ _ us hl => match us, hl with | [_], _ => rfl
  have F13 := fun_mk (st := st_is_exact) l13 c13 k13
  have b13 := F13.binds (ps := ["thing"]) fun _ _ _ _ _ _ us hl => match us, hl with | [_], _ => rfl
  have F14 := fun_mk (st := st_rows_told) l14 c14 k14
  have b14 := F14.binds (ps := ["found"]) fun _ _ _ _ _ _ us hl => match us, hl with | [_], _ => rfl
  have F15 := fun_mk (st := st_common) l15 c15 k15
  have b15 := F15.binds (ps := ["one", "other"]) fun _ _ _ _ _ _ us hl => match us, hl with | [_, _], _ => rfl
  have F16 := fun_mk (st := st_product_of) l16 c16 k16
  have b16 := F16.binds (ps := ["one", "other"]) fun _ _ _ _ _ _ us hl => match us, hl with | [_, _], _ => rfl
  have F17 := fun_mk (st := st_Pile_multiply) l17 c17 k17
  have b17 := F17.binds (ps := ["self"]) fun _ _ _ _ _ _ us hl => match us, hl with | [_], _ => rfl
  have F18 := fun_mk (st := st_Pile_exacts) l18 c18 k18
  have b18 := F18.binds (ps := ["self"]) fun _ _ _ _ _ _ us hl => match us, hl with | [_], _ => rfl
  have F19 := fun_mk (st := st__law_cell) l19 c19 k19
  have b19 := F19.binds (ps := ["script", "k"]) fun _ _ _ _ _ _ us hl => match us, hl with | [_, _], _ => rfl
  have F20 := fun_mk (st := st__law_number) l20 c20 k20
  have b20 := F20.binds (ps := ["more"]) fun _ _ _ _ _ _ us hl => match us, hl with | [_], _ => rfl
  have F21 := fun_mk (st := st_power_of) l21 c21 k21
  have b21 := F21.binds (ps := ["places"]) fun _ _ _ _ _ _ us hl => match us, hl with | [_], _ => rfl
  have F22 := fun_mk (st := st_root_below) l22 c22 k22
  have b22 := F22.binds (ps := ["square"]) fun _ _ _ _ _ _ us hl => match us, hl with | [_], _ => rfl
  have F23 := fun_mk (st := st_digits_of) l23 c23 k23
  have b23 := F23.binds (ps := ["number", "places"]) fun _ _ _ _ _ _ us hl => match us, hl with | [_, _], _ => rfl
  have F24 := fun_mk (st := st_span_of) l24 c24 k24
  have b24 := F24.binds (ps := ["found", "places"]) fun _ _ _ _ _ _ us hl => match us, hl with | [_, _], _ => rfl
  have F25 := fun_mk (st := st_sign_of) l25 c25 k25
  have b25 := F25.binds (ps := ["found"]) fun _ _ _ _ _ _ us hl => match us, hl with | [_], _ => rfl
  have F26 := fun_mk (st := st_less_by) l26 c26 k26
  have b26 := F26.binds (ps := ["found", "number"]) fun _ _ _ _ _ _ us hl => match us, hl with | [_, _], _ => rfl
  have F27 := fun_mk (st := st_floor_of) l27 c27 k27
  have b27 := F27.binds (ps := ["found"]) fun _ _ _ _ _ _ us hl => match us, hl with | [_], _ => rfl
  have F28 := fun_mk (st := st_places_of) l28 c28 k28
  have b28 := F28.binds (ps := ["one", "places"]) fun _ _ _ _ _ _ us hl => match us, hl with | [_, _], _ => rfl
  have F29 := fun_mk (st := st_Pile_digits_of_top) l29 c29 k29
  have b29 := F29.binds (ps := ["self", "places"]) fun _ _ _ _ _ _ us hl => match us, hl with | [_, _], _ => rfl
  have F30 := fun_mk (st := st__law_none_let) l30 c30 k30
  have b30 := F30.binds (ps := ["pile"]) fun _ _ _ _ _ _ us hl => match us, hl with | [_], _ => rfl
  have F31 := fun_mk (st := st_total_of) l31 c31 k31
  have b31 := F31.binds (ps := ["one", "other", "sign"]) fun _ _ _ _ _ _ us hl => match us, hl with | [_, _, _], _ => rfl
  have F32 := fun_mk (st := st_Pile_add) l32 c32 k32
  have b32 := F32.binds (ps := ["self"]) fun _ _ _ _ _ _ us hl => match us, hl with | [_], _ => rfl
  have F33 := fun_mk (st := st_Pile_negate) l33 c33 k33
  have b33 := F33.binds (ps := ["self"]) fun _ _ _ _ _ _ us hl => match us, hl with | [_], _ => rfl
  have F34 := fun_mk (st := st_Pile_drop) l34 c34 k34
  have b34 := F34.binds (ps := ["self"]) fun _ _ _ _ _ _ us hl => match us, hl with | [_], _ => rfl
  have F35 := fun_mk (st := st_Pile_top) l35 c35 k35
  have b35 := F35.binds (ps := ["self"]) fun _ _ _ _ _ _ us hl => match us, hl with | [_], _ => rfl
  have F36 := fun_mk (st := st_Pile_subtract) l36 c36 k36
  have b36 := F36.binds (ps := ["self"]) fun _ _ _ _ _ _ us hl => match us, hl with | [_], _ => rfl
  have F37 := fun_mk (st := st_Pile_swap) l37 c37 k37
  have b37 := F37.binds (ps := ["self"]) fun _ _ _ _ _ _ us hl => match us, hl with | [_], _ => rfl
  have F38 := fun_mk (st := st__law_few_right) l38 c38 k38
  have b38 := F38.binds (ps := []) fun _ _ _ _ _ _ us hl => match us, hl with | [], _ => rfl
  have F39 := fun_mk (st := st_law) l39 c39 k39
  have b39 := F39.binds (ps := ["script"]) fun _ _ _ _ _ _ us hl => match us, hl with | [_], _ => rfl
  have F40 := fun_mk (st := st__law_word) l40 c40 k40
  have b40 := F40.binds (ps := ["e"]) fun _ _ _ _ _ _ us hl => match us, hl with | [_], _ => rfl
  have F41 := fun_mk (st := st__law_told) l41 c41 k41
  have b41 := F41.binds (ps := ["deed"]) fun _ _ _ _ _ _ us hl => match us, hl with | [_], _ => rfl
  have F42 := fun_mk (st := st_init) l42 c42 k42
  have b42 := F42.binds (ps := ["self"]) fun _ _ _ _ _ _ us hl => match us, hl with | [_], _ => rfl
  have F43 := fun_mk (st := st_become) l43 c43 k43
  have b43 := F43.binds (ps := ["self", "rows"]) fun _ _ _ _ _ _ us hl => match us, hl with | [_, _], _ => rfl
  have F44 := fun_mk (st := st_undo) l44 c44 k44
  have b44 := F44.binds (ps := ["self"]) fun _ _ _ _ _ _ us hl => match us, hl with | [_], _ => rfl
  have F45 := fun_mk (st := st_redo) l45 c45 k45
  have b45 := F45.binds (ps := ["self"]) fun _ _ _ _ _ _ us hl => match us, hl with | [_], _ => rfl
  have wk : WordK K mg T al7 al7 := by
    refine ⟨fun c hc => ?_, fun c d hc hd => ?_, fun c hc => ?_, fun d hd => ?_, PySem.W.mg_none_of X G n_isinstance, PySem.W.mg_none_of X G n_sum, PySem.W.mg_none_of X G n_int, PySem.W.mg_none_of X G n_ValueError⟩
    · have z : c = "BadNumber" ∨ c = "BadRow" ∨ c = "BadText" ∨ c = "BadExact" ∨ c = "TooGreat" ∨ c = "TooFew" ∨ c = "Nothing" := by simpa [al7] using hc
      rcases z with rfl | rfl | rfl | rfl | rfl | rfl | rfl
      · exact x0.excC ec0
      · exact x1.excC ec1
      · exact x2.excC ec2
      · exact x3.excC ec3
      · exact x4.excC ec4
      · exact x5.excC ec5
      · exact x6.excC ec6
    · have z : c = "BadNumber" ∨ c = "BadRow" ∨ c = "BadText" ∨ c = "BadExact" ∨ c = "TooGreat" ∨ c = "TooFew" ∨ c = "Nothing" := by simpa [al7] using hc
      have z2 : d = "BadNumber" ∨ d = "BadRow" ∨ d = "BadText" ∨ d = "BadExact" ∨ d = "TooGreat" ∨ d = "TooFew" ∨ d = "Nothing" := by simpa [al7] using hd
      rcases z with rfl | rfl | rfl | rfl | rfl | rfl | rfl
      · rcases z2 with rfl | rfl | rfl | rfl | rfl | rfl | rfl
        · rw [ec0, y0_0]; decide +kernel
        · rw [ec0, ec1, y0_1]; decide +kernel
        · rw [ec0, ec2, y0_2]; decide +kernel
        · rw [ec0, ec3, y0_3]; decide +kernel
        · rw [ec0, ec4, y0_4]; decide +kernel
        · rw [ec0, ec5, y0_5]; decide +kernel
        · rw [ec0, ec6, y0_6]; decide +kernel
      · rcases z2 with rfl | rfl | rfl | rfl | rfl | rfl | rfl
        · rw [ec1, ec0, y1_0]; decide +kernel
        · rw [ec1, y1_1]; decide +kernel
        · rw [ec1, ec2, y1_2]; decide +kernel
        · rw [ec1, ec3, y1_3]; decide +kernel
        · rw [ec1, ec4, y1_4]; decide +kernel
        · rw [ec1, ec5, y1_5]; decide +kernel
        · rw [ec1, ec6, y1_6]; decide +kernel
      · rcases z2 with rfl | rfl | rfl | rfl | rfl | rfl | rfl
        · rw [ec2, ec0, y2_0]; decide +kernel
        · rw [ec2, ec1, y2_1]; decide +kernel
        · rw [ec2, y2_2]; decide +kernel
        · rw [ec2, ec3, y2_3]; decide +kernel
        · rw [ec2, ec4, y2_4]; decide +kernel
        · rw [ec2, ec5, y2_5]; decide +kernel
        · rw [ec2, ec6, y2_6]; decide +kernel
      · rcases z2 with rfl | rfl | rfl | rfl | rfl | rfl | rfl
        · rw [ec3, ec0, y3_0]; decide +kernel
        · rw [ec3, ec1, y3_1]; decide +kernel
        · rw [ec3, ec2, y3_2]; decide +kernel
        · rw [ec3, y3_3]; decide +kernel
        · rw [ec3, ec4, y3_4]; decide +kernel
        · rw [ec3, ec5, y3_5]; decide +kernel
        · rw [ec3, ec6, y3_6]; decide +kernel
      · rcases z2 with rfl | rfl | rfl | rfl | rfl | rfl | rfl
        · rw [ec4, ec0, y4_0]; decide +kernel
        · rw [ec4, ec1, y4_1]; decide +kernel
        · rw [ec4, ec2, y4_2]; decide +kernel
        · rw [ec4, ec3, y4_3]; decide +kernel
        · rw [ec4, y4_4]; decide +kernel
        · rw [ec4, ec5, y4_5]; decide +kernel
        · rw [ec4, ec6, y4_6]; decide +kernel
      · rcases z2 with rfl | rfl | rfl | rfl | rfl | rfl | rfl
        · rw [ec5, ec0, y5_0]; decide +kernel
        · rw [ec5, ec1, y5_1]; decide +kernel
        · rw [ec5, ec2, y5_2]; decide +kernel
        · rw [ec5, ec3, y5_3]; decide +kernel
        · rw [ec5, ec4, y5_4]; decide +kernel
        · rw [ec5, y5_5]; decide +kernel
        · rw [ec5, ec6, y5_6]; decide +kernel
      · rcases z2 with rfl | rfl | rfl | rfl | rfl | rfl | rfl
        · rw [ec6, ec0, y6_0]; decide +kernel
        · rw [ec6, ec1, y6_1]; decide +kernel
        · rw [ec6, ec2, y6_2]; decide +kernel
        · rw [ec6, ec3, y6_3]; decide +kernel
        · rw [ec6, ec4, y6_4]; decide +kernel
        · rw [ec6, ec5, y6_5]; decide +kernel
        · rw [ec6, y6_6]; decide +kernel
    · have z : c = "BadNumber" ∨ c = "BadRow" ∨ c = "BadText" ∨ c = "BadExact" ∨ c = "TooGreat" ∨ c = "TooFew" ∨ c = "Nothing" := by simpa [al7] using hc
      rcases z with rfl | rfl | rfl | rfl | rfl | rfl | rfl
      · rw [ec0]; exact x0.iv
      · rw [ec1]; exact x1.iv
      · rw [ec2]; exact x2.iv
      · rw [ec3]; exact x3.iv
      · rw [ec4]; exact x4.iv
      · rw [ec5]; exact x5.iv
      · rw [ec6]; exact x6.iv
    · have z : d = "BadNumber" ∨ d = "BadRow" ∨ d = "BadText" ∨ d = "BadExact" ∨ d = "TooGreat" ∨ d = "TooFew" ∨ d = "Nothing" := by simpa [al7] using hd
      rcases z with rfl | rfl | rfl | rfl | rfl | rfl | rfl
      · rw [ec0]; exact mc0
      · rw [ec1]; exact mc1
      · rw [ec2]; exact mc2
      · rw [ec3]; exact mc3
      · rw [ec4]; exact mc4
      · rw [ec5]; exact mc5
      · rw [ec6]; exact mc6
  have sb : ∀ c, al7.contains c = true → PySem.W.exmOne K (.ref (T.ca c)) (.ref CN) = some true := fun c hc => by
    have z : c = "BadNumber" ∨ c = "BadRow" ∨ c = "BadText" ∨ c = "BadExact" ∨ c = "TooGreat" ∨ c = "TooFew" ∨ c = "Nothing" := by simpa [al7] using hc
    rcases z with rfl | rfl | rfl | rfl | rfl | rfl | rfl
    · rw [ec0]; exact x0.ex
    · rw [ec1]; exact x1.ex
    · rw [ec2]; exact x2.ex
    · rw [ec3]; exact x3.ex
    · rw [ec4]; exact x4.ex
    · rw [ec5]; exact x5.ex
    · rw [ec6]; exact x6.ex
  refine ⟨PySem.W.fnOf "law" "law" (defArgs st_law) (defBody st_law) (defScope st_law) .none kV39 dc39 pm39 an39 (.ref cA39) ct39, [(cA30, tA30), (cA38, tA38), (cA39, tA39)], spD K T 1 F_law_k91, ?_, ?_, ?_, fun s v => .of_eq rfl, fun H a ns hl _ hT hS => sp_law (n := 63) (fun ns hn => law_end ns hn) H a ns hl ?_ hS, fun base KB GB TB => ?_⟩
  · intro p hp
    have z : p = (cA30, tA30) ∨ p = (cA38, tA38) ∨ p = (cA39, tA39) := by simpa using hp
    rcases z with rfl | rfl | rfl
    · exact u30
    · exact u38
    · exact u39
  · intro p hp
    have z : p = (cA30, tA30) ∨ p = (cA38, tA38) ∨ p = (cA39, tA39) := by simpa using hp
    rcases z with rfl | rfl | rfl
    · exact v30
    · exact v38
    · exact v39
  · intro p hp
    have z : p = (cA30, tA30) ∨ p = (cA38, tA38) ∨ p = (cA39, tA39) := by simpa using hp
    rcases z with rfl | rfl | rfl
    · exact PySem.W.codeHd_of_K X t30
    · exact PySem.W.codeHd_of_K X t38
    · exact PySem.W.codeHd_of_K X t39
  · intro p hp
    have z : p = (tA30, ("_law_none_let" ++ ".<locals>." : Str) ++ "<lambda>") ∨ p = (tA38, ("_law_few_right" ++ ".<locals>." : Str) ++ "<lambda>") ∨ p = (tA39, ("law" ++ ".<locals>." : Str) ++ "<lambda>") := by simpa [etb] using hp
    rcases z with rfl | rfl | rfl
    · exact hT (cA30, tA30) (by simp)
    · exact hT (cA38, tA38) (by simp)
    · exact hT (cA39, tA39) (by simp)
  · have wo : WordsOk l.prog w K mg base T al7 := words_ok F40 (PySem.W.mg_of X G a40) b40 wk
    have tl : ToldAt K mg base T al7 f41 CN (defScope st__law_told) := ⟨PySem.W.mg_of X G a41, k41, ⟨_, _, _, _, _, _, _, _, _, _, _, _, _, _, _, _, _, _, _, _, l41, c41, b41⟩, sc__law_told, rfl, rfl, rfl, rfl, PySem.W.mg_of X G gN, sb⟩
    have pk : PileK K CP := ⟨⟨pg, hdP, po, sa⟩, z_rows, z_past, z_ahead⟩
    have xN := x6.exC (K := K) (mg := mg) (T := T) ec6 mc6
    have bk : BecK l.prog w K mg base CP 1 := ⟨⟨f43, _, _, ok_become F43 pk, ⟨a43, i43, k43⟩, b43⟩, pk⟩
    have nk : NewK l.prog w K mg base CP 1 := ⟨⟨f42, _, _, ok_init F42 pk, ⟨mkP, a42, i42, kcP⟩, b42⟩, PySem.W.mg_of X G gP, pk⟩
    have uk : SpK l.prog w K mg base CP "undo" 1 (spU K T CP) := ⟨⟨f44, _, _, ok_undo F44 pk xN, ⟨a44, i44, k44⟩, b44⟩, pk⟩
    have rk : SpK l.prog w K mg base CP "redo" 1 (spR T CP) := ⟨⟨f45, _, _, ok_redo F45 pk xN, ⟨a45, i45, k45⟩, b45⟩, pk⟩
    have d__law_drawn : Df l.prog w K mg base T "_law_drawn" 1 2 F__law_drawn := df_mk F0 (PySem.W.mg_of X G a0) b0 hn__law_drawn rfl (fn_d F0 sc__law_drawn (fun cdv A outer s H E hr => ⟨_, bd__law_drawn tx hr, sem__law_drawn⟩))
    have d_is_count : Df l.prog w K mg base T "is_count" 1 3 F_is_count := df_mk F1 (PySem.W.mg_of X G a1) b1 hn_is_count rfl (fn_d F1 sc_is_count (fun cdv A outer s H E hr => ⟨_, bd_is_count tx hr, sem_is_count⟩))
    have d_is_number : Df l.prog w K mg base T "is_number" 2 1 F_is_number := df_mk F2 (PySem.W.mg_of X G a2) b2 hn_is_number rfl (fn_d F2 sc_is_number (fun cdv A outer s H E hr => ⟨_, bd_is_number tx d_is_count hr, sem_is_number⟩))
    have d_need_number : Df l.prog w K mg base T "need_number" 3 1 F_need_number := df_mk F3 (PySem.W.mg_of X G a3) b3 hn_need_number rfl (fn_d F3 sc_need_number (fun cdv A outer s H E hr => ⟨_, bd_need_number tx d_is_number hr, sem_need_number⟩))
    have d_plain_of : Df l.prog w K mg base T "plain_of" 1 1 F_plain_of := df_mk F4 (PySem.W.mg_of X G a4) b4 hn_plain_of rfl (fn_d F4 sc_plain_of (fun cdv A outer s H E hr => ⟨_, bd_plain_of tx hr, sem_plain_of⟩))
    have d_exact : Df l.prog w K mg base T "exact" 4 1 F_exact := df_mk F5 (PySem.W.mg_of X G a5) b5 hn_exact rfl (fn_d F5 sc_exact (fun cdv A outer s H E hr => ⟨_, bd_exact tx d_need_number d_plain_of hr, sem_exact⟩))
    have d_Pile_need_room : Mt l.prog w K mg base T CP "need_room" 1 1 (F_Pile_need_room CP) := ⟨⟨f6, _, _, fn_d F6 sc_Pile_need_room (fun cdv A outer s H E hr => ⟨_, bd_Pile_need_room tx pk hr, sem_Pile_need_room CP⟩), ⟨a6, i6, k6⟩, b6⟩, hn_Pile_need_room CP, pk, ⟨by decide +kernel, by decide +kernel, by decide +kernel⟩⟩
    have d_Pile_press : Mt l.prog w K mg base T CP "press" 5 2 (F_Pile_press CP) := ⟨⟨f7, _, _, fn_d F7 sc_Pile_press (fun cdv A outer s H E hr => ⟨_, bd_Pile_press tx pk bk d_exact d_Pile_need_room hr, sem_Pile_press CP⟩), ⟨a7, i7, k7⟩, b7⟩, hn_Pile_press CP, pk, ⟨by decide +kernel, by decide +kernel, by decide +kernel⟩⟩
    have m_Pile_press : MtM l.prog w K mg base T CP "press" 5 2 G_Pile_press := ⟨⟨f7, _, _, fn_dM F7 sc_Pile_press (fun cdv A outer s H E hr => ⟨_, bm_Pile_press tx pk bk d_Pile_need_room d_exact hr, sem_mPile_press CP⟩), ⟨a7, i7, k7⟩, b7⟩, gn_Pile_press, pk, ⟨by decide +kernel, by decide +kernel, by decide +kernel⟩⟩
    have d_need_count : Df l.prog w K mg base T "need_count" 2 3 F_need_count := df_mk F8 (PySem.W.mg_of X G a8) b8 hn_need_count rfl (fn_d F8 sc_need_count (fun cdv A outer s H E hr => ⟨_, bd_need_count tx d_is_count hr, sem_need_count⟩))
    have d_Pile_need : Mt l.prog w K mg base T CP "need" 1 2 (F_Pile_need CP) := ⟨⟨f9, _, _, fn_d F9 sc_Pile_need (fun cdv A outer s H E hr => ⟨_, bd_Pile_need tx pk hr, sem_Pile_need CP⟩), ⟨a9, i9, k9⟩, b9⟩, hn_Pile_need CP, pk, ⟨by decide +kernel, by decide +kernel, by decide +kernel⟩⟩
    have d_Pile_copy : Mt l.prog w K mg base T CP "copy" 3 2 (F_Pile_copy CP) := ⟨⟨f10, _, _, fn_d F10 sc_Pile_copy (fun cdv A outer s H E hr => ⟨_, bd_Pile_copy tx pk bk d_need_count d_Pile_need d_Pile_need_room hr, sem_Pile_copy CP⟩), ⟨a10, i10, k10⟩, b10⟩, hn_Pile_copy CP, pk, ⟨by decide +kernel, by decide +kernel, by decide +kernel⟩⟩
    have m_Pile_copy : MtM l.prog w K mg base T CP "copy" 3 2 G_Pile_copy := ⟨⟨f10, _, _, fn_dM F10 sc_Pile_copy (fun cdv A outer s H E hr => ⟨_, bm_Pile_copy tx pk bk d_Pile_need_room d_Pile_need d_need_count hr, sem_mPile_copy CP⟩), ⟨a10, i10, k10⟩, b10⟩, gn_Pile_copy, pk, ⟨by decide +kernel, by decide +kernel, by decide +kernel⟩⟩
    have d_has_square : Df l.prog w K mg base T "has_square" 1 1 F_has_square := df_mk F11 (PySem.W.mg_of X G a11) b11 hn_has_square rfl (fn_d F11 sc_has_square (fun cdv A outer s H E hr => ⟨_, bd_has_square tx hr, sem_has_square⟩))
    have d_is_pair : Df l.prog w K mg base T "is_pair" 2 1 F_is_pair := df_mk F12 (PySem.W.mg_of X G a12) b12 hn_is_pair rfl (fn_d F12 sc_is_pair (fun cdv A outer s H E hr => ⟨_, bd_is_pair tx d_is_count d_has_square hr, sem_is_pair⟩))
    have d_is_exact : Df l.prog w K mg base T "is_exact" 3 1 F_is_exact := df_mk F13 (PySem.W.mg_of X G a13) b13 hn_is_exact rfl (fn_d F13 sc_is_exact (fun cdv A outer s H E hr => ⟨_, bd_is_exact tx d_is_pair hr, sem_is_exact⟩))
    have d_rows_told : Df l.prog w K mg base T "rows_told" 4 1 F_rows_told := df_mk F14 (PySem.W.mg_of X G a14) b14 hn_rows_told rfl (fn_d F14 sc_rows_told (fun cdv A outer s H E hr => ⟨_, bd_rows_told tx d_is_exact hr, sem_rows_told⟩))
    have d_common : Df l.prog w K mg base T "common" 1 2 F_common := df_mk F15 (PySem.W.mg_of X G a15) b15 hn_common rfl (fn_d F15 sc_common (fun cdv A outer s H E hr => ⟨_, bd_common tx hr, sem_common⟩))
    have d_product_of : Df l.prog w K mg base T "product_of" 5 2 F_product_of := df_mk F16 (PySem.W.mg_of X G a16) b16 hn_product_of rfl (fn_d F16 sc_product_of (fun cdv A outer s H E hr => ⟨_, bd_product_of tx d_common d_rows_told hr, sem_product_of⟩))
    have d_Pile_multiply : Mt l.prog w K mg base T CP "multiply" 6 1 (F_Pile_multiply CP) := ⟨⟨f17, _, _, fn_d F17 sc_Pile_multiply (fun cdv A outer s H E hr => ⟨_, bd_Pile_multiply tx pk bk d_Pile_need d_product_of hr, sem_Pile_multiply CP⟩), ⟨a17, i17, k17⟩, b17⟩, hn_Pile_multiply CP, pk, ⟨by decide +kernel, by decide +kernel, by decide +kernel⟩⟩
    have m_Pile_multiply : MtM l.prog w K mg base T CP "multiply" 6 1 G_Pile_multiply := ⟨⟨f17, _, _, fn_dM F17 sc_Pile_multiply (fun cdv A outer s H E hr => ⟨_, bm_Pile_multiply tx pk bk d_product_of d_Pile_need hr, sem_mPile_multiply CP⟩), ⟨a17, i17, k17⟩, b17⟩, gn_Pile_multiply, pk, ⟨by decide +kernel, by decide +kernel, by decide +kernel⟩⟩
    have d_Pile_exacts : Mt l.prog w K mg base T CP "exacts" 1 1 (F_Pile_exacts CP) := ⟨⟨f18, _, _, fn_d F18 sc_Pile_exacts (fun cdv A outer s H E hr => ⟨_, bd_Pile_exacts tx pk hr, sem_Pile_exacts CP⟩), ⟨a18, i18, k18⟩, b18⟩, hn_Pile_exacts CP, pk, ⟨by decide +kernel, by decide +kernel, by decide +kernel⟩⟩
    have d__law_cell : Df l.prog w K mg base T "_law_cell" 1 2 F__law_cell := df_mk F19 (PySem.W.mg_of X G a19) b19 hn__law_cell rfl (fn_d F19 sc__law_cell (fun cdv A outer s H E hr => ⟨_, bd__law_cell tx hr, sem__law_cell⟩))
    have d__law_number : Df l.prog w K mg base T "_law_number" 1 1 F__law_number := df_mk F20 (PySem.W.mg_of X G a20) b20 hn__law_number rfl (fn_d F20 sc__law_number (fun cdv A outer s H E hr => ⟨_, bd__law_number tx hr, sem__law_number⟩))
    have d_power_of : Df l.prog w K mg base T "power_of" 1 1 F_power_of := df_mk F21 (PySem.W.mg_of X G a21) b21 hn_power_of rfl (fn_d F21 sc_power_of (fun cdv A outer s H E hr => ⟨_, bd_power_of tx hr, sem_power_of⟩))
    have d_root_below : Df l.prog w K mg base T "root_below" 1 1 F_root_below := df_mk F22 (PySem.W.mg_of X G a22) b22 hn_root_below rfl (fn_d F22 sc_root_below (fun cdv A outer s H E hr => ⟨_, bd_root_below tx hr, sem_root_below⟩))
    have d_digits_of : Df l.prog w K mg base T "digits_of" 2 2 F_digits_of := df_mk F23 (PySem.W.mg_of X G a23) b23 hn_digits_of rfl (fn_d F23 sc_digits_of (fun cdv A outer s H E hr => ⟨_, bd_digits_of tx d_power_of d_root_below hr, sem_digits_of⟩))
    have d_span_of : Df l.prog w K mg base T "span_of" 3 2 F_span_of := df_mk F24 (PySem.W.mg_of X G a24) b24 hn_span_of rfl (fn_d F24 sc_span_of (fun cdv A outer s H E hr => ⟨_, bd_span_of tx d_digits_of hr, sem_span_of⟩))
    have d_sign_of : Df l.prog w K mg base T "sign_of" 1 1 F_no := df_mk F25 (PySem.W.mg_of X G a25) b25 (fun _ _ _ z => z.elim) rfl fn_no
    have d_less_by : Df l.prog w K mg base T "less_by" 1 2 F_no := df_mk F26 (PySem.W.mg_of X G a26) b26 (fun _ _ _ z => z.elim) rfl fn_no
    have d_floor_of : Df l.prog w K mg base T "floor_of" 4 1 F_floor_of := df_mk F27 (PySem.W.mg_of X G a27) b27 hn_floor_of rfl (fn_d F27 sc_floor_of (fun cdv A outer s H E hr => ⟨_, bd_floor_of tx d_span_of d_sign_of d_less_by hr, sem_floor_of⟩))
    have d_places_of : Df l.prog w K mg base T "places_of" 5 2 F_places_of := df_mk F28 (PySem.W.mg_of X G a28) b28 hn_places_of rfl (fn_d F28 sc_places_of (fun cdv A outer s H E hr => ⟨_, bd_places_of tx d_power_of d_floor_of hr, sem_places_of⟩))
    have d_Pile_digits_of_top : Mt l.prog w K mg base T CP "digits_of_top" 6 2 (F_Pile_digits_of_top CP) := ⟨⟨f29, _, _, fn_d F29 sc_Pile_digits_of_top (fun cdv A outer s H E hr => ⟨_, bd_Pile_digits_of_top tx pk d_need_count d_Pile_need d_places_of hr, sem_Pile_digits_of_top CP⟩), ⟨a29, i29, k29⟩, b29⟩, hn_Pile_digits_of_top CP, pk, ⟨by decide +kernel, by decide +kernel, by decide +kernel⟩⟩
    have hu30 : ∀ p ∈ T.tb, p.1 = tA30 → p.2 = ("_law_none_let" ++ ".<locals>." : Str) ++ "<lambda>" := fun p hp hz => by
      have z : p = (tA30, ("_law_none_let" ++ ".<locals>." : Str) ++ "<lambda>") ∨ p = (tA38, ("_law_few_right" ++ ".<locals>." : Str) ++ "<lambda>") ∨ p = (tA39, ("law" ++ ".<locals>." : Str) ++ "<lambda>") := by simpa [etb] using hp
      rcases z with rfl | rfl | rfl
      · rfl
      · exact absurd hz w38_30
      · exact absurd hz w39_30
    have d__law_none_let : Df l.prog w K mg base T "_law_none_let" 9 1 (F__law_none_let CP) := df_mk F30 (PySem.W.mg_of X G a30) b30 (hn__law_none_let CP) rfl (fn_dc F30 rfl sc__law_none_let (fun A outer s H E hr => ⟨_, bd__law_none_let tx d_Pile_press d_Pile_copy d_Pile_digits_of_top tl wo (TB (cA30, tA30) (by simp)) (by simp [etb]) hu30 hr, sem__law_none_let CP⟩))
    have d_total_of : Df l.prog w K mg base T "total_of" 1 3 F_no := df_mk F31 (PySem.W.mg_of X G a31) b31 (fun _ _ _ z => z.elim) rfl fn_no
    have d_Pile_add : Mt l.prog w K mg base T CP "add" 2 1 (F_Pile_add CP) := ⟨⟨f32, _, _, fn_d F32 sc_Pile_add (fun cdv A outer s H E hr => ⟨_, bd_Pile_add tx pk bk d_Pile_need d_total_of hr, sem_Pile_add CP⟩), ⟨a32, i32, k32⟩, b32⟩, hn_Pile_add CP, pk, ⟨by decide +kernel, by decide +kernel, by decide +kernel⟩⟩
    have d_Pile_negate : Mt l.prog w K mg base T CP "negate" 2 1 (F_Pile_negate CP) := ⟨⟨f33, _, _, fn_d F33 sc_Pile_negate (fun cdv A outer s H E hr => ⟨_, bd_Pile_negate tx pk bk d_Pile_need hr, sem_Pile_negate CP⟩), ⟨a33, i33, k33⟩, b33⟩, hn_Pile_negate CP, pk, ⟨by decide +kernel, by decide +kernel, by decide +kernel⟩⟩
    have d_Pile_drop : Mt l.prog w K mg base T CP "drop" 2 1 (F_Pile_drop CP) := ⟨⟨f34, _, _, fn_d F34 sc_Pile_drop (fun cdv A outer s H E hr => ⟨_, bd_Pile_drop tx pk bk d_Pile_need hr, sem_Pile_drop CP⟩), ⟨a34, i34, k34⟩, b34⟩, hn_Pile_drop CP, pk, ⟨by decide +kernel, by decide +kernel, by decide +kernel⟩⟩
    have d_Pile_top : Mt l.prog w K mg base T CP "top" 2 1 (F_Pile_top CP) := ⟨⟨f35, _, _, fn_d F35 sc_Pile_top (fun cdv A outer s H E hr => ⟨_, bd_Pile_top tx pk d_Pile_need hr, sem_Pile_top CP⟩), ⟨a35, i35, k35⟩, b35⟩, hn_Pile_top CP, pk, ⟨by decide +kernel, by decide +kernel, by decide +kernel⟩⟩
    have d_Pile_subtract : Mt l.prog w K mg base T CP "subtract" 2 1 (F_Pile_subtract CP) := ⟨⟨f36, _, _, fn_d F36 sc_Pile_subtract (fun cdv A outer s H E hr => ⟨_, bd_Pile_subtract tx pk bk d_Pile_need d_total_of hr, sem_Pile_subtract CP⟩), ⟨a36, i36, k36⟩, b36⟩, hn_Pile_subtract CP, pk, ⟨by decide +kernel, by decide +kernel, by decide +kernel⟩⟩
    have d_Pile_swap : Mt l.prog w K mg base T CP "swap" 2 1 (F_Pile_swap CP) := ⟨⟨f37, _, _, fn_d F37 sc_Pile_swap (fun cdv A outer s H E hr => ⟨_, bd_Pile_swap tx pk bk d_Pile_need hr, sem_Pile_swap CP⟩), ⟨a37, i37, k37⟩, b37⟩, hn_Pile_swap CP, pk, ⟨by decide +kernel, by decide +kernel, by decide +kernel⟩⟩
    have hu38 : ∀ p ∈ T.tb, p.1 = tA38 → p.2 = ("_law_few_right" ++ ".<locals>." : Str) ++ "<lambda>" := fun p hp hz => by
      have z : p = (tA30, ("_law_none_let" ++ ".<locals>." : Str) ++ "<lambda>") ∨ p = (tA38, ("_law_few_right" ++ ".<locals>." : Str) ++ "<lambda>") ∨ p = (tA39, ("law" ++ ".<locals>." : Str) ++ "<lambda>") := by simpa [etb] using hp
      rcases z with rfl | rfl | rfl
      · exact absurd hz w30_38
      · rfl
      · exact absurd hz w39_38
    have d__law_few_right : Df l.prog w K mg base T "_law_few_right" 9 0 (F__law_few_right) := df_mk F38 (PySem.W.mg_of X G a38) b38 (hn__law_few_right) rfl (fn_dc F38 rfl sc__law_few_right (fun A outer s H E hr => ⟨_, bd__law_few_right tx nk uk m_Pile_press d_Pile_add d_Pile_multiply d_Pile_negate d_Pile_drop d_Pile_copy d_Pile_top d_Pile_subtract d_Pile_swap d_Pile_exacts tl wo (TB (cA38, tA38) (by simp)) (by simp [etb]) hu38 hr, sem__law_few_right CP⟩))
    have hu39 : ∀ p ∈ T.tb, p.1 = tA39 → p.2 = ("law" ++ ".<locals>." : Str) ++ "<lambda>" := fun p hp hz => by
      have z : p = (tA30, ("_law_none_let" ++ ".<locals>." : Str) ++ "<lambda>") ∨ p = (tA38, ("_law_few_right" ++ ".<locals>." : Str) ++ "<lambda>") ∨ p = (tA39, ("law" ++ ".<locals>." : Str) ++ "<lambda>") := by simpa [etb] using hp
      rcases z with rfl | rfl | rfl
      · exact absurd hz w30_39
      · exact absurd hz w38_39
      · rfl
    exact fn_dc F39 rfl sc_law (fun A outer s H E hr => ⟨_, bd_law tx nk uk rk m_Pile_press m_Pile_copy m_Pile_multiply d__law_drawn d__law_cell d__law_number d_Pile_press d_Pile_copy d_Pile_exacts d__law_none_let d__law_few_right d_Pile_multiply d_Pile_digits_of_top tl wo (TB (cA39, tA39) (by simp)) (by simp [etb]) hu39 hr, sem_law_k91 CP⟩)
end R91
open PySem PySem.W PyProof.Rows in
set_option maxRecDepth 100000 in
set_option maxHeartbeats 0 in
theorem PySem.Challenge.cw_noughtsums_k91_piles_refused_holds : PySem.Challenge.rw_noughtsums_k91_piles_refused.Holds := by
  w_on; o_law; k_head; (case hw => w_witness2)
  k_fill
  refine LamX.walk_ofTs (l := PySem.Challenge.rw_noughtsums_k91_piles_refused) (n := 63) (k := 12) (x := "script") (CX := fun w => L2N.CX PySem.Challenge.rw_noughtsums_k91_piles_refused.prog w) rfl (by decide) rfl ⟨rfl, by decide, by decide⟩ (fun w h Y => PySem.W.km_in_of Y) ?F (fun w H s e s' z => z.elim fun _ z => z.elim fun _ z => z.elim fun _ z => z.elim fun _ z => z.elim fun _ z => z.2.2.2.2.2.2.2)
  case F =>
    intro w mg fa h Y KX G hmg
    refine' R91.all_mk KX G hmg (tA30 := 435) (tA38 := 428) (tA39 := 442) ?gP ?pg ?hdP ?po ?sa ?mkP ?kcP ?z_rows ?z_past ?z_ahead ?a0 ?l0 ?c0 ?k0 ?a1 ?l1 ?c1 ?k1 ?a2 ?l2 ?c2 ?k2 ?a3 ?l3 ?c3 ?k3 ?a4 ?l4 ?c4 ?k4 ?a5 ?l5 ?c5 ?k5 ?a6 ?i6 ?l6 ?c6 ?k6 ?a7 ?i7 ?l7 ?c7 ?k7 ?a8 ?l8 ?c8 ?k8 ?a9 ?i9 ?l9 ?c9 ?k9 ?a10 ?i10 ?l10 ?c10 ?k10 ?a11 ?l11 ?c11 ?k11 ?a12 ?l12 ?c12 ?k12 ?a13 ?l13 ?c13 ?k13 ?a14 ?l14 ?c14 ?k14 ?a15 ?l15 ?c15 ?k15 ?a16 ?l16 ?c16 ?k16 ?a17 ?i17 ?l17 ?c17 ?k17 ?a18 ?i18 ?l18 ?c18 ?k18 ?a19 ?l19 ?c19 ?k19 ?a20 ?l20 ?c20 ?k20 ?a21 ?l21 ?c21 ?k21 ?a22 ?l22 ?c22 ?k22 ?a23 ?l23 ?c23 ?k23 ?a24 ?l24 ?c24 ?k24 ?a25 ?l25 ?c25 ?k25 ?a26 ?l26 ?c26 ?k26 ?a27 ?l27 ?c27 ?k27 ?a28 ?l28 ?c28 ?k28 ?a29 ?i29 ?l29 ?c29 ?k29 ?a30 ?l30 ?c30 ?k30 ?t30 ?u30 ?v30 ?a31 ?l31 ?c31 ?k31 ?a32 ?i32 ?l32 ?c32 ?k32 ?a33 ?i33 ?l33 ?c33 ?k33 ?a34 ?i34 ?l34 ?c34 ?k34 ?a35 ?i35 ?l35 ?c35 ?k35 ?a36 ?i36 ?l36 ?c36 ?k36 ?a37 ?i37 ?l37 ?c37 ?k37 ?a38 ?l38 ?c38 ?k38 ?t38 ?u38 ?v38 ?a39 ?l39 ?c39 ?k39 ?t39 ?u39 ?v39 ?a40 ?l40 ?c40 ?k40 ?a41 ?l41 ?c41 ?k41 ?a42 ?i42 ?l42 ?c42 ?k42 ?a43 ?i43 ?l43 ?c43 ?k43 ?a44 ?i44 ?l44 ?c44 ?k44 ?a45 ?i45 ?l45 ?c45 ?k45 ?w30_38 ?w30_39 ?w38_30 ?w38_39 ?w39_30 ?w39_38 ?n_all ?n_bool ?n_dict ?n_int ?n_isinstance ?n_len ?n_list ?n_max ?n_min ?n_range ?n_sorted ?n_tuple ?n_zip ?n_sum ?n_ValueError ?c_MOST ?c_MOST_MANY ?c_MOST_PILE ?c_MOST_PLACES ?c_MOST_ROOTS ?c_MOST_UNDER ?gN ?gc0_ ?x0 ?gc1_ ?x1 ?gc2_ ?x2 ?gc3_ ?x3 ?gc4_ ?x4 ?gc5_ ?x5 ?gc6_ ?x6 ?y0_0 ?y0_1 ?y0_2 ?y0_3 ?y0_4 ?y0_5 ?y0_6 ?y1_0 ?y1_1 ?y1_2 ?y1_3 ?y1_4 ?y1_5 ?y1_6 ?y2_0 ?y2_1 ?y2_2 ?y2_3 ?y2_4 ?y2_5 ?y2_6 ?y3_0 ?y3_1 ?y3_2 ?y3_3 ?y3_4 ?y3_5 ?y3_6 ?y4_0 ?y4_1 ?y4_2 ?y4_3 ?y4_4 ?y4_5 ?y4_6 ?y5_0 ?y5_1 ?y5_2 ?y5_3 ?y5_4 ?y5_5 ?y5_6 ?y6_0 ?y6_1 ?y6_2 ?y6_3 ?y6_4 ?y6_5 ?y6_6
    (case gP => k_is)
    (case pg => k_is)
    (case hdP => k_is)
    (case po => k_is)
    (case sa => k_is)
    (case mkP => k_is)
    (case kcP => k_is)
    (case z_rows => k_is)
    (case z_past => k_is)
    (case z_ahead => k_is)
    (case a0 => k_is)
    (case l0 => k_is)
    (case c0 => k_is)
    (case k0 => k_is)
    (case a1 => k_is)
    (case l1 => k_is)
    (case c1 => k_is)
    (case k1 => k_is)
    (case a2 => k_is)
    (case l2 => k_is)
    (case c2 => k_is)
    (case k2 => k_is)
    (case a3 => k_is)
    (case l3 => k_is)
    (case c3 => k_is)
    (case k3 => k_is)
    (case a4 => k_is)
    (case l4 => k_is)
    (case c4 => k_is)
    (case k4 => k_is)
    (case a5 => k_is)
    (case l5 => k_is)
    (case c5 => k_is)
    (case k5 => k_is)
    (case a6 => k_is)
    (case i6 => k_is)
    (case l6 => k_is)
    (case c6 => k_is)
    (case k6 => k_is)
    (case a7 => k_is)
    (case i7 => k_is)
    (case l7 => k_is)
    (case c7 => k_is)
    (case k7 => k_is)
    (case a8 => k_is)
    (case l8 => k_is)
    (case c8 => k_is)
    (case k8 => k_is)
    (case a9 => k_is)
    (case i9 => k_is)
    (case l9 => k_is)
    (case c9 => k_is)
    (case k9 => k_is)
    (case a10 => k_is)
    (case i10 => k_is)
    (case l10 => k_is)
    (case c10 => k_is)
    (case k10 => k_is)
    (case a11 => k_is)
    (case l11 => k_is)
    (case c11 => k_is)
    (case k11 => k_is)
    (case a12 => k_is)
    (case l12 => k_is)
    (case c12 => k_is)
    (case k12 => k_is)
    (case a13 => k_is)
    (case l13 => k_is)
    (case c13 => k_is)
    (case k13 => k_is)
    (case a14 => k_is)
    (case l14 => k_is)
    (case c14 => k_is)
    (case k14 => k_is)
    (case a15 => k_is)
    (case l15 => k_is)
    (case c15 => k_is)
    (case k15 => k_is)
    (case a16 => k_is)
    (case l16 => k_is)
    (case c16 => k_is)
    (case k16 => k_is)
    (case a17 => k_is)
    (case i17 => k_is)
    (case l17 => k_is)
    (case c17 => k_is)
    (case k17 => k_is)
    (case a18 => k_is)
    (case i18 => k_is)
    (case l18 => k_is)
    (case c18 => k_is)
    (case k18 => k_is)
    (case a19 => k_is)
    (case l19 => k_is)
    (case c19 => k_is)
    (case k19 => k_is)
    (case a20 => k_is)
    (case l20 => k_is)
    (case c20 => k_is)
    (case k20 => k_is)
    (case a21 => k_is)
    (case l21 => k_is)
    (case c21 => k_is)
    (case k21 => k_is)
    (case a22 => k_is)
    (case l22 => k_is)
    (case c22 => k_is)
    (case k22 => k_is)
    (case a23 => k_is)
    (case l23 => k_is)
    (case c23 => k_is)
    (case k23 => k_is)
    (case a24 => k_is)
    (case l24 => k_is)
    (case c24 => k_is)
    (case k24 => k_is)
    (case a25 => k_is)
    (case l25 => k_is)
    (case c25 => k_is)
    (case k25 => k_is)
    (case a26 => k_is)
    (case l26 => k_is)
    (case c26 => k_is)
    (case k26 => k_is)
    (case a27 => k_is)
    (case l27 => k_is)
    (case c27 => k_is)
    (case k27 => k_is)
    (case a28 => k_is)
    (case l28 => k_is)
    (case c28 => k_is)
    (case k28 => k_is)
    (case a29 => k_is)
    (case i29 => k_is)
    (case l29 => k_is)
    (case c29 => k_is)
    (case k29 => k_is)
    (case a30 => k_is)
    (case l30 => k_is)
    (case c30 => k_is)
    (case k30 => k_is)
    (case t30 => kernel_rfl)
    (case u30 => exact PySem.W.km_tabs_of Y 435 (by decide))
    (case v30 => kernel_rfl)
    (case a31 => k_is)
    (case l31 => k_is)
    (case c31 => k_is)
    (case k31 => k_is)
    (case a32 => k_is)
    (case i32 => k_is)
    (case l32 => k_is)
    (case c32 => k_is)
    (case k32 => k_is)
    (case a33 => k_is)
    (case i33 => k_is)
    (case l33 => k_is)
    (case c33 => k_is)
    (case k33 => k_is)
    (case a34 => k_is)
    (case i34 => k_is)
    (case l34 => k_is)
    (case c34 => k_is)
    (case k34 => k_is)
    (case a35 => k_is)
    (case i35 => k_is)
    (case l35 => k_is)
    (case c35 => k_is)
    (case k35 => k_is)
    (case a36 => k_is)
    (case i36 => k_is)
    (case l36 => k_is)
    (case c36 => k_is)
    (case k36 => k_is)
    (case a37 => k_is)
    (case i37 => k_is)
    (case l37 => k_is)
    (case c37 => k_is)
    (case k37 => k_is)
    (case a38 => k_is)
    (case l38 => k_is)
    (case c38 => k_is)
    (case k38 => k_is)
    (case t38 => kernel_rfl)
    (case u38 => exact PySem.W.km_tabs_of Y 428 (by decide))
    (case v38 => kernel_rfl)
    (case a39 => k_is)
    (case l39 => k_is)
    (case c39 => k_is)
    (case k39 => k_is)
    (case t39 => kernel_rfl)
    (case u39 => exact PySem.W.km_tabs_of Y 442 (by decide))
    (case v39 => kernel_rfl)
    (case a40 => k_is)
    (case l40 => k_is)
    (case c40 => k_is)
    (case k40 => k_is)
    (case a41 => k_is)
    (case l41 => k_is)
    (case c41 => k_is)
    (case k41 => k_is)
    (case a42 => k_is)
    (case i42 => k_is)
    (case l42 => k_is)
    (case c42 => k_is)
    (case k42 => k_is)
    (case a43 => k_is)
    (case i43 => k_is)
    (case l43 => k_is)
    (case c43 => k_is)
    (case k43 => k_is)
    (case a44 => k_is)
    (case i44 => k_is)
    (case l44 => k_is)
    (case c44 => k_is)
    (case k44 => k_is)
    (case a45 => k_is)
    (case i45 => k_is)
    (case l45 => k_is)
    (case c45 => k_is)
    (case k45 => k_is)
    (case w30_38 => decide)
    (case w30_39 => decide)
    (case w38_30 => decide)
    (case w38_39 => decide)
    (case w39_30 => decide)
    (case w39_38 => decide)
    (case n_all => k_is)
    (case n_bool => k_is)
    (case n_dict => k_is)
    (case n_int => k_is)
    (case n_isinstance => k_is)
    (case n_len => k_is)
    (case n_list => k_is)
    (case n_max => k_is)
    (case n_min => k_is)
    (case n_range => k_is)
    (case n_sorted => k_is)
    (case n_tuple => k_is)
    (case n_zip => k_is)
    (case n_sum => k_is)
    (case n_ValueError => k_is)
    (case c_MOST => k_is)
    (case c_MOST_MANY => k_is)
    (case c_MOST_PILE => k_is)
    (case c_MOST_PLACES => k_is)
    (case c_MOST_ROOTS => k_is)
    (case c_MOST_UNDER => k_is)
    (case gN => k_is)
    (case gc0_ => k_is)
    (case x0 => exact ⟨by kernel_rfl, by k_is, by k_is, by k_is, by kernel_rfl, by kernel_rfl, by k_is, by k_is, by k_is, by k_is, by k_is, by k_is, by k_is⟩)
    (case gc1_ => k_is)
    (case x1 => exact ⟨by kernel_rfl, by k_is, by k_is, by k_is, by kernel_rfl, by kernel_rfl, by k_is, by k_is, by k_is, by k_is, by k_is, by k_is, by k_is⟩)
    (case gc2_ => k_is)
    (case x2 => exact ⟨by kernel_rfl, by k_is, by k_is, by k_is, by kernel_rfl, by kernel_rfl, by k_is, by k_is, by k_is, by k_is, by k_is, by k_is, by k_is⟩)
    (case gc3_ => k_is)
    (case x3 => exact ⟨by kernel_rfl, by k_is, by k_is, by k_is, by kernel_rfl, by kernel_rfl, by k_is, by k_is, by k_is, by k_is, by k_is, by k_is, by k_is⟩)
    (case gc4_ => k_is)
    (case x4 => exact ⟨by kernel_rfl, by k_is, by k_is, by k_is, by kernel_rfl, by kernel_rfl, by k_is, by k_is, by k_is, by k_is, by k_is, by k_is, by k_is⟩)
    (case gc5_ => k_is)
    (case x5 => exact ⟨by kernel_rfl, by k_is, by k_is, by k_is, by kernel_rfl, by kernel_rfl, by k_is, by k_is, by k_is, by k_is, by k_is, by k_is, by k_is⟩)
    (case gc6_ => k_is)
    (case x6 => exact ⟨by kernel_rfl, by k_is, by k_is, by k_is, by kernel_rfl, by kernel_rfl, by k_is, by k_is, by k_is, by k_is, by k_is, by k_is, by k_is⟩)
    (case y0_0 => kernel_rfl)
    (case y0_1 => kernel_rfl)
    (case y0_2 => kernel_rfl)
    (case y0_3 => kernel_rfl)
    (case y0_4 => kernel_rfl)
    (case y0_5 => kernel_rfl)
    (case y0_6 => kernel_rfl)
    (case y1_0 => kernel_rfl)
    (case y1_1 => kernel_rfl)
    (case y1_2 => kernel_rfl)
    (case y1_3 => kernel_rfl)
    (case y1_4 => kernel_rfl)
    (case y1_5 => kernel_rfl)
    (case y1_6 => kernel_rfl)
    (case y2_0 => kernel_rfl)
    (case y2_1 => kernel_rfl)
    (case y2_2 => kernel_rfl)
    (case y2_3 => kernel_rfl)
    (case y2_4 => kernel_rfl)
    (case y2_5 => kernel_rfl)
    (case y2_6 => kernel_rfl)
    (case y3_0 => kernel_rfl)
    (case y3_1 => kernel_rfl)
    (case y3_2 => kernel_rfl)
    (case y3_3 => kernel_rfl)
    (case y3_4 => kernel_rfl)
    (case y3_5 => kernel_rfl)
    (case y3_6 => kernel_rfl)
    (case y4_0 => kernel_rfl)
    (case y4_1 => kernel_rfl)
    (case y4_2 => kernel_rfl)
    (case y4_3 => kernel_rfl)
    (case y4_4 => kernel_rfl)
    (case y4_5 => kernel_rfl)
    (case y4_6 => kernel_rfl)
    (case y5_0 => kernel_rfl)
    (case y5_1 => kernel_rfl)
    (case y5_2 => kernel_rfl)
    (case y5_3 => kernel_rfl)
    (case y5_4 => kernel_rfl)
    (case y5_5 => kernel_rfl)
    (case y5_6 => kernel_rfl)
    (case y6_0 => kernel_rfl)
    (case y6_1 => kernel_rfl)
    (case y6_2 => kernel_rfl)
    (case y6_3 => kernel_rfl)
    (case y6_4 => kernel_rfl)
    (case y6_5 => kernel_rfl)
    (case y6_6 => kernel_rfl)
#print axioms PySem.Challenge.cw_noughtsums_k91_piles_refused_holds
