import PyProof.Rows.All
import Wide.All
import OpenK.AllK
import Wide.FinOn
import HandS.ForMost
import HandS.Gcd
import HandS.Wide
import HandS.Exc
import HandS.Flow
import HandS.Defaults
import HandS.TupAny
import HandS.TupLe
import HandS.Zip
import HandS.Deep
import HandS.Conv
import HandS.SortInts
import HandS.SortRule
import HandS.IsInst
import HandS.TupMul
import HandS.Rev
import HandS.More
import KE.SortData
import KE.DataMinMax
import KE.KTupSum
import KE.GoesEnum
import KE.GoesZip
import KE.KRevSl
import KE.KStateDown
import HandS.WordsExc
import HandS.Head0
import HandS.Head1
import HandS.Head2
import HandS.HeadEnd
import HandS.HeadHook1
import HandS.HeadHook2
import HandS.HeadHook3
import HandS.HeadHook4
import HandS.Head3
import KE.BitLaws
import PySem.Challenge.RW_wheelmark_k88_whole_leap_years_as_window
set_option Elab.async false
set_option linter.all false
set_option maxRecDepth 100000
set_option maxHeartbeats 0
set_option exponentiation.threshold 5000
namespace WM
open PySem PySem.Spec PyProof.Rows L2
abbrev D := PyData
/-- what a name stands for: data, or the i-th cell -/
inductive W where
  | d (x : D)
  | m (i : Nat)
/-- a list that may change; fz: it is read as data from here on, and changes no more -/
inductive Cell where
  | lst (fz : Bool) (ds : List D)
abbrev Store := List Cell
abbrev Sl := List (Option W)
section
variable {K : PySem.W.Frag}
theorem SqL.mono {G H : Hp} {a : Addr} {xs : List V} (e : Same G H) (h : SqL K G a xs) : SqL K H a xs := e.seq h
theorem SqT.mono {G H : Hp} {a : Addr} {xs : List V} (e : Same G H) (h : SqT K G a xs) : SqT K H a xs := by
  rcases h with (h | ⟨o, h⟩) | h
  · exact .inl (.inl (e _ _ h))
  · exact .inl (.inr ⟨o, e _ _ h⟩)
  · exact .inr h
mutual
inductive Rp (K : PySem.W.Frag) (G : Hp) : V → D → Prop
  | non : Rp K G .non .none
  | bl (b : Bool) : Rp K G (.bl b) (.bool b)
  | int (i : Int) : Rp K G (.int i) (.int i)
  | str (x : Str) : Rp K G (.str x) (.str x)
  | lst {a : Addr} {xs : List V} {ds : List D} : G a = some (.lst xs) → Rps K G xs ds → Rp K G (.ref a) (.list ds)
  | tup {a : Addr} {xs : List V} {ds : List D} : SqT K G a xs → Rps K G xs ds → Rp K G (.ref a) (.tuple ds)
inductive Rps (K : PySem.W.Frag) (G : Hp) : List V → List D → Prop
  | nil : Rps K G [] []
  | cons {v : V} {vs : List V} {d : D} {ds : List D} : Rp K G v d → Rps K G vs ds → Rps K G (v :: vs) (d :: ds)
end
mutual
theorem Rp.dp {G : Hp} : ∀ {v : V} {d : D}, Rp K G v d → Dp K G v d
  | _, _, .non => .non
  | _, _, .bl b => .bl b
  | _, _, .int i => .int i
  | _, _, .str x => .str x
  | _, _, .lst h a => .lst (SqL.of h) (Rps.dp a)
  | _, _, .tup h a => .tup h (Rps.dp a)
theorem Rps.dp {G : Hp} : ∀ {vs : List V} {ds : List D}, Rps K G vs ds → DpAll K G vs ds
  | _, _, .nil => .nil
  | _, _, .cons h a => .cons (Rp.dp h) (Rps.dp a)
end
mutual
theorem Rp.mono {G H : Hp} (e : Same G H) : ∀ {v : V} {d : D}, Rp K G v d → Rp K H v d
  | _, _, .non => .non
  | _, _, .bl b => .bl b
  | _, _, .int i => .int i
  | _, _, .str x => .str x
  | _, _, .lst h a => .lst (e _ _ h) (Rps.mono e a)
  | _, _, .tup h a => .tup (SqT.mono e h) (Rps.mono e a)
theorem Rps.mono {G H : Hp} (e : Same G H) : ∀ {vs : List V} {ds : List D}, Rps K G vs ds → Rps K H vs ds
  | _, _, .nil => .nil
  | _, _, .cons h a => .cons (Rp.mono e h) (Rps.mono e a)
end
theorem Rps.length {G : Hp} : ∀ {vs : List V} {ds : List D}, Rps K G vs ds → vs.length = ds.length
  | _, _, .nil => rfl
  | _, _, .cons _ a => by rw [List.length_cons, List.length_cons, Rps.length a]
theorem Rps.get {G : Hp} : ∀ {vs : List V} {ds : List D} {i : Nat} {d : D}, Rps K G vs ds → ds[i]? = some d → ∃ v, vs[i]? = some v ∧ Rp K G v d
  | _, _, i, _, .nil, h => by cases i <;> cases h
  | _, _, 0, _, .cons h _, e => by cases e; exact ⟨_, rfl, h⟩
  | _, _, i + 1, _, .cons _ a, e => Rps.get (i := i) a (by simpa using e)
theorem Rps.append {G : Hp} : ∀ {vs ws : List V} {ds es : List D}, Rps K G vs ds → Rps K G ws es → Rps K G (vs ++ ws) (ds ++ es)
  | _, _, _, _, .nil, b => b
  | _, _, _, _, .cons h a, b => .cons h (Rps.append a b)
theorem Rps.take {G : Hp} : ∀ {vs : List V} {ds : List D} (n : Nat), Rps K G vs ds → Rps K G (vs.take n) (ds.take n)
  | _, _, 0, _ => .nil
  | _, _, _ + 1, .nil => .nil
  | _, _, n + 1, .cons h a => .cons h (Rps.take n a)
theorem Rps.drop {G : Hp} : ∀ {vs : List V} {ds : List D} (n : Nat), Rps K G vs ds → Rps K G (vs.drop n) (ds.drop n)
  | _, _, 0, a => a
  | _, _, _ + 1, .nil => .nil
  | _, _, n + 1, .cons _ a => Rps.drop n a
theorem Rps.set {G : Hp} {v : V} {d : D} (h : Rp K G v d) : ∀ {vs : List V} {ds : List D} (i : Nat), Rps K G vs ds → Rps K G (vs.set i v) (ds.set i d)
  | _, _, _, .nil => .nil
  | _, _, 0, .cons _ a => .cons h a
  | _, _, i + 1, .cons h' a => .cons h' (Rps.set h i a)
theorem Rps.eraseIdx {G : Hp} : ∀ {vs : List V} {ds : List D} (i : Nat), Rps K G vs ds → Rps K G (vs.eraseIdx i) (ds.eraseIdx i)
  | _, _, _, .nil => .nil
  | _, _, 0, .cons _ a => a
  | _, _, i + 1, .cons h' a => .cons h' (Rps.eraseIdx i a)
theorem Rps.reverse {G : Hp} : ∀ {vs : List V} {ds : List D}, Rps K G vs ds → Rps K G vs.reverse ds.reverse
  | _, _, .nil => .nil
  | _, _, .cons h a => by
    rw [List.reverse_cons, List.reverse_cons]
    exact Rps.append (Rps.reverse a) (.cons h .nil)
theorem Rps.ints {G : Hp} : ∀ {vs : List V} {ns : List Int}, Rps K G vs (ns.map PyData.int) → vs = ns.map V.int
  | _, [], .nil => rfl
  | _, n :: ns, .cons h a => by
    cases h
    rw [List.map_cons, Rps.ints a]
theorem Rps.bools {G : Hp} : ∀ {vs : List V} {bs : List Bool}, Rps K G vs (bs.map PyData.bool) → vs = bs.map V.bl
  | _, [], .nil => rfl
  | _, n :: ns, .cons h a => by
    cases h
    rw [List.map_cons, Rps.bools a]
theorem Rps.of_ints {G : Hp} : ∀ (ns : List Int), Rps K G (ns.map V.int) (ns.map PyData.int)
  | [] => .nil
  | _ :: ns => .cons (.int _) (Rps.of_ints ns)
/-- the heap grows: G by new things alone -/
structure Ext (G H G' H' : Hp) : Prop where
  g : Same G G'
  h : Same H H'
  s : Same G' H'
  o : ∀ a u, H a = some u → G' a = G a
theorem Ext.refl {G H : Hp} (s : Same G H) : Ext G H G H := ⟨Same.refl _, Same.refl _, s, fun _ _ _ => rfl⟩
theorem Ext.trans {G H G1 H1 G2 H2 : Hp} (a : Ext G H G1 H1) (b : Ext G1 H1 G2 H2) : Ext G H G2 H2 :=
  ⟨a.g.trans b.g, a.h.trans b.h, b.s, fun x u e => (b.o x u (a.h _ _ e)).trans (a.o x u e)⟩
theorem same_upd {H : Hp} {p : Addr} {o : HO} (h : H p = none) : Same H (upd H p o) := fun b x e => by
  rw [upd_ne (ne_of_none e h)]
  exact e
theorem Same.upd2 {G H : Hp} {p : Addr} {o : HO} (s : Same G H) : Same (upd G p o) (upd H p o) := fun b x e => by
  by_cases q : b = p
  · subst q
    rw [upd_same] at e ⊢
    exact e
  · rw [upd_ne q] at e ⊢
    exact s _ _ e
theorem Ext.new {G H : Hp} {p : Addr} {o : HO} (s : Same G H) (n : H p = none) : Ext G H (upd G p o) (upd H p o) :=
  ⟨same_upd (s.free n), same_upd n, Same.upd2 s, fun a u e => upd_ne (ne_of_none e n)⟩
/-- a new thing that is no data (yet) -/
theorem Ext.junk {G H : Hp} {p : Addr} {o : HO} (s : Same G H) (n : H p = none) : Ext G H G (upd H p o) :=
  ⟨Same.refl _, same_upd n, s.trans (same_upd n), fun a u e => rfl⟩
/-- a cell's content, at its address -/
def CellOk (K : PySem.W.Frag) (G H : Hp) (a : Addr) : Cell → Prop
  | .lst fz ds => ∃ xs, H a = some (.lst xs) ∧ Rps K G xs ds ∧ xs.length ≤ sizeLine ∧ (match fz with
    | true => G a = some (.lst xs)
    | false => G a = none)
theorem CellOk.ext {G H G' H' : Hp} {a : Addr} {c : Cell} (e : Ext G H G' H') (h : CellOk K G H a c) : CellOk K G' H' a c := by
  cases c with
  | lst fz ds =>
    obtain ⟨xs, h1, h2, hz, h3⟩ := h
    refine ⟨xs, e.h _ _ h1, Rps.mono e.g h2, hz, ?_⟩
    cases fz with
    | true => exact e.g _ _ h3
    | false => exact (e.o _ _ h1).trans h3
/-- the state: G what is data, ca where the cells stand -/
structure HM (K : PySem.W.Frag) (P : Hp) (ca : List Addr) (G H : Hp) (st : Store) : Prop where
  sub : Same G H
  len : ca.length = st.length
  nd : ca.Nodup
  cell : ∀ (i : Nat) (a : Addr) (c : Cell), ca[i]? = some a → st[i]? = some c → CellOk K G H a c
  prot : Same P H
  pdis : ∀ a ∈ ca, P a = none
  pg : ∀ a u, P a = some u → G a = none
theorem HM.ext {P : Hp} {ca : List Addr} {G H G' H' : Hp} {st : Store} (h : HM K P ca G H st) (e : Ext G H G' H') : HM K P ca G' H' st :=
  ⟨e.s, h.len, h.nd, fun i a c e1 e2 => (h.cell i a c e1 e2).ext e, h.prot.trans e.h, h.pdis, fun a u q => (e.o a u (h.prot _ _ q)).trans (h.pg a u q)⟩
def RW (K : PySem.W.Frag) (ca : List Addr) (G : Hp) (v : V) : W → Prop
  | .d x => Rp K G v x
  | .m i => ∃ a, ca[i]? = some a ∧ v = .ref a
inductive RWs (K : PySem.W.Frag) (ca : List Addr) (G : Hp) : List V → List W → Prop where
  | nil : RWs K ca G [] []
  | cons {v : V} {w : W} {vs : List V} {ws : List W} : RW K ca G v w → RWs K ca G vs ws → RWs K ca G (v :: vs) (w :: ws)
structure Nxt (ca : List Addr) (G : Hp) (ca' : List Addr) (G' : Hp) : Prop where
  s : Same G G'
  p : ca <+: ca'
theorem Nxt.refl {ca : List Addr} {G : Hp} : Nxt ca G ca G := ⟨Same.refl _, List.prefix_refl _⟩
theorem Nxt.trans {ca ca1 ca2 : List Addr} {G G1 G2 : Hp} (a : Nxt ca G ca1 G1) (b : Nxt ca1 G1 ca2 G2) : Nxt ca G ca2 G2 := ⟨a.s.trans b.s, a.p.trans b.p⟩
theorem Nxt.of {ca : List Addr} {G G' : Hp} (s : Same G G') : Nxt ca G ca G' := ⟨s, List.prefix_refl _⟩
theorem prefix_get {α : Type} {l l' : List α} {i : Nat} {a : α} (p : l <+: l') (h : l[i]? = some a) : l'[i]? = some a := by
  obtain ⟨t, rfl⟩ := p
  rw [List.getElem?_append_left (List.getElem?_eq_some_iff.mp h).1]
  exact h
theorem RW.mono {ca ca' : List Addr} {G G' : Hp} (n : Nxt ca G ca' G') {v : V} : ∀ {w : W}, RW K ca G v w → RW K ca' G' v w
  | .d _, h => Rp.mono n.s h
  | .m _, ⟨a, e, r⟩ => ⟨a, prefix_get n.p e, r⟩
theorem RWs.mono {ca ca' : List Addr} {G G' : Hp} (n : Nxt ca G ca' G') : ∀ {vs : List V} {ws : List W}, RWs K ca G vs ws → RWs K ca' G' vs ws
  | _, _, .nil => .nil
  | _, _, .cons h a => .cons (RW.mono n h) (RWs.mono n a)
theorem RWs.length {ca : List Addr} {G : Hp} : ∀ {vs : List V} {ws : List W}, RWs K ca G vs ws → vs.length = ws.length
  | _, _, .nil => rfl
  | _, _, .cons _ a => by rw [List.length_cons, List.length_cons, RWs.length a]
theorem RWs.get {ca : List Addr} {G : Hp} : ∀ {vs : List V} {ws : List W} {i : Nat} {w : W}, RWs K ca G vs ws → ws[i]? = some w → ∃ v, vs[i]? = some v ∧ RW K ca G v w
  | _, _, i, _, .nil, h => by cases i <;> cases h
  | _, _, 0, _, .cons h _, e => by cases e; exact ⟨_, rfl, h⟩
  | _, _, i + 1, _, .cons _ a, e => RWs.get (i := i) a (by simpa using e)
/-- all are data -/
def allD : List W → Option (List D)
  | [] => some []
  | .d x :: ws => (allD ws).map (x :: ·)
  | .m _ :: _ => none
theorem RWs.dps {ca : List Addr} {G : Hp} : ∀ {vs : List V} {ws : List W} {ds : List D}, RWs K ca G vs ws → allD ws = some ds → Rps K G vs ds
  | _, _, _, .nil, h => by cases h; exact .nil
  | _, _, _, .cons (w := .m _) _ _, h => by cases h
  | _, _, _, .cons (w := .d x) (ws := ws) h a, e => by
    cases q : allD ws with
    | none => simp [allD, q] at e
    | some es =>
      simp [allD, q] at e
      subst e
      exact .cons h (RWs.dps a q)
/-- the slots -/
structure SlOk (K : PySem.W.Frag) (ca : List Addr) (G : Hp) (σ : L2.St) (sl : Sl) : Prop where
  len : σ.length = sl.length
  at_ : ∀ (i : Nat) (w : W), sl[i]? = some (some w) → ∃ v, σ[i]? = some (some v) ∧ RW K ca G v w
theorem SlOk.mono {ca ca' : List Addr} {G G' : Hp} {σ : L2.St} {sl : Sl} (n : Nxt ca G ca' G') (h : SlOk K ca G σ sl) : SlOk K ca' G' σ sl :=
  ⟨h.len, fun i w e => let ⟨v, e1, r⟩ := h.at_ i w e; ⟨v, e1, RW.mono n r⟩⟩
theorem SlOk.set {ca : List Addr} {G : Hp} {σ : L2.St} {sl : Sl} {v : V} {w : W} (h : SlOk K ca G σ sl) (i : Nat) (r : RW K ca G v w) : SlOk K ca G (σ.set i (some v)) (sl.set i (some w)) := by
  refine ⟨by rw [List.length_set, List.length_set, h.len], fun j u e => ?_⟩
  by_cases hj : i = j
  · subst hj
    have hl : i < sl.length := by
      have := (List.getElem?_eq_some_iff.mp e).1
      simpa using this
    rw [List.getElem?_set_self hl] at e
    cases e
    exact ⟨v, by rw [List.getElem?_set_self (by rw [h.len]; exact hl)], r⟩
  · rw [List.getElem?_set_ne hj] at e ⊢
    exact h.at_ j u e
abbrev EM := Sl → Store → Option (W × Store)
abbrev AM := Sl → Store → Option (List W × Store)
abbrev DM := Sl → Store → Option (List D × Store)
def tE (K : PySem.W.Frag) (f : EM) : TE := fun σ H Q => ∃ P ca G sl st w st', HM K P ca G H st ∧ SlOk K ca G σ sl ∧ f sl st = some (w, st') ∧
  ∀ v ca' G' H', Nxt ca G ca' G' → HM K P ca' G' H' st' → RW K ca' G' v w → Q v H'
def tA (K : PySem.W.Frag) (f : AM) : TA := fun σ H Q => ∃ P ca G sl st ws st', HM K P ca G H st ∧ SlOk K ca G σ sl ∧ f sl st = some (ws, st') ∧
  ∀ vs ca' G' H', Nxt ca G ca' G' → HM K P ca' G' H' st' → RWs K ca' G' vs ws → Q vs H'
/-- a value's truth -/
def truD : D → Option Bool
  | .none => some false
  | .bool b => some b
  | .int i => some (i != 0)
  | .str x => if x.length ≤ sizeLine then some ((x.length : Int) != 0) else none
  | .list xs => some !xs.isEmpty
  | .tuple xs => some !xs.isEmpty
  | .dict _ => none
def truW : W → Option Bool
  | .d x => truD x
  | .m _ => none
def tT (K : PySem.W.Frag) (f : EM) : TT := fun σ H Q => ∃ P ca G sl st w st' b, HM K P ca G H st ∧ SlOk K ca G σ sl ∧ f sl st = some (w, st') ∧ truW w = some b ∧
  ∀ ca' G' H', Nxt ca G ca' G' → HM K P ca' G' H' st' → Q b H'
inductive Fl where
  | nx | ret (w : W) | bk | ct
abbrev SM := Sl → Store → Option (Fl × Sl × Store)
def EndOk (K : PySem.W.Frag) (P : Hp) (D : Ends) (ca : List Addr) (G : Hp) (sl' : Sl) (st' : Store) : Fl → Prop
  | .nx => ∀ σ' ca' G' H', Nxt ca G ca' G' → HM K P ca' G' H' st' → SlOk K ca' G' σ' sl' → D.nx σ' H'
  | .bk => ∀ σ' ca' G' H', Nxt ca G ca' G' → HM K P ca' G' H' st' → SlOk K ca' G' σ' sl' → D.bk σ' H'
  | .ct => ∀ σ' ca' G' H', Nxt ca G ca' G' → HM K P ca' G' H' st' → SlOk K ca' G' σ' sl' → D.ct σ' H'
  | .ret w => ∀ v ca' G' H', Nxt ca G ca' G' → HM K P ca' G' H' st' → RW K ca' G' v w → D.rt v H'
def tS (K : PySem.W.Frag) (g : SM) : TS := fun D σ H => ∃ P ca G sl st fl sl' st', HM K P ca G H st ∧ SlOk K ca G σ sl ∧ g sl st = some (fl, sl', st') ∧ EndOk K P D ca G sl' st' fl
/-- a target: the heap stays, and all slots but ws -/
abbrev GM := D → Sl → Option Sl
def tG (K : PySem.W.Frag) (g : GM) (ws : List Nat) : TG := fun v σ H Q => ∃ P ca G sl st d sl', HM K P ca G H st ∧ SlOk K ca G σ sl ∧ Rp K G v d ∧ g d sl = some sl' ∧ ∀ σ', SlOk K ca G σ' sl' → σ'.length = σ.length → (∀ j, j ∉ ws → σ'[j]? = σ[j]?) → Q σ' H
def tGs (K : PySem.W.Frag) (g : List D → Sl → Option Sl) (ws : List Nat) : TGs := fun vs σ H Q => ∃ P ca G sl st ds sl', HM K P ca G H st ∧ SlOk K ca G σ sl ∧ Rps K G vs ds ∧ g ds sl = some sl' ∧ ∀ σ', SlOk K ca G σ' sl' → σ'.length = σ.length → (∀ j, j ∉ ws → σ'[j]? = σ[j]?) → Q σ' H
/-- an iterator yields these -/
def JOk (K : PySem.W.Frag) (J : It) (G : Hp) (ds : List D) : Prop := ∀ (i : Nat) (P : Hp) (ca : List Addr) (Gc H : Hp) (st : Store), Same G Gc → HM K P ca Gc H st →
  (∀ d, ds[i]? = some d → J.go i H ∧ ∀ x H', J.yld i H x H' → ∃ G', Ext Gc H G' H' ∧ Rp K G' x d) ∧ (ds.length ≤ i → J.stop i H)
def tI (K : PySem.W.Frag) (f : DM) : TI := fun σ H R => ∃ P ca G sl st ds st', HM K P ca G H st ∧ SlOk K ca G σ sl ∧ f sl st = some (ds, st') ∧
  ∀ J ca' G' H', Nxt ca G ca' G' → HM K P ca' G' H' st' → JOk K J G' ds → R J H'
end
section
variable {X : Cx}
theorem _root_.L2.PE.weak {e : Expr} {t t' : TE} (h : PE X e t) (w : ∀ σ H Q, t' σ H Q → t σ H Q) : PE X e t' := ⟨fun pins s σ H Q I q => h.run pins s σ H Q I (w _ _ _ q)⟩
theorem _root_.L2.PT.weak {e : Expr} {t t' : TT} (h : PT X e t) (w : ∀ σ H Q, t' σ H Q → t σ H Q) : PT X e t' := ⟨fun pins s σ H Q I q => h.run pins s σ H Q I (w _ _ _ q)⟩
theorem _root_.L2.PW.weak {e : Expr} {t t' : TT} (h : PW X e t) (w : ∀ σ H Q, t' σ H Q → t σ H Q) : PW X e t' := ⟨fun wh pins s σ H Q I q => h.run wh pins s σ H Q I (w _ _ _ q)⟩
theorem _root_.L2.PA.weak {es : List Expr} {t t' : TA} (h : PA X es t) (w : ∀ σ H Q, t' σ H Q → t σ H Q) : PA X es t' := ⟨fun pos pins s σ H Q I q => h.run pos pins s σ H Q I (w _ _ _ q)⟩
theorem _root_.L2.PS.weak {s : Stmt} {t t' : TS} (h : PS X s t) (w : ∀ D σ H, t' D σ H → t D σ H) : PS X s t' := ⟨fun pins s σ H D I q => h.run pins s σ H D I (w _ _ _ q)⟩
theorem _root_.L2.PSs.weak {s : List Stmt} {t t' : TS} (h : PSs X s t) (w : ∀ D σ H, t' D σ H → t D σ H) : PSs X s t' := ⟨fun pins s σ H D I q => h.run pins s σ H D I (w _ _ _ q)⟩
theorem _root_.L2.PG.weak {e : Expr} {t t' : TG} (h : PG X e t) (w : ∀ v σ H Q, t' v σ H Q → t v σ H Q) : PG X e t' := ⟨fun pins s σ H v u Q I r q => h.run pins s σ H v u Q I r (w _ _ _ _ q)⟩
theorem _root_.L2.PGs.weak {es : List Expr} {t t' : TGs} (h : PGs X es t) (w : ∀ v σ H Q, t' v σ H Q → t v σ H Q) : PGs X es t' := ⟨fun pins s σ H v u Q I r q => h.run pins s σ H v u Q I r (w _ _ _ _ q)⟩
theorem _root_.L2.PI.weak {tg e : Expr} {t t' : TI} (h : PI X tg e t) (w : ∀ σ H Q, t' σ H Q → t σ H Q) : PI X tg e t' := ⟨fun pins s σ H Q I q => h.run pins s σ H Q I (w _ _ _ q)⟩
end
end WM
namespace WM
open PySem PySem.Spec PyProof.Rows L2
/-- the most bits an int may have here -/
def BIG : Nat := 2 ^ 4096
def mulOk (i j : Int) : Bool := decide (i.natAbs < 2 ^ 64) || (decide (j.natAbs < 2 ^ 64) || (decide (i.natAbs < BIG) && decide (j.natAbs < BIG)))
def divOk (j : Int) : Bool := decide (j ≠ 0) && decide (j.natAbs < BIG)
def flatten' {α : Type} (n : Nat) (xs : List α) : List α := (List.replicate n xs).flatten
def shp (d : D) : Bool := SeqAt.shaped d
noncomputable def binD (op : Operator) (x y : D) : Option D := match op with
  | .Add => (match x, y with
    | .int i, .int j => some (.int (i + j))
    | .list xs, .list ys => if xs.length + ys.length ≤ sizeLine then some (.list (xs ++ ys)) else none
    | .tuple xs, .tuple ys => if xs.length + ys.length ≤ sizeLine then some (.tuple (xs ++ ys)) else none
    | .str x, .str y => if x.length + y.length ≤ sizeLine then some (.str (x ++ y)) else none
    | _, _ => none)
  | .Sub => (match x, y with
    | .int i, .int j => some (.int (i - j))
    | _, _ => none)
  | .Mult => (match x, y with
    | .int i, .int j => if mulOk i j then some (.int (i * j)) else none
    | .list xs, .int k => @ite _ (k < 2 ^ 62 ∧ -(2 ^ 62) ≤ k ∧ xs.length * k.toNat ≤ sizeLine) (Classical.propDecidable _) (some (.list (flatten' k.toNat xs))) none
    | .tuple xs, .int k => @ite _ (xs ≠ [] ∧ 2 ≤ k ∧ k ≤ 1000 ∧ xs.length ≤ 1000) (Classical.propDecidable _) (some (.tuple (flatten' k.toNat xs))) none
    | _, _ => none)
  | .FloorDiv => (match x, y with
    | .int i, .int j => if divOk j then some (.int (i.fdiv j)) else none
    | _, _ => none)
  | .Mod => (match x, y with
    | .int i, .int j => if j = 0 then none else some (.int (i.fmod j))
    | _, _ => none)
  | .Pow => (match x, y with
    | .int i, .int j => @ite _ (0 ≤ j ∧ j ≤ 1000000 ∧ i.natAbs < 2 ^ 64) (Classical.propDecidable _) (some (.int (i ^ j.toNat))) none
    | _, _ => none)
  | .LShift => (match x, y with
    | .int i, .int j => @ite _ (0 ≤ j ∧ j ≤ 1000000 ∧ i.natAbs < 2 ^ 64) (Classical.propDecidable _) (some (.int (i * 2 ^ j.toNat))) none
    | _, _ => none)
  | .RShift => (match x, y with
    | .int i, .int j => if 0 ≤ j then some (.int (i / 2 ^ j.toNat)) else none
    | _, _ => none)
  | .BitAnd => (match x, y with
    | .int i, .int j => some (.int (Builtin.bitAnd i j))
    | _, _ => none)
  | .BitOr => (match x, y with
    | .int i, .int j => some (.int (Builtin.bitOr i j))
    | _, _ => none)
  | _ => none
def cmpD (op : CmpOp) (x y : D) : Option Bool := match op with
  | .Eq => if shp x && shp y then some (PyData.eqv x y) else none
  | .NotEq => if shp x && shp y then some (!PyData.eqv x y) else none
  | .Lt => (match x, y with
    | .int i, .int j => some (decide (i < j))
    | _, _ => none)
  | .LtE => (match x, y with
    | .int i, .int j => some (decide (i ≤ j))
    | _, _ => none)
  | .Gt => (match x, y with
    | .int i, .int j => some (decide (j < i))
    | _, _ => none)
  | .GtE => (match x, y with
    | .int i, .int j => some (decide (j ≤ i))
    | _, _ => none)
  | .Is => (match x, y with
    | .none, .none => some true
    | _, .none => some false
    | .bool a, .bool b => some (a == b)
    | _, _ => none)
  | .IsNot => (match x, y with
    | .none, .none => some false
    | _, .none => some true
    | .bool a, .bool b => some !(a == b)
    | _, _ => none)
  | .In => (match y with
    | .list ys => if shp x && shp (.list ys) then some (ys.any fun z => PyData.eqv z x) else none
    | .tuple ys => if shp x && shp (.tuple ys) then some (ys.any fun z => PyData.eqv z x) else none
    | _ => none)
  | .NotIn => (match y with
    | .list ys => if shp x && shp (.list ys) then some !(ys.any fun z => PyData.eqv z x) else none
    | .tuple ys => if shp x && shp (.tuple ys) then some !(ys.any fun z => PyData.eqv z x) else none
    | _ => none)
def negD : D → Option D
  | .int i => some (.int (-i))
  | _ => none
def ixD (x y : D) : Option D := match x, y with
  | .list xs, .int i => atI xs i
  | .tuple xs, .int i => atI xs i
  | _, _ => none
def cutD (xs : List D) (lo hi : Option Int) : List D := (xs.drop (HT.sIx xs.length 0 lo)).take (HT.sIx xs.length xs.length hi - HT.sIx xs.length 0 lo)
def slD (x : D) (lo hi : Option Int) : Option D := match x with
  | .list xs => some (.list (cutD xs lo hi))
  | .tuple xs => some (.tuple (cutD xs lo hi))
  | _ => none
theorem big_log {x : Int} (h : x.natAbs < BIG) : x.natAbs.log2 < 4096 := PySem.Flt.log2_lt_of (by decide) h
theorem mulOk_ok {i j : Int} (h : mulOk i j = true) : IntMulOk i j := by
  unfold mulOk at h
  rw [Bool.or_eq_true, Bool.or_eq_true, Bool.and_eq_true] at h
  rcases h with h | h | ⟨h1, h2⟩
  · have h := of_decide_eq_true h
    exact .of_left (intBits_le_64 (by omega) (by omega))
  · have h := of_decide_eq_true h
    exact .of_right (intBits_le_64 (by omega) (by omega))
  · have a := big_log (of_decide_eq_true h1)
    have b := big_log (of_decide_eq_true h2)
    exact CMulW.ok (show _ < _ by omega)
section
variable (K : PySem.W.Frag)
def rD2 (g : D → D → Option D) : R2 := fun x y H Q => ∃ G dx dy d, Same G H ∧ Rp K G x dx ∧ Rp K G y dy ∧ g dx dy = some d ∧ ∀ v G' H', Ext G H G' H' → Rp K G' v d → Q v H'
def rD1 (g : D → Option D) : V → Hp → VK → Prop := fun x H Q => ∃ G dx d, Same G H ∧ Rp K G x dx ∧ g dx = some d ∧ ∀ v G' H', Ext G H G' H' → Rp K G' v d → Q v H'
def rDs (g : List D → Option D) : List V → Hp → VK → Prop := fun xs H Q => ∃ G ds d, Same G H ∧ Rps K G xs ds ∧ g ds = some d ∧ ∀ v G' H', Ext G H G' H' → Rp K G' v d → Q v H'
end
section
variable {X : Cx}
theorem _root_.L2.OpR.weak {f : Value → Value → Sem Value} {r r' : R2} (h : OpR X f r) (w : ∀ x y H Q, r' x y H Q → r x y H Q) : OpR X f r' := fun pins s σ H x y v u Q I rx ry q => h pins s σ H x y v u Q I rx ry (w _ _ _ _ q)
theorem _root_.L2.CallR.weak {f : Value} {r r' : List V → Hp → VK → Prop} (h : CallR X f r) (w : ∀ xs H Q, r' xs H Q → r xs H Q) : CallR X f r' := fun pins s σ H xs us Q I rs q => h pins s σ H xs us Q I rs (w _ _ _ q)
theorem op_fdivB : OpR X (binaryOp .FloorDiv) (rI (fun _ j => divOk j = true) fun i j => .int (i.fdiv j)) := opI fun i j _ _ _ _ _ hc q => by
  unfold divOk at hc
  rw [Bool.and_eq_true] at hc
  have h1 := of_decide_eq_true hc.1
  have h2 := big_log (of_decide_eq_true hc.2)
  exact floordiv_int h1 q (.inl (PyProof.noPylong_of_log2 (by omega)))
theorem op_mulB : OpR X (binaryOp .Mult) (rI (fun i j => mulOk i j = true) fun i j => .int (i * j)) := opI fun _ _ _ _ _ _ _ hc q => mul_int q (mulOk_ok hc)
end
section
variable {X : Cx}
theorem Rp.int_inv {K : PySem.W.Frag} {G : Hp} {v : V} {i : Int} (h : Rp K G v (.int i)) : v = .int i := by cases h; rfl
theorem Rp.bool_inv {K : PySem.W.Frag} {G : Hp} {v : V} {b : Bool} (h : Rp K G v (.bool b)) : v = .bl b := by cases h; rfl
theorem Rp.none_inv {K : PySem.W.Frag} {G : Hp} {v : V} (h : Rp K G v .none) : v = .non := by cases h; rfl
theorem Rp.str_inv {K : PySem.W.Frag} {G : Hp} {v : V} {x : Str} (h : Rp K G v (.str x)) : v = .str x := by cases h; rfl
theorem Rp.list_inv {K : PySem.W.Frag} {G : Hp} {v : V} {ds : List D} (h : Rp K G v (.list ds)) : ∃ a xs, v = .ref a ∧ G a = some (.lst xs) ∧ Rps K G xs ds := by
  cases h with
  | lst h a => exact ⟨_, _, rfl, h, a⟩
theorem Rp.tuple_inv {K : PySem.W.Frag} {G : Hp} {v : V} {ds : List D} (h : Rp K G v (.tuple ds)) : ∃ a xs, v = .ref a ∧ SqT K G a xs ∧ Rps K G xs ds := by
  cases h with
  | tup h a => exact ⟨_, _, rfl, h, a⟩
theorem Rp.lnew {K : PySem.W.Frag} {G : Hp} {p : Addr} {xs : List V} {ds : List D} (n : G p = none) (a : Rps K G xs ds) : Rp K (upd G p (.lst xs)) (.ref p) (.list ds) :=
  .lst upd_same (Rps.mono (same_upd n) a)
theorem Rp.tnew {K : PySem.W.Frag} {G : Hp} {p : Addr} {xs : List V} {ds : List D} (n : G p = none) (a : Rps K G xs ds) : Rp K (upd G p (.tup xs)) (.ref p) (.tuple ds) :=
  .tup (SqT.of upd_same) (Rps.mono (same_upd n) a)
theorem Rps.flat {K : PySem.W.Frag} {G : Hp} {xs : List V} {ds : List D} (a : Rps K G xs ds) : ∀ n : Nat, Rps K G (List.replicate n xs).flatten (flatten' n ds)
  | 0 => .nil
  | n + 1 => by
    show Rps K G (xs ++ (List.replicate n xs).flatten) (ds ++ (List.replicate n ds).flatten)
    exact Rps.append a (Rps.flat a n)
theorem Rps.nil_iff {K : PySem.W.Frag} {G : Hp} {xs : List V} {ds : List D} (a : Rps K G xs ds) : xs = [] ↔ ds = [] := by
  cases a with
  | nil => simp
  | cons _ _ => simp
theorem Dp.of {K : PySem.W.Frag} {G H : Hp} {v : V} {d : D} (e : Same G H) (h : Rp K G v d) : Dp K H v d := (Rp.mono e h).dp
theorem op_binD (op : Operator) : OpR X (binaryOp op) (rD2 X.K (binD op)) := by
  intro pins s σ H x y v u Q I rx ry h
  obtain ⟨G, dx, dy, d, sG, hx, hy, e, q⟩ := h
  have forI : ∀ {C : Int → Int → Prop} {g : Int → Int → Int} {i j : Int}, OpR X (binaryOp op) (rI C fun i j => .int (g i j)) → dx = .int i → dy = .int j → C i j → d = .int (g i j) → wpAny (model X.prog X.w) X.A (binaryOp op v u) (EP X pins σ Q) X.xe s := by
    intro C g i j ho e1 e2 hc e3
    subst e1 e2 e3
    refine ho pins s σ H x y v u Q I rx ry ⟨i, j, hx.int_inv, hy.int_inv, hc, q _ _ _ (Ext.refl sG) (.int _)⟩
  have forI0 : ∀ {g : Int → Int → Int} {i j : Int}, OpR X (binaryOp op) (rI0 fun i j => .int (g i j)) → dx = .int i → dy = .int j → d = .int (g i j) → wpAny (model X.prog X.w) X.A (binaryOp op v u) (EP X pins σ Q) X.xe s := by
    intro g i j ho e1 e2 e3
    subst e1 e2 e3
    refine ho pins s σ H x y v u Q I rx ry ⟨i, j, hx.int_inv, hy.int_inv, q _ _ _ (Ext.refl sG) (.int _)⟩
  cases op with
  | Add =>
    unfold binD at e
    simp only at e
    split at e
    · cases e
      exact forI0 op_add rfl rfl rfl
    · split at e
      · rename_i xs ys hz
        cases e
        obtain ⟨a, vs, rfl, h1, a1⟩ := hx.list_inv
        obtain ⟨b, ws, rfl, h2, a2⟩ := hy.list_inv
        refine op_cat pins s σ H _ _ v u Q I rx ry ⟨a, b, vs, ws, rfl, rfl, sG _ _ h1, sG _ _ h2, ?_, fun p n => q _ _ _ (Ext.new sG n) (Rp.lnew (sG.free n) (Rps.append a1 a2))⟩
        rw [a1.length, a2.length]
        exact hz
      · cases e
    · split at e
      · rename_i xs ys hz
        cases e
        obtain ⟨a, vs, rfl, h1, a1⟩ := hx.tuple_inv
        obtain ⟨b, ws, rfl, h2, a2⟩ := hy.tuple_inv
        refine op_catA pins s σ H _ _ v u Q I rx ry ⟨a, b, vs, ws, rfl, rfl, SqT.mono sG h1, SqT.mono sG h2, ?_, fun e0 => ?_, fun _ e0 => ?_, fun _ _ p n => q _ _ _ (Ext.new sG n) (Rp.tnew (sG.free n) (Rps.append a1 a2))⟩
        · rw [a1.length, a2.length]
          exact hz
        · have e1 := a1.nil_iff.mp e0
          subst e1
          exact q _ _ _ (Ext.refl sG) (by rw [List.nil_append]; exact hy)
        · have e1 := a2.nil_iff.mp e0
          subst e1
          exact q _ _ _ (Ext.refl sG) (by rw [List.append_nil]; exact hx)
      · cases e
    · split at e
      · rename_i z1 z2 hz
        cases e
        refine op_add_str pins s σ H _ _ v u Q I rx ry ⟨_, _, hx.str_inv, hy.str_inv, hz, q _ _ _ (Ext.refl sG) (.str _)⟩
      · cases e
    · cases e
  | Sub =>
    unfold binD at e
    simp only at e
    split at e
    · cases e
      exact forI0 op_sub rfl rfl rfl
    · cases e
  | Mult =>
    unfold binD at e
    simp only at e
    split at e
    · split at e
      · rename_i hz
        cases e
        exact forI op_mulB rfl rfl hz rfl
      · cases e
    · split at e
      · rename_i xs k hz
        cases e
        obtain ⟨a, vs, rfl, h1, a1⟩ := hx.list_inv
        refine op_rep pins s σ H _ _ v u Q I rx ry ⟨a, k, vs, rfl, hy.int_inv, sG _ _ h1, by omega, by omega, ?_, fun p n => q _ _ _ (Ext.new sG n) (Rp.lnew (sG.free n) (a1.flat _))⟩
        rw [a1.length]
        exact hz.2.2
      · cases e
    · split at e
      · rename_i xs k hz
        cases e
        obtain ⟨a, vs, rfl, h1, a1⟩ := hx.tuple_inv
        refine op_repT pins s σ H _ _ v u Q I rx ry ⟨a, k, vs, rfl, hy.int_inv, SqT.mono sG h1, fun e0 => hz.1 (a1.nil_iff.mp e0), hz.2.1, hz.2.2.1, ?_, fun p n => q _ _ _ (Ext.new sG n) (Rp.tnew (sG.free n) (a1.flat _))⟩
        rw [a1.length]
        exact hz.2.2.2
      · cases e
    · cases e
  | FloorDiv =>
    unfold binD at e
    simp only at e
    split at e
    · split at e
      · rename_i hz
        cases e
        exact forI op_fdivB rfl rfl hz rfl
      · cases e
    · cases e
  | Mod =>
    unfold binD at e
    simp only at e
    split at e
    · split at e
      · cases e
      · rename_i hz
        cases e
        exact forI op_modN rfl rfl hz rfl
    · cases e
  | Pow =>
    unfold binD at e
    simp only at e
    split at e
    · split at e
      · rename_i hz
        cases e
        exact forI op_pow rfl rfl hz rfl
      · cases e
    · cases e
  | LShift =>
    unfold binD at e
    simp only at e
    split at e
    · split at e
      · rename_i hz
        cases e
        exact forI op_shl rfl rfl hz rfl
      · cases e
    · cases e
  | RShift =>
    unfold binD at e
    simp only at e
    split at e
    · split at e
      · rename_i hz
        cases e
        exact forI op_shr rfl rfl hz rfl
      · cases e
    · cases e
  | BitAnd =>
    unfold binD at e
    simp only at e
    split at e
    · cases e
      exact forI0 op_and rfl rfl rfl
    · cases e
  | BitOr =>
    unfold binD at e
    simp only at e
    split at e
    · cases e
      exact forI0 op_or rfl rfl rfl
    · cases e
  | _ => cases e
def rC (K : PySem.W.Frag) (g : D → D → Option Bool) : R2 := fun x y H Q => ∃ G dx dy b, Same G H ∧ Rp K G x dx ∧ Rp K G y dy ∧ g dx dy = some b ∧ Q (.bl b) H
theorem op_cmpD (hu : X.A.units + 65 < cLine) (op : CmpOp) : OpR X (compareOp op) (rC X.K (cmpD op)) := by
  intro pins s σ H x y v u Q I rx ry h
  obtain ⟨G, dx, dy, b, sG, hx, hy, e, q⟩ := h
  have hu2 : X.A.units + 64 < cLine := by omega
  have forI : ∀ {g : Int → Int → Bool} {i j : Int}, OpR X (compareOp op) (rI0 fun i j => .bl (g i j)) → dx = .int i → dy = .int j → b = g i j → wpAny (model X.prog X.w) X.A (compareOp op v u) (EP X pins σ Q) X.xe s := by
    intro g i j ho e1 e2 e3
    subst e1 e2 e3
    exact ho pins s σ H x y v u Q I rx ry ⟨i, j, hx.int_inv, hy.int_inv, q⟩
  have isn : ∀ {d : D}, Rp X.K G x d → (decide (x = .non)) = (match d with | .none => true | _ => false) := by
    intro d hd
    cases hd <;> simp
  cases op with
  | Eq =>
    unfold cmpD at e
    simp only at e
    split at e
    · rename_i hz
      rw [Bool.and_eq_true] at hz
      cases e
      exact op_eqD hu2 pins s σ H x y v u Q I rx ry ⟨dx, dy, Dp.of sG hx, Dp.of sG hy, hz.1, hz.2, q⟩
    · cases e
  | NotEq =>
    unfold cmpD at e
    simp only at e
    split at e
    · rename_i hz
      rw [Bool.and_eq_true] at hz
      cases e
      exact op_neD hu2 pins s σ H x y v u Q I rx ry ⟨dx, dy, Dp.of sG hx, Dp.of sG hy, hz.1, hz.2, q⟩
    · cases e
  | Lt =>
    unfold cmpD at e
    simp only at e
    split at e
    · cases e
      exact forI op_lt rfl rfl rfl
    · cases e
  | LtE =>
    unfold cmpD at e
    simp only at e
    split at e
    · cases e
      exact forI op_le rfl rfl rfl
    · cases e
  | Gt =>
    unfold cmpD at e
    simp only at e
    split at e
    · cases e
      exact forI op_gt rfl rfl rfl
    · cases e
  | GtE =>
    unfold cmpD at e
    simp only at e
    split at e
    · cases e
      exact forI op_ge rfl rfl rfl
    · cases e
  | Is =>
    unfold cmpD at e
    simp only at e
    split at e
    · cases e
      exact op_isN pins s σ H x y v u Q I rx ry ⟨hy.none_inv, by rw [isn hx]; exact q⟩
    · rename_i hn
      cases e
      refine op_isN pins s σ H x y v u Q I rx ry ⟨hy.none_inv, ?_⟩
      rw [isn hx]
      split
      · exact absurd rfl hn
      · exact q
    · cases e
      exact op_is_bl pins s σ H x y v u Q I rx ry ⟨_, _, hx.bool_inv, hy.bool_inv, by rw [← Bool.beq_eq_decide_eq]; exact q⟩
    · cases e
  | IsNot =>
    unfold cmpD at e
    simp only at e
    split at e
    · cases e
      exact op_notN pins s σ H x y v u Q I rx ry ⟨hy.none_inv, by rw [isn hx]; exact q⟩
    · rename_i hn
      cases e
      refine op_notN pins s σ H x y v u Q I rx ry ⟨hy.none_inv, ?_⟩
      rw [isn hx]
      split
      · exact absurd rfl hn
      · exact q
    · cases e
      exact op_isnot_bl pins s σ H x y v u Q I rx ry ⟨_, _, hx.bool_inv, hy.bool_inv, by rw [← Bool.beq_eq_decide_eq]; exact q⟩
    · cases e
  | In =>
    unfold cmpD at e
    simp only at e
    split at e
    · split at e
      · rename_i hz
        rw [Bool.and_eq_true] at hz
        cases e
        exact op_inD hu pins s σ H x y v u Q I rx ry ⟨dx, _, Dp.of sG hx, Dp.of sG hy, hz.1, hz.2, q⟩
      · cases e
    · split at e
      · rename_i hz
        rw [Bool.and_eq_true] at hz
        cases e
        obtain ⟨as, r1⟩ := Dp.reads I dx x v (Dp.of sG hx) rx
        obtain ⟨bs, r2⟩ := Dp.reads I _ y u (Dp.of sG hy) ry
        exact SeqAt.in_tuple_reads r2 r1 (SeqAt.canLay_of_shaped (d := .tuple _) hz.2) (SeqAt.canLay_of_shaped hz.1) (room_in_shaped (show SeqAt.shaped dx = true from hz.1) hu) ⟨.bl _, H, I, rfl, q⟩
      · cases e
    · cases e
  | NotIn =>
    unfold cmpD at e
    simp only at e
    split at e
    · split at e
      · rename_i hz
        rw [Bool.and_eq_true] at hz
        cases e
        exact op_notInD hu pins s σ H x y v u Q I rx ry ⟨dx, _, Dp.of sG hx, Dp.of sG hy, hz.1, hz.2, q⟩
      · cases e
    · split at e
      · rename_i hz
        rw [Bool.and_eq_true] at hz
        cases e
        obtain ⟨as, r1⟩ := Dp.reads I dx x v (Dp.of sG hx) rx
        obtain ⟨bs, r2⟩ := Dp.reads I _ y u (Dp.of sG hy) ry
        exact SeqAt.notIn_tuple_reads r2 r1 (SeqAt.canLay_of_shaped (d := .tuple _) hz.2) (SeqAt.canLay_of_shaped hz.1) (room_in_shaped (show SeqAt.shaped dx = true from hz.1) hu) ⟨.bl _, H, I, rfl, q⟩
      · cases e
    · cases e
theorem un_negD : UnR X (unaryOp .USub) (rD1 X.K negD) := by
  intro pins s σ H x v Q I rx h
  obtain ⟨G, dx, d, sG, hx, e, q⟩ := h
  cases dx with
  | int i =>
    cases e
    exact un_neg pins s σ H x v Q I rx ⟨i, hx.int_inv, q _ _ _ (Ext.refl sG) (.int _)⟩
  | _ => cases e
theorem Rps.atI {K : PySem.W.Frag} {G : Hp} {vs : List V} {ds : List D} {i : Int} {d : D} (a : Rps K G vs ds) (h : atI ds i = some d) : ∃ v, L2.atI vs i = some v ∧ Rp K G v d := by
  unfold L2.atI at h ⊢
  rw [a.length]
  cases e : ixN ds.length i with
  | none => rw [e] at h; cases h
  | some j =>
    rw [e] at h
    exact Rps.get a (show ds[j]? = some d from h)
theorem ix_D : IxR X (rD2 X.K ixD) := by
  intro value slice pins s σ H x y v u Q I rx ry h hs
  obtain ⟨G, dx, dy, d, sG, hx, hy, e, q⟩ := h
  unfold ixD at e
  split at e
  · rename_i xs i
    obtain ⟨a, vs, rfl, h1, a1⟩ := hx.list_inv
    obtain ⟨z, e2, r⟩ := Rps.atI a1 e
    exact ix_list value slice pins s σ H _ _ v u Q I rx ry ⟨a, vs, i, z, rfl, hy.int_inv, SqL.of (sG _ _ h1), e2, q _ _ _ (Ext.refl sG) r⟩ hs
  · rename_i xs i
    obtain ⟨a, vs, rfl, h1, a1⟩ := hx.tuple_inv
    obtain ⟨z, e2, r⟩ := Rps.atI a1 e
    exact ix_tup value slice pins s σ H _ _ v u Q I rx ry ⟨a, vs, i, z, rfl, hy.int_inv, SqT.mono sG h1, e2, q _ _ _ (Ext.refl sG) r⟩ hs
  · cases e
def rSlD (K : PySem.W.Frag) : V → Option Int → Option Int → Hp → VK → Prop := fun x lo hi H Q => ∃ G dx d, Same G H ∧ Rp K G x dx ∧ slD dx lo hi = some d ∧ ∀ v G' H', Ext G H G' H' → Rp K G' v d → Q v H'
theorem Rps.cut {K : PySem.W.Frag} {G : Hp} {vs : List V} {ds : List D} (a : Rps K G vs ds) (lo hi : Option Int) : Rps K G (cutV vs lo hi) (cutD ds lo hi) := by
  unfold cutV cutD
  rw [a.length]
  exact Rps.take _ (Rps.drop _ a)
theorem sl_D : SlR X (rSlD X.K) := by
  intro pins s σ H x v vl vu lo hi sl Q I rx hs pl pu h
  obtain ⟨G, dx, d, sG, hx, e, q⟩ := h
  unfold slD at e
  split at e
  · cases e
    obtain ⟨a, vs, rfl, h1, a1⟩ := hx.list_inv
    exact sl_list pins s σ H _ v vl vu lo hi sl Q I rx hs pl pu ⟨a, vs, rfl, SqL.of (sG _ _ h1), fun p n => q _ _ _ (Ext.new sG n) (Rp.lnew (sG.free n) (Rps.cut a1 _ _))⟩
  · cases e
    obtain ⟨a, vs, rfl, h1, a1⟩ := hx.tuple_inv
    refine sl_tupA pins s σ H _ v vl vu lo hi sl Q I rx hs pl pu ⟨a, vs, rfl, SqT.mono sG h1, fun hw => q _ _ _ (Ext.refl sG) ?_, fun _ p n => q _ _ _ (Ext.new sG n) (Rp.tnew (sG.free n) (Rps.cut a1 _ _))⟩
    rename_i ys
    have ec : cutD ys lo hi = ys := by
      unfold cutD
      rw [← a1.length, hw.1, hw.2, List.drop_zero, Nat.sub_zero, List.take_of_length_le (by rw [a1.length]; exact Nat.le_refl _)]
    rw [ec]
    exact hx
  · cases e
end
end WM
namespace WM
open PySem PySem.Spec PyProof.Rows L2
open PySem.W (alike dataLe dataLt EachIs minD Sortable sorted_data min_list_data alike_unique AlikeAll)
def tup1 : D → Bool
  | .tuple (_ :: _) => true
  | _ => false
def noTup : D → Bool
  | .none => false
  | .tuple _ => false
  | _ => true
def noneB : D → Bool
  | .none => true
  | _ => false
def dpB (xs : List D) : Bool := xs.all fun x => decide (x.depth ≤ 60)
def alB (xs : List D) : Bool := xs.all fun x => xs.all fun y => alike x y
/-- what sorted and min ask of data -/
def sdB (xs : List D) : Bool := alB xs && ((xs.all tup1 || xs.all noTup) && dpB xs)
def mdB (xs : List D) : Bool := alB xs && (xs.all (fun x => !noneB x) && dpB xs)
def srtD (xs : List D) : List D := xs.mergeSort (dataLe false id)
theorem alB_ok {xs : List D} (h : alB xs = true) : ∀ x ∈ xs, ∀ y ∈ xs, alike x y = true := fun x hx y hy => List.all_eq_true.mp (List.all_eq_true.mp h x hx) y hy
theorem dpB_ok {xs : List D} (h : dpB xs = true) : ∀ x ∈ xs, x.depth ≤ 60 := fun x hx => of_decide_eq_true (List.all_eq_true.mp h x hx)
theorem dpB_all : ∀ {xs : List D}, (∀ x ∈ xs, x.depth ≤ 60) → PyData.depthAll xs ≤ 60
  | [], _ => by simp [PyData.depthAll]
  | x :: xs, h => by
    unfold PyData.depthAll
    exact Nat.max_le.mpr ⟨h x (List.mem_cons_self ..), dpB_all fun y hy => h y (List.mem_cons_of_mem _ hy)⟩
section
variable {X : Cx}
theorem each_of {K : PySem.W.Frag} {G : Hp} : ∀ {vs : List V} {us : List Value} {ds : List D}, Vals vs us → Rps K G vs ds → EachIs (fun (u : Value) (d : D) => ∃ x : V, RelV x u ∧ Rp K G x d) us ds
  | _, _, _, .nil, .nil => .nil
  | _, _, _, .cons r rs, .cons h hs => .cons ⟨_, r, h⟩ (each_of rs hs)
theorem of_each {K : PySem.W.Frag} {G : Hp} : ∀ {us : List Value} {ds : List D}, EachIs (fun (u : Value) (d : D) => ∃ x : V, RelV x u ∧ Rp K G x d) us ds → ∃ vs : List V, Vals vs us ∧ Rps K G vs ds
  | _, _, .nil => ⟨[], .nil, .nil⟩
  | _, _, .cons ⟨x, r, h⟩ t => by
    obtain ⟨vs, a, b⟩ := of_each t
    exact ⟨x :: vs, .cons r a, .cons h b⟩
theorem call_sortD (hu : X.A.units + 65 < cLine) : CallR X (.builtin "sorted") (fun vs H Q => ∃ G xs v, Same G H ∧ vs = [v] ∧ Rp X.K G v (.list xs) ∧ sdB xs = true ∧ ∀ v G' H', Ext G H G' H' → Rp X.K G' v (.list (srtD xs)) → Q v H') := by
  intro pins s σ H vs us Q I r h
  obtain ⟨G, xs, v, sG, rfl, h1, hb, q⟩ := h
  obtain ⟨a, ys, rfl, h2, a2⟩ := h1.list_inv
  obtain ⟨u, rfl, ru⟩ := vals1 r
  obtain rfl : u = Value.ref a := ru
  obtain ⟨its, rv, hl, hz⟩ := I.list (SqL.of (sG _ _ h2))
  unfold sdB at hb
  rw [Bool.and_eq_true, Bool.and_eq_true, Bool.or_eq_true] at hb
  obtain ⟨b1, b2, b3⟩ := hb
  have e := each_of rv a2
  have er : EachIs (fun (v : Value) (d : D) => ∃ as, Reads s.heap v (id d) as) its xs := e.mono fun u d ⟨x, r1, r2⟩ => Dp.reads I d x u (Dp.of sG r2) r1
  have hk : Sortable (xs.map id) := by
    rw [List.map_id]
    rcases b2 with b2 | b2
    · refine .inl fun d hd => ?_
      have := List.all_eq_true.mp b2 d hd
      unfold tup1 at this
      split at this
      · exact ⟨_, _, rfl⟩
      · cases this
    · refine .inr fun d hd => ?_
      have := List.all_eq_true.mp b2 d hd
      refine ⟨fun z => ?_, fun zs z => ?_⟩
      · subst z
        cases this
      · subst z
        cases this
  have hlen : its.length = xs.length := e.length
  refine sorted_data (enc := id) (R := fun (u : Value) (d : D) => ∃ x : V, RelV x u ∧ Rp X.K G x d) hl.isList e er (by rw [List.map_id]; exact alB_ok b1) hk (by rw [← a2.length]; exact hz) (fun d hd => ?_) fun out ho eo => ?_
  · have := dpB_ok b3 d hd
    show X.A.units + 2 + d.depth < cLine
    omega
  · obtain ⟨zs, r1, r2⟩ := of_each eo
    obtain ⟨n, hn⟩ := sortedAll_at s.heap its out.toArray
    have hsz : zs.length ≤ sizeLine := by
      rw [r1.length, ho, ← a2.length]
      exact hz
    refine ⟨.ref (s.heap.objs.size + 1), upd H (s.heap.objs.size + 1) (.lst zs), I.laid (t' := s.toks) (fun b o e => sortedAll_old e) (Nat.le_succ _) ⟨hsz, out, n, r1, hn⟩, rfl, ?_⟩
    have hf := I.hok.fresh (Nat.le_succ s.heap.objs.size)
    exact q _ _ _ (Ext.new sG hf) (Rp.lnew (sG.free hf) r2)
theorem minD_mem : ∀ (xs : List D) (x : D), minD x xs ∈ x :: xs
  | [], x => List.mem_cons_self ..
  | y :: ys, x => by
    show minD (if dataLt y x then y else x) ys ∈ _
    have := minD_mem ys (if dataLt y x then y else x)
    rcases List.mem_cons.mp this with e | e
    · rw [e]
      split
      · exact List.mem_cons_of_mem _ (List.mem_cons_self ..)
      · exact List.mem_cons_self ..
    · exact List.mem_cons_of_mem _ (List.mem_cons_of_mem _ e)
theorem each_at {R : Value → D → Prop} : ∀ {us : List Value} {ds : List D} {i : Nat} {u : Value}, EachIs R us ds → us[i]? = some u → ∃ d, d ∈ ds ∧ R u d
  | _, _, i, _, .nil, h => by cases i <;> cases h
  | _, _, 0, _, .cons r _, h => by cases h; exact ⟨_, List.mem_cons_self .., r⟩
  | _, _, i + 1, _, .cons _ t, h => by
    obtain ⟨d, a, b⟩ := each_at (i := i) t (by simpa using h)
    exact ⟨d, List.mem_cons_of_mem _ a, b⟩
theorem call_minD (hc : X.calm = true) (hu : X.A.units + 65 < cLine) : CallR X (.builtin "min") (fun vs H Q => ∃ G x xs v, Same G H ∧ vs = [v] ∧ Rp X.K G v (.list (x :: xs)) ∧ mdB (x :: xs) = true ∧ ∀ v, Rp X.K G v (minD x xs) → Q v H) := by
  intro pins s σ H vs us Q I r h
  obtain ⟨G, x, xs, v, sG, rfl, h1, hb, q⟩ := h
  obtain ⟨a, ys, rfl, h2, a2⟩ := h1.list_inv
  obtain ⟨u, rfl, ru⟩ := vals1 r
  obtain rfl : u = Value.ref a := ru
  obtain ⟨its, rv, hl, hz⟩ := I.list (SqL.of (sG _ _ h2))
  unfold mdB at hb
  rw [Bool.and_eq_true, Bool.and_eq_true] at hb
  obtain ⟨b1, b2, b3⟩ := hb
  have e := each_of rv a2
  obtain ⟨as, ra⟩ := Dp.readsAll I (x :: xs) ys its (Rps.dp (Rps.mono sG a2)) rv
  have hd := dpB_all (dpB_ok b3)
  refine min_list_data (I.ok.hd hc) hl.isList ra ⟨alB_ok b1, fun d hd z => ?_⟩ (by omega) fun i u h' tk bs hi hr hk => ?_
  · subst z
    have := List.all_eq_true.mp b2 _ hd
    cases this
  · obtain ⟨d, hd', w, r1, r2⟩ := each_at e (i := i) (by simpa using hi)
    have I' : L2.Inv X pins σ H { s with heap := h', toks := tk } := I.kept (h' := h') (t' := tk) hk
    obtain ⟨cs, r3⟩ := Dp.reads I' d w u (Dp.of sG r2) r1
    have ed : d = minD x xs := alike_unique d _ u cs bs (alB_ok b1 d hd' _ (minD_mem xs x)) r3 hr
    rw [ed] at r2
    exact ⟨w, H, I', r1, q w r2⟩
end
end WM
namespace WM
open PySem PySem.Spec PyProof.Rows L2
inductive Ty where
  | int | bool | str | tuple | list
  deriving DecidableEq
def Ty.nm : Ty → String
  | .int => "int"
  | .bool => "bool"
  | .str => "str"
  | .tuple => "tuple"
  | .list => "list"
def isiD : D → Ty → Option Bool
  | .none, _ => some false
  | .bool _, .int => some true
  | .bool _, .bool => some true
  | .bool _, _ => some false
  | .int _, .int => some true
  | .int _, _ => some false
  | .str _, .str => some true
  | .str _, _ => some false
  | .list _, .list => some true
  | .list _, _ => some false
  | .tuple _, .tuple => some true
  | .tuple _, _ => some false
  | .dict _, _ => none
def dTy : D → String
  | .none => "NoneType"
  | .bool _ => "bool"
  | .int _ => "int"
  | .str _ => "str"
  | .list _ => "list"
  | .tuple _ => "tuple"
  | .dict _ => "dict"
theorem kit_all : ∀ a ∈ ["NoneType", "bool", "int", "str", "list", "tuple"], ∀ t ∈ [Ty.int, .bool, .str, .tuple, .list], kitB a t.nm = some (decide (a = t.nm) || (decide (a = "bool") && decide (t = Ty.int))) := by decide +kernel
theorem kit_isi {K : PySem.W.Frag} {d : D} {t : Ty} {b : Bool} (h : isiD d t = some b) : PySem.W.kitOne K (.type (dTy d)) (.type t.nm) = some b := by
  have ne : ∀ kvs, d ≠ .dict kvs := by
    intro kvs e
    subst e
    cases t <;> cases h
  have key := kit_all (dTy d) (by cases d <;> first | (exact absurd rfl (ne _)) | simp [dTy]) t (by cases t <;> simp)
  refine kit_ty (key.trans ?_)
  cases d <;> cases t <;> first | exact absurd rfl (ne _) | (cases h; rfl)
theorem SqT.ty {K : PySem.W.Frag} {H : Hp} {a : Addr} {xs : List V} (h : SqT K H a xs) : TyX K H (.ref a) (.type "tuple") := by
  rcases h with (h | ⟨o, h⟩) | ⟨o, its, n, hk, hc, _⟩
  · exact .base (.tup h)
  · exact .fTuple h
  · exact .kTuple hk hc
theorem Rp.ty {K : PySem.W.Frag} {H : Hp} {v : V} {d : D} (h : Rp K H v d) : TyX K H v (.type (dTy d)) := by
  cases h with
  | non => exact .base .non
  | bl b => exact .base (.bl b)
  | int i => exact .base (.int i)
  | str x => exact .base (.str x)
  | lst h a => exact .base (.lst h)
  | tup h a => exact SqT.ty h
/-- the built-in functions -/
inductive B where
  | len | abs | mx | mn | sum | all | any | sorted | tuple | list | int | gcd
  deriving DecidableEq
/-- what each is bound to -/
def B.val : B → Value
  | .len => .builtin "len"
  | .abs => .builtin "abs"
  | .mx => .builtin "max"
  | .mn => .builtin "min"
  | .sum => .builtin "sum"
  | .all => .builtin "all"
  | .any => .builtin "any"
  | .sorted => .builtin "sorted"
  | .tuple => .type "tuple"
  | .list => .type "list"
  | .int => .type "int"
  | .gcd => .builtin "math.gcd"
def asInts : List D → Option (List Int)
  | [] => some []
  | .int i :: r => (asInts r).map (i :: ·)
  | _ :: _ => none
def asBools : List D → Option (List Bool)
  | [] => some []
  | .bool b :: r => (asBools r).map (b :: ·)
  | _ :: _ => none
theorem asInts_ok : ∀ {ds : List D} {ns : List Int}, asInts ds = some ns → ds = ns.map PyData.int
  | [], _, h => by cases h; rfl
  | .int i :: r, ns, h => by
    cases q : asInts r with
    | none => simp [asInts, q] at h
    | some ms =>
      simp [asInts, q] at h
      subst h
      rw [asInts_ok q]; rfl
  | .none :: _, _, h => by cases h
  | .bool _ :: _, _, h => by cases h
  | .str _ :: _, _, h => by cases h
  | .list _ :: _, _, h => by cases h
  | .tuple _ :: _, _, h => by cases h
  | .dict _ :: _, _, h => by cases h
theorem asInts_map : ∀ ns : List Int, asInts (ns.map PyData.int) = some ns
  | [] => rfl
  | i :: r => by simp [asInts, asInts_map r]
theorem asBools_ok : ∀ {ds : List D} {ns : List Bool}, asBools ds = some ns → ds = ns.map PyData.bool
  | [], _, h => by cases h; rfl
  | .bool i :: r, ns, h => by
    cases q : asBools r with
    | none => simp [asBools, q] at h
    | some ms =>
      simp [asBools, q] at h
      subst h
      rw [asBools_ok q]; rfl
  | .none :: _, _, h => by cases h
  | .int _ :: _, _, h => by cases h
  | .str _ :: _, _, h => by cases h
  | .list _ :: _, _, h => by cases h
  | .tuple _ :: _, _, h => by cases h
  | .dict _ :: _, _, h => by cases h
theorem asBools_map : ∀ ns : List Bool, asBools (ns.map PyData.bool) = some ns
  | [] => rfl
  | i :: r => by simp [asBools, asBools_map r]
def minL : List Int → Option Int
  | [] => none
  | x :: r => some (r.foldl min x)
def maxL : List Int → Option Int
  | [] => none
  | x :: r => some (r.foldl max x)
theorem foldl_min : ∀ (r : List Int) (x : Int), r.foldl min x ∈ x :: r ∧ ∀ y ∈ x :: r, r.foldl min x ≤ y
  | [], x => by simp
  | a :: r, x => by
    have ih := foldl_min r (min x a)
    rw [List.foldl_cons]
    obtain ⟨h1, h2⟩ := ih
    have h3 := h2 _ List.mem_cons_self
    refine ⟨?_, fun y hy => ?_⟩
    · rcases List.mem_cons.mp h1 with e | e
      · rw [e]
        by_cases q : x ≤ a
        · rw [Int.min_eq_left q]; exact List.mem_cons_self
        · rw [Int.min_eq_right (by omega)]; exact List.mem_cons_of_mem _ List.mem_cons_self
      · exact List.mem_cons_of_mem _ (List.mem_cons_of_mem _ e)
    · rcases List.mem_cons.mp hy with e | hy
      · subst e; exact Int.le_trans h3 (Int.min_le_left _ _)
      · rcases List.mem_cons.mp hy with e | hy
        · subst e; exact Int.le_trans h3 (Int.min_le_right _ _)
        · exact h2 _ (List.mem_cons_of_mem _ hy)
theorem foldl_max : ∀ (r : List Int) (x : Int), r.foldl max x ∈ x :: r ∧ ∀ y ∈ x :: r, y ≤ r.foldl max x
  | [], x => by simp
  | a :: r, x => by
    have ih := foldl_max r (max x a)
    rw [List.foldl_cons]
    obtain ⟨h1, h2⟩ := ih
    have h3 := h2 _ List.mem_cons_self
    refine ⟨?_, fun y hy => ?_⟩
    · rcases List.mem_cons.mp h1 with e | e
      · rw [e]
        by_cases q : x ≤ a
        · rw [Int.max_eq_right q]; exact List.mem_cons_of_mem _ List.mem_cons_self
        · rw [Int.max_eq_left (by omega)]; exact List.mem_cons_self
      · exact List.mem_cons_of_mem _ (List.mem_cons_of_mem _ e)
    · rcases List.mem_cons.mp hy with e | hy
      · subst e; exact Int.le_trans (Int.le_max_left _ _) h3
      · rcases List.mem_cons.mp hy with e | hy
        · subst e; exact Int.le_trans (Int.le_max_right _ _) h3
        · exact h2 _ (List.mem_cons_of_mem _ hy)
/-- sorted ints -/
def insI (x : Int) : List Int → List Int
  | [] => [x]
  | y :: r => if x ≤ y then x :: y :: r else y :: insI x r
def sortI : List Int → List Int
  | [] => []
  | x :: r => insI x (sortI r)
theorem insI_perm (x : Int) : ∀ l, (insI x l).Perm (x :: l)
  | [] => List.Perm.refl _
  | y :: r => by
    unfold insI
    split
    · exact List.Perm.refl _
    · exact (List.Perm.cons y (insI_perm x r)).trans (List.Perm.swap x y r)
theorem sortI_perm : ∀ l, (sortI l).Perm l
  | [] => List.Perm.refl _
  | x :: r => (insI_perm x _).trans (List.Perm.cons x (sortI_perm r))
theorem insI_sorted (x : Int) : ∀ l, l.Pairwise (· ≤ ·) → (insI x l).Pairwise (· ≤ ·)
  | [], _ => by simp [insI]
  | y :: r, h => by
    unfold insI
    obtain ⟨h1, h2⟩ := List.pairwise_cons.mp h
    split
    · rename_i hxy
      refine List.pairwise_cons.mpr ⟨fun z hz => ?_, h⟩
      rcases List.mem_cons.mp hz with e | hz
      · subst e; exact hxy
      · exact Int.le_trans hxy (h1 z hz)
    · rename_i hxy
      refine List.pairwise_cons.mpr ⟨fun z hz => ?_, insI_sorted x r h2⟩
      rcases List.mem_cons.mp ((insI_perm x r).mem_iff.mp hz) with e | hz
      · subst e; omega
      · exact h1 z hz
theorem sortI_sorted : ∀ l, (sortI l).Pairwise (· ≤ ·)
  | [] => .nil
  | x :: r => insI_sorted x _ (sortI_sorted r)
theorem sorted_uniq : ∀ {l m : List Int}, l.Pairwise (· ≤ ·) → m.Pairwise (· ≤ ·) → l.Perm m → l = m
  | [], m, _, _, h => (List.Perm.eq_nil h.symm).symm
  | x :: l, [], _, _, h => absurd h.length_eq (by simp)
  | x :: l, y :: m, hl, hm, h => by
    obtain ⟨a1, a2⟩ := List.pairwise_cons.mp hl
    obtain ⟨b1, b2⟩ := List.pairwise_cons.mp hm
    have h1 : x ≤ y := by
      rcases List.mem_cons.mp (h.mem_iff.mpr List.mem_cons_self) with e | e
      · omega
      · exact a1 _ e
    have h2 : y ≤ x := by
      rcases List.mem_cons.mp (h.mem_iff.mp List.mem_cons_self) with e | e
      · omega
      · exact b1 _ e
    have e : x = y := by omega
    subst e
    rw [sorted_uniq a2 b2 h.cons_inv]
def bltD (b : B) (ds : List D) : Option D := match b, ds with
  | .len, [.list xs] => some (.int xs.length)
  | .len, [.tuple xs] => some (.int xs.length)
  | .len, [.str x] => if x.length ≤ sizeLine then some (.int x.length) else none
  | .abs, [.int i] => some (.int (if i < 0 then -i else i))
  | .mx, [.int i, .int j] => some (.int (if j > i then j else i))
  | .mn, [.int i, .int j] => some (.int (if j < i then j else i))
  | .mx, [.list xs] => (asInts xs).bind fun ns => (maxL ns).map .int
  | .mn, [.list xs] => (match asInts xs with
    | some ns => (minL ns).map .int
    | none => (match xs with
      | x :: r => if mdB (x :: r) then some (PySem.W.minD x r) else none
      | [] => none))
  | .sum, [.list xs] => (asInts xs).map fun ns => .int ns.sum
  | .sum, [.tuple xs] => (asInts xs).map fun ns => .int ns.sum
  | .all, [.list xs] => (asBools xs).map fun ns => .bool (ns.all id)
  | .any, [.list xs] => (asBools xs).map fun ns => .bool (ns.any id)
  | .sorted, [.list xs] => (match asInts xs with
    | some ns => some (.list ((sortI ns).map .int))
    | none => if sdB xs then some (.list (srtD xs)) else none)
  | .tuple, [.list xs] => some (.tuple xs)
  | .tuple, [.tuple xs] => some (.tuple xs)
  | .list, [.list xs] => if xs.length ≤ sizeLine then some (.list xs) else none
  | .list, [.tuple xs] => if xs.length ≤ sizeLine then some (.list xs) else none
  | .int, [.int i] => some (.int i)
  | .int, [.bool k] => some (.int (if k then 1 else 0))
  | .gcd, [.int i, .int j] => some (.int ((Nat.gcd i.natAbs j.natAbs : Nat) : Int))
  | _, _ => none
theorem Rps.one {K : PySem.W.Frag} {G : Hp} {xs : List V} {d : D} (h : Rps K G xs [d]) : ∃ v, xs = [v] ∧ Rp K G v d := by
  cases h with
  | cons h a => cases a; exact ⟨_, rfl, h⟩
theorem Rps.two {K : PySem.W.Frag} {G : Hp} {xs : List V} {d e : D} (h : Rps K G xs [d, e]) : ∃ v w, xs = [v, w] ∧ Rp K G v d ∧ Rp K G w e := by
  cases h with
  | cons h a =>
    obtain ⟨w, rfl, h2⟩ := Rps.one a
    exact ⟨_, _, rfl, h, h2⟩
theorem Rp.lint {K : PySem.W.Frag} {G : Hp} {v : V} {xs : List D} {ns : List Int} (h : Rp K G v (.list xs)) (e : asInts xs = some ns) : ∃ a, v = .ref a ∧ G a = some (.lst (ns.map V.int)) := by
  obtain ⟨a, vs, rfl, h1, a1⟩ := h.list_inv
  rw [asInts_ok e] at a1
  rw [Rps.ints a1] at h1
  exact ⟨a, rfl, h1⟩
theorem Rp.lbool {K : PySem.W.Frag} {G : Hp} {v : V} {xs : List D} {ns : List Bool} (h : Rp K G v (.list xs)) (e : asBools xs = some ns) : ∃ a, v = .ref a ∧ G a = some (.lst (ns.map V.bl)) := by
  obtain ⟨a, vs, rfl, h1, a1⟩ := h.list_inv
  rw [asBools_ok e] at a1
  rw [Rps.bools a1] at h1
  exact ⟨a, rfl, h1⟩
section
variable {X : Cx}
theorem cr_sumT (hc : X.calm = true) : CallR X (.builtin "sum") (fun vs H Q => ∃ (a : Addr) (ns : List Int), vs = [V.ref a] ∧ SqT X.K H a (ns.map V.int) ∧ Q (.int ns.sum) H) := by
  intro pins s σ H vs us Q I r h
  obtain ⟨a, ns, rfl, hs, q⟩ := h
  obtain ⟨its, rv, hl, _⟩ := I.tuple hs
  rw [Vals.ref1 r]
  have hi := rv.ints
  obtain ⟨xs, e⟩ := hi.allInts.items
  have hn : numsOf (intItems xs).toList = ns := by rw [← e]; exact hi.numsOf
  rw [nums_intItems] at hn
  have ht : s.heap.IsTuple a its.toArray := hl
  rw [e] at ht
  refine PySem.W.ktm_sumG (I.ok.hd hc) ht fun h' tk t' hk => ?_
  rw [preSum_eq, List.take_of_length_le (by simp), hn]
  exact ⟨.int _, H, I.kept hk, ⟨_, rfl⟩, q⟩
theorem Rp.tint {K : PySem.W.Frag} {G : Hp} {v : V} {xs : List D} {ns : List Int} (h : Rp K G v (.tuple xs)) (e : asInts xs = some ns) : ∃ a, v = .ref a ∧ SqT K G a (ns.map V.int) := by
  obtain ⟨a, vs, rfl, h1, a1⟩ := h.tuple_inv
  rw [asInts_ok e] at a1
  rw [Rps.ints a1] at h1
  exact ⟨a, rfl, h1⟩
theorem call_blt (hc : X.calm = true) (hu : X.A.units + 65 < cLine) (b : B) : CallR X b.val (rDs X.K (bltD b)) := by
  intro pins s σ H xs us Q I r h
  obtain ⟨G, ds, d, sG, hx, e, q⟩ := h
  unfold bltD at e
  split at e
  · cases e
    obtain ⟨v, rfl, h1⟩ := hx.one
    obtain ⟨a, vs, rfl, h2, a2⟩ := h1.list_inv
    exact call_len_seq pins s σ H _ us Q I r ⟨a, vs, rfl, .inl (SqL.of (sG _ _ h2)), q _ _ _ (Ext.refl sG) (by rw [a2.length]; exact .int _)⟩
  · cases e
    obtain ⟨v, rfl, h1⟩ := hx.one
    obtain ⟨a, vs, rfl, h2, a2⟩ := h1.tuple_inv
    exact call_len_seq pins s σ H _ us Q I r ⟨a, vs, rfl, .inr (SqT.mono sG h2), q _ _ _ (Ext.refl sG) (by rw [a2.length]; exact .int _)⟩
  · split at e
    · rename_i hz
      cases e
      obtain ⟨v, rfl, h1⟩ := hx.one
      rw [h1.str_inv] at r
      exact call_len_str pins s σ H _ us Q I r ⟨_, rfl, hz, q _ _ _ (Ext.refl sG) (.int _)⟩
    · cases e
  · cases e
    obtain ⟨v, rfl, h1⟩ := hx.one
    rw [h1.int_inv] at r
    exact call_abs pins s σ H _ us Q I r ⟨_, rfl, q _ _ _ (Ext.refl sG) (.int _)⟩
  · cases e
    obtain ⟨v, w, rfl, h1, h2⟩ := hx.two
    rw [h1.int_inv, h2.int_inv] at r
    exact call_max2 hc pins s σ H _ us Q I r ⟨_, _, rfl, q _ _ _ (Ext.refl sG) (.int _)⟩
  · cases e
    obtain ⟨v, w, rfl, h1, h2⟩ := hx.two
    rw [h1.int_inv, h2.int_inv] at r
    exact call_min2 hc pins s σ H _ us Q I r ⟨_, _, rfl, q _ _ _ (Ext.refl sG) (.int _)⟩
  · obtain ⟨v, rfl, h1⟩ := hx.one
    rename_i l
    cases en : asInts l with
    | none => rw [en] at e; cases e
    | some ns =>
      rw [en] at e
      obtain ⟨a, rfl, h2⟩ := h1.lint en
      cases ns with
      | nil => cases e
      | cons x r' =>
        cases e
        obtain ⟨m1, m2⟩ := foldl_max r' x
        refine cr_max hc pins s σ H _ us Q I r ⟨a, x :: r', rfl, SqL.of (sG _ _ h2), by simp, fun m h3 h4 => ?_⟩
        have em : m = r'.foldl max x := Int.le_antisymm (m2 m h3) (h4 _ m1)
        rw [em]
        exact q _ _ _ (Ext.refl sG) (.int _)
  · obtain ⟨v, rfl, h1⟩ := hx.one
    rename_i l
    cases en : asInts l with
    | none =>
      rw [en] at e
      simp only at e
      split at e
      · split at e
        · rename_i hb
          cases e
          exact call_minD hc hu pins s σ H _ us Q I r ⟨G, _, _, v, sG, rfl, h1, hb, fun v r => q v G H (Ext.refl sG) r⟩
        · cases e
      · cases e
    | some ns =>
      rw [en] at e
      obtain ⟨a, rfl, h2⟩ := h1.lint en
      cases ns with
      | nil => cases e
      | cons x r' =>
        cases e
        obtain ⟨m1, m2⟩ := foldl_min r' x
        refine cr_min hc pins s σ H _ us Q I r ⟨a, x :: r', rfl, SqL.of (sG _ _ h2), by simp, fun m h3 h4 => ?_⟩
        have em : m = r'.foldl min x := Int.le_antisymm (h4 _ m1) (m2 m h3)
        rw [em]
        exact q _ _ _ (Ext.refl sG) (.int _)
  · obtain ⟨v, rfl, h1⟩ := hx.one
    rename_i l
    cases en : asInts l with
    | none => rw [en] at e; cases e
    | some ns =>
      rw [en] at e
      cases e
      obtain ⟨a, rfl, h2⟩ := h1.lint en
      exact cr_sum hc pins s σ H _ us Q I r ⟨a, ns, rfl, SqL.of (sG _ _ h2), q _ _ _ (Ext.refl sG) (.int _)⟩
  · obtain ⟨v, rfl, h1⟩ := hx.one
    rename_i l
    cases en : asInts l with
    | none => rw [en] at e; cases e
    | some ns =>
      rw [en] at e
      cases e
      obtain ⟨a, rfl, h2⟩ := h1.tint en
      exact cr_sumT hc pins s σ H _ us Q I r ⟨a, ns, rfl, SqT.mono sG h2, q _ _ _ (Ext.refl sG) (.int _)⟩
  · obtain ⟨v, rfl, h1⟩ := hx.one
    rename_i l
    cases en : asBools l with
    | none => rw [en] at e; cases e
    | some ns =>
      rw [en] at e
      cases e
      obtain ⟨a, rfl, h2⟩ := h1.lbool en
      exact cr_all hc pins s σ H _ us Q I r ⟨a, ns, rfl, SqL.of (sG _ _ h2), q _ _ _ (Ext.refl sG) (.bl _)⟩
  · obtain ⟨v, rfl, h1⟩ := hx.one
    rename_i l
    cases en : asBools l with
    | none => rw [en] at e; cases e
    | some ns =>
      rw [en] at e
      cases e
      obtain ⟨a, rfl, h2⟩ := h1.lbool en
      exact cr_any hc pins s σ H _ us Q I r ⟨a, ns, rfl, SqL.of (sG _ _ h2), q _ _ _ (Ext.refl sG) (.bl _)⟩
  · obtain ⟨v, rfl, h1⟩ := hx.one
    rename_i l
    cases en : asInts l with
    | none =>
      rw [en] at e
      simp only at e
      split at e
      · rename_i hb
        cases e
        exact call_sortD hu pins s σ H _ us Q I r ⟨G, _, v, sG, rfl, h1, hb, fun v G' H' ex r => q v G' H' ex r⟩
      · cases e
    | some ns =>
      rw [en] at e
      cases e
      obtain ⟨a, rfl, h2⟩ := h1.lint en
      refine cr_sortedI pins s σ H _ us Q I r ⟨a, ns, rfl, SqL.of (sG _ _ h2), fun ns' p hp hs n => ?_⟩
      rw [sorted_uniq hs (sortI_sorted ns) (hp.trans (sortI_perm ns).symm)]
      exact q _ _ _ (Ext.new sG n) (Rp.lnew (sG.free n) (Rps.of_ints _))
  · cases e
    obtain ⟨v, rfl, h1⟩ := hx.one
    obtain ⟨a, vs, rfl, h2, a2⟩ := h1.list_inv
    exact call_tuple_of pins s σ H _ us Q I r ⟨a, vs, rfl, .inl ⟨SqL.of (sG _ _ h2), fun p n => q _ _ _ (Ext.new sG n) (Rp.tnew (sG.free n) a2)⟩⟩
  · cases e
    obtain ⟨v, rfl, h1⟩ := hx.one
    obtain ⟨a, vs, rfl, h2, a2⟩ := h1.tuple_inv
    exact call_tuple_of pins s σ H _ us Q I r ⟨a, vs, rfl, .inr ⟨SqT.mono sG h2, q _ _ _ (Ext.refl sG) h1⟩⟩
  · split at e <;> cases e
    obtain ⟨v, rfl, h1⟩ := hx.one
    obtain ⟨a, vs, rfl, h2, a2⟩ := h1.list_inv
    exact call_list_of pins s σ H _ us Q I r ⟨a, vs, rfl, .inl (SqL.of (sG _ _ h2)), fun p n => q _ _ _ (Ext.new sG n) (Rp.lnew (sG.free n) a2)⟩
  · split at e <;> cases e
    obtain ⟨v, rfl, h1⟩ := hx.one
    obtain ⟨a, vs, rfl, h2, a2⟩ := h1.tuple_inv
    exact call_list_of pins s σ H _ us Q I r ⟨a, vs, rfl, .inr (SqT.mono sG h2), fun p n => q _ _ _ (Ext.new sG n) (Rp.lnew (sG.free n) a2)⟩
  · cases e
    obtain ⟨v, rfl, h1⟩ := hx.one
    rw [h1.int_inv] at r
    exact call_int1 pins s σ H _ us Q I r (.inl ⟨_, rfl, q _ _ _ (Ext.refl sG) (.int _)⟩)
  · cases e
    obtain ⟨v, rfl, h1⟩ := hx.one
    rw [h1.bool_inv] at r
    exact call_int1 pins s σ H _ us Q I r (.inr ⟨_, rfl, q _ _ _ (Ext.refl sG) (.int _)⟩)
  · cases e
    obtain ⟨v, w, rfl, h1, h2⟩ := hx.two
    rw [h1.int_inv, h2.int_inv] at r
    exact cr_gcd pins s σ H _ us Q I r ⟨_, _, rfl, q _ _ _ (Ext.refl sG) (.int _)⟩
  · cases e
end
end WM
namespace WM
open PySem PySem.Spec PyProof.Rows L2
mutual
inductive Tg where
  | v (i : Nat)
  | t (ts : Tgs)
inductive Tgs where
  | nil
  | cons (t : Tg) (ts : Tgs)
end
mutual
inductive E where
  | lit (d : D)
  | var (i : Nat)
  | raw (i : Nat)
  | bin (op : Operator) (a b : E)
  | neg (a : E)
  | not (a : E)
  | cmp (op : CmpOp) (a b : E)
  | cmp2 (o1 o2 : CmpOp) (a b c : E)
  | cmp3 (o1 o2 o3 : CmpOp) (a b c d : E)
  | and (a b : E)
  | or (a b : E)
  | ite (c a b : E)
  | tup (es : Es)
  | lst (es : Es)
  | ix (a b : E)
  | sl (a : E) (lo hi : Oe)
  | rev (a : E)
  | call (f : Nat) (es : Es)
  | blt (b : B) (es : Es)
  | isi (a : E) (t : Ty)
  | lset (a : E)
  | comp (tg : Tg) (it : I) (c : Oe) (own : List Nat) (elt : E)
inductive Es where
  | nil
  | cons (e : E) (es : Es)
inductive Oe where
  | none
  | some (e : E)
inductive I where
  | val (e : E)
  | rng1 (a : E)
  | rng2 (a b : E)
  | zip (a b : E)
  | enum (a : E)
end
mutual
inductive S where
  | set (i : Nat) (e : E)
  | setC (i : Nat) (e : E)
  | unp (tg : Tgs) (e : E)
  | par (is : List Nat) (es : Es)
  | put (i : Nat) (k e : E)
  | app (i : Nat) (e : E)
  | expr (e : E)
  | ite (c : E) (a b : Ss)
  | for (tg : Tg) (it : I) (b : Ss)
  | whl (c : E) (b : Ss)
  | ret (e : E)
  | retN
  | nev
  | brk
  | ctn
  | pas
inductive Ss where
  | nil
  | cons (s : S) (ss : Ss)
end
/-- the same, but the kernel can't open it -/
noncomputable def lock {α : Type} (a : α) : α := (Classical.choice (⟨⟨a, rfl⟩⟩ : Nonempty {x : α // x = a})).1
theorem lock_eq {α : Type} (a : α) : lock a = a := (Classical.choice (⟨⟨a, rfl⟩⟩ : Nonempty {x : α // x = a})).2
abbrev Fn := Nat → List W → Store → Option (W × Store)
def andW {β : Type} (r : Option (W × Store)) (f : W → Store → Option β) : Option β := match r with
  | some (w, st) => f w st
  | none => none
def andD {β : Type} (r : Option (W × Store)) (f : D → Store → Option β) : Option β := match r with
  | some (.d x, st) => f x st
  | _ => none
def okD (d : Option D) (st : Store) : Option (W × Store) := match d with
  | some d => some (.d d, st)
  | none => none
def okB (b : Option Bool) (st : Store) : Option (W × Store) := match b with
  | some b => some (.d (.bool b), st)
  | none => none
def freeze (j : Nat) (st : Store) : Option (W × Store) := match st[j]? with
  | some (.lst _ ds) => some (.d (.list ds), st.set j (.lst true ds))
  | none => none
def rdVar (sl : Sl) (i : Nat) (st : Store) : Option (W × Store) := match sl[i]? with
  | some (some (.d x)) => some (.d x, st)
  | some (some (.m j)) => freeze j st
  | _ => none
def rdRaw (sl : Sl) (i : Nat) (st : Store) : Option (W × Store) := match sl[i]? with
  | some (some w) => some (w, st)
  | _ => none
/-- x[i], x perhaps a cell -/
def ixW (w : W) (y : D) (st : Store) : Option D := match w with
  | .d x => ixD x y
  | .m j => (match st[j]? with
    | some (.lst _ ds) => ixD (.list ds) y
    | none => none)
def bltW (b : B) (ws : List W) (st : Store) : Option D := match allD ws with
  | some ds => bltD b ds
  | none => (match b, ws with
    | .len, [.m j] => (match st[j]? with
      | some (.lst _ ds) => bltD .len [.list ds]
      | none => none)
    | _, _ => none)
@[simp] def mkTup (r : Option (List W × Store)) : Option (W × Store) := match r with
  | some (ws, st) => (match allD ws with
    | some ds => if ds.length ≤ sizeLine then some (.d (.tuple ds), st) else none
    | none => none)
  | none => none
@[simp] def mkLst (r : Option (List W × Store)) : Option (W × Store) := match r with
  | some (ws, st) => (match allD ws with
    | some ds => if ds.length ≤ sizeLine then some (.d (.list ds), st) else none
    | none => none)
  | none => none
@[simp] def revD : D → Option D
  | .tuple xs => some (.tuple xs.reverse)
  | .list xs => some (.list xs.reverse)
  | _ => none
@[simp] def wipeS (sl : Sl) : List Nat → Sl
  | [] => sl
  | v :: vs => (wipeS sl vs).set v none
mutual
@[simp] def stTg : Tg → GM
  | .v i, d, sl => some (sl.set i (some (.d d)))
  | .t ts, d, sl => (match d with
    | .tuple ds => stTgs ts ds sl
    | _ => none)
@[simp] def stTgs : Tgs → List D → Sl → Option Sl
  | .nil, [], sl => some sl
  | .cons t ts, d :: ds, sl => (match stTg t d sl with
    | some sl' => stTgs ts ds sl'
    | none => none)
  | _, _, _ => none
end
/-- a comprehension's turns -/
def compL (g : D → Option Sl) (c : EM) (elt : EM) : List D → Store → Option (List D × Store)
  | [], st => some ([], st)
  | d :: ds, st => (match g d with
    | none => none
    | some sl => andW (c sl st) fun w st1 => (match truW w with
      | none => none
      | some false => compL g c elt ds st1
      | some true => andD (elt sl st1) fun x st2 => (match compL g c elt ds st2 with
        | none => none
        | some (xs, st3) => some (x :: xs, st3))))
noncomputable def compK (g : D → Option Sl) (c : EM) (elt : EM) (ds : List D) (st : Store) : Option (List D × Store) := lock (compL g c elt ds st)
@[simp] theorem compK_eq (g : D → Option Sl) (c : EM) (elt : EM) (ds : List D) (st : Store) : compK g c elt ds st = compL g c elt ds st := lock_eq _
noncomputable def callK (Φ : Fn) (f : Nat) (ws : List W) (st : Store) : Option (W × Store) := lock (Φ f ws st)
@[simp] theorem callK_eq (Φ : Fn) (f : Nat) (ws : List W) (st : Store) : callK Φ f ws st = Φ f ws st := lock_eq _
@[simp] def zipD : List D → List D → List D
  | x :: xs, y :: ys => .tuple [x, y] :: zipD xs ys
  | _, _ => []
@[simp] def enumD : Nat → List D → List D
  | _, [] => []
  | i, x :: xs => .tuple [.int (i : Int), x] :: enumD (i + 1) xs
def rngD (lo : Int) : Nat → List D
  | 0 => []
  | n + 1 => .int lo :: rngD (lo + 1) n
@[simp] def valI : D → Option (List D)
  | .list xs => some xs
  | .tuple xs => some xs
  | _ => none
def okL (l : Option (List D)) (st : Store) : Option (List D × Store) := match l with
  | some l => some (l, st)
  | none => none
@[simp] def zipI (x y : D) : Option (List D) := match x, y with
  | .list xs, .list ys => some (zipD xs ys)
  | .tuple xs, .tuple ys => some (zipD xs ys)
  | _, _ => none
@[simp] def enumI (x : D) : Option (List D) := match x with
  | .list xs => some (enumD 0 xs)
  | .tuple xs => some (enumD 0 xs)
  | _ => none
@[simp] def rngI (x y : D) : Option (List D) := match x, y with
  | .int i, .int j => if -(2 ^ 62) ≤ i ∧ i < 2 ^ 62 ∧ -(2 ^ 62) ≤ j ∧ j < 2 ^ 62 then some (rngD i (j - i).toNat) else none
  | _, _ => none
@[simp] def okC (own : List Nat) (r : Option (List D × Store)) : Option (W × Store) := match r with
  | some (ds, st) => if ds.length ≤ sizeLine then some (.d (.list ds), st) else none
  | none => none
/-- len(set(xs)), xs ints -/
def setL (ns : List Int) : List Int := firstMet (fun i => ns.getD i 0) ns.length
def lsetD : D → Option D
  | .list xs => (match asInts xs with
    | some ns => if ns.length < 4000 then some (.int (setL ns).length) else none
    | none => none)
  | _ => none
noncomputable def binK (op : Operator) (x y : D) : Option D := lock (binD op x y)
@[simp] theorem binK_eq (op : Operator) (x y : D) : binK op x y = binD op x y := lock_eq _
noncomputable def rngK (x y : D) : Option (List D) := lock (rngI x y)
@[simp] theorem rngK_eq (x y : D) : rngK x y = rngI x y := lock_eq _
@[simp] def asPart (r : D) : Option Int := match r with
  | .int i => some i
  | _ => none
mutual
@[simp] noncomputable def runE (Φ : Fn) : E → Sl → Store → Option (W × Store)
  | .lit d, _, st => some (.d d, st)
  | .var i, sl, st => rdVar sl i st
  | .raw i, sl, st => rdRaw sl i st
  | .bin op a b, sl, st => andD (runE Φ a sl st) fun x st1 => andD (runE Φ b sl st1) fun y st2 => okD (binK op x y) st2
  | .neg a, sl, st => andD (runE Φ a sl st) fun x st1 => okD (negD x) st1
  | .not a, sl, st => andW (runE Φ a sl st) fun w st1 => okB ((truW w).map (! ·)) st1
  | .cmp op a b, sl, st => andD (runE Φ a sl st) fun x st1 => andD (runE Φ b sl st1) fun y st2 => okB (cmpD op x y) st2
  | .cmp2 o1 o2 a b c, sl, st => andD (runE Φ a sl st) fun x st1 => andD (runE Φ b sl st1) fun y st2 => (match cmpD o1 x y with
    | none => none
    | some false => some (.d (.bool false), st2)
    | some true => andD (runE Φ c sl st2) fun z st3 => okB (cmpD o2 y z) st3)
  | .cmp3 o1 o2 o3 a b c e, sl, st => andD (runE Φ a sl st) fun x st1 => andD (runE Φ b sl st1) fun y st2 => (match cmpD o1 x y with
    | none => none
    | some false => some (.d (.bool false), st2)
    | some true => andD (runE Φ c sl st2) fun z st3 => (match cmpD o2 y z with
      | none => none
      | some false => some (.d (.bool false), st3)
      | some true => andD (runE Φ e sl st3) fun u st4 => okB (cmpD o3 z u) st4))
  | .and a b, sl, st => andW (runE Φ a sl st) fun w st1 => (match truW w with
    | none => none
    | some false => some (w, st1)
    | some true => runE Φ b sl st1)
  | .or a b, sl, st => andW (runE Φ a sl st) fun w st1 => (match truW w with
    | none => none
    | some true => some (w, st1)
    | some false => runE Φ b sl st1)
  | .ite c a b, sl, st => andW (runE Φ c sl st) fun w st1 => (match truW w with
    | none => none
    | some true => runE Φ a sl st1
    | some false => runE Φ b sl st1)
  | .tup es, sl, st => mkTup (runEs Φ es sl st)
  | .lst es, sl, st => mkLst (runEs Φ es sl st)
  | .ix a b, sl, st => andW (runE Φ a sl st) fun w st1 => andD (runE Φ b sl st1) fun y st2 => okD (ixW w y st2) st2
  | .sl a lo hi, sl, st => andD (runE Φ a sl st) fun x st1 => (match runO Φ lo sl st1 with
    | none => none
    | some (l, st2) => (match runO Φ hi sl st2 with
      | none => none
      | some (h, st3) => okD (slD x l h) st3))
  | .rev a, sl, st => andD (runE Φ a sl st) fun x st1 => okD (revD x) st1
  | .call f es, sl, st => (match runEs Φ es sl st with
    | none => none
    | some (ws, st1) => callK Φ f ws st1)
  | .blt b es, sl, st => (match runEs Φ es sl st with
    | none => none
    | some (ws, st1) => okD (bltW b ws st1) st1)
  | .isi a t, sl, st => andD (runE Φ a sl st) fun x st1 => okB (isiD x t) st1
  | .lset a, sl, st => andD (runE Φ a sl st) fun x st1 => okD (lsetD x) st1
  | .comp tg it c own elt, sl, st => (match runI Φ it sl st with
    | none => none
    | some (ds, st1) => okC own (compK (fun d => stTg tg d (wipeS sl own)) (fun sl1 st2 => runC Φ c sl1 st2) (fun sl1 st2 => runE Φ elt sl1 st2) ds st1))
@[simp] noncomputable def runEs (Φ : Fn) : Es → Sl → Store → Option (List W × Store)
  | .nil, _, st => some ([], st)
  | .cons e es, sl, st => andW (runE Φ e sl st) fun w st1 => (match runEs Φ es sl st1 with
    | none => none
    | some (ws, st2) => some (w :: ws, st2))
@[simp] noncomputable def runO (Φ : Fn) : Oe → Sl → Store → Option (Option Int × Store)
  | .none, _, st => some (none, st)
  | .some e, sl, st => andD (runE Φ e sl st) fun x st1 => (match asPart x with
    | none => none
    | some i => some (some i, st1))
/-- a comprehension's test -/
@[simp] noncomputable def runC (Φ : Fn) : Oe → Sl → Store → Option (W × Store)
  | .none, _, st => some (.d (.bool true), st)
  | .some e, sl, st => runE Φ e sl st
@[simp] noncomputable def runI (Φ : Fn) : I → Sl → Store → Option (List D × Store)
  | .val e, sl, st => andD (runE Φ e sl st) fun x st1 => okL (valI x) st1
  | .rng1 a, sl, st => andD (runE Φ a sl st) fun x st1 => okL (rngK (.int 0) x) st1
  | .rng2 a b, sl, st => andD (runE Φ a sl st) fun x st1 => andD (runE Φ b sl st1) fun y st2 => okL (rngK x y) st2
  | .zip a b, sl, st => andD (runE Φ a sl st) fun x st1 => andD (runE Φ b sl st1) fun y st2 => okL (zipI x y) st2
  | .enum a, sl, st => andD (runE Φ a sl st) fun x st1 => okL (enumI x) st1
end
@[simp] def setAll : List Nat → List W → Sl → Option Sl
  | [], [], sl => some sl
  | i :: is, w :: ws, sl => setAll is ws (sl.set i (some w))
  | _, _, _ => none
@[simp] def okN (sl : Option Sl) (st : Store) : Option (Fl × Sl × Store) := match sl with
  | some sl => some (.nx, sl, st)
  | none => none
/-- a for loop's turns -/
def forL (g : D → Sl → Option Sl) (b : SM) : List D → SM
  | [], sl, st => some (.nx, sl, st)
  | d :: ds, sl, st => (match g d sl with
    | none => none
    | some sl1 => (match b sl1 st with
      | none => none
      | some (.nx, sl2, st2) => forL g b ds sl2 st2
      | some (.ct, sl2, st2) => forL g b ds sl2 st2
      | some (.bk, sl2, st2) => some (.nx, sl2, st2)
      | some (.ret w, sl2, st2) => some (.ret w, sl2, st2)))
/-- a while loop, at most n turns -/
def whlN (c : EM) (b : SM) : Nat → SM
  | 0, _, _ => none
  | n + 1, sl, st => andW (c sl st) fun w st1 => (match truW w with
    | none => none
    | some false => some (.nx, sl, st1)
    | some true => (match b sl st1 with
      | none => none
      | some (.nx, sl2, st2) => whlN c b n sl2 st2
      | some (.ct, sl2, st2) => whlN c b n sl2 st2
      | some (.bk, sl2, st2) => some (.nx, sl2, st2)
      | some (.ret w, sl2, st2) => some (.ret w, sl2, st2)))
/-- so many turns are tried first -/
def FUEL : Nat := 100000
open Classical in
/-- a while loop that ends -/
noncomputable def whlW (c : EM) (b : SM) : SM := fun sl st => match whlN c b FUEL sl st with
  | some r => some r
  | none => if h : ∃ n r, whlN c b n sl st = some r then some (h.choose_spec.choose) else none
noncomputable def forK (g : D → Sl → Option Sl) (b : SM) (ds : List D) (sl : Sl) (st : Store) : Option (Fl × Sl × Store) := lock (forL g b ds sl st)
@[simp] theorem forK_eq (g : D → Sl → Option Sl) (b : SM) (ds : List D) (sl : Sl) (st : Store) : forK g b ds sl st = forL g b ds sl st := lock_eq _
noncomputable def whlK (c : EM) (b : SM) (sl : Sl) (st : Store) : Option (Fl × Sl × Store) := lock (whlW c b sl st)
@[simp] theorem whlK_eq (c : EM) (b : SM) (sl : Sl) (st : Store) : whlK c b sl st = whlW c b sl st := lock_eq _
/-- a list that is new, as a cell -/
@[simp] def newC (i : Nat) (sl : Sl) (r : Option (W × Store)) : Option (Fl × Sl × Store) := match r with
  | some (.d (.list ds), st) => some (.nx, sl.set i (some (.m st.length)), st ++ [.lst false ds])
  | _ => none
@[simp] def putC (i : Nat) (sl : Sl) (k x : D) (st : Store) : Option (Fl × Sl × Store) := match sl[i]? with
  | some (some (.m j)) => (match st[j]?, k with
    | some (.lst false ds), .int q => (match ixN ds.length q with
      | some n => some (.nx, sl, st.set j (.lst false (ds.set n x)))
      | none => none)
    | _, _ => none)
  | _ => none
@[simp] def appC (i : Nat) (sl : Sl) (x : D) (st : Store) : Option (Fl × Sl × Store) := match sl[i]? with
  | some (some (.m j)) => (match st[j]? with
    | some (.lst false ds) => if ds.length < sizeLine then some (.nx, sl, st.set j (.lst false (ds ++ [x]))) else none
    | _ => none)
  | _ => none
mutual
@[simp] noncomputable def runS (Φ : Fn) : S → Sl → Store → Option (Fl × Sl × Store)
  | .set i e, sl, st => andW (runE Φ e sl st) fun w st1 => some (.nx, sl.set i (some w), st1)
  | .setC i e, sl, st => newC i sl (runE Φ e sl st)
  | .unp ts e, sl, st => andD (runE Φ e sl st) fun x st1 => okN (stTg (.t ts) x sl) st1
  | .par is es, sl, st => (match runEs Φ es sl st with
    | none => none
    | some (ws, st1) => okN (setAll is.reverse ws.reverse sl) st1)
  | .put i k e, sl, st => andD (runE Φ e sl st) fun x st1 => andD (runE Φ k sl st1) fun q st2 => putC i sl q x st2
  | .app i e, sl, st => andD (runE Φ e sl st) fun x st1 => appC i sl x st1
  | .expr e, sl, st => andW (runE Φ e sl st) fun _ st1 => some (.nx, sl, st1)
  | .ite c a b, sl, st => andW (runE Φ c sl st) fun w st1 => (match truW w with
    | none => none
    | some true => runSs Φ a sl st1
    | some false => runSs Φ b sl st1)
  | .for tg it b, sl, st => (match runI Φ it sl st with
    | none => none
    | some (ds, st1) => forK (fun d sl => stTg tg d sl) (fun sl st => runSs Φ b sl st) ds sl st1)
  | .whl c b, sl, st => whlK (fun sl st => runE Φ c sl st) (fun sl st => runSs Φ b sl st) sl st
  | .ret e, sl, st => andW (runE Φ e sl st) fun w st1 => some (.ret w, sl, st1)
  | .retN, sl, st => some (.ret (.d .none), sl, st)
  | .nev, _, _ => none
  | .brk, sl, st => some (.bk, sl, st)
  | .ctn, sl, st => some (.ct, sl, st)
  | .pas, sl, st => some (.nx, sl, st)
noncomputable def runSs (Φ : Fn) : Ss → Sl → Store → Option (Fl × Sl × Store)
  | .nil, sl, st => some (.nx, sl, st)
  | .cons s ss, sl, st => (match runS Φ s sl st with
    | none => none
    | some (.nx, sl1, st1) => runSs Φ ss sl1 st1
    | some r => some r)
end
/-- rows by rows; no rfl, so that the kernel has nothing to open -/
@[simp] theorem runSs_nil (Φ : Fn) (sl : Sl) (st : Store) : runSs Φ .nil sl st = some (.nx, sl, st) := (Eq.refl _).trans rfl
@[simp] theorem runSs_cons (Φ : Fn) (s : S) (ss : Ss) (sl : Sl) (st : Store) : runSs Φ (.cons s ss) sl st = (match runS Φ s sl st with
    | none => none
    | some (.nx, sl1, st1) => runSs Φ ss sl1 st1
    | some r => some r) := (Eq.refl _).trans rfl
/-- what a def hands back; n cells were there at its call -/
def fin (n : Nat) : Option (Fl × Sl × Store) → Option (W × Store)
  | some (.ret (.d x), _, st) => some (.d x, st.take n)
  | some (.ret (.m j), _, st) => if j < n then some (.m j, st.take n) else (match st[j]? with
    | some (.lst _ ds) => some (.d (.list ds), st.take n)
    | none => none)
  | some (.nx, _, st) => some (.d .none, st.take n)
  | _ => none
/-- a def: the parameters, all names, the body -/
structure Fd where
  ps : Nat
  n : Nat
  body : Ss
/-- the slots at a def's start -/
def slots (n : Nat) (ws : List W) : Sl := ws.map some ++ List.replicate (n - ws.length) none
noncomputable def runF (Φ : Fn) (f : Fd) (ws : List W) (st : Store) : Option (W × Store) :=
  if ws.length = f.ps then fin st.length (runSs Φ f.body (slots f.n ws) st) else none
/-- the defs of a table, called at most k deep -/
noncomputable def fns (T : List Fd) : Nat → Fn
  | 0 => fun _ _ _ => none
  | k + 1 => fun f ws st => (match T[f]? with
    | some fd => runF (fns T k) fd ws st
    | none => none)
end WM
namespace WM
open PySem PySem.Spec PyProof.Rows L2
/-- what a global name stands for -/
inductive GV where
  | fn (i n : Nat)
  | con (d : D)
  | bi (b : B)
  | ty (t : Ty)
  | isi
  | set
  | rng
  | zip
  | enum
structure CE where
  N : List Str
  sc : Scope
  own : List Str
  gl : List (Str × GV)
  cells : List Str
def visB (sc : Scope) (x : Str) : Bool := match sc.names.lookup x with
  | some .local => true
  | some .cell => true
  | some .free => true
  | _ => false
def glB (sc : Scope) (x : Str) : Bool := match sc.names.lookup x with
  | some .globalImplicit => true
  | _ => false
def slotOf (C : CE) (x : Str) : Option Nat := match C.N.findIdx? (fun y => decide (y = x)) with
  | some i => if visB C.sc x then some i else none
  | none => none
def stOf (C : CE) (x : Str) : Option Nat := match C.N.findIdx? (fun y => decide (y = x)) with
  | some i => if decide (x ∈ C.own) then some i else none
  | none => none
def globOf (C : CE) (x : Str) : Option GV := if glB C.sc x then C.gl.lookup x else none
def constD : Const → Option D
  | .int i => some (.int i)
  | .bool b => some (.bool b)
  | .none => some .none
  | .str s => some (.str s)
  | _ => none
def tyOf : GV → Option Ty
  | .bi .int => some .int
  | .bi .tuple => some .tuple
  | .bi .list => some .list
  | .ty t => some t
  | _ => none
def okBin : Operator → Bool
  | .Add | .Sub | .Mult | .FloorDiv | .Mod | .Pow | .LShift | .RShift | .BitAnd | .BitOr => true
  | _ => false
mutual
def tgSlots : Tg → List Nat
  | .v i => [i]
  | .t ts => tgsSlots ts
def tgsSlots : Tgs → List Nat
  | .nil => []
  | .cons t ts => tgSlots t ++ tgsSlots ts
end
def tgsLen : Tgs → Nat
  | .nil => 0
  | .cons _ ts => tgsLen ts + 1
mutual
def cmpT : Nat → CE → Expr → Option Tg
  | 0, _, _ => none
  | n + 1, C, e => (match e with
    | .Name x _ => (stOf C x).map .v
    | .Tuple es _ _ => (cmpTs n C es).map .t
    | _ => none)
def cmpTs : Nat → CE → List Expr → Option Tgs
  | 0, _, _ => none
  | n + 1, C, es => (match es with
    | [] => some .nil
    | e :: es => (match cmpT n C e, cmpTs n C es with
      | some t, some ts => some (.cons t ts)
      | _, _ => none))
end
/-- the comprehension's own names, by place -/
def ownOf (C : CE) (scope : Scope) : List (Str × Nat) := scope.names.filterMap fun y => match y.2 with
  | .local => (C.N.findIdx? (fun z => decide (z = y.1))).map fun i => (y.1, i)
  | .cell => (C.N.findIdx? (fun z => decide (z = y.1))).map fun i => (y.1, i)
  | _ => none
def blkE (C : CE) (scope : Scope) : CE := { C with sc := relS scope C.sc, own := scope.names.filterMap fun y => match y.2 with
  | .local => if scope.names.lookup y.1 = some .local then some y.1 else none
  | .cell => if scope.names.lookup y.1 = some .cell then some y.1 else none
  | _ => none }
def isNone1 : Expr → Bool
  | .UnaryOp .USub (.Constant (.int 1) _ _) _ => true
  | _ => false
/-- the xs of len(set(xs)) -/
def setArg (C : CE) (b : B) : List Expr → Option Expr
  | [.Call (.Name s _) [a] [] _] => (match globOf C s with
    | some .set => if b = .len ∧ s = ("set" : Str) then some a else none
    | _ => none)
  | _ => none
mutual
def cmpE : Nat → CE → Expr → Option E
  | 0, _, _ => none
  | n + 1, C, e => (match e with
    | .Constant c _ _ => (constD c).map .lit
    | .Name x _ => (match slotOf C x with
      | some i => some (.var i)
      | none => (match globOf C x with
        | some (.con d) => some (.lit d)
        | _ => none))
    | .BinOp a op b _ => (match cmpE n C a, cmpE n C b with
      | some a', some b' => if okBin op then some (.bin op a' b') else none
      | _, _ => none)
    | .UnaryOp .USub a _ => (cmpE n C a).map .neg
    | .UnaryOp .Not a _ => (cmpE n C a).map .not
    | .BoolOp op [a] _ => cmpE n C a
    | .BoolOp .And (a :: b :: r) pos => (match cmpE n C a, cmpE n C (.BoolOp .And (b :: r) pos) with
      | some a', some b' => some (.and a' b')
      | _, _ => none)
    | .BoolOp .Or (a :: b :: r) pos => (match cmpE n C a, cmpE n C (.BoolOp .Or (b :: r) pos) with
      | some a', some b' => some (.or a' b')
      | _, _ => none)
    | .Compare a [op] [b] _ => (match cmpE n C a, cmpE n C b with
      | some a', some b' => if behindInMarks op b then none else some (.cmp op a' b')
      | _, _ => none)
    | .Compare a [o1, o2] [b, c] _ => (match cmpE n C a, cmpE n C b, cmpE n C c with
      | some a', some b', some c' => if lastMarks [o1, o2] [b, c] then none else some (.cmp2 o1 o2 a' b' c')
      | _, _, _ => none)
    | .Compare a [o1, o2, o3] [b, c, d] _ => (match cmpE n C a, cmpE n C b, cmpE n C c, cmpE n C d with
      | some a', some b', some c', some d' => if lastMarks [o1, o2, o3] [b, c, d] then none else some (.cmp3 o1 o2 o3 a' b' c' d')
      | _, _, _, _ => none)
    | .IfExp c a b _ => (match cmpE n C c, cmpE n C a, cmpE n C b with
      | some c', some a', some b' => some (.ite c' a' b')
      | _, _, _ => none)
    | .Tuple es _ _ => (cmpEs n C es).map .tup
    | .List es _ => (cmpEs n C es).map .lst
    | .Subscript a (.Slice lo hi none _) _ => (match cmpE n C a, cmpO n C lo, cmpO n C hi with
      | some a', some l, some h => some (.sl a' l h)
      | _, _, _ => none)
    | .Subscript a (.Slice none none (some (.UnaryOp .USub (.Constant (.int 1) _ _) _)) _) _ => (cmpE n C a).map .rev
    | .Subscript a b _ => (match cmpR n C a, cmpE n C b with
      | some a', some b' => some (.ix a' b')
      | _, _ => none)
    | .Call (.Name x _) (a :: as) [] _ => (match globOf C x with
      | some (.fn i k) => (match cmpRs n C (a :: as) with
        | some es => if (a :: as).length = k then some (.call i es) else none
        | none => none)
      | some (.bi b) => (match setArg C b (a :: as) with
        | some a1 => if x = ("len" : Str) then (cmpE n C a1).map .lset else none
        | none => (match b with
          | .len => (cmpRs n C (a :: as)).map (.blt b)
          | _ => (cmpEs n C (a :: as)).map (.blt b)))
      | some .isi => (match as with
        | [.Name t _] => (match cmpE n C a, (globOf C t).bind tyOf with
          | some a', some t' => some (.isi a' t')
          | _, _ => none)
        | _ => none)
      | _ => none)
    | .ListComp elt [⟨tg, iter, ifs, 0⟩] scope _ => (match cmpI n C tg iter, cmpT n (blkE C scope) tg, cmpC n (blkE C scope) ifs, cmpE n (blkE C scope) elt with
      | some it, some t, some c, some e' => if blkC C.N C.sc scope (ownOf C scope) && decide (∀ i ∈ tgSlots t, i ∈ (ownOf C scope).map (·.2)) then some (.comp t it c ((ownOf C scope).map (·.2)) e') else none
      | _, _, _, _ => none)
    | _ => none)
/-- a cell as it is -/
def cmpR : Nat → CE → Expr → Option E
  | 0, _, _ => none
  | n + 1, C, e => (match e with
    | .Name x _ => (match slotOf C x with
      | some i => some (.raw i)
      | none => cmpE n C e)
    | _ => cmpE n C e)
def cmpEs : Nat → CE → List Expr → Option Es
  | 0, _, _ => none
  | n + 1, C, es => (match es with
    | [] => some .nil
    | e :: es => (match cmpE n C e, cmpEs n C es with
      | some a, some b => some (.cons a b)
      | _, _ => none))
def cmpRs : Nat → CE → List Expr → Option Es
  | 0, _, _ => none
  | n + 1, C, es => (match es with
    | [] => some .nil
    | e :: es => (match cmpR n C e, cmpRs n C es with
      | some a, some b => some (.cons a b)
      | _, _ => none))
def cmpO : Nat → CE → Option Expr → Option Oe
  | 0, _, _ => none
  | n + 1, C, e => (match e with
    | none => some .none
    | some e => (cmpE n C e).map .some)
def cmpC : Nat → CE → List Expr → Option Oe
  | 0, _, _ => none
  | n + 1, C, es => (match es with
    | [] => some .none
    | [e] => (cmpE n C e).map .some
    | _ => none)
def cmpI : Nat → CE → Expr → Expr → Option I
  | 0, _, _, _ => none
  | n + 1, C, tg, e => (match e with
    | .Call (.Name x _) [a] [] _ => (match globOf C x with
      | some .rng => (cmpE n C a).map .rng1
      | some .enum => (match tg with
        | .Tuple _ _ _ => (cmpE n C a).map .enum
        | _ => none)
      | _ => (cmpE n C e).map .val)
    | .Call (.Name x _) [a, b] [] _ => (match globOf C x with
      | some .rng => (match cmpE n C a, cmpE n C b with
        | some a', some b' => some (.rng2 a' b')
        | _, _ => none)
      | some .zip => (match tg, cmpE n C a, cmpE n C b with
        | .Tuple _ _ _, some a', some b' => some (.zip a' b')
        | _, _, _ => none)
      | _ => (cmpE n C e).map .val)
    | _ => (cmpE n C e).map .val)
end
/-- how the names of a row of targets are stored: from the right (some names), or by unpacking (none); none at all: not served -/
def swapB (C : CE) (ts vs : List Expr) : Option (Option (List Str)) :=
  if !(ts.length == 2 || ts.length == 3) || vs.length != ts.length then some none
  else if vs.any fun | .Starred .. => true | _ => false then none
  else
    let line := (ts.head?.map (·.pos.line)).getD 0
    let names := ts.filterMap fun
      | .Name id pos => if C.sc.names.lookup id == some .local && pos.line == line then some id else none
      | _ => none
    if names.length != ts.length || names.eraseDups.length != names.length then some none
    else if vs.all (foldedForSure 8) then some none
    else if vs.all (constantsAlone 8) then none
    else some (some names)
/-- x = [..] on one line, x a local: the comprehension lays the list into x itself -/
def swapsB (C : CE) (x : Str) (line vline : Nat) (scope : Scope) : Bool :=
  decide (C.sc.names.lookup x = some .local) && (line == vline) && !(scope.names.any fun (n, k) => n == x && (k == .local || k == .cell))
def isLC : Expr → Bool
  | .ListComp .. => true
  | .SetComp .. => true
  | .DictComp .. => true
  | _ => false
/-- a list that is new -/
def cmpN : Nat → CE → Expr → Option E
  | 0, _, _ => none
  | n + 1, C, e => (match e with
    | .List es _ => (cmpEs n C es).map .lst
    | .BinOp (.List es _) .Mult b _ => (match cmpEs n C es, cmpE n C b with
      | some es', some b' => some (.bin .Mult (.lst es') b')
      | _, _ => none)
    | .Call (.Name x _) [a] [] _ => (match globOf C x, cmpE n C a with
      | some (.bi .list), some a' => some (.blt .list (.cons a' .nil))
      | _, _ => none)
    | _ => none)
def stsOf (C : CE) : List Str → Option (List Nat)
  | [] => some []
  | x :: xs => (match stOf C x, stsOf C xs with
    | some i, some is => some (i :: is)
    | _, _ => none)
mutual
def cmpS : Nat → CE → Stmt → Option S
  | 0, _, _ => none
  | n + 1, C, s => (match s with
    | .Assign [.Name x _] e _ => if decide (x ∈ C.cells) then (match stOf C x, cmpN n C e with
        | some i, some e' => some (.setC i e')
        | _, _ => none)
      else (match stOf C x, cmpE n C e with
        | some i, some e' => some (.set i e')
        | _, _ => none)
    | .Assign [.Tuple ts _ _] e pos => (match e with
      | .Tuple vs _ _ => (match swapB C ts vs with
        | some (some xs) => (match stsOf C xs, cmpEs n C vs with
          | some is, some es => some (.par is es)
          | _, _ => none)
        | some none => (match cmpTs n C ts, cmpE n C e with
          | some tg, some e' => some (.unp tg e')
          | _, _ => none)
        | none => none)
      | _ => (match cmpTs n C ts, cmpE n C e with
        | some tg, some e' => if isLC e then none else some (.unp tg e')
        | _, _ => none))
    | .Assign [.Subscript (.Name x _) k _] e _ => (match slotOf C x, cmpE n C k, cmpE n C e with
      | some i, some k', some e' => if isLC e then none else some (.put i k' e')
      | _, _, _ => none)
    | .Expr (.Call (.Attribute (.Name x _) a apos) [e] [] cpos) _ => (match slotOf C x, cmpE n C e with
      | some i, some e' => if decide (a = "append") && (apos.endLine == cpos.line) then some (.app i e') else none
      | _, _ => none)
    | .Expr (.Call f as [] p) _ => (cmpE n C (.Call f as [] p)).map .expr
    | .If c a b _ => (match cmpE n C c, cmpSs n C a, cmpSs n C b with
      | some c', some a', some b' => some (.ite c' a' b')
      | _, _, _ => none)
    | .For tg it b [] _ => (match cmpI n C tg it, cmpT n C tg, cmpSs n C b with
      | some i, some t, some b' => some (.for t i b')
      | _, _, _ => none)
    | .While c b [] _ => (match cmpE n C c, cmpSs n C b with
      | some c', some b' => some (.whl c' b')
      | _, _ => none)
    | .Return (some e) _ => (cmpE n C e).map .ret
    | .Return none _ => some .retN
    | .Raise _ _ _ => some .nev
    | .Pass _ => some .pas
    | .Break _ => some .brk
    | .Continue _ => some .ctn
    | _ => none)
def cmpSs : Nat → CE → List Stmt → Option Ss
  | 0, _, _ => none
  | n + 1, C, ss => (match ss with
    | [] => some .nil
    | s :: ss => (match cmpS n C s, cmpSs n C ss with
      | some a, some b => some (.cons a b)
      | _, _ => none))
end
end WM
namespace WM
open PySem PySem.Spec PyProof.Rows L2
theorem andW_some {β : Type} {r : Option (W × Store)} {f : W → Store → Option β} {z : β} (h : andW r f = some z) : ∃ w st, r = some (w, st) ∧ f w st = some z := by
  unfold andW at h
  split at h
  · exact ⟨_, _, rfl, h⟩
  · cases h
theorem andD_some {β : Type} {r : Option (W × Store)} {f : D → Store → Option β} {z : β} (h : andD r f = some z) : ∃ x st, r = some (.d x, st) ∧ f x st = some z := by
  unfold andD at h
  split at h
  · exact ⟨_, _, rfl, h⟩
  · cases h
theorem okD_some {d : Option D} {st : Store} {z : W × Store} (h : okD d st = some z) : ∃ x, d = some x ∧ z = (.d x, st) := by
  unfold okD at h
  split at h
  · cases h; exact ⟨_, rfl, rfl⟩
  · cases h
theorem okB_some {d : Option Bool} {st : Store} {z : W × Store} (h : okB d st = some z) : ∃ x, d = some x ∧ z = (.d (.bool x), st) := by
  unfold okB at h
  split at h
  · cases h; exact ⟨_, rfl, rfl⟩
  · cases h
theorem okL_some {d : Option (List D)} {st : Store} {z : List D × Store} (h : okL d st = some z) : ∃ x, d = some x ∧ z = (x, st) := by
  unfold okL at h
  split at h
  · cases h; exact ⟨_, rfl, rfl⟩
  · cases h
/-- a def's promise: it hands back what g says -/
def spD (K : PySem.W.Frag) (g : List W → Store → Option (W × Store)) (n : Nat) : Sp := fun vs H Q _ => vs.length = n ∧ ∃ P ca G st ws w st', HM K P ca G H st ∧ RWs K ca G vs ws ∧ g ws st = some (w, st') ∧
  ∀ v G' H', Same G G' → HM K P ca G' H' st' → RW K ca G' v w → Q v H'
def GOk (Φ : Fn) (k : Nat) (X : Cx) (x : Str) : GV → Prop
  | .fn i n => ∃ f fd ps, X.mg x = some (.ref f) ∧ PySem.W.keepIn X.K (.ref f) = true ∧ Binds X.K fd ps [] ∧ ps.length = n ∧ FnOk X.prog X.w X.K X.mg X.base CX0 k f fd ps (spD X.K (Φ i) n)
  | .con d => ∃ v u, X.mg x = some u ∧ RelV v u ∧ ∀ G, Rp X.K G v d
  | .bi b => (b ≠ .gcd ∧ X.mg x = none ∧ bootBuiltins x = some b.val) ∨ (b = .gcd ∧ X.mg x = some b.val)
  | .ty t => X.mg x = none ∧ bootBuiltins x = some (.type t.nm)
  | .isi => X.mg x = none ∧ bootBuiltins x = some (.builtin "isinstance")
  | .set => X.mg x = none
  | .rng => X.mg x = none ∧ x = "range"
  | .zip => X.mg x = none ∧ x = "zip"
  | .enum => X.mg x = none ∧ x = "enumerate"
structure XOk (Φ : Fn) (k : Nat) (X : Cx) (C : CE) : Prop where
  hN : X.N = C.N
  hsc : X.env.scope = C.sc
  kd : C.sc.kind = .function
  nd : C.N.Nodup
  calm : X.calm = true
  dbg : ∀ x ∈ C.N, (x == ("__debug__" : Str)) = false ∧ (x == ("__classdict__" : Str)) = false
  own : ∀ x ∈ C.own, Loc C.sc x ∧ (X.fn x = true ∨ C.sc.names.lookup x = some .local)
  gdbg : ∀ x g, C.gl.lookup x = some g → (x == ("__debug__" : Str)) = false ∧ x ≠ ("__name__" : Str)
  gl : ∀ x g, C.gl.lookup x = some g → GOk Φ k X x g
  room : Room k X.A
  xe : X.xe = fun _ _ => False
section
variable {Φ : Fn} {k : Nat} {X : Cx} {C : CE}
theorem XOk.pass (x : XOk Φ k X C) : PassesOwn (model X.prog X.w) X.A X.env X.xe := by
  rw [x.xe]
  exact PassesOwn.never
theorem XOk.u65 (x : XOk Φ k X C) : X.A.units + 65 < cLine := by
  have := x.room.un
  omega
theorem XOk.u64 (x : XOk Φ k X C) : X.A.units + 64 < cLine := x.room.units
theorem findIdx_ok {N : List Str} {x : Str} {i : Nat} (h : N.findIdx? (fun y => decide (y = x)) = some i) : N[i]? = some x := by
  obtain ⟨h1, h2, h3⟩ := List.findIdx?_eq_some_iff_getElem.mp h
  have e : N[i] = x := of_decide_eq_true h2
  rw [List.getElem?_eq_getElem h1, e]
theorem slotOf_ok (x : XOk Φ k X C) {y : Str} {i : Nat} (h : slotOf C y = some i) : X.N[i]? = some y ∧ Vis X.env.scope y ∧ (y == ("__debug__" : Str)) = false ∧ (y == ("__classdict__" : Str)) = false := by
  unfold slotOf at h
  split at h
  · rename_i j hj
    split at h
    · rename_i hv
      cases h
      have e := findIdx_ok hj
      have d := x.dbg y (List.mem_of_getElem? e)
      refine ⟨by rw [x.hN]; exact e, ?_, d.1, d.2⟩
      rw [x.hsc]
      unfold visB at hv
      unfold Vis
      split at hv <;> simp_all
    · cases h
  · cases h
theorem stOf_ok (x : XOk Φ k X C) {y : Str} {i : Nat} (h : stOf C y = some i) : X.N[i]? = some y ∧ Loc X.env.scope y ∧ (X.fn y = true ∨ X.env.scope.names.lookup y = some .local) := by
  unfold stOf at h
  split at h
  · rename_i j hj
    split at h
    · rename_i hv
      cases h
      have e := findIdx_ok hj
      have d := x.own y (of_decide_eq_true hv)
      refine ⟨by rw [x.hN]; exact e, ?_, ?_⟩
      · rw [x.hsc]; exact d.1
      · rw [x.hsc]; exact d.2
    · cases h
  · cases h
theorem globOf_ok (x : XOk Φ k X C) {y : Str} {g : GV} (h : globOf C y = some g) : Gl X y ∧ GOk Φ k X y g ∧ (y == ("__debug__" : Str)) = false ∧ y ≠ ("__name__" : Str) := by
  unfold globOf at h
  split at h
  · rename_i hg
    refine ⟨?_, x.gl y g h, x.gdbg y g h⟩
    show X.env.scope.names.lookup y = some .globalImplicit
    rw [x.hsc]
    unfold glB at hg
    split at hg
    · assumption
    · cases hg
  · cases h
variable {e a b c d : Expr} {fa fb fc fd : EM} {pos : Pos}
theorem se_lit {t : D} {v : V} (h : PE X e (tC v)) (r : ∀ G, Rp X.K G v t) : PE X e (tE X.K fun _ st => some (.d t, st)) :=
  h.weak fun σ H Q ⟨P, ca, G, sl, st, w, st', hm, hs, e, q⟩ => by
    cases e
    exact q v ca G H Nxt.refl hm (r G)
theorem freeze_ok {K : PySem.W.Frag} {ca : List Addr} {G H : Hp} {st st' : Store} {j : Nat} {w : W} {a : Addr} (hm : HM K P ca G H st) (ha : ca[j]? = some a) (h : freeze j st = some (w, st')) :
    ∃ G', Nxt ca G ca G' ∧ HM K P ca G' H st' ∧ RW K ca G' (.ref a) w := by
  unfold freeze at h
  split at h
  · rename_i fz ds hj
    cases h
    obtain ⟨xs, h1, h2, hz, h3⟩ := hm.cell j a _ ha hj
    cases fz with
    | true =>
      have h3 : G a = some (.lst xs) := h3
      have es : st.set j (.lst true ds) = st := by
        refine List.ext_getElem? fun i => ?_
        by_cases hi : j = i
        · subst hi
          rw [List.getElem?_set_self (List.getElem?_eq_some_iff.mp hj).1, hj]
        · rw [List.getElem?_set_ne hi]
      rw [es]
      exact ⟨G, Nxt.refl, hm, .lst h3 h2⟩
    | false =>
      have h3 : G a = none := h3
      refine ⟨upd G a (.lst xs), Nxt.of (same_upd h3), ⟨fun b o e => ?_, by rw [List.length_set]; exact hm.len, hm.nd, fun i b c e1 e2 => ?_, hm.prot, hm.pdis, fun b u q => by
        rw [upd_ne (fun z => by subst z; rw [hm.pdis b (List.mem_of_getElem? ha)] at q; cases q)]
        exact hm.pg b u q⟩, .lst upd_same (Rps.mono (same_upd h3) h2)⟩
      · by_cases hb : b = a
        · subst hb
          rw [upd_same] at e
          rw [← e]
          exact h1
        · rw [upd_ne hb] at e
          exact hm.sub _ _ e
      · by_cases hi : j = i
        · subst hi
          rw [ha] at e1
          cases e1
          rw [List.getElem?_set_self (List.getElem?_eq_some_iff.mp hj).1] at e2
          cases e2
          exact ⟨xs, h1, Rps.mono (same_upd h3) h2, hz, upd_same⟩
        · rw [List.getElem?_set_ne hi] at e2
          have hne : b ≠ a := fun z => by
            subst z
            obtain ⟨l1, e1'⟩ := List.getElem?_eq_some_iff.mp e1
            obtain ⟨l2, e2'⟩ := List.getElem?_eq_some_iff.mp ha
            exact hi ((List.getElem_inj hm.nd).mp (e2'.trans e1'.symm))
          cases c with
          | lst fz' ds' =>
            obtain ⟨ys, g1, g2, gz, g3⟩ := hm.cell i b _ e1 e2
            refine ⟨ys, g1, Rps.mono (same_upd h3) g2, gz, ?_⟩
            cases fz' with
            | true =>
              show upd G a (.lst xs) b = _
              rw [upd_ne hne]
              exact g3
            | false =>
              show upd G a (.lst xs) b = _
              rw [upd_ne hne]
              exact g3
  · cases h
theorem se_var {i : Nat} (h : PE X e (tVar i)) : PE X e (tE X.K fun sl st => rdVar sl i st) :=
  h.weak fun σ H Q ⟨P, ca, G, sl, st, w, st', hm, hs, e, q⟩ => by
    replace e : rdVar sl i st = _ := e
    unfold rdVar at e
    split at e
    · rename_i x hx
      cases e
      obtain ⟨v, e1, r⟩ := hs.at_ i _ hx
      exact ⟨v, e1, q v ca G H Nxt.refl hm r⟩
    · rename_i j hx
      obtain ⟨v, e1, a, ha, ev⟩ := hs.at_ i _ hx
      subst ev
      obtain ⟨G', n, hm', r⟩ := freeze_ok hm ha e
      exact ⟨_, e1, q _ ca G' H n hm' r⟩
    · cases e
theorem se_raw {i : Nat} (h : PE X e (tVar i)) : PE X e (tE X.K fun sl st => rdRaw sl i st) :=
  h.weak fun σ H Q ⟨P, ca, G, sl, st, w, st', hm, hs, e, q⟩ => by
    replace e : rdRaw sl i st = _ := e
    unfold rdRaw at e
    split at e
    · rename_i x hx
      cases e
      obtain ⟨v, e1, r⟩ := hs.at_ i _ hx
      exact ⟨v, e1, q v ca G H Nxt.refl hm r⟩
    · cases e
/-- two values, then an operation on data -/
theorem te_two {K : PySem.W.Frag} {g : D → D → Store → Option (W × Store)} {r : R2} (hr : ∀ P ca G H st x y dx dy w st' Q, HM K P ca G H st → Rp K G x dx → Rp K G y dy → g dx dy st = some (w, st') →
      (∀ v ca' G' H', Nxt ca G ca' G' → HM K P ca' G' H' st' → RW K ca' G' v w → Q v H') → r x y H Q) {σ : L2.St} {H : Hp} {Q : VK}
    (h : tE K (fun sl st => andD (fa sl st) fun x st1 => andD (fb sl st1) fun y st2 => g x y st2) σ H Q) : tOp r (tE K fa) (tE K fb) σ H Q := by
  obtain ⟨P, ca, G, sl, st, w, st', hm, hs, e, q⟩ := h
  obtain ⟨x, st1, e1, e⟩ := andD_some e
  obtain ⟨y, st2, e2, e⟩ := andD_some e
  refine ⟨P, ca, G, sl, st, _, _, hm, hs, e1, fun v1 ca1 G1 H1 n1 hm1 r1 => ?_⟩
  refine ⟨P, ca1, G1, sl, st1, _, _, hm1, hs.mono n1, e2, fun v2 ca2 G2 H2 n2 hm2 r2 => ?_⟩
  exact hr P ca2 G2 H2 st2 v1 v2 x y w st' Q hm2 (Rp.mono n2.s r1) r2 e fun v ca' G' H' n3 hm3 r3 => q v ca' G' H' ((n1.trans n2).trans n3) hm3 r3
theorem se_bin {op : Operator} (ha : PE X a (tE X.K fa)) (hb : PE X b (tE X.K fb)) : PE X (.BinOp a op b pos) (tE X.K fun sl st => andD (fa sl st) fun x st1 => andD (fb sl st1) fun y st2 => okD (binK op x y) st2) :=
  (pe_op (op_binD op) ha hb).weak fun σ H Q h => te_two (fun P ca G H st x y dx dy w st' Q hm rx ry e q => by
    obtain ⟨d, e1, e2⟩ := okD_some e
    cases e2
    exact ⟨G, dx, dy, d, hm.sub, rx, ry, binK_eq op dx dy ▸ e1, fun v G' H' ex r => q v ca G' H' (Nxt.of ex.g) (hm.ext ex) r⟩) h
theorem se_cmp {op : CmpOp} (x : XOk Φ k X C) (ha : PE X a (tE X.K fa)) (hb : PE X b (tE X.K fb)) (hk : behindInMarks op b = false) : PE X (.Compare a [op] [b] pos) (tE X.K fun sl st => andD (fa sl st) fun x st1 => andD (fb sl st1) fun y st2 => okB (cmpD op x y) st2) :=
  (pe_cmpR (op_cmpD x.u65 op) ha hb hk).weak fun σ H Q h => te_two (fun P ca G H st x y dx dy w st' Q hm rx ry e q => by
    obtain ⟨d, e1, e2⟩ := okB_some e
    cases e2
    exact ⟨G, dx, dy, d, hm.sub, rx, ry, e1, q _ ca G H Nxt.refl hm (.bl _)⟩) h
/-- a test from a value -/
theorem tt_of {K : PySem.W.Frag} {f : EM} {t : TT} {σ : L2.St} {H : Hp} {Q : Bool → Hp → Prop} (h : tT K f σ H Q)
    (w : ∀ P ca G sl st w st' b, HM K P ca G H st → SlOk K ca G σ sl → f sl st = some (w, st') → truW w = some b → (∀ ca' G' H', Nxt ca G ca' G' → HM K P ca' G' H' st' → Q b H') → t σ H Q) : t σ H Q := by
  obtain ⟨P, ca, G, sl, st, w', st', b, hm, hs, e, et, q⟩ := h
  exact w P ca G sl st w' st' b hm hs e et q
theorem st_cmp {op : CmpOp} (x : XOk Φ k X C) (ha : PE X a (tE X.K fa)) (hb : PE X b (tE X.K fb)) (hk : behindInMarks op b = false) : PT X (.Compare a [op] [b] pos) (tT X.K fun sl st => andD (fa sl st) fun x st1 => andD (fb sl st1) fun y st2 => okB (cmpD op x y) st2) :=
  (pt_cmpR (op_cmpD x.u65 op) ha hb hk).weak fun σ H Q h => by
    obtain ⟨P, ca, G, sl, st, w', st', t, hm, hs, e, et, q⟩ := h
    refine te_two (r := rC X.K (cmpD op)) (fun P ca G H st x y dx dy w st' Q hm rx ry e q => ?_) ⟨P, ca, G, sl, st, w', st', hm, hs, e, fun v ca' G' H' n hm' r => ?_⟩
    · obtain ⟨d, e1, e2⟩ := okB_some e
      cases e2
      exact ⟨G, dx, dy, d, hm.sub, rx, ry, e1, q _ ca G H Nxt.refl hm (.bl _)⟩
    · obtain ⟨x1, st1, e1, e⟩ := andD_some e
      obtain ⟨y1, st2, e2, e⟩ := andD_some e
      obtain ⟨d, e3, e4⟩ := okB_some e
      cases e4
      cases et
      cases r
      exact ⟨_, rfl, q ca' G' H' n hm'⟩
theorem TruV_of {K : PySem.W.Frag} {G H : Hp} {v : V} {d : D} {t : Bool} (s : Same G H) (r : Rp K G v d) (e : truD d = some t) : TruV K v H t := by
  cases r with
  | non => cases e; rfl
  | bl b => cases e; rfl
  | int i => cases e; rfl
  | str x =>
    unfold truD at e
    simp only at e
    split at e
    · rename_i hz
      cases e
      exact ⟨hz, rfl⟩
    · cases e
  | @lst a xs ds h al =>
    cases e
    refine .inl ⟨xs, SqL.of (s _ _ h), ?_⟩
    cases al <;> rfl
  | @tup a xs ds h al =>
    cases e
    refine .inr (.inl ⟨xs, SqT.mono s h, ?_⟩)
    cases al <;> rfl
theorem TruV_w {K : PySem.W.Frag} {ca : List Addr} {G H : Hp} {v : V} {w : W} {t : Bool} (s : Same G H) (r : RW K ca G v w) (e : truW w = some t) : TruV K v H t := by
  cases w with
  | d x => exact TruV_of s r e
  | m i => cases e
/-- any value as a test -/
theorem st_val (h : PE X e (tE X.K fa)) (he : ∀ whole, isTrue e X.env whole = (do let v ← whole; standAt e.pos; holding [v] (truthy v))) : PT X e (tT X.K fa) :=
  (pt_truth h he).weak fun σ H Q ⟨P, ca, G, sl, st, w', st', t, hm, hs, e, et, q⟩ =>
    ⟨P, ca, G, sl, st, w', st', hm, hs, e, fun v ca' G' H' n hm' r => ⟨t, TruV_w hm'.sub r et, q ca' G' H' n hm'⟩⟩
theorem se_neg (ha : PE X a (tE X.K fa)) : PE X (.UnaryOp .USub a pos) (tE X.K fun sl st => andD (fa sl st) fun x st1 => okD (negD x) st1) :=
  (pe_un un_negD ha).weak fun σ H Q ⟨P, ca, G, sl, st, w, st', hm, hs, e, q⟩ => by
    obtain ⟨x, st1, e1, e⟩ := andD_some e
    obtain ⟨d, e2, e3⟩ := okD_some e
    cases e3
    exact ⟨P, ca, G, sl, st, _, _, hm, hs, e1, fun v1 ca1 G1 H1 n1 hm1 r1 => ⟨G1, x, d, hm1.sub, r1, e2, fun v G' H' ex r => q v ca1 G' H' (n1.trans (Nxt.of ex.g)) (hm1.ext ex) r⟩⟩
theorem se_not (ha : PE X a (tE X.K fa)) : PE X (.UnaryOp .Not a pos) (tE X.K fun sl st => andW (fa sl st) fun w st1 => okB ((truW w).map (! ·)) st1) :=
  (pe_notT ha).weak fun σ H Q ⟨P, ca, G, sl, st, w, st', hm, hs, e, q⟩ => by
    obtain ⟨x, st1, e1, e⟩ := andW_some e
    obtain ⟨d, e2, e3⟩ := okB_some e
    cases e3
    cases et : truW x with
    | none => rw [et] at e2; cases e2
    | some t =>
      rw [et] at e2
      cases e2
      exact ⟨P, ca, G, sl, st, _, _, hm, hs, e1, fun v1 ca1 G1 H1 n1 hm1 r1 => ⟨t, TruV_w hm1.sub r1 et, q _ ca1 G1 H1 n1 hm1 (.bl _)⟩⟩
theorem st_not (ha : PT X a (tT X.K fa)) : PT X (.UnaryOp .Not a pos) (tT X.K fun sl st => andW (fa sl st) fun w st1 => okB ((truW w).map (! ·)) st1) :=
  (pt_not ha).weak fun σ H Q ⟨P, ca, G, sl, st, w, st', t, hm, hs, e, et, q⟩ => by
    obtain ⟨x, st1, e1, e⟩ := andW_some e
    obtain ⟨d, e2, e3⟩ := okB_some e
    cases e3
    cases et
    cases ex : truW x with
    | none => rw [ex] at e2; cases e2
    | some t =>
      rw [ex] at e2
      cases e2
      exact ⟨P, ca, G, sl, st, _, _, t, hm, hs, e1, ex, fun ca1 G1 H1 n1 hm1 => q ca1 G1 H1 n1 hm1⟩
def andM (fa fb : EM) : EM := fun sl st => andW (fa sl st) fun w st1 => (match truW w with
    | none => none
    | some false => some (w, st1)
    | some true => fb sl st1)
def orM (fa fb : EM) : EM := fun sl st => andW (fa sl st) fun w st1 => (match truW w with
    | none => none
    | some true => some (w, st1)
    | some false => fb sl st1)
def iteM (fc fa fb : EM) : EM := fun sl st => andW (fc sl st) fun w st1 => (match truW w with
    | none => none
    | some true => fa sl st1
    | some false => fb sl st1)
theorem se_and {r : List Expr} (ha : PE X a (tE X.K fa)) (hb : PE X (.BoolOp .And (b :: r) pos) (tE X.K fb)) : PE X (.BoolOp .And (a :: b :: r) pos) (tE X.K (andM fa fb)) :=
  (pe_andT ha hb).weak fun σ H Q ⟨P, ca, G, sl, st, w, st', hm, hs, e, q⟩ => by
    obtain ⟨x, st1, e1, e⟩ := andW_some e
    refine ⟨P, ca, G, sl, st, _, _, hm, hs, e1, fun v1 ca1 G1 H1 n1 hm1 r1 => ?_⟩
    split at e
    · cases e
    · rename_i et
      cases e
      exact ⟨false, TruV_w hm1.sub r1 et, iteF (q _ ca1 G1 H1 n1 hm1 r1)⟩
    · rename_i et
      exact ⟨true, TruV_w hm1.sub r1 et, iteT (⟨P, ca1, G1, sl, st1, _, _, hm1, hs.mono n1, e, fun v2 ca2 G2 H2 n2 hm2 r2 => q _ _ _ _ (n1.trans n2) hm2 r2⟩)⟩
theorem se_or {r : List Expr} (ha : PE X a (tE X.K fa)) (hb : PE X (.BoolOp .Or (b :: r) pos) (tE X.K fb)) : PE X (.BoolOp .Or (a :: b :: r) pos) (tE X.K (orM fa fb)) :=
  (pe_orT ha hb).weak fun σ H Q ⟨P, ca, G, sl, st, w, st', hm, hs, e, q⟩ => by
    obtain ⟨x, st1, e1, e⟩ := andW_some e
    refine ⟨P, ca, G, sl, st, _, _, hm, hs, e1, fun v1 ca1 G1 H1 n1 hm1 r1 => ?_⟩
    split at e
    · cases e
    · rename_i et
      cases e
      exact ⟨true, TruV_w hm1.sub r1 et, iteT (q _ ca1 G1 H1 n1 hm1 r1)⟩
    · rename_i et
      exact ⟨false, TruV_w hm1.sub r1 et, iteF (⟨P, ca1, G1, sl, st1, _, _, hm1, hs.mono n1, e, fun v2 ca2 G2 H2 n2 hm2 r2 => q _ _ _ _ (n1.trans n2) hm2 r2⟩)⟩
theorem st_and {r : List Expr} (ha : PT X a (tT X.K fa)) (hb : PW X (.BoolOp .And (b :: r) pos) (tT X.K fb)) : PW X (.BoolOp .And (a :: b :: r) pos) (tT X.K (andM fa fb)) :=
  (pw_and ha hb).weak fun σ H Q ⟨P, ca, G, sl, st, w, st', t, hm, hs, e, et, q⟩ => by
    obtain ⟨x, st1, e1, e⟩ := andW_some e
    split at e
    · cases e
    · rename_i ex
      cases e
      rw [ex] at et
      cases et
      exact ⟨P, ca, G, sl, st, _, _, _, hm, hs, e1, ex, fun ca1 G1 H1 n1 hm1 => iteF (q ca1 G1 H1 n1 hm1)⟩
    · rename_i ex
      exact ⟨P, ca, G, sl, st, _, _, _, hm, hs, e1, ex, fun ca1 G1 H1 n1 hm1 => iteT (⟨P, ca1, G1, sl, st1, _, _, _, hm1, hs.mono n1, e, et, fun ca2 G2 H2 n2 hm2 => q _ _ _ (n1.trans n2) hm2⟩)⟩
theorem st_or {r : List Expr} (ha : PT X a (tT X.K fa)) (hb : PW X (.BoolOp .Or (b :: r) pos) (tT X.K fb)) : PW X (.BoolOp .Or (a :: b :: r) pos) (tT X.K (orM fa fb)) :=
  (pw_or ha hb).weak fun σ H Q ⟨P, ca, G, sl, st, w, st', t, hm, hs, e, et, q⟩ => by
    obtain ⟨x, st1, e1, e⟩ := andW_some e
    split at e
    · cases e
    · rename_i ex
      cases e
      rw [ex] at et
      cases et
      exact ⟨P, ca, G, sl, st, _, _, _, hm, hs, e1, ex, fun ca1 G1 H1 n1 hm1 => iteT (q ca1 G1 H1 n1 hm1)⟩
    · rename_i ex
      exact ⟨P, ca, G, sl, st, _, _, _, hm, hs, e1, ex, fun ca1 G1 H1 n1 hm1 => iteF (⟨P, ca1, G1, sl, st1, _, _, _, hm1, hs.mono n1, e, et, fun ca2 G2 H2 n2 hm2 => q _ _ _ (n1.trans n2) hm2⟩)⟩
theorem st_and1 (ha : PT X a (tT X.K fa)) : PW X (.BoolOp .And [a] pos) (tT X.K fa) := pw_and1 ha
theorem st_or1 (ha : PT X a (tT X.K fa)) : PW X (.BoolOp .Or [a] pos) (tT X.K fa) := pw_or1 ha
theorem se_ite (hc : PT X c (tT X.K fc)) (ha : PE X a (tE X.K fa)) (hb : PE X b (tE X.K fb)) : PE X (.IfExp c a b pos) (tE X.K (iteM fc fa fb)) :=
  (pe_ifExp hc ha hb).weak fun σ H Q ⟨P, ca, G, sl, st, w, st', hm, hs, e, q⟩ => by
    obtain ⟨x, st1, e1, e⟩ := andW_some e
    split at e
    · cases e
    · rename_i ex
      exact ⟨P, ca, G, sl, st, _, _, _, hm, hs, e1, ex, fun ca1 G1 H1 n1 hm1 => iteT (⟨P, ca1, G1, sl, st1, _, _, hm1, hs.mono n1, e, fun v2 ca2 G2 H2 n2 hm2 r2 => q _ _ _ _ (n1.trans n2) hm2 r2⟩)⟩
    · rename_i ex
      exact ⟨P, ca, G, sl, st, _, _, _, hm, hs, e1, ex, fun ca1 G1 H1 n1 hm1 => iteF (⟨P, ca1, G1, sl, st1, _, _, hm1, hs.mono n1, e, fun v2 ca2 G2 H2 n2 hm2 r2 => q _ _ _ _ (n1.trans n2) hm2 r2⟩)⟩
def tIfT (t ta tb : TT) : TT := fun σ H Q => t σ H fun c H1 => if c = true then ta σ H1 Q else tb σ H1 Q
theorem pt_ifExp {tc ta tb : TT} (hc : PT X c tc) (ha : PT X a ta) (hb : PT X b tb) : PT X (.IfExp c a b pos) (tIfT tc ta tb) := by
  refine ⟨fun pins s σ H Q I h => ?_⟩
  show wpAny _ _ (do if ← isTrue c X.env (eval c X.env) then isTrue a X.env (eval a X.env) else isTrue b X.env (eval b X.env)) _ _ s
  refine wpAny_bind (thn (hc.run pins s σ H _ I h) fun d s1 ⟨H1, I1, q1⟩ => ?_)
  cases d with
  | true => exact ha.run pins s1 σ H1 Q I1 q1
  | false => exact hb.run pins s1 σ H1 Q I1 q1
theorem st_ite (hc : PT X c (tT X.K fc)) (ha : PT X a (tT X.K fa)) (hb : PT X b (tT X.K fb)) : PT X (.IfExp c a b pos) (tT X.K (iteM fc fa fb)) :=
  (pt_ifExp hc ha hb).weak fun σ H Q ⟨P, ca, G, sl, st, w, st', t, hm, hs, e, et, q⟩ => by
    obtain ⟨x, st1, e1, e⟩ := andW_some e
    split at e
    · cases e
    · rename_i ex
      exact ⟨P, ca, G, sl, st, _, _, _, hm, hs, e1, ex, fun ca1 G1 H1 n1 hm1 => iteT (⟨P, ca1, G1, sl, st1, _, _, _, hm1, hs.mono n1, e, et, fun ca2 G2 H2 n2 hm2 => q _ _ _ (n1.trans n2) hm2⟩)⟩
    · rename_i ex
      exact ⟨P, ca, G, sl, st, _, _, _, hm, hs, e1, ex, fun ca1 G1 H1 n1 hm1 => iteF (⟨P, ca1, G1, sl, st1, _, _, _, hm1, hs.mono n1, e, et, fun ca2 G2 H2 n2 hm2 => q _ _ _ (n1.trans n2) hm2⟩)⟩
end
end WM
namespace WM
open PySem PySem.Spec PyProof.Rows L2
section
variable {Φ : Fn} {k : Nat} {X : Cx} {C : CE}
variable {e a b c d : Expr} {fa fb fc fd : EM} {pos : Pos}
def tChain3 (r r' r'' : R2) (ta tb tc td : TE) : TE := fun σ H Q => ta σ H fun x H1 => tb σ H1 fun y H2 => r x y H2 fun z H3 => ∃ k, z = .bl k ∧
  (if k = true then tc σ H3 fun w' H4 => r' y w' H4 fun z2 H5 => ∃ k2, z2 = .bl k2 ∧ (if k2 = true then td σ H5 fun u H6 => r'' w' u H6 Q else Q (.bl false) H5) else Q (.bl false) H3)
theorem pe_chain3 {op op' op'' : CmpOp} {r r' r'' : R2} {ta tb tc td : TE} (ho : OpR X (compareOp op) r) (ho' : OpR X (compareOp op') r') (ho'' : OpR X (compareOp op'') r'') (ha : PE X a ta) (hb : PE X b tb) (hc : PE X c tc) (hd : PE X d td)
    (hm : lastMarks [op, op', op''] [b, c, d] = false) : PE X (.Compare a [op, op', op''] [b, c, d] pos) (tChain3 r r' r'' ta tb tc td) := by
  refine ⟨fun pins s σ H Q I h => ?_⟩
  refine Compare_chain (thn (ha.run pins s σ H _ I h) fun v s1 ⟨x, H1, I1, r1, q1⟩ => chain_link (thn (hb.run pins s1 σ H1 _ I1 q1) fun u s2 ⟨y, H2, I2, r2, q2⟩ =>
    thn (ho pins s2 σ H2 x y v u _ I2 r1 r2 q2) fun d s3 ⟨z, H3, I3, r3, k, e, q3⟩ => ?_)) hm
  subst e
  cases r3
  refine wpAny_truthy_bool ?_
  cases k with
  | false => exact ite_ff ⟨.bl false, H3, I3, rfl, q3⟩
  | true =>
    refine ite_tt (chain_link (thn (hc.run pins s3 σ H3 _ I3 q3) fun w' s4 ⟨z', H4, I4, r4, q4⟩ => thn (ho' pins s4 σ H4 y z' u w' _ I4 r2 r4 q4) fun d2 s5 ⟨z2, H5, I5, r5, k2, e2, q5⟩ => ?_))
    subst e2
    cases r5
    refine wpAny_truthy_bool ?_
    cases k2 with
    | false => exact ite_ff ⟨.bl false, H5, I5, rfl, q5⟩
    | true => exact ite_tt (chain_last (thn (hd.run pins s5 σ H5 _ I5 q5) fun w2 s6 ⟨z3, H6, I6, r6, q6⟩ => ho'' pins s6 σ H6 z' z3 w' w2 Q I6 r4 r6 q6))
theorem pt_chain3 {op op' op'' : CmpOp} {r r' r'' : R2} {ta tb tc td : TE} (ho : OpR X (compareOp op) r) (ho' : OpR X (compareOp op') r') (ho'' : OpR X (compareOp op'') r'') (ha : PE X a ta) (hb : PE X b tb) (hc : PE X c tc) (hd : PE X d td)
    (hm : lastMarks [op, op', op''] [b, c, d] = false) : PT X (.Compare a [op, op', op''] [b, c, d] pos) (tTest (tChain3 r r' r'' ta tb tc td)) := by
  refine ⟨fun pins s σ H Q I h => ?_⟩
  refine isTrue_chain (thn (ha.run pins s σ H _ I h) fun v s1 ⟨x, H1, I1, r1, q1⟩ => test_link (thn (hb.run pins s1 σ H1 _ I1 q1) fun u s2 ⟨y, H2, I2, r2, q2⟩ =>
    thn (ho pins s2 σ H2 x y v u _ I2 r1 r2 q2) fun d s3 ⟨z, H3, I3, r3, k, e, q3⟩ => ?_)) hm
  subst e
  cases r3
  refine wpAny_truthy_bool ?_
  cases k with
  | false =>
    obtain ⟨k', e', q'⟩ := q3
    cases e'
    exact ite_ff ⟨H3, I3, q'⟩
  | true =>
    refine ite_tt (test_link (thn (hc.run pins s3 σ H3 _ I3 q3) fun w' s4 ⟨z', H4, I4, r4, q4⟩ => thn (ho' pins s4 σ H4 y z' u w' _ I4 r2 r4 q4) fun d2 s5 ⟨z2, H5, I5, r5, k2, e2, q5⟩ => ?_))
    subst e2
    cases r5
    refine wpAny_truthy_bool ?_
    cases k2 with
    | false =>
      obtain ⟨k', e', q'⟩ := q5
      cases e'
      exact ite_ff ⟨H5, I5, q'⟩
    | true =>
      refine ite_tt (test_last (thn (hd.run pins s5 σ H5 _ I5 q5) fun w2 s6 ⟨z3, H6, I6, r6, q6⟩ => thn (ho'' pins s6 σ H6 z' z3 w' w2 _ I6 r4 r6 q6) fun d3 s7 ⟨z4, H7, I7, r7, k3, e3, q7⟩ => ?_))
      subst e3
      cases r7
      exact wpAny_truthy_bool ⟨H7, I7, q7⟩
def cmp2M (o1 o2 : CmpOp) (fa fb fc : EM) : EM := fun sl st => andD (fa sl st) fun x st1 => andD (fb sl st1) fun y st2 => (match cmpD o1 x y with
    | none => none
    | some false => some (.d (.bool false), st2)
    | some true => andD (fc sl st2) fun z st3 => okB (cmpD o2 y z) st3)
def cmp3M (o1 o2 o3 : CmpOp) (fa fb fc fd : EM) : EM := fun sl st => andD (fa sl st) fun x st1 => andD (fb sl st1) fun y st2 => (match cmpD o1 x y with
    | none => none
    | some false => some (.d (.bool false), st2)
    | some true => andD (fc sl st2) fun z st3 => (match cmpD o2 y z with
      | none => none
      | some false => some (.d (.bool false), st3)
      | some true => andD (fd sl st3) fun u st4 => okB (cmpD o3 z u) st4))
theorem tc_two {o1 o2 : CmpOp} {σ : L2.St} {H : Hp} {Q : VK} (h : tE X.K (cmp2M o1 o2 fa fb fc) σ H Q) : tChain (rC X.K (cmpD o1)) (rC X.K (cmpD o2)) (tE X.K fa) (tE X.K fb) (tE X.K fc) σ H Q := by
  obtain ⟨P, ca, G, sl, st, w, st', hm, hs, e, q⟩ := h
  obtain ⟨x, st1, e1, e⟩ := andD_some e
  obtain ⟨y, st2, e2, e⟩ := andD_some e
  refine ⟨P, ca, G, sl, st, _, _, hm, hs, e1, fun v1 ca1 G1 H1 n1 hm1 r1 => ?_⟩
  refine ⟨P, ca1, G1, sl, st1, _, _, hm1, hs.mono n1, e2, fun v2 ca2 G2 H2 n2 hm2 r2 => ?_⟩
  have n12 := n1.trans n2
  split at e
  · cases e
  · rename_i e3
    cases e
    exact ⟨G2, x, y, false, hm2.sub, Rp.mono n2.s r1, r2, e3, false, rfl, iteF (q _ _ _ _ n12 hm2 (.bl _))⟩
  · rename_i e3
    obtain ⟨z, st3, e4, e⟩ := andD_some e
    obtain ⟨t, e5, e6⟩ := okB_some e
    cases e6
    refine ⟨G2, x, y, true, hm2.sub, Rp.mono n2.s r1, r2, e3, true, rfl, iteT ?_⟩
    exact ⟨P, ca2, G2, sl, st2, _, _, hm2, hs.mono n12, e4, fun v3 ca3 G3 H3 n3 hm3 r3 => ⟨G3, y, z, t, hm3.sub, Rp.mono n3.s r2, r3, e5, q _ _ _ _ (n12.trans n3) hm3 (.bl _)⟩⟩
theorem tc_three {o1 o2 o3 : CmpOp} {σ : L2.St} {H : Hp} {Q : VK} (h : tE X.K (cmp3M o1 o2 o3 fa fb fc fd) σ H Q) : tChain3 (rC X.K (cmpD o1)) (rC X.K (cmpD o2)) (rC X.K (cmpD o3)) (tE X.K fa) (tE X.K fb) (tE X.K fc) (tE X.K fd) σ H Q := by
  obtain ⟨P, ca, G, sl, st, w, st', hm, hs, e, q⟩ := h
  obtain ⟨x, st1, e1, e⟩ := andD_some e
  obtain ⟨y, st2, e2, e⟩ := andD_some e
  refine ⟨P, ca, G, sl, st, _, _, hm, hs, e1, fun v1 ca1 G1 H1 n1 hm1 r1 => ?_⟩
  refine ⟨P, ca1, G1, sl, st1, _, _, hm1, hs.mono n1, e2, fun v2 ca2 G2 H2 n2 hm2 r2 => ?_⟩
  have n12 := n1.trans n2
  split at e
  · cases e
  · rename_i e3
    cases e
    exact ⟨G2, x, y, false, hm2.sub, Rp.mono n2.s r1, r2, e3, false, rfl, iteF (q _ _ _ _ n12 hm2 (.bl _))⟩
  · rename_i e3
    obtain ⟨z, st3, e4, e⟩ := andD_some e
    refine ⟨G2, x, y, true, hm2.sub, Rp.mono n2.s r1, r2, e3, true, rfl, iteT ?_⟩
    refine ⟨P, ca2, G2, sl, st2, _, _, hm2, hs.mono n12, e4, fun v3 ca3 G3 H3 n3 hm3 r3 => ?_⟩
    have n13 := n12.trans n3
    split at e
    · cases e
    · rename_i e5
      cases e
      exact ⟨G3, y, z, false, hm3.sub, Rp.mono n3.s r2, r3, e5, false, rfl, iteF (q _ _ _ _ n13 hm3 (.bl _))⟩
    · rename_i e5
      obtain ⟨u, st4, e6, e⟩ := andD_some e
      obtain ⟨t, e7, e8⟩ := okB_some e
      cases e8
      refine ⟨G3, y, z, true, hm3.sub, Rp.mono n3.s r2, r3, e5, true, rfl, iteT ?_⟩
      exact ⟨P, ca3, G3, sl, st3, _, _, hm3, hs.mono n13, e6, fun v4 ca4 G4 H4 n4 hm4 r4 => ⟨G4, z, u, t, hm4.sub, Rp.mono n4.s r3, r4, e7, q _ _ _ _ (n13.trans n4) hm4 (.bl _)⟩⟩
/-- a test whose value is a bool -/
theorem te_bl {K : PySem.W.Frag} {f : EM} {σ : L2.St} {H : Hp} {Q : Bool → Hp → Prop} (hb : ∀ sl st w st', f sl st = some (w, st') → ∃ t, w = .d (.bool t)) (h : tT K f σ H Q) : tE K f σ H fun x H' => ∃ k, x = .bl k ∧ Q k H' := by
  obtain ⟨P, ca, G, sl, st, w, st', t, hm, hs, e, et, q⟩ := h
  obtain ⟨t', rfl⟩ := hb _ _ _ _ e
  cases et
  exact ⟨P, ca, G, sl, st, _, st', hm, hs, e, fun v ca' G' H' n hm' r => ⟨_, Rp.bool_inv r, q ca' G' H' n hm'⟩⟩
theorem cmp2_bool {o1 o2 : CmpOp} {sl : Sl} {st : Store} {w : W} {st' : Store} (e : cmp2M o1 o2 fa fb fc sl st = some (w, st')) : ∃ t, w = .d (.bool t) := by
  obtain ⟨x, st1, e1, e⟩ := andD_some e
  obtain ⟨y, st2, e2, e⟩ := andD_some e
  split at e
  · cases e
  · cases e; exact ⟨_, rfl⟩
  · obtain ⟨z, st3, e4, e⟩ := andD_some e
    obtain ⟨t, e5, e6⟩ := okB_some e
    cases e6; exact ⟨_, rfl⟩
theorem cmp3_bool {o1 o2 o3 : CmpOp} {sl : Sl} {st : Store} {w : W} {st' : Store} (e : cmp3M o1 o2 o3 fa fb fc fd sl st = some (w, st')) : ∃ t, w = .d (.bool t) := by
  obtain ⟨x, st1, e1, e⟩ := andD_some e
  obtain ⟨y, st2, e2, e⟩ := andD_some e
  split at e
  · cases e
  · cases e; exact ⟨_, rfl⟩
  · obtain ⟨z, st3, e4, e⟩ := andD_some e
    split at e
    · cases e
    · cases e; exact ⟨_, rfl⟩
    · obtain ⟨u, st4, e6, e⟩ := andD_some e
      obtain ⟨t, e7, e8⟩ := okB_some e
      cases e8; exact ⟨_, rfl⟩
theorem se_cmp2 {o1 o2 : CmpOp} (x : XOk Φ k X C) (ha : PE X a (tE X.K fa)) (hb : PE X b (tE X.K fb)) (hc : PE X c (tE X.K fc)) (hk : lastMarks [o1, o2] [b, c] = false) : PE X (.Compare a [o1, o2] [b, c] pos) (tE X.K (cmp2M o1 o2 fa fb fc)) :=
  (pe_chain (op_cmpD x.u65 o1) (op_cmpD x.u65 o2) ha hb hc hk).weak fun σ H Q h => tc_two h
theorem st_cmp2 {o1 o2 : CmpOp} (x : XOk Φ k X C) (ha : PE X a (tE X.K fa)) (hb : PE X b (tE X.K fb)) (hc : PE X c (tE X.K fc)) (hk : lastMarks [o1, o2] [b, c] = false) : PT X (.Compare a [o1, o2] [b, c] pos) (tT X.K (cmp2M o1 o2 fa fb fc)) :=
  (pt_chain (op_cmpD x.u65 o1) (op_cmpD x.u65 o2) ha hb hc hk).weak fun σ H Q h => tc_two (te_bl (fun _ _ _ _ => cmp2_bool) h)
theorem se_cmp3 {o1 o2 o3 : CmpOp} (x : XOk Φ k X C) (ha : PE X a (tE X.K fa)) (hb : PE X b (tE X.K fb)) (hc : PE X c (tE X.K fc)) (hd : PE X d (tE X.K fd)) (hk : lastMarks [o1, o2, o3] [b, c, d] = false) : PE X (.Compare a [o1, o2, o3] [b, c, d] pos) (tE X.K (cmp3M o1 o2 o3 fa fb fc fd)) :=
  (pe_chain3 (op_cmpD x.u65 o1) (op_cmpD x.u65 o2) (op_cmpD x.u65 o3) ha hb hc hd hk).weak fun σ H Q h => tc_three h
theorem st_cmp3 {o1 o2 o3 : CmpOp} (x : XOk Φ k X C) (ha : PE X a (tE X.K fa)) (hb : PE X b (tE X.K fb)) (hc : PE X c (tE X.K fc)) (hd : PE X d (tE X.K fd)) (hk : lastMarks [o1, o2, o3] [b, c, d] = false) : PT X (.Compare a [o1, o2, o3] [b, c, d] pos) (tT X.K (cmp3M o1 o2 o3 fa fb fc fd)) :=
  (pt_chain3 (op_cmpD x.u65 o1) (op_cmpD x.u65 o2) (op_cmpD x.u65 o3) ha hb hc hd hk).weak fun σ H Q h => tc_three (te_bl (fun _ _ _ _ => cmp3_bool) h)
variable {es : List Expr} {fs : AM}
theorem sa_nil : PA X [] (tA X.K fun _ st => some ([], st)) :=
  pa_nil.weak fun σ H Q ⟨P, ca, G, sl, st, w, st', hm, hs, e, q⟩ => by
    cases e
    exact q [] ca G H Nxt.refl hm .nil
def consM (fa : EM) (fs : AM) : AM := fun sl st => andW (fa sl st) fun w st1 => (match fs sl st1 with
    | none => none
    | some (ws, st2) => some (w :: ws, st2))
theorem sa_cons (ha : PE X a (tE X.K fa)) (hr : PA X es (tA X.K fs)) (hs : starEach (a :: es) X.env = (false, eval a X.env) :: starEach es X.env) : PA X (a :: es) (tA X.K (consM fa fs)) :=
  (pa_cons ha hr hs).weak fun σ H Q ⟨P, ca, G, sl, st, w, st', hm, hs, e, q⟩ => by
    obtain ⟨x, st1, e1, e⟩ := andW_some e
    split at e
    · cases e
    · rename_i ws st2 e2
      cases e
      exact ⟨P, ca, G, sl, st, _, _, hm, hs, e1, fun v1 ca1 G1 H1 n1 hm1 r1 => ⟨P, ca1, G1, sl, st1, _, _, hm1, hs.mono n1, e2, fun vs ca2 G2 H2 n2 hm2 r2 => q _ _ _ _ (n1.trans n2) hm2 (.cons (RW.mono n2 r1) r2)⟩⟩
theorem se_tup {x1 : Nat} (h : PA X es (tA X.K fs)) : PE X (.Tuple es x1 pos) (tE X.K fun sl st => mkTup (fs sl st)) :=
  (pe_tup h).weak fun σ H Q ⟨P, ca, G, sl, st, w, st', hm, hs, e, q⟩ => by
    replace e : mkTup (fs sl st) = some (w, st') := e
    unfold mkTup at e
    split at e
    · rename_i ws st1 e1
      split at e
      · rename_i ds ed
        split at e
        · rename_i hz
          cases e
          refine ⟨P, ca, G, sl, st, _, _, hm, hs, e1, fun vs ca1 G1 H1 n1 hm1 r1 => ?_⟩
          have rd := r1.dps ed
          exact ⟨by rw [rd.length]; exact hz, fun p n => q _ _ _ _ (n1.trans (Nxt.of (Ext.new hm1.sub n).g)) (hm1.ext (Ext.new hm1.sub n)) (Rp.tnew (hm1.sub.free n) rd)⟩
        · cases e
      · cases e
    · cases e
/-- a new list -/
def tN (K : PySem.W.Frag) (f : EM) : TE := fun σ H Q => ∃ P ca G sl st w st', HM K P ca G H st ∧ SlOk K ca G σ sl ∧ f sl st = some (w, st') ∧
  ∀ p xs ds ca' G' H', Nxt ca G ca' G' → w = .d (.list ds) → HM K P ca' G' H' st' → H' p = some (.lst xs) → G' p = none → p ∉ ca' → P p = none → Rps K G' xs ds → xs.length ≤ sizeLine → Q (.ref p) H'
theorem HM.fresh {K : PySem.W.Frag} {ca : List Addr} {G H : Hp} {st : Store} {p : Addr} (hm : HM K P ca G H st) (n : H p = none) : p ∉ ca := fun hp => by
  obtain ⟨i, hi, e⟩ := List.mem_iff_getElem.mp hp
  have hl : i < st.length := by rw [← hm.len]; exact hi
  have := hm.cell i p st[i] (by rw [List.getElem?_eq_getElem hi, e]) (List.getElem?_eq_getElem hl)
  cases hc : st[i] with
  | lst fz ds =>
    rw [hc] at this
    obtain ⟨xs, h1, _⟩ := this
    rw [n] at h1
    cases h1
/-- .. read as data -/
theorem HM.froze {K : PySem.W.Frag} {ca : List Addr} {G H : Hp} {st : Store} {p : Addr} {xs : List V} (hm : HM K P ca G H st) (h : H p = some (.lst xs)) (n : G p = none) (hp : p ∉ ca) (pP : P p = none) : Same G (upd G p (.lst xs)) ∧ HM K P ca (upd G p (.lst xs)) H st := by
  refine ⟨same_upd n, ⟨fun b o e => ?_, hm.len, hm.nd, fun i b c e1 e2 => ?_, hm.prot, hm.pdis, fun b u q => by
    rw [upd_ne (fun z => by subst z; rw [pP] at q; cases q)]
    exact hm.pg b u q⟩⟩
  · by_cases hb : b = p
    · subst hb
      rw [upd_same] at e
      rw [← e]
      exact h
    · rw [upd_ne hb] at e
      exact hm.sub _ _ e
  · have hne : b ≠ p := fun z => by
      subst z
      exact hp (List.mem_of_getElem? e1)
    cases c with
    | lst fz ds =>
      obtain ⟨ys, g1, g2, gz, g3⟩ := hm.cell i b _ e1 e2
      refine ⟨ys, g1, Rps.mono (same_upd n) g2, gz, ?_⟩
      cases fz with
      | true =>
        show upd G p (.lst xs) b = _
        rw [upd_ne hne]
        exact g3
      | false =>
        show upd G p (.lst xs) b = _
        rw [upd_ne hne]
        exact g3
theorem tN_of {K : PySem.W.Frag} {f : EM} (hf : ∀ sl st w st', f sl st = some (w, st') → ∃ ds, w = .d (.list ds)) {σ : L2.St} {H : Hp} {Q : VK} (h : tE K f σ H Q) : tN K f σ H Q := by
  obtain ⟨P, ca, G, sl, st, w, st', hm, hs, e, q⟩ := h
  refine ⟨P, ca, G, sl, st, w, st', hm, hs, e, fun p xs ds ca' G' H' n ew hm' h1 h2 h3 h4 r hz => ?_⟩
  subst ew
  obtain ⟨g1, g2⟩ := hm'.froze h1 h2 h3 h4
  exact q _ ca' _ H' (n.trans (Nxt.of g1)) g2 (.lst upd_same (Rps.mono g1 r))
theorem mkLst_list {r : Option (List W × Store)} {w : W} {st' : Store} (e : mkLst r = some (w, st')) : ∃ ds, w = .d (.list ds) := by
  unfold mkLst at e
  split at e
  · split at e
    · split at e
      · cases e; exact ⟨_, rfl⟩
      · cases e
    · cases e
  · cases e
theorem sn_lst (h : PA X es (tA X.K fs)) : PE X (.List es pos) (tN X.K fun sl st => mkLst (fs sl st)) :=
  (pe_lst h).weak fun σ H Q ⟨P, ca, G, sl, st, w, st', hm, hs, e, q⟩ => by
    replace e : mkLst (fs sl st) = some (w, st') := e
    unfold mkLst at e
    split at e
    · rename_i ws st1 e1
      split at e
      · rename_i ds ed
        split at e
        · rename_i hz
          cases e
          refine ⟨P, ca, G, sl, st, _, _, hm, hs, e1, fun vs ca1 G1 H1 n1 hm1 r1 => ?_⟩
          have rd := r1.dps ed
          refine ⟨by rw [rd.length]; exact hz, fun p n => ?_⟩
          have ex := Ext.junk (o := .lst vs) hm1.sub n
          exact q p vs ds ca1 G1 _ n1 rfl (hm1.ext ex) upd_same (hm1.sub.free n) (hm1.fresh n) (hm1.prot.free n) rd (by rw [rd.length]; exact hz)
        · cases e
      · cases e
    · cases e
theorem se_lst (h : PA X es (tA X.K fs)) : PE X (.List es pos) (tE X.K fun sl st => mkLst (fs sl st)) :=
  (sn_lst h).weak fun σ H Q h => tN_of (fun _ _ _ _ e => mkLst_list e) h
theorem cell_read {K : PySem.W.Frag} {ca : List Addr} {G H : Hp} {st : Store} {j : Nat} {a : Addr} {fz : Bool} {ds : List D} (hm : HM K P ca G H st) (ha : ca[j]? = some a) (hj : st[j]? = some (.lst fz ds)) : ∃ xs, H a = some (.lst xs) ∧ Rps K G xs ds ∧ xs.length ≤ sizeLine := by
  obtain ⟨xs, h1, h2, hz, _⟩ := hm.cell j a _ ha hj
  exact ⟨xs, h1, h2, hz⟩
def rIxW (K : PySem.W.Frag) : R2 := fun x y H Q => rD2 K ixD x y H Q ∨ ∃ p xs i v, x = .ref p ∧ y = .int i ∧ SqL K H p xs ∧ L2.atI xs i = some v ∧ Q v H
theorem ix_W : IxR X (rIxW X.K) := ix_D.or ix_list
theorem se_ix (ha : PE X a (tE X.K fa)) (hb : PE X b (tE X.K fb)) (hp : PlainIx b) : PE X (.Subscript a b pos) (tE X.K fun sl st => andW (fa sl st) fun w st1 => andD (fb sl st1) fun y st2 => okD (ixW w y st2) st2) :=
  (pe_ix ix_W ha hb hp).weak fun σ H Q ⟨P, ca, G, sl, st, w, st', hm, hs, e, q⟩ => by
    obtain ⟨x, st1, e1, e⟩ := andW_some e
    obtain ⟨y, st2, e2, e⟩ := andD_some e
    obtain ⟨d, e3, e4⟩ := okD_some e
    cases e4
    refine ⟨P, ca, G, sl, st, _, _, hm, hs, e1, fun v1 ca1 G1 H1 n1 hm1 r1 => ⟨P, ca1, G1, sl, st1, _, _, hm1, hs.mono n1, e2, fun v2 ca2 G2 H2 n2 hm2 r2 => ?_⟩⟩
    cases x with
    | d x => exact .inl ⟨G2, x, y, d, hm2.sub, Rp.mono n2.s r1, r2, e3, fun v G' H' ex r => q v ca2 G' H' ((n1.trans n2).trans (Nxt.of ex.g)) (hm2.ext ex) r⟩
    | m j =>
      obtain ⟨p, hp, ev⟩ := RW.mono (w := .m j) n2 r1
      subst ev
      unfold ixW at e3
      simp only at e3
      split at e3
      · rename_i fz ds hj
        obtain ⟨xs, h1, h2, _⟩ := cell_read hm2 hp hj
        unfold ixD at e3
        cases y with
        | int i =>
          obtain ⟨z, e5, r5⟩ := Rps.atI h2 e3
          exact .inr ⟨p, xs, i, z, rfl, Rp.int_inv r2, SqL.of h1, e5, q _ _ _ _ (n1.trans n2) hm2 r5⟩
        | _ => cases e3
      · cases e3
/-- a part of a slice -/
def tO (K : PySem.W.Frag) (f : Sl → Store → Option (Option Int × Store)) : TO := fun σ H Q => ∃ P ca G sl st o st', HM K P ca G H st ∧ SlOk K ca G σ sl ∧ f sl st = some (o, st') ∧
  ∀ ca' G' H', Nxt ca G ca' G' → HM K P ca' G' H' st' → Q o H'
variable {lo hi : Option Expr} {fl fh : Sl → Store → Option (Option Int × Store)}
theorem so_none : PO X none (tO X.K fun _ st => some (none, st)) :=
  ⟨fun pins s σ H Q I ⟨P, ca, G, sl, st, o, st', hm, hs, e, q⟩ => po_none.run pins s σ H Q I (by cases e; exact q ca G H Nxt.refl hm)⟩
def someM (fa : EM) : Sl → Store → Option (Option Int × Store) := fun sl st => andD (fa sl st) fun x st1 => (match asPart x with
    | none => none
    | some i => some (some i, st1))
theorem so_some (ha : PE X a (tE X.K fa)) : PO X (some a) (tO X.K (someM fa)) :=
  ⟨fun pins s σ H Q I ⟨P, ca, G, sl, st, o, st', hm, hs, e, q⟩ => (po_some ha).run pins s σ H Q I (by
    obtain ⟨x, st1, e1, e⟩ := andD_some e
    split at e
    · cases e
    · rename_i i ei
      cases e
      cases x with
      | int j =>
        cases ei
        exact ⟨P, ca, G, sl, st, _, _, hm, hs, e1, fun v1 ca1 G1 H1 n1 hm1 r1 => ⟨_, Rp.int_inv r1, q _ _ _ n1 hm1⟩⟩
      | _ => cases ei)⟩
theorem se_sl {p2 : Pos} (ha : PE X a (tE X.K fa)) (hl : PO X lo (tO X.K fl)) (hh : PO X hi (tO X.K fh)) : PE X (.Subscript a (.Slice lo hi none p2) pos) (tE X.K fun sl st => andD (fa sl st) fun x st1 => (match fl sl st1 with
    | none => none
    | some (l, st2) => (match fh sl st2 with
      | none => none
      | some (h, st3) => okD (slD x l h) st3))) :=
  (pe_slice sl_D ha hl hh).weak fun σ H Q ⟨P, ca, G, sl, st, w, st', hm, hs, e, q⟩ => by
    obtain ⟨x, st1, e1, e⟩ := andD_some e
    split at e
    · cases e
    · rename_i l st2 e2
      split at e
      · cases e
      · rename_i h st3 e3
        obtain ⟨d, e4, e5⟩ := okD_some e
        cases e5
        refine ⟨P, ca, G, sl, st, _, _, hm, hs, e1, fun v1 ca1 G1 H1 n1 hm1 r1 => ⟨P, ca1, G1, sl, st1, _, _, hm1, hs.mono n1, e2, fun ca2 G2 H2 n2 hm2 => ⟨P, ca2, G2, sl, st2, _, _, hm2, hs.mono (n1.trans n2), e3, fun ca3 G3 H3 n3 hm3 => ?_⟩⟩⟩
        exact ⟨G3, x, d, hm3.sub, Rp.mono (n2.trans n3).s r1, e4, fun v G' H' ex r => q v ca3 G' H' (((n1.trans n2).trans n3).trans (Nxt.of ex.g)) (hm3.ext ex) r⟩
end
end WM
namespace WM
open PySem PySem.Spec PyProof.Rows L2
/-- as Ite, over a tuple -/
def IteT (K : PySem.W.Frag) (t : Addr) : It where
  go := fun j H => ∃ (ys : List V) (y : V), SqT K H t ys ∧ ys[j]? = some y
  yld := fun j H v H' => ∃ q y, v = .ref q ∧ H q = none ∧ H' = upd H q (.tup [.int (j : Nat), y]) ∧ ∀ ys, SqT K H t ys → ys[j]? = some y
  stop := fun j H => ∃ ys : List V, SqT K H t ys ∧ ys.length ≤ j
section
variable {prog : Program} {w : World} {A : Around} {E : Value → Shared → Prop} {s : Shared}
theorem next_enumT_end {en it t : Addr} {j : Nat} {its : Array Value} {old : Value} {Q : Option Value → Shared → Prop} (free : A.handled = none)
    (x1 : IsEnum s.heap en it j old) (x2 : s.heap.IsTupleIter it t j) (x3 : s.heap.IsTuple t its) (x4 : its[j]? = none)
    (q : ∀ h', Heap.ExtBut it s.heap h' → Q none { s with heap := h' }) : wpAny (model prog w) A (pyNext (.ref en)) Q E s := by
  have ty : s.TypeIs (.ref en) "enumerate" := ⟨_, x1, rfl⟩
  unfold pyNext
  apply wpAny_bind
  apply wpAny_attempt
  refine wpAny_callSpecial?_slot (name := Str.ofString "__next__") ty F.slot_enumerate_next ?_
  refine wpAny_call_entry F.slot_enumerate_next ty F.entry_enumerate_next ?_ (F.args_enumerate_next_1 _)
  show wpAny _ _ (field (.ref en) 2 >>= _) _ _ _
  apply wpAny_bind
  refine wpAny_field x1 rfl (x := .ref it) rfl ?_
  apply wpAny_bind
  refine wpAny_nextOf_tuple_end free x2 x3 x4 fun h' er eb ⟨ob, g1, g2⟩ => ?_
  apply wpAny_bind
  exact wpAny_isInstance (T := "StopIteration") (b := true) ⟨ob, g1, g2⟩ isSubtype_stop (wpAny_pure (q _ eb))
theorem ne_by_cls {h : Heap} {a b : Addr} {c d : String} {o1 o2 : Obj} (h1 : h.get? a = some o1) (h2 : h.get? b = some o2) (c1 : o1.cls = .type c) (c2 : o2.cls = .type d) (n : c ≠ d) : a ≠ b := fun z => by
  rw [z, h2] at h1
  cases h1
  rw [c2] at c1
  injection c1 with c1
  exact n c1.symm
theorem turn_enumT {P : Program} {w : World} {K : PySem.W.Frag} {elts : List Expr} {kk : Nat} {tpos : Pos} (t en it : Addr) :
    Turn P w K (.Tuple elts kk tpos) (IteT K t) [en, it] en (fun j h => (∃ old, IsEnum h en it ((j : Nat) : Int) old) ∧ h.IsTupleIter it t j ∧ en ≠ it) where
  mem := by simp
  obj := fun j h ⟨⟨old, x1⟩, ⟨o, x2, _, x3⟩, _⟩ b hb => by
    rcases (show b = en ∨ b = it by simpa using hb) with rfl | rfl
    · exact ⟨_, x1, fun v z => nomatch z⟩
    · exact ⟨o, x2, fun v z => by rw [x3] at z; cases z⟩
  keep := fun j h h' ⟨⟨old, x1⟩, x2, x3⟩ k => ⟨⟨old, k en (by simp) _ x1⟩, x2.at fun o z => k it (by simp) o z, x3⟩
  item := by
    intro X hP hw hK hc j pins s σ H E I hf st hg
    subst hP hw hK
    obtain ⟨⟨old, x1⟩, x2, x3⟩ := st
    obtain ⟨ys, y, hq, hy⟩ := hg
    obtain ⟨us, rv, p, hz⟩ := I.tuple hq
    obtain ⟨u, hu, ru⟩ := rv.get hy
    have l1 : en < s.heap.objs.size := Heap.lt_size x1
    have l2 : it < s.heap.objs.size := let ⟨_, z, _⟩ := x2; Heap.lt_size z
    obtain ⟨ot, p1, p2, p3⟩ := p
    obtain ⟨oi, i1, i2, i3⟩ := x2
    have n1 : t ≠ it := ne_by_cls p1 i1 p2 i2 (by decide)
    have n2 : en ≠ t := ne_by_cls x1 p1 rfl p2 (by decide)
    have hjl : j < us.toArray.size := by
      have := (List.getElem?_eq_some_iff.mp hu).1
      simpa using this
    refine wpAny_pyNext_enum_itemD (Draws.tuple (A := X.A.in1) (I.ok.hd hc) it t n1 us.toArray) x1 ⟨⟨oi, i1, i2, i3⟩, ⟨ot, p1, p2, p3⟩⟩ hjl x3 (by simp [x3, n2]) fun u' h' tk hP' ho hit' hT hsz hk => ?_
    have eu : u' = u := by
      have : us.toArray[j]? = some u := by simpa using hu
      rw [this] at hP'
      exact (Option.some.inj hP').symm
    subst eu
    refine ⟨_, rfl, wpAny_letOwnedTupleGo_enum (s := { s with heap := h', toks := tk + 1 }) ho fun h2 he2 sb => ?_⟩
    have hT2 : h2.get? s.heap.objs.size = some { cls := .type "tuple", data := .seq #[.int j tk, u'] } := (sb.2 _ (Nat.ne_of_gt l1)).trans hT
    have fresh : H s.heap.objs.size = none := I.hok.fresh (Nat.le_refl _)
    have new : ObjOk X.prog X.w (upd H s.heap.objs.size (.tup [.int (j : Nat), y])) h2 s.heap.objs.size (.tup [.int (j : Nat), y]) :=
      ⟨by show 2 ≤ sizeLine; decide, [.int j tk, u'], .cons ⟨_, rfl⟩ (.cons ru .nil), ⟨_, hT2, rfl, _, rfl⟩⟩
    have I1 : Inv X pins σ (upd H s.heap.objs.size (.tup [.int (j : Nat), y])) { s with heap := h2, toks := tk + 1 } := by
      refine I.turnedNew (ch := [en, it]) (fun b ob hb q => ?_) hf (Nat.le_refl _) new
      have b1 : b ≠ en := fun z => hb (by simp [z])
      have b2 : b ≠ it := fun z => hb (by simp [z])
      exact (sb.2 b b1).trans (hk b ob b1 b2 q)
    refine ⟨.ref s.heap.objs.size, _, I1, rfl, ⟨_, y, rfl, fresh, rfl, fun zs hzs => by rw [I.tuple_inj hzs hq]; exact hy⟩, ⟨⟨u', ?_⟩, hit'.1.at fun o q => (sb.2 it (Ne.symm x3)).trans q, x3⟩, fun b hb => ?_⟩
    · have e1 : ((j + 1 : Nat) : Int) = (j : Int) + 1 := by omega
      rw [e1]
      exact he2
    · have hbl : b < s.heap.objs.size := by
        rcases (show b = en ∨ b = it by simpa using hb) with rfl | rfl
        · exact l1
        · exact l2
      rw [upd_ne (Nat.ne_of_lt hbl)]
      exact (hf b hb).1
  done := by
    intro X hP hw hK hc j pins s σ H E I hf st hg
    subst hP hw hK
    obtain ⟨⟨old, x1⟩, x2, x3⟩ := st
    obtain ⟨ys, hq, hy⟩ := hg
    obtain ⟨us, rv, p, hz⟩ := I.tuple hq
    obtain ⟨f0, f1, f2, f3, f4, f5⟩ := hf it (by simp)
    have hl := rv.length
    exact next_enumT_end (I.ok.hd hc) x1 x2 p (by simp; omega) fun h' eb => ⟨rfl, I.turned (t' := s.toks) (fun b o hb q => eb b o hb q) f0 f1 f3 f4 f5⟩
  self := fun A j s Q E st q => let ⟨⟨_, x1⟩, _⟩ := st; wpAny_pyIter_enum x1 q
end
section
variable {prog : Program} {w : World} {A : Around} {E : Value → Shared → Prop} {s : Shared}
open AutoSeq1 (wpAny_loadPart')
theorem new_enumT (t : Addr) (its : Array Value) (n : Nat) (dct : Option Addr) (sl : Array (Option Value)) :
    Meets (Builtin.«enumerate.__new__» ⟨[.type "enumerate", .ref t], []⟩) (fun _ R s => s.heap.get? t = some { cls := .type "tuple", dict := dct, data := .seq its n, slots := sl } ∧
      R (.ok (.ret (.ref (s.heap.push { cls := .type "tuple_iterator", data := .fields #[.ref t, .int 0 0] }).objs.size)))
        { s with heap := (s.heap.push { cls := .type "tuple_iterator", data := .fields #[.ref t, .int 0 0] }).push { cls := .type "enumerate", data := .fields #[.none, .bool false, .ref s.heap.objs.size, rawInt 0, .none, .none] } }) := by
  refine .of_wp fun prog w A R s ⟨ht, q⟩ => ?_
  obtain ⟨hp, g, d, tk, os⟩ := s
  have hsub := sub_enumerate
  have hT : Heap.IsTuple (Shared.heap ⟨hp, g, d, tk, os⟩) t its := ⟨_, ht, rfl, n, rfl⟩
  wp_walk using wpAny_loadPart' ht
  refine wpAny_stack_any fun st => wpAny_pure ?_
  split
  · rename_i c _ _ _ _ _
    cases (c == Value.type "enumerate") <;> (wp_walk using wpAny_loadPart' ht, wpAny_pyIter_tuple hT; exact ⟨_, rfl, q⟩)
  · wp_walk using wpAny_loadPart' ht, wpAny_pyIter_tuple hT
    exact ⟨_, rfl, q⟩
theorem call_enumT {t : Addr} {its : Array Value} {Q : Value → Shared → Prop} (ht : s.heap.IsTuple t its)
    (q : ∀ h', IsEnum h' (s.heap.objs.size + 1) s.heap.objs.size 0 .none → h'.IsTupleIter s.heap.objs.size t 0 → h'.objs.size = s.heap.objs.size + 2 →
      (∀ b o, s.heap.get? b = some o → h'.get? b = some o) → Q (.ref (s.heap.objs.size + 1)) { s with heap := h' }) :
    wpAny (model prog w) A (call (.type "enumerate") [.ref t]) Q E s := by
  obtain ⟨⟨c, dct, dt, sl⟩, h1, h2, n, h3⟩ := ht
  have h2 : c = .type "tuple" := h2
  have h3 : dt = .seq its n := h3
  subst h2 h3
  refine callType_new F.called_enumerate (by decide) (F.typeCall_enumerate_1 _) (F.newCall_enumerate_1 _) (fun obj => F.args_object_init_2 obj _) F.entry_enumerate_new
    (new_enumT t its n dct sl) ⟨h1, ?_⟩
  have hz : (s.heap.push { cls := .type "tuple_iterator", data := .fields #[.ref t, .int 0 0] }).objs.size = s.heap.objs.size + 1 := Heap.size_push ..
  show _ ∧ _
  rw [hz]
  have he := Heap.get?_push_size (s.heap.push { cls := .type "tuple_iterator", data := .fields #[.ref t, .int 0 0] }) (o := { cls := .type "enumerate", data := .fields #[.none, .bool false, .ref s.heap.objs.size, rawInt 0, .none, .none] }) rfl
  rw [hz] at he
  refine ⟨⟨_, he, rfl⟩, q _ he ⟨_, Heap.get?_push_of_some _ (Heap.get?_push_size _ rfl), rfl, rfl⟩ (by rw [Heap.size_push, hz]) fun b o z => Heap.get?_push_of_some _ (Heap.get?_push_of_some _ z)⟩
end
def iEnumA (K : PySem.W.Frag) (ta : TA) : TI := fun σ H R => ta σ H fun vs H1 => ∃ a xs, vs = [.ref a] ∧ ((SqL K H1 a xs ∧ R (Ite K a) H1) ∨ (SqT K H1 a xs ∧ R (IteT K a) H1))
theorem pi_enumA {X : Cx} {e : Expr} {ta : TA} {p pos tpos : Pos} {elts : List Expr} {kk : Nat} (hg : Gl X "enumerate") (hm : X.mg "enumerate" = none) (ha : PA X [e] ta) (hs : starEach [e] X.env = [(false, eval e X.env)]) :
    PI X (.Tuple elts kk tpos) (.Call (.Name "enumerate" p) [e] [] pos) (iEnumA X.K ta) := by
  refine ⟨fun pins s σ H R I h => ?_⟩
  refine Call_ (ld_blt I hg hm boot_enumerate (PyProof.Rows.callWith_type1 (thn (ha.run pos pins s σ H _ I h) fun us s1 ⟨vs, H1, I1, r1, q1⟩ => ?_) hs rfl))
  obtain ⟨a, xs, ex, q1⟩ := q1
  subst ex
  cases r1 with
  | cons r rr =>
    cases rr
    cases r
    have fp : ∀ b ∈ [s1.heap.objs.size + 1, s1.heap.objs.size], FpOk X pins H1 b := fun b hb => by
      have hle : s1.heap.objs.size ≤ b := by
        rcases (show b = s1.heap.objs.size + 1 ∨ b = s1.heap.objs.size by simpa using hb) with z | z <;> omega
      exact I1.fpOk hle (I1.hok.fresh hle)
    rcases q1 with ⟨hq, q⟩ | ⟨hq, q⟩
    · obtain ⟨its, rv, p', hz⟩ := I1.list hq
      refine call_enumerate_list p'.isList fun h' he hit hsz hk => wpAny_pyIter_enum he ?_
      have I2 : Inv X pins σ H1 { s1 with heap := h' } := I1.kept (t' := s1.toks) hk
      exact ⟨s1.heap.objs.size + 1, [s1.heap.objs.size + 1, s1.heap.objs.size], _, _, H1, rfl, I2, turn_enum a (s1.heap.objs.size + 1) s1.heap.objs.size, ⟨⟨.none, he⟩, hit, Nat.succ_ne_self _⟩, fp, q⟩
    · obtain ⟨its, rv, p', hz⟩ := I1.tuple hq
      refine call_enumT p' fun h' he hit hsz hk => wpAny_pyIter_enum he ?_
      have I2 : Inv X pins σ H1 { s1 with heap := h' } := I1.kept (t' := s1.toks) hk
      exact ⟨s1.heap.objs.size + 1, [s1.heap.objs.size + 1, s1.heap.objs.size], _, _, H1, rfl, I2, turn_enumT a (s1.heap.objs.size + 1) s1.heap.objs.size, ⟨⟨.none, he⟩, hit, Nat.succ_ne_self _⟩, fp, q⟩
end WM
namespace WM
open PySem PySem.Spec PyProof.Rows L2
theorem adjust_rev (n : Nat) : Builtin.Slice.sliceAdjust none none (-1) (n : Int) = ((n : Int) - 1, -1) := by
  unfold Builtin.Slice.sliceAdjust
  simp
theorem places_rev (n : Nat) : Builtin.Slice.slicePlaces ((n : Int) - 1) (-1) (-1) = n := by
  unfold Builtin.Slice.slicePlaces
  simp
  omega
section
variable {prog : Program} {w : World} {A : Around} {E : Value → Shared → Prop} {s : Shared}
theorem sliceApplied_rev {sl : Addr} {n : Nat} {vs : Value} {Q : Int × Int × Nat → Shared → Prop} (hs : s.heap.IsSliceOf sl .none .none vs) (ps : IsPart vs (some (-1)))
    (h : Q ((n : Int) - 1, -1, n) s) : wpAny (model prog w) A (Builtin.Slice.sliceApplied (.ref sl) (pure (n : Int))) Q E s := by
  obtain ⟨os, hos, hcs, hds⟩ := id hs
  unfold Builtin.Slice.sliceApplied Builtin.Slice.sliceFields
  refine wpAny_bind (wpAny_bind (wpAny_field hos hds (x := .none) rfl (wpAny_bind (wpAny_field hos hds (x := .none) rfl (wpAny_bind (wpAny_field hos hds (x := vs) rfl (wpAny_pure ?_)))))))
  refine wpAny_bind (HT.slicePart_ ps ?_)
  show wpAny _ _ (if ((-1 : Int) == 0) = true then _ else _) _ _ s
  rw [if_neg (by decide)]
  refine wpAny_bind (HT.slicePart_ .none (wpAny_bind (HT.slicePart_ .none (wpAny_bind (wpAny_pure ?_)))))
  show wpAny _ _ (match Builtin.Slice.sliceAdjust none none (-1) (n : Int) with | (lo, hi) => pure (lo, (-1 : Int), Builtin.Slice.slicePlaces lo hi (-1))) _ _ s
  rw [adjust_rev n]
  show wpAny _ _ (pure ((n : Int) - 1, (-1 : Int), Builtin.Slice.slicePlaces ((n : Int) - 1) (-1) (-1))) _ _ s
  rw [places_rev]
  exact wpAny_pure h
theorem pick_rev (xs : Array Value) : ((List.range xs.size).filterMap fun (m : Nat) => xs[(((xs.size : Int) - 1) + (m : Int) * (-1)).toNat]?).toArray = xs.toList.reverse.toArray := by
  have e : ∀ l : List Nat, (∀ m ∈ l, m < xs.size) → l.filterMap (fun (m : Nat) => xs[(((xs.size : Int) - 1) + (m : Int) * (-1)).toNat]?) = l.filterMap (fun (m : Nat) => xs.toList.reverse.toArray[m]?) := by
    intro l
    induction l with
    | nil => intro _; rfl
    | cons m l ih =>
      intro h
      have hm := h m (List.mem_cons_self ..)
      have e1 : (((xs.size : Int) - 1) + (m : Int) * (-1)).toNat = xs.size - 1 - m := by omega
      have e2 : xs[(((xs.size : Int) - 1) + (m : Int) * (-1)).toNat]? = xs.toList.reverse.toArray[m]? := by
        have e3 : xs.toList.reverse.toArray[m]? = xs.toList.reverse[m]? := List.getElem?_toArray
        have e4 : xs.toList.reverse[m]? = xs.toList[xs.toList.length - 1 - m]? := List.getElem?_reverse hm
        rw [e1, e3, e4, Array.length_toList, Array.getElem?_toList]
      rw [List.filterMap_cons, List.filterMap_cons, e2, ih fun m hm => h m (List.mem_cons_of_mem _ hm)]
  rw [e _ fun m hm => List.mem_range.mp hm]
  have := PySem.W.krv_all xs.toList.reverse.toArray
  rw [List.size_toArray, List.length_reverse, Array.length_toList] at this
  rw [this]
theorem getItem_tuple_rev {t sl : Addr} {items : Array Value} {vs : Value} {Q : Value → Shared → Prop} (ht : IsTup s.heap t items) (hs : s.heap.IsSliceOf sl .none .none vs) (ps : IsPart vs (some (-1)))
    (h : Q (.ref s.heap.objs.size) { s with heap := s.heap.push { cls := .type "tuple", data := .seq items.toList.reverse.toArray } })
    (hsz : items.size ≤ sizeLine) : wpAny (model prog w) A (getItem (.ref t) (.ref sl)) Q E s := by
  have htake : sizeOk (.seq items.toList.reverse.toArray) := by
    show items.toList.reverse.toArray.size ≤ sizeLine
    rw [List.size_toArray, List.length_reverse, Array.length_toList]
    omega
  obtain ⟨os, hos, hcs, hds⟩ := id hs
  have hTs : s.TypeIs (.ref sl) "slice" := ⟨os, hos, hcs⟩
  unfold getItem
  try with_reducible refine wpAny_holding ?_
  first | refine wpAny_bind (wpAny_pure ?_) | skip
  refine wpAny_bind (wpAny_sequenceKey ht.typeIs (by decide) ?_)
  refine wpAny_bind (wpAny_callSpecial?_slot (name := Str.ofString "__getitem__") ht.typeIs PyProof.Rows.slot_tuple_getitem
    (wpAny_call_entry PyProof.Rows.slot_tuple_getitem ht.typeIs entry_tuple_getitem ?_ (args_tuple_getitem _ _)))
  show wpAny _ _ (Builtin.Tuple.tupleItemsOf (.ref t) >>= _) _ _ s
  refine wpAny_bind (tupleItemsOf_ ht ?_)
  refine wpAny_bind (wpAny_typeOf hTs ?_)
  rw [if_pos (by decide)]
  refine wpAny_bind (sliceApplied_rev hs ps ?_)
  have hno : ¬ ((((items.size : Int) - 1) == 0 && (-1 : Int) == 1 && items.size == items.size) = true) := by
    intro q
    rw [Bool.and_eq_true, Bool.and_eq_true] at q
    exact absurd q.1.2 (by decide)
  show wpAny _ _ (if (((items.size : Int) - 1) == 0 && (-1 : Int) == 1 && items.size == items.size) = true then _ else _) _ _ s
  rw [if_neg hno, pick_rev]
  first
    | exact wpAny_bind (m := Builtin.Tuple.tupleExact _) (wpAny_newObj_type (wpAny_pure ⟨_, rfl, wpAny_pure h⟩) htake)
    | exact wpAny_bind (m := Builtin.Tuple.tupleExact _) (wpAny_newObj_type (wpAny_bind (wpAny_pure (wpAny_pure ⟨_, rfl, wpAny_pure h⟩))) htake)
    | exact wpAny_bind (wpAny_bind (m := Builtin.Tuple.tupleExact _) (wpAny_newObj_type (wpAny_pure (wpAny_pure ⟨_, rfl, wpAny_pure h⟩)) htake))
    | exact wpAny_bind (wpAny_bind (m := Builtin.Tuple.tupleExact _) (wpAny_newObj_type (wpAny_pure ⟨_, rfl, wpAny_pure h⟩) htake))
end
def tRev (K : PySem.W.Frag) (te : TE) : TE := fun σ H Q => te σ H fun x H1 => ∃ a xs, x = .ref a ∧ ((SqL K H1 a xs ∧ ∀ p, H1 p = none → Q (.ref p) (upd H1 p (.lst xs.reverse))) ∨ (SqT K H1 a xs ∧ ∀ p, H1 p = none → Q (.ref p) (upd H1 p (.tup xs.reverse))))
section
variable {X : Cx}
theorem pe_rev {e : Expr} {te : TE} {k : Nat} {p1 p2 p3 pos : Pos} (he : PE X e te) : PE X (.Subscript e (.Slice none none (some (.UnaryOp .USub (.Constant (.int 1) k p1) p2)) p3) pos) (tRev X.K te) := by
  refine ⟨fun pins s σ H Q I h => ?_⟩
  refine Subscript_ (thn (he.run pins s σ H _ I h) fun v s1 ⟨x, H1, I1, r1, q1⟩ => ?_)
  obtain ⟨a, xs, ex, q1⟩ := q1
  subst ex
  cases r1
  have hst : PO X (some (.UnaryOp .USub (.Constant (.int 1) k p1) p2)) (tPart (tUn (rU fun i => .int (-i)) (tC (.int 1)))) := po_some (pe_un un_neg pe_int)
  refine wpAny_Slice (thn (po_none.run pins s1 σ H1 (fun o H2 => o = none ∧ H2 = H1) I1 ⟨rfl, rfl⟩) fun vl s2 ⟨l, H2, I2, pl, el, e2⟩ => ?_)
  subst el e2
  refine thn (po_none.run pins s2 σ H2 (fun o H3 => o = none ∧ H3 = H2) I2 ⟨rfl, rfl⟩) fun vu s3 ⟨u, H3, I3, pu, eu, e3⟩ => ?_
  subst eu e3
  refine thn (hst.run pins s3 σ H3 (fun o H4 => o = some (-1) ∧ H4 = H3) I3 ⟨1, rfl, -1, rfl, rfl, rfl⟩) fun vs s4 ⟨o, H4, I4, ps, eo, e4⟩ => ?_
  subst eo e4
  cases pl
  cases pu
  have I5 : Inv X pins σ H4 { s4 with heap := s4.heap.push { cls := .type "slice", data := .fields #[.none, .none, vs] } } := I4.kept (t' := s4.toks) fun b ob q => Heap.get?_push_of_some _ q
  show wpAny (model X.prog X.w) X.A (subscriptTail e (.Slice none none (some (.UnaryOp .USub (.Constant (.int 1) k p1) p2)) p3) (.ref a) (.ref s4.heap.objs.size)) (EP X pins σ Q) X.xe { s4 with heap := s4.heap.push { cls := .type "slice", data := .fields #[.none, .none, vs] } }
  rcases q1 with ⟨hx, q⟩ | ⟨hx, q⟩
  · obtain ⟨its, r, ht, hz⟩ := I5.list hx
    have hlen := r.length
    refine tail_any (ops := [.ref a, .ref s4.heap.objs.size]) ht.isList.typeIs (PySem.slot_list_getitem.lookup) ?_ (by with_unfolding_all rfl)
    refine wpAny_getItem_list_slice ht.isList (Heap.IsSliceOf.new _ .none .none vs) .none .none ps (by decide) ?_ (by rw [List.size_toArray]; omega)
    rw [PySem.W.krv_pick]
    refine ⟨.ref _, _, I5.laid (t' := s4.toks) (o := .lst xs.reverse) (fun b ob q => Heap.get?_push_of_some _ q) (Nat.le_refl _) ?_, rfl, q _ (I5.hok.fresh (Nat.le_refl _))⟩
    exact ⟨by rw [List.length_reverse]; exact hz, _, 0, r.reverse, Heap.get?_push_size _ rfl⟩
  · obtain ⟨its, r, ht, hz⟩ := I5.tuple hx
    have hlen := r.length
    refine tail_any (ops := [.ref a, .ref s4.heap.objs.size]) ht.typeIs (PyProof.Rows.slot_tuple_getitem.lookup) ?_ (by with_unfolding_all rfl)
    refine getItem_tuple_rev ht (Heap.IsSliceOf.new _ .none .none vs) ps ?_ (by rw [List.size_toArray]; omega)
    refine ⟨.ref _, _, I5.laid (t' := s4.toks) (o := .tup xs.reverse) (fun b ob q => Heap.get?_push_of_some _ q) (Nat.le_refl _) ?_, rfl, q _ (I5.hok.fresh (Nat.le_refl _))⟩
    exact ⟨by rw [List.length_reverse]; exact hz, _, r.reverse, IsTup.new _ _⟩
variable {a : Expr} {fa : EM} {pos : Pos}
theorem se_rev {k : Nat} {p1 p2 p3 : Pos} (ha : PE X a (tE X.K fa)) : PE X (.Subscript a (.Slice none none (some (.UnaryOp .USub (.Constant (.int 1) k p1) p2)) p3) pos) (tE X.K fun sl st => andD (fa sl st) fun x st1 => okD (revD x) st1) :=
  (pe_rev ha).weak fun σ H Q ⟨P, ca, G, sl, st, w, st', hm, hs, e, q⟩ => by
    obtain ⟨x, st1, e1, e⟩ := andD_some e
    obtain ⟨d, e2, e3⟩ := okD_some e
    cases e3
    refine ⟨P, ca, G, sl, st, _, _, hm, hs, e1, fun v1 ca1 G1 H1 n1 hm1 r1 => ?_⟩
    cases x with
    | list xs =>
      cases e2
      obtain ⟨b, vs, rfl, h1, a1⟩ := Rp.list_inv r1
      refine ⟨b, vs, rfl, .inl ⟨SqL.of (hm1.sub _ _ h1), fun p hp => ?_⟩⟩
      have ex : Ext G1 H1 (upd G1 p (.lst vs.reverse)) (upd H1 p (.lst vs.reverse)) := Ext.new hm1.sub hp
      exact q _ ca1 _ _ (n1.trans (Nxt.of ex.g)) (hm1.ext ex) (.lst upd_same (Rps.mono ex.g a1.reverse))
    | tuple xs =>
      cases e2
      obtain ⟨b, vs, rfl, h1, a1⟩ := Rp.tuple_inv r1
      refine ⟨b, vs, rfl, .inr ⟨SqT.mono hm1.sub h1, fun p hp => ?_⟩⟩
      have ex : Ext G1 H1 (upd G1 p (.tup vs.reverse)) (upd H1 p (.tup vs.reverse)) := Ext.new hm1.sub hp
      exact q _ ca1 _ _ (n1.trans (Nxt.of ex.g)) (hm1.ext ex) (.tup (SqT.of upd_same) (Rps.mono ex.g a1.reverse))
    | _ => cases e2
end
end WM
namespace WM
open PySem PySem.Spec PyProof.Rows L2
section
variable {Φ : Fn} {k : Nat} {X : Cx} {C : CE}
variable {e a b c d : Expr} {fa fb fc fd : EM} {pos p : Pos} {es : List Expr} {fs : AM}
noncomputable def callM (Φ : Fn) (i : Nat) (fs : AM) : EM := fun sl st => (match fs sl st with
    | none => none
    | some (ws, st1) => callK Φ i ws st1)
theorem se_call {i n : Nat} {x : Str} (xo : XOk Φ k X C) (hg : globOf C x = some (.fn i n)) (ha : PA X (a :: es) (tA X.K fs)) (hn : (a :: es).length = n) (hw : ∀ sl st ws st', fs sl st = some (ws, st') → ws.length = n)
    (he : starEach (a :: es) X.env = (false, eval a X.env) :: starEach es X.env) (hpl : (backTo pos (starEach es X.env)).any (·.1) = false) :
    PE X (.Call (.Name x p) (a :: es) [] pos) (tE X.K (callM Φ i fs)) := by
  obtain ⟨gl, ⟨f, fd, ps, hm, hk, hb, hps, F⟩, d1, d2⟩ := globOf_ok xo hg
  refine (pe_call F xo.room gl hm hk hb .nil pass0 ha d1 he hpl).weak fun σ H Q ⟨P, ca, G, sl, st, w, st', hm, hs, e, q⟩ => ?_
  replace e : (match fs sl st with
    | none => none
    | some (ws, st1) => callK Φ i ws st1) = some (w, st') := e
  split at e
  · cases e
  · rename_i ws st1 e1
    rw [callK_eq] at e
    refine ⟨P, ca, G, sl, st, _, _, hm, hs, e1, fun vs ca1 G1 H1 n1 hm1 r1 => ?_⟩
    show spD X.K (Φ i) n (vs ++ []) H1 Q E0
    rw [List.append_nil]
    exact ⟨by rw [r1.length]; exact hw _ _ _ _ e1, P, ca1, G1, st1, ws, w, st', hm1, r1, e, fun v G' H' s hm' r => q v ca1 G' H' (n1.trans (Nxt.of s)) hm' r⟩
/-- built-in functions, the length of a cell among them -/
def rBW (K : PySem.W.Frag) (b : B) : List V → Hp → VK → Prop := fun xs H Q => ∃ P ca G st ws d, HM K P ca G H st ∧ RWs K ca G xs ws ∧ bltW b ws st = some d ∧ ∀ v G' H', Ext G H G' H' → Rp K G' v d → Q v H'
theorem allD_one {w : W} {d : D} (h : allD [w] = some [d]) : w = .d d := by
  cases w with
  | d x => cases h; rfl
  | m i => cases h
theorem call_bW (hc : X.calm = true) (hu : X.A.units + 65 < cLine) (b : B) : CallR X b.val (rBW X.K b) := by
  intro pins s σ H xs us Q I r h
  obtain ⟨P, ca, G, st, ws, d, hm, hr, e, q⟩ := h
  unfold bltW at e
  split at e
  · rename_i ds ed
    exact call_blt hc hu b pins s σ H xs us Q I r ⟨G, ds, d, hm.sub, hr.dps ed, e, q⟩
  · split at e
    · rename_i b' ws' j _
      split at e
      · rename_i fz ds hj
        cases e
        cases hr with
        | cons h1 h2 =>
          cases h2
          obtain ⟨p, hp, rfl⟩ := h1
          obtain ⟨ys, h3, h4, _⟩ := cell_read hm hp hj
          exact call_len_seq pins s σ H _ us Q I r ⟨p, ys, rfl, .inl (SqL.of h3), q _ _ _ (Ext.refl hm.sub) (by rw [h4.length]; exact .int _)⟩
      · cases e
    · cases e
def bltM (b : B) (fs : AM) : EM := fun sl st => (match fs sl st with
    | none => none
    | some (ws, st1) => okD (bltW b ws st1) st1)
theorem tb_of {K : PySem.W.Frag} {b : B} {σ : L2.St} {H : Hp} {Q : VK} (h : tE K (bltM b fs) σ H Q) : tCB (rBW K b) (tA K fs) σ H Q := by
  obtain ⟨P, ca, G, sl, st, w, st', hm, hs, e, q⟩ := h
  replace e : (match fs sl st with
    | none => none
    | some (ws, st1) => okD (bltW b ws st1) st1) = some (w, st') := e
  split at e
  · cases e
  · rename_i ws st1 e1
    obtain ⟨d, e2, e3⟩ := okD_some e
    cases e3
    exact ⟨P, ca, G, sl, st, _, _, hm, hs, e1, fun vs ca1 G1 H1 n1 hm1 r1 => ⟨P, ca1, G1, _, ws, d, hm1, r1, e2, fun v G' H' ex r => q v ca1 G' H' (n1.trans (Nxt.of ex.g)) (hm1.ext ex) r⟩⟩
theorem se_blt {b : B} {x : Str} (xo : XOk Φ k X C) (hg : globOf C x = some (.bi b)) (ha : PA X (a :: es) (tA X.K fs))
    (he : starEach (a :: es) X.env = (false, eval a X.env) :: starEach es X.env) (hpl : (backTo pos (starEach es X.env)).any (·.1) = false) :
    PE X (.Call (.Name x p) (a :: es) [] pos) (tE X.K (bltM b fs)) := by
  obtain ⟨gl, ok, d1, d2⟩ := globOf_ok xo hg
  have hb : ∀ (id : String), b.val = .builtin id → X.mg x = none → bootBuiltins x = some b.val → PE X (.Call (.Name x p) (a :: es) [] pos) (tE X.K (bltM b fs)) := fun id e1 h1 h2 => by
    rw [e1] at h2
    exact (pe_callB (e1 ▸ call_bW xo.calm xo.u65 b) gl h1 h2 ha d2 d1 he hpl).weak fun σ H Q h => tb_of h
  have ht : ∀ (id : String), b.val = .type id → X.mg x = none → bootBuiltins x = some b.val → PE X (.Call (.Name x p) (a :: es) [] pos) (tE X.K (bltM b fs)) := fun id e1 h1 h2 => by
    rw [e1] at h2
    exact (pe_callTy (e1 ▸ call_bW xo.calm xo.u65 b) gl h1 h2 ha d2 d1 he hpl).weak fun σ H Q h => tb_of h
  rcases ok with ⟨ne, h1, h2⟩ | ⟨rfl, h1⟩
  · cases b <;> first | exact hb _ rfl h1 h2 | exact ht _ rfl h1 h2
  · exact (pe_callBfun (call_bW xo.calm xo.u65 B.gcd) gl h1 ha d1 he hpl).weak fun σ H Q h => tb_of h
theorem se_isi {t : Ty} {x y : Str} {g : GV} {p2 : Pos} (xo : XOk Φ k X C) (hg : globOf C x = some .isi) (hy : globOf C y = some g) (ht : tyOf g = some t) (ha : PE X a (tE X.K fa))
    (he : starEach (a :: [.Name y p2]) X.env = (false, eval a X.env) :: starEach [.Name y p2] X.env) :
    PE X (.Call (.Name x p) [a, .Name y p2] [] pos) (tE X.K fun sl st => andD (fa sl st) fun x st1 => okB (isiD x t) st1) := by
  obtain ⟨gl, ⟨m1, m2⟩, d1, d2⟩ := globOf_ok xo hg
  obtain ⟨gl2, ok2, d3, d4⟩ := globOf_ok xo hy
  have hv : X.mg y = none ∧ bootBuiltins y = some (.type t.nm) := by
    cases g with
    | bi b =>
      rcases ok2 with ⟨ne, h1, h2⟩ | ⟨rfl, h1⟩
      · cases b <;> first | (cases ht; exact ⟨h1, h2⟩) | cases ht
      · cases ht
    | ty t' =>
      cases ht
      exact ok2
    | _ => cases ht
  refine (pe_callB call_isi gl m1 m2 (pa_cons ha (pa_cons (pe_bltn gl2 hv.1 hv.2 (v := .ty t.nm) rfl d4 d3) pa_nil) he) d2 d1 he rfl).weak fun σ H Q ⟨P, ca, G, sl, st, w, st', hm, hs, e, q⟩ => ?_
  obtain ⟨z, st1, e1, e⟩ := andD_some e
  obtain ⟨r, e2, e3⟩ := okB_some e
  cases e3
  exact ⟨P, ca, G, sl, st, _, _, hm, hs, e1, fun v ca1 G1 H1 n1 hm1 r1 => ⟨v, .ty t.nm, _, _, r, rfl, .ty _, (Rp.mono hm1.sub r1).ty, kit_isi e2, q _ ca1 G1 H1 n1 hm1 (.bl _)⟩⟩
def tLset (K : PySem.W.Frag) (ta : TE) : TE := fun σ H Q => ta σ H fun x H1 => ∃ (l : Addr) (ns : List Int), x = V.ref l ∧ SqL K H1 l (ns.map V.int) ∧ ns.length < 4000 ∧ Q (.int (setL ns).length) H1
theorem pe_lset {a : Expr} {ta : TE} {p p2 q pos : Pos} (hc : X.calm = true) (hg : Gl X "len") (hm : X.mg "len" = none) (hg2 : Gl X "set") (hm2 : X.mg "set" = none) (ha : PE X a ta)
    (na : starEach [a] X.env = (false, eval a X.env) :: starEach [] X.env) : PE X (.Call (.Name "len" p) [.Call (.Name "set" p2) [a] [] q] [] pos) (tLset X.K ta) := by
  refine ⟨fun pins s σ H Q I h => ?_⟩
  refine Call_ (ld_blt I hg hm PySem.boot_len ?_)
  refine PyProof.Rows.callWith_builtin1 (PyProof.Rows.args_cons ?_ rfl) rfl rfl
  refine Call_ (ld_blt I hg2 hm2 PyProof.Rows.boot_set ?_)
  refine PyProof.Rows.callWith_type1 (PyProof.Rows.args_cons (thn (ha.run pins s σ H _ I h) fun v s1 ⟨x, H1, I1, r1, q1⟩ => PyProof.Rows.args_nil ?_) na) na rfl
  obtain ⟨l, ns, rfl, hq, h1, q1⟩ := q1
  cases r1
  obtain ⟨its, r, pl, hz⟩ := I1.list hq
  have hl : its.toArray.size = ns.length := by rw [List.size_toArray, ← r.length, List.length_map]
  refine call_set_list (I1.ok.hd hc) pl.isList (ns := ns) (by simpa using r.ints) (by unfold scanBound; omega) fun h' tk hS hk => ?_
  rw [hl] at hS
  refine PyProof.Rows.args_nil ?_
  obtain ⟨o, es, ep, t, ho, hex, hd, _, _, _, hf, hn⟩ := hS
  have I2 : Inv X pins σ H1 { s1 with heap := h', toks := tk } := I1.kept fun b o e => hk b o (Heap.lt_size e) e
  have hle := firstMet_length_le (fun i => ns.getD i 0) ns.length
  refine call_len_set ho hex hd hf (by rw [hn]; omega) ⟨.int (setL ns).length, H1, I2.tok _, ⟨_, by rw [hn]; rfl⟩, q1⟩
theorem se_lset {p2 q : Pos} (xo : XOk Φ k X C) {gb : B} (hb : gb.val = .builtin "len") (hg : globOf C ("len" : Str) = some (.bi gb)) (hy : globOf C ("set" : Str) = some .set) (ha : PE X a (tE X.K fa))
    (na : starEach [a] X.env = (false, eval a X.env) :: starEach [] X.env) :
    PE X (.Call (.Name "len" p) [.Call (.Name "set" p2) [a] [] q] [] pos) (tE X.K fun sl st => andD (fa sl st) fun x st1 => okD (lsetD x) st1) := by
  obtain ⟨gl, ok, d1, d2⟩ := globOf_ok xo hg
  obtain ⟨gl2, ok2, d3, d4⟩ := globOf_ok xo hy
  have hm : X.mg "len" = none := by
    rcases ok with ⟨_, h1, _⟩ | ⟨rfl, _⟩
    · exact h1
    · unfold B.val at hb
      injection hb with hb
      exact absurd hb (by decide)
  refine (pe_lset xo.calm gl hm gl2 ok2 ha na).weak fun σ H Q ⟨P, ca, G, sl, st, w, st', hm, hs, e, q⟩ => ?_
  obtain ⟨z, st1, e1, e⟩ := andD_some e
  obtain ⟨r, e2, e3⟩ := okD_some e
  cases e3
  refine ⟨P, ca, G, sl, st, _, _, hm, hs, e1, fun v ca1 G1 H1 n1 hm1 r1 => ?_⟩
  cases z with
  | list xs =>
    unfold lsetD at e2
    simp only at e2
    split at e2
    · rename_i ns en
      split at e2
      · rename_i hl
        cases e2
        obtain ⟨l, e4, hG⟩ := Rp.lint r1 en
        exact ⟨l, ns, e4, SqL.of (hm1.sub _ _ hG), hl, q _ ca1 G1 H1 n1 hm1 (.int _)⟩
      · cases e2
    · cases e2
  | _ => cases e2
variable {tg iter : Expr}
theorem JOk.list {K : PySem.W.Frag} {G : Hp} {a : Addr} {xs : List V} {ds : List D} (h : G a = some (.lst xs)) (r : Rps K G xs ds) : JOk K (Itl K a) G ds := by
  intro i P ca Gc H st s hm
  have hH : H a = some (.lst xs) := hm.sub _ _ (s _ _ h)
  refine ⟨fun d hd => ?_, fun hl => ⟨xs, SqL.of hH, by rw [r.length]; exact hl⟩⟩
  obtain ⟨v, hv, rv⟩ := r.get hd
  refine ⟨⟨xs, v, SqL.of hH, hv⟩, fun x H' y => ?_⟩
  obtain ⟨rfl, y⟩ := y
  have e := y xs (SqL.of hH)
  rw [hv] at e
  cases e
  exact ⟨Gc, Ext.refl hm.sub, Rp.mono s rv⟩
theorem JOk.tuple {K : PySem.W.Frag} {G : Hp} {a : Addr} {xs : List V} {ds : List D} (h : SqT K G a xs) (r : Rps K G xs ds) : JOk K (Itt K a) G ds := by
  intro i P ca Gc H st s hm
  have hH : SqT K H a xs := SqT.mono hm.sub (SqT.mono s h)
  refine ⟨fun d hd => ?_, fun hl => ⟨xs, hH, by rw [r.length]; exact hl⟩⟩
  obtain ⟨v, hv, rv⟩ := r.get hd
  refine ⟨⟨xs, v, hH, hv⟩, fun x H' y => ?_⟩
  obtain ⟨rfl, y⟩ := y
  have e := y xs hH
  rw [hv] at e
  cases e
  exact ⟨Gc, Ext.refl hm.sub, Rp.mono s rv⟩
theorem rngD_len : ∀ (n : Nat) (lo : Int), (rngD lo n).length = n
  | 0, _ => rfl
  | n + 1, lo => by
    show (rngD (lo + 1) n).length + 1 = n + 1
    rw [rngD_len n]
theorem rngD_get : ∀ (n : Nat) (lo : Int) (i : Nat), i < n → (rngD lo n)[i]? = some (.int (lo + i))
  | 0, _, _, h => absurd h (Nat.not_lt_zero _)
  | n + 1, lo, 0, _ => by
    show some (PyData.int lo) = _
    simp
  | n + 1, lo, i + 1, h => by
    show (rngD (lo + 1) n)[i]? = _
    rw [rngD_get n (lo + 1) i (by omega)]
    congr 2
    omega
theorem JOk.range {K : PySem.W.Frag} {G : Hp} (lo : Int) (n : Nat) : JOk K (Itr lo n) G (rngD lo n) := by
  intro i P ca Gc H st s hm
  refine ⟨fun d hd => ?_, fun hl => ?_⟩
  · have hi : i < n := by
      have := (List.getElem?_eq_some_iff.mp hd).1
      rw [rngD_len] at this
      exact this
    rw [rngD_get n lo i hi] at hd
    cases hd
    refine ⟨hi, fun x H' y => ?_⟩
    obtain ⟨rfl, rfl⟩ := y
    exact ⟨Gc, Ext.refl hm.sub, .int _⟩
  · show n ≤ i
    rw [rngD_len] at hl
    exact hl
theorem enumD_len : ∀ (xs : List D) (j : Nat), (enumD j xs).length = xs.length
  | [], _ => rfl
  | _ :: xs, j => by
    show (enumD (j + 1) xs).length + 1 = xs.length + 1
    rw [enumD_len xs]
theorem enumD_get : ∀ (xs : List D) (j i : Nat) (d : D), (enumD j xs)[i]? = some d → ∃ x, xs[i]? = some x ∧ d = .tuple [.int ((j + i : Nat) : Int), x]
  | [], _, _, _, h => by cases h
  | x :: xs, j, 0, d, h => by
    cases h
    exact ⟨x, rfl, rfl⟩
  | x :: xs, j, i + 1, d, h => by
    obtain ⟨y, h1, h2⟩ := enumD_get xs (j + 1) i d h
    refine ⟨y, h1, ?_⟩
    rw [h2]
    congr 4
    omega
theorem Rps.two' {K : PySem.W.Frag} {G : Hp} {v w : V} {d e : D} (h1 : Rp K G v d) (h2 : Rp K G w e) : Rps K G [v, w] [d, e] := .cons h1 (.cons h2 .nil)
theorem JOk.enum {K : PySem.W.Frag} {G : Hp} {a : Addr} {xs : List V} {ds : List D} (h : G a = some (.lst xs)) (r : Rps K G xs ds) : JOk K (Ite K a) G (enumD 0 ds) := by
  intro i P ca Gc H st s hm
  have hH : H a = some (.lst xs) := hm.sub _ _ (s _ _ h)
  refine ⟨fun d hd => ?_, fun hl => ⟨xs, SqL.of hH, by rw [r.length, ← enumD_len ds 0]; exact hl⟩⟩
  obtain ⟨y, hy, rfl⟩ := enumD_get ds 0 i d hd
  obtain ⟨v, hv, rv⟩ := r.get hy
  refine ⟨⟨xs, v, SqL.of hH, hv⟩, fun x H' yy => ?_⟩
  obtain ⟨T, z, rfl, nT, rfl, yy⟩ := yy
  have e := yy xs (SqL.of hH)
  rw [hv] at e
  cases e
  refine ⟨_, Ext.new hm.sub nT, Rp.tnew (hm.sub.free nT) ?_⟩
  rw [Nat.zero_add]
  exact Rps.two' (.int _) (Rp.mono s rv)
theorem JOk.enumT {K : PySem.W.Frag} {G : Hp} {a : Addr} {xs : List V} {ds : List D} (h : SqT K G a xs) (r : Rps K G xs ds) : JOk K (IteT K a) G (enumD 0 ds) := by
  intro i P ca Gc H st s hm
  have hH : SqT K H a xs := SqT.mono hm.sub (SqT.mono s h)
  refine ⟨fun d hd => ?_, fun hl => ⟨xs, hH, by rw [r.length, ← enumD_len ds 0]; exact hl⟩⟩
  obtain ⟨y, hy, rfl⟩ := enumD_get ds 0 i d hd
  obtain ⟨v, hv, rv⟩ := r.get hy
  refine ⟨⟨xs, v, hH, hv⟩, fun x H' yy => ?_⟩
  obtain ⟨q, z, rfl, nT, rfl, yy⟩ := yy
  have e := yy xs hH
  rw [hv] at e
  cases e
  refine ⟨_, Ext.new hm.sub nT, Rp.tnew (hm.sub.free nT) ?_⟩
  rw [Nat.zero_add]
  exact Rps.two' (.int _) (Rp.mono s rv)
theorem zipD_get : ∀ (xs ys : List D) (i : Nat) (d : D), (zipD xs ys)[i]? = some d → ∃ x y, xs[i]? = some x ∧ ys[i]? = some y ∧ d = .tuple [x, y]
  | [], _, _, _, h => by
    cases h
  | _ :: _, [], _, _, h => by cases h
  | x :: xs, y :: ys, 0, d, h => by
    cases h
    exact ⟨x, y, rfl, rfl, rfl⟩
  | x :: xs, y :: ys, i + 1, d, h => zipD_get xs ys i d h
theorem zipD_end : ∀ (xs ys : List D) (i : Nat), (zipD xs ys).length ≤ i → xs.length ≤ i ∨ ys.length ≤ i
  | [], _, _, _ => .inl (Nat.zero_le _)
  | _ :: _, [], _, _ => .inr (Nat.zero_le _)
  | x :: xs, y :: ys, 0, h => absurd h (by show ¬ (zipD xs ys).length + 1 ≤ 0; omega)
  | x :: xs, y :: ys, i + 1, h => by
    have h' : (zipD xs ys).length + 1 ≤ i + 1 := h
    rcases zipD_end xs ys i (by omega) with q | q
    · exact .inl (Nat.succ_le_succ q)
    · exact .inr (Nat.succ_le_succ q)
theorem JOk.zip {K : PySem.W.Frag} {G : Hp} {a b : Addr} {xs ys : List V} {ds es : List D} (h : G a = some (.lst xs)) (r : Rps K G xs ds) (h2 : G b = some (.lst ys)) (r2 : Rps K G ys es) : JOk K (Itz K a b) G (zipD ds es) := by
  intro i P ca Gc H st s hm
  have hH : H a = some (.lst xs) := hm.sub _ _ (s _ _ h)
  have hH2 : H b = some (.lst ys) := hm.sub _ _ (s _ _ h2)
  refine ⟨fun d hd => ?_, fun hl => ⟨xs, ys, SqL.of hH, SqL.of hH2, by rw [r.length, r2.length]; exact zipD_end _ _ _ hl⟩⟩
  obtain ⟨y1, y2, hy1, hy2, rfl⟩ := zipD_get ds es i d hd
  obtain ⟨v, hv, rv⟩ := r.get hy1
  obtain ⟨v2, hv2, rv2⟩ := r2.get hy2
  refine ⟨⟨xs, ys, v, v2, SqL.of hH, SqL.of hH2, hv, hv2⟩, fun x H' yy => ?_⟩
  obtain ⟨T, z, z2, rfl, nT, rfl, yy, yy2⟩ := yy
  have e := yy xs (SqL.of hH)
  rw [hv] at e
  cases e
  have e2 := yy2 ys (SqL.of hH2)
  rw [hv2] at e2
  cases e2
  exact ⟨_, Ext.new hm.sub nT, Rp.tnew (hm.sub.free nT) (Rps.two' (Rp.mono s rv) (Rp.mono s rv2))⟩
theorem JOk.zipT {K : PySem.W.Frag} {G : Hp} {a b : Addr} {xs ys : List V} {ds es : List D} (h : SqT K G a xs) (r : Rps K G xs ds) (h2 : SqT K G b ys) (r2 : Rps K G ys es) : JOk K (RZ.ItzT K a b) G (zipD ds es) := by
  intro i P ca Gc H st s hm
  have hH : SqT K H a xs := SqT.mono hm.sub (SqT.mono s h)
  have hH2 : SqT K H b ys := SqT.mono hm.sub (SqT.mono s h2)
  refine ⟨fun d hd => ?_, fun hl => ⟨xs, ys, hH, hH2, by rw [r.length, r2.length]; exact zipD_end _ _ _ hl⟩⟩
  obtain ⟨y1, y2, hy1, hy2, rfl⟩ := zipD_get ds es i d hd
  obtain ⟨v, hv, rv⟩ := r.get hy1
  obtain ⟨v2, hv2, rv2⟩ := r2.get hy2
  refine ⟨⟨xs, ys, v, v2, hH, hH2, hv, hv2⟩, fun x H' yy => ?_⟩
  obtain ⟨T, z, z2, rfl, nT, rfl, yy, yy2⟩ := yy
  have e := yy xs hH
  rw [hv] at e
  cases e
  have e2 := yy2 ys hH2
  rw [hv2] at e2
  cases e2
  exact ⟨_, Ext.new hm.sub nT, Rp.tnew (hm.sub.free nT) (Rps.two' (Rp.mono s rv) (Rp.mono s rv2))⟩
/-- a list or a tuple -/
theorem pi_val (h : PE X e (tE X.K fa)) : PI X tg e (tI X.K fun sl st => andD (fa sl st) fun x st1 => okL (valI x) st1) := by
  refine ⟨fun pins s σ H R I ⟨P, ca, G, sl, st, ds, st', hm, hs, e, q⟩ => ?_⟩
  obtain ⟨x, st1, e1, e⟩ := andD_some e
  obtain ⟨l, e2, e3⟩ := okL_some e
  cases e3
  cases x with
  | list xs =>
    cases e2
    refine (pi_list h).run pins s σ H R I ⟨P, ca, G, sl, st, _, _, hm, hs, e1, fun v ca1 G1 H1 n1 hm1 r1 => ?_⟩
    obtain ⟨a, vs, rfl, h1, a1⟩ := Rp.list_inv r1
    exact ⟨a, rfl, ⟨vs, SqL.of (hm1.sub _ _ h1)⟩, q _ ca1 G1 H1 n1 hm1 (JOk.list h1 a1)⟩
  | tuple xs =>
    cases e2
    refine (pi_tup h).run pins s σ H R I ⟨P, ca, G, sl, st, _, _, hm, hs, e1, fun v ca1 G1 H1 n1 hm1 r1 => ?_⟩
    obtain ⟨a, vs, rfl, h1, a1⟩ := Rp.tuple_inv r1
    exact ⟨a, rfl, ⟨vs, SqT.mono hm1.sub h1⟩, q _ ca1 G1 H1 n1 hm1 (JOk.tuple h1 a1)⟩
  | _ => cases e2
theorem pi_rng1 {x : Str} (xo : XOk Φ k X C) (hg : globOf C x = some .rng) (ha : PE X a (tE X.K fa)) (hs : starEach [a] X.env = [(false, eval a X.env)]) :
    PI X tg (.Call (.Name x p) [a] [] pos) (tI X.K fun sl st => andD (fa sl st) fun x st1 => okL (rngK (.int 0) x) st1) := by
  obtain ⟨gl, ⟨m1, rfl⟩, d1, d2⟩ := globOf_ok xo hg
  refine (pi_range1 gl m1 (pa_cons ha pa_nil hs) hs).weak fun σ H R ⟨P, ca, G, sl, st, ds, st', hm, hs, e, q⟩ => ?_
  obtain ⟨x, st1, e1, e⟩ := andD_some e
  obtain ⟨l, e2, e3⟩ := okL_some e
  cases e3
  refine ⟨P, ca, G, sl, st, _, _, hm, hs, e1, fun v ca1 G1 H1 n1 hm1 r1 => ?_⟩
  rw [rngK_eq] at e2
  cases x with
  | int j =>
    unfold rngI at e2
    simp only at e2
    split at e2
    · rename_i hz
      cases e2
      refine ⟨j, by rw [Rp.int_inv r1], hz.2.2.1, hz.2.2.2, ?_⟩
      refine q _ ca1 G1 H1 n1 hm1 ?_
      have : (j - 0).toNat = j.toNat := by rw [Int.sub_zero]
      rw [this]
      exact JOk.range 0 j.toNat
    · cases e2
  | _ => cases e2
theorem pi_rng2 {x : Str} (xo : XOk Φ k X C) (hg : globOf C x = some .rng) (ha : PE X a (tE X.K fa)) (hb : PE X b (tE X.K fb)) (hs : starEach [a, b] X.env = [(false, eval a X.env), (false, eval b X.env)]) (hs2 : starEach [b] X.env = [(false, eval b X.env)]) :
    PI X tg (.Call (.Name x p) [a, b] [] pos) (tI X.K fun sl st => andD (fa sl st) fun x st1 => andD (fb sl st1) fun y st2 => okL (rngK x y) st2) := by
  obtain ⟨gl, ⟨m1, rfl⟩, d1, d2⟩ := globOf_ok xo hg
  refine (pi_range2 gl m1 (pa_cons ha (pa_cons hb pa_nil hs2) (by rw [hs, hs2])) hs hs2).weak fun σ H R ⟨P, ca, G, sl, st, ds, st', hm, hs, e, q⟩ => ?_
  obtain ⟨x, st1, e1, e⟩ := andD_some e
  obtain ⟨y, st2, e2, e⟩ := andD_some e
  obtain ⟨l, e3, e4⟩ := okL_some e
  cases e4
  refine ⟨P, ca, G, sl, st, _, _, hm, hs, e1, fun v ca1 G1 H1 n1 hm1 r1 => ⟨P, ca1, G1, sl, st1, _, _, hm1, hs.mono n1, e2, fun v2 ca2 G2 H2 n2 hm2 r2 => ?_⟩⟩
  rw [rngK_eq] at e3
  unfold rngI at e3
  split at e3
  · split at e3
    · rename_i hz
      cases e3
      have rv := Rp.int_inv (Rp.mono n2.s r1)
      exact ⟨_, _, by rw [rv, Rp.int_inv r2], hz, q _ ca2 G2 H2 (n1.trans n2) hm2 (JOk.range _ _)⟩
    · cases e3
  · cases e3
theorem pi_enumD {x : Str} {elts : List Expr} {kk : Nat} {tpos : Pos} (xo : XOk Φ k X C) (hg : globOf C x = some .enum) (ha : PE X a (tE X.K fa)) (hs : starEach [a] X.env = [(false, eval a X.env)]) :
    PI X (.Tuple elts kk tpos) (.Call (.Name x p) [a] [] pos) (tI X.K fun sl st => andD (fa sl st) fun x st1 => okL (enumI x) st1) := by
  obtain ⟨gl, ⟨m1, rfl⟩, d1, d2⟩ := globOf_ok xo hg
  refine (pi_enumA gl m1 (pa_cons ha pa_nil hs) hs).weak fun σ H R ⟨P, ca, G, sl, st, ds, st', hm, hs, e, q⟩ => ?_
  obtain ⟨x, st1, e1, e⟩ := andD_some e
  obtain ⟨l, e2, e3⟩ := okL_some e
  cases e3
  refine ⟨P, ca, G, sl, st, _, _, hm, hs, e1, fun v ca1 G1 H1 n1 hm1 r1 => ?_⟩
  cases x with
  | list xs =>
    cases e2
    obtain ⟨a, vs, rfl, h1, a1⟩ := Rp.list_inv r1
    exact ⟨a, vs, rfl, .inl ⟨SqL.of (hm1.sub _ _ h1), q _ ca1 G1 H1 n1 hm1 (JOk.enum h1 a1)⟩⟩
  | tuple xs =>
    cases e2
    obtain ⟨a, vs, rfl, h1, a1⟩ := Rp.tuple_inv r1
    exact ⟨a, vs, rfl, .inr ⟨SqT.mono hm1.sub h1, q _ ca1 G1 H1 n1 hm1 (JOk.enumT h1 a1)⟩⟩
  | _ => cases e2
theorem pi_zipD {x : Str} {elts : List Expr} {kk : Nat} {tpos : Pos} (xo : XOk Φ k X C) (hg : globOf C x = some .zip) (ha : PE X a (tE X.K fa)) (hb : PE X b (tE X.K fb)) (hs : starEach [a, b] X.env = (false, eval a X.env) :: starEach [b] X.env) (hs2 : starEach [b] X.env = [(false, eval b X.env)]) :
    PI X (.Tuple elts kk tpos) (.Call (.Name x p) [a, b] [] pos) (tI X.K fun sl st => andD (fa sl st) fun x st1 => andD (fb sl st1) fun y st2 => okL (zipI x y) st2) := by
  obtain ⟨gl, ⟨m1, rfl⟩, d1, d2⟩ := globOf_ok xo hg
  refine (RZ.pi_zipA gl m1 (pa_cons ha (pa_cons hb pa_nil hs2) hs) hs (by rw [hs2] <;> rfl)).weak fun σ H R ⟨P, ca, G, sl, st, ds, st', hm, hs, e, q⟩ => ?_
  obtain ⟨x, st1, e1, e⟩ := andD_some e
  obtain ⟨y, st2, e2, e⟩ := andD_some e
  obtain ⟨l, e3, e4⟩ := okL_some e
  cases e4
  refine ⟨P, ca, G, sl, st, _, _, hm, hs, e1, fun v ca1 G1 H1 n1 hm1 r1 => ⟨P, ca1, G1, sl, st1, _, _, hm1, hs.mono n1, e2, fun v2 ca2 G2 H2 n2 hm2 r2 => ?_⟩⟩
  unfold zipI at e3
  split at e3
  · cases e3
    obtain ⟨a, vs, rfl, h1, a1⟩ := Rp.list_inv (Rp.mono n2.s r1)
    obtain ⟨b, ws, rfl, h2, a2⟩ := Rp.list_inv r2
    exact ⟨a, b, vs, ws, rfl, .inl ⟨SqL.of (hm2.sub _ _ h1), SqL.of (hm2.sub _ _ h2), q _ ca2 G2 H2 (n1.trans n2) hm2 (JOk.zip h1 a1 h2 a2)⟩⟩
  · cases e3
    obtain ⟨a, vs, rfl, h1, a1⟩ := Rp.tuple_inv (Rp.mono n2.s r1)
    obtain ⟨b, ws, rfl, h2, a2⟩ := Rp.tuple_inv r2
    exact ⟨a, b, vs, ws, rfl, .inr ⟨SqT.mono hm2.sub h1, SqT.mono hm2.sub h2, q _ ca2 G2 H2 (n1.trans n2) hm2 (JOk.zipT h1 a1 h2 a2)⟩⟩
  · cases e3
end
end WM
namespace WM
open PySem PySem.Spec PyProof.Rows L2
section
variable {Φ : Fn} {k : Nat} {X : Cx} {C : CE}
theorem sg_v {x : Str} {i : Nat} {pos : Pos} (xo : XOk Φ k X C) (h : stOf C x = some i) : PG X (.Name x pos) (tG X.K (stTg (.v i)) [i]) := by
  obtain ⟨h1, h2, h3⟩ := stOf_ok xo h
  refine (pg_name (by rw [xo.hN]; exact xo.nd) h1 h2 h3).weak fun v σ H Q ⟨P, ca, G, sl, st, d, sl', hm, hs, r, e, q⟩ => ?_
  cases e
  refine q _ (hs.set (w := .d d) i r) (List.length_set ..) fun j hj => ?_
  rw [List.getElem?_set_ne]
  intro z
  exact hj (by rw [z]; exact List.mem_cons_self)
theorem sgs_nil : PGs X [] (tGs X.K (stTgs .nil) []) :=
  pgs_nil.weak fun vs σ H Q ⟨P, ca, G, sl, st, ds, sl', hm, hs, r, e, q⟩ => by
    cases r with
    | nil =>
      cases e
      exact ⟨rfl, q _ hs rfl fun _ _ => rfl⟩
    | cons _ _ => cases e
theorem sgs_cons {e : Expr} {es : List Expr} {t : Tg} {ts : Tgs} (h1 : PG X e (tG X.K (stTg t) (tgSlots t))) (h2 : PGs X es (tGs X.K (stTgs ts) (tgsSlots ts)))
    (hs : (assignEach (e :: es) X.env).map (·.2) = assign e X.env :: (assignEach es X.env).map (·.2)) : PGs X (e :: es) (tGs X.K (stTgs (.cons t ts)) (tgsSlots (.cons t ts))) :=
  (pgs_cons h1 h2 hs).weak fun vs σ H Q ⟨P, ca, G, sl, st, ds, sl', hm, hs, r, e, q⟩ => by
    cases r with
    | nil => cases e
    | @cons v vs d ds r rr =>
      have e : (match stTg t d sl with
        | some sl' => stTgs ts ds sl'
        | none => none) = some sl' := e
      split at e
      · rename_i sl1 e1
        refine ⟨v, vs, rfl, P, ca, G, sl, st, d, sl1, hm, hs, r, e1, fun σ1 hs1 l1 u1 => ⟨P, ca, G, sl1, st, ds, sl', hm, hs1, rr, e, fun σ2 hs2 l2 u2 => ?_⟩⟩
        refine q σ2 hs2 (l2.trans l1) fun j hj => ?_
        have hj' : j ∉ tgSlots t ++ tgsSlots ts := hj
        rw [List.mem_append, not_or] at hj'
        rw [u2 j hj'.2, u1 j hj'.1]
      · cases e
theorem tgs_len : ∀ {ts : Tgs} {ds : List D} {sl sl' : Sl}, stTgs ts ds sl = some sl' → ds.length = tgsLen ts
  | .nil, [], _, _, _ => rfl
  | .nil, _ :: _, _, _, h => by cases h
  | .cons t ts, [], _, _, h => by cases h
  | .cons t ts, d :: ds, sl, sl', h => by
    have e : (match stTg t d sl with
        | some sl' => stTgs ts ds sl'
        | none => none) = some sl' := h
    split at e
    · show ds.length + 1 = tgsLen ts + 1
      rw [tgs_len e]
    · cases e
theorem sg_t {es : List Expr} {ts : Tgs} {kk : Nat} {pos : Pos} (xo : XOk Φ k X C) (h : PGs X es (tGs X.K (stTgs ts) (tgsSlots ts))) (hn : (assignEach es X.env).length = tgsLen ts) (hst : (assignEach es X.env).findIdx? (·.1) = none) :
    PG X (.Tuple es kk pos) (tG X.K (stTg (.t ts)) (tgSlots (.t ts))) :=
  (pg_tup xo.calm h hn hst).weak fun v σ H Q ⟨P, ca, G, sl, st, d, sl', hm, hs, r, e, q⟩ => by
    cases d with
    | tuple ds =>
      have e : stTgs ts ds sl = some sl' := e
      obtain ⟨a, vs, rfl, h1, a1⟩ := r.tuple_inv
      exact ⟨a, vs, rfl, SqT.mono hm.sub h1, by rw [a1.length]; exact tgs_len e, P, ca, G, sl, st, ds, sl', hm, hs, a1, e, q⟩
    | _ => cases e
theorem cmpT_form {n : Nat} {e : Expr} {t : Tg} (h : cmpT n C e = some t) : (∃ x p, e = .Name x p) ∨ ∃ es kk p, e = .Tuple es kk p := by
  cases n with
  | zero => cases h
  | succ n =>
    unfold cmpT at h
    split at h
    · exact .inl ⟨_, _, rfl⟩
    · exact .inr ⟨_, _, _, rfl⟩
    · cases h
theorem cmpTs_each : ∀ {n : Nat} {es : List Expr} {ts : Tgs} {env : Env}, cmpTs n C es = some ts → (assignEach es env).length = tgsLen ts ∧ (assignEach es env).findIdx? (·.1) = none
  | 0, _, _, _, h => by cases h
  | n + 1, es, ts, env, h => by
    unfold cmpTs at h
    cases es with
    | nil => cases h; exact ⟨rfl, rfl⟩
    | cons e es =>
      simp only at h
      split at h
      · rename_i t ts' h1 h2
        cases h
        obtain ⟨q1, q2⟩ := cmpTs_each (env := env) h2
        rcases cmpT_form h1 with ⟨x, p, rfl⟩ | ⟨es', kk, p, rfl⟩
        · refine ⟨?_, ?_⟩
          · show (assignEach es env).length + 1 = _
            rw [q1] <;> rfl
          · show List.findIdx? (·.1) ((false, _) :: assignEach es env) = none
            rw [List.findIdx?_cons]
            simp [q2]
        · refine ⟨?_, ?_⟩
          · show (assignEach es env).length + 1 = _
            rw [q1] <;> rfl
          · show List.findIdx? (·.1) ((false, _) :: assignEach es env) = none
            rw [List.findIdx?_cons]
            simp [q2]
      · cases h
theorem snd_t (xo : XOk Φ k X C) : ∀ n : Nat, (∀ e t, cmpT n C e = some t → PG X e (tG X.K (stTg t) (tgSlots t))) ∧ ∀ es ts, cmpTs n C es = some ts → PGs X es (tGs X.K (stTgs ts) (tgsSlots ts))
  | 0 => ⟨fun _ _ h => absurd h (fun z => by cases z), fun _ _ h => absurd h (fun z => by cases z)⟩
  | n + 1 => by
    obtain ⟨i1, i2⟩ := snd_t xo n
    refine ⟨fun e t h => ?_, fun es ts h => ?_⟩
    · unfold cmpT at h
      split at h
      · rename_i x p
        cases e1 : stOf C x with
        | none => rw [e1] at h; cases h
        | some i =>
          rw [e1] at h
          cases h
          exact sg_v xo e1
      · rename_i es kk p
        cases e1 : cmpTs n C es with
        | none => rw [e1] at h; cases h
        | some ts =>
          rw [e1] at h
          cases h
          obtain ⟨q1, q2⟩ := cmpTs_each (env := X.env) e1
          exact sg_t xo (i2 _ _ e1) q1 q2
      · cases h
    · unfold cmpTs at h
      cases es with
      | nil => cases h; exact sgs_nil
      | cons e es =>
        simp only at h
        split at h
        · rename_i t ts' h1 h2
          cases h
          refine sgs_cons (i1 _ _ h1) (i2 _ _ h2) ?_
          rcases cmpT_form h1 with ⟨x, p, rfl⟩ | ⟨es', kk, p, rfl⟩ <;> rfl
        · cases h
theorem findB_lookup {x : Str} {k : NameKind} {l : List (Str × NameKind)} (h : l.lookup x = some k) (hk : k ≠ .free) {sc : Scope} :
    (l.map fun (n, k) => if (k == NameKind.free && sc.kind == .function && sc.names.lookup n == some .cell) then (n, NameKind.cell) else (n, k)).lookup x = some k := lookup_relS_keep hk h
theorem blkE_ok {scope : Scope} (xo : XOk Φ k X C) (ok : BlkOk X.N X.env.scope scope (ownOf C scope)) (s : Shared) (H : Hp) (Ca : Addr) (cl : List (Str × Addr)) (fp : List Addr) :
    XOk Φ k (X.blk s H scope (compEnvC scope cl Ca X.env) fp) (blkE C scope) where
  hN := xo.hN
  hsc := by
    show relS scope X.env.scope = relS scope C.sc
    rw [xo.hsc]
  kd := by
    show (relS scope C.sc).kind = .function
    exact ok.kind
  nd := xo.nd
  calm := xo.calm
  dbg := xo.dbg
  own := fun x hx => by
    obtain ⟨y, hy, e⟩ := List.mem_filterMap.mp hx
    have key : ∀ kd, kd ≠ NameKind.free → scope.names.lookup x = some kd → (relS scope C.sc).names.lookup x = some kd := fun kd h1 h2 => lookup_relS_keep h1 h2
    show Loc (relS scope C.sc) x ∧ ((scope.names.lookup x == some .cell) = true ∨ (relS scope C.sc).names.lookup x = some .local)
    split at e
    · split at e
      · rename_i h1
        cases e
        have := key .local (by decide) h1
        exact ⟨.inl this, .inr this⟩
      · cases e
    · split at e
      · rename_i h1
        cases e
        have := key .cell (by decide) h1
        exact ⟨.inr this, .inl (by rw [h1]; rfl)⟩
      · cases e
    · cases e
  gdbg := xo.gdbg
  gl := fun x g h => by
    have q := xo.gl x g h
    cases g with
    | fn i n => exact q
    | con d => exact q
    | bi b => exact q
    | ty t => exact q
    | isi => exact q
    | set => exact q
    | rng => exact q
    | zip => exact q
    | enum => exact q
  room := xo.room
  xe := rfl
theorem wipe_ext {σ σ' : L2.St} : ∀ (vs : List Nat), σ'.length = σ.length → (∀ j, j ∉ vs → σ'[j]? = σ[j]?) → wipe σ' vs = wipe σ vs := fun vs hl h => by
  refine List.ext_getElem? fun j => ?_
  by_cases hj : j ∈ vs
  · have key : ∀ (τ : L2.St) (vs : List Nat), j ∈ vs → (wipe τ vs)[j]? = if j < τ.length then some none else none := by
      intro τ vs
      induction vs with
      | nil => intro h; cases h
      | cons v vs ih =>
        intro hm
        show ((wipe τ vs).set v none)[j]? = _
        by_cases hv : v = j
        · subst hv
          by_cases hl : v < τ.length
          · rw [List.getElem?_set_self (by rw [wipe_length]; exact hl), if_pos hl]
          · rw [List.getElem?_eq_none (by rw [List.length_set, wipe_length]; omega), if_neg hl]
        · rw [List.getElem?_set_ne hv]
          exact ih ((List.mem_cons.mp hm).resolve_left fun z => hv z.symm)
    rw [key σ' vs hj, key σ vs hj, hl]
  · rw [wipe_out hj, wipe_out hj]
    exact h j hj
theorem wipe_idem {σ : L2.St} (vs : List Nat) : wipe (wipe σ vs) vs = wipe σ vs := by
  refine wipe_ext vs (by rw [wipe_length]) fun j hj => ?_
  rw [wipe_out hj]
theorem wipeS_len (sl : Sl) : ∀ vs, (wipeS sl vs).length = sl.length
  | [] => rfl
  | v :: vs => by
    show ((wipeS sl vs).set v none).length = _
    rw [List.length_set, wipeS_len sl vs]
theorem SlOk.wipe {K : PySem.W.Frag} {ca : List Addr} {G : Hp} {σ : L2.St} {sl : Sl} (h : SlOk K ca G σ sl) : ∀ vs : List Nat, SlOk K ca G (L2.wipe σ vs) (wipeS sl vs)
  | [] => h
  | v :: vs => by
    have ih := SlOk.wipe h vs
    refine ⟨by show ((L2.wipe σ vs).set v none).length = ((wipeS sl vs).set v none).length; rw [List.length_set, List.length_set, ih.len], fun i w e => ?_⟩
    have e : ((wipeS sl vs).set v none)[i]? = some (some w) := e
    by_cases hv : v = i
    · subst hv
      have hl : v < (wipeS sl vs).length := by
        have := (List.getElem?_eq_some_iff.mp e).1
        simpa using this
      rw [List.getElem?_set_self hl] at e
      cases e
    · rw [List.getElem?_set_ne hv] at e
      obtain ⟨x, e1, r⟩ := ih.at_ i w e
      refine ⟨x, ?_, r⟩
      show ((L2.wipe σ vs).set v none)[i]? = _
      rw [List.getElem?_set_ne hv]
      exact e1
/-- a thing that is no data and no cell is changed -/
theorem HM.other {K : PySem.W.Frag} {P : Hp} {ca : List Addr} {G H : Hp} {st : Store} {p : Addr} {o : HO} (h : HM K P ca G H st) (n : G p = none) (hp : p ∉ ca) (hP : P p = none) : HM K P ca G (upd H p o) st := by
  have key : ∀ b u, G b = some u → b ≠ p := fun b u e z => by subst z; rw [n] at e; cases e
  refine ⟨fun b u e => by rw [upd_ne (key b u e)]; exact h.sub _ _ e, h.len, h.nd, fun i b c e1 e2 => ?_, fun b u e => ?_, h.pdis, h.pg⟩
  · have hne : b ≠ p := fun z => by
      subst z
      exact hp (List.mem_of_getElem? e1)
    have q := h.cell i b c e1 e2
    cases c with
    | lst fz ds =>
      obtain ⟨ys, g1, g2, gz, g3⟩ := q
      exact ⟨ys, by rw [upd_ne hne]; exact g1, g2, gz, g3⟩
  · have hne : b ≠ p := fun z => by subst z; rw [hP] at e; cases e
    rw [upd_ne hne]
    exact h.prot _ _ e
/-- .. kept from here on -/
theorem HM.guard {K : PySem.W.Frag} {P : Hp} {ca : List Addr} {G H : Hp} {st : Store} {p : Addr} {o : HO} (h : HM K P ca G H st) (e : H p = some o) (hp : p ∉ ca) (g : G p = none) : HM K (upd P p o) ca G H st :=
  ⟨h.sub, h.len, h.nd, h.cell, fun b u q => by
    by_cases hb : b = p
    · subst hb
      rw [upd_same] at q
      rw [← q]
      exact e
    · rw [upd_ne hb] at q
      exact h.prot _ _ q, fun a ha => by
    rw [upd_ne (fun z => by subst z; exact hp ha)]
    exact h.pdis a ha, fun b u q => by
    by_cases hb : b = p
    · subst hb
      exact g
    · rw [upd_ne hb] at q
      exact h.pg b u q⟩
theorem HM.unguard {K : PySem.W.Frag} {P P' : Hp} {ca : List Addr} {G H : Hp} {st : Store} (h : HM K P' ca G H st) (s : Same P P') : HM K P ca G H st :=
  ⟨h.sub, h.len, h.nd, h.cell, s.trans h.prot, fun a ha => s.free (h.pdis a ha), fun a u q => h.pg a u (s _ _ q)⟩
noncomputable def compM (g : GM) (own : List Nat) (fi : DM) (fc fe : EM) : EM := fun sl st => (match fi sl st with
    | none => none
    | some (ds, st1) => okC own (compK (fun d => g d (wipeS sl own)) fc fe ds st1))
theorem compM_list {g : GM} {own : List Nat} {fi : DM} {fc fe : EM} {sl : Sl} {st : Store} {w : W} {st' : Store} (e : compM g own fi fc fe sl st = some (w, st')) : ∃ ds, w = .d (.list ds) := by
  unfold compM at e
  split at e
  · cases e
  · unfold okC at e
    split at e
    · split at e
      · cases e; exact ⟨_, rfl⟩
      · cases e
    · cases e
theorem compL_len {g : D → Option Sl} {c elt : EM} : ∀ {ds : List D} {st : Store} {xs : List D} {st' : Store}, compL g c elt ds st = some (xs, st') → True := fun _ => trivial
/-- the reading of a comprehension -/
theorem tc_comp {t : Tg} {own : List Nat} {wi : DM} {fc fe : EM} (hown : ∀ i ∈ tgSlots t, i ∈ own) {σ : L2.St} {H : Hp} {Q : VK} (h : tN X.K (compM (stTg t) own wi fc fe) σ H Q) :
    tLc (tI X.K wi) (tG X.K (stTg t) (tgSlots t)) (tT X.K fc) (tE X.K fe) own σ H Q := by
  obtain ⟨P, ca, G, sl, st, w, st', hm, hs, e, q⟩ := h
  unfold compM at e
  split at e
  · cases e
  · rename_i ds st1 e1
    rw [compK_eq] at e
    unfold okC at e
    split at e
    · rename_i outD st2 e2
      split at e
      · rename_i hz
        cases e
        refine ⟨P, ca, G, sl, st, ds, st1, hm, hs, e1, fun J ca1 G1 H1 n1 hm1 jo Dd nD => ?_⟩
        -- the invariant: what is made so far, what is left
        refine ⟨fun i m H' => i + m = ds.length ∧ ∃ ca' G' st'' acc accD rest, Nxt ca1 G1 ca' G' ∧ HM X.K P ca' G' H' st'' ∧ H' Dd = some (.lst acc) ∧ G' Dd = none ∧ Dd ∉ ca' ∧ P Dd = none ∧ Rps X.K G' acc accD ∧
            compL (fun d => stTg t d (wipeS sl own)) fc fe (ds.drop i) st'' = some (rest, st') ∧ accD ++ rest = outD, ⟨ds.length, by omega, ca1, G1, st1, [], [], outD, Nxt.refl, hm1.ext (Ext.junk hm1.sub nD), upd_same, hm1.sub.free nD, hm1.fresh nD, hm1.prot.free nD, .nil, by rw [List.drop_zero]; exact e2, rfl⟩, ?_⟩
        rintro i m H' ⟨him, ca', G', st'', acc, accD, rest, n', hm', hD, gD, cD, pD, ra, ec, eo⟩
        obtain ⟨jg, js⟩ := jo i P ca' G' H' st'' n'.s hm'
        by_cases hi : i < ds.length
        · -- a turn
          have hd : ds[i]? = some ds[i] := List.getElem?_eq_getElem hi
          obtain ⟨g1, g2⟩ := jg _ hd
          rw [List.drop_eq_getElem_cons hi] at ec
          unfold compL at ec
          split at ec
          · cases ec
          · rename_i sl1 es
            obtain ⟨wt, st3, e3, ec⟩ := andW_some ec
            refine .inr ⟨g1, fun H'' => ∃ ca2 G2 st4 acc accD rest, Nxt ca1 G1 ca2 G2 ∧ HM X.K P ca2 G2 H'' st4 ∧ H'' Dd = some (.lst acc) ∧ G2 Dd = none ∧ Dd ∉ ca2 ∧ P Dd = none ∧ Rps X.K G2 acc accD ∧
                compL (fun d => stTg t d (wipeS sl own)) fc fe (ds.drop (i + 1)) st4 = some (rest, st') ∧ accD ++ rest = outD, fun H'' hN => ⟨m - 1, by omega, by omega, hN⟩, fun x Hy y => ?_⟩
            obtain ⟨Gy, ex, rx⟩ := g2 x Hy y
            have hmy := hm'.ext ex
            have hDy : Hy Dd = some (.lst acc) := ex.h _ _ hD
            have gDy : Gy Dd = none := (ex.o _ _ hD).trans gD
            have hsy : SlOk X.K ca' Gy (wipe σ own) (wipeS sl own) := ((hs.mono n1).mono (n'.trans (Nxt.of ex.g))).wipe own
            refine ⟨P, ca', Gy, wipeS sl own, st'', ds[i], sl1, hmy, hsy, rx, es, fun σ2 hs2 l2 u2 => ⟨?_, ?_⟩⟩
            · rw [wipe_ext (σ := wipe σ own) own l2 fun j hj => u2 j fun z => hj (hown j z)]
              exact wipe_idem own
            · -- the test
              have hmg := hmy.guard hDy cD gDy
              split at ec
              · cases ec
              · rename_i et
                refine ⟨_, ca', Gy, sl1, st'', wt, st3, false, hmg, hs2, e3, et, fun ca2 G2 H2 n2 hm2 => ?_⟩
                refine iteF ?_
                have hD2 : H2 Dd = some (.lst acc) := hm2.prot _ _ upd_same
                have c2 : Dd ∉ ca2 := fun z => by
                  have := hm2.pdis _ z
                  rw [upd_same] at this
                  cases this
                have hm2' := hm2.unguard (same_upd pD)
                have g2 : G2 Dd = none := hm2.pg _ _ upd_same
                exact ⟨ca2, G2, st3, acc, accD, rest, (n'.trans (Nxt.of ex.g)).trans n2, hm2', hD2, g2, c2, pD, Rps.mono n2.s (Rps.mono ex.g ra), ec, eo⟩
              · rename_i et
                obtain ⟨z, st4, e4, ec⟩ := andD_some ec
                split at ec
                · cases ec
                · rename_i xs st5 e5
                  cases ec
                  refine ⟨_, ca', Gy, sl1, st'', wt, st3, true, hmg, hs2, e3, et, fun ca2 G2 H2 n2 hm2 => ?_⟩
                  refine iteT ?_
                  refine ⟨_, ca2, G2, sl1, st3, .d z, st4, hm2, hs2.mono n2, e4, fun v ca3 G3 H3 n3 hm3 r3 => ?_⟩
                  have hD3 : H3 Dd = some (.lst acc) := hm3.prot _ _ upd_same
                  have c3 : Dd ∉ ca3 := fun z => by
                    have := hm3.pdis _ z
                    rw [upd_same] at this
                    cases this
                  have hm3' := hm3.unguard (same_upd pD)
                  have g3 : G3 Dd = none := hm3.pg _ _ upd_same
                  have ra3 := Rps.mono (n2.trans n3).s (Rps.mono ex.g ra)
                  refine ⟨acc, hD3, ?_, ca3, G3, st4, acc ++ [v], accD ++ [z], xs, ((n'.trans (Nxt.of ex.g)).trans n2).trans n3, hm3'.other g3 c3 pD, upd_same, g3, c3, pD, Rps.append ra3 (.cons r3 .nil), e5, by rw [List.append_assoc]; exact eo⟩
                  rw [ra3.length]
                  rw [← eo] at hz
                  simp only [List.length_append, List.length_cons] at hz
                  omega
        · have ei : i = ds.length := by omega
          have ed : ds.drop i = [] := List.drop_of_length_le (by omega)
          rw [ed] at ec
          cases ec
          rw [List.append_nil] at eo
          subst eo
          exact .inl ⟨js (by omega), q Dd acc accD ca' G' H' (n1.trans n') rfl hm' hD gD cD pD ra (by rw [ra.length]; exact hz)⟩
      · cases e
    · cases e
end
end WM
namespace WM
open PySem PySem.Spec PyProof.Rows L2
section
variable {Φ : Fn} {k : Nat} {X : Cx} {C : CE}
theorem noStar {n : Nat} {e x : Expr} {p : Pos} {e' : E} (h : cmpE n C e = some e') (z : e = .Starred x p) : False := by
  subst z
  cases n with
  | zero => cases h
  | succ n => simp [cmpE] at h
theorem noSlice {n : Nat} {e : Expr} {a b c : Option Expr} {p : Pos} {e' : E} (h : cmpE n C e = some e') (z : e = .Slice a b c p) : False := by
  subst z
  cases n with
  | zero => cases h
  | succ n => simp [cmpE] at h
theorem noSet {n : Nat} {e : Expr} {a : List Expr} {k : Nat} {p : Pos} {e' : E} (h : cmpE n C e = some e') (z : e = .Set a k p) : False := by
  subst z
  cases n with
  | zero => cases h
  | succ n => simp [cmpE] at h
theorem star_ne {e : Expr} {es : List Expr} {env : Env} (h : ∀ x p, e ≠ .Starred x p) : starEach (e :: es) env = (false, eval e env) :: starEach es env := by
  cases e <;> first | rfl | exact absurd rfl (h _ _)
theorem star_of {n : Nat} {e : Expr} {es : List Expr} {env : Env} {e' : E} (h : cmpE n C e = some e') : starEach (e :: es) env = (false, eval e env) :: starEach es env := star_ne fun x p z => noStar h z
theorem cmpR_noStar {n : Nat} {e x : Expr} {p : Pos} {e' : E} (h : cmpR n C e = some e') (z : e = .Starred x p) : False := by
  subst z
  cases n with
  | zero => cases h
  | succ n =>
    unfold cmpR at h
    exact noStar h rfl
theorem star_ofR {n : Nat} {e : Expr} {es : List Expr} {env : Env} {e' : E} (h : cmpR n C e = some e') : starEach (e :: es) env = (false, eval e env) :: starEach es env := star_ne fun x p z => cmpR_noStar h z
theorem plainIx_of {n : Nat} {b : Expr} {e' : E} (h : cmpE n C b = some e') : PlainIx b := by
  intro o i
  cases b <;> first | rfl | exact (noSlice h rfl).elim
theorem plain_es : ∀ {n : Nat} {es : List Expr} {es' : Es} {env : Env} {pos : Pos}, cmpEs n C es = some es' → (backTo pos (starEach es env)).any (·.1) = false
  | 0, _, _, _, _, h => by cases h
  | n + 1, [], _, _, _, _ => rfl
  | n + 1, e :: es, es', env, pos, h => by
    unfold cmpEs at h
    simp only at h
    split at h
    · rename_i a b h1 h2
      rw [star_of h1]
      show (false || (backTo pos (starEach es env)).any (·.1)) = false
      rw [plain_es h2] <;> rfl
    · cases h
theorem plain_rs : ∀ {n : Nat} {es : List Expr} {es' : Es} {env : Env} {pos : Pos}, cmpRs n C es = some es' → (backTo pos (starEach es env)).any (·.1) = false
  | 0, _, _, _, _, h => by cases h
  | n + 1, [], _, _, _, _ => rfl
  | n + 1, e :: es, es', env, pos, h => by
    unfold cmpRs at h
    simp only at h
    split at h
    · rename_i a b h1 h2
      rw [star_ofR h1]
      show (false || (backTo pos (starEach es env)).any (·.1)) = false
      rw [plain_rs h2] <;> rfl
    · cases h
theorem runEs_len : ∀ {es : Es} {sl : Sl} {st : Store} {ws : List W} {st' : Store}, runEs Φ es sl st = some (ws, st') → ∀ {n : Nat} {xs : List Expr}, cmpRs n C xs = some es → ws.length = xs.length
  | .nil, _, _, _, _, h, n, xs, hc => by
    cases h
    cases n with
    | zero => cases hc
    | succ n =>
      unfold cmpRs at hc
      cases xs with
      | nil => rfl
      | cons x xs =>
        simp only at hc
        split at hc <;> cases hc
  | .cons e es, sl, st, ws, st', h, n, xs, hc => by
    obtain ⟨w, st1, e1, h⟩ := andW_some (show andW (runE Φ e sl st) (fun w st1 => (match runEs Φ es sl st1 with
      | none => none
      | some (ws, st2) => some (w :: ws, st2))) = some (ws, st') from h)
    split at h
    · cases h
    · rename_i ws2 st2 e2
      cases h
      cases n with
      | zero => cases hc
      | succ n =>
        unfold cmpRs at hc
        cases xs with
        | nil => cases hc
        | cons x xs =>
          simp only at hc
          split at hc
          · rename_i a b h1 h2
            cases hc
            rw [List.length_cons, List.length_cons, runEs_len e2 h2]
          · cases hc
structure SndE (Φ : Fn) (k n : Nat) : Prop where
  e : ∀ X C, XOk Φ k X C → ∀ e e', cmpE n C e = some e' → PE X e (tE X.K (runE Φ e'))
  t : ∀ X C, XOk Φ k X C → ∀ e e', cmpE n C e = some e' → PT X e (tT X.K (runE Φ e'))
  w : ∀ X C, XOk Φ k X C → ∀ op vs pos e', cmpE n C (.BoolOp op vs pos) = some e' → PW X (.BoolOp op vs pos) (tT X.K (runE Φ e'))
  r : ∀ X C, XOk Φ k X C → ∀ e e', cmpR n C e = some e' → PE X e (tE X.K (runE Φ e'))
  es : ∀ X C, XOk Φ k X C → ∀ e e', cmpEs n C e = some e' → PA X e (tA X.K (runEs Φ e'))
  rs : ∀ X C, XOk Φ k X C → ∀ e e', cmpRs n C e = some e' → PA X e (tA X.K (runEs Φ e'))
  o : ∀ X C, XOk Φ k X C → ∀ e e', cmpO n C e = some e' → PO X e (tO X.K (runO Φ e'))
  c : ∀ X C, XOk Φ k X C → ∀ e e', cmpC n C e = some e' → PTs X e (tT X.K (runC Φ e'))
  i : ∀ X C, XOk Φ k X C → ∀ tg e e', cmpI n C tg e = some e' → PI X tg e (tI X.K (runI Φ e'))
theorem constD_ok {c : Const} {d : D} {j : Nat} {pos : Pos} (h : constD c = some d) : PE X (.Constant c j pos) (tE X.K fun _ st => some (.d d, st)) := by
  cases c with
  | none => cases h; exact se_lit pe_non fun _ => .non
  | bool b => cases h; exact se_lit pe_bl fun _ => .bl b
  | int i => cases h; exact se_lit pe_int fun _ => .int i
  | str s => cases h; exact se_lit pe_str fun _ => .str s
  | _ => cases h
theorem st_pair {e : Expr} {f : EM} (he : ∀ whole, isTrue e X.env whole = (do let v ← whole; standAt e.pos; holding [v] (truthy v))) (h : PE X e (tE X.K f)) : PE X e (tE X.K f) ∧ PT X e (tT X.K f) := ⟨h, st_val h he⟩
theorem snd_e0 : SndE Φ k 0 :=
  ⟨fun _ _ _ _ _ h => absurd h (fun z => by cases z), fun _ _ _ _ _ h => absurd h (fun z => by cases z), fun _ _ _ _ _ _ _ h => absurd h (fun z => by cases z), fun _ _ _ _ _ h => absurd h (fun z => by cases z), fun _ _ _ _ _ h => absurd h (fun z => by cases z), fun _ _ _ _ _ h => absurd h (fun z => by cases z), fun _ _ _ _ _ h => absurd h (fun z => by cases z), fun _ _ _ _ _ h => absurd h (fun z => by cases z), fun _ _ _ _ _ _ h => absurd h (fun z => by cases z)⟩
/-- a value and a test at once -/
theorem snd_et {n : Nat} (ih : SndE Φ k n) (xo : XOk Φ k X C) (e : Expr) (e' : E) (h : cmpE (n + 1) C e = some e') : PE X e (tE X.K (runE Φ e')) ∧ PT X e (tT X.K (runE Φ e')) := by
  unfold cmpE at h
  split at h
  · -- Constant
    rename_i c j pos
    cases e1 : constD c with
    | none => rw [e1] at h; cases h
    | some d =>
      rw [e1] at h
      cases h
      exact st_pair (fun _ => rfl) (constD_ok e1)
  · -- Name
    rename_i x pos
    split at h
    · rename_i i e1
      cases h
      obtain ⟨q1, q2, q3, q4⟩ := slotOf_ok xo e1
      exact st_pair (fun _ => rfl) (se_var (pe_var q1 q2 q3 q4))
    · split at h
      · rename_i d e1
        cases h
        obtain ⟨gl, ⟨v, u, m1, rv, rd⟩, d1, d2⟩ := globOf_ok xo e1
        exact st_pair (fun _ => rfl) (se_lit (pe_glob gl m1 rv d1) rd)
      · cases h
  · -- BinOp
    split at h
    · rename_i a' b' h1 h2
      split at h
      · cases h
        exact st_pair (fun _ => rfl) (se_bin (ih.e X C xo _ _ h1) (ih.e X C xo _ _ h2))
      · cases h
    · cases h
  · -- neg
    rename_i a pos
    cases e1 : cmpE n C a with
    | none => rw [e1] at h; cases h
    | some a' =>
      rw [e1] at h
      cases h
      exact st_pair (fun _ => rfl) (se_neg (ih.e X C xo _ _ e1))
  · -- not
    rename_i a pos
    cases e1 : cmpE n C a with
    | none => rw [e1] at h; cases h
    | some a' =>
      rw [e1] at h
      cases h
      exact ⟨se_not (ih.e X C xo _ _ e1), st_not (ih.t X C xo _ _ e1)⟩
  · -- one
    rename_i op a pos
    refine ⟨pe_one (ih.e X C xo _ _ h), ?_⟩
    cases op with
    | And => exact (st_and1 (ih.t X C xo _ _ h)).pt
    | Or => exact (st_or1 (ih.t X C xo _ _ h)).pt
  · -- and
    split at h
    · rename_i a' b' h1 h2
      cases h
      exact ⟨se_and (ih.e X C xo _ _ h1) (ih.e X C xo _ _ h2), (st_and (ih.t X C xo _ _ h1) (ih.w X C xo _ _ _ _ h2)).pt⟩
    · cases h
  · -- or
    split at h
    · rename_i a' b' h1 h2
      cases h
      exact ⟨se_or (ih.e X C xo _ _ h1) (ih.e X C xo _ _ h2), (st_or (ih.t X C xo _ _ h1) (ih.w X C xo _ _ _ _ h2)).pt⟩
    · cases h
  · -- compare
    split at h
    · rename_i a' b' h1 h2
      split at h
      · cases h
      · rename_i hk
        cases h
        have hk := Bool.not_eq_true _ ▸ hk
        exact ⟨se_cmp xo (ih.e X C xo _ _ h1) (ih.e X C xo _ _ h2) hk, st_cmp xo (ih.e X C xo _ _ h1) (ih.e X C xo _ _ h2) hk⟩
    · cases h
  · split at h
    · rename_i a' b' c' h1 h2 h3
      split at h
      · cases h
      · rename_i hk
        cases h
        have hk := Bool.not_eq_true _ ▸ hk
        exact ⟨se_cmp2 xo (ih.e X C xo _ _ h1) (ih.e X C xo _ _ h2) (ih.e X C xo _ _ h3) hk, st_cmp2 xo (ih.e X C xo _ _ h1) (ih.e X C xo _ _ h2) (ih.e X C xo _ _ h3) hk⟩
    · cases h
  · split at h
    · rename_i a' b' c' d' h1 h2 h3 h4
      split at h
      · cases h
      · rename_i hk
        cases h
        have hk := Bool.not_eq_true _ ▸ hk
        exact ⟨se_cmp3 xo (ih.e X C xo _ _ h1) (ih.e X C xo _ _ h2) (ih.e X C xo _ _ h3) (ih.e X C xo _ _ h4) hk, st_cmp3 xo (ih.e X C xo _ _ h1) (ih.e X C xo _ _ h2) (ih.e X C xo _ _ h3) (ih.e X C xo _ _ h4) hk⟩
    · cases h
  · -- ifexp
    split at h
    · rename_i c' a' b' h1 h2 h3
      cases h
      exact ⟨se_ite (ih.t X C xo _ _ h1) (ih.e X C xo _ _ h2) (ih.e X C xo _ _ h3), st_ite (ih.t X C xo _ _ h1) (ih.t X C xo _ _ h2) (ih.t X C xo _ _ h3)⟩
    · cases h
  · -- tuple
    rename_i es j pos
    cases e1 : cmpEs n C es with
    | none => rw [e1] at h; cases h
    | some es' =>
      rw [e1] at h
      cases h
      exact st_pair (fun _ => rfl) (se_tup (ih.es X C xo _ _ e1))
  · -- list
    rename_i es pos
    cases e1 : cmpEs n C es with
    | none => rw [e1] at h; cases h
    | some es' =>
      rw [e1] at h
      cases h
      exact st_pair (fun _ => rfl) (se_lst (ih.es X C xo _ _ e1))
  · -- slice
    split at h
    · rename_i a' l' h' h1 h2 h3
      cases h
      exact st_pair (fun _ => rfl) (se_sl (ih.e X C xo _ _ h1) (ih.o X C xo _ _ h2) (ih.o X C xo _ _ h3))
    · cases h
  · -- reversed
    rename_i a k p1 p2 p3 pos
    cases e1 : cmpE n C a with
    | none => rw [e1] at h; cases h
    | some a' =>
      rw [e1] at h
      cases h
      exact st_pair (fun _ => rfl) (se_rev (ih.e X C xo _ _ e1))
  · -- item
    split at h
    · rename_i a' b' h1 h2
      cases h
      exact st_pair (fun _ => rfl) (se_ix (ih.r X C xo _ _ h1) (ih.e X C xo _ _ h2) (plainIx_of h2))
    · cases h
  · -- call
    rename_i x p a as pos
    split at h
    · rename_i i j hg
      split at h
      · rename_i es' e1
        split at h
        · rename_i hl
          cases h
          have e0 := e1
          cases n with
          | zero => cases e1
          | succ n =>
            unfold cmpRs at e1
            simp only at e1
            split at e1
            · rename_i a1 b1 h1 h2
              exact st_pair (fun _ => rfl) (se_call xo hg (ih.rs X C xo _ _ e0) hl (fun sl st ws st' q => by rw [runEs_len q e0]; exact hl) (star_ofR h1) (plain_rs h2))
            · cases e1
        · cases h
      · cases h
    · rename_i b hg
      have go : ∀ {es' : Es}, cmpEs n C (a :: as) = some es' → PE X (.Call (.Name x p) (a :: as) [] pos) (tE X.K (runE Φ (.blt b es'))) := by
        intro es' e1
        have e0 := e1
        cases n with
        | zero => cases e1
        | succ n =>
          unfold cmpEs at e1
          simp only at e1
          split at e1
          · rename_i a1 b1 h1 h2
            exact se_blt xo hg (ih.es X C xo _ _ e0) (star_of h1) (plain_es h2)
          · cases e1
      have goR : ∀ {es' : Es}, cmpRs n C (a :: as) = some es' → PE X (.Call (.Name x p) (a :: as) [] pos) (tE X.K (runE Φ (.blt b es'))) := by
        intro es' e1
        have e0 := e1
        cases n with
        | zero => cases e1
        | succ n =>
          unfold cmpRs at e1
          simp only at e1
          split at e1
          · rename_i a1 b1 h1 h2
            exact se_blt xo hg (ih.rs X C xo _ _ e0) (star_ofR h1) (plain_rs h2)
          · cases e1
      split at h
      · rename_i a1 hs
        split at h
        · rename_i hx
          subst hx
          cases e1 : cmpE n C a1 with
          | none => rw [e1] at h; cases h
          | some a' =>
            rw [e1] at h
            cases h
            unfold setArg at hs
            split at hs
            · rename_i s p2 a2 q he
              split at hs
              · rename_i hset
                split at hs
                · rename_i hbs
                  obtain ⟨rfl, rfl⟩ := hbs
                  cases hs
                  cases he
                  exact st_pair (fun _ => rfl) (se_lset xo rfl hg hset (ih.e X C xo _ _ e1) (star_of e1))
                · cases hs
              · cases hs
            · cases hs
        · cases h
      split at h
      · cases e1 : cmpRs n C (a :: as) with
        | none => rw [e1] at h; cases h
        | some es' =>
          rw [e1] at h
          cases h
          exact st_pair (fun _ => rfl) (goR e1)
      · cases e1 : cmpEs n C (a :: as) with
        | none => rw [e1] at h; cases h
        | some es' =>
          rw [e1] at h
          cases h
          exact st_pair (fun _ => rfl) (go e1)
    · rename_i hg
      split at h
      · rename_i y p2
        split at h
        · rename_i a' t' h1 h2
          cases h
          cases hy : globOf C y with
          | none => rw [hy] at h2; cases h2
          | some g =>
            rw [hy] at h2
            exact st_pair (fun _ => rfl) (se_isi xo hg hy h2 (ih.e X C xo _ _ h1) (star_of h1))
        · cases h
      · cases h
    · cases h
  · -- comprehension
    rename_i elt tg iter ifs scope pos
    split at h
    · rename_i it t c e1 h1 h2 h3 h4
      split at h
      · rename_i hk
        cases h
        rw [Bool.and_eq_true] at hk
        have ok : BlkOk X.N X.env.scope scope (ownOf C scope) := by
          rw [xo.hN, xo.hsc]
          exact blkOk_by hk.1
        have hown := of_decide_eq_true hk.2
        have hit : ∀ x, foldedSetIterable iter X.env x = pure x := by
          intro x
          cases n with
          | zero => cases h1
          | succ n =>
            cases iter <;> first | rfl | (exfalso; unfold cmpI at h1; simp only at h1; cases n <;> simp [cmpE] at h1)
        refine st_pair (fun _ => rfl) ?_
        refine (pe_lc xo.calm (by rw [xo.hN]; exact xo.nd) (ih.i X C xo _ _ _ h1) ok (fun s H Ca cl fp => ?_) (fun s H Ca cl fp => ?_) (fun s H Ca cl fp => ?_) hit).weak fun σ H Q hh => tc_comp (wi := runI Φ it) (fc := runC Φ c) (fe := runE Φ e1) hown (tN_of (fun _ _ _ _ q => compM_list q) hh)
        · exact (snd_t (blkE_ok xo ok s H Ca cl fp) n).1 _ _ h2
        · exact ih.c _ _ (blkE_ok xo ok s H Ca cl fp) _ _ h3
        · exact ih.e _ _ (blkE_ok xo ok s H Ca cl fp) _ _ h4
      · cases h
    · cases h
  · cases h
theorem snd_step {n : Nat} (ih : SndE Φ k n) : SndE Φ k (n + 1) where
  e := fun X C xo e e' h => (snd_et ih xo e e' h).1
  t := fun X C xo e e' h => (snd_et ih xo e e' h).2
  w := fun X C xo op vs pos e' h => by
    match vs, h with
    | [], h => cases op <;> (unfold cmpE at h; cases h)
    | [a], h =>
      have h : cmpE n C a = some e' := h
      cases op with
      | And => exact st_and1 (ih.t X C xo _ _ h)
      | Or => exact st_or1 (ih.t X C xo _ _ h)
    | a :: b :: r, h =>
      cases op with
      | And =>
        have h : (match cmpE n C a, cmpE n C (.BoolOp .And (b :: r) pos) with
          | some a', some b' => some (E.and a' b')
          | _, _ => none) = some e' := h
        split at h
        · rename_i a' b' h1 h2
          cases h
          exact st_and (ih.t X C xo _ _ h1) (ih.w X C xo _ _ _ _ h2)
        · cases h
      | Or =>
        have h : (match cmpE n C a, cmpE n C (.BoolOp .Or (b :: r) pos) with
          | some a', some b' => some (E.or a' b')
          | _, _ => none) = some e' := h
        split at h
        · rename_i a' b' h1 h2
          cases h
          exact st_or (ih.t X C xo _ _ h1) (ih.w X C xo _ _ _ _ h2)
        · cases h
  r := fun X C xo e e' h => by
    unfold cmpR at h
    split at h
    · split at h
      · rename_i x pos _ i e1
        cases h
        obtain ⟨q1, q2, q3, q4⟩ := slotOf_ok xo e1
        exact se_raw (pe_var q1 q2 q3 q4)
      · exact ih.e X C xo _ _ h
    · exact ih.e X C xo _ _ h
  es := fun X C xo es es' h => by
    unfold cmpEs at h
    cases es with
    | nil => cases h; exact sa_nil
    | cons e es =>
      simp only at h
      split at h
      · rename_i a b h1 h2
        cases h
        exact sa_cons (ih.e X C xo _ _ h1) (ih.es X C xo _ _ h2) (star_of h1)
      · cases h
  rs := fun X C xo es es' h => by
    unfold cmpRs at h
    cases es with
    | nil => cases h; exact sa_nil
    | cons e es =>
      simp only at h
      split at h
      · rename_i a b h1 h2
        cases h
        exact sa_cons (ih.r X C xo _ _ h1) (ih.rs X C xo _ _ h2) (star_ofR h1)
      · cases h
  o := fun X C xo e e' h => by
    unfold cmpO at h
    cases e with
    | none => cases h; exact so_none
    | some e =>
      simp only at h
      cases e1 : cmpE n C e with
      | none => rw [e1] at h; cases h
      | some a =>
        rw [e1] at h
        cases h
        exact so_some (ih.e X C xo _ _ e1)
  c := fun X C xo es e' h => by
    unfold cmpC at h
    split at h
    · cases h
      refine ⟨fun pins s σ H Q I ⟨P, ca, G, sl, st, w, st', t, hm, hs, e, et, q⟩ => pts_nil.run pins s σ H Q I ?_⟩
      cases e
      cases et
      exact q ca G H Nxt.refl hm
    · rename_i e
      cases e1 : cmpE n C e with
      | none => rw [e1] at h; cases h
      | some a =>
        rw [e1] at h
        cases h
        exact pts_one (ih.t X C xo _ _ e1)
    · cases h
  i := fun X C xo tg e e' h => by
    have val : ∀ {e : Expr} {e' : I}, (cmpE n C e).map .val = some e' → PI X tg e (tI X.K (runI Φ e')) := by
      intro e e' h
      cases e1 : cmpE n C e with
      | none => rw [e1] at h; cases h
      | some a =>
        rw [e1] at h
        cases h
        exact pi_val (ih.e X C xo _ _ e1)
    unfold cmpI at h
    split at h
    · rename_i x p a pos
      split at h
      · rename_i hg
        cases e1 : cmpE n C a with
        | none => rw [e1] at h; cases h
        | some a' =>
          rw [e1] at h
          cases h
          exact pi_rng1 xo hg (ih.e X C xo _ _ e1) (star_of e1)
      · rename_i hg
        split at h
        · cases e1 : cmpE n C a with
          | none => rw [e1] at h; cases h
          | some a' =>
            rw [e1] at h
            cases h
            exact pi_enumD xo hg (ih.e X C xo _ _ e1) (star_of e1)
        · cases h
      · exact val h
    · rename_i x p a b pos
      split at h
      · rename_i hg
        split at h
        · rename_i a' b' h1 h2
          cases h
          exact pi_rng2 xo hg (ih.e X C xo _ _ h1) (ih.e X C xo _ _ h2) (by rw [star_of h1, star_of h2] <;> rfl) (star_of h2)
        · cases h
      · rename_i hg
        split at h
        · rename_i h1 h2
          cases h
          exact pi_zipD xo hg (ih.e X C xo _ _ h1) (ih.e X C xo _ _ h2) (star_of h1) (star_of h2)
        · cases h
      · exact val h
    · exact val h
theorem snd_e : ∀ n : Nat, SndE Φ k n
  | 0 => snd_e0
  | n + 1 => snd_step (snd_e n)
end
end WM
namespace WM
open PySem PySem.Spec PyProof.Rows L2
section
variable {Φ : Fn} {k : Nat} {X : Cx} {C : CE}
variable {e a b c : Expr} {fa fb fc : EM} {pos : Pos}
theorem EndOk.mono {K : PySem.W.Frag} {P : Hp} {D : Ends} {ca ca1 : List Addr} {G G1 : Hp} {sl' : Sl} {st' : Store} (n : Nxt ca G ca1 G1) : ∀ {fl : Fl}, EndOk K P D ca G sl' st' fl → EndOk K P D ca1 G1 sl' st' fl
  | .nx, h => fun σ' ca' G' H' n' => h σ' ca' G' H' (n.trans n')
  | .bk, h => fun σ' ca' G' H' n' => h σ' ca' G' H' (n.trans n')
  | .ct, h => fun σ' ca' G' H' n' => h σ' ca' G' H' (n.trans n')
  | .ret w, h => fun v ca' G' H' n' => h v ca' G' H' (n.trans n')
def setM (i : Nat) (fa : EM) : SM := fun sl st => andW (fa sl st) fun w st1 => some (.nx, sl.set i (some w), st1)
/-- a value, then the name -/
theorem ts_set {i : Nat} {D : Ends} {σ : L2.St} {H : Hp} (h : tS X.K (setM i fa) D σ H) : tAsg (tE X.K fa) (gName i) D σ H := by
  obtain ⟨P, ca, G, sl, st, fl, sl', st', hm, hs, e, q⟩ := h
  obtain ⟨w, st1, e1, e⟩ := andW_some e
  cases e
  exact ⟨P, ca, G, sl, st, w, _, hm, hs, e1, fun v ca1 G1 H1 n1 hm1 r1 => q _ ca1 G1 H1 n1 hm1 ((hs.mono n1).set i r1)⟩
theorem ss_set {x : Str} {i : Nat} {px : Pos} (xo : XOk Φ k X C) (hi : stOf C x = some i) (he : PE X e (tE X.K fa)) (hs : swapsWith e (some (.Name x px)) pos.line X.env = pure false) : PS X (.Assign [.Name x px] e pos) (tS X.K (setM i fa)) := by
  obtain ⟨h1, h2, h3⟩ := stOf_ok xo hi
  exact (ps_set (by rw [xo.hN]; exact xo.nd) h1 h2 he hs h3).weak fun D σ H h => ts_set h
/-- a new list, as a cell -/
theorem HM.newcell {K : PySem.W.Frag} {P : Hp} {ca : List Addr} {G H : Hp} {st : Store} {p : Addr} {xs : List V} {ds : List D} (h : HM K P ca G H st) (h1 : H p = some (.lst xs)) (g : G p = none) (hp : p ∉ ca) (pP : P p = none) (r : Rps K G xs ds) (hz : xs.length ≤ sizeLine) :
    HM K P (ca ++ [p]) G H (st ++ [.lst false ds]) := by
  refine ⟨h.sub, by rw [List.length_append, List.length_append, h.len]; rfl, ?_, fun i a c e1 e2 => ?_, h.prot, fun a ha => ?_, h.pg⟩
  · rw [List.nodup_append]
    refine ⟨h.nd, by simp, fun a ha b hb z => ?_⟩
    rw [List.mem_singleton] at hb
    subst hb
    subst z
    exact hp ha
  · by_cases hi : i < ca.length
    · rw [List.getElem?_append_left hi] at e1
      rw [List.getElem?_append_left (by rw [← h.len]; exact hi)] at e2
      exact h.cell i a c e1 e2
    · have hl : i = ca.length := by
        have := (List.getElem?_eq_some_iff.mp e1).1
        rw [List.length_append, List.length_singleton] at this
        omega
      subst hl
      rw [List.getElem?_append_right (Nat.le_refl _), Nat.sub_self] at e1
      rw [List.getElem?_append_right (by rw [h.len]; exact Nat.le_refl _), h.len, Nat.sub_self] at e2
      cases e1
      cases e2
      exact ⟨xs, h1, r, hz, g⟩
  · rcases List.mem_append.mp ha with ha | ha
    · exact h.pdis a ha
    · rw [List.mem_singleton] at ha
      subst ha
      exact pP
theorem ss_setC {x : Str} {i : Nat} {px : Pos} (xo : XOk Φ k X C) (hi : stOf C x = some i) (he : PE X e (tN X.K fa)) (hs : swapsWith e (some (.Name x px)) pos.line X.env = pure false) : PS X (.Assign [.Name x px] e pos) (tS X.K fun sl st => newC i sl (fa sl st)) := by
  obtain ⟨h1, h2, h3⟩ := stOf_ok xo hi
  refine (ps_set (by rw [xo.hN]; exact xo.nd) h1 h2 he hs h3).weak fun D σ H ⟨P, ca, G, sl, st, fl, sl', st', hm, hs, e, q⟩ => ?_
  replace e : newC i sl (fa sl st) = some (fl, sl', st') := e
  unfold newC at e
  split at e
  · rename_i ds st1 e1
    cases e
    refine ⟨P, ca, G, sl, st, _, st1, hm, hs, e1, fun p xs ds' ca1 G1 H1 n1 ew hm1 hH hG hc hP r hz => ?_⟩
    cases ew
    have hm2 := hm1.newcell hH hG hc hP r hz
    have n2 : Nxt ca G (ca1 ++ [p]) G1 := ⟨n1.s, n1.p.trans (List.prefix_append _ _)⟩
    refine q _ (ca1 ++ [p]) G1 H1 n2 hm2 ((hs.mono n2).set i ⟨p, ?_, rfl⟩)
    rw [← hm1.len, List.getElem?_append_right (Nat.le_refl _), Nat.sub_self] <;> rfl
  · cases e
/-- new lists -/
theorem sn_rep {es : List Expr} {fs : AM} {p1 : Pos} (hs : PA X es (tA X.K fs)) (hb : PE X b (tE X.K fb)) : PE X (.BinOp (.List es p1) .Mult b pos) (tN X.K fun sl st => andD (mkLst (fs sl st)) fun x st1 => andD (fb sl st1) fun y st2 => okD (binK .Mult x y) st2) :=
  (pe_op op_rep (se_lst hs) hb).weak fun σ H Q ⟨P, ca, G, sl, st, w, st', hm, hs, e, q⟩ => by
    obtain ⟨x, st1, e1, e⟩ := andD_some e
    obtain ⟨y, st2, e2, e⟩ := andD_some e
    obtain ⟨d, e3, e4⟩ := okD_some e
    cases e4
    obtain ⟨ds, ed⟩ := mkLst_list e1
    cases ed
    refine ⟨P, ca, G, sl, st, _, _, hm, hs, e1, fun v1 ca1 G1 H1 n1 hm1 r1 => ⟨P, ca1, G1, sl, st1, _, _, hm1, hs.mono n1, e2, fun v2 ca2 G2 H2 n2 hm2 r2 => ?_⟩⟩
    rw [binK_eq] at e3
    unfold binD at e3
    simp only at e3
    cases y with
    | int k =>
      simp only at e3
      split at e3
      · rename_i hz
        cases e3
        obtain ⟨a, vs, rfl, h1, a1⟩ := Rp.list_inv (Rp.mono n2.s r1)
        refine ⟨a, k, vs, rfl, Rp.int_inv r2, hm2.sub _ _ h1, by omega, by omega, by rw [a1.length]; exact hz.2.2, fun p n => ?_⟩
        refine q p _ _ ca2 G2 _ (n1.trans n2) rfl (hm2.ext (Ext.junk hm2.sub n)) upd_same (hm2.sub.free n) (hm2.fresh n) (hm2.prot.free n) (a1.flat _) ?_
        have := (a1.flat k.toNat).length
        rw [this]
        have h2 : ∀ n : Nat, (flatten' n ds).length = ds.length * n := fun n => by
          unfold flatten'
          induction n with
          | zero => rfl
          | succ n ih => rw [List.replicate_succ, List.flatten_cons, List.length_append, ih, Nat.mul_succ, Nat.add_comm]
        rw [h2]
        exact hz.2.2
      · cases e3
    | _ => cases e3
theorem sn_list {x : Str} {p : Pos} (xo : XOk Φ k X C) (hg : globOf C x = some (.bi .list)) (ha : PE X a (tE X.K fa)) (he : starEach [a] X.env = (false, eval a X.env) :: starEach [] X.env) :
    PE X (.Call (.Name x p) [a] [] pos) (tN X.K (bltM .list (consM fa fun _ st => some ([], st)))) := by
  obtain ⟨gl, ok, d1, d2⟩ := globOf_ok xo hg
  rcases ok with ⟨ne, h1, h2⟩ | ⟨z, _⟩
  · refine (pe_callTy call_list_of gl h1 h2 (pa_cons ha pa_nil he) d2 d1 he rfl).weak fun σ H Q ⟨P, ca, G, sl, st, w, st', hm, hs, e, q⟩ => ?_
    replace e : (match consM fa (fun _ st => some ([], st)) sl st with
      | none => none
      | some (ws, st1) => okD (bltW .list ws st1) st1) = some (w, st') := e
    split at e
    · cases e
    · rename_i ws st1 e1
      obtain ⟨d, e2, e3⟩ := okD_some e
      cases e3
      obtain ⟨w1, st2, e4, e5⟩ := andW_some e1
      cases e5
      refine ⟨P, ca, G, sl, st, _, _, hm, hs, e4, fun v1 ca1 G1 H1 n1 hm1 r1 => ?_⟩
      cases w1 with
      | m j => cases e2
      | d x =>
        have e2 : bltD .list [x] = some d := e2
        cases x with
        | list xs =>
          replace e2 : (if xs.length ≤ sizeLine then some (PyData.list xs) else none) = some d := e2
          split at e2
          rotate_left
          · cases e2
          rename_i hz
          cases e2
          obtain ⟨a, vs, rfl, h3, a1⟩ := Rp.list_inv r1
          rw [← a1.length] at hz
          exact ⟨a, vs, rfl, .inl (SqL.of (hm1.sub _ _ h3)), fun p n => q p vs xs ca1 G1 _ n1 rfl (hm1.ext (Ext.junk hm1.sub n)) upd_same (hm1.sub.free n) (hm1.fresh n) (hm1.prot.free n) a1 hz⟩
        | tuple xs =>
          replace e2 : (if xs.length ≤ sizeLine then some (PyData.list xs) else none) = some d := e2
          split at e2
          rotate_left
          · cases e2
          rename_i hz
          cases e2
          obtain ⟨a, vs, rfl, h3, a1⟩ := Rp.tuple_inv r1
          rw [← a1.length] at hz
          exact ⟨a, vs, rfl, .inr (SqT.mono hm1.sub h3), fun p n => q p vs xs ca1 G1 _ n1 rfl (hm1.ext (Ext.junk hm1.sub n)) upd_same (hm1.sub.free n) (hm1.fresh n) (hm1.prot.free n) a1 hz⟩
        | _ => cases e2
  · cases z
end
end WM
namespace WM
open PySem PySem.Spec PyProof.Rows L2
section
variable {Φ : Fn} {k : Nat} {X : Cx} {C : CE}
variable {e a b c : Expr} {fa fb fc : EM} {pos : Pos}
theorem ss_unp {es : List Expr} {kk : Nat} {tp : Pos} {ts : Tgs} (hg : PG X (.Tuple es kk tp) (tG X.K (stTg (.t ts)) (tgSlots (.t ts)))) (he : PE X e (tE X.K fa)) (hw : swappedStores [.Tuple es kk tp] e X.env = pure none) :
    PS X (.Assign [.Tuple es kk tp] e pos) (tS X.K fun sl st => andD (fa sl st) fun x st1 => okN (stTg (.t ts) x sl) st1) := by
  have hs : swapsWithSole [.Tuple es kk tp] e pos.line X.env = pure false := by
    cases e <;> rfl
  refine (ps_asg he hg hs hw rfl).weak fun D σ H ⟨P, ca, G, sl, st, fl, sl', st', hm, hs, e, q⟩ => ?_
  obtain ⟨x, st1, e1, e⟩ := andD_some e
  unfold okN at e
  split at e
  · rename_i sl1 e2
    cases e
    exact ⟨P, ca, G, sl, st, _, _, hm, hs, e1, fun v ca1 G1 H1 n1 hm1 r1 => ⟨P, ca1, G1, sl, _, x, _, hm1, hs.mono n1, r1, e2, fun σ' hs' _ _ => q σ' ca1 G1 H1 n1 hm1 hs'⟩⟩
  · cases e
theorem swap_other {es : List Expr} {kk : Nat} {tp : Pos} (h : ∀ vs j p, e ≠ .Tuple vs j p) : swappedStores [.Tuple es kk tp] e X.env = pure none := by
  cases e <;> first | rfl | exact absurd rfl (h _ _ _)
theorem blockKind_ok (xo : XOk Φ k X C) : X.env.blockKind = .function := by
  unfold Env.blockKind
  have : X.env.scope.kind = .function := by rw [xo.hsc]; exact xo.kd
  rw [this]
  rfl
theorem swap_ok (xo : XOk Φ k X C) {ts vs : List Expr} {kk j : Nat} {tp vp : Pos} {r : Option (List Str)} (h : swapB C ts vs = some r) : swappedStores [.Tuple ts kk tp] (.Tuple vs j vp) X.env = pure r := by
  have hk : X.env.kindOf = fun x => C.sc.names.lookup x := funext fun x => by
    unfold Env.kindOf
    rw [xo.hsc]
  unfold swappedStores
  rw [blockKind_ok xo, hk]
  unfold swapB at h
  split at h
  · rename_i c1
    cases h
    exact (if_pos (by rw [c1]; rfl)).trans rfl
  · rename_i c1
    rw [Bool.not_eq_true] at c1
    refine (if_neg (by rw [c1]; decide)).trans ?_
    split at h
    · cases h
    · rename_i c2
      refine (if_neg c2).trans ?_
      simp only at h
      split at h
      · rename_i c3
        cases h
        exact (if_pos c3).trans rfl
      · rename_i c3
        refine (if_neg c3).trans ?_
        split at h
        · rename_i c4
          cases h
          exact (if_pos c4).trans rfl
        · rename_i c4
          refine (if_neg c4).trans ?_
          split at h
          · cases h
          · rename_i c5
            cases h
            exact (if_neg c5).trans rfl
/-- stores from the right -/
theorem store_row (xo : XOk Φ k X C) {ca : List Addr} {G H : Hp} {pins : List (Addr × Obj)} : ∀ {xs : List Str} {is : List Nat} {ws : List W} {vs : List V} {us : List Value} {sl sl' : Sl} {σ : L2.St} {s : Shared} {Q : L2.St → Prop},
    stsOf C xs = some is → RWs X.K ca G vs ws → Vals vs us → setAll is ws sl = some sl' → L2.Inv X pins σ H s → SlOk X.K ca G σ sl → (∀ σ', SlOk X.K ca G σ' sl' → Q σ') →
    wpAny (model X.prog X.w) X.A (assignInOrder (xs.map fun n => bindName X.env n) us) (fun _ s' => ∃ σ', L2.Inv X pins σ' H s' ∧ Q σ') X.xe s
  | [], is, ws, vs, us, sl, sl', σ, s, Q, h, r, rv, e, I, hs, q => by
    cases h
    cases ws with
    | nil =>
      cases e
      exact assignInOrder_nil ⟨σ, I, q σ hs⟩
    | cons _ _ => cases e
  | x :: xs, is, ws, vs, us, sl, sl', σ, s, Q, h, r, rv, e, I, hs, q => by
    have h : (match stOf C x, stsOf C xs with
      | some i, some is => some (i :: is)
      | _, _ => none) = some is := h
    split at h
    · rename_i i is' h1 h2
      cases h
      cases r with
      | nil => cases e
      | @cons v w vs ws rw' rr =>
        cases rv with
        | @cons _ u _ us ru rru =>
          have e : setAll is' ws (sl.set i (some w)) = some sl' := e
          obtain ⟨q1, q2, q3⟩ := stOf_ok xo h1
          refine assignInOrder_cons (wpAny_bindName (store_ok I (by rw [xo.hN]; exact xo.nd) q1 q2 ru (fun s2 I2 => ?_) q3))
          exact store_row xo h2 rr rru e I2 (hs.set i rw') q
    · cases h
theorem sts_append {x : Str} {i : Nat} : ∀ {xs : List Str} {is : List Nat}, stsOf C xs = some is → stOf C x = some i → stsOf C (xs ++ [x]) = some (is ++ [i])
  | [], _, h, h2 => by
    cases h
    show (match stOf C x, some [] with
      | some i, some is => some (i :: is)
      | _, _ => none) = _
    rw [h2]
    rfl
  | y :: ys, is, h, h2 => by
    have h : (match stOf C y, stsOf C ys with
      | some i, some is => some (i :: is)
      | _, _ => none) = some is := h
    split at h
    · rename_i j js e1 e2
      cases h
      show (match stOf C y, stsOf C (ys ++ [x]) with
      | some i, some is => some (i :: is)
      | _, _ => none) = _
      rw [e1, sts_append e2 h2]
      rfl
    · cases h
theorem sts_reverse : ∀ {xs : List Str} {is : List Nat}, stsOf C xs = some is → stsOf C xs.reverse = some is.reverse
  | [], _, h => by cases h; rfl
  | y :: ys, is, h => by
    have h : (match stOf C y, stsOf C ys with
      | some i, some is => some (i :: is)
      | _, _ => none) = some is := h
    split at h
    · rename_i j js e1 e2
      cases h
      rw [List.reverse_cons, List.reverse_cons]
      exact sts_append (sts_reverse e2) e1
    · cases h
theorem RWs.append {K : PySem.W.Frag} {ca : List Addr} {G : Hp} : ∀ {vs vs' : List V} {ws ws' : List W}, RWs K ca G vs ws → RWs K ca G vs' ws' → RWs K ca G (vs ++ vs') (ws ++ ws')
  | _, _, _, _, .nil, b => b
  | _, _, _, _, .cons h a, b => .cons h (RWs.append a b)
theorem RWs.reverse {K : PySem.W.Frag} {ca : List Addr} {G : Hp} : ∀ {vs : List V} {ws : List W}, RWs K ca G vs ws → RWs K ca G vs.reverse ws.reverse
  | _, _, .nil => .nil
  | _, _, .cons h a => by
    rw [List.reverse_cons, List.reverse_cons]
    exact RWs.append (RWs.reverse a) (.cons h .nil)
theorem Vals.rev : ∀ {xs : List V} {us : List Value}, Vals xs us → Vals xs.reverse us.reverse
  | _, _, .nil => .nil
  | _, _, .cons r t => by
    rw [List.reverse_cons, List.reverse_cons]
    exact L2.Vals.append (Vals.rev t) (.cons r .nil)
theorem setAll_len : ∀ {is : List Nat} {ws : List W} {sl sl' : Sl}, setAll is ws sl = some sl' → ws.length = is.length
  | [], [], _, _, _ => rfl
  | [], _ :: _, _, _, h => by cases h
  | _ :: _, [], _, _, h => by cases h
  | i :: is, w :: ws, sl, sl', h => by
    have h : setAll is ws (sl.set i (some w)) = some sl' := h
    rw [List.length_cons, List.length_cons, setAll_len h]
theorem sts_len : ∀ {xs : List Str} {is : List Nat}, stsOf C xs = some is → xs.length = is.length
  | [], _, h => by cases h; rfl
  | y :: ys, is, h => by
    have h : (match stOf C y, stsOf C ys with
      | some i, some is => some (i :: is)
      | _, _ => none) = some is := h
    split at h
    · rename_i j js e1 e2
      cases h
      rw [List.length_cons, List.length_cons, sts_len e2]
    · cases h
def parM (is : List Nat) (fs : AM) : SM := fun sl st => (match fs sl st with
    | none => none
    | some (ws, st1) => okN (setAll is.reverse ws.reverse sl) st1)
theorem ss_par {ts vs : List Expr} {xs : List Str} {is : List Nat} {kk k2 : Nat} {tp pt2 : Pos} {fs : AM} (xo : XOk Φ k X C) (hx : stsOf C xs = some is) (hl : xs.length ≤ 3) (ha : PA X vs (tA X.K fs))
    (hw : swappedStores [.Tuple ts kk tp] (.Tuple vs k2 pt2) X.env = pure (some xs)) : PS X (.Assign [.Tuple ts kk tp] (.Tuple vs k2 pt2) pos) (tS X.K (parM is fs)) := by
  refine ⟨fun pins s σ H D I h => ?_⟩
  rw [exec_Assign_arm]
  refine wpAny_bind (wpAny_standAt ?_)
  have hs : swapsWithSole [.Tuple ts kk tp] (.Tuple vs k2 pt2) pos.line X.env = pure false := rfl
  rw [hs]
  refine wpAny_bind (wpAny_pure ?_)
  rw [if_neg (by decide)]
  obtain ⟨P, ca, G, sl, st, fl, sl', st', hm, hsl, e, q⟩ := h
  replace e : (match fs sl st with
    | none => none
    | some (ws, st1) => okN (setAll is.reverse ws.reverse sl) st1) = some (fl, sl', st') := e
  split at e
  · cases e
  · rename_i ws st1 e1
    unfold okN at e
    split at e
    · rename_i sl1 e2
      cases e
      refine wpAny_bind (Tuple_ (thn (ha.run _ pins s σ H (fun vs H1 => ∃ ca1 G1, Nxt ca G ca1 G1 ∧ HM X.K P ca1 G1 H1 st' ∧ RWs X.K ca1 G1 vs ws) I ⟨P, ca, G, sl, st, ws, st', hm, hsl, e1, fun vs ca1 G1 H1 n1 hm1 r1 => ⟨ca1, G1, n1, hm1, r1⟩⟩) fun us s1 ⟨vs1, H1, I1, rv, ca1, G1, n1, hm1, r1⟩ => ?_))
      have lw : ws.length = is.length := by
        have := setAll_len e2
        rw [List.length_reverse, List.length_reverse] at this
        exact this
      have lu : us.length = xs.length := by rw [← rv.length, r1.length, lw, sts_len hx]
      refine wpAny_newObj_type ?_ (by show us.toArray.size ≤ sizeLine; rw [List.size_toArray, lu]; exact Nat.le_trans hl (by decide))
      have I2 : L2.Inv X pins σ H1 { s1 with heap := s1.heap.push { cls := .type "tuple", data := .seq us.toArray } } := I1.kept (t' := s1.toks) fun b o e => Heap.get?_push_of_some _ e
      rw [hw]
      refine wpAny_bind (wpAny_pure ?_)
      show wpAny (model X.prog X.w) X.A (do rule "assign.swapped-stores"; let items ← unpackItems (.ref s1.heap.objs.size) xs.length none; assignInOrder (xs.reverse.map fun n => bindName X.env n) items.reverse; pure Flow.next) _ _ _
      have hsz : us.toArray.size = xs.length := by rw [List.size_toArray]; exact lu
      rw [← hsz]
      refine wpAny_bind (wpAny_rule (wpAny_bind (unpackItems_tuple (items := us.toArray) (I.ok.hd xo.calm) (IsTup.new s1.heap _) fun h' hx' => ?_)))
      have I3 := I2.kept (h' := h') (t' := s1.toks) fun b o e => hx' b o (Nat.ne_of_lt (Heap.lt_size e)) e
      refine wpAny_bind (thn (store_row xo (sts_reverse hx) r1.reverse (by simpa using Vals.rev rv) e2 I3 (hsl.mono n1) (Q := fun σ' => SlOk X.K ca1 G1 σ' sl') fun σ' h => h) fun _ s3 ⟨σ', I4, hs4⟩ => wpAny_pure ?_)
      exact ⟨σ', H1, I4, q σ' ca1 G1 H1 n1 hm1 hs4⟩
    · cases e
theorem HM.setcell {K : PySem.W.Frag} {P : Hp} {ca : List Addr} {G H : Hp} {st : Store} {j : Nat} {a : Addr} {ds es : List D} {ys : List V} (h : HM K P ca G H st) (ha : ca[j]? = some a) (hj : st[j]? = some (.lst false ds)) (r : Rps K G ys es) (hz : ys.length ≤ sizeLine) :
    HM K P ca G (upd H a (.lst ys)) (st.set j (.lst false es)) := by
  obtain ⟨xs, h1, h2, _, h3⟩ := h.cell j a _ ha hj
  have h3 : G a = none := h3
  have hP : P a = none := h.pdis a (List.mem_of_getElem? ha)
  refine ⟨fun b u e => by rw [upd_ne (fun z => by subst z; rw [h3] at e; cases e)]; exact h.sub _ _ e, by rw [List.length_set]; exact h.len, h.nd, fun i b c e1 e2 => ?_, fun b u e => by rw [upd_ne (fun z => by subst z; rw [hP] at e; cases e)]; exact h.prot _ _ e, h.pdis, h.pg⟩
  by_cases hi : j = i
  · subst hi
    rw [ha] at e1
    cases e1
    rw [List.getElem?_set_self (List.getElem?_eq_some_iff.mp hj).1] at e2
    cases e2
    exact ⟨ys, upd_same, r, hz, h3⟩
  · rw [List.getElem?_set_ne hi] at e2
    have hne : b ≠ a := fun z => by
      subst z
      obtain ⟨l1, e1'⟩ := List.getElem?_eq_some_iff.mp e1
      obtain ⟨l2, e2'⟩ := List.getElem?_eq_some_iff.mp ha
      exact hi ((List.getElem_inj h.nd).mp (e2'.trans e1'.symm))
    cases c with
    | lst fz ds' =>
      obtain ⟨zs, g1, g2, gz, g3⟩ := h.cell i b _ e1 e2
      exact ⟨zs, by rw [upd_ne hne]; exact g1, g2, gz, g3⟩
theorem ss_put {x : Str} {i : Nat} {px tp : Pos} (xo : XOk Φ k X C) (hi : slotOf C x = some i) (hk : PE X b (tE X.K fb)) (he : PE X e (tE X.K fa)) (ha : ∀ v, assign (.Subscript (.Name x px) b tp) X.env v = (do
      let ov ← holding [v] (eval (.Name x px) X.env)
      let iv ← holding [v, ov] (eval b X.env)
      standAt tp
      holding [v, ov, iv] (setItem ov iv v)
      release [v, ov, iv] [])) :
    PS X (.Assign [.Subscript (.Name x px) b tp] e pos) (tS X.K fun sl st => andD (fa sl st) fun x st1 => andD (fb sl st1) fun q st2 => putC i sl q x st2) := by
  obtain ⟨q1, q2, q3, q4⟩ := slotOf_ok xo hi
  have hs : swapsWithSole [.Subscript (.Name x px) b tp] e pos.line X.env = pure false := by cases e <;> rfl
  have hw : swappedStores [.Subscript (.Name x px) b tp] e X.env = pure none := by cases e <;> rfl
  refine (ps_asg he (pg_sub (pe_var q1 q2 q3 q4) hk set_list ha) hs hw rfl).weak fun D σ H ⟨P, ca, G, sl, st, fl, sl', st', hm, hs, e, q⟩ => ?_
  obtain ⟨x, st1, e1, e⟩ := andD_some e
  obtain ⟨y, st2, e2, e⟩ := andD_some e
  unfold putC at e
  split at e
  · rename_i j hj
    split at e
    · rename_i ds z hc
      split at e
      · rename_i n hn
        cases e
        refine ⟨P, ca, G, sl, st, _, _, hm, hs, e1, fun v1 ca1 G1 H1 n1 hm1 r1 => ?_⟩
        obtain ⟨v0, hv0, a, hca, rfl⟩ := (hs.mono n1).at_ i _ hj
        refine ⟨_, hv0, P, ca1, G1, sl, st1, _, _, hm1, hs.mono n1, e2, fun v2 ca2 G2 H2 n2 hm2 r2 => ?_⟩
        have hca2 := prefix_get n2.p hca
        obtain ⟨xs, h1, h2, hz⟩ := cell_read hm2 hca2 hc
        have r1' := Rp.mono n2.s r1
        refine ⟨a, xs, z, n, rfl, Rp.int_inv r2, h1, by rw [h2.length]; exact hn, ?_⟩
        exact q σ ca2 G2 _ (n1.trans n2) (hm2.setcell hca2 hc (Rps.set r1' n h2) (by rw [List.length_set]; exact hz)) (hs.mono (n1.trans n2))
      · cases e
    · cases e
  · cases e
theorem ss_app {x : Str} {i : Nat} {px apos cpos : Pos} (xo : XOk Φ k X C) (hi : slotOf C x = some i) (he : PE X e (tE X.K fa)) (hst : starEach [e] X.env = (false, eval e X.env) :: starEach [] X.env) (hline : (apos.endLine == cpos.line) = true) :
    PS X (.Expr (.Call (.Attribute (.Name x px) "append" apos) [e] [] cpos) pos) (tS X.K fun sl st => andD (fa sl st) fun x st1 => appC i sl x st1) := by
  obtain ⟨q1, q2, q3, q4⟩ := slotOf_ok xo hi
  have hfew : ((backTo cpos (starEach [e] X.env)).all (fun x => !x.1) && (backToKw cpos (keywordEach [] X.env)).all (fun x => x.1.isSome)
      && decide ([e].length + ([] : List Keyword).length + (if ([] : List Keyword).isEmpty then 0 else 1) < 30)) = true := by
    rw [hst]
    rfl
  refine (ps_expr (pe_bm PySem.F.plainAttrs_list PySem.F.slot_list_append PySem.F.type_list_append mt_append (pe_var q1 q2 q3 q4) (pa_cons he pa_nil hst) rfl hfew hline hst rfl)).weak fun D σ H ⟨P, ca, G, sl, st, fl, sl', st', hm, hs, e, q⟩ => ?_
  obtain ⟨x, st1, e1, e⟩ := andD_some e
  unfold appC at e
  split at e
  · rename_i j hj
    split at e
    · rename_i ds hc
      split at e
      · rename_i hz
        cases e
        obtain ⟨v0, hv0, a, hca, rfl⟩ := hs.at_ i _ hj
        have hlen : j < ca.length := (List.getElem?_eq_some_iff.mp hca).1
        have hjl : j < st.length := by rw [← hm.len]; exact hlen
        obtain ⟨ys, g1, _, _⟩ : ∃ ys, H a = some (.lst ys) ∧ True ∧ True := by
          have := hm.cell j a st[j] hca (List.getElem?_eq_getElem hjl)
          cases hcj : st[j] with
          | lst fz dd =>
            rw [hcj] at this
            obtain ⟨ys, g1, _⟩ := this
            exact ⟨ys, g1, trivial, trivial⟩
        refine ⟨.ref a, hv0, .inl ⟨rfl, ys, SqL.of g1⟩, P, ca, G, sl, st, _, _, hm, hs, e1, fun v1 ca1 G1 H1 n1 hm1 r1 => ?_⟩
        have hca1 := prefix_get n1.p hca
        obtain ⟨xs, h1, h2, hz'⟩ := cell_read hm1 hca1 hc
        refine ⟨a, xs, v1, rfl, rfl, h1, by rw [h2.length]; exact hz, ?_⟩
        exact q σ ca1 G1 _ n1 (hm1.setcell hca1 hc (Rps.append h2 (.cons r1 .nil)) (by rw [List.length_append, h2.length]; exact hz)) (hs.mono n1)
      · cases e
    · cases e
  · cases e
end
end WM
namespace WM
open PySem PySem.Spec PyProof.Rows L2
section
variable {Φ : Fn} {k : Nat} {X : Cx} {C : CE}
variable {e a b c : Expr} {fa fb fc : EM} {pos : Pos}
theorem ss_expr (he : PE X e (tE X.K fa)) (hs : swapsWith e none pos.line X.env = pure false) : PS X (.Expr e pos) (tS X.K fun sl st => andW (fa sl st) fun _ st1 => some (.nx, sl, st1)) :=
  (ps_expr he hs).weak fun D σ H ⟨P, ca, G, sl, st, fl, sl', st', hm, hs, e, q⟩ => by
    obtain ⟨w, st1, e1, e⟩ := andW_some e
    cases e
    exact ⟨P, ca, G, sl, st, w, _, hm, hs, e1, fun v ca1 G1 H1 n1 hm1 r1 => q σ ca1 G1 H1 n1 hm1 (hs.mono n1)⟩
theorem ss_ret (he : PE X e (tE X.K fa)) : PS X (.Return (some e) pos) (tS X.K fun sl st => andW (fa sl st) fun w st1 => some (.ret w, sl, st1)) :=
  (ps_ret he).weak fun D σ H ⟨P, ca, G, sl, st, fl, sl', st', hm, hs, e, q⟩ => by
    obtain ⟨w, st1, e1, e⟩ := andW_some e
    cases e
    exact ⟨P, ca, G, sl, st, w, _, hm, hs, e1, fun v ca1 G1 H1 n1 hm1 r1 => q v ca1 G1 H1 n1 hm1 r1⟩
theorem ss_retN : PS X (.Return none pos) (tS X.K fun sl st => some (.ret (.d .none), sl, st)) :=
  ps_retN.weak fun D σ H ⟨P, ca, G, sl, st, fl, sl', st', hm, hs, e, q⟩ => by
    cases e
    exact q _ ca G H Nxt.refl hm .non
theorem ss_pass : PS X (.Pass pos) (tS X.K fun sl st => some (.nx, sl, st)) :=
  ps_pass.weak fun D σ H ⟨P, ca, G, sl, st, fl, sl', st', hm, hs, e, q⟩ => by
    cases e
    exact q σ ca G H Nxt.refl hm hs
theorem ss_break : PS X (.Break pos) (tS X.K fun sl st => some (.bk, sl, st)) :=
  ps_break.weak fun D σ H ⟨P, ca, G, sl, st, fl, sl', st', hm, hs, e, q⟩ => by
    cases e
    exact q σ ca G H Nxt.refl hm hs
theorem ss_continue : PS X (.Continue pos) (tS X.K fun sl st => some (.ct, sl, st)) :=
  ps_continue.weak fun D σ H ⟨P, ca, G, sl, st, fl, sl', st', hm, hs, e, q⟩ => by
    cases e
    exact q σ ca G H Nxt.refl hm hs
theorem ss_never {s : Stmt} : PS X s (tS X.K fun _ _ => none) :=
  ps_never.weak fun D σ H ⟨P, ca, G, sl, st, fl, sl', st', hm, hs, e, q⟩ => by cases e
def iteSM (fc : EM) (ga gb : SM) : SM := fun sl st => andW (fc sl st) fun w st1 => (match truW w with
    | none => none
    | some true => ga sl st1
    | some false => gb sl st1)
theorem ss_ite {as bs : List Stmt} {ga gb : SM} (hc : PT X c (tT X.K fc)) (ha : PSs X as (tS X.K ga)) (hb : PSs X bs (tS X.K gb)) : PS X (.If c as bs pos) (tS X.K (iteSM fc ga gb)) :=
  (ps_if hc ha hb).weak fun D σ H ⟨P, ca, G, sl, st, fl, sl', st', hm, hs, e, q⟩ => by
    obtain ⟨w, st1, e1, e⟩ := andW_some e
    split at e
    · cases e
    · rename_i et
      exact ⟨P, ca, G, sl, st, w, st1, true, hm, hs, e1, et, fun ca1 G1 H1 n1 hm1 => iteT ⟨P, ca1, G1, sl, st1, fl, sl', st', hm1, hs.mono n1, e, q.mono n1⟩⟩
    · rename_i et
      exact ⟨P, ca, G, sl, st, w, st1, false, hm, hs, e1, et, fun ca1 G1 H1 n1 hm1 => iteF ⟨P, ca1, G1, sl, st1, fl, sl', st', hm1, hs.mono n1, e, q.mono n1⟩⟩
def seqM (g h : SM) : SM := fun sl st => (match g sl st with
    | none => none
    | some (.nx, sl1, st1) => h sl1 st1
    | some r => some r)
theorem sss_nil : PSs X [] (tS X.K fun sl st => some (.nx, sl, st)) :=
  pss_nil.weak fun D σ H ⟨P, ca, G, sl, st, fl, sl', st', hm, hs, e, q⟩ => by
    cases e
    exact q σ ca G H Nxt.refl hm hs
theorem sss_cons {s : Stmt} {ss : List Stmt} {g h : SM} (h1 : PS X s (tS X.K g)) (h2 : PSs X ss (tS X.K h)) : PSs X (s :: ss) (tS X.K (seqM g h)) :=
  (pss_cons h1 h2).weak fun D σ H ⟨P, ca, G, sl, st, fl, sl', st', hm, hs, e, q⟩ => by
    unfold seqM at e
    split at e
    · cases e
    · rename_i sl1 st1 e1
      exact ⟨P, ca, G, sl, st, .nx, sl1, st1, hm, hs, e1, fun σ' ca' G' H' n' hm' hs' => ⟨P, ca', G', sl1, st1, fl, sl', st', hm', hs', e, q.mono n'⟩⟩
    · rename_i r hr e1
      cases e
      refine ⟨P, ca, G, sl, st, fl, sl', st', hm, hs, e1, ?_⟩
      cases fl with
      | nx => exact absurd rfl (hr _ _)
      | bk => exact q
      | ct => exact q
      | ret w => exact q
theorem ss_for {tg iter : Expr} {body : List Stmt} {t : Tg} {fi : DM} {gb : SM} (xo : XOk Φ k X C) (hi : PI X tg iter (tI X.K fi)) (hg : PG X tg (tG X.K (stTg t) (tgSlots t))) (hb : PSs X body (tS X.K gb)) (hs : ∀ x, foldedSetIterable iter X.env x = pure x) :
    PS X (.For tg iter body [] pos) (tS X.K fun sl st => (match fi sl st with
    | none => none
    | some (ds, st1) => forK (stTg t) gb ds sl st1)) := by
  refine (ps_for xo.pass xo.calm hi hg hb hs).weak fun D σ H ⟨P, ca, G, sl, st, fl, sl', st', hm, hs, e, q⟩ => ?_
  replace e : (match fi sl st with
    | none => none
    | some (ds, st1) => forK (stTg t) gb ds sl st1) = some (fl, sl', st') := e
  split at e
  · cases e
  · rename_i ds st1 e1
    rw [forK_eq] at e
    refine ⟨P, ca, G, sl, st, ds, st1, hm, hs, e1, fun J ca1 G1 H1 n1 hm1 jo => ?_⟩
    refine ⟨fun i m σ' H' => i + m = ds.length ∧ ∃ ca' G' sl2 st2, Nxt ca1 G1 ca' G' ∧ HM X.K P ca' G' H' st2 ∧ SlOk X.K ca' G' σ' sl2 ∧ forL (stTg t) gb (ds.drop i) sl2 st2 = some (fl, sl', st'),
      ⟨ds.length, by omega, ca1, G1, sl, st1, Nxt.refl, hm1, hs.mono n1, by rw [List.drop_zero]; exact e⟩, ?_⟩
    rintro i m σ' H' ⟨him, ca', G', sl2, st2, n', hm', hs', ef⟩
    obtain ⟨jg, js⟩ := jo i P ca' G' H' st2 n'.s hm'
    by_cases hi : i < ds.length
    · have hd : ds[i]? = some ds[i] := List.getElem?_eq_getElem hi
      obtain ⟨g1, g2⟩ := jg _ hd
      rw [List.drop_eq_getElem_cons hi] at ef
      unfold forL at ef
      split at ef
      · cases ef
      · rename_i sl3 e3
        refine .inr ⟨g1, fun σ'' H'' => ∃ ca2 G2 sl4 st4, Nxt ca1 G1 ca2 G2 ∧ HM X.K P ca2 G2 H'' st4 ∧ SlOk X.K ca2 G2 σ'' sl4 ∧ forL (stTg t) gb (ds.drop (i + 1)) sl4 st4 = some (fl, sl', st'), fun σ'' H'' hN => ⟨m - 1, by omega, by omega, hN⟩, fun x Hy y => ?_⟩
        obtain ⟨Gy, ex, rx⟩ := g2 x Hy y
        have hmy := hm'.ext ex
        have ny := n'.trans (Nxt.of (ca := ca') ex.g)
        refine ⟨P, ca', Gy, sl2, st2, ds[i], sl3, hmy, hs'.mono (Nxt.of ex.g), rx, e3, fun σ2 hs2 _ _ => ?_⟩
        split at ef
        · cases ef
        · rename_i sl4 st4 e4
          exact ⟨P, ca', Gy, sl3, st2, .nx, sl4, st4, hmy, hs2, e4, fun σ3 ca3 G3 H3 n3 hm3 hs3 => ⟨ca3, G3, sl4, st4, ny.trans n3, hm3, hs3, ef⟩⟩
        · rename_i sl4 st4 e4
          exact ⟨P, ca', Gy, sl3, st2, .ct, sl4, st4, hmy, hs2, e4, fun σ3 ca3 G3 H3 n3 hm3 hs3 => ⟨ca3, G3, sl4, st4, ny.trans n3, hm3, hs3, ef⟩⟩
        · rename_i sl4 st4 e4
          cases ef
          exact ⟨P, ca', Gy, sl3, st2, .bk, sl', st', hmy, hs2, e4, fun σ3 ca3 G3 H3 n3 hm3 hs3 => q σ3 ca3 G3 H3 ((n1.trans ny).trans n3) hm3 hs3⟩
        · rename_i w sl4 st4 e4
          cases ef
          exact ⟨P, ca', Gy, sl3, st2, .ret w, sl', st', hmy, hs2, e4, fun v ca3 G3 H3 n3 hm3 r3 => q v ca3 G3 H3 ((n1.trans ny).trans n3) hm3 r3⟩
    · have ei : i = ds.length := by omega
      have ed : ds.drop i = [] := List.drop_of_length_le (by omega)
      rw [ed] at ef
      cases ef
      exact .inl ⟨js (by omega), q σ' ca' G' H' (n1.trans n') hm' hs'⟩
theorem whlW_some {c : EM} {b : SM} {sl : Sl} {st : Store} {r : Fl × Sl × Store} (h : whlW c b sl st = some r) : ∃ n, whlN c b n sl st = some r := by
  unfold whlW at h
  split at h
  · rename_i e
    cases h
    exact ⟨_, e⟩
  · split at h
    · rename_i hx
      have e := Option.some.inj h
      have p := hx.choose_spec.choose_spec
      rw [e] at p
      exact ⟨_, p⟩
    · cases h
theorem ss_whl {body : List Stmt} {gb : SM} (xo : XOk Φ k X C) (hc : PT X c (tT X.K fc)) (hb : PSs X body (tS X.K gb)) : PS X (.While c body [] pos) (tS X.K fun sl st => whlK fc gb sl st) := by
  refine (ps_while xo.pass hc hb).weak fun D σ H ⟨P, ca, G, sl, st, fl, sl', st', hm, hs, e, q⟩ => ?_
  replace e : whlK fc gb sl st = some (fl, sl', st') := e
  rw [whlK_eq] at e
  obtain ⟨n, en⟩ := whlW_some e
  refine ⟨fun m σ' H' => ∃ ca' G' sl2 st2, Nxt ca G ca' G' ∧ HM X.K P ca' G' H' st2 ∧ SlOk X.K ca' G' σ' sl2 ∧ whlN fc gb m sl2 st2 = some (fl, sl', st'), ⟨n, ca, G, sl, st, Nxt.refl, hm, hs, en⟩, ?_⟩
  rintro m σ' H' ⟨ca', G', sl2, st2, n', hm', hs', ew⟩
  cases m with
  | zero => cases ew
  | succ m =>
    obtain ⟨w, st3, e3, ew⟩ := andW_some ew
    split at ew
    · cases ew
    · rename_i et
      cases ew
      exact ⟨P, ca', G', _, st2, w, _, false, hm', hs', e3, et, fun ca3 G3 H3 n3 hm3 => iteF (q σ' ca3 G3 H3 (n'.trans n3) hm3 (hs'.mono n3))⟩
    · rename_i et
      refine ⟨P, ca', G', sl2, st2, w, st3, true, hm', hs', e3, et, fun ca3 G3 H3 n3 hm3 => iteT ?_⟩
      refine ⟨fun σ'' H'' => ∃ ca2 G2 sl4 st4, Nxt ca G ca2 G2 ∧ HM X.K P ca2 G2 H'' st4 ∧ SlOk X.K ca2 G2 σ'' sl4 ∧ whlN fc gb m sl4 st4 = some (fl, sl', st'), fun σ'' H'' hN => ⟨m, Nat.lt_succ_self _, hN⟩, ?_⟩
      have n13 := n'.trans n3
      split at ew
      · cases ew
      · rename_i sl4 st4 e4
        exact ⟨P, ca3, G3, sl2, st3, .nx, sl4, st4, hm3, hs'.mono n3, e4, fun σ3 ca4 G4 H4 n4 hm4 hs4 => ⟨ca4, G4, sl4, st4, n13.trans n4, hm4, hs4, ew⟩⟩
      · rename_i sl4 st4 e4
        exact ⟨P, ca3, G3, sl2, st3, .ct, sl4, st4, hm3, hs'.mono n3, e4, fun σ3 ca4 G4 H4 n4 hm4 hs4 => ⟨ca4, G4, sl4, st4, n13.trans n4, hm4, hs4, ew⟩⟩
      · rename_i sl4 st4 e4
        cases ew
        exact ⟨P, ca3, G3, sl2, st3, .bk, sl', st', hm3, hs'.mono n3, e4, fun σ3 ca4 G4 H4 n4 hm4 hs4 => q σ3 ca4 G4 H4 (n13.trans n4) hm4 hs4⟩
      · rename_i w2 sl4 st4 e4
        cases ew
        exact ⟨P, ca3, G3, sl2, st3, .ret w2, sl', st', hm3, hs'.mono n3, e4, fun v ca4 G4 H4 n4 hm4 r4 => q v ca4 G4 H4 (n13.trans n4) hm4 r4⟩
theorem swaps_plain {x : Str} {px : Pos} {l : Nat} (h : isLC e = false) : swapsWith e (some (.Name x px)) l X.env = pure false := by
  cases e <;> first | rfl | cases h
theorem hit_of {n : Nat} {tg iter : Expr} {it : I} (h1 : cmpI n C tg iter = some it) : ∀ x, foldedSetIterable iter X.env x = pure x := by
  intro x
  cases n with
  | zero => cases h1
  | succ n =>
    cases iter <;> first | rfl | (exfalso; unfold cmpI at h1; simp only at h1; cases n <;> simp [cmpE] at h1)
theorem noLC {n : Nat} {e' : E} (h : cmpE n C e = some e') : isLC e = false ∨ ∃ elt tg iter ifs scope p, e = .ListComp elt [⟨tg, iter, ifs, 0⟩] scope p := by
  cases n with
  | zero => cases h
  | succ n =>
    cases e with
    | ListComp elt gs scope p =>
      unfold cmpE at h
      split at h <;> first | (rename_i heq; cases heq; done) | skip
      all_goals first | (rename_i heq; cases heq; exact .inr ⟨_, _, _, _, _, _, rfl⟩) | cases h
    | SetComp elt gs scope p => simp [cmpE] at h
    | DictComp a b gs scope p => simp [cmpE] at h
    | _ => exact .inl rfl
structure SndS (Φ : Fn) (k n : Nat) : Prop where
  s : ∀ X C, XOk Φ k X C → ∀ e e', cmpS n C e = some e' → PS X e (tS X.K (runS Φ e'))
  ss : ∀ X C, XOk Φ k X C → ∀ e e', cmpSs n C e = some e' → PSs X e (tS X.K (runSs Φ e'))
end
end WM
namespace WM
open PySem PySem.Spec PyProof.Rows L2
section
variable {Φ : Fn} {k : Nat} {X : Cx} {C : CE}
variable {e a b c : Expr} {fa fb fc : EM} {pos : Pos}
theorem hit_of' {n : Nat} {tg iter : Expr} {it : I} (h1 : cmpI n C tg iter = some it) : ∀ x, foldedSetIterable iter X.env x = pure x := hit_of h1
/-- name = [..], the list laid into the name itself -/
theorem ss_lc {n : Nat} {x : Str} {i : Nat} {px lp : Pos} {elt tg iter : Expr} {ifs : List Expr} {scope : Scope} {e' : E} (xo : XOk Φ k X C) (hi : stOf C x = some i) (hl : X.env.scope.names.lookup x = some .local)
    (hsw : swapsWith (.ListComp elt [⟨tg, iter, ifs, 0⟩] scope lp) (some (.Name x px)) pos.line X.env = pure true) (h : cmpE n C (.ListComp elt [⟨tg, iter, ifs, 0⟩] scope lp) = some e') :
    PS X (.Assign [.Name x px] (.ListComp elt [⟨tg, iter, ifs, 0⟩] scope lp) pos) (tS X.K (setM i (runE Φ e'))) := by
  cases n with
  | zero => cases h
  | succ n =>
    obtain ⟨q1, q2, q3⟩ := stOf_ok xo hi
    have ih : SndE Φ k n := snd_e n
    unfold cmpE at h
    simp only at h
    split at h
    · rename_i it t c e1 h1 h2 h3 h4
      split at h
      · rename_i hk
        cases h
        rw [Bool.and_eq_true] at hk
        have ok : BlkOk X.N X.env.scope scope (ownOf C scope) := by
          rw [xo.hN, xo.hsc]
          exact blkOk_by hk.1
        have hown := of_decide_eq_true hk.2
        refine (ps_setLc xo.calm (by rw [xo.hN]; exact xo.nd) q1 hl hsw (ih.i X C xo _ _ _ h1) ok (fun s H Ca cl fp => ?_) (fun s H Ca cl fp => ?_) (fun s H Ca cl fp => ?_) (hit_of h1)).weak fun D σ H hh => tc_comp (wi := runI Φ it) (fc := runC Φ c) (fe := runE Φ e1) hown (tN_of (fun _ _ _ _ q => compM_list q) (ts_set hh))
        · exact (snd_t (blkE_ok xo ok s H Ca cl fp) n).1 _ _ h2
        · exact ih.c _ _ (blkE_ok xo ok s H Ca cl fp) _ _ h3
        · exact ih.e _ _ (blkE_ok xo ok s H Ca cl fp) _ _ h4
      · cases h
    · cases h
theorem swaps_lc {elt : Expr} {gs : List Comprehension} {scope : Scope} {lp px : Pos} {x : Str} {l : Nat} :
    swapsWith (.ListComp elt gs scope lp) (some (.Name x px)) l X.env = pure false ∨ (swapsWith (.ListComp elt gs scope lp) (some (.Name x px)) l X.env = pure true ∧ X.env.scope.names.lookup x = some .local) := by
  cases hb : (X.env.blockKind == .function && X.env.kindOf x == some .local && px.line == (Expr.ListComp elt gs scope lp).pos.line && !(scope.names.any fun (n, k) => n == x && (k == .local || k == .cell))) with
  | false => exact .inl (congrArg pure hb)
  | true =>
    refine .inr ⟨congrArg pure hb, ?_⟩
    rw [Bool.and_eq_true, Bool.and_eq_true, Bool.and_eq_true] at hb
    exact eq_of_beq hb.1.1.2
theorem cmpE_call_swap {f : Expr} {as : List Expr} {p : Pos} {o : Option Expr} {l : Nat} : swapsWith (.Call f as [] p) o l X.env = pure false := rfl
theorem cmpN_ok {n : Nat} {e' : E} (xo : XOk Φ k X C) (h : cmpN n C e = some e') : PE X e (tN X.K (runE Φ e')) ∧ isLC e = false := by
  cases n with
  | zero => cases h
  | succ n =>
    have ih : SndE Φ k n := snd_e n
    unfold cmpN at h
    simp only at h
    split at h
    · rename_i es p
      cases e1 : cmpEs n C es with
      | none => rw [e1] at h; cases h
      | some es' =>
        rw [e1] at h
        cases h
        exact ⟨sn_lst (ih.es X C xo _ _ e1), rfl⟩
    · split at h
      · rename_i es' b' h1 h2
        cases h
        exact ⟨sn_rep (ih.es X C xo _ _ h1) (ih.e X C xo _ _ h2), rfl⟩
      · cases h
    · split at h
      · rename_i a' hg h1
        cases h
        exact ⟨sn_list xo hg (ih.e X C xo _ _ h1) (star_of h1), rfl⟩
      · cases h
    · cases h
end
end WM
namespace WM
open PySem PySem.Spec PyProof.Rows L2
section
variable {Φ : Fn} {k : Nat} {X : Cx} {C : CE}
variable {e a b c : Expr} {fa fb fc : EM} {pos : Pos}
theorem snd_s0 : SndS Φ k 0 where
  s := fun X C xo e e' h => by cases h
  ss := fun X C xo e e' h => by cases h
theorem put_plain {n : Nat} {x : Str} {px tp : Pos} {k' : E} (h : cmpE n C b = some k') (v : Value) : assign (.Subscript (.Name x px) b tp) X.env v = (do
      let ov ← holding [v] (eval (.Name x px) X.env)
      let iv ← holding [v, ov] (eval b X.env)
      standAt tp
      holding [v, ov, iv] (setItem ov iv v)
      release [v, ov, iv] []) := by
  rw [assign]
  cases n with
  | zero => cases h
  | succ n =>
    cases b <;> first | rfl | (simp [cmpE] at h; done)
theorem swapB_len {ts vs : List Expr} {xs : List Str} (h : swapB C ts vs = some (some xs)) : xs.length ≤ 3 := by
  unfold swapB at h
  split at h
  · cases h
  · rename_i c1
    split at h
    · cases h
    · simp only at h
      split at h
      · cases h
      · rename_i c3
        split at h
        · cases h
        · split at h
          · cases h
          · cases h
            simp only [Bool.or_eq_true, not_or, bne_iff_ne, ne_eq, Decidable.not_not] at c3
            simp only [Bool.or_eq_true, not_or, Bool.not_eq_true', Bool.not_eq_false, beq_iff_eq] at c1
            rw [c3.1]
            have := c1.1
            omega
theorem snd_asg {n : Nat} {x : Str} {px : Pos} {s' : S} (xo : XOk Φ k X C) (h : (if decide (x ∈ C.cells) then (match stOf C x, cmpN n C e with
        | some i, some e' => some (S.setC i e')
        | _, _ => none)
      else (match stOf C x, cmpE n C e with
        | some i, some e' => some (S.set i e')
        | _, _ => none)) = some s') : PS X (.Assign [.Name x px] e pos) (tS X.K (runS Φ s')) := by
  split at h
  · split at h
    · rename_i i e' h1 h2
      cases h
      obtain ⟨q, ql⟩ := cmpN_ok xo h2
      exact ss_setC xo h1 q (swaps_plain ql)
    · cases h
  · split at h
    · rename_i i e' h1 h2
      cases h
      rcases noLC h2 with q | ⟨elt, tg, iter, ifs, scope, p, rfl⟩
      · exact ss_set xo h1 ((snd_e n).e X C xo _ _ h2) (swaps_plain q)
      · rcases swaps_lc (X := X) (elt := elt) (gs := [⟨tg, iter, ifs, 0⟩]) (scope := scope) (lp := p) (px := px) (x := x) (l := pos.line) with q | ⟨q, ql⟩
        · exact ss_set xo h1 ((snd_e n).e X C xo _ _ h2) q
        · exact ss_lc xo h1 ql q h2
    · cases h
theorem snd_unp {n : Nat} {ts : List Expr} {kk : Nat} {tp : Pos} {tg : Tgs} {e' : E} (xo : XOk Φ k X C) (h1 : cmpTs n C ts = some tg) (h2 : cmpE n C e = some e') (hw : swappedStores [.Tuple ts kk tp] e X.env = pure none) :
    PS X (.Assign [.Tuple ts kk tp] e pos) (tS X.K (runS Φ (.unp tg e'))) := by
  refine ss_unp ?_ ((snd_e n).e X C xo _ _ h2) hw
  refine (snd_t xo (n + 1)).1 _ (.t tg) ?_
  unfold cmpT
  simp only
  rw [h1]
  rfl
theorem snd_ss {n : Nat} (ih : SndS Φ k n) : SndS Φ k (n + 1) where
  s := fun X C xo s s' h => by
    have ie : SndE Φ k n := snd_e n
    unfold cmpS at h
    simp only at h
    split at h
    · exact snd_asg xo h
    · split at h
      · split at h
        · rename_i hs
          split at h
          · rename_i h1 h2
            cases h
            exact ss_par xo h1 (swapB_len hs) (ie.es X C xo _ _ h2) (swap_ok xo hs)
          · cases h
        · rename_i hs
          split at h
          · rename_i h1 h2
            cases h
            exact snd_unp xo h1 h2 (swap_ok xo hs)
          · cases h
        · cases h
      · rename_i hne
        split at h
        · rename_i h1 h2
          split at h
          · cases h
          · cases h
            exact snd_unp xo h1 h2 (swap_other fun vs j p z => hne _ _ _ z)
        · cases h
    · split at h
      · rename_i h1 h2 h3
        split at h
        · cases h
        · cases h
          exact ss_put xo h1 (ie.e X C xo _ _ h2) (ie.e X C xo _ _ h3) (put_plain h2)
      · cases h
    · split at h
      · rename_i h1 h2
        split at h
        · rename_i hk
          cases h
          rw [Bool.and_eq_true] at hk
          have ha := of_decide_eq_true hk.1
          subst ha
          exact ss_app xo h1 (ie.e X C xo _ _ h2) (star_of h2) hk.2
        · cases h
      · cases h
    · rename_i f as p pos _
      cases e1 : cmpE n C (.Call f as [] p) with
      | none => rw [e1] at h; cases h
      | some e' =>
        rw [e1] at h
        cases h
        exact ss_expr (ie.e X C xo _ _ e1) rfl
    · split at h
      · rename_i h1 h2 h3
        cases h
        exact ss_ite (ie.t X C xo _ _ h1) (ih.ss X C xo _ _ h2) (ih.ss X C xo _ _ h3)
      · cases h
    · split at h
      · rename_i h1 h2 h3
        cases h
        exact ss_for xo (ie.i X C xo _ _ _ h1) ((snd_t xo n).1 _ _ h2) (ih.ss X C xo _ _ h3) (hit_of h1)
      · cases h
    · split at h
      · rename_i h1 h2
        cases h
        exact ss_whl xo (ie.t X C xo _ _ h1) (ih.ss X C xo _ _ h2)
      · cases h
    · rename_i e pos
      cases e1 : cmpE n C e with
      | none => rw [e1] at h; cases h
      | some e' =>
        rw [e1] at h
        cases h
        exact ss_ret (ie.e X C xo _ _ e1)
    · cases h; exact ss_retN
    · cases h; exact ss_never
    · cases h; exact ss_pass
    · cases h; exact ss_break
    · cases h; exact ss_continue
    · cases h
  ss := fun X C xo ss s' h => by
    unfold cmpSs at h
    cases ss with
    | nil => cases h; exact sss_nil
    | cons s ss =>
      simp only at h
      split at h
      · rename_i h1 h2
        cases h
        exact sss_cons (ih.s X C xo _ _ h1) (ih.ss X C xo _ _ h2)
      · cases h
theorem snd_s : ∀ n : Nat, SndS Φ k n
  | 0 => snd_s0
  | n + 1 => snd_ss (snd_s n)
end
end WM
namespace WM
open PySem PySem.Spec PyProof.Rows L2
theorem RWs.slotsOk {K : PySem.W.Frag} {ca : List Addr} {G : Hp} {vs : List V} {ws : List W} (r : RWs K ca G vs ws) (N : List Str) : SlOk K ca G (L2.start N vs) (slots N.length ws) := by
  refine ⟨?_, fun i w e => ?_⟩
  · unfold L2.start slots
    rw [List.length_append, List.length_append, List.length_map, List.length_map, List.length_replicate, List.length_replicate, r.length]
  · unfold slots at e
    by_cases hi : i < ws.length
    · rw [List.getElem?_append_left (by simpa using hi), List.getElem?_map] at e
      cases e1 : ws[i]? with
      | none => rw [e1] at e; cases e
      | some w' =>
        rw [e1] at e
        cases e
        obtain ⟨v, h1, h2⟩ := r.get e1
        refine ⟨v, ?_, h2⟩
        unfold L2.start
        rw [List.getElem?_append_left (by rw [List.length_map, r.length]; exact hi), List.getElem?_map, h1]
        rfl
    · rw [List.getElem?_append_right (by simpa using hi), List.getElem?_replicate] at e
      split at e <;> cases e
theorem HM.back {K : PySem.W.Frag} {P : Hp} {ca ca' : List Addr} {G' H' : Hp} {st' : Store} (h : HM K P ca' G' H' st') (p : ca <+: ca') : HM K P ca G' H' (st'.take ca.length) := by
  obtain ⟨t, rfl⟩ := p
  have hl := h.len
  rw [List.length_append] at hl
  refine ⟨h.sub, by rw [List.length_take]; omega, (List.nodup_append.mp h.nd).1, fun i a c e1 e2 => ?_, h.prot, fun a ha => h.pdis a (List.mem_append_left _ ha), h.pg⟩
  have hi : i < ca.length := (List.getElem?_eq_some_iff.mp e1).1
  rw [List.getElem?_take_of_lt hi] at e2
  exact h.cell i a c (by rw [List.getElem?_append_left hi]; exact e1) e2
/-- a callee's cell, handed back as data -/
theorem HM.give {K : PySem.W.Frag} {P : Hp} {ca ca' : List Addr} {G' H' : Hp} {st' : Store} {j : Nat} {a : Addr} {fz : Bool} {ds : List D} (h : HM K P ca' G' H' st') (p : ca <+: ca') (hj : ca.length ≤ j) (ha : ca'[j]? = some a) (hc : st'[j]? = some (.lst fz ds)) :
    ∃ G2, Same G' G2 ∧ HM K P ca G2 H' (st'.take ca.length) ∧ Rp K G2 (.ref a) (.list ds) := by
  obtain ⟨xs, h1, h2, hz, h3⟩ := h.cell j a _ ha hc
  have hb := h.back p
  cases fz with
  | true =>
    have h3 : G' a = some (.lst xs) := h3
    exact ⟨G', Same.refl _, hb, .lst h3 h2⟩
  | false =>
    have h3 : G' a = none := h3
    have hna : a ∉ ca := fun z => by
      obtain ⟨i, hi, e⟩ := List.mem_iff_getElem.mp z
      have e1 : ca'[i]? = some a := prefix_get p (by rw [List.getElem?_eq_getElem hi, e])
      obtain ⟨l1, e1'⟩ := List.getElem?_eq_some_iff.mp e1
      obtain ⟨l2, e2'⟩ := List.getElem?_eq_some_iff.mp ha
      have := (List.getElem_inj h.nd).mp (e1'.trans e2'.symm)
      omega
    have sm : Same G' (upd G' a (.lst xs)) := same_upd h3
    refine ⟨upd G' a (.lst xs), sm, ⟨fun b u e => ?_, hb.len, hb.nd, fun i b c e1 e2 => ?_, hb.prot, hb.pdis, fun b u e => ?_⟩, .lst upd_same (Rps.mono sm h2)⟩
    · by_cases q : b = a
      · subst q
        rw [upd_same] at e
        cases e
        exact h1
      · rw [upd_ne q] at e
        exact hb.sub _ _ e
    · have hne : b ≠ a := fun z => hna (z ▸ List.mem_of_getElem? e1)
      have q := hb.cell i b c e1 e2
      cases c with
      | lst f2 ds2 =>
        obtain ⟨ys, q1, q2, q3, q4⟩ := q
        refine ⟨ys, q1, Rps.mono sm q2, q3, ?_⟩
        cases f2 <;> (show upd G' a (.lst xs) b = _; rw [upd_ne hne]; exact q4)
    · have hne : b ≠ a := fun z => by
        subst z
        rw [h.pdis b (List.mem_of_getElem? ha)] at e
        cases e
      rw [upd_ne hne]
      exact h.pg b u e
/-- what a def of the text is, once its text is read -/
structure FdOk (gl : List (Str × GV)) (cells : List Str) (ps N : List Str) (scope : Scope) (body : List Stmt) (fd : Fd) : Prop where
  S : FnScope N ps scope
  n : fd.n = N.length
  ps : fd.ps = ps.length
  dbg : ∀ x ∈ N, (x == ("__debug__" : Str)) = false ∧ (x == ("__classdict__" : Str)) = false
  gdbg : ∀ x g, gl.lookup x = some g → (x == ("__debug__" : Str)) = false ∧ x ≠ ("__name__" : Str)
  own : ∃ own fuel, (∀ x ∈ own, Loc scope x) ∧ cmpSs fuel ⟨N, scope, own, gl, cells⟩ body = some fd.body
section
variable {P : Program} {w : World} {K : PySem.W.Frag} {mg : Str → Option Value} {base : Heap}
/-- a global name, at the module's heap -/
def GlOk (Φ : Fn) (k : Nat) (P : Program) (w : World) (K : PySem.W.Frag) (mg : Str → Option Value) (base : Heap) (x : Str) : GV → Prop
  | .fn i n => ∃ f fd ps, mg x = some (.ref f) ∧ PySem.W.keepIn K (.ref f) = true ∧ Binds K fd ps [] ∧ ps.length = n ∧ FnOk P w K mg base CX0 k f fd ps (spD K (Φ i) n)
  | .con d => ∃ v u, mg x = some u ∧ RelV v u ∧ ∀ G, Rp K G v d
  | .bi b => (b ≠ .gcd ∧ mg x = none ∧ bootBuiltins x = some b.val) ∨ (b = .gcd ∧ mg x = some b.val)
  | .ty t => mg x = none ∧ bootBuiltins x = some (.type t.nm)
  | .isi => mg x = none ∧ bootBuiltins x = some (.builtin "isinstance")
  | .set => mg x = none
  | .rng => mg x = none ∧ x = "range"
  | .zip => mg x = none ∧ x = "zip"
  | .enum => mg x = none ∧ x = "enumerate"
theorem GlOk.at {Φ : Fn} {k : Nat} {X : Cx} {x : Str} {g : GV} (h : GlOk Φ k X.prog X.w X.K X.mg X.base x g) : GOk Φ k X x g := by
  cases g <;> exact h
theorem fd_ok {Φ : Fn} {k : Nat} {gl : List (Str × GV)} {cells ps N : List Str} {scope : Scope} {body : List Stmt} {fd : Fd} {x qual : Str} {params : Arguments} {f : Addr} {fdd : FuncData}
    (F : FunD K x qual params body scope [] [] f fdd) (o : FdOk gl cells ps N scope body fd) (g : ∀ x g, gl.lookup x = some g → GlOk Φ k P w K mg base x g) :
    FnOk P w K mg base CX0 (k + 1) f fdd ps (spD K (runF Φ fd) ps.length) := by
  obtain ⟨own, fuel, hown, hc⟩ := o.own
  refine F.ok o.S (fun vs H Q E h => h.1) fun cdv A outer s H vs Q E hr ⟨hl, P0, ca, G, st, ws, r, st', hm, hw, e, q⟩ => ?_
  have xo : XOk Φ k (cxOf CX0 P w K mg base N qual scope f cdv A outer s H E).nox ⟨N, scope, own, gl, cells⟩ :=
    ⟨rfl, rfl, o.S.kind, o.S.nd, rfl, o.dbg, fun x hx => ⟨hown x hx, .inl rfl⟩, o.gdbg, fun x gg h => GlOk.at (g x gg h), hr, rfl⟩
  refine ⟨_, ((snd_s fuel).ss _ _ xo _ _ hc).nox, ?_⟩
  unfold runF at e
  split at e
  rotate_left
  · cases e
  have hs : SlOk K ca G (L2.start N vs) (slots fd.n ws) := by
    rw [o.n]
    exact hw.slotsOk N
  cases er : runSs Φ fd.body (slots fd.n ws) st with
  | none => rw [er] at e; cases e
  | some z =>
    obtain ⟨fl, sl', st''⟩ := z
    rw [er] at e
    have hn := hm.len
    cases fl with
    | nx =>
      cases e
      refine ⟨P0, ca, G, _, st, .nx, sl', st'', hm, hs, er, fun σ' ca' G' H' n' hm' hs' => q _ G' H' n'.s ?_ .non⟩
      rw [← hn]
      exact hm'.back n'.p
    | bk => cases e
    | ct => cases e
    | ret rw0 =>
      cases rw0 with
      | d x =>
        cases e
        refine ⟨P0, ca, G, _, st, .ret _, sl', st'', hm, hs, er, fun v ca' G' H' n' hm' r' => q v G' H' n'.s ?_ r'⟩
        rw [← hn]
        exact hm'.back n'.p
      | m j =>
        refine ⟨P0, ca, G, _, st, .ret _, sl', st'', hm, hs, er, fun v ca' G' H' n' hm' r' => ?_⟩
        obtain ⟨a, ha, rfl⟩ := r'
        have e : (if j < st.length then some (W.m j, st''.take st.length) else (match st''[j]? with
    | some (.lst _ ds) => some (.d (.list ds), st''.take st.length)
    | none => none)) = some (r, st') := e
        split at e
        · rename_i hj
          cases e
          refine q _ G' H' n'.s (by rw [← hn]; exact hm'.back n'.p) ⟨a, ?_, rfl⟩
          obtain ⟨t, et⟩ := n'.p
          rw [← et, List.getElem?_append_left (by rw [hn]; exact hj)] at ha
          exact ha
        · rename_i hj
          split at e
          · rename_i fz ds hcell
            cases e
            obtain ⟨G2, s2, hm2, r2⟩ := hm'.give n'.p (by rw [hn]; omega) ha hcell
            rw [hn] at hm2
            exact q _ G2 H' (n'.s.trans s2) hm2 r2
          · cases e
end
end WM
namespace WM
open PySem PySem.Spec PyProof.Rows L2
@[simp] theorem andW_s {β : Type} (w : W) (st : Store) (f : W → Store → Option β) : andW (some (w, st)) f = f w st := rfl
@[simp] theorem andD_s {β : Type} (x : D) (st : Store) (f : D → Store → Option β) : andD (some (.d x, st)) f = f x st := rfl
@[simp] theorem okD_s (x : D) (st : Store) : okD (some x) st = some (.d x, st) := rfl
@[simp] theorem okB_s (b : Bool) (st : Store) : okB (some b) st = some (.d (.bool b), st) := rfl
@[simp] theorem okL_s (l : List D) (st : Store) : okL (some l) st = some (l, st) := rfl
@[simp] theorem truW_b (b : Bool) : truW (.d (.bool b)) = some b := rfl
@[simp] theorem allD_nil : allD [] = some [] := rfl
@[simp] theorem allD_d (x : D) (ws : List W) : allD (.d x :: ws) = (allD ws).map (x :: ·) := rfl
@[simp] theorem allD_m (i : Nat) (ws : List W) : allD (.m i :: ws) = none := rfl
@[simp] theorem add_i (i j : Int) : binD .Add (.int i) (.int j) = some (.int (i + j)) := rfl
@[simp] theorem sub_i (i j : Int) : binD .Sub (.int i) (.int j) = some (.int (i - j)) := rfl
theorem mul_i {i j : Int} (h : mulOk i j = true) : binD .Mult (.int i) (.int j) = some (.int (i * j)) := if_pos h
@[simp] theorem neg_i (i : Int) : negD (.int i) = some (.int (-i)) := rfl
theorem div_i {i j : Int} (h : 0 < j) (hb : j.natAbs < BIG) : binD .FloorDiv (.int i) (.int j) = some (.int (i / j)) := by
  have e : divOk j = true := by
    unfold divOk
    rw [Bool.and_eq_true]
    exact ⟨decide_eq_true (by omega), decide_eq_true hb⟩
  show (if divOk j then some (PyData.int (i.fdiv j)) else none) = _
  rw [if_pos e, Int.fdiv_eq_ediv_of_nonneg _ (by omega)] <;> rfl
theorem mod_i {i j : Int} (h : 0 < j) : binD .Mod (.int i) (.int j) = some (.int (i % j)) := by
  show (if j = 0 then none else some (PyData.int (i.fmod j))) = _
  rw [if_neg (by omega), Int.fmod_eq_emod_of_nonneg _ (by omega)] <;> rfl
theorem pow_i {i j : Int} (h : 0 ≤ j) (h1 : j ≤ 1000000) (h2 : i.natAbs < 2 ^ 64) : binD .Pow (.int i) (.int j) = some (.int (i ^ j.toNat)) := if_pos ⟨h, h1, h2⟩
@[simp] theorem lt_i (i j : Int) : cmpD .Lt (.int i) (.int j) = some (decide (i < j)) := rfl
@[simp] theorem le_i (i j : Int) : cmpD .LtE (.int i) (.int j) = some (decide (i ≤ j)) := rfl
@[simp] theorem gt_i (i j : Int) : cmpD .Gt (.int i) (.int j) = some (decide (j < i)) := rfl
@[simp] theorem ge_i (i j : Int) : cmpD .GtE (.int i) (.int j) = some (decide (j ≤ i)) := rfl
theorem lt_big {i : Nat} (h : i < 2 ^ 4000) : i < BIG := Nat.lt_trans h (by decide +kernel)
theorem mulOk_l {i j : Int} (h : i.natAbs < 2 ^ 64) : mulOk i j = true := by
  unfold mulOk
  rw [decide_eq_true h, Bool.true_or]
theorem mulOk_r {i j : Int} (h : j.natAbs < 2 ^ 64) : mulOk i j = true := by
  unfold mulOk
  rw [decide_eq_true h, Bool.true_or, Bool.or_true]
theorem mulOk_b {i j : Int} (h1 : i.natAbs < BIG) (h2 : j.natAbs < BIG) : mulOk i j = true := by
  unfold mulOk
  rw [decide_eq_true h1, decide_eq_true h2]
  simp
theorem small_big {i : Int} (h : i.natAbs < 2 ^ 64) : i.natAbs < BIG := lt_big (Nat.lt_trans h (by decide +kernel))
end WM
namespace WM
open PySem PySem.Spec PyProof.Rows L2
/-- a def of the text -/
structure DI where
  x : Str
  ps : List Str
  args : Arguments
  scope : Scope
  body : List Stmt
  N : List Str
  cells : List Str
section
variable {P : Program} {w : World} {K : PySem.W.Frag} {mg : Str → Option Value} {base : Heap}
/-- a table of defs, as text -/
structure TabT (gl : List (Str × GV)) (ds : List DI) (T : List Fd) : Prop where
  len : T.length = ds.length
  ok : ∀ (i : Nat) (d : DI) (fd : Fd), ds[i]? = some d → T[i]? = some fd → FdOk gl d.cells d.ps d.N d.scope d.body fd
/-- a table of defs, as the heap bears it -/
structure Tab (P : Program) (w : World) (K : PySem.W.Frag) (mg : Str → Option Value) (base : Heap) (gl : List (Str × GV)) (ds : List DI) : Prop where
  fun_ : ∀ (i : Nat) (d : DI), ds[i]? = some d → ∃ f fdd, mg d.x = some (.ref f) ∧ FunD K d.x d.x d.args d.body d.scope [] [] f fdd ∧ Binds K fdd d.ps []
  gl : ∀ x g, gl.lookup x = some g → (∃ i d, g = .fn i d.ps.length ∧ ds[i]? = some d ∧ d.x = x) ∨ ∀ Φ k, GlOk Φ k P w K mg base x g
def FnAt (P : Program) (w : World) (K : PySem.W.Frag) (mg : Str → Option Value) (base : Heap) (T : List Fd) (k i : Nat) (d : DI) : Prop :=
  ∃ f fdd, mg d.x = some (.ref f) ∧ PySem.W.keepIn K (.ref f) = true ∧ Binds K fdd d.ps [] ∧ FnOk P w K mg base CX0 k f fdd d.ps (spD K (fns T k i) d.ps.length)
theorem tab_gl {gl : List (Str × GV)} {ds : List DI} {T : List Fd} {k : Nat} (h : Tab P w K mg base gl ds) (a : ∀ i d, ds[i]? = some d → FnAt P w K mg base T k i d) : ∀ x g, gl.lookup x = some g → GlOk (fns T k) k P w K mg base x g := by
  intro x g e
  rcases h.gl x g e with ⟨i, d, rfl, hd, rfl⟩ | q
  · obtain ⟨f, fdd, h1, h2, h3, h4⟩ := a i d hd
    exact ⟨f, fdd, d.ps, h1, h2, h3, rfl, h4⟩
  · exact q _ _
theorem tab_ok {gl : List (Str × GV)} {ds : List DI} {T : List Fd} (ht : TabT gl ds T) (h : Tab P w K mg base gl ds) : ∀ (k i : Nat) (d : DI), ds[i]? = some d → FnAt P w K mg base T k i d
  | 0, i, d, hd => by
    obtain ⟨f, fdd, h1, h2, h3⟩ := h.fun_ i d hd
    refine ⟨f, fdd, h1, h2.kp, h3, ⟨fun vs H Q E q => q.1, fun A outer s H args us vs Q E _ _ _ _ q => ?_⟩⟩
    obtain ⟨_, _, _, _, _, _, _, _, _, _, e, _⟩ := q
    cases e
  | k + 1, i, d, hd => by
    obtain ⟨f, fdd, h1, h2, h3⟩ := h.fun_ i d hd
    have hi : i < T.length := by
      rw [ht.len]
      exact (List.getElem?_eq_some_iff.mp hd).1
    have ef : T[i]? = some T[i] := List.getElem?_eq_getElem hi
    have q := fd_ok (P := P) (w := w) (mg := mg) (base := base) h2 (ht.ok i d _ hd ef) (tab_gl h (tab_ok ht h k))
    refine ⟨f, fdd, h1, h2.kp, h3, ?_⟩
    have e : fns T (k + 1) i = runF (fns T k) T[i] := by
      funext ws st
      show (match T[i]? with
        | some fd => runF (fns T k) fd ws st
        | none => none) = _
      rw [ef]
    rw [e]
    exact q
/-- any script; true at the end -/
def spLaw (K : PySem.W.Frag) : Sp := fun vs H Q _ => ∃ (a : Addr) (ns : List Int), ns.length ≤ 63 ∧ vs = [.ref a] ∧ SqL K H a (ns.map V.int) ∧ ∀ H', Q (.bl true) H'
/-- the cup, from any script -/
def spCup (K : PySem.W.Frag) : Sp := fun vs H Q _ => ∃ (a : Addr) (ns : List Int), ns.length ≤ 63 ∧ vs = [.ref a] ∧ SqL K H a (ns.map V.int) ∧
  ∀ (p : Addr) (c0 c1 : Int) (H' : Hp), 0 ≤ c0 → 229 ≤ c1 → H' p = some (.lst [.int c0, .int c1]) → Q (.ref p) H'
def cupE (p2 p3 p4 p5 p6 p7 p8 p9 p10 p11 : Pos) (j j2 : Nat) : Expr :=
  .Call (.Name "abs" p2) [.Subscript (.BinOp (.Call (.Name "list" p3) [.Name "script" p4] [] p5) .Add (.List [.Constant (.int 0) j p6] p7) p8) (.Constant (.int 0) j2 p9) p10] [] p11
def cupR : S := .ret (.lst (.cons (.ite (.cmp .GtE (.var 1) (.bin .Pow (.lit (.int 10)) (.lit (.int 18)))) (.bin .FloorDiv (.var 1) (.lit (.int 127))) (.lit (.int 0))) (.cons (.bin .Add (.bin .Mod (.blt .int (.cons (.bin .Add (.bin .Mult (.var 1) (.lit (.int 373))) (.lit (.int 5407))) .nil)) (.lit (.int 1974129427))) (.lit (.int 229))) .nil)))
theorem hm0 {H : Hp} : HM K (fun _ => none) [] (fun _ => none) H [] where
  sub := fun _ _ e => by cases e
  len := rfl
  nd := List.nodup_nil
  cell := fun i a c e => by simp at e
  prot := fun _ _ e => by cases e
  pdis := fun a ha => by simp at ha
  pg := fun _ _ _ => rfl
theorem cupR_run (Φ : Fn) (sl : Sl) (m : Int) (hm : 0 ≤ m) (h1 : sl[1]? = some (some (.d (.int m)))) : ∃ c0 c1 : Int, 0 ≤ c0 ∧ 229 ≤ c1 ∧ runS Φ cupR sl [] = some (.ret (.d (.list [.int c0, .int c1])), sl, []) := by
  refine ⟨if m ≥ 10 ^ 18 then m / 127 else 0, (m * 373 + 5407) % 1974129427 + 229, ?_, ?_, ?_⟩
  · split <;> omega
  · omega
  · have e1 : binD .Mult (.int m) (.int 373) = some (.int (m * 373)) := mul_i (mulOk_r (by decide))
    have e2 : binD .Mod (.int (m * 373 + 5407)) (.int 1974129427) = _ := mod_i (by omega)
    have e3 : binD .FloorDiv (.int m) (.int 127) = some (.int (m / 127)) := div_i (by omega) (small_big (by decide))
    have e4 : binD .Pow (.int 10) (.int 18) = some (.int (10 ^ 18)) := pow_i (by decide) (by decide) (by decide)
    unfold cupR
    by_cases c : m ≥ 10 ^ 18
    · have hd : decide (10 ^ 18 ≤ m) = true := decide_eq_true c
      simp only [runS, runE, runEs, binK_eq, rdVar, h1, andD_s, andW_s, e1, e2, e3, e4, ge_i, hd, okB_s, okD_s, truW_b, bltW, allD_d, allD_nil, Option.map, bltD, add_i, mkLst, if_pos c]
      rfl
    · have hd : decide (10 ^ 18 ≤ m) = false := decide_eq_false c
      simp only [runS, runE, runEs, binK_eq, rdVar, h1, andD_s, andW_s, e1, e2, e3, e4, ge_i, hd, okB_s, okD_s, truW_b, bltW, allD_d, allD_nil, Option.map, bltD, add_i, mkLst, if_neg c]
      rfl
theorem dbg2 : ∀ x ∈ (["script", "cell"] : List Str), (x == ("__debug__" : Str)) = false ∧ (x == ("__classdict__" : Str)) = false := by decide +kernel
/-- _law_cup's text -/
structure CupT (gl : List (Str × GV)) (scope : Scope) (body : List Stmt) : Prop where
  S : FnScope ["script", "cell"] ["script"] scope
  v0 : Vis scope "script"
  l1 : scope.names.lookup ("cell" : Str) = some .local
  ga : scope.names.lookup ("abs" : Str) = some .globalImplicit
  gli : scope.names.lookup ("list" : Str) = some .globalImplicit
  gdbg : ∀ x g, gl.lookup x = some g → (x == ("__debug__" : Str)) = false ∧ x ≠ ("__name__" : Str)
  b : ∃ p1 p2 p3 p4 p5 p6 p7 p8 p9 p10 p11 p12 j j2 s2 own fuel, body = [.Assign [.Name "cell" p1] (cupE p2 p3 p4 p5 p6 p7 p8 p9 p10 p11 j j2) p12, s2] ∧ (∀ x ∈ own, Loc scope x) ∧ cmpS fuel ⟨["script", "cell"], scope, own, gl, []⟩ s2 = some cupR
theorem cup_ok {Φ : Fn} {k : Nat} {gl : List (Str × GV)} {scope : Scope} {body : List Stmt} {x qual : Str} {params : Arguments} {f : Addr} {fdd : FuncData}
    (F : FunD K x qual params body scope [] [] f fdd) (o : CupT gl scope body) (g : ∀ x g, gl.lookup x = some g → GlOk Φ k P w K mg base x g) (ma : mg "abs" = none) (ml : mg "list" = none) :
    FnOk P w K mg base CX0 (k + 1) f fdd ["script"] (spCup K) := by
  obtain ⟨p1, p2, p3, p4, p5, p6, p7, p8, p9, p10, p11, p12, j, j2, s2, own, fuel, eb, hown, hc⟩ := o.b
  refine F.ok o.S (fun vs H Q E h => by obtain ⟨a, ns, _, rfl, _⟩ := h; rfl) fun cdv A outer s H vs Q E hr ⟨a, ns, hn, ev, hs, q⟩ => ?_
  subst ev
  have xo : XOk Φ k (cxOf CX0 P w K mg base ["script", "cell"] qual scope f cdv A outer s H E).nox ⟨["script", "cell"], scope, own, gl, []⟩ :=
    ⟨rfl, rfl, o.S.kind, o.S.nd, rfl, dbg2, fun x hx => ⟨hown x hx, .inl rfl⟩, o.gdbg, fun x gg h => GlOk.at (g x gg h), hr, rfl⟩
  have v0 : Vis (cxOf CX0 P w K mg base ["script", "cell"] qual scope f cdv A outer s H E).nox.env.scope "script" := o.v0
  have st1 := ps_set (X := (cxOf CX0 P w K mg base ["script", "cell"] qual scope f cdv A outer s H E).nox) (i := 1) (x := "cell") (pos := p12) (pos' := p1) o.S.nd rfl (Or.inl o.l1)
    (pe_callB (p := p2) (pos := p11) call_abs o.ga ma (by kernel_rfl) (pa_cons (pe_ix (pos := p10) ix_list (pe_op (pos := p8) op_cat (pe_callTy (p := p3) (pos := p5) call_list_of o.gli ml (by kernel_rfl) (pa_cons (pe_var (i := 0) (x := "script") (pos := p4) rfl v0) pa_nil)) (pe_lst (pos := p7) (pa_cons (pe_int (i := 0) (j := j) (pos := p6)) pa_nil))) (pe_int (i := 0) (j := j2) (pos := p9)) (fun _ _ => rfl)) pa_nil))
  have st2 := (snd_s (Φ := Φ) (k := k) fuel).s _ _ xo _ _ hc
  refine ⟨_, PSs.nox (eb ▸ pss_cons st1 (pss_one st2)), ?_⟩
  refine ⟨.ref a, rfl, a, ns.map V.int, rfl, .inl hs, fun p hp => ?_⟩
  refine ⟨by decide, fun p' hp' => ?_⟩
  have hne : p' ≠ p := fun z => by
    subst z
    rw [upd_same] at hp'
    cases hp'
  refine ⟨p, p', ns.map V.int, [.int 0], rfl, rfl, ?_, upd_same, ?_, fun p3 hp3 => ?_⟩
  · rw [upd_ne (Ne.symm hne)]
    exact upd_same
  · rw [List.length_map, List.length_singleton]
    have : (64 : Nat) ≤ sizeLine := by decide
    omega
  obtain ⟨m, em⟩ : ∃ m : Int, L2.atI (ns.map V.int ++ [.int 0]) 0 = some (.int m) := by
    cases ns with
    | nil => exact ⟨0, rfl⟩
    | cons n ns => exact ⟨n, by
        have e : L2.ixN (List.map V.int (n :: ns) ++ [V.int 0]).length 0 = some 0 := by
          unfold L2.ixN
          rw [if_pos (by omega), if_pos (by simp; omega)]
          rfl
        unfold L2.atI
        rw [e]
        rfl⟩
  refine ⟨p3, _, 0, .int m, rfl, rfl, SqL.of upd_same, em, m, rfl, ?_⟩
  obtain ⟨c0, c1, h0, h1, er⟩ := cupR_run Φ [none, some (.d (.int (if m < 0 then -m else m)))] (if m < 0 then -m else m) (by split <;> omega) rfl
  refine ⟨fun _ => none, [], fun _ => none, [none, some (.d (.int (if m < 0 then -m else m)))], [], _, _, _, hm0, ⟨rfl, fun i w e => ?_⟩, er, fun v ca' G' H' n' hm' r' => ?_⟩
  · match i, e with
    | 0, e => cases e
    | 1, e => cases e; exact ⟨_, rfl, .int _⟩
    | n + 2, e => simp at e
  · obtain ⟨pp, vs, rfl, hp1, hp2⟩ := Rp.list_inv r'
    have : vs = [V.int c0, V.int c1] := Rps.ints (ns := [c0, c1]) hp2
    subst this
    exact q pp c0 c1 H' h0 h1 (hm'.sub _ _ hp1)
/-- the law's text: cup = _law_cup(script), then the rest b -/
structure LawT (gl : List (Str × GV)) (cells N : List Str) (scope : Scope) (body : List Stmt) (b : Ss) : Prop where
  S : FnScope N ["script"] scope
  n1 : N[0]? = some ("script" : Str)
  n2 : N[1]? = some ("cup" : Str)
  dbg : ∀ x ∈ N, (x == ("__debug__" : Str)) = false ∧ (x == ("__classdict__" : Str)) = false
  v0 : Vis scope "script"
  l1 : scope.names.lookup ("cup" : Str) = some .local
  gc : scope.names.lookup ("_law_cup" : Str) = some .globalImplicit
  gdbg : ∀ x g, gl.lookup x = some g → (x == ("__debug__" : Str)) = false ∧ x ≠ ("__name__" : Str)
  b : ∃ p1 p2 p3 p4 p5 rest own fuel, body = .Assign [.Name "cup" p1] (.Call (.Name "_law_cup" p2) [.Name "script" p3] [] p4) p5 :: rest ∧ (∀ x ∈ own, Loc scope x) ∧ cmpSs fuel ⟨N, scope, own, gl, cells⟩ rest = some b
/-- what the law starts with -/
def slot1 (n : Nat) : Sl := none :: some (.m 0) :: List.replicate (n - 2) none
theorem law_ok {Φ : Fn} {k : Nat} {gl : List (Str × GV)} {cells N : List Str} {scope : Scope} {body : List Stmt} {b : Ss} {x qual : Str} {params : Arguments} {f fc : Addr} {fdd fdc : FuncData}
    (F : FunD K x qual params body scope [] [] f fdd) (o : LawT gl cells N scope body b) (g : ∀ x g, gl.lookup x = some g → GlOk Φ k P w K mg base x g)
    (mc : mg "_law_cup" = some (.ref fc)) (kc : PySem.W.keepIn K (.ref fc) = true) (bc : Binds K fdc ["script"] []) (hc : FnOk P w K mg base CX0 k fc fdc ["script"] (spCup K))
    (pure : ∀ c0 c1 : Int, 0 ≤ c0 → 229 ≤ c1 → ∃ sl' st', runSs Φ b (slot1 N.length) [.lst false [.int c0, .int c1]] = some (.ret (.d (.bool true)), sl', st')) :
    FnOk P w K mg base CX0 (k + 1) f fdd ["script"] (spLaw K) := by
  obtain ⟨p1, p2, p3, p4, p5, rest, own, fuel, eb, hown, hcs⟩ := o.b
  refine F.ok o.S (fun vs H Q E h => by obtain ⟨a, ns, _, rfl, _⟩ := h; rfl) fun cdv A outer s H vs Q E hr ⟨a, ns, hn, ev, hs, q⟩ => ?_
  subst ev
  have xo : XOk Φ k (cxOf CX0 P w K mg base N qual scope f cdv A outer s H E).nox ⟨N, scope, own, gl, cells⟩ :=
    ⟨rfl, rfl, o.S.kind, o.S.nd, rfl, o.dbg, fun x hx => ⟨hown x hx, .inl rfl⟩, o.gdbg, fun x gg h => GlOk.at (g x gg h), hr, rfl⟩
  have v0 : Vis (cxOf CX0 P w K mg base N qual scope f cdv A outer s H E).nox.env.scope "script" := o.v0
  have st1 := ps_set (X := (cxOf CX0 P w K mg base N qual scope f cdv A outer s H E).nox) (i := 1) (x := "cup") (pos := p5) (pos' := p1) o.S.nd o.n2 (Or.inl o.l1)
    (pe_call (p := p2) (pos := p4) (dvs := []) hc hr o.gc mc kc bc .nil pass0 (pa_cons (pe_var (i := 0) (x := "script") (pos := p3) o.n1 v0) pa_nil))
  have st2 := (snd_s (Φ := Φ) (k := k) fuel).ss _ _ xo _ _ hcs
  refine ⟨_, PSs.nox (eb ▸ pss_cons st1 st2), ?_⟩
  have hN2 : 2 ≤ N.length := by
    have := (List.getElem?_eq_some_iff.mp o.n2).1
    omega
  have e0 : (L2.start N [.ref a])[0]? = some (some (V.ref a)) := rfl
  refine ⟨.ref a, e0, ?_⟩
  refine ⟨a, ns, hn, rfl, hs, fun p c0 c1 H' h0 h1 hp => ?_⟩
  obtain ⟨sl', st', er⟩ := pure c0 c1 h0 h1
  refine ⟨fun _ => none, [p], fun _ => none, slot1 N.length, [.lst false [.int c0, .int c1]], _, _, _, ?_, ?_, er, fun v ca' G' H2 n' hm' r' => ?_⟩
  · exact (hm0 (K := K) (H := H')).newcell hp rfl (by simp) rfl (Rps.of_ints [c0, c1]) (show 2 ≤ sizeLine by decide)
  · refine ⟨?_, fun i w e => ?_⟩
    · rw [List.length_set]
      unfold L2.start slot1
      simp
      omega
    · match i, e with
      | 0, e => cases e
      | 1, e =>
        cases e
        refine ⟨.ref p, ?_, p, rfl, rfl⟩
        rw [List.getElem?_set_self]
        unfold L2.start
        simp
        omega
      | n + 2, e =>
        have e : (List.replicate (N.length - 2) (none : Option W))[n]? = some (some w) := e
        rw [List.getElem?_replicate] at e
        split at e <;> cases e
  · cases r'
    exact q H2
end
end WM
namespace WM
open PySem PySem.Spec PyProof.Rows L2
mutual
def datB (K : PySem.W.Frag) : D → Value → Bool
  | .none, .none => true
  | .bool b, .bool c => decide (b = c)
  | .int i, .int j _ => decide (i = j)
  | .str x, .str y _ => decide (x = y)
  | .tuple ds, .ref a => (match K.lookup a with
    | some ⟨.type c, _, .seq its _, _⟩ => decide (c = "tuple") && (decide (its.size ≤ sizeLine) && datsB K ds its.toList)
    | _ => false)
  | _, _ => false
def datsB (K : PySem.W.Frag) : List D → List Value → Bool
  | [], [] => true
  | d :: ds, u :: us => datB K d u && datsB K ds us
  | _, _ => false
end
mutual
theorem datB_ok {K : PySem.W.Frag} : ∀ {d : D} {u : Value}, datB K d u = true → ∃ v, RelV v u ∧ ∀ G, Rp K G v d
  | .none, .none, _ => ⟨.non, rfl, fun _ => .non⟩
  | .bool b, .bool c, h => by
    unfold datB at h
    cases of_decide_eq_true h
    exact ⟨.bl b, rfl, fun _ => .bl b⟩
  | .int i, .int j t, h => by
    unfold datB at h
    cases of_decide_eq_true h
    exact ⟨.int i, ⟨t, rfl⟩, fun _ => .int i⟩
  | .str x, .str y t, h => by
    unfold datB at h
    cases of_decide_eq_true h
    exact ⟨.str x, ⟨t, rfl⟩, fun _ => .str x⟩
  | .tuple ds, .ref a, h => by
    unfold datB at h
    split at h
    · rename_i c od its n sl e
      rw [Bool.and_eq_true, Bool.and_eq_true] at h
      obtain ⟨h1, h2, h3⟩ := h
      cases of_decide_eq_true h1
      obtain ⟨vs, r1, r2⟩ := datsB_ok h3
      exact ⟨.ref a, rfl, fun G => .tup (.inr ⟨_, its, n, e, rfl, rfl, of_decide_eq_true h2, r1⟩) (r2 G)⟩
    · cases h
theorem datsB_ok {K : PySem.W.Frag} : ∀ {ds : List D} {us : List Value}, datsB K ds us = true → ∃ vs, Vals vs us ∧ ∀ G, Rps K G vs ds
  | [], [], _ => ⟨[], .nil, fun _ => .nil⟩
  | d :: ds, u :: us, h => by
    unfold datsB at h
    rw [Bool.and_eq_true] at h
    obtain ⟨v, a1, a2⟩ := datB_ok h.1
    obtain ⟨vs, b1, b2⟩ := datsB_ok h.2
    exact ⟨v :: vs, .cons a1 b1, fun G => .cons (a2 G) (b2 G)⟩
end
def freeB (K : PySem.W.Frag) (x : Str) : Bool := He.eqO (PySem.W.nsIn K mainGlobals x) (some none)
/-- a global name that is no def of the text -/
def gvB (K : PySem.W.Frag) (x : Str) : GV → Bool
  | .fn _ _ => true
  | .con d => (match PySem.W.nsIn K mainGlobals x with
    | some (some u) => datB K d u
    | _ => false)
  | .bi b => if b = .gcd then He.eqO (PySem.W.nsIn K mainGlobals x) (some (some (.builtin "math.gcd"))) else freeB K x && decide (bootBuiltins x = some b.val)
  | .ty t => freeB K x && decide (bootBuiltins x = some (.type t.nm))
  | .isi => freeB K x && decide (bootBuiltins x = some (.builtin "isinstance"))
  | .set => freeB K x
  | .rng => freeB K x && decide (x = "range")
  | .zip => freeB K x && decide (x = "zip")
  | .enum => freeB K x && decide (x = "enumerate")
def glsB (K : PySem.W.Frag) (gl : List (Str × GV)) : Bool := gl.all fun q => gvB K q.1 q.2
section
variable {P : Program} {w : World} {K : PySem.W.Frag} {mg : Str → Option Value} {base h : Heap}
theorem gvB_ok {x : Str} {g : GV} (X : K.In h) (G : h.Ns mainGlobals mg) (c : gvB K x g = true) (hf : ∀ i n, g ≠ .fn i n) : ∀ Φ k, GlOk Φ k P w K mg base x g := by
  intro Φ k
  have free : freeB K x = true → mg x = none := fun c => PySem.W.mg_none_of X G (He.eqO_ok c)
  cases g with
  | fn i n => exact absurd rfl (hf i n)
  | con d =>
    unfold gvB at c
    simp only at c
    split at c
    · rename_i u e
      obtain ⟨v, r1, r2⟩ := datB_ok c
      exact ⟨v, u, PySem.W.mg_of X G e, r1, r2⟩
    · cases c
  | bi b =>
    unfold gvB at c
    simp only at c
    split at c
    · rename_i hb
      subst hb
      exact .inr ⟨rfl, PySem.W.mg_of X G (He.eqO_ok c)⟩
    · rename_i hb
      rw [Bool.and_eq_true] at c
      exact .inl ⟨hb, free c.1, of_decide_eq_true c.2⟩
  | ty t =>
    unfold gvB at c
    simp only [Bool.and_eq_true] at c
    exact ⟨free c.1, of_decide_eq_true c.2⟩
  | isi =>
    unfold gvB at c
    simp only [Bool.and_eq_true] at c
    exact ⟨free c.1, of_decide_eq_true c.2⟩
  | set =>
    unfold gvB at c
    exact free c
  | rng =>
    unfold gvB at c
    simp only [Bool.and_eq_true] at c
    exact ⟨free c.1, of_decide_eq_true c.2⟩
  | zip =>
    unfold gvB at c
    simp only [Bool.and_eq_true] at c
    exact ⟨free c.1, of_decide_eq_true c.2⟩
  | enum =>
    unfold gvB at c
    simp only [Bool.and_eq_true] at c
    exact ⟨free c.1, of_decide_eq_true c.2⟩
end
abbrev AlW : Type := Bool × (Bool × (List He.FnW))
def obsK (fa : List He.Fa) (fn : List He.DefD) (gl : List (Str × GV)) (K : PySem.W.Frag) : AlW := (glsB K gl, He.obsD fa fn K)
def refA : Value → List Addr
  | .ref a => [a]
  | _ => []
/-- what one object leads to that is wanted here: a dict's values, a def's code, a tuple's items -/
def stepA (g : Addr → Option Obj) (a : Addr) : List Addr := match g a with
  | some ⟨_, _, .dict es _, _⟩ => es.toList.flatMap fun e => refA e.val
  | some ⟨_, _, .func fd, _⟩ => refA fd.code
  | some ⟨_, _, .seq its _, _⟩ => its.toList.flatMap refA
  | _ => []
def growA (g : Addr → Option Obj) : Nat → List Addr → List Addr
  | 0, _ => []
  | n + 1, as => as ++ growA g n (as.flatMap (stepA g))
def asV (g : Addr → Option Obj) (n : Nat) : List Addr := growA g n [mainGlobals]
def obsW (n : Nat) (fa : List He.Fa) (fn : List He.DefD) (gl : List (Str × GV)) (g : Addr → Option Obj) : AlW := obsK fa fn gl (He.frG g (asV g n))
def valW (fn : List He.DefD) : AlW := (true, He.valD fn)
def hookW (n : Nat) (fa : List He.Fa) (fn : List He.DefD) (gl : List (Str × GV)) : PySem.W.Hook where
  α := AlW
  obs := fun s => obsW n fa fn gl s.heap.get?
  val := fun _ => valW fn
  says := fun _ h => ∃ K : PySem.W.Frag, K.In h ∧ obsK fa fn gl K = valW fn
  of := fun _ _ e => ⟨_, He.frG_in, e⟩
  keeps := fun _ _ _ ⟨K, hK, c⟩ k => ⟨K, PySem.W.Frag.In.keeps hK k, c⟩
theorem obsW_eq {n : Nat} {fa : List He.Fa} {fn : List He.DefD} {gl : List (Str × GV)} {g : Addr → Option Obj} {s : Shared} (h : ∀ a, g a = s.heap.get? a) : obsW n fa fn gl g = (hookW n fa fn gl).obs s := by
  have e : g = s.heap.get? := funext h
  rw [e] <;> rfl
def mkD (d : DI) : He.DefD := ⟨(d.x, none), d.x, d.x, d.args, d.body, d.scope, [], []⟩
/-- its parameters are bound one by one -/
def ArgsT (d : DI) : Prop := ∀ (kV doc pm : Value) (an : Option Addr) (cdv ct : Value) (us : List Value), us.length = d.ps.length → bindArgs (PySem.W.fnOf d.x d.x d.args d.body d.scope .none kV doc pm an cdv ct) ⟨us, []⟩ = pure (d.ps.zip us)
section
variable {P : Program} {w : World} {K : PySem.W.Frag} {mg : Str → Option Value} {h base : Heap}
/-- all of it: the table, as the heap bears it -/
theorem tab_of {gl : List (Str × GV)} {ds : List DI} (X : K.In h) (G : h.Ns mainGlobals mg) (c : obsK (ds.map fun d => He.Fa.glo d.x) (ds.map mkD) gl K = valW (ds.map mkD)) (ha : ∀ (i : Nat) (d : DI), ds[i]? = some d → ArgsT d)
    (hg : ∀ x g, gl.lookup x = some g → (∃ (i : Nat) (d : DI), g = .fn i d.ps.length ∧ ds[i]? = some d ∧ d.x = x) ∨ ∀ i n, g ≠ .fn i n) : Tab P w K mg base gl ds := by
  have c1 : glsB K gl = true := congrArg (fun z : AlW => z.1) c
  have c2 : He.SaysD (ds.map fun d => He.Fa.glo d.x) (ds.map mkD) K := congrArg (fun z : AlW => z.2) c
  refine ⟨fun i d hd => ?_, fun x g e => ?_⟩
  · have hm : d ∈ ds := List.mem_of_getElem? hd
    obtain ⟨fdd, F⟩ := He.SaysD.defs c2 (d := mkD d) (List.mem_map.mpr ⟨d, hm, rfl⟩)
    have F : FunD K d.x d.x d.args d.body d.scope [] [] (He.ga K d.x) fdd := F
    have f1 := He.SaysD.facts c2 (f := .glo d.x) (List.mem_map.mpr ⟨d, hm, rfl⟩)
    exact ⟨He.ga K d.x, fdd, He.glo_ok X G f1, F, F.bindsN (ps := d.ps) (ha i d hd)⟩
  · rcases hg x g e with q | q
    · exact .inl q
    · have cq := List.all_eq_true.mp c1 (x, g) (PySem.mem_of_lookup e)
      exact .inr (gvB_ok X G cq q)
end
end WM
namespace WM
open PySem PySem.Spec PyProof.Rows L2
section
variable {P : Program} {w : World} {K : PySem.W.Frag} {mg : Str → Option Value} {h : Heap}
structure LawAll (gl : List (Str × GV)) (ds : List DI) (T : List Fd) (dc dl : DI) (b : Ss) : Prop where
  tab : TabT gl ds T
  args : ∀ (i : Nat) (d : DI), ds[i]? = some d → ArgsT d
  gls : ∀ x g, gl.lookup x = some g → (∃ (i : Nat) (d : DI), g = .fn i d.ps.length ∧ ds[i]? = some d ∧ d.x = x) ∨ ∀ i n, g ≠ .fn i n
  hc : ∃ i : Nat, ds[i]? = some dc
  xc : dc.x = "_law_cup"
  pc : dc.ps = ([("script" : Str)] : List Str)
  hl : ∃ i : Nat, ds[i]? = some dl
  xl : dl.x = "law"
  pl : dl.ps = ([("script" : Str)] : List Str)
  ga : gl.lookup ("abs" : Str) = some (GV.bi .abs)
  gi : gl.lookup ("list" : Str) = some (GV.bi .list)
  cup : CupT gl dc.scope dc.body
  law : LawT gl dl.cells dl.N dl.scope dl.body b
theorem facts_of {gl : List (Str × GV)} {ds : List DI} {T : List Fd} {dc dl : DI} {b : Ss} {k : Nat} {fa : Addr} (L : LawAll gl ds T dc dl b) (X : K.In h) (G : h.Ns mainGlobals mg)
    (c : obsK (ds.map fun d => He.Fa.glo d.x) (ds.map mkD) gl K = valW (ds.map mkD)) (hfa : mg ("law" : Str) = some (.ref fa))
    (pure : ∀ c0 c1 : Int, 0 ≤ c0 → 229 ≤ c1 → ∃ sl' st', runSs (fns T (k + 1)) b (slot1 dl.N.length) [.lst false [.int c0, .int c1]] = some (.ret (.d (.bool true)), sl', st')) :
    ∃ fd : FuncData, (∀ (s : Shared) (v : Value), BindsTo s fd ⟨[v], []⟩ [("script", v)]) ∧ ∀ base : Heap, K.In base → base.Ns mainGlobals mg → FnOk P w K mg base CX0 (k + 2) fa fd ["script"] (spLaw K) := by
  have c2 : He.SaysD (ds.map fun d => He.Fa.glo d.x) (ds.map mkD) K := congrArg (fun z : AlW => z.2) c
  obtain ⟨il, hil⟩ := L.hl
  obtain ⟨ic, hic⟩ := L.hc
  have hml : dl ∈ ds := List.mem_of_getElem? hil
  obtain ⟨fdd, F⟩ := He.SaysD.defs c2 (d := mkD dl) (List.mem_map.mpr ⟨dl, hml, rfl⟩)
  have F : FunD K dl.x dl.x dl.args dl.body dl.scope [] [] (He.ga K dl.x) fdd := F
  have f1 := He.glo_ok X G (He.SaysD.facts c2 (f := .glo dl.x) (List.mem_map.mpr ⟨dl, hml, rfl⟩))
  have al := L.args il dl hil
  unfold ArgsT at al
  rw [L.pl] at al
  rw [L.xl] at F f1 al
  have e := hfa.symm.trans f1
  have e : fa = He.ga K "law" := by
    have := Option.some.inj e
    exact Value.ref.inj this
  rw [← e] at F f1
  have bl := F.bindsA (ps := ["script"]) al
  refine ⟨fdd, fun s v => bl s [v] rfl, fun base hb hns => ?_⟩
  have tab : Tab P w K mg base gl ds := tab_of X G c L.args L.gls
  have ok := tab_ok (P := P) (w := w) (base := base) L.tab tab
  obtain ⟨fc, fdc, Fc⟩ : ∃ fc fdc, mg dc.x = some (.ref fc) ∧ FunD K dc.x dc.x dc.args dc.body dc.scope [] [] fc fdc ∧ L2.Binds K fdc dc.ps [] := tab.fun_ ic dc hic
  obtain ⟨mc, Fc, bc⟩ := Fc
  rw [L.xc] at mc
  rw [L.pc] at bc
  have gA := tab_gl tab (ok 0) "abs" _ L.ga
  have gL := tab_gl tab (ok 0) "list" _ L.gi
  have ma : mg "abs" = none := by
    rcases gA with ⟨_, q, _⟩ | ⟨q, _⟩
    · exact q
    · cases q
  have ml : mg "list" = none := by
    rcases gL with ⟨_, q, _⟩ | ⟨q, _⟩
    · exact q
    · cases q
  have hcup := cup_ok (P := P) (w := w) (base := base) Fc L.cup (tab_gl tab (ok k)) ma ml
  exact law_ok F L.law (tab_gl tab (ok (k + 1))) mc Fc.kp bc hcup pure
end
end WM
namespace WM
open PySem PySem.Spec PyProof.Rows L2
def locB (sc : Scope) (x : Str) : Bool := decide (sc.names.lookup x = some .local) || decide (sc.names.lookup x = some .cell)
def ownL (N : List Str) (sc : Scope) : List Str := N.filter (locB sc)
theorem locB_ok {sc : Scope} {x : Str} (h : locB sc x = true) : L2.Loc sc x := by
  unfold locB at h
  rw [Bool.or_eq_true] at h
  exact h.elim (fun h => .inl (of_decide_eq_true h)) fun h => .inr (of_decide_eq_true h)
theorem ownL_ok {N : List Str} {sc : Scope} : ∀ x ∈ ownL N sc, L2.Loc sc x := fun x hx => locB_ok (List.mem_filter.mp hx).2
def nodupB : List Str → Bool
  | [] => true
  | x :: xs => !xs.contains x && nodupB xs
theorem nodupB_ok : ∀ {xs : List Str}, nodupB xs = true → xs.Nodup
  | [], _ => List.nodup_nil
  | x :: xs, h => by
    unfold nodupB at h
    rw [Bool.and_eq_true] at h
    refine List.nodup_cons.mpr ⟨fun z => ?_, nodupB_ok h.2⟩
    have : xs.contains x = true := List.contains_iff_mem.mpr z
    rw [this] at h
    cases h.1
def plainB (x : Str) : Bool := !(x == ("__debug__" : Str)) && !(x == ("__classdict__" : Str))
def scB (N ps : List Str) (sc : Scope) : Bool :=
  decide (sc.kind = .function) && (!sc.isCoroutine && (!sc.isGenerator && (nodupB N && (decide (N.take ps.length = ps) && (ps.all (locB sc) && (sc.names.all (fun y => !decide (y.2 = .free)) && N.all plainB))))))
theorem scB_ok {N ps : List Str} {sc : Scope} (h : scB N ps sc = true) : FnScope N ps sc ∧ ∀ x ∈ N, (x == ("__debug__" : Str)) = false ∧ (x == ("__classdict__" : Str)) = false := by
  unfold scB at h
  simp only [Bool.and_eq_true, Bool.not_eq_true', List.all_eq_true] at h
  obtain ⟨h1, h2, h3, h4, h5, h6, h7, h8⟩ := h
  refine ⟨⟨of_decide_eq_true h1, h2, h3, nodupB_ok h4, of_decide_eq_true h5, fun x hx => locB_ok (h6 x hx), fun y hy => of_decide_eq_false (h7 y hy)⟩, fun x hx => ?_⟩
  have := h8 x hx
  unfold plainB at this
  simp only [Bool.and_eq_true, Bool.not_eq_true'] at this
  exact this
def gnB (gl : List (Str × GV)) : Bool := gl.all fun q => !(q.1 == ("__debug__" : Str)) && !decide (q.1 = ("__name__" : Str))
theorem gnB_ok {gl : List (Str × GV)} (h : gnB gl = true) : ∀ x g, gl.lookup x = some g → (x == ("__debug__" : Str)) = false ∧ x ≠ ("__name__" : Str) := fun x g e => by
  have := List.all_eq_true.mp h (x, g) (PySem.mem_of_lookup e)
  simp only [Bool.and_eq_true, Bool.not_eq_true'] at this
  exact ⟨this.1, of_decide_eq_false this.2⟩
theorem fdOk_of {gl : List (Str × GV)} {d : DI} {fd : Fd} (g : gnB gl = true) (s : scB d.N d.ps d.scope = true) (hn : fd.n = d.N.length) (hp : fd.ps = d.ps.length) (c : cmpSs 200 ⟨d.N, d.scope, ownL d.N d.scope, gl, d.cells⟩ d.body = some fd.body) :
    FdOk gl d.cells d.ps d.N d.scope d.body fd :=
  ⟨(scB_ok s).1, hn, hp, (scB_ok s).2, gnB_ok g, ownL d.N d.scope, 200, ownL_ok, c⟩
def OkAll (gl : List (Str × GV)) : List DI → List Fd → Prop
  | [], [] => True
  | d :: ds, f :: T => (FdOk gl d.cells d.ps d.N d.scope d.body f ∧ ArgsT d) ∧ OkAll gl ds T
  | _, _ => False
theorem OkAll.len {gl : List (Str × GV)} : ∀ {ds : List DI} {T : List Fd}, OkAll gl ds T → T.length = ds.length
  | [], [], _ => rfl
  | [], _ :: _, h => h.elim
  | _ :: _, [], h => h.elim
  | _ :: _, _ :: _, h => by rw [List.length_cons, List.length_cons, OkAll.len h.2]
theorem OkAll.get {gl : List (Str × GV)} : ∀ {ds : List DI} {T : List Fd}, OkAll gl ds T → ∀ (i : Nat) (d : DI) (f : Fd), ds[i]? = some d → T[i]? = some f → FdOk gl d.cells d.ps d.N d.scope d.body f ∧ ArgsT d
  | [], _, _, i, _, _, e, _ => by cases i <;> cases e
  | _ :: _, [], h, _, _, _, _, _ => h.elim
  | _ :: _, _ :: _, h, 0, d, f, e1, e2 => by cases e1; cases e2; exact h.1
  | _ :: _, _ :: _, h, i + 1, d, f, e1, e2 => OkAll.get h.2 i d f e1 e2
theorem OkAll.append {gl : List (Str × GV)} : ∀ {ds es : List DI} {T U : List Fd}, OkAll gl ds T → OkAll gl es U → OkAll gl (ds ++ es) (T ++ U)
  | [], _, [], _, _, b => b
  | [], _, _ :: _, _, h, _ => h.elim
  | _ :: _, _, [], _, h, _ => h.elim
  | _ :: _, _, _ :: _, _, h, b => ⟨h.1, OkAll.append h.2 b⟩
theorem OkAll.tab {gl : List (Str × GV)} {ds : List DI} {T : List Fd} (h : OkAll gl ds T) : TabT gl ds T := ⟨h.len, fun i d f e1 e2 => (h.get i d f e1 e2).1⟩
theorem OkAll.args {gl : List (Str × GV)} {ds : List DI} {T : List Fd} (h : OkAll gl ds T) : ∀ (i : Nat) (d : DI), ds[i]? = some d → ArgsT d := fun i d e => by
  have hi : i < T.length := by
    rw [h.len]
    exact (List.getElem?_eq_some_iff.mp e).1
  exact (h.get i d _ e (List.getElem?_eq_getElem hi)).2
def glsB' (ds : List DI) (gl : List (Str × GV)) : Bool := gl.all fun q => match q.2 with
  | .fn i n => (match ds[i]? with
    | some d => decide (d.ps.length = n) && decide (d.x = q.1)
    | none => false)
  | _ => true
theorem glsB'_ok {ds : List DI} {gl : List (Str × GV)} (h : glsB' ds gl = true) : ∀ x g, gl.lookup x = some g → (∃ (i : Nat) (d : DI), g = .fn i d.ps.length ∧ ds[i]? = some d ∧ d.x = x) ∨ ∀ i n, g ≠ .fn i n := fun x g e => by
  have := List.all_eq_true.mp h (x, g) (PySem.mem_of_lookup e)
  simp only at this
  cases g with
  | fn i n =>
    simp only at this
    split at this
    · rename_i d hd
      rw [Bool.and_eq_true] at this
      have h1 := of_decide_eq_true this.1
      subst h1
      exact .inl ⟨i, d, rfl, hd, of_decide_eq_true this.2⟩
    · cases this
  | _ => exact .inr fun _ _ z => by cases z
def cupGet : List Stmt → Option Stmt
  | [.Assign [.Name c _] (.Call (.Name a _) [.Subscript (.BinOp (.Call (.Name l _) [.Name s _] [] _) .Add (.List [.Constant (.int 0) _ _] _) _) (.Constant (.int 0) _ _) _] [] _) _, s2] =>
    if c = ("cell" : Str) ∧ a = ("abs" : Str) ∧ l = ("list" : Str) ∧ s = ("script" : Str) then some s2 else none
  | _ => none
theorem cupGet_ok {body : List Stmt} {s2 : Stmt} (h : cupGet body = some s2) : ∃ p1 p2 p3 p4 p5 p6 p7 p8 p9 p10 p11 p12 j j2, body = [.Assign [.Name "cell" p1] (cupE p2 p3 p4 p5 p6 p7 p8 p9 p10 p11 j j2) p12, s2] := by
  unfold cupGet at h
  split at h
  · split at h
    · rename_i q
      obtain ⟨rfl, rfl, rfl, rfl⟩ := q
      cases h
      exact ⟨_, _, _, _, _, _, _, _, _, _, _, _, _, _, rfl⟩
    · cases h
  · cases h
def cupB (gl : List (Str × GV)) (sc : Scope) (body : List Stmt) : Option S := match cupGet body with
  | some s2 => cmpS 200 ⟨["script", "cell"], sc, ownL ["script", "cell"] sc, gl, []⟩ s2
  | none => none
def lkB (sc : Scope) (x : Str) (k : NameKind) : Bool := decide (sc.names.lookup x = some k)
theorem cupT_of {gl : List (Str × GV)} {sc : Scope} {body : List Stmt} (g : gnB gl = true) (s : scB ["script", "cell"] ["script"] sc = true) (h0 : lkB sc "script" .local = true) (h1 : lkB sc "cell" .local = true) (h2 : lkB sc "abs" .globalImplicit = true) (h3 : lkB sc "list" .globalImplicit = true) (h : cupB gl sc body = some cupR) : CupT gl sc body := by
  refine ⟨(scB_ok s).1, .inl (of_decide_eq_true h0), of_decide_eq_true h1, of_decide_eq_true h2, of_decide_eq_true h3, gnB_ok g, ?_⟩
  unfold cupB at h
  split at h
  · rename_i s2 e
    obtain ⟨p1, p2, p3, p4, p5, p6, p7, p8, p9, p10, p11, p12, j, j2, rfl⟩ := cupGet_ok e
    exact ⟨p1, p2, p3, p4, p5, p6, p7, p8, p9, p10, p11, p12, j, j2, s2, _, 200, rfl, ownL_ok, h⟩
  · cases h
def lawGet : List Stmt → Option (List Stmt)
  | .Assign [.Name c _] (.Call (.Name a _) [.Name s _] [] _) _ :: rest => if c = ("cup" : Str) ∧ a = ("_law_cup" : Str) ∧ s = ("script" : Str) then some rest else none
  | _ => none
theorem lawGet_ok {body rest : List Stmt} (h : lawGet body = some rest) : ∃ p1 p2 p3 p4 p5, body = .Assign [.Name "cup" p1] (.Call (.Name "_law_cup" p2) [.Name "script" p3] [] p4) p5 :: rest := by
  unfold lawGet at h
  split at h
  · split at h
    · rename_i q
      obtain ⟨rfl, rfl, rfl⟩ := q
      cases h
      exact ⟨_, _, _, _, _, rfl⟩
    · cases h
  · cases h
def lawB (gl : List (Str × GV)) (cells N : List Str) (sc : Scope) (body : List Stmt) : Option Ss := match lawGet body with
  | some r => cmpSs 200 ⟨N, sc, ownL N sc, gl, cells⟩ r
  | none => none
theorem lawT_of {gl : List (Str × GV)} {cells N : List Str} {sc : Scope} {body : List Stmt} {b : Ss} (g : gnB gl = true) (s : scB N ["script"] sc = true) (n1 : N[0]? = some ("script" : Str)) (n2 : N[1]? = some ("cup" : Str)) (h0 : lkB sc "script" .local = true) (h1 : lkB sc "cup" .local = true) (h2 : lkB sc "_law_cup" .globalImplicit = true)
    (h : lawB gl cells N sc body = some b) : LawT gl cells N sc body b := by
  refine ⟨(scB_ok s).1, n1, n2, (scB_ok s).2, .inl (of_decide_eq_true h0), of_decide_eq_true h1, of_decide_eq_true h2, gnB_ok g, ?_⟩
  unfold lawB at h
  split at h
  · rename_i r e
    obtain ⟨p1, p2, p3, p4, p5, rfl⟩ := lawGet_ok e
    exact ⟨p1, p2, p3, p4, p5, r, _, 200, rfl, ownL_ok, h⟩
  · cases h
end WM
namespace WM
open PySem PySem.Spec PySem.W PySem.Calls PyProof.Rows L2
abbrev KX (x : PySem.W.SharedT) : PySem.W.Frag := He.frG (HandSHeadRun.getT x) (asV (HandSHeadRun.getT x) 4)
def obD (ds : List DI) (x : PySem.W.SharedT) : Bool × List He.FnW := He.obsD (ds.map fun d => He.Fa.glo d.x) (ds.map mkD) (KX x)
def vaD (ds : List DI) : Bool × List He.FnW := He.valD (ds.map mkD)
theorem vaD_app (a b : List DI) : vaD (a ++ b) = (true, (vaD a).2 ++ (vaD b).2) := by
  unfold vaD He.valD
  simp
theorem obD_app (a b : List DI) (x : PySem.W.SharedT) (h1 : obD a x = vaD a) (h2 : obD b x = vaD b) : obD (a ++ b) x = vaD (a ++ b) := by
  rw [vaD_app, ← h1, ← h2]
  have e1 : (obD a x).1 = true := by rw [h1]; rfl
  have e2 : (obD b x).1 = true := by rw [h2]; rfl
  unfold obD He.obsD at *
  simp only [List.map_append, List.all_append, Bool.and_eq_true] at e1 e2 ⊢
  rw [e1.1, e1.2, e2.1, e2.2] <;> rfl
def AtR {α β : Type} (r : Option α) (f : α → β) (v : β) : Prop := r.map f = some v
theorem AtR.ex {α β : Type} {r : Option α} {f : α → β} {v : β} (h : AtR r f v) : ∃ x, r = some x ∧ f x = v := by
  unfold AtR at h
  cases r with
  | none => cases h
  | some x => exact ⟨x, rfl, Option.some.inj h⟩
theorem AtR.app {r : Option (Shared × PySem.W.SharedT)} {a b : List DI} (h1 : AtR r (fun x => obD a x.2) (vaD a)) (h2 : AtR r (fun x => obD b x.2) (vaD b)) : AtR r (fun x => obD (a ++ b) x.2) (vaD (a ++ b)) := by
  obtain ⟨x, rfl, e1⟩ := h1.ex
  obtain ⟨y, e, e2⟩ := h2.ex
  cases e
  exact congrArg some (obD_app a b _ e1 e2)
theorem AtR.pair {α β γ : Type} {r : Option α} {f : α → β} {g : α → γ} {v : β} {u : γ} (h1 : AtR r f v) (h2 : AtR r g u) : AtR r (fun x => (f x, g x)) (v, u) := by
  obtain ⟨x, rfl, e1⟩ := h1.ex
  obtain ⟨y, e, e2⟩ := h2.ex
  cases e
  exact congrArg some (Prod.ext e1 e2)
/-- the run's parts put together (a program with an import at its head) -/
theorem runI_of {r : PySem.W.OpenRow} {q : Program} {M : Nat} {loose : List Str} {w : World} {ds : List DI} {gl : List (Str × GV)}
    (h1 : AtR (HandSHeadRun.wholeF (fun p => HandSHeadRun.stepQ (HandSHeadRun.denQ HandSHeadRun.tabQ) p w) HandSHeadRun.fenceQ M r.prog) (fun x => (HandSHeadRun.looksF r.prog x.1.heap x.2.abs, (HandSHeadRun.seenQ q loose (importedModules r.prog.main.body) (fun s => PySem.W.xlAt q [] s && PySem.W.recOk r.toRowW.records s) x.2.abs, glsB (KX x.2) gl))) (true, (PySem.W.openGood q loose, true)))
    (h2 : AtR (HandSHeadRun.wholeF (fun p => HandSHeadRun.stepQ (HandSHeadRun.denQ HandSHeadRun.tabQ) p w) HandSHeadRun.fenceQ M r.prog) (fun x => obD ds x.2) (vaD ds)) :
    HandSHeadRun.RunEqI r q (hookW 4 (ds.map fun d => He.Fa.glo d.x) (ds.map mkD) gl) (fun s => obsW 4 (ds.map fun d => He.Fa.glo d.x) (ds.map mkD) gl (HandSHeadRun.getT s)) M loose w := by
  unfold HandSHeadRun.RunEqI
  obtain ⟨x, e, e1⟩ := h1.ex
  obtain ⟨y, e', e2⟩ := h2.ex
  rw [e] at e' ⊢
  cases e'
  injection e1 with a1 a2
  injection a2 with a2 a3
  show some (_, _, _) = some (_, _, _)
  rw [a1, a2]
  refine congrArg some (congrArg (Prod.mk true) (congrArg (Prod.mk _) ?_))
  show (glsB (KX x.2) gl, obD ds x.2) = (true, vaD ds)
  rw [a3, e2]
/-- the same of a program without imports -/
theorem run_of {r : PySem.W.OpenRow} {q : Program} {M : Nat} {loose : List Str} {w : World} {ds : List DI} {gl : List (Str × GV)}
    (h1 : ∀ os, AtR (HandSHeadRun.endF (HandSHeadRun.stepQ (HandSHeadRun.denQ HandSHeadRun.tabQ) r.prog w) M r.prog w os) (fun s => (HandSHeadRun.looksF r.prog (boot_heap w.params) s.abs, (HandSHeadRun.seenQ q loose (importedModules r.prog.main.body) (fun s => PySem.W.xlAt q [] s && PySem.W.recOk r.toRowW.records s) s.abs, glsB (KX s) gl))) (true, (PySem.W.openGood q loose, true)))
    (h2 : ∀ os, AtR (HandSHeadRun.endF (HandSHeadRun.stepQ (HandSHeadRun.denQ HandSHeadRun.tabQ) r.prog w) M r.prog w os) (fun x => obD ds x) (vaD ds)) :
    HandSHeadRun.RunEq r q (hookW 4 (ds.map fun d => He.Fa.glo d.x) (ds.map mkD) gl) (fun s => obsW 4 (ds.map fun d => He.Fa.glo d.x) (ds.map mkD) gl (HandSHeadRun.getT s)) M loose w := by
  intro os
  obtain ⟨x, e, e1⟩ := (h1 os).ex
  obtain ⟨y, e', e2⟩ := (h2 os).ex
  rw [e] at e' ⊢
  cases e'
  injection e1 with a1 a2
  injection a2 with a2 a3
  show some (_, _, _) = some (_, _, _)
  rw [a1, a2]
  refine congrArg some (congrArg (Prod.mk true) (congrArg (Prod.mk _) ?_))
  show (glsB (KX x) gl, obD ds x) = (true, vaD ds)
  rw [a3, e2]
end WM
namespace WM
open PySem PySem.Spec PySem.W PySem.Calls PyProof.Rows L2
theorem AtR.app1 {r : Option PySem.W.SharedT} {a b : List DI} (h1 : AtR r (fun x => obD a x) (vaD a)) (h2 : AtR r (fun x => obD b x) (vaD b)) : AtR r (fun x => obD (a ++ b) x) (vaD (a ++ b)) := by
  obtain ⟨x, rfl, e1⟩ := h1.ex
  obtain ⟨y, e, e2⟩ := h2.ex
  cases e
  exact congrArg some (obD_app a b _ e1 e2)
end WM
namespace WM
open PySem PySem.Spec PySem.W PySem.Calls PyProof.Rows L2
theorem AtR.left {α β γ : Type} {r : Option α} {f : α → β} {g : α → γ} {v : β} {u : γ} (h : AtR r (fun x => (f x, g x)) (v, u)) : AtR r f v := by
  obtain ⟨x, rfl, e⟩ := h.ex
  exact congrArg some (congrArg Prod.fst e)
theorem AtR.right {α β γ : Type} {r : Option α} {f : α → β} {g : α → γ} {v : β} {u : γ} (h : AtR r (fun x => (f x, g x)) (v, u)) : AtR r g u := by
  obtain ⟨x, rfl, e⟩ := h.ex
  exact congrArg some (congrArg Prod.snd e)
theorem runI_of2 {r : PySem.W.OpenRow} {q : Program} {M : Nat} {loose : List Str} {w : World} {ds : List DI} {gl : List (Str × GV)}
    (h1 : AtR (HandSHeadRun.wholeF (fun p => HandSHeadRun.stepQ (HandSHeadRun.denQ HandSHeadRun.tabQ) p w) HandSHeadRun.fenceQ M r.prog) (fun x => HandSHeadRun.looksF r.prog x.1.heap x.2.abs) true)
    (h2 : AtR (HandSHeadRun.wholeF (fun p => HandSHeadRun.stepQ (HandSHeadRun.denQ HandSHeadRun.tabQ) p w) HandSHeadRun.fenceQ M r.prog) (fun x => (HandSHeadRun.seenQ q loose (importedModules r.prog.main.body) (fun s => PySem.W.xlAt q [] s && PySem.W.recOk r.toRowW.records s) x.2.abs, (glsB (KX x.2) gl, obD ds x.2))) (PySem.W.openGood q loose, (true, vaD ds))) :
    HandSHeadRun.RunEqI r q (hookW 4 (ds.map fun d => He.Fa.glo d.x) (ds.map mkD) gl) (fun s => obsW 4 (ds.map fun d => He.Fa.glo d.x) (ds.map mkD) gl (HandSHeadRun.getT s)) M loose w :=
  runI_of (AtR.pair h1 (AtR.pair h2.left h2.right.left)) h2.right.right
theorem run_of2 {r : PySem.W.OpenRow} {q : Program} {M : Nat} {loose : List Str} {w : World} {ds : List DI} {gl : List (Str × GV)}
    (h1 : ∀ os, AtR (HandSHeadRun.endF (HandSHeadRun.stepQ (HandSHeadRun.denQ HandSHeadRun.tabQ) r.prog w) M r.prog w os) (fun s => HandSHeadRun.looksF r.prog (boot_heap w.params) s.abs) true)
    (h2 : ∀ os, AtR (HandSHeadRun.endF (HandSHeadRun.stepQ (HandSHeadRun.denQ HandSHeadRun.tabQ) r.prog w) M r.prog w os) (fun s => (HandSHeadRun.seenQ q loose (importedModules r.prog.main.body) (fun s => PySem.W.xlAt q [] s && PySem.W.recOk r.toRowW.records s) s.abs, (glsB (KX s) gl, obD ds s))) (PySem.W.openGood q loose, (true, vaD ds))) :
    HandSHeadRun.RunEq r q (hookW 4 (ds.map fun d => He.Fa.glo d.x) (ds.map mkD) gl) (fun s => obsW 4 (ds.map fun d => He.Fa.glo d.x) (ds.map mkD) gl (HandSHeadRun.getT s)) M loose w :=
  run_of (fun os => AtR.pair (h1 os) (AtR.pair (h2 os).left (h2 os).right.left)) fun os => (h2 os).right.right
end WM
namespace RT
theorem int_uniq {x : Rat} {n m : Int} (h : (n : Rat) ≤ x) (h1 : x < (n : Rat) + 1) (h2 : (m : Rat) ≤ x) (h3 : x < (m : Rat) + 1) : n = m := by
  have a : (n : Rat) < ((m + 1 : Int) : Rat) := by
    rw [Rat.intCast_add]
    grind
  have b : (m : Rat) < ((n + 1 : Int) : Rat) := by
    rw [Rat.intCast_add]
    grind
  have a := Rat.intCast_lt_intCast.mp a
  have b := Rat.intCast_lt_intCast.mp b
  omega
def fr (q : Rat) : Rat := q - (q.floor : Rat)
theorem fr_nn (q : Rat) : 0 ≤ fr q := by
  have := Rat.floor_le q
  unfold fr
  grind
theorem fr_lt (q : Rat) : fr q < 1 := by
  have := Rat.lt_floor_add_one q
  rw [Rat.intCast_add] at this
  unfold fr
  grind
theorem fr_ex (q : Rat) : ∃ n : Int, fr q = q + (n : Rat) := ⟨-q.floor, by unfold fr; rw [Rat.intCast_neg]; grind⟩
theorem fr_of {q : Rat} (h0 : 0 ≤ q) (h1 : q < 1) : fr q = q := by
  have e : q.floor = 0 := int_uniq (x := q) (Rat.floor_le q) (by have := Rat.lt_floor_add_one q; rw [Rat.intCast_add] at this; exact this) (by simpa using h0) (by rw [Rat.intCast_zero]; grind)
  unfold fr
  rw [e]
  grind
theorem fr_add (q : Rat) (n : Int) : fr (q + (n : Rat)) = fr q := by
  have e : (q + (n : Rat)).floor = q.floor + n := by
    refine int_uniq (x := q + n) (Rat.floor_le _) (by have := Rat.lt_floor_add_one (q + n); rw [Rat.intCast_add] at this; exact this) ?_ ?_
    · have := Rat.floor_le q
      rw [Rat.intCast_add]
      grind
    · have := Rat.lt_floor_add_one q
      rw [Rat.intCast_add] at this ⊢
      grind
  unfold fr
  rw [e, Rat.intCast_add]
  grind
theorem fr_congr {a b : Rat} {n : Int} (h : a = b + (n : Rat)) : fr a = fr b := by rw [h, fr_add]
theorem fr_eq {a b : Rat} (h : fr a = fr b) : ∃ n : Int, a = b + (n : Rat) := by
  obtain ⟨n, hn⟩ := fr_ex a
  obtain ⟨m, hm⟩ := fr_ex b
  refine ⟨m - n, ?_⟩
  rw [Rat.intCast_sub]
  grind
theorem fr_zero {a : Rat} (h : fr a = 0) : ∃ n : Int, a = (n : Rat) := ⟨a.floor, by unfold fr at h; grind⟩
theorem fr_int (n : Int) : fr (n : Rat) = 0 := by
  have := fr_add 0 n
  rw [Rat.zero_add] at this
  rw [this]
  exact fr_of (by grind) (by grind)
def wy (q : Rat) : Rat := if fr q < 1 / 2 then fr q else fr q - 1
theorem wy_lo (q : Rat) : -(1 / 2) ≤ wy q := by
  have := fr_nn q
  unfold wy
  split <;> grind
theorem wy_hi (q : Rat) : wy q < 1 / 2 := by
  have := fr_lt q
  unfold wy
  split <;> grind
theorem wy_ex (q : Rat) : ∃ n : Int, wy q = q + (n : Rat) := by
  obtain ⟨n, hn⟩ := fr_ex q
  unfold wy
  split
  · exact ⟨n, hn⟩
  · refine ⟨n - 1, ?_⟩
    rw [Rat.intCast_sub]
    grind
theorem wy_add (q : Rat) (n : Int) : wy (q + (n : Rat)) = wy q := by
  unfold wy
  rw [fr_add]
theorem wy_congr {a b : Rat} {n : Int} (h : a = b + (n : Rat)) : wy a = wy b := by rw [h, wy_add]
theorem wy_of {q : Rat} (h0 : -(1 / 2) ≤ q) (h1 : q < 1 / 2) : wy q = q := by
  by_cases c : 0 ≤ q
  · have e := fr_of c (by grind)
    unfold wy
    rw [e, if_pos h1]
  · have e : fr q = q + 1 := by
      have := fr_add q 1
      rw [← this]
      exact fr_of (by grind) (by grind)
    unfold wy
    rw [e, if_neg (by grind)]
    grind
def ab (q : Rat) : Rat := if q < 0 then -q else q
theorem ab_neg (q : Rat) : ab (-q) = ab q := by
  unfold ab
  split <;> split <;> grind
theorem ab_nn (q : Rat) : 0 ≤ ab q := by
  unfold ab
  split <;> grind
theorem ab_zero {q : Rat} : ab q = 0 ↔ q = 0 := by
  unfold ab
  split <;> grind
/-- the way is the shorter of the two parts -/
theorem ab_wy (q : Rat) : ab (wy q) = if fr q ≤ 1 - fr q then fr q else 1 - fr q := by
  have a := fr_nn q
  have b := fr_lt q
  unfold ab wy
  split <;> split <;> split <;> grind
theorem wy_zero {q : Rat} : wy q = 0 ↔ fr q = 0 := by
  have a := fr_nn q
  have b := fr_lt q
  unfold wy
  split <;> grind
theorem cut_num (t b : Int) (hb : 0 < b) : (Rat.divInt t b).num = t / (Int.gcd t b : Int) := by
  rw [Rat.num_divInt, Int.sign_eq_one_of_pos hb, Int.one_mul, Int.gcd_comm]
theorem cut_den (t b : Int) (hb : 0 < b) : ((Rat.divInt t b).den : Int) = b / (Int.gcd t b : Int) := by
  rw [Rat.den_divInt, if_neg (by omega), Int.gcd_comm]
  have : (b.natAbs : Int) = b := by omega
  rw [Int.natCast_ediv, this]
theorem cast_ne {b : Int} (hb : b ≠ 0) : (b : Rat) ≠ 0 := fun h => hb (Rat.intCast_inj.mp (by rw [h, Rat.intCast_zero]))
theorem den_ne (q : Rat) : ((q.den : Int) : Rat) ≠ 0 := cast_ne (by have := q.den_pos; omega)
theorem eq_div (q : Rat) : q = (q.num : Rat) / ((q.den : Int) : Rat) := by
  have := Rat.num_divInt_den q
  rw [Rat.divInt_eq_div] at this
  exact this.symm
theorem add_div (p q : Rat) : Rat.divInt (p.num * q.den + q.num * p.den) (p.den * q.den) = p + q := by
  rw [← Rat.divInt_add_divInt _ _ (by have := p.den_pos; omega) (by have := q.den_pos; omega), Rat.num_divInt_den, Rat.num_divInt_den]
theorem mul_div (p q : Rat) : Rat.divInt (p.num * q.num) (p.den * q.den) = p * q := by
  rw [← Rat.divInt_mul_divInt, Rat.num_divInt_den, Rat.num_divInt_den]
theorem muli_div (p : Rat) (n : Int) : Rat.divInt (p.num * n) p.den = p * (n : Rat) := by
  rw [Rat.divInt_eq_div, Rat.intCast_mul]
  have := eq_div p
  have := den_ne p
  grind
theorem side_le (p q : Rat) : 0 ≤ p.num * q.den - q.num * p.den ↔ q ≤ p := by
  rw [Rat.le_iff]
  omega
theorem fr_div (q : Rat) : Rat.divInt (q.num % q.den) q.den = fr q := by
  unfold fr
  rw [Rat.floor_def, Rat.divInt_eq_div]
  have e : q.num % (q.den : Int) = q.num - q.den * (q.num / q.den) := Int.emod_def _ _
  rw [e, Rat.intCast_sub, Rat.intCast_mul]
  have := eq_div q
  have := den_ne q
  grind
theorem num_neg (q : Rat) : (-q).num = -q.num := rfl
theorem den_neg (q : Rat) : (-q).den = q.den := rfl
theorem ab_num (q : Rat) : (ab q).num = if q.num < 0 then -q.num else q.num := by
  have : q.num < 0 ↔ q < 0 := by
    have := Rat.num_nonneg (q := q)
    constructor
    · intro h
      exact Rat.not_le.mp fun z => by have := this.mpr z; omega
    · intro h
      have : ¬ 0 ≤ q.num := fun z => absurd (this.mp z) (Rat.not_le.mpr h)
      omega
  unfold ab
  by_cases h : q < 0
  · rw [if_pos h, if_pos (this.mpr h), num_neg]
  · rw [if_neg h, if_neg (fun z => h (this.mp z))]
theorem ab_den (q : Rat) : (ab q).den = q.den := by
  unfold ab
  split <;> rfl
theorem divInt_den_le {t b : Int} (hb : 0 < b) : ((Rat.divInt t b).den : Int) ≤ b := by
  rw [cut_den t b hb]
  exact Int.ediv_le_self _ (by omega)
theorem divInt_num_le {t b : Int} (hb : 0 < b) : (Rat.divInt t b).num.natAbs ≤ t.natAbs := by
  rw [cut_num t b hb]
  exact Int.natAbs_ediv_le_natAbs t _
theorem divInt_eq {t b : Int} (hb : 0 < b) : Rat.divInt t b = (t : Rat) / (b : Rat) := Rat.divInt_eq_div t b
theorem fr_divInt {t b : Int} (hb : 0 < b) : fr (Rat.divInt t b) = Rat.divInt (t % b) b := by
  have hbr := cast_ne (b := b) (by omega)
  have e : Rat.divInt t b = Rat.divInt (t % b) b + ((t / b : Int) : Rat) := by
    rw [Rat.divInt_eq_div, Rat.divInt_eq_div]
    have e2 := congrArg (fun z : Int => (z : Rat)) (Int.emod_add_mul_ediv t b)
    simp only [Rat.intCast_add, Rat.intCast_mul] at e2
    grind
  rw [fr_congr e]
  have a1 := Int.emod_nonneg t (show b ≠ 0 by omega)
  have a2 := Int.emod_lt_of_pos t hb
  have hbp : (0 : Rat) < (b : Rat) := by
    have := Rat.intCast_lt_intCast.mpr hb
    rw [Rat.intCast_zero] at this
    exact this
  have c1 : (0 : Rat) ≤ ((t % b : Int) : Rat) := by
    have := Rat.intCast_le_intCast.mpr a1
    rw [Rat.intCast_zero] at this
    exact this
  have c2 := Rat.intCast_lt_intCast.mpr a2
  refine fr_of ?_ ?_
  · rw [Rat.divInt_eq_div]
    refine Rat.not_lt.mp fun z => ?_
    have z := (Rat.div_lt_iff hbp).mp z
    rw [Rat.zero_mul] at z
    exact absurd z (Rat.not_lt.mpr c1)
  · rw [Rat.divInt_eq_div]
    exact (Rat.div_lt_iff hbp).mpr (by rw [Rat.one_mul]; exact c2)
theorem divInt_zero {t b : Int} (hb : 0 < b) : Rat.divInt t b = 0 ↔ t = 0 := by
  constructor
  · intro h
    rw [Rat.divInt_eq_div] at h
    have hbr := cast_ne (b := b) (by omega)
    have : (t : Rat) = 0 := by grind
    rw [← Rat.intCast_zero] at this
    exact Rat.intCast_inj.mp this
  · intro h
    subst h
    exact Rat.zero_divInt b
theorem fr_mul_zero {q : Rat} {c : Int} : fr (q * (c : Rat)) = 0 ↔ (q.num * c) % q.den = 0 := by
  rw [← muli_div, fr_divInt (by have := q.den_pos; omega), divInt_zero (by have := q.den_pos; omega)]
theorem fr_muli (q : Rat) (c : Int) : fr (q * (c : Rat)) = Rat.divInt ((q.num * c) % q.den) q.den := by
  rw [← muli_div, fr_divInt (by have := q.den_pos; omega)]
end RT
namespace WM
open PySem PySem.Spec PyProof.Rows L2
@[simp] theorem ix2_0 (a b : D) : ixD (.tuple [a, b]) (.int 0) = some a := rfl
@[simp] theorem ix2_1 (a b : D) : ixD (.tuple [a, b]) (.int 1) = some b := rfl
@[simp] theorem ix3_0 (a b c : D) : ixD (.tuple [a, b, c]) (.int 0) = some a := rfl
@[simp] theorem ix3_1 (a b c : D) : ixD (.tuple [a, b, c]) (.int 1) = some b := rfl
@[simp] theorem ix3_2 (a b c : D) : ixD (.tuple [a, b, c]) (.int 2) = some c := rfl
@[simp] theorem ixL2_0 (a b : D) : ixD (.list [a, b]) (.int 0) = some a := rfl
@[simp] theorem ixL2_1 (a b : D) : ixD (.list [a, b]) (.int 1) = some b := rfl
@[simp] theorem ixW_d (x y : D) (st : Store) : ixW (.d x) y st = ixD x y := rfl
@[simp] theorem shp_int (i : Int) : shp (.int i) = true := by simp [shp, SeqAt.shaped, PyData.canLay0, PyData.depth]
@[simp] theorem shp_bool (i : Bool) : shp (.bool i) = true := by simp [shp, SeqAt.shaped, PyData.canLay0, PyData.depth]
@[simp] theorem shp_none : shp .none = true := by simp [shp, SeqAt.shaped, PyData.canLay0, PyData.depth]
@[simp] theorem shp_i2 (i j : Int) : shp (.tuple [.int i, .int j]) = true := by simp [shp, SeqAt.shaped, PyData.canLay0, PyData.canLayAll0, PyData.depth, PyData.depthAll]
theorem eq_d {x y : D} (h1 : shp x = true) (h2 : shp y = true) : cmpD .Eq x y = some (PyData.eqv x y) := by
  show (if shp x && shp y then some (PyData.eqv x y) else none) = _
  rw [h1, h2]
  rfl
theorem ne_d {x y : D} (h1 : shp x = true) (h2 : shp y = true) : cmpD .NotEq x y = some (!PyData.eqv x y) := by
  show (if shp x && shp y then some (!PyData.eqv x y) else none) = _
  rw [h1, h2]
  rfl
@[simp] theorem eqv_int (i j : Int) : PyData.eqv (.int i) (.int j) = decide (i = j) := by
  simp only [PyData.eqv]
  rw [Bool.eq_iff_iff]
  simp
@[simp] theorem eq_i (i j : Int) : cmpD .Eq (.int i) (.int j) = some (decide (i = j)) := by rw [eq_d (by simp) (by simp), eqv_int]
@[simp] theorem ne_i (i j : Int) : cmpD .NotEq (.int i) (.int j) = some (!decide (i = j)) := by rw [ne_d (by simp) (by simp), eqv_int]
@[simp] theorem eqv_bool (i j : Bool) : PyData.eqv (.bool i) (.bool j) = decide (i = j) := by
  simp only [PyData.eqv]
  rw [Bool.eq_iff_iff]
  simp
@[simp] theorem eq_b (i j : Bool) : cmpD .Eq (.bool i) (.bool j) = some (decide (i = j)) := by rw [eq_d (by simp) (by simp), eqv_bool]
@[simp] theorem ne_b (i j : Bool) : cmpD .NotEq (.bool i) (.bool j) = some (!decide (i = j)) := by rw [ne_d (by simp) (by simp), eqv_bool]
/-- a fraction -/
def pr (q : Rat) : D := .tuple [.int q.num, .int q.den]
@[simp] theorem shp_pr (q : Rat) : shp (pr q) = true := shp_i2 _ _
theorem rat_eq (p q : Rat) : (p.num = q.num ∧ (p.den : Int) = q.den) ↔ p = q := ⟨fun h => Rat.ext h.1 (by have := h.2; omega), fun h => by subst h; exact ⟨rfl, rfl⟩⟩
@[simp] theorem eqv_pr (p q : Rat) : PyData.eqv (pr p) (pr q) = decide (p = q) := by
  unfold pr
  simp only [PyData.eqv, PyData.eqvAll, ← rat_eq]
  rw [Bool.eq_iff_iff]
  simp
@[simp] theorem eq_pr (p q : Rat) : cmpD .Eq (pr p) (pr q) = some (decide (p = q)) := by rw [eq_d (by simp) (by simp), eqv_pr]
@[simp] theorem ne_pr (p q : Rat) : cmpD .NotEq (pr p) (pr q) = some (!decide (p = q)) := by rw [ne_d (by simp) (by simp), eqv_pr]
@[simp] theorem ixpr_0 (q : Rat) : ixD (pr q) (.int 0) = some (.int q.num) := rfl
@[simp] theorem ixpr_1 (q : Rat) : ixD (pr q) (.int 1) = some (.int q.den) := rfl
@[simp] theorem gcd_b (i j : Int) : bltD .gcd [.int i, .int j] = some (.int (Int.gcd i j)) := rfl
@[simp] theorem int_b (i : Int) : bltD .int [.int i] = some (.int i) := rfl
@[simp] theorem len_t (xs : List D) : bltD .len [.tuple xs] = some (.int xs.length) := rfl
@[simp] theorem len_l (xs : List D) : bltD .len [.list xs] = some (.int xs.length) := rfl
@[simp] theorem tup_l (xs : List D) : bltD .tuple [.list xs] = some (.tuple xs) := rfl
theorem abs_b (i : Int) : bltD .abs [.int i] = some (.int (if i < 0 then -i else i)) := rfl
@[simp] theorem isn_n : cmpD .Is .none .none = some true := rfl
@[simp] theorem isn_i (i : Int) : cmpD .Is (.int i) .none = some false := rfl
@[simp] theorem isn_t (xs : List D) : cmpD .Is (.tuple xs) .none = some false := rfl
@[simp] theorem isn_p (q : Rat) : cmpD .Is (pr q) .none = some false := rfl
@[simp] theorem isnn_n : cmpD .IsNot .none .none = some false := rfl
@[simp] theorem isnn_i (i : Int) : cmpD .IsNot (.int i) .none = some true := rfl
@[simp] theorem isnn_t (xs : List D) : cmpD .IsNot (.tuple xs) .none = some true := rfl
@[simp] theorem isnn_p (q : Rat) : cmpD .IsNot (pr q) .none = some true := rfl
@[simp] theorem isb (a b : Bool) : cmpD .Is (.bool a) (.bool b) = some (a == b) := rfl
@[simp] theorem isnb (a b : Bool) : cmpD .IsNot (.bool a) (.bool b) = some !(a == b) := rfl
theorem whlN_mono {c : EM} {b : SM} {r : Fl × Sl × Store} : ∀ {n : Nat} {sl : Sl} {st : Store}, whlN c b n sl st = some r → whlN c b (n + 1) sl st = some r
  | 0, _, _, h => by cases h
  | n + 1, sl, st, h => by
    unfold whlN at h
    obtain ⟨w, st1, e1, h⟩ := andW_some h
    unfold whlN
    rw [e1]
    simp only [andW_s]
    cases et : truW w with
    | none => rw [et] at h; cases h
    | some t =>
      rw [et] at h
      cases t with
      | false => exact h
      | true =>
        simp only at h ⊢
        cases e2 : b sl st1 with
        | none => rw [e2] at h; cases h
        | some z =>
          obtain ⟨fl, sl2, st2⟩ := z
          rw [e2] at h
          cases fl with
          | nx => exact whlN_mono h
          | ct => exact whlN_mono h
          | bk => exact h
          | ret w2 => exact h
theorem whlN_le {c : EM} {b : SM} {r : Fl × Sl × Store} {n m : Nat} {sl : Sl} {st : Store} (h : whlN c b n sl st = some r) (hm : n ≤ m) : whlN c b m sl st = some r := by
  induction hm with
  | refl => exact h
  | step _ ih => exact whlN_mono ih
theorem whlW_of {c : EM} {b : SM} {r : Fl × Sl × Store} {n : Nat} {sl : Sl} {st : Store} (h : whlN c b n sl st = some r) : whlW c b sl st = some r := by
  unfold whlW
  have uniq : ∀ {m : Nat} {q : Fl × Sl × Store}, whlN c b m sl st = some q → q = r := fun {m q} e => by
    rcases Nat.le_total n m with l | l
    · have := whlN_le h l
      rw [e] at this
      exact Option.some.inj this
    · have := whlN_le e l
      rw [h] at this
      exact (Option.some.inj this).symm
  split
  · rename_i q e
    rw [uniq e]
  · have hx : ∃ n r, whlN c b n sl st = some r := ⟨n, r, h⟩
    rw [dif_pos hx, uniq hx.choose_spec.choose_spec]
end WM
namespace WM
open PySem PySem.Spec PyProof.Rows L2 RT
structure Bd (q : Rat) (N D : Nat) : Prop where
  n : q.num.natAbs ≤ N
  d : q.den ≤ D
theorem Bd.mono {q : Rat} {N D N' D' : Nat} (h : Bd q N D) (h1 : N ≤ N') (h2 : D ≤ D') : Bd q N' D' := ⟨Nat.le_trans h.n h1, Nat.le_trans h.d h2⟩
theorem Bd.of_divInt {t b : Int} {N D : Nat} (hb : 0 < b) (h1 : t.natAbs ≤ N) (h2 : b.natAbs ≤ D) : Bd (Rat.divInt t b) N D :=
  ⟨Nat.le_trans (divInt_num_le hb) h1, by have := divInt_den_le (t := t) hb; omega⟩
theorem den_pos' (q : Rat) : (0 : Int) < q.den := by have := q.den_pos; omega
theorem Bd.add {p q : Rat} {N D M E : Nat} (h1 : Bd p N D) (h2 : Bd q M E) : Bd (p + q) (N * E + M * D) (D * E) := by
  rw [← add_div]
  refine Bd.of_divInt (Int.mul_pos (den_pos' p) (den_pos' q)) ?_ ?_
  · refine Nat.le_trans (Int.natAbs_add_le _ _) ?_
    rw [Int.natAbs_mul, Int.natAbs_mul]
    exact Nat.add_le_add (Nat.mul_le_mul h1.n (by simpa using h2.d)) (Nat.mul_le_mul h2.n (by simpa using h1.d))
  · rw [Int.natAbs_mul]
    exact Nat.mul_le_mul (by simpa using h1.d) (by simpa using h2.d)
theorem Bd.mul {p q : Rat} {N D M E : Nat} (h1 : Bd p N D) (h2 : Bd q M E) : Bd (p * q) (N * M) (D * E) := by
  rw [← mul_div]
  refine Bd.of_divInt (Int.mul_pos (den_pos' p) (den_pos' q)) ?_ ?_
  · rw [Int.natAbs_mul]
    exact Nat.mul_le_mul h1.n h2.n
  · rw [Int.natAbs_mul]
    exact Nat.mul_le_mul (by simpa using h1.d) (by simpa using h2.d)
theorem Bd.muli {p : Rat} {N D M : Nat} {n : Int} (h1 : Bd p N D) (h2 : n.natAbs ≤ M) : Bd (p * (n : Rat)) (N * M) D := by
  rw [← muli_div]
  refine Bd.of_divInt (den_pos' p) ?_ (by simpa using h1.d)
  rw [Int.natAbs_mul]
  exact Nat.mul_le_mul h1.n h2
theorem Bd.neg {p : Rat} {N D : Nat} (h1 : Bd p N D) : Bd (-p) N D := ⟨by rw [num_neg, Int.natAbs_neg]; exact h1.n, h1.d⟩
theorem Bd.ab {p : Rat} {N D : Nat} (h1 : Bd p N D) : Bd (ab p) N D := by
  unfold RT.ab
  split
  · exact h1.neg
  · exact h1
theorem Bd.fr {p : Rat} {N D : Nat} (h1 : Bd p N D) : Bd (fr p) D D := by
  rw [← fr_div]
  refine Bd.of_divInt (den_pos' p) ?_ (by simpa using h1.d)
  have a := Int.emod_nonneg p.num (Int.ne_of_gt (den_pos' p))
  have b := Int.emod_lt_of_pos p.num (den_pos' p)
  have := h1.d
  omega
theorem Bd.int (i : Int) : Bd (i : Rat) i.natAbs 1 := ⟨by rw [Rat.num_intCast]; exact Nat.le_refl _, by simp⟩
theorem Bd.wy {p : Rat} {N D : Nat} (h1 : Bd p N D) : Bd (wy p) (2 * D) D := by
  unfold RT.wy
  split
  · exact h1.fr.mono (by omega) (Nat.le_refl _)
  · have := (h1.fr).add (Bd.int (-1))
    have e : RT.fr p - 1 = RT.fr p + ((-1 : Int) : Rat) := by
      rw [Rat.intCast_neg, Rat.intCast_one]
      grind
    rw [e]
    refine this.mono ?_ ?_
    · simp
      omega
    · omega
/-- small: any product of two stays within what the machine's ints are allowed here -/
structure Sm (q : Rat) : Prop where
  n : q.num.natAbs < 2 ^ 1000
  d : q.den < 2 ^ 1000
theorem Bd.sm {q : Rat} {N D : Nat} (h : Bd q N D) (h1 : N < 2 ^ 1000 := by decide) (h2 : D < 2 ^ 1000 := by decide) : Sm q := ⟨Nat.lt_of_le_of_lt h.n h1, Nat.lt_of_le_of_lt h.d h2⟩
theorem big1 {n : Nat} (h : n < 2 ^ 1000) : n < BIG := lt_big (Nat.lt_trans h (by decide +kernel))
theorem Sm.mul_ok {i j : Int} (h1 : i.natAbs < 2 ^ 1000) (h2 : j.natAbs < 2 ^ 1000) : binD .Mult (.int i) (.int j) = some (.int (i * j)) := mul_i (mulOk_b (big1 h1) (big1 h2))
theorem Sm.dd {p q : Rat} (h1 : Sm p) (h2 : Sm q) : ((p.den : Int) * q.den).natAbs < BIG := by
  rw [Int.natAbs_mul]
  refine lt_big (Nat.lt_of_le_of_lt (Nat.mul_le_mul (show (p.den : Int).natAbs ≤ 2 ^ 1000 by have := h1.d; simpa using Nat.le_of_lt this) (show (q.den : Int).natAbs ≤ 2 ^ 1000 by have := h2.d; simpa using Nat.le_of_lt this)) ?_)
  rw [← Nat.pow_add]
  exact Nat.pow_lt_pow_right (by omega) (by omega)
theorem Sm.d' {p : Rat} (h : Sm p) : ((p.den : Int)).natAbs < 2 ^ 1000 := by simpa using h.d
end WM
namespace WM
open PySem PySem.Spec PyProof.Rows L2 RT
abbrev P (q : Rat) : W := .d (pr q)
abbrev Z (i : Int) : W := .d (.int i)
abbrev Bl (b : Bool) : W := .d (.bool b)
abbrev Tu (xs : List D) : W := .d (.tuple xs)
abbrev Li (xs : List D) : W := .d (.list xs)
abbrev No : W := .d .none
theorem comp_fil {g : D → Option Sl} {c e : EM} {p : D → Bool} {f : D → D} {st : Store} : ∀ {ds : List D}, (∀ x ∈ ds, ∃ sl, g x = some sl ∧ c sl st = some (.d (.bool (p x)), st) ∧ (p x = true → e sl st = some (.d (f x), st))) → compL g c e ds st = some ((ds.filter p).map f, st)
  | [], _ => rfl
  | d :: ds, h => by
    obtain ⟨sl, h1, h2, h3⟩ := h d (List.mem_cons_self ..)
    have ih := comp_fil (p := p) (f := f) (ds := ds) fun x hx => h x (List.mem_cons_of_mem _ hx)
    unfold compL
    cases hp : p d with
    | false =>
      rw [hp] at h2
      simp only [h1, h2, andW_s, truW_b, List.filter_cons_of_neg (p := p) (a := d) (l := ds) (by rw [hp]; decide)]
      exact ih
    | true =>
      rw [hp] at h2
      simp only [h1, h2, h3 hp, andW_s, andD_s, truW_b, List.filter_cons_of_pos (p := p) (a := d) (l := ds) hp, ih]
      rfl
/-- over any list of things -/
theorem comp_map {α : Type} {g : D → Option Sl} {e : EM} (x : α → D) (f : α → D) {st : Store} : ∀ {l : List α}, (∀ a ∈ l, ∃ sl, g (x a) = some sl ∧ e sl st = some (.d (f a), st)) → compL g (fun _ st => some (.d (.bool true), st)) e (l.map x) st = some (l.map f, st)
  | [], _ => rfl
  | a :: l, h => by
    obtain ⟨sl, h1, h2⟩ := h a (List.mem_cons_self ..)
    have ih := comp_map (g := g) (e := e) x f (st := st) (l := l) fun b hb => h b (List.mem_cons_of_mem _ hb)
    rw [List.map_cons]
    unfold compL
    simp only [h1, h2, andW_s, andD_s, truW_b, ih]
    rfl
/-- the elements turn the store -/
theorem comp_st {α : Type} {g : D → Option Sl} {e : EM} (x : α → D) (J : Store → Prop) (R : α → D → Prop) : ∀ {l : List α} {st : Store}, (∀ a ∈ l, ∀ st, J st → ∃ sl d st', g (x a) = some sl ∧ e sl st = some (.d d, st') ∧ J st' ∧ R a d) → J st →
    ∃ (ds : List D) (st' : Store), compL g (fun _ st => some (.d (.bool true), st)) e (l.map x) st = some (ds, st') ∧ J st' ∧ ds.length = l.length ∧ ∀ (i : Nat) (a : α) (d : D), l[i]? = some a → ds[i]? = some d → R a d
  | [], st, _, j => ⟨[], st, rfl, j, rfl, fun i a d e _ => by cases i <;> cases e⟩
  | a :: l, st, h, j => by
    obtain ⟨sl, d, st1, h1, h2, j1, r⟩ := h a (List.mem_cons_self ..) st j
    obtain ⟨ds, st2, e2, j2, l2, r2⟩ := comp_st (l := l) (g := g) (e := e) x J R (fun b hb => h b (List.mem_cons_of_mem _ hb)) j1
    refine ⟨d :: ds, st2, ?_, j2, by simp [l2], fun i b d' e1 e3 => ?_⟩
    · rw [List.map_cons]
      unfold compL
      simp only [h1, h2, andW_s, andD_s, truW_b, e2]
    · cases i with
      | zero => cases e1; cases e3; exact r
      | succ i => exact r2 i b d' (by simpa using e1) (by simpa using e3)
theorem comp_fm {α : Type} {g : D → Option Sl} {c e : EM} (x : α → D) (p : α → Bool) (f : α → D) {st : Store} : ∀ {l : List α}, (∀ a ∈ l, ∃ sl, g (x a) = some sl ∧ c sl st = some (.d (.bool (p a)), st) ∧ (p a = true → e sl st = some (.d (f a), st))) → compL g c e (l.map x) st = some ((l.filter p).map f, st)
  | [], _ => rfl
  | a :: l, h => by
    obtain ⟨sl, h1, h2, h3⟩ := h a (List.mem_cons_self ..)
    have ih := comp_fm (g := g) (c := c) (e := e) x p f (st := st) (l := l) fun b hb => h b (List.mem_cons_of_mem _ hb)
    rw [List.map_cons]
    unfold compL
    cases hp : p a with
    | false =>
      rw [hp] at h2
      simp only [h1, h2, andW_s, truW_b, List.filter_cons_of_neg (p := p) (a := a) (l := l) (by rw [hp]; decide)]
      exact ih
    | true =>
      rw [hp] at h2
      simp only [h1, h2, h3 hp, andW_s, andD_s, truW_b, List.filter_cons_of_pos (p := p) (a := a) (l := l) hp, ih]
      rfl
theorem comp_none {g : D → Option Sl} {c e : EM} {st : Store} : ∀ {ds : List D}, (∀ d ∈ ds, ∃ sl, g d = some sl ∧ c sl st = some (.d (.bool false), st)) → compL g c e ds st = some ([], st)
  | [], _ => rfl
  | d :: ds, h => by
    obtain ⟨sl, h1, h2⟩ := h d (List.mem_cons_self ..)
    unfold compL
    simp only [h1, h2, andW_s, truW_b]
    exact comp_none fun d hd => h d (List.mem_cons_of_mem _ hd)
theorem for_inv {g : D → Sl → Option Sl} {b : SM} (J : Sl → Store → Prop) : ∀ {ds : List D} {sl : Sl} {st : Store}, (∀ x ∈ ds, ∀ sl st, J sl st → ∃ sl1 sl2 st2, g x sl = some sl1 ∧ b sl1 st = some (.nx, sl2, st2) ∧ J sl2 st2) → J sl st → ∃ sl' st', forL g b ds sl st = some (.nx, sl', st') ∧ J sl' st'
  | [], sl, st, _, j => ⟨sl, st, rfl, j⟩
  | d :: ds, sl, st, h, j => by
    obtain ⟨sl1, sl2, st2, h1, h2, j2⟩ := h d (List.mem_cons_self ..) sl st j
    obtain ⟨sl', st', e, j'⟩ := for_inv J (ds := ds) (fun x hx => h x (List.mem_cons_of_mem _ hx)) j2
    refine ⟨sl', st', ?_, j'⟩
    unfold forL
    simp only [h1, h2]
    exact e
/-- a loop that runs through; a what it makes, h what it leaves behind -/
theorem for_fold {α β γ : Type} {g : D → Sl → Option Sl} {b : SM} (x : γ → D) (F : α → β → Sl) (S : α → Store) (f : α → γ → α) (J : α → Prop) : ∀ {l : List γ} {a : α} {h : β},
    (∀ c ∈ l, ∀ a h, J a → ∃ sl h', g (x c) (F a h) = some sl ∧ b sl (S a) = some (.nx, F (f a c) h', S (f a c)) ∧ J (f a c)) → J a → ∃ h', forL g b (l.map x) (F a h) (S a) = some (.nx, F (l.foldl f a) h', S (l.foldl f a)) ∧ J (l.foldl f a)
  | [], a, h, _, j => ⟨h, rfl, j⟩
  | c :: l, a, h, hh, j => by
    obtain ⟨sl, h1, e1, e2, j1⟩ := hh c (List.mem_cons_self ..) a h j
    obtain ⟨h2, e3, j2⟩ := for_fold (l := l) (a := f a c) (h := h1) x F S f J (fun d hd => hh d (List.mem_cons_of_mem _ hd)) j1
    refine ⟨h2, ?_, j2⟩
    rw [List.map_cons]
    unfold forL
    simp only [e1, e2]
    exact e3
/-- with what is still to come in sight: J (done) -/
theorem for_done {β γ : Type} {g : D → Sl → Option Sl} {b : SM} (x : γ → D) (F : List γ → β → Sl) (S : List γ → Store) : ∀ {l done : List γ} {h : β},
    (∀ (d : List γ) (c : γ) (r : List γ) (h : β), done ++ l = d ++ c :: r → ∃ sl h', g (x c) (F d h) = some sl ∧ b sl (S d) = some (.nx, F (d ++ [c]) h', S (d ++ [c]))) → ∃ h', forL g b (l.map x) (F done h) (S done) = some (.nx, F (done ++ l) h', S (done ++ l))
  | [], done, h, _ => ⟨h, by rw [List.append_nil]; rfl⟩
  | c :: l, done, h, hh => by
    obtain ⟨sl, h1, e1, e2⟩ := hh done c l h rfl
    obtain ⟨h2, e3⟩ := for_done (l := l) (done := done ++ [c]) (h := h1) x F S fun d c' r h0 e => hh d c' r h0 (by rw [← e]; simp)
    refine ⟨h2, ?_⟩
    rw [List.map_cons]
    unfold forL
    simp only [e1, e2]
    rw [e3]
    simp
/-- a loop that runs through, all turns leave nothing behind but h -/
theorem for_holes {β γ : Type} {g : D → Sl → Option Sl} {b : SM} (x : γ → D) (F : β → Sl) (st : Store) : ∀ {l : List γ} {h : β},
    (∀ c ∈ l, ∀ h, ∃ sl h', g (x c) (F h) = some sl ∧ b sl st = some (.nx, F h', st)) → ∃ h', forL g b (l.map x) (F h) st = some (.nx, F h', st)
  | [], h, _ => ⟨h, rfl⟩
  | c :: l, h, hh => by
    obtain ⟨sl, h1, e1, e2⟩ := hh c (List.mem_cons_self ..) h
    obtain ⟨h2, e3⟩ := for_holes (l := l) (h := h1) x F st fun d hd => hh d (List.mem_cons_of_mem _ hd)
    refine ⟨h2, ?_⟩
    rw [List.map_cons]
    unfold forL
    simp only [e1, e2]
    exact e3
/-- a loop that hands back at the first thing found -/
theorem for_find {β γ : Type} {g : D → Sl → Option Sl} {b : SM} (x : γ → D) (F : β → Sl) (st : Store) (p : γ → Bool) (w : γ → W) : ∀ {l : List γ} {h : β},
    (∀ c ∈ l, ∀ h, ∃ sl h', g (x c) (F h) = some sl ∧ b sl st = (if p c = true then some (.ret (w c), F h', st) else some (.nx, F h', st))) →
    ∃ h', forL g b (l.map x) (F h) st = (match l.find? p with
      | some c => some (.ret (w c), F h', st)
      | none => some (.nx, F h', st))
  | [], h, _ => ⟨h, rfl⟩
  | c :: l, h, hh => by
    obtain ⟨sl, h1, e1, e2⟩ := hh c (List.mem_cons_self ..) h
    by_cases hp : p c = true
    · refine ⟨h1, ?_⟩
      rw [if_pos hp] at e2
      rw [List.map_cons, List.find?_cons_of_pos hp]
      unfold forL
      simp only [e1, e2]
    · rw [if_neg hp] at e2
      obtain ⟨h2, e3⟩ := for_find (l := l) (h := h1) x F st p w fun d hd => hh d (List.mem_cons_of_mem _ hd)
      refine ⟨h2, ?_⟩
      rw [List.map_cons, List.find?_cons_of_neg (by simpa using hp)]
      unfold forL
      simp only [e1, e2]
      exact e3
def iv (lo : Int) (n : Nat) : List Int := (List.range n).map fun (i : Nat) => lo + (i : Int)
theorem rng_eq (lo : Int) : ∀ n : Nat, rngD lo n = (iv lo n).map PyData.int
  | 0 => rfl
  | n + 1 => by
    have ih := rng_eq (lo + 1) n
    unfold rngD
    rw [ih]
    unfold iv
    rw [List.range_succ_eq_map]
    simp only [List.map_cons, List.map_map]
    congr 1
    · congr 1
      omega
    · apply List.map_congr_left
      intro i _
      simp only [Function.comp]
      congr 1
      omega
theorem iv_len (lo : Int) (n : Nat) : (iv lo n).length = n := by simp [iv]
theorem mem_iv {lo x : Int} {n : Nat} : x ∈ iv lo n ↔ lo ≤ x ∧ x < lo + n := by
  unfold iv
  rw [List.mem_map]
  constructor
  · rintro ⟨i, hi, rfl⟩
    rw [List.mem_range] at hi
    omega
  · intro h
    exact ⟨(x - lo).toNat, by rw [List.mem_range]; omega, by omega⟩
theorem iv_get {lo : Int} {n i : Nat} (h : i < n) : (iv lo n)[i]? = some (lo + i) := by
  unfold iv
  rw [List.getElem?_map, List.getElem?_range h]
  rfl
theorem iv_succ (lo : Int) (n : Nat) : iv lo (n + 1) = iv lo n ++ [lo + n] := by
  unfold iv
  rw [List.range_succ]
  simp
theorem iv_cons (lo : Int) (n : Nat) : iv lo (n + 1) = lo :: iv (lo + 1) n := by
  unfold iv
  rw [List.range_succ_eq_map]
  simp only [List.map_cons, List.map_map]
  congr 1
  · omega
  · apply List.map_congr_left
    intro i _
    simp only [Function.comp]
    omega
theorem iv_pw (lo : Int) (n : Nat) : (iv lo n).Pairwise (· < ·) := by
  unfold iv
  rw [List.pairwise_map]
  exact List.pairwise_lt_range.imp fun h => by omega
theorem iv_zero (lo : Int) : iv lo 0 = [] := rfl
theorem rngI_ok {i j : Int} (h1 : -(2 ^ 62) ≤ i) (h2 : i < 2 ^ 62) (h3 : -(2 ^ 62) ≤ j) (h4 : j < 2 ^ 62) : rngI (.int i) (.int j) = some ((iv i (j - i).toNat).map PyData.int) := by
  have e : rngI (.int i) (.int j) = if -(2 ^ 62) ≤ i ∧ i < 2 ^ 62 ∧ -(2 ^ 62) ≤ j ∧ j < 2 ^ 62 then some (rngD i (j - i).toNat) else none := rfl
  rw [e, if_pos ⟨h1, h2, h3, h4⟩, rng_eq]
theorem asInts_i (ns : List Int) : asInts (ns.map PyData.int) = some ns := asInts_map ns
theorem all_b {α : Type} (l : List α) (p : α → Bool) : bltD .all [.list (l.map fun a => .bool (p a))] = some (.bool (l.all p)) := by
  have e : (l.map fun a => PyData.bool (p a)) = (l.map p).map PyData.bool := by simp
  rw [e]
  show (asBools ((l.map p).map PyData.bool)).map (fun bs => PyData.bool (bs.all id)) = _
  rw [asBools_map]
  simp [List.all_map, Function.comp_def]
theorem any_b {α : Type} (l : List α) (p : α → Bool) : bltD .any [.list (l.map fun a => .bool (p a))] = some (.bool (l.any p)) := by
  have e : (l.map fun a => PyData.bool (p a)) = (l.map p).map PyData.bool := by simp
  rw [e]
  show (asBools ((l.map p).map PyData.bool)).map (fun bs => PyData.bool (bs.any id)) = _
  rw [asBools_map]
  simp [List.any_map, Function.comp_def]
theorem run_comp_map {Φ : Fn} {tg : Tg} {it : I} {own : List Nat} {elt : E} {sl : Sl} {st : Store} {α : Type} (l : List α) (x f : α → D) (hi : runI Φ it sl st = some (l.map x, st)) (hl : l.length ≤ sizeLine)
    (h : ∀ a ∈ l, ∃ sl', stTg tg (x a) (wipeS sl own) = some sl' ∧ runE Φ elt sl' st = some (.d (f a), st)) : runE Φ (.comp tg it .none own elt) sl st = some (Li (l.map f), st) := by
  rw [runE, hi]
  have e : compL (fun d => stTg tg d (wipeS sl own)) (fun sl1 st2 => runC Φ .none sl1 st2) (fun sl1 st2 => runE Φ elt sl1 st2) (l.map x) st = some (l.map f, st) := comp_map x f h
  simp only [compK_eq, e, okC]
  rw [if_pos (by simpa using hl)]
theorem run_comp_fm {Φ : Fn} {tg : Tg} {it : I} {own : List Nat} {c elt : E} {sl : Sl} {st : Store} {α : Type} (l : List α) (x : α → D) (p : α → Bool) (f : α → D) (hi : runI Φ it sl st = some (l.map x, st)) (hl : l.length ≤ sizeLine)
    (h : ∀ a ∈ l, ∃ sl', stTg tg (x a) (wipeS sl own) = some sl' ∧ runE Φ c sl' st = some (Bl (p a), st) ∧ (p a = true → runE Φ elt sl' st = some (.d (f a), st))) : runE Φ (.comp tg it (.some c) own elt) sl st = some (Li ((l.filter p).map f), st) := by
  rw [runE, hi]
  have e : compL (fun d => stTg tg d (wipeS sl own)) (fun sl1 st2 => runC Φ (.some c) sl1 st2) (fun sl1 st2 => runE Φ elt sl1 st2) (l.map x) st = some ((l.filter p).map f, st) := comp_fm x p f h
  simp only [compK_eq, e, okC]
  rw [if_pos]
  have := List.length_filter_le p l
  simp
  omega
theorem run_comp_st {Φ : Fn} {tg : Tg} {it : I} {own : List Nat} {elt : E} {sl : Sl} {st : Store} {α : Type} (l : List α) (x : α → D) (J : Store → Prop) (R : α → D → Prop) (hi : runI Φ it sl st = some (l.map x, st)) (hl : l.length ≤ sizeLine)
    (h : ∀ a ∈ l, ∀ st, J st → ∃ sl' d st', stTg tg (x a) (wipeS sl own) = some sl' ∧ runE Φ elt sl' st = some (.d d, st') ∧ J st' ∧ R a d) (j : J st) :
    ∃ ds st', runE Φ (.comp tg it .none own elt) sl st = some (Li ds, st') ∧ J st' ∧ ds.length = l.length ∧ ∀ (i : Nat) (a : α) (d : D), l[i]? = some a → ds[i]? = some d → R a d := by
  obtain ⟨ds, st', e, j', hl', r⟩ := comp_st (g := fun d => stTg tg d (wipeS sl own)) (e := fun sl1 st2 => runE Φ elt sl1 st2) x J R (l := l) (st := st) h j
  refine ⟨ds, st', ?_, j', hl', r⟩
  rw [runE, hi]
  have e : compL (fun d => stTg tg d (wipeS sl own)) (fun sl1 st2 => runC Φ .none sl1 st2) (fun sl1 st2 => runE Φ elt sl1 st2) (l.map x) st = some (ds, st') := e
  simp only [compK_eq, e, okC]
  rw [if_pos (by rw [hl']; exact hl)]
theorem run_for_of {Φ : Fn} {tg : Tg} {it : I} {b : Ss} {sl : Sl} {st st1 : Store} {ds : List D} {r : Option (Fl × Sl × Store)} (hi : runI Φ it sl st = some (ds, st1)) (h : forL (fun d sl => stTg tg d sl) (fun sl st => runSs Φ b sl st) ds sl st1 = r) : runS Φ (.for tg it b) sl st = r := by
  rw [runS, hi]
  simp only [forK_eq]
  exact h
theorem run_whl_of {Φ : Fn} {c : E} {b : Ss} {sl : Sl} {st : Store} {n : Nat} {r : Fl × Sl × Store} (h : whlN (fun sl st => runE Φ c sl st) (fun sl st => runSs Φ b sl st) n sl st = some r) : runS Φ (.whl c b) sl st = some r := by
  rw [runS, whlK_eq]
  exact whlW_of h
theorem runI_val {Φ : Fn} {e : E} {sl : Sl} {st st1 : Store} {x : D} {l : List D} (h : runE Φ e sl st = some (.d x, st1)) (hv : valI x = some l) : runI Φ (.val e) sl st = some (l, st1) := by
  rw [runI, h]
  simp only [andD_s, hv, okL_s]
theorem runI_rng1 {Φ : Fn} {e : E} {sl : Sl} {st st1 : Store} {j : Int} (h : runE Φ e sl st = some (Z j, st1)) (h1 : -(2 ^ 62) ≤ j) (h2 : j < 2 ^ 62) : runI Φ (.rng1 e) sl st = some ((iv 0 j.toNat).map PyData.int, st1) := by
  rw [runI, h]
  simp only [andD_s, rngK_eq]
  rw [rngI_ok (by decide) (by decide) h1 h2, Int.sub_zero]
  rfl
theorem runI_rng2 {Φ : Fn} {e e2 : E} {sl : Sl} {st st1 st2 : Store} {i j : Int} (h : runE Φ e sl st = some (Z i, st1)) (h' : runE Φ e2 sl st1 = some (Z j, st2)) (h1 : -(2 ^ 62) ≤ i) (h2 : i < 2 ^ 62) (h3 : -(2 ^ 62) ≤ j) (h4 : j < 2 ^ 62) : runI Φ (.rng2 e e2) sl st = some ((iv i (j - i).toNat).map PyData.int, st2) := by
  rw [runI, h]
  simp only [andD_s, h', rngK_eq]
  rw [rngI_ok h1 h2 h3 h4]
  rfl
theorem runI_enum {Φ : Fn} {e : E} {sl : Sl} {st st1 : Store} {x : D} {xs : List D} (h : runE Φ e sl st = some (.d x, st1)) (hx : x = .list xs ∨ x = .tuple xs) : runI Φ (.enum e) sl st = some (enumD 0 xs, st1) := by
  rw [runI, h]
  rcases hx with rfl | rfl <;> rfl
/-- the places and the things of a list -/
def enl {α : Type} : Nat → List α → List (Nat × α)
  | _, [] => []
  | i, a :: l => (i, a) :: enl (i + 1) l
def enx {α : Type} (x : α → D) (p : Nat × α) : D := .tuple [.int (p.1 : Int), x p.2]
theorem enumD_map {α : Type} (x : α → D) : ∀ (l : List α) (i : Nat), enumD i (l.map x) = (enl i l).map (enx x)
  | [], _ => rfl
  | a :: l, i => by
    show PyData.tuple [.int (i : Int), x a] :: enumD (i + 1) (l.map x) = enx x (i, a) :: (enl (i + 1) l).map (enx x)
    rw [enumD_map x l (i + 1)]
    rfl
theorem enl_len {α : Type} : ∀ (l : List α) (i : Nat), (enl i l).length = l.length
  | [], _ => rfl
  | a :: l, i => by
    show (enl (i + 1) l).length + 1 = l.length + 1
    rw [enl_len l]
theorem enl_mem {α : Type} : ∀ {l : List α} {i : Nat} {p : Nat × α}, p ∈ enl i l → i ≤ p.1 ∧ p.1 < i + l.length ∧ l[p.1 - i]? = some p.2
  | [], _, _, h => by cases h
  | a :: l, i, p, h => by
    rcases List.mem_cons.mp h with rfl | h
    · simp
    · obtain ⟨h1, h2, h3⟩ := enl_mem h
      refine ⟨by omega, by simp; omega, ?_⟩
      have e : p.1 - i = (p.1 - (i + 1)) + 1 := by omega
      rw [e, List.getElem?_cons_succ]
      exact h3
theorem enl_append {α : Type} : ∀ (l m : List α) (i : Nat), enl i (l ++ m) = enl i l ++ enl (i + l.length) m
  | [], _, _ => rfl
  | a :: l, m, i => by
    show (i, a) :: enl (i + 1) (l ++ m) = (i, a) :: (enl (i + 1) l ++ _)
    rw [enl_append l m (i + 1)]
    congr 3
    simp
    omega
theorem cat_l (xs ys : List D) (h : xs.length + ys.length ≤ sizeLine) : binD .Add (.list xs) (.list ys) = some (.list (xs ++ ys)) := if_pos h
theorem cat_t (xs ys : List D) (h : xs.length + ys.length ≤ sizeLine) : binD .Add (.tuple xs) (.tuple ys) = some (.tuple (xs ++ ys)) := if_pos h
theorem rep_l (xs : List D) (k : Int) (h : k < 2 ^ 62 ∧ -(2 ^ 62) ≤ k ∧ xs.length * k.toNat ≤ sizeLine) : binD .Mult (.list xs) (.int k) = some (.list (flatten' k.toNat xs)) := if_pos h
theorem rep_1 (x : D) (n : Nat) (h : n ≤ 16777216) : binD .Mult (.list [x]) (.int n) = some (.list (List.replicate n x)) := by
  have hs : sizeLine = 16777216 := sizeLine_eq
  rw [rep_l [x] n ⟨by omega, by omega, by rw [List.length_singleton, hs]; omega⟩]
  have : ((n : Int)).toNat = n := by omega
  rw [this]
  unfold flatten'
  congr 2
  clear h this
  induction n with
  | zero => rfl
  | succ n ih => rw [List.replicate_succ, List.flatten_cons, ih]; rfl
end WM
namespace WM
open PySem PySem.Spec PyProof.Rows L2
/-- the sum of f 0 .. f (n - 1) -/
def sm (f : Nat → Int) : Nat → Int
  | 0 => 0
  | n + 1 => sm f n + f n
theorem sm_congr {f g : Nat → Int} : ∀ {n : Nat}, (∀ i, i < n → f i = g i) → sm f n = sm g n
  | 0, _ => rfl
  | n + 1, h => by
    unfold sm
    rw [sm_congr fun i hi => h i (by omega), h n (by omega)]
theorem sm_add (f g : Nat → Int) : ∀ n, sm (fun i => f i + g i) n = sm f n + sm g n
  | 0 => rfl
  | n + 1 => by
    unfold sm
    rw [sm_add f g n]
    omega
theorem sm_mul (c : Int) (f : Nat → Int) : ∀ n, sm (fun i => c * f i) n = c * sm f n
  | 0 => by simp [sm]
  | n + 1 => by
    unfold sm
    rw [sm_mul c f n, Int.mul_add]
theorem sm_zero : ∀ n, sm (fun _ => 0) n = 0
  | 0 => rfl
  | n + 1 => by
    unfold sm
    rw [sm_zero n] <;> rfl
theorem sm_const (c : Int) : ∀ n, sm (fun _ => c) n = n * c
  | 0 => by simp [sm]
  | n + 1 => by
    unfold sm
    rw [sm_const c n]
    grind
theorem sm_swap (f : Nat → Nat → Int) (m : Nat) : ∀ n, sm (fun i => sm (fun j => f i j) m) n = sm (fun j => sm (fun i => f i j) n) m
  | 0 => by
    show (0 : Int) = sm (fun j => 0) m
    rw [sm_zero]
  | n + 1 => by
    show sm (fun i => sm (fun j => f i j) m) n + sm (fun j => f n j) m = _
    rw [sm_swap f m n, ← sm_add]
    exact sm_congr fun i _ => rfl
theorem sm_shift (f : Nat → Int) : ∀ n, sm f (n + 1) = f 0 + sm (fun i => f (i + 1)) n
  | 0 => by simp [sm]
  | n + 1 => by
    rw [sm, sm_shift f n]
    show f 0 + _ + f (n + 1) = f 0 + (_ + f (n + 1))
    omega
theorem sm_split (f : Nat → Int) (m : Nat) : ∀ n, sm f (m + n) = sm f m + sm (fun i => f (m + i)) n
  | 0 => by simp [sm]
  | n + 1 => by
    show sm f (m + n) + f (m + n) = _
    rw [sm_split f m n]
    show _ = sm f m + (_ + f (m + n))
    omega
theorem sm_nn {f : Nat → Int} : ∀ {n : Nat}, (∀ i, i < n → 0 ≤ f i) → 0 ≤ sm f n
  | 0, _ => by simp [sm]
  | n + 1, h => by
    have := sm_nn (f := f) (n := n) fun i hi => h i (by omega)
    have := h n (by omega)
    unfold sm
    omega
theorem sm_le {f g : Nat → Int} : ∀ {n : Nat}, (∀ i, i < n → f i ≤ g i) → sm f n ≤ sm g n
  | 0, _ => by simp [sm]
  | n + 1, h => by
    have := sm_le (f := f) (g := g) (n := n) fun i hi => h i (by omega)
    have := h n (by omega)
    unfold sm
    omega
/-- 1 or 0 -/
def b1 (p : Bool) : Int := if p then 1 else 0
theorem b1_t : b1 true = 1 := rfl
theorem b1_f : b1 false = 0 := rfl
theorem b1_nn (p : Bool) : 0 ≤ b1 p := by cases p <;> decide
theorem b1_le (p : Bool) : b1 p ≤ 1 := by cases p <;> decide
theorem b1_not (p : Bool) : b1 (!p) = 1 - b1 p := by cases p <;> decide
def ch : Nat → Nat → Int
  | _, 0 => 1
  | 0, _ + 1 => 0
  | n + 1, k + 1 => ch n k + ch n (k + 1)
theorem ch_zero (n : Nat) : ch n 0 = 1 := by cases n <;> rfl
theorem ch_big : ∀ {n k : Nat}, n < k → ch n k = 0
  | _, 0, h => absurd h (Nat.not_lt_zero _)
  | 0, k + 1, _ => rfl
  | n + 1, k + 1, h => by
    unfold ch
    rw [ch_big (by omega), ch_big (by omega)] <;> rfl
theorem ch_self : ∀ n, ch n n = 1
  | 0 => rfl
  | n + 1 => by
    unfold ch
    rw [ch_self n, ch_big (by omega)] <;> rfl
/-- the next one is told by the one ahead -/
theorem ch_next : ∀ (n k : Nat), ch n (k + 1) * ((k : Int) + 1) = ch n k * ((n : Int) - k)
  | 0, 0 => rfl
  | 0, k + 1 => by
    show 0 * _ = 0 * _
    rw [Int.zero_mul, Int.zero_mul]
  | n + 1, 0 => by
    have := ch_next n 0
    unfold ch
    rw [ch_zero] at *
    push_cast at *
    grind
  | n + 1, k + 1 => by
    have h1 := ch_next n k
    have h2 := ch_next n (k + 1)
    show (ch n (k + 1) + ch n (k + 1 + 1)) * _ = (ch n k + ch n (k + 1)) * _
    push_cast at *
    grind
def sg (s m : Nat) : Int := if (s + m) % 2 = 0 then 1 else -1
theorem sg_next (s m : Nat) : sg s (m + 1) = -sg s m := by
  unfold sg
  split <;> split <;> omega
theorem sg_next' (s m : Nat) : sg (s + 1) m = -sg s m := by
  unfold sg
  split <;> split <;> omega
theorem sg_both (s m : Nat) : sg (s + 1) (m + 1) = sg s m := by rw [sg_next, sg_next', Int.neg_neg]
/-- in and out: only what is taken just m times stays -/
theorem in_out (N : Nat) : ∀ (k m : Nat), k ≤ N → sm (fun s => sg s m * ch s m * ch k s) (N + 1) = if k = m then 1 else 0
  | 0, m, _ => by
    rw [sm_shift]
    have e : sm (fun i => sg (i + 1) m * ch (i + 1) m * ch 0 (i + 1)) N = 0 := by
      rw [sm_congr (g := fun _ => 0) fun i _ => by show _ * 0 = _; rw [Int.mul_zero], sm_zero]
    rw [e]
    cases m with
    | zero => rfl
    | succ m =>
      show sg 0 (m + 1) * 0 * ch 0 0 + 0 = _
      rw [if_neg (by omega)]
      simp
  | k + 1, 0, h => by
    have ih := in_out N k 0 (by omega)
    rw [if_neg (by omega)]
    rw [sm_shift] at ih ⊢
    have hN : ∃ M, N = M + 1 := ⟨N - 1, by omega⟩
    obtain ⟨M, rfl⟩ := hN
    have e : sm (fun i => sg (i + 1) 0 * ch (i + 1) 0 * ch (k + 1) (i + 1)) (M + 1) = sm (fun i => sg (i + 1) 0 * ch (i + 1) 0 * ch k i) (M + 1) + sm (fun i => sg (i + 1) 0 * ch (i + 1) 0 * ch k (i + 1)) (M + 1) := by
      rw [← sm_add]
      apply sm_congr
      intro i _
      show _ * (ch k i + ch k (i + 1)) = _
      rw [Int.mul_add]
    have e2 : sm (fun i => sg (i + 1) 0 * ch (i + 1) 0 * ch k i) (M + 1) = -(sm (fun i => sg i 0 * ch i 0 * ch k i) (M + 1)) := by
      have := sm_mul (-1) (fun i => sg i 0 * ch i 0 * ch k i) (M + 1)
      rw [Int.neg_mul, Int.one_mul] at this
      rw [← this]
      apply sm_congr
      intro i _
      rw [sg_next', ch_zero, ch_zero]
      grind
    have e3 : sm (fun i => sg i 0 * ch i 0 * ch k i) (M + 1 + 1) = sm (fun i => sg i 0 * ch i 0 * ch k i) (M + 1) := by
      rw [sm, ch_big (n := k) (k := M + 1) (by omega), Int.mul_zero, Int.add_zero]
    rw [← sm_shift (fun i => sg i 0 * ch i 0 * ch k i), e3] at ih
    have e4 := sm_shift (fun i => sg i 0 * ch i 0 * ch k i) (M + 1)
    rw [e3] at e4
    rw [e, e2]
    simp only [ch_zero] at *
    omega
  | k + 1, m + 1, h => by
    have ih1 := in_out N k m (by omega)
    have ih2 := in_out N k (m + 1) (by omega)
    have hN : ∃ M, N = M + 1 := ⟨N - 1, by omega⟩
    obtain ⟨M, rfl⟩ := hN
    have z : ∀ j, sm (fun s => sg s j * ch s j * ch k s) (M + 1 + 1) = sm (fun s => sg s j * ch s j * ch k s) (M + 1) := fun j => by
      rw [sm, ch_big (n := k) (k := M + 1) (by omega), Int.mul_zero, Int.add_zero]
    have s2 := sm_shift (fun s => sg s (m + 1) * ch s (m + 1) * ch k s) (M + 1)
    rw [ih2] at s2
    rw [sm_shift]
    have e : sm (fun i => sg (i + 1) (m + 1) * ch (i + 1) (m + 1) * ch (k + 1) (i + 1)) (M + 1) = sm (fun i => sg (i + 1) (m + 1) * ch (i + 1) (m + 1) * ch k i) (M + 1) + sm (fun i => sg (i + 1) (m + 1) * ch (i + 1) (m + 1) * ch k (i + 1)) (M + 1) := by
      rw [← sm_add]
      apply sm_congr
      intro i _
      show _ * (ch k i + ch k (i + 1)) = _
      rw [Int.mul_add]
    have e2 : sm (fun i => sg (i + 1) (m + 1) * ch (i + 1) (m + 1) * ch k i) (M + 1) = sm (fun i => sg i m * ch i m * ch k i) (M + 1) + sm (fun i => -1 * (sg i (m + 1) * ch i (m + 1) * ch k i)) (M + 1) := by
      rw [← sm_add]
      apply sm_congr
      intro i _
      rw [sg_both, sg_next]
      show sg i m * (ch i m + ch i (m + 1)) * ch k i = _
      grind
    rw [sm_mul] at e2
    have y1 := z m
    have y2 := z (m + 1)
    rw [ih1] at y1
    rw [ih2] at y2
    rw [e, e2, ← y1, ← y2]
    have c0 : sg 0 (m + 1) * ch 0 (m + 1) * ch (k + 1) 0 = 0 := by
      show _ * 0 * _ = _
      simp
    have c1 : sg 0 (m + 1) * ch 0 (m + 1) * ch k 0 = 0 := by
      show _ * 0 * _ = _
      simp
    rw [c1] at s2
    rw [c0]
    have fin : (if k + 1 = m + 1 then (1 : Int) else 0) = if k = m then 1 else 0 := by
      by_cases q : k = m
      · rw [if_pos q, if_pos (by omega)]
      · rw [if_neg q, if_neg (by omega)]
    rw [fin]
    omega
end WM
namespace WM
open PySem PySem.Spec PyProof.Rows L2
def H1 : Nat := 2 ^ 1000
theorem mul_h {i j : Int} (h1 : i.natAbs ≤ H1) (h2 : j.natAbs ≤ H1) : binD .Mult (.int i) (.int j) = some (.int (i * j)) :=
  mul_i (mulOk_b (lt_big (Nat.lt_of_le_of_lt h1 (by decide +kernel))) (lt_big (Nat.lt_of_le_of_lt h2 (by decide +kernel))))
theorem div_h {i j : Int} (h : 0 < j) (h2 : j.natAbs ≤ H1) : binD .FloorDiv (.int i) (.int j) = some (.int (i / j)) := div_i h (lt_big (Nat.lt_of_le_of_lt h2 (by decide +kernel)))
theorem h1_pos : 2 ^ 64 < H1 := by decide +kernel
def bz : Nat → Int → Int → Int → Int → Int → Int → Int × Int × Int
  | 0, a, s, t, _, _, _ => (a, s, t)
  | n + 1, a, s, t, b, u, v => if b = 0 then (a, s, t) else bz n b u v (a - a / b * b) (s - a / b * u) (t - a / b * v)
structure BzI (A B : Int) (M : Nat) (a s t b u v : Int) : Prop where
  a0 : 0 ≤ a
  b0 : 0 ≤ b
  aM : a.natAbs ≤ M
  bM : b.natAbs ≤ M
  ea : a = s * A + t * B
  eb : b = u * A + v * B
  det : s * v - t * u = 1 ∨ s * v - t * u = -1
  su : (0 ≤ s ∧ u ≤ 0) ∨ (s ≤ 0 ∧ 0 ≤ u)
  tv : (0 ≤ t ∧ v ≤ 0) ∨ (t ≤ 0 ∧ 0 ≤ v)
  sM : s.natAbs ≤ M
  tM : t.natAbs ≤ M
  uM : u.natAbs ≤ M
  vM : v.natAbs ≤ M
theorem sgn_bd {x y a b B : Int} {M : Nat} (h1 : 1 ≤ a) (h2 : 0 ≤ b) (h3 : (0 ≤ x ∧ y ≤ 0) ∨ (x ≤ 0 ∧ 0 ≤ y)) (h4 : a * y - b * x = B ∨ a * y - b * x = -B) (hB : B.natAbs ≤ M) : y.natAbs ≤ M := by
  rcases h3 with ⟨h5, h6⟩ | ⟨h5, h6⟩
  · have e1 : 0 ≤ b * x := Int.mul_nonneg h2 h5
    have e2 : a * y ≤ 1 * y := Int.mul_le_mul_of_nonpos_right h1 h6
    omega
  · have e1 : b * x ≤ 0 := Int.mul_nonpos_of_nonneg_of_nonpos h2 h5
    have e2 : 1 * y ≤ a * y := Int.mul_le_mul_of_nonneg_right h1 h6
    omega
theorem BzI.step {A B : Int} {M : Nat} {a s t b u v : Int} (hA : A.natAbs ≤ M) (hB : B.natAbs ≤ M) (h : BzI A B M a s t b u v) (hb : b ≠ 0) : BzI A B M b u v (a - a / b * b) (s - a / b * u) (t - a / b * v) := by
  have hb0 := h.b0
  have hbp : 0 < b := by omega
  have e0 : a - a / b * b = a % b := by
    have := Int.emod_add_mul_ediv a b
    rw [Int.mul_comm] at this
    omega
  have q0 : 0 ≤ a / b := Int.ediv_nonneg h.a0 h.b0
  have r0 := Int.emod_nonneg a hb
  have r1 := Int.emod_lt_of_pos a hbp
  have b1 := h.bM
  have su' : (0 ≤ u ∧ s - a / b * u ≤ 0) ∨ (u ≤ 0 ∧ 0 ≤ s - a / b * u) := by
    rcases h.su with ⟨x1, x2⟩ | ⟨x1, x2⟩
    · have := Int.mul_nonpos_of_nonneg_of_nonpos q0 x2
      exact .inr ⟨x2, by omega⟩
    · have := Int.mul_nonneg q0 x2
      exact .inl ⟨x2, by omega⟩
  have tv' : (0 ≤ v ∧ t - a / b * v ≤ 0) ∨ (v ≤ 0 ∧ 0 ≤ t - a / b * v) := by
    rcases h.tv with ⟨x1, x2⟩ | ⟨x1, x2⟩
    · have := Int.mul_nonpos_of_nonneg_of_nonpos q0 x2
      exact .inr ⟨x2, by omega⟩
    · have := Int.mul_nonneg q0 x2
      exact .inl ⟨x2, by omega⟩
  have ea := h.ea
  have eb := h.eb
  generalize hq : a / b = q at *
  have d1 : b * (s - q * u) - (a - q * b) * u = B * -(s * v - t * u) * -1 ∨ True := .inr trivial
  have key1 : b * (s - q * u) - (a - q * b) * u = (s * v - t * u) * B := by
    rw [ea, eb]
    grind
  have key2 : b * (t - q * v) - (a - q * b) * v = -((s * v - t * u) * A) := by
    rw [ea, eb]
    grind
  have det' : u * (t - q * v) - v * (s - q * u) = -(s * v - t * u) := by grind
  refine ⟨h.b0, by omega, h.bM, by omega, eb, by rw [ea, eb]; grind, ?_, su', tv', h.uM, h.vM, ?_, ?_⟩
  · rw [det']
    rcases h.det with z | z <;> omega
  · refine sgn_bd (a := b) (b := a - q * b) (B := B) (x := u) (by omega) (by omega) su' ?_ hB
    rw [key1]
    rcases h.det with z | z <;> rw [z] <;> omega
  · refine sgn_bd (a := b) (b := a - q * b) (B := A) (x := v) (by omega) (by omega) tv' ?_ hA
    rw [key2]
    rcases h.det with z | z <;> rw [z] <;> omega
theorem bz_ok {A B : Int} {M : Nat} (hA : A.natAbs ≤ M) (hB : B.natAbs ≤ M) : ∀ (n : Nat) (a s t b u v : Int), b.toNat ≤ n → BzI A B M a s t b u v →
    (bz n a s t b u v).1 = Int.gcd a b ∧ (bz n a s t b u v).1 = (bz n a s t b u v).2.1 * A + (bz n a s t b u v).2.2 * B ∧ (bz n a s t b u v).2.1.natAbs ≤ M ∧ (bz n a s t b u v).2.2.natAbs ≤ M
  | 0, a, s, t, b, u, v, hn, h => by
    have hb : b = 0 := by have := h.b0; omega
    subst hb
    have := h.a0
    refine ⟨?_, h.ea, h.sM, h.tM⟩
    show a = _
    rw [Int.gcd_zero_right]
    omega
  | n + 1, a, s, t, b, u, v, hn, h => by
    unfold bz
    by_cases hb : b = 0
    · subst hb
      have := h.a0
      rw [if_pos rfl]
      refine ⟨?_, h.ea, h.sM, h.tM⟩
      show a = _
      rw [Int.gcd_zero_right]
      omega
    · rw [if_neg hb]
      have hb0 := h.b0
      have e0 : a - a / b * b = a % b := by
        have := Int.emod_add_mul_ediv a b
        rw [Int.mul_comm] at this
        omega
      have r0 := Int.emod_nonneg a hb
      have r1 := Int.emod_lt_of_pos a (show 0 < b by omega)
      obtain ⟨g1, g2, g3, g4⟩ := bz_ok hA hB n b u v (a - a / b * b) (s - a / b * u) (t - a / b * v) (by omega) (h.step hA hB hb)
      refine ⟨?_, g2, g3, g4⟩
      rw [g1, Int.gcd_comm]
      simp
/-- the multipliers -/
def bS (A B : Int) : Int := (bz B.toNat A 1 0 B 0 1).2.1
def bT (A B : Int) : Int := (bz B.toNat A 1 0 B 0 1).2.2
theorem bzI0 {A B : Int} {M : Nat} (h0 : 0 ≤ A) (h1 : 0 ≤ B) (h2 : A.natAbs ≤ M) (h3 : B.natAbs ≤ M) (hM : 1 ≤ M) : BzI A B M A 1 0 B 0 1 :=
  ⟨h0, h1, h2, h3, by omega, by omega, .inl (by omega), .inl ⟨by omega, by omega⟩, .inr ⟨by omega, by omega⟩, by omega, by omega, by omega, by omega⟩
theorem bez {A B : Int} (h0 : 0 ≤ A) (h1 : 0 ≤ B) : (Int.gcd A B : Int) = bS A B * A + bT A B * B := by
  obtain ⟨g1, g2, _, _⟩ := bz_ok (A := A) (B := B) (M := A.natAbs + B.natAbs + 1) (by omega) (by omega) B.toNat A 1 0 B 0 1 (Nat.le_refl _) (bzI0 h0 h1 (by omega) (by omega) (by omega))
  rw [← g1]
  exact g2
theorem bez_bd {A B : Int} {M : Nat} (h0 : 0 ≤ A) (h1 : 0 ≤ B) (h2 : A.natAbs ≤ M) (h3 : B.natAbs ≤ M) (hM : 1 ≤ M) : (bS A B).natAbs ≤ M ∧ (bT A B).natAbs ≤ M :=
  (bz_ok (A := A) (B := B) h2 h3 B.toNat A 1 0 B 0 1 (Nat.le_refl _) (bzI0 h0 h1 h2 h3 hM)).2.2
theorem gcd_pos {t b : Int} (hb : b ≠ 0) : 0 < (Int.gcd t b : Int) := by
  have := Int.gcd_pos_of_ne_zero_right t hb
  omega
theorem gcd_pos' {t b : Int} (hb : t ≠ 0) : 0 < (Int.gcd t b : Int) := by
  have := Int.gcd_pos_of_ne_zero_left b hb
  omega
theorem gcd_le {t b : Int} (hb : b ≠ 0) : Int.gcd t b ≤ b.natAbs := Nat.le_of_dvd (by omega) (Int.gcd_dvd_natAbs_right t b)
theorem gcd_le' {t b : Int} (hb : t ≠ 0) : Int.gcd t b ≤ t.natAbs := Nat.le_of_dvd (by omega) (Int.gcd_dvd_natAbs_left t b)
/-- a pair of ints -/
def cy (e r : Int) : D := .tuple [.int e, .int r]
def lcmI (a b : Int) : Int := a / (Int.gcd a b : Int) * b
def metR (e1 r1 e2 r2 : Int) : Int := (r1 + (r2 - r1) / (Int.gcd e1 e2 : Int) * bS e1 e2 * e1) % lcmI e1 e2
def metD (e1 r1 e2 r2 : Int) : D := if (r2 - r1) % (Int.gcd e1 e2 : Int) = 0 then cy (lcmI e1 e2) (metR e1 r1 e2 r2) else .none
theorem lcmI_pos {a b : Int} (h : 0 < a) (h2 : 0 < b) : 0 < lcmI a b := by
  have g0 := gcd_pos (t := a) (b := b) (by omega)
  have gl := gcd_le' (t := a) (b := b) (by omega)
  have := Int.le_ediv_of_mul_le g0 (show 1 * (Int.gcd a b : Int) ≤ a by omega)
  unfold lcmI
  exact Int.mul_pos (by omega) h2
/-- the rest by the common multiple is told by both rests -/
theorem lcmI_dvd {a b x : Int} (h : 0 < a) (h2 : 0 < b) : lcmI a b ∣ x ↔ a ∣ x ∧ b ∣ x := by
  have g0 := gcd_pos (t := a) (b := b) (by omega)
  obtain ⟨a', ea⟩ := Int.gcd_dvd_left a b
  obtain ⟨b', eb⟩ := Int.gcd_dvd_right a b
  have bz := bez (A := a) (B := b) (by omega) (by omega)
  unfold lcmI
  generalize hg : ((Int.gcd a b : Nat) : Int) = g at *
  have e1 : a / g = a' := by
    rw [ea]
    exact Int.mul_ediv_cancel_left _ (by omega)
  rw [e1]
  generalize bS a b = s at *
  generalize bT a b = t at *
  have one : 1 = s * a' + t * b' := by
    have : g * 1 = g * (s * a' + t * b') := by
      rw [ea, eb] at bz
      grind
    exact Int.eq_of_mul_eq_mul_left (by omega) this
  constructor
  · rintro ⟨c, hc⟩
    exact ⟨⟨b' * c, by rw [hc, ea, eb]; grind⟩, ⟨a' * c, by rw [hc]; grind⟩⟩
  · rintro ⟨⟨c, hc⟩, ⟨d, hd⟩⟩
    -- x = a c = b d; x = (s a' + t b') x
    refine ⟨s * d + t * c, ?_⟩
    have e2 : x = (s * a' + t * b') * x := by rw [← one]; grind
    have e3 : s * a' * x = s * a' * (b * d) := by rw [← hd]
    have e4 : t * b' * x = t * b' * (a * c) := by rw [← hc]
    have e5 : t * b' * (a * c) = t * c * (a' * b) := by rw [ea, eb]; grind
    grind
theorem emod_eq_iff {x e r : Int} (h : 0 < e) (r0 : 0 ≤ r) (r1 : r < e) : x % e = r ↔ e ∣ x - r := by
  constructor
  · intro h1
    exact ⟨x / e, by have := Int.emod_add_mul_ediv x e; omega⟩
  · rintro ⟨c, hc⟩
    have : x = r + e * c := by omega
    rw [this, Int.add_mul_emod_self_left, Int.emod_eq_of_lt r0 r1]
/-- what a met cycle says -/
theorem met_some {e1 r1 e2 r2 : Int} (a0 : 0 < e1) (b0 : 0 < e2) (c0 : 0 ≤ r1) (c1 : r1 < e1) (d0 : 0 ≤ r2) (d1 : r2 < e2) (h : (r2 - r1) % (Int.gcd e1 e2 : Int) = 0) (x : Int) : x % lcmI e1 e2 = metR e1 r1 e2 r2 ↔ x % e1 = r1 ∧ x % e2 = r2 := by
  have lp := lcmI_pos a0 b0
  have g0 := gcd_pos (t := e1) (b := e2) (by omega)
  have bz := bez (A := e1) (B := e2) (by omega) (by omega)
  have m0 := Int.emod_nonneg (r1 + (r2 - r1) / (Int.gcd e1 e2 : Int) * bS e1 e2 * e1) (show lcmI e1 e2 ≠ 0 by omega)
  have m1 := Int.emod_lt_of_pos (r1 + (r2 - r1) / (Int.gcd e1 e2 : Int) * bS e1 e2 * e1) lp
  have em := Int.emod_add_mul_ediv (r1 + (r2 - r1) / (Int.gcd e1 e2 : Int) * bS e1 e2 * e1) (lcmI e1 e2)
  obtain ⟨w, hw⟩ := Int.dvd_of_emod_eq_zero h
  have dl := (lcmI_dvd (x := lcmI e1 e2) a0 b0).mp ⟨1, by omega⟩
  have eq0 : (r2 - r1) / (Int.gcd e1 e2 : Int) = w := by
    rw [hw]
    exact Int.mul_ediv_cancel_left _ (by omega)
  unfold metR
  rw [emod_eq_iff lp m0 m1, lcmI_dvd a0 b0, emod_eq_iff a0 c0 c1, emod_eq_iff b0 d0 d1]
  rw [eq0] at em ⊢
  generalize (r1 + w * bS e1 e2 * e1) % lcmI e1 e2 = m at *
  generalize hq : (r1 + w * bS e1 e2 * e1) / lcmI e1 e2 = q at *
  obtain ⟨⟨l1, hl1⟩, ⟨l2, hl2⟩⟩ := dl
  have k1 : e1 ∣ m - r1 := ⟨w * bS e1 e2 - l1 * q, by rw [hl1] at em; grind⟩
  have k2 : e2 ∣ m - r2 := ⟨-(w * bT e1 e2) - l2 * q, by rw [hl2] at em; rw [bz] at hw; grind⟩
  constructor
  · rintro ⟨h1, h2⟩
    exact ⟨by have := Int.dvd_add h1 k1; rw [show x - r1 = x - m + (m - r1) by omega]; exact this, by have := Int.dvd_add h2 k2; rw [show x - r2 = x - m + (m - r2) by omega]; exact this⟩
  · rintro ⟨h1, h2⟩
    exact ⟨by have := Int.dvd_sub h1 k1; rw [show x - m = x - r1 - (m - r1) by omega]; exact this, by have := Int.dvd_sub h2 k2; rw [show x - m = x - r2 - (m - r2) by omega]; exact this⟩
theorem met_none {e1 r1 e2 r2 : Int} (h : ¬ (r2 - r1) % (Int.gcd e1 e2 : Int) = 0) (x : Int) : ¬ (x % e1 = r1 ∧ x % e2 = r2) := by
  rintro ⟨h1, h2⟩
  apply h
  apply Int.emod_eq_zero_of_dvd
  have d1 : e1 ∣ x - r1 := ⟨x / e1, by have := Int.emod_add_mul_ediv x e1; omega⟩
  have d2 : e2 ∣ x - r2 := ⟨x / e2, by have := Int.emod_add_mul_ediv x e2; omega⟩
  have g1 := Int.dvd_trans (Int.gcd_dvd_left e1 e2) d1
  have g2 := Int.dvd_trans (Int.gcd_dvd_right e1 e2) d2
  have := Int.dvd_sub g1 g2
  rw [show x - r1 - (x - r2) = r2 - r1 by omega] at this
  exact this
end WM
namespace WM
open PySem PySem.Spec PyProof.Rows L2
abbrev Cyc := Int × Int
def cyD (c : Cyc) : D := cy c.1 c.2
def opD : Option Cyc → D
  | none => .none
  | some c => cyD c
def hit (c : Cyc) (x : Int) : Bool := decide (x % c.1 = c.2)
def hitO : Option Cyc → Int → Bool
  | none, _ => false
  | some c, x => hit c x
/-- a cycle of days -/
structure CyOk (c : Cyc) : Prop where
  e0 : 0 < c.1
  r0 : 0 ≤ c.2
  r1 : c.2 < c.1
def OpOk (o : Option Cyc) : Prop := ∀ c, o = some c → CyOk c
def metO (o : Option Cyc) (c : Cyc) : Option Cyc := match o with
  | none => none
  | some p => if (c.2 - p.2) % (Int.gcd p.1 c.1 : Int) = 0 then some (lcmI p.1 c.1, metR p.1 p.2 c.1 c.2) else none
theorem metO_D (p c : Cyc) : metD p.1 p.2 c.1 c.2 = opD (metO (some p) c) := by
  unfold metD metO
  simp only
  split <;> rfl
theorem metR_bd {e1 r1 e2 r2 : Int} (a0 : 0 < e1) (b0 : 0 < e2) : 0 ≤ metR e1 r1 e2 r2 ∧ metR e1 r1 e2 r2 < lcmI e1 e2 := by
  have lp := lcmI_pos a0 b0
  unfold metR
  exact ⟨Int.emod_nonneg _ (by omega), Int.emod_lt_of_pos _ lp⟩
theorem metO_ok {o : Option Cyc} {c : Cyc} (h : OpOk o) (hc : CyOk c) : OpOk (metO o c) := by
  intro q e
  cases o with
  | none => cases e
  | some p =>
    have hp := h p rfl
    unfold metO at e
    simp only at e
    split at e
    · cases e
      have := metR_bd (r1 := p.2) (r2 := c.2) hp.e0 hc.e0
      exact ⟨lcmI_pos hp.e0 hc.e0, this.1, this.2⟩
    · cases e
theorem metO_hit {o : Option Cyc} {c : Cyc} (h : OpOk o) (hc : CyOk c) (x : Int) : hitO (metO o c) x = (hitO o x && hit c x) := by
  cases o with
  | none => rfl
  | some p =>
    have hp := h p rfl
    unfold metO
    simp only
    split
    · rename_i z
      have := met_some hp.e0 hc.e0 hp.r0 hp.r1 hc.r0 hc.r1 z x
      show decide _ = (decide _ && decide _)
      rw [Bool.eq_iff_iff]
      simp only [decide_eq_true_eq, Bool.and_eq_true]
      exact this
    · rename_i z
      have := met_none (e1 := p.1) (e2 := c.1) z x
      show false = (decide _ && decide _)
      rw [Bool.eq_iff_iff]
      simp only [decide_eq_true_eq, Bool.and_eq_true]
      constructor
      · intro w; cases w
      · intro w; exact absurd w this
abbrev QE := Nat × Option Cyc
def qStep (q : List QE) (c : Cyc) : List QE := q ++ q.map fun e => (e.1 + 1, metO e.2 c)
def Qs (cs : List Cyc) : List QE := cs.foldl qStep [(0, some (1, 0))]
def hits (cs : List Cyc) (x : Int) : Nat := (cs.filter fun c => hit c x).length
theorem hits_le (cs : List Cyc) (x : Int) : hits cs x ≤ cs.length := List.length_filter_le _ _
theorem hits_snoc (cs : List Cyc) (c : Cyc) (x : Int) : hits (cs ++ [c]) x = hits cs x + (if hit c x then 1 else 0) := by
  unfold hits
  rw [List.filter_append, List.length_append]
  congr 1
  rw [List.filter_cons]
  split <;> rfl
theorem Qs_snoc (cs : List Cyc) (c : Cyc) : Qs (cs ++ [c]) = qStep (Qs cs) c := by
  unfold Qs
  rw [List.foldl_append]
  rfl
theorem snoc_ind {α : Type} {P : List α → Prop} (h0 : P []) (h1 : ∀ l a, P l → P (l ++ [a])) : ∀ l, P l := by
  intro l
  have : ∀ n, ∀ l : List α, l.length = n → P l := by
    intro n
    induction n with
    | zero =>
      intro l hl
      rw [List.length_eq_zero_iff.mp hl]
      exact h0
    | succ n ih =>
      intro l hl
      have hne : l ≠ [] := fun z => by rw [z] at hl; cases hl
      rw [← List.dropLast_concat_getLast hne]
      exact h1 _ _ (ih _ (by rw [List.length_dropLast, hl]; rfl))
  exact this _ l rfl
theorem Qs_len (cs : List Cyc) : (Qs cs).length = 2 ^ cs.length := by
  refine snoc_ind (P := fun cs => (Qs cs).length = 2 ^ cs.length) rfl (fun cs c ih => ?_) cs
  rw [Qs_snoc]
  unfold qStep
  rw [List.length_append, List.length_map, ih, List.length_append, List.length_singleton, Nat.pow_succ]
  omega
theorem Qs_ok {cs : List Cyc} (h : ∀ c ∈ cs, CyOk c) : ∀ e ∈ Qs cs, OpOk e.2 := by
  refine snoc_ind (P := fun cs => (∀ c ∈ cs, CyOk c) → ∀ e ∈ Qs cs, OpOk e.2) (fun _ e he => ?_) (fun cs c ih hc => ?_) cs h
  · have : e = (0, some (1, 0)) := by simpa [Qs] using he
    subst this
    intro q z
    cases z
    exact ⟨by decide, by decide, by decide⟩
  · rw [Qs_snoc]
    unfold qStep
    intro e he
    have ih := ih fun c hc' => hc c (by simp [hc'])
    rcases List.mem_append.mp he with he | he
    · exact ih e he
    · obtain ⟨e', h1, rfl⟩ := List.mem_map.mp he
      exact metO_ok (ih e' h1) (hc c (by simp))
/-- the product of all everies -/
def prodE (cs : List Cyc) : Int := cs.foldl (fun a c => a * c.1) 1
theorem prodE_snoc (cs : List Cyc) (c : Cyc) : prodE (cs ++ [c]) = prodE cs * c.1 := by
  unfold prodE
  rw [List.foldl_append]
  rfl
theorem lcmI_dvd_mul {a b : Int} (h : 0 < a) (h2 : 0 < b) : lcmI a b ∣ a * b := (lcmI_dvd h h2).mpr ⟨⟨b, rfl⟩, ⟨a, by grind⟩⟩
theorem prodE_pos {cs : List Cyc} (h : ∀ c ∈ cs, CyOk c) : 0 < prodE cs := by
  refine snoc_ind (P := fun cs => (∀ c ∈ cs, CyOk c) → 0 < prodE cs) (fun _ => by decide) (fun cs c ih hc => ?_) cs h
  rw [prodE_snoc]
  exact Int.mul_pos (ih fun c hc' => hc c (by simp [hc'])) (hc c (by simp)).e0
theorem Qs_dvd {cs : List Cyc} (h : ∀ c ∈ cs, CyOk c) : ∀ e ∈ Qs cs, ∀ c, e.2 = some c → c.1 ∣ prodE cs := by
  refine snoc_ind (P := fun cs => (∀ c ∈ cs, CyOk c) → ∀ e ∈ Qs cs, ∀ c, e.2 = some c → c.1 ∣ prodE cs) (fun _ e he => ?_) (fun cs c ih hc => ?_) cs h
  · have : e = (0, some (1, 0)) := by simpa [Qs] using he
    subst this
    intro c z
    cases z
    exact ⟨1, rfl⟩
  · rw [Qs_snoc, prodE_snoc]
    unfold qStep
    intro e he q hq
    have hcs : ∀ c ∈ cs, CyOk c := fun c hc' => hc c (by simp [hc'])
    have ih := ih hcs
    rcases List.mem_append.mp he with he | he
    · exact Int.dvd_trans (ih e he q hq) ⟨c.1, rfl⟩
    · obtain ⟨e', h1, rfl⟩ := List.mem_map.mp he
      cases e2 : e'.2 with
      | none => rw [e2] at hq; cases hq
      | some p =>
        rw [e2] at hq
        have hp := Qs_ok hcs e' h1 p e2
        unfold metO at hq
        simp only at hq
        split at hq
        · cases hq
          refine Int.dvd_trans (lcmI_dvd_mul hp.e0 (hc c (by simp)).e0) ?_
          exact Int.mul_dvd_mul (ih e' h1 p e2) ⟨1, by omega⟩
        · cases hq
/-- a sum over a list -/
def ls {α : Type} (f : α → Int) (l : List α) : Int := (l.map f).sum
theorem ls_nil {α : Type} (f : α → Int) : ls f [] = 0 := rfl
theorem ls_cons {α : Type} (f : α → Int) (a : α) (l : List α) : ls f (a :: l) = f a + ls f l := by simp [ls]
theorem ls_append {α : Type} (f : α → Int) (l m : List α) : ls f (l ++ m) = ls f l + ls f m := by simp [ls, List.sum_append]
theorem ls_map {α β : Type} (f : β → Int) (g : α → β) (l : List α) : ls f (l.map g) = ls (fun a => f (g a)) l := by simp [ls, List.map_map, Function.comp_def]
theorem ls_congr {α : Type} {f g : α → Int} : ∀ {l : List α}, (∀ a ∈ l, f a = g a) → ls f l = ls g l
  | [], _ => rfl
  | a :: l, h => by rw [ls_cons, ls_cons, h a (List.mem_cons_self ..), ls_congr fun b hb => h b (List.mem_cons_of_mem _ hb)]
theorem ls_mul {α : Type} (c : Int) (f : α → Int) : ∀ l : List α, ls (fun a => c * f a) l = c * ls f l
  | [] => by simp [ls]
  | a :: l => by rw [ls_cons, ls_cons, ls_mul c f l, Int.mul_add]
theorem ls_add {α : Type} (f g : α → Int) : ∀ l : List α, ls (fun a => f a + g a) l = ls f l + ls g l
  | [] => by simp [ls]
  | a :: l => by rw [ls_cons, ls_cons, ls_cons, ls_add f g l]; omega
theorem ls_sm {α : Type} (f : α → Nat → Int) (n : Nat) : ∀ l : List α, ls (fun a => sm (f a) n) l = sm (fun i => ls (fun a => f a i) l) n
  | [] => by
    show (0 : Int) = sm (fun _ => 0) n
    rw [sm_zero]
  | a :: l => by
    rw [ls_cons, ls_sm f n l, ← sm_add]
    apply sm_congr
    intro i _
    rw [ls_cons]
theorem ls_foldl {α : Type} (f : α → Int) : ∀ (l : List α) (a : Int), l.foldl (fun s x => s + f x) a = a + ls f l
  | [], a => by simp [ls]
  | x :: l, a => by rw [List.foldl_cons, ls_foldl f l, ls_cons]; omega
theorem ls_iv (f : Int → Int) (lo : Int) : ∀ n, ls f (iv lo n) = sm (fun i => f (lo + (i : Int))) n
  | 0 => rfl
  | n + 1 => by rw [iv_succ, ls_append, ls_iv f lo n, ls_cons, ls_nil, Int.add_zero]; rfl
/-- how many sets of so many cycles strike all on a day -/
theorem Qs_count {cs : List Cyc} (h : ∀ c ∈ cs, CyOk c) (x : Int) : ∀ s : Nat, ls (fun e : QE => if e.1 = s then b1 (hitO e.2 x) else 0) (Qs cs) = ch (hits cs x) s := by
  refine snoc_ind (P := fun cs => (∀ c ∈ cs, CyOk c) → ∀ s : Nat, ls (fun e : QE => if e.1 = s then b1 (hitO e.2 x) else 0) (Qs cs) = ch (hits cs x) s) (fun _ s => ?_) (fun cs c ih hc s => ?_) cs h
  · show ls _ [(0, some (1, 0))] = ch 0 s
    rw [ls_cons, ls_nil]
    have : hitO (some (1, 0)) x = true := by
      show decide _ = true
      exact decide_eq_true (Int.emod_one x)
    simp only [this]
    cases s with
    | zero => rfl
    | succ s => rfl
  · have hcs : ∀ c ∈ cs, CyOk c := fun c hc' => hc c (by simp [hc'])
    have ih := ih hcs
    rw [Qs_snoc, hits_snoc]
    unfold qStep
    rw [ls_append, ih s, ls_map]
    have e1 : ls (fun a : QE => if a.1 + 1 = s then b1 (hitO (metO a.2 c) x) else 0) (Qs cs) = ls (fun a : QE => b1 (hit c x) * (if a.1 + 1 = s then b1 (hitO a.2 x) else 0)) (Qs cs) := by
      apply ls_congr
      intro e he
      rw [metO_hit (Qs_ok hcs e he) (hc c (by simp)) x]
      split
      · cases hitO e.2 x <;> cases hit c x <;> rfl
      · rw [Int.mul_zero]
    show _ + ls (fun a : QE => if a.1 + 1 = s then b1 (hitO (metO a.2 c) x) else 0) (Qs cs) = _
    rw [e1, ls_mul]
    cases hb : hit c x with
    | false =>
      rw [if_neg (by decide)]
      show _ + 0 * _ = _
      rw [Int.zero_mul, Int.add_zero, Nat.add_zero]
    | true =>
      rw [if_pos rfl]
      show _ + 1 * _ = _
      rw [Int.one_mul]
      cases s with
      | zero =>
        have : ls (fun a : QE => if a.1 + 1 = 0 then b1 (hitO a.2 x) else 0) (Qs cs) = 0 := by
          rw [ls_congr (g := fun _ => 0 * 0) fun a _ => by rw [if_neg (by omega)]; rfl, ls_mul, Int.zero_mul]
        rw [this, ch_zero, ch_zero] <;> rfl
      | succ s =>
        have : ls (fun a : QE => if a.1 + 1 = s + 1 then b1 (hitO a.2 x) else 0) (Qs cs) = ls (fun a : QE => if a.1 = s then b1 (hitO a.2 x) else 0) (Qs cs) := by
          apply ls_congr
          intro a _
          by_cases q : a.1 = s
          · rw [if_pos q, if_pos (by omega)]
          · rw [if_neg q, if_neg (by omega)]
        rw [this, ih s]
        show _ = ch (hits cs x) s + ch (hits cs x) (s + 1)
        omega
/-- on how many of n days from low on -/
def cntO (o : Option Cyc) (low : Int) (n : Nat) : Int := sm (fun i => b1 (hitO o (low + (i : Int)))) n
def cntW (cs : List Cyc) (m : Nat) (low : Int) (n : Nat) : Int := sm (fun i => if hits cs (low + (i : Int)) = m then 1 else 0) n
theorem sums_eq {cs : List Cyc} (h : ∀ c ∈ cs, CyOk c) (low : Int) (n s : Nat) : ls (fun e : QE => if e.1 = s then cntO e.2 low n else 0) (Qs cs) = sm (fun i => ch (hits cs (low + (i : Int))) s) n := by
  have e1 : ls (fun e : QE => if e.1 = s then cntO e.2 low n else 0) (Qs cs) = ls (fun e : QE => sm (fun i => if e.1 = s then b1 (hitO e.2 (low + (i : Int))) else 0) n) (Qs cs) := by
    apply ls_congr
    intro e _
    by_cases q : e.1 = s
    · rw [if_pos q]
      exact sm_congr fun i _ => by rw [if_pos q]
    · rw [if_neg q, sm_congr (g := fun _ => 0) fun i _ => by rw [if_neg q], sm_zero]
  rw [e1, ls_sm]
  exact sm_congr fun i _ => Qs_count h _ s
theorem just_eq {cs : List Cyc} (h : ∀ c ∈ cs, CyOk c) (low : Int) (n m : Nat) : sm (fun s => sg s m * ch s m * ls (fun e : QE => if e.1 = s then cntO e.2 low n else 0) (Qs cs)) (cs.length + 1) = cntW cs m low n := by
  have e1 : sm (fun s => sg s m * ch s m * ls (fun e : QE => if e.1 = s then cntO e.2 low n else 0) (Qs cs)) (cs.length + 1) = sm (fun s => sm (fun i => sg s m * ch s m * ch (hits cs (low + (i : Int))) s) n) (cs.length + 1) := by
    apply sm_congr
    intro s _
    rw [sums_eq h, sm_mul]
  rw [e1, sm_swap]
  exact sm_congr fun i _ => in_out cs.length _ m (hits_le _ _)
theorem ediv_of {e q s x : Int} (h : 0 < e) (hx : x = e * q + s) (h0 : 0 ≤ s) (h1 : s < e) : x / e = q := by
  rw [hx, Int.add_comm, Int.add_mul_ediv_left _ _ (by omega), Int.ediv_eq_zero_of_lt h0 h1, Int.zero_add]
theorem emod_of {e q s x : Int} (hx : x = e * q + s) (h0 : 0 ≤ s) (h1 : s < e) : x % e = s := by
  rw [hx, Int.add_comm, Int.add_mul_emod_self_left, Int.emod_eq_of_lt h0 h1]
/-- a cycle's days by two quotients -/
theorem cnt_div {e r : Int} (h : 0 < e) (r0 : 0 ≤ r) (r1 : r < e) (low : Int) : ∀ n : Nat, (low + (n : Int) - 1 - r) / e - (low - 1 - r) / e = cntO (some (e, r)) low n
  | 0 => by
    show _ = (0 : Int)
    simp
  | n + 1 => by
    have ih := cnt_div h r0 r1 low n
    show _ = cntO (some (e, r)) low n + b1 (decide ((low + (n : Int)) % e = r))
    rw [← ih]
    have key : (low + (n : Int) - r) / e = (low + (n : Int) - 1 - r) / e + b1 (decide ((low + (n : Int)) % e = r)) := by
      generalize low + (n : Int) = y
      have a1 := Int.emod_add_mul_ediv (y - 1 - r) e
      have a2 := Int.emod_nonneg (y - 1 - r) (show e ≠ 0 by omega)
      have a3 := Int.emod_lt_of_pos (y - 1 - r) h
      by_cases c : y % e = r
      · rw [decide_eq_true c, b1_t]
        obtain ⟨w, hw⟩ := (emod_eq_iff h r0 r1).mp c
        rw [ediv_of (q := w) (s := 0) h (by omega) (by omega) h, ediv_of (q := w - 1) (s := e - 1) h (by rw [Int.mul_sub]; omega) (by omega) (by omega)]
        omega
      · rw [decide_eq_false c, b1_f, Int.add_zero]
        have hne : (y - 1 - r) % e ≠ e - 1 := fun z => c ((emod_eq_iff h r0 r1).mpr ⟨(y - 1 - r) / e + 1, by rw [Int.mul_add]; omega⟩)
        exact ediv_of (q := (y - 1 - r) / e) (s := (y - 1 - r) % e + 1) h (by omega) (by omega) (by omega)
    have : low + ((n + 1 : Nat) : Int) - 1 - r = low + (n : Int) - r := by omega
    rw [this, key]
    omega
end WM
namespace WM
open PySem PySem.Spec PyProof.Rows L2
theorem shp_iff (d : D) : shp d = true ↔ d.canLay0 = true ∧ d.depth ≤ 64 := by
  unfold shp SeqAt.shaped
  rw [Bool.and_eq_true, decide_eq_true_eq]
/-- laid, and so deep -/
def Shp (n : Nat) (d : D) : Prop := d.canLay0 = true ∧ d.depth ≤ n
theorem Shp.shp {n : Nat} {d : D} (h : Shp n d) (hn : n ≤ 64 := by decide) : shp d = true := (shp_iff d).mpr ⟨h.1, Nat.le_trans h.2 hn⟩
theorem Shp.mono {n m : Nat} {d : D} (h : Shp n d) (hn : n ≤ m) : Shp m d := ⟨h.1, Nat.le_trans h.2 hn⟩
theorem Shp.int (i : Int) : Shp 0 (.int i) := ⟨by simp [PyData.canLay0], by simp [PyData.depth]⟩
theorem Shp.bool (i : Bool) : Shp 0 (.bool i) := ⟨by simp [PyData.canLay0], by simp [PyData.depth]⟩
theorem Shp.none : Shp 0 .none := ⟨by simp [PyData.canLay0], by simp [PyData.depth]⟩
theorem Shp.all {n : Nat} : ∀ {xs : List D}, (∀ x ∈ xs, Shp n x) → PyData.canLayAll0 xs = true ∧ PyData.depthAll xs ≤ n
  | [], _ => ⟨by simp [PyData.canLayAll0], by simp [PyData.depthAll]⟩
  | x :: xs, h => by
    have h1 := h x (List.mem_cons_self ..)
    have h2 := Shp.all (xs := xs) fun y hy => h y (List.mem_cons_of_mem _ hy)
    refine ⟨by simp [PyData.canLayAll0, h1.1, h2.1], ?_⟩
    have a := h1.2
    have b := h2.2
    simp only [PyData.depthAll]
    omega
theorem Shp.tuple {n : Nat} {xs : List D} (h : ∀ x ∈ xs, Shp n x) : Shp (n + 1) (.tuple xs) := by
  have := Shp.all h
  refine ⟨by simp [PyData.canLay0, this.1], ?_⟩
  have := this.2
  simp only [PyData.depth]
  omega
theorem Shp.list {n : Nat} {xs : List D} (h : ∀ x ∈ xs, Shp n x) : Shp (n + 1) (.list xs) := by
  have := Shp.all h
  refine ⟨by simp [PyData.canLay0, this.1], ?_⟩
  have := this.2
  simp only [PyData.depth]
  omega
theorem Shp.cy (e r : Int) : Shp 1 (cy e r) := Shp.tuple fun x hx => by
  simp only [List.mem_cons, List.not_mem_nil, or_false] at hx
  rcases hx with rfl | rfl <;> exact Shp.int _
theorem Shp.ints (ns : List Int) : Shp 1 (.list (ns.map PyData.int)) := Shp.list fun x hx => by
  obtain ⟨i, _, rfl⟩ := List.mem_map.mp hx
  exact Shp.int i
theorem Shp.intsT (ns : List Int) : Shp 1 (.tuple (ns.map PyData.int)) := Shp.tuple fun x hx => by
  obtain ⟨i, _, rfl⟩ := List.mem_map.mp hx
  exact Shp.int i
theorem eqvAll_int : ∀ (a b : List Int), PyData.eqvAll (a.map PyData.int) (b.map PyData.int) = decide (a = b)
  | [], [] => by simp [PyData.eqvAll]
  | [], _ :: _ => by simp [PyData.eqvAll]
  | _ :: _, [] => by simp [PyData.eqvAll]
  | x :: a, y :: b => by
    simp only [List.map_cons, PyData.eqvAll, eqv_int, eqvAll_int a b]
    rw [Bool.eq_iff_iff]
    simp
/-- lists of ints -/
theorem eq_ints (a b : List Int) : cmpD .Eq (.list (a.map PyData.int)) (.list (b.map PyData.int)) = some (decide (a = b)) := by
  rw [eq_d (Shp.ints a).shp (Shp.ints b).shp]
  show some (PyData.eqvAll _ _) = _
  rw [eqvAll_int]
theorem ne_ints (a b : List Int) : cmpD .NotEq (.list (a.map PyData.int)) (.list (b.map PyData.int)) = some (!decide (a = b)) := by
  rw [ne_d (Shp.ints a).shp (Shp.ints b).shp]
  show some (!PyData.eqvAll _ _) = _
  rw [eqvAll_int]
theorem eq_intsT (a b : List Int) : cmpD .Eq (.tuple (a.map PyData.int)) (.tuple (b.map PyData.int)) = some (decide (a = b)) := by
  rw [eq_d (Shp.intsT a).shp (Shp.intsT b).shp]
  show some (PyData.eqvAll _ _) = _
  rw [eqvAll_int]
theorem ne_intsT (a b : List Int) : cmpD .NotEq (.tuple (a.map PyData.int)) (.tuple (b.map PyData.int)) = some (!decide (a = b)) := by
  rw [ne_d (Shp.intsT a).shp (Shp.intsT b).shp]
  show some (!PyData.eqvAll _ _) = _
  rw [eqvAll_int]
/-- x != () -/
theorem ne_nilT {n : Nat} {xs : List D} (h : ∀ x ∈ xs, Shp n x) (hn : n ≤ 63 := by decide) : cmpD .NotEq (.tuple xs) (.tuple []) = some (!xs.isEmpty) := by
  rw [ne_d ((Shp.tuple h).mono (m := 64) (by omega)).shp (show shp (.tuple []) = true from (Shp.intsT []).shp)]
  show some (!PyData.eqvAll xs []) = _
  cases xs <;> simp [PyData.eqvAll]
theorem ne_nilL {n : Nat} {xs : List D} (h : ∀ x ∈ xs, Shp n x) (hn : n ≤ 63 := by decide) : cmpD .NotEq (.list xs) (.list []) = some (!xs.isEmpty) := by
  rw [ne_d ((Shp.list h).mono (m := 64) (by omega)).shp (show shp (.list []) = true from (Shp.ints []).shp)]
  show some (!PyData.eqvAll xs []) = _
  cases xs <;> simp [PyData.eqvAll]
theorem eq_nilL {n : Nat} {xs : List D} (h : ∀ x ∈ xs, Shp n x) (hn : n ≤ 63 := by decide) : cmpD .Eq (.list xs) (.list []) = some (xs.isEmpty) := by
  rw [eq_d ((Shp.list h).mono (m := 64) (by omega)).shp (show shp (.list []) = true from (Shp.ints []).shp)]
  show some (PyData.eqvAll xs []) = _
  cases xs <;> simp [PyData.eqvAll]
theorem in_ints (i : Int) (ns : List Int) : cmpD .In (.int i) (.list (ns.map PyData.int)) = some (decide (i ∈ ns)) := by
  show (if shp (.int i) && shp (.list (ns.map PyData.int)) then some ((ns.map PyData.int).any fun z => PyData.eqv z (.int i)) else Option.none) = _
  rw [shp_int, (Shp.ints ns).shp]
  show some _ = _
  rw [List.any_map]
  congr 1
  rw [Bool.eq_iff_iff]
  simp [Function.comp_def]
theorem notin_ints (i : Int) (ns : List Int) : cmpD .NotIn (.int i) (.list (ns.map PyData.int)) = some (!decide (i ∈ ns)) := by
  show (if shp (.int i) && shp (.list (ns.map PyData.int)) then some (!(ns.map PyData.int).any fun z => PyData.eqv z (.int i)) else Option.none) = _
  rw [shp_int, (Shp.ints ns).shp]
  show some _ = _
  rw [List.any_map]
  congr 2
  rw [Bool.eq_iff_iff]
  simp [Function.comp_def]
def minI (ns : List Int) : Int := (minL ns).getD 0
def maxI (ns : List Int) : Int := (maxL ns).getD 0
theorem minI_mem {ns : List Int} (h : ns ≠ []) : minI ns ∈ ns := by
  cases ns with
  | nil => exact absurd rfl h
  | cons x r => exact (foldl_min r x).1
theorem minI_le {ns : List Int} {y : Int} (h : y ∈ ns) : minI ns ≤ y := by
  cases ns with
  | nil => cases h
  | cons x r => exact (foldl_min r x).2 y h
theorem maxI_mem {ns : List Int} (h : ns ≠ []) : maxI ns ∈ ns := by
  cases ns with
  | nil => exact absurd rfl h
  | cons x r => exact (foldl_max r x).1
theorem le_maxI {ns : List Int} {y : Int} (h : y ∈ ns) : y ≤ maxI ns := by
  cases ns with
  | nil => cases h
  | cons x r => exact (foldl_max r x).2 y h
theorem mn_ints {ns : List Int} (h : ns ≠ []) : bltD .mn [.list (ns.map PyData.int)] = some (.int (minI ns)) := by
  show (match asInts (ns.map PyData.int) with
    | some ns => (minL ns).map PyData.int
    | none => (match ns.map PyData.int with
      | x :: r => if mdB (x :: r) then some (PySem.W.minD x r) else none
      | [] => none)) = _
  rw [asInts_map]
  cases ns with
  | nil => exact absurd rfl h
  | cons x r => rfl
theorem mx_ints {ns : List Int} (h : ns ≠ []) : bltD .mx [.list (ns.map PyData.int)] = some (.int (maxI ns)) := by
  show (asInts (ns.map PyData.int)).bind (fun ns => (maxL ns).map PyData.int) = _
  rw [asInts_map]
  cases ns with
  | nil => exact absurd rfl h
  | cons x r => rfl
theorem sum_ints (ns : List Int) : bltD .sum [.list (ns.map PyData.int)] = some (.int ns.sum) := by
  show (asInts (ns.map PyData.int)).map (fun ns => PyData.int ns.sum) = _
  rw [asInts_map]
  rfl
theorem sorted_ints (ns : List Int) : bltD .sorted [.list (ns.map PyData.int)] = some (.list ((sortI ns).map PyData.int)) := by
  show (match asInts (ns.map PyData.int) with
    | some ns => some (PyData.list ((sortI ns).map .int))
    | none => if sdB (ns.map PyData.int) then some (.list (srtD (ns.map PyData.int))) else none) = _
  rw [asInts_map]
/-- what is sorted already -/
theorem sortI_of {l m : List Int} (h : m.Pairwise (· ≤ ·)) (p : l.Perm m) : sortI l = m := sorted_uniq (sortI_sorted l) h ((sortI_perm l).trans p)
/-- two ascending lists with the same members -/
theorem asc_ext : ∀ {l m : List Int}, l.Pairwise (· < ·) → m.Pairwise (· < ·) → (∀ x, x ∈ l ↔ x ∈ m) → l = m
  | [], [], _, _, _ => rfl
  | [], y :: m, _, _, h => by have := (h y).mpr (List.mem_cons_self ..); cases this
  | x :: l, [], _, _, h => by have := (h x).mp (List.mem_cons_self ..); cases this
  | x :: l, y :: m, h1, h2, h => by
    obtain ⟨a1, a2⟩ := List.pairwise_cons.mp h1
    obtain ⟨b1, b2⟩ := List.pairwise_cons.mp h2
    have e : x = y := by
      have p := (h x).mp (List.mem_cons_self ..)
      have q := (h y).mpr (List.mem_cons_self ..)
      rcases List.mem_cons.mp p with p | p
      · exact p
      · rcases List.mem_cons.mp q with q | q
        · exact q.symm
        · have := a1 y q
          have := b1 x p
          omega
    subst e
    congr 1
    refine asc_ext a2 b2 fun z => ?_
    have := h z
    simp only [List.mem_cons] at this
    constructor
    · intro hz
      rcases this.mp (.inr hz) with rfl | q
      · have := a1 z hz; omega
      · exact q
    · intro hz
      rcases this.mpr (.inr hz) with rfl | q
      · have := b1 z hz; omega
      · exact q
def pc (i : Nat) : Nat := ((List.range 12).filter fun a => i.testBit a).length
theorem pc_zero : pc 0 = 0 := by decide +kernel
theorem pc_add {k i : Nat} (hk : k < 12) (hi : i < 2 ^ k) : pc (2 ^ k + i) = pc i + 1 := by
  unfold pc
  have key : ∀ (l : List Nat), l.Nodup → (l.filter fun a => (2 ^ k + i).testBit a).length = (l.filter fun a => i.testBit a).length + (if k ∈ l then 1 else 0) := by
    intro l
    induction l with
    | nil => intro _; rfl
    | cons a l ih =>
      intro hn
      obtain ⟨h1, h2⟩ := List.nodup_cons.mp hn
      have ih := ih h2
      rw [List.filter_cons, List.filter_cons]
      by_cases q : a = k
      · subst q
        rw [if_neg h1] at ih
        have e1 : (2 ^ a + i).testBit a = !i.testBit a := Nat.testBit_two_pow_add_eq i a
        have e2 : i.testBit a = false := Nat.testBit_lt_two_pow hi
        rw [e1, e2]
        simp [ih]
      · have e1 : (2 ^ k + i).testBit a = i.testBit a := by
          rcases Nat.lt_or_ge a k with q | q
          · exact Nat.testBit_two_pow_add_gt q i
          · have e3 : i.testBit a = false := Nat.testBit_lt_two_pow (Nat.lt_of_lt_of_le hi (Nat.pow_le_pow_right (by omega) q))
            rw [e3]
            refine Nat.testBit_lt_two_pow (Nat.lt_of_lt_of_le (m := 2 ^ (k + 1)) ?_ (Nat.pow_le_pow_right (by omega) (by omega)))
            rw [Nat.pow_succ]
            omega
        rw [e1]
        have hm : (k ∈ a :: l) ↔ k ∈ l := by simp [Ne.symm q]
        split
        · rw [List.length_cons, List.length_cons, ih]
          by_cases w : k ∈ l
          · rw [if_pos w, if_pos (hm.mpr w)]
          · rw [if_neg w, if_neg (fun z => w (hm.mp z))]
        · rw [ih]
          by_cases w : k ∈ l
          · rw [if_pos w, if_pos (hm.mpr w)]
          · rw [if_neg w, if_neg (fun z => w (hm.mp z))]
  rw [key _ List.nodup_range, if_pos (List.mem_range.mpr hk)]
theorem Qs_pc {cs : List Cyc} (h : cs.length ≤ 12) : ∀ (i : Nat) (e : QE), (Qs cs)[i]? = some e → e.1 = pc i := by
  refine snoc_ind (P := fun cs => cs.length ≤ 12 → ∀ (i : Nat) (e : QE), (Qs cs)[i]? = some e → e.1 = pc i) (fun _ i e he => ?_) (fun cs c ih hl i e he => ?_) cs h
  · have : i = 0 := by
      have := (List.getElem?_eq_some_iff.mp he).1
      have : (Qs []).length = 1 := rfl
      omega
    subst this
    cases he
    exact pc_zero.symm
  · rw [List.length_append, List.length_singleton] at hl
    have ih := ih (by omega)
    rw [Qs_snoc] at he
    unfold qStep at he
    rcases Nat.lt_or_ge i (Qs cs).length with q | q
    · rw [List.getElem?_append_left q] at he
      exact ih i e he
    · rw [List.getElem?_append_right q, List.getElem?_map] at he
      cases e2 : (Qs cs)[i - (Qs cs).length]? with
      | none => rw [e2] at he; cases he
      | some e' =>
        rw [e2] at he
        cases he
        have := ih _ _ e2
        show e'.1 + 1 = _
        have hj := (List.getElem?_eq_some_iff.mp e2).1
        rw [Qs_len] at hj q this
        have e3 : i = 2 ^ cs.length + (i - 2 ^ cs.length) := by omega
        rw [e3, pc_add (by omega) hj, this]
/-- the digit at a place -/
theorem shr_and (i : Nat) (a : Nat) : Builtin.bitAnd ((i : Int) / 2 ^ a) 1 = if i.testBit a then 1 else 0 := by
  rw [PyProof.Rows.bitAnd_m1]
  have e : ((i : Int) / 2 ^ a) % 2 = ((i / 2 ^ a % 2 : Nat) : Int) := by push_cast; rfl
  rw [e, Nat.testBit_eq_decide_div_mod_eq]
  by_cases q : i / 2 ^ a % 2 = 1
  · simp [q]
  · have : i / 2 ^ a % 2 = 0 := by omega
    simp [this]
end WM
namespace WM
open PySem PySem.Spec PyProof.Rows L2
/-- a row's numbers -/
structure RowOk (a n b : Int) : Prop where
  n0 : 1 ≤ n
  n1 : n ≤ 1000
  a0 : 0 ≤ a
  a1 : a ≤ n
  b0 : 0 ≤ b
  b1 : b < n
def cb (a n b y : Int) : Int := (a * y + b) / n
def lt1 (a n b y : Int) : Bool := decide (n - a ≤ (a * y + b) % n)
theorem cb_next {a n b : Int} (h : RowOk a n b) (y : Int) : cb a n b (y + 1) - cb a n b y = b1 (lt1 a n b y) := by
  have h0 := h.n0
  have h2 := h.a0
  have h3 := h.a1
  unfold cb lt1
  have e : a * (y + 1) + b = a * y + b + a := by rw [Int.mul_add]; omega
  rw [e]
  generalize a * y + b = x
  have d1 := Int.emod_add_mul_ediv x n
  have d2 := Int.emod_nonneg x (show n ≠ 0 by omega)
  have d3 := Int.emod_lt_of_pos x (show 0 < n by omega)
  by_cases c : n - a ≤ x % n
  · rw [decide_eq_true c, b1_t, ediv_of (e := n) (q := x / n + 1) (s := x % n + a - n) (by omega) (by rw [Int.mul_add]; omega) (by omega) (by omega)]
    omega
  · rw [decide_eq_false c, b1_f, ediv_of (e := n) (q := x / n) (s := x % n + a) (by omega) (by omega) (by omega) (by omega)]
    omega
theorem cb_zero {a n b : Int} (h : RowOk a n b) : cb a n b 0 = 0 := by
  unfold cb
  rw [Int.mul_zero, Int.zero_add]
  exact Int.ediv_eq_zero_of_lt h.b0 h.b1
theorem cb_turn {a n b : Int} (h : RowOk a n b) (y t : Int) : cb a n b (y + n * t) = cb a n b y + a * t := by
  have h0 := h.n0
  unfold cb
  have e : a * (y + n * t) + b = (a * y + b) + n * (a * t) := by grind
  rw [e, Int.add_mul_ediv_left _ _ (by omega)]
theorem lt1_turn {a n b : Int} (y t : Int) : lt1 a n b (y + n * t) = lt1 a n b y := by
  unfold lt1
  have e : a * (y + n * t) + b = (a * y + b) + n * (a * t) := by grind
  rw [e, Int.add_mul_emod_self_left]
/-- how many from a year on -/
theorem cb_sum {a n b : Int} (h : RowOk a n b) (lo : Int) : ∀ m : Nat, sm (fun i => b1 (lt1 a n b (lo + (i : Int)))) m = cb a n b (lo + m) - cb a n b lo
  | 0 => by simp [sm]
  | m + 1 => by
    have := cb_next h (lo + m)
    show sm _ m + _ = _
    rw [cb_sum h lo m]
    push_cast
    rw [← Int.add_assoc]
    omega
theorem cb_mono {a n b : Int} (h : RowOk a n b) {x y : Int} (hxy : x ≤ y) : cb a n b x ≤ cb a n b y := by
  unfold cb
  refine Int.ediv_le_ediv (by have := h.n0; omega) ?_
  have := Int.mul_le_mul_of_nonneg_left hxy h.a0
  omega
/-- a leap year with an index -/
def LpY (a n b y k : Int) : Prop := lt1 a n b y = true ∧ cb a n b y = k
theorem LpY.uniq {a n b x y k : Int} (h : RowOk a n b) (h1 : LpY a n b x k) (h2 : LpY a n b y k) : x = y := by
  have key : ∀ {x y : Int}, LpY a n b x k → LpY a n b y k → ¬ x < y := fun {x y} h1 h2 c => by
    have e1 := cb_next h x
    rw [h1.1, b1_t] at e1
    have := cb_mono h (show x + 1 ≤ y by omega)
    have := h1.2
    have := h2.2
    omega
  have := key h1 h2
  have := key h2 h1
  omega
def lyr (a n b k : Int) : Int := -((b - n * (k + 1)) / a) - 1
theorem lyr_ok {a n b : Int} (h : RowOk a n b) (ha : 1 ≤ a) (k : Int) : LpY a n b (lyr a n b k) k := by
  have h0 := h.n0
  have d1 := Int.emod_add_mul_ediv (b - n * (k + 1)) a
  have d2 := Int.emod_nonneg (b - n * (k + 1)) (show a ≠ 0 by omega)
  have d3 := Int.emod_lt_of_pos (b - n * (k + 1)) (show 0 < a by omega)
  unfold lyr
  generalize (b - n * (k + 1)) / a = t at *
  have e1 : a * (-t - 1) = -(a * t) - a := by grind
  have e2 : n * (k + 1) = n * k + n := by grind
  have lo : cb a n b (-t - 1) ≤ k := by
    unfold cb
    have : (a * (-t - 1) + b) / n < k + 1 := Int.ediv_lt_of_lt_mul (by omega) (by rw [e1, Int.mul_comm (k + 1) n, e2]; omega)
    omega
  have hi : k + 1 ≤ cb a n b (-t - 1 + 1) := by
    unfold cb
    refine Int.le_ediv_of_mul_le (by omega) ?_
    have e3 : -t - 1 + 1 = -t := by omega
    have e4 : a * -t = -(a * t) := by grind
    rw [e3, e4, Int.mul_comm (k + 1) n, e2]
    omega
  have nx := cb_next h (-t - 1)
  unfold LpY
  cases c : lt1 a n b (-t - 1) with
  | true =>
    rw [c, b1_t] at nx
    exact ⟨rfl, by omega⟩
  | false =>
    rw [c, b1_f] at nx
    omega
/-- the leap years from 0 to n -/
def yrs (a n b : Int) : List Int := (iv 0 n.toNat).filter fun y => lt1 a n b y
theorem mem_yrs {a n b y : Int} (h : RowOk a n b) : y ∈ yrs a n b ↔ 0 ≤ y ∧ y < n ∧ lt1 a n b y = true := by
  have := h.n0
  unfold yrs
  rw [List.mem_filter, mem_iv]
  constructor
  · rintro ⟨⟨h1, h2⟩, h3⟩
    exact ⟨h1, by omega, h3⟩
  · rintro ⟨h1, h2, h3⟩
    exact ⟨⟨h1, by omega⟩, h3⟩
theorem yrs_asc (a n b : Int) : (yrs a n b).Pairwise (· < ·) := (iv_pw 0 _).filter _
theorem filter_len (p : Int → Bool) (lo : Int) : ∀ m : Nat, (((iv lo m).filter p).length : Int) = sm (fun i => b1 (p (lo + (i : Int)))) m
  | 0 => rfl
  | m + 1 => by
    rw [iv_succ, List.filter_append, List.length_append]
    show _ = sm _ m + b1 (p (lo + (m : Int)))
    rw [← filter_len p lo m, List.filter_cons]
    push_cast
    congr 1
    cases p (lo + (m : Int)) <;> rfl
theorem yrs_len {a n b : Int} (h : RowOk a n b) : ((yrs a n b).length : Int) = a := by
  have h0 := h.n0
  unfold yrs
  rw [filter_len, cb_sum h]
  have e : ((0 : Int) + ((n.toNat : Nat) : Int)) = 0 + n * 1 := by omega
  rw [e, cb_turn h, cb_zero h]
  omega
theorem filter_at (p : Int → Bool) (lo : Int) : ∀ (m j : Nat) (y : Int), ((iv lo m).filter p)[j]? = some y → lo ≤ y ∧ y < lo + m ∧ p y = true ∧ sm (fun i => b1 (p (lo + (i : Int)))) (y - lo).toNat = j
  | 0, j, y, h => by
    have : ((iv lo 0).filter p)[j]? = none := by
      show ([] : List Int)[j]? = none
      simp
    rw [this] at h
    cases h
  | m + 1, j, y, h => by
    rw [iv_succ, List.filter_append] at h
    rcases Nat.lt_or_ge j ((iv lo m).filter p).length with q | q
    · rw [List.getElem?_append_left q] at h
      obtain ⟨h1, h2, h3, h4⟩ := filter_at p lo m j y h
      exact ⟨h1, by omega, h3, h4⟩
    · rw [List.getElem?_append_right q, List.filter_cons] at h
      cases c : p (lo + (m : Int)) with
      | false =>
        rw [c] at h
        simp at h
      | true =>
        rw [c] at h
        have hj : j = ((iv lo m).filter p).length := by
          have := (List.getElem?_eq_some_iff.mp h).1
          simp at this
          omega
        subst hj
        simp at h
        subst h
        have e : (lo + (m : Int) - lo).toNat = m := by omega
        refine ⟨by omega, by omega, c, ?_⟩
        rw [e, ← filter_len]
theorem yrs_at {a n b : Int} (h : RowOk a n b) {j : Nat} {y : Int} (hy : (yrs a n b)[j]? = some y) : 0 ≤ y ∧ y < n ∧ LpY a n b y j := by
  have h0 := h.n0
  obtain ⟨h1, h2, h3, h4⟩ := filter_at _ _ _ _ _ hy
  rw [cb_sum h] at h4
  have e : (0 : Int) + ((y - 0).toNat : Int) = y := by omega
  rw [e, cb_zero h] at h4
  exact ⟨h1, by omega, h3, by omega⟩
theorem LpY.turn {a n b y k : Int} (h : RowOk a n b) (t : Int) (h1 : LpY a n b y k) : LpY a n b (y + n * t) (k + a * t) := ⟨by rw [lt1_turn]; exact h1.1, by rw [cb_turn h, h1.2]⟩
/-- the leap year of any index, by the first n years -/
theorem lyr_eq {a n b : Int} (h : RowOk a n b) (ha : 1 ≤ a) (k : Int) {y : Int} (hy : (yrs a n b)[(k % a).toNat]? = some y) : lyr a n b k = k / a * n + y := by
  obtain ⟨_, _, h3⟩ := yrs_at h hy
  have h4 := h3.turn h (k / a)
  have d1 := Int.emod_add_mul_ediv k a
  have d2 := Int.emod_nonneg k (show a ≠ 0 by omega)
  have e : (((k % a).toNat : Nat) : Int) + a * (k / a) = k := by omega
  rw [e] at h4
  have := (lyr_ok h ha k).uniq h h4
  rw [this, Int.mul_comm n]
  omega
theorem oth_ok {a n b : Int} (h : RowOk a n b) : RowOk (n - a) n (n - 1 - b) := by
  obtain ⟨h1, h2, h3, h4, h5, h6⟩ := h
  exact ⟨h1, h2, by omega, by omega, by omega, by omega⟩
theorem lt1_oth {a n b : Int} (h : RowOk a n b) (y : Int) : lt1 (n - a) n (n - 1 - b) y = !lt1 a n b y := by
  have h0 := h.n0
  unfold lt1
  have e : (n - a) * y + (n - 1 - b) = n * (y + 1) - 1 - (a * y + b) := by grind
  rw [e]
  generalize a * y + b = x
  have d1 := Int.emod_add_mul_ediv x n
  have d2 := Int.emod_nonneg x (show n ≠ 0 by omega)
  have d3 := Int.emod_lt_of_pos x (show 0 < n by omega)
  have e2 : (n * (y + 1) - 1 - x) % n = n - 1 - x % n := emod_of (q := y - x / n) (by rw [Int.mul_sub, Int.mul_add]; omega) (by omega) (by omega)
  rw [e2]
  by_cases c : n - a ≤ x % n
  · rw [decide_eq_true c, decide_eq_false (by omega)]
    rfl
  · rw [decide_eq_false c, decide_eq_true (by omega)]
    rfl
theorem near_eq {a n b : Int} (h : RowOk a n b) (ha : 1 ≤ a) (y : Int) : decide ((a * y + b - (n - a) % n) % n < a) = lt1 a n b y := by
  have h0 := h.n0
  have h1 := h.a1
  unfold lt1
  generalize a * y + b = x
  have d1 := Int.emod_add_mul_ediv x n
  have d2 := Int.emod_nonneg x (show n ≠ 0 by omega)
  have d3 := Int.emod_lt_of_pos x (show 0 < n by omega)
  by_cases c0 : a = n
  · have e : (n - a) % n = 0 := by rw [c0, Int.sub_self, Int.zero_emod]
    rw [e, Int.sub_zero, decide_eq_true (by omega), decide_eq_true (by omega)]
  · have e : (n - a) % n = n - a := Int.emod_eq_of_lt (by omega) (by omega)
    rw [e]
    by_cases c : n - a ≤ x % n
    · rw [decide_eq_true c, emod_of (e := n) (q := x / n) (s := x % n - (n - a)) (by omega) (by omega) (by omega), decide_eq_true (by omega)]
    · rw [decide_eq_false c, emod_of (e := n) (q := x / n - 1) (s := x % n + a) (by rw [Int.mul_sub]; omega) (by omega) (by omega), decide_eq_false (by omega)]
theorem sortI_asc {l m : List Int} (hn : l.Nodup) (hm : m.Pairwise (· < ·)) (h : ∀ x, x ∈ l ↔ x ∈ m) : sortI l = m := by
  have p := sortI_perm l
  have s := sortI_sorted l
  have nd : (sortI l).Nodup := p.nodup_iff.mpr hn
  have s2 : (sortI l).Pairwise (· < ·) := by
    have := s.and nd
    exact this.imp fun ⟨h1, h2⟩ => by omega
  exact asc_ext s2 hm fun x => by rw [p.mem_iff]; exact h x
/-- the turning number makes the leap years of the greatest rests -/
theorem turn_years {a n b t z : Int} (h : RowOk a n b) (ht : t * a = 1 + n * z) : sortI ((iv (n - a) a.toNat).map fun r => t * (r - b) % n) = yrs a n b := by
  have h0 := h.n0
  have h1 := h.a0
  have h2 := h.a1
  have back : ∀ r, n - a ≤ r → r < n → (a * (t * (r - b) % n) + b) % n = r := fun r r0 r1 => by
    have d := Int.emod_add_mul_ediv (t * (r - b)) n
    refine emod_of (q := z * (r - b) - a * (t * (r - b) / n)) ?_ (by omega) r1
    have e1 : t * (r - b) % n = t * (r - b) - n * (t * (r - b) / n) := by omega
    rw [e1]
    have e2 : a * (t * (r - b)) = (1 + n * z) * (r - b) := by rw [← ht]; grind
    grind
  refine sortI_asc ?_ (yrs_asc a n b) fun y => ?_
  · refine (List.pairwise_map.mpr ?_ : ((iv (n - a) a.toNat).map fun r => t * (r - b) % n).Pairwise (· ≠ ·))
    refine (iv_pw (n - a) a.toNat).imp_of_mem fun {x y} hx hy hxy e => ?_
    obtain ⟨x0, x1⟩ := mem_iv.mp hx
    obtain ⟨y0, y1⟩ := mem_iv.mp hy
    have ex := back x x0 (by omega)
    have ey := back y y0 (by omega)
    rw [e] at ex
    omega
  · rw [mem_yrs h, List.mem_map]
    constructor
    · rintro ⟨r, hr, rfl⟩
      obtain ⟨r0, r1⟩ := mem_iv.mp hr
      refine ⟨Int.emod_nonneg _ (by omega), Int.emod_lt_of_pos _ (by omega), ?_⟩
      unfold lt1
      rw [back r r0 (by omega)]
      exact decide_eq_true r0
    · rintro ⟨y0, y1, y2⟩
      unfold lt1 at y2
      have y2 := of_decide_eq_true y2
      have d := Int.emod_add_mul_ediv (a * y + b) n
      have d1 := Int.emod_lt_of_pos (a * y + b) (show 0 < n by omega)
      refine ⟨(a * y + b) % n, mem_iv.mpr ⟨y2, by omega⟩, ?_⟩
      refine emod_of (q := z * y - t * ((a * y + b) / n)) ?_ y0 y1
      have e1 : (a * y + b) % n = a * y + b - n * ((a * y + b) / n) := by omega
      rw [e1]
      have e2 : t * (a * y) = (1 + n * z) * y := by rw [← ht]; grind
      grind
end WM
namespace WM.K88
open PySem PySem.Spec PyProof.Rows L2
def i_is_whole : Nat := 0
def i_need_whole : Nat := 1
def i_is_tuple_of : Nat := 2
def i_are_wholes : Nat := 3
def i_parts_for : Nat := 4
def i_met : Nat := 5
def i_turning_number : Nat := 6
def i_fits_cycle : Nat := 7
def i_fits_cycles : Nat := 8
def i_need_cycles : Nat := 9
def i_need_day : Nat := 10
def i_need_stretch : Nat := 11
def i_meeting_in : Nat := 12
def i_next_on : Nat := 13
def i_count_on : Nat := 14
def i_next_meeting : Nat := 15
def i_count_meetings : Nat := 16
def i_size_of : Nat := 17
def i_meets_in : Nat := 18
def i_chosen : Nat := 19
def i_sums_in : Nat := 20
def i_with_just : Nat := 21
def i_is_struck : Nat := 22
def i_free_from : Nat := 23
def i_struck_by : Nat := 24
def i_count_struck : Nat := 25
def i_count_with : Nat := 26
def i_next_struck : Nat := 27
def i_next_free : Nat := 28
def i_cut : Nat := 29
def i_sum_two : Nat := 30
def i_covers : Nat := 31
def i_do_cover : Nat := 32
def i_are_apart : Nat := 33
def i_sum_of_shares : Nat := 34
def i_struck_share : Nat := 35
def i_is_row_in : Nat := 36
def i_need_row : Nat := 37
def i_count_by : Nat := 38
def i_letter_at : Nat := 39
def i_are_letters : Nat := 40
def i_need_letters : Nat := 41
def i_need_span : Nat := 42
def i_sums_of : Nat := 43
def i_start_for : Nat := 44
def i_is_leap : Nat := 45
def i_leaps_between : Nat := 46
def i_leap_year : Nat := 47
def i_row_of : Nat := 48
def i_fits_window : Nat := 49
def i_need_window : Nat := 50
def i_near_on : Nat := 51
def i_shared_arc : Nat := 52
def i_first_between : Nat := 53
def i_next_start : Nat := 54
def i_round_of : Nat := 55
def i_is_near : Nat := 56
def i_count_near : Nat := 57
def i_next_near : Nat := 58
def i_longest_near : Nat := 59
def i__law_cup : Nat := 60
def i__law_roll : Nat := 61
def i__law_some : Nat := 62
def i__law_sort : Nat := 63
def i__law_like : Nat := 64
def i__law_gcd : Nat := 65
def i__law_ratio : Nat := 66
def i__law_row : Nat := 67
def i__law_letter : Nat := 68
def i__law_window : Nat := 69
def i__law_years : Nat := 70
def i__law_others : Nat := 71
def i__law_row_right : Nat := 72
def i__law_cycles_right : Nat := 73
def i__law_two_right : Nat := 74
def i__law_meets : Nat := 75
def i__law_great_right : Nat := 76
def i__law_written_right : Nat := 77
def i_law : Nat := 78
def c0_are_wholes : E := .comp (.v 4) (.val (.var 0)) .none [4] (.call i_is_whole (.cons (.raw 4) (.cons (.raw 2) (.cons (.raw 3) .nil))))
def c0_parts_for : E := .comp (.v 5) (.rng1 (.lit (.int 3))) .none [5] (.bin .Sub (.ix (.raw 2) (.var 5)) (.bin .Mult (.var 4) (.ix (.raw 3) (.var 5))))
def t0_parts_for : E := (.cmp .NotEq (.ix (.raw 3) (.lit (.int 0))) (.lit (.int 0)))
def b0_parts_for : Ss := (.cons (.set 4 (.bin .FloorDiv (.ix (.raw 2) (.lit (.int 0))) (.ix (.raw 3) (.lit (.int 0))))) (.cons (.unp (.cons (.v 2) (.cons (.v 3) .nil)) (.tup (.cons (.var 3) (.cons (.blt .tuple (.cons c0_parts_for .nil)) .nil)))) .nil))
def l0_parts_for : S := .whl t0_parts_for b0_parts_for
def c0_fits_cycles : E := .comp (.v 1) (.val (.var 0)) .none [1] (.call i_fits_cycle (.cons (.raw 1) .nil))
def b0_meeting_in : Ss := (.cons (.set 1 (.ite (.cmp .Is (.var 1) (.lit .none)) (.var 1) (.call i_met (.cons (.raw 1) (.cons (.raw 2) .nil))))) .nil)
def l0_meeting_in : S := .for (.v 2) (.val (.var 0)) b0_meeting_in
def c0_size_of : E := .comp (.v 1) (.rng1 (.lit (.int 12))) (.some (.cmp .Eq (.bin .BitAnd (.bin .RShift (.var 0) (.var 1)) (.lit (.int 1))) (.lit (.int 1)))) [1] (.lit (.int 1))
def c0_meets_in : E := .comp (.v 4) (.val (.var 1)) .none [4] (.ite (.cmp .Is (.var 4) (.lit .none)) (.lit .none) (.call i_met (.cons (.raw 4) (.cons (.raw 3) .nil))))
def b0_meets_in : Ss := (.cons (.set 1 (.bin .Add (.var 1) c0_meets_in)) .nil)
def l0_meets_in : S := .for (.t (.cons (.v 2) (.cons (.v 3) .nil))) (.enum (.var 0)) b0_meets_in
def b0_chosen : Ss := (.cons (.set 2 (.bin .FloorDiv (.bin .Mult (.var 2) (.bin .Sub (.var 0) (.var 3))) (.bin .Add (.var 3) (.lit (.int 1))))) .nil)
def l0_chosen : S := .for (.v 3) (.rng1 (.var 1)) b0_chosen
def b0_sums_in : Ss := (.cons (.ite (.cmp .IsNot (.var 5) (.lit .none)) (.cons (.put 3 (.call i_size_of (.cons (.raw 4) .nil)) (.bin .Add (.ix (.raw 3) (.call i_size_of (.cons (.raw 4) .nil))) (.call i_count_on (.cons (.raw 5) (.cons (.raw 1) (.cons (.raw 2) .nil)))))) .nil) .nil) .nil)
def l0_sums_in : S := .for (.t (.cons (.v 4) (.cons (.v 5) .nil))) (.enum (.call i_meets_in (.cons (.raw 0) .nil))) b0_sums_in
def b0_with_just : Ss := (.cons (.set 6 (.bin .Add (.var 6) (.bin .Mult (.bin .Mult (.ite (.cmp .Eq (.bin .Mod (.bin .Sub (.var 4) (.var 1)) (.lit (.int 2))) (.lit (.int 0))) (.lit (.int 1)) (.neg (.lit (.int 1)))) (.call i_chosen (.cons (.raw 4) (.cons (.raw 1) .nil)))) (.ix (.raw 5) (.var 4))))) .nil)
def l0_with_just : S := .for (.v 4) (.rng2 (.var 1) (.bin .Add (.blt .len (.cons (.raw 0) .nil)) (.lit (.int 1)))) b0_with_just
def c0_is_struck : E := .comp (.t (.cons (.v 2) (.cons (.v 3) .nil))) (.val (.var 0)) .none [2, 3] (.cmp .Eq (.bin .Mod (.bin .Sub (.var 1) (.var 3)) (.var 2)) (.lit (.int 0)))
def b0_free_from : Ss := (.cons (.ite (.not (.call i_is_struck (.cons (.raw 0) (.cons (.bin .Add (.var 1) (.var 2)) .nil)))) (.cons (.ret (.bin .Add (.var 1) (.var 2))) .nil) .nil) .nil)
def l0_free_from : S := .for (.v 2) (.rng1 (.bin .LShift (.lit (.int 1)) (.blt .len (.cons (.raw 0) .nil)))) b0_free_from
def c0_struck_by : E := .comp (.t (.cons (.v 2) (.cons (.t (.cons (.v 3) (.cons (.v 4) .nil))) .nil))) (.enum (.var 0)) (.some (.cmp .Eq (.bin .Mod (.bin .Sub (.var 1) (.var 4)) (.var 3)) (.lit (.int 0)))) [2, 3, 4] (.var 2)
def c0_next_struck : E := .comp (.v 2) (.val (.var 0)) .none [2] (.call i_next_on (.cons (.raw 2) (.cons (.raw 1) .nil)))
def c0_are_apart : E := .comp (.v 3) (.val (.sl (.var 0) .none (.some (.var 1)))) .none [3] (.cmp .IsNot (.call i_met (.cons (.raw 2) (.cons (.raw 3) .nil))) (.lit .none))
def b0_are_apart : Ss := (.cons (.ite (.blt .any (.cons c0_are_apart .nil)) (.cons (.ret (.lit (.bool false))) .nil) .nil) .nil)
def l0_are_apart : S := .for (.t (.cons (.v 1) (.cons (.v 2) .nil))) (.enum (.var 0)) b0_are_apart
def b0_sum_of_shares : Ss := (.cons (.set 1 (.call i_sum_two (.cons (.raw 1) (.cons (.tup (.cons (.lit (.int 1)) (.cons (.var 2) .nil))) .nil)))) .nil)
def l0_sum_of_shares : S := .for (.t (.cons (.v 2) (.cons (.v 3) .nil))) (.val (.var 0)) b0_sum_of_shares
def b0_struck_share : Ss := (.cons (.set 3 (.bin .Mult (.var 3) (.ix (.raw 1) (.lit (.int 0))))) .nil)
def l0_struck_share : S := .for (.v 1) (.val (.var 0)) b0_struck_share
def b1_struck_share : Ss := (.cons (.ite (.and (.cmp .IsNot (.var 1) (.lit .none)) (.cmp .Gt (.var 5) (.lit (.int 0)))) (.cons (.set 4 (.bin .Add (.var 4) (.bin .Mult (.ite (.cmp .Eq (.bin .Mod (.call i_size_of (.cons (.raw 5) .nil)) (.lit (.int 2))) (.lit (.int 1))) (.lit (.int 1)) (.neg (.lit (.int 1)))) (.bin .FloorDiv (.var 3) (.ix (.raw 1) (.lit (.int 0))))))) .nil) .nil) .nil)
def l1_struck_share : S := .for (.t (.cons (.v 5) (.cons (.v 1) .nil))) (.enum (.var 2)) b1_struck_share
def b0_sums_of : Ss := (.cons (.app 1 (.bin .Add (.ix (.raw 1) (.neg (.lit (.int 1)))) (.var 2))) .nil)
def l0_sums_of : S := .for (.v 2) (.val (.var 0)) b0_sums_of
def c0_start_for : E := .comp (.t (.cons (.v 4) (.cons (.v 5) .nil))) (.enum (.var 2)) .none [4, 5] (.bin .Sub (.bin .Mult (.var 1) (.var 5)) (.bin .Mult (.var 0) (.var 4)))
def t0_first_between : E := (.cmp .Is (.var 5) (.lit .none))
def b0_first_between : Ss := (.cons (.ite (.and (.cmp .Gt (.var 2) (.lit (.int 0))) (.cmp .Eq (.var 0) (.lit (.int 0)))) (.cons (.ret (.lit .none)) .nil) .nil) (.cons (.ite (.or (.cmp .Eq (.var 2) (.lit (.int 0))) (.cmp .LtE (.bin .Mult (.neg (.bin .FloorDiv (.neg (.var 2)) (.var 0))) (.var 0)) (.var 3))) (.cons (.set 5 (.ite (.cmp .Eq (.var 2) (.lit (.int 0))) (.lit (.int 0)) (.neg (.bin .FloorDiv (.neg (.var 2)) (.var 0))))) .nil) (.cons (.app 4 (.tup (.cons (.var 0) (.cons (.var 1) (.cons (.var 2) .nil))))) (.cons (.unp (.cons (.v 0) (.cons (.v 1) (.cons (.v 2) (.cons (.v 3) .nil)))) (.tup (.cons (.bin .Mod (.var 1) (.var 0)) (.cons (.var 0) (.cons (.bin .Mod (.neg (.var 3)) (.var 0)) (.cons (.bin .Mod (.neg (.var 2)) (.var 0)) .nil)))))) .nil))) .nil))
def l0_first_between : S := .whl t0_first_between b0_first_between
def b1_first_between : Ss := (.cons (.set 5 (.neg (.bin .FloorDiv (.neg (.bin .Add (.var 2) (.bin .Mult (.var 1) (.var 5)))) (.var 0)))) .nil)
def l1_first_between : S := .for (.t (.cons (.v 0) (.cons (.v 1) (.cons (.v 2) .nil)))) (.val (.rev (.var 4))) b1_first_between
def b0_round_of : Ss := (.cons (.set 1 (.bin .Mult (.bin .FloorDiv (.var 1) (.blt .gcd (.cons (.var 1) (.cons (.var 2) .nil)))) (.var 2))) .nil)
def l0_round_of : S := .for (.t (.cons (.v 2) (.cons (.v 3) (.cons (.v 4) .nil)))) (.val (.var 0)) b0_round_of
def c0_next_near : E := .comp (.v 4) (.val (.tup (.cons (.call i_next_start (.cons (.raw 0) (.cons (.raw 1) (.cons (.raw 2) .nil)))) (.cons (.call i_next_start (.cons (.raw 1) (.cons (.raw 0) (.cons (.raw 2) .nil)))) .nil)))) (.some (.cmp .IsNot (.var 4) (.lit .none))) [4] (.var 4)
def b0_longest_near : Ss := (.cons (.expr (.call i_need_window (.cons (.raw 1) .nil))) .nil)
def l0_longest_near : S := .for (.v 1) (.val (.var 0)) b0_longest_near
def c0_longest_near : E := .comp (.v 1) (.val (.var 0)) .none [1] (.call i_near_on (.cons (.raw 1) (.cons (.raw 3) .nil)))
def b1_longest_near : Ss := (.cons (.set 5 (.ite (.blt .all (.cons c0_longest_near .nil)) (.bin .Add (.var 5) (.lit (.int 1))) (.lit (.int 0)))) (.cons (.set 4 (.blt .mx (.cons (.var 4) (.cons (.var 5) .nil)))) .nil))
def l1_longest_near : S := .for (.v 3) (.rng1 (.bin .Mult (.lit (.int 2)) (.var 2))) b1_longest_near
def c0__law_like : E := .comp (.t (.cons (.v 3) (.cons (.v 4) .nil))) (.zip (.var 0) (.var 1)) (.some (.not (.call i__law_like (.cons (.raw 3) (.cons (.raw 4) .nil))))) [3, 4] (.lit (.int 1))
def b0__law_gcd : Ss := (.cons (.ite (.cmp .Eq (.var 1) (.lit (.int 0))) (.cons (.ret (.blt .mx (.cons (.var 0) (.cons (.neg (.var 0)) .nil)))) .nil) .nil) (.cons (.par [0, 1] (.cons (.var 1) (.cons (.bin .Mod (.blt .int (.cons (.var 0) .nil)) (.var 1)) .nil))) .nil))
def l0__law_gcd : S := .for (.v 2) (.rng1 (.lit (.int 1200))) b0__law_gcd
def c0__law_years : E := .comp (.v 1) (.rng1 (.ix (.raw 0) (.lit (.int 1)))) (.some (.call i__law_letter (.cons (.raw 0) (.cons (.raw 1) .nil)))) [1] (.var 1)
def b0__law_row_right : Ss := (.cons (.set 9 (.call i__law_letter (.cons (.raw 1) (.cons (.raw 2) .nil)))) (.cons (.ite (.not (.call i__law_like (.cons (.lst (.cons (.call i_is_leap (.cons (.raw 1) (.cons (.raw 2) .nil))) (.cons (.call i_is_near (.cons (.raw 7) (.cons (.bin .Add (.bin .Mult (.var 4) (.var 2)) (.var 6)) .nil))) (.cons (.call i_is_leap (.cons (.call i__law_others (.cons (.raw 1) .nil)) (.cons (.raw 2) .nil))) .nil)))) (.cons (.lst (.cons (.var 9) (.cons (.var 9) (.cons (.not (.var 9)) .nil)))) .nil)))) (.cons (.ret (.lit (.bool false))) .nil) .nil) .nil))
def l0__law_row_right : S := .for (.v 2) (.val (.lst (.cons (.call i__law_roll (.cons (.raw 0) (.cons (.bin .Add (.bin .Pow (.lit (.int 10)) (.lit (.int 6))) (.lit (.int 1))) .nil))) (.cons (.neg (.call i__law_roll (.cons (.raw 0) (.cons (.bin .Add (.bin .Pow (.lit (.int 10)) (.lit (.int 6))) (.lit (.int 1))) .nil)))) (.cons (.lit (.int 0)) (.cons (.bin .Sub (.var 5) (.lit (.int 1))) (.cons (.ix (.raw 8) (.lit (.int 0))) (.cons (.ix (.raw 8) (.neg (.lit (.int 1)))) .nil)))))))) b0__law_row_right
def c0__law_row_right : E := .comp (.v 13) (.rng2 (.bin .Sub (.var 5) (.var 4)) (.var 5)) .none [13] (.bin .Mod (.blt .int (.cons (.bin .Mult (.var 10) (.bin .Sub (.var 13) (.var 6))) .nil)) (.var 5))
def c0__law_cycles_right : E := .comp (.v 15) (.val (.var 2)) .none [15] (.tup (.cons (.var 13) (.cons (.var 15) .nil)))
def c1__law_cycles_right : E := .comp (.v 15) (.rng1 (.var 13)) (.some (.cmp .NotIn (.var 15) (.var 2))) [15] (.tup (.cons (.var 13) (.cons (.var 15) .nil)))
def c0__law_two_right : E := .comp (.v 13) (.val (.var 11)) .none [13] (.tup (.cons (.ix (.raw 1) (.lit (.int 1))) (.cons (.var 13) .nil)))
def c1__law_two_right : E := .comp (.v 13) (.val (.var 12)) .none [13] (.tup (.cons (.ix (.raw 2) (.lit (.int 1))) (.cons (.var 13) .nil)))
def c2__law_two_right : E := .comp (.v 13) (.rng2 (.var 4) (.var 8)) (.some (.and (.call i__law_letter (.cons (.raw 1) (.cons (.raw 13) .nil))) (.call i__law_letter (.cons (.raw 2) (.cons (.raw 13) .nil))))) [13] (.var 13)
def c0__law_meets : E := .comp (.v 7) (.val (.var 3)) .none [7] (.call i_next_meeting (.cons (.tup (.cons (.tup (.cons (.ix (.raw 0) (.lit (.int 1))) (.cons (.var 6) .nil))) (.cons (.tup (.cons (.ix (.raw 1) (.lit (.int 1))) (.cons (.var 7) .nil))) .nil))) (.cons (.raw 4) .nil)))
def b0__law_meets : Ss := (.cons (.set 5 (.bin .Add (.var 5) c0__law_meets)) .nil)
def l0__law_meets : S := .for (.v 6) (.val (.var 2)) b0__law_meets
def c0__law_written_right : E := .comp (.v 2) (.rng1 (.lit (.int 5))) (.some (.call i_is_leap (.cons (.tup (.cons (.lit (.int 2)) (.cons (.lit (.int 5)) (.cons (.lit (.int 4)) .nil)))) (.cons (.raw 2) .nil)))) [2] (.var 2)
def b0_law : Ss := (.cons (.set 3 (.call i__law_row (.cons (.raw 1) (.cons (.call i__law_some (.cons (.raw 1) (.cons (.lst (.cons (.lit (.int 5)) (.cons (.lit (.int 12)) (.cons (.lit (.int 40)) (.cons (.lit (.int 1000)) .nil))))) .nil))) .nil)))) (.cons (.ite (.or (.not (.call i__law_row_right (.cons (.raw 1) (.cons (.raw 3) .nil)))) (.not (.call i__law_cycles_right (.cons (.raw 1) (.cons (.raw 3) .nil))))) (.cons (.ret (.lit (.bool false))) .nil) .nil) (.cons (.ite (.not (.call i__law_two_right (.cons (.raw 1) (.cons (.call i__law_row (.cons (.raw 1) (.cons (.lit (.int 12)) .nil))) (.cons (.call i__law_row (.cons (.raw 1) (.cons (.lit (.int 12)) .nil))) .nil))))) (.cons (.ret (.lit (.bool false))) .nil) .nil) .nil)))
def l0_law : S := .for (.v 2) (.rng1 (.lit (.int 5))) b0_law
def b_law : Ss := (.cons l0_law (.cons (.ret (.and (.call i__law_great_right (.cons (.raw 1) .nil)) (.call i__law_written_right (.cons (.raw 1) .nil)))) .nil))
def f_is_whole : Fd := ⟨3, 3, (.cons (.ret (.and (.isi (.var 0) .int) (.and (.not (.isi (.var 0) .bool)) (.cmp2 .LtE .LtE (.var 1) (.var 0) (.var 2))))) .nil)⟩
def f_need_whole : Fd := ⟨3, 3, (.cons (.ite (.not (.call i_is_whole (.cons (.raw 0) (.cons (.raw 1) (.cons (.raw 2) .nil))))) (.cons .nev .nil) .nil) .nil)⟩
def f_is_tuple_of : Fd := ⟨3, 3, (.cons (.ret (.and (.isi (.var 0) .tuple) (.cmp2 .LtE .LtE (.var 1) (.blt .len (.cons (.raw 0) .nil)) (.var 2)))) .nil)⟩
def f_are_wholes : Fd := ⟨4, 5, (.cons (.ret (.and (.call i_is_tuple_of (.cons (.raw 0) (.cons (.raw 1) (.cons (.raw 1) .nil)))) (.blt .all (.cons c0_are_wholes .nil)))) .nil)⟩
def f_parts_for : Fd := ⟨2, 6, (.cons (.unp (.cons (.v 2) (.cons (.v 3) .nil)) (.tup (.cons (.tup (.cons (.var 0) (.cons (.lit (.int 1)) (.cons (.lit (.int 0)) .nil)))) (.cons (.tup (.cons (.var 1) (.cons (.lit (.int 0)) (.cons (.lit (.int 1)) .nil)))) .nil)))) (.cons l0_parts_for (.cons (.ret (.var 2)) .nil)))⟩
def f_met : Fd := ⟨2, 6, (.cons (.unp (.cons (.v 3) (.cons (.v 4) (.cons (.v 5) .nil))) (.call i_parts_for (.cons (.ix (.raw 0) (.lit (.int 0))) (.cons (.ix (.raw 1) (.lit (.int 0))) .nil)))) (.cons (.ite (.cmp .NotEq (.bin .Mod (.bin .Sub (.ix (.raw 1) (.lit (.int 1))) (.ix (.raw 0) (.lit (.int 1)))) (.var 3)) (.lit (.int 0))) (.cons (.ret (.lit .none)) .nil) .nil) (.cons (.set 2 (.bin .Mult (.bin .FloorDiv (.ix (.raw 0) (.lit (.int 0))) (.var 3)) (.ix (.raw 1) (.lit (.int 0))))) (.cons (.ret (.tup (.cons (.var 2) (.cons (.bin .Mod (.bin .Add (.ix (.raw 0) (.lit (.int 1))) (.bin .Mult (.bin .Mult (.bin .FloorDiv (.bin .Sub (.ix (.raw 1) (.lit (.int 1))) (.ix (.raw 0) (.lit (.int 1)))) (.var 3)) (.var 4)) (.ix (.raw 0) (.lit (.int 0))))) (.var 2)) .nil)))) .nil))))⟩
def f_turning_number : Fd := ⟨2, 5, (.cons (.expr (.call i_need_whole (.cons (.raw 0) (.cons (.lit (.int 0)) (.cons (.lit (.int 1000000000000000000000000000000)) .nil))))) (.cons (.expr (.call i_need_whole (.cons (.raw 1) (.cons (.lit (.int 2)) (.cons (.lit (.int 1000000000000000000000000000000)) .nil))))) (.cons (.unp (.cons (.v 2) (.cons (.v 3) (.cons (.v 4) .nil))) (.call i_parts_for (.cons (.bin .Mod (.var 0) (.var 1)) (.cons (.raw 1) .nil)))) (.cons (.ret (.ite (.cmp .Eq (.var 2) (.lit (.int 1))) (.bin .Mod (.var 3) (.var 1)) (.lit .none))) .nil))))⟩
def f_fits_cycle : Fd := ⟨1, 1, (.cons (.ret (.and (.call i_is_tuple_of (.cons (.raw 0) (.cons (.lit (.int 2)) (.cons (.lit (.int 2)) .nil)))) (.and (.call i_is_whole (.cons (.ix (.raw 0) (.lit (.int 0))) (.cons (.lit (.int 1)) (.cons (.lit (.int 1000000000)) .nil)))) (.call i_is_whole (.cons (.ix (.raw 0) (.lit (.int 1))) (.cons (.lit (.int 0)) (.cons (.bin .Sub (.ix (.raw 0) (.lit (.int 0))) (.lit (.int 1))) .nil))))))) .nil)⟩
def f_fits_cycles : Fd := ⟨1, 2, (.cons (.ret (.and (.call i_is_tuple_of (.cons (.raw 0) (.cons (.lit (.int 0)) (.cons (.lit (.int 12)) .nil)))) (.blt .all (.cons c0_fits_cycles .nil)))) .nil)⟩
def f_need_cycles : Fd := ⟨1, 1, (.cons (.ite (.not (.call i_fits_cycles (.cons (.raw 0) .nil))) (.cons .nev .nil) .nil) .nil)⟩
def f_need_day : Fd := ⟨1, 1, (.cons (.expr (.call i_need_whole (.cons (.raw 0) (.cons (.neg (.lit (.int 1000000000000000000))) (.cons (.lit (.int 1000000000000000000)) .nil))))) .nil)⟩
def f_need_stretch : Fd := ⟨2, 2, (.cons (.expr (.call i_need_day (.cons (.raw 0) .nil))) (.cons (.expr (.call i_need_day (.cons (.raw 1) .nil))) (.cons (.ite (.cmp .Lt (.var 1) (.var 0)) (.cons .nev .nil) .nil) .nil)))⟩
def f_meeting_in : Fd := ⟨1, 3, (.cons (.set 1 (.tup (.cons (.lit (.int 1)) (.cons (.lit (.int 0)) .nil)))) (.cons l0_meeting_in (.cons (.ret (.var 1)) .nil)))⟩
def f_next_on : Fd := ⟨2, 2, (.cons (.ret (.bin .Add (.var 1) (.bin .Mod (.bin .Sub (.ix (.raw 0) (.lit (.int 1))) (.var 1)) (.ix (.raw 0) (.lit (.int 0)))))) .nil)⟩
def f_count_on : Fd := ⟨3, 3, (.cons (.ret (.bin .Sub (.bin .FloorDiv (.bin .Sub (.bin .Sub (.var 2) (.lit (.int 1))) (.ix (.raw 0) (.lit (.int 1)))) (.ix (.raw 0) (.lit (.int 0)))) (.bin .FloorDiv (.bin .Sub (.bin .Sub (.var 1) (.lit (.int 1))) (.ix (.raw 0) (.lit (.int 1)))) (.ix (.raw 0) (.lit (.int 0)))))) .nil)⟩
def f_next_meeting : Fd := ⟨2, 3, (.cons (.expr (.call i_need_cycles (.cons (.raw 0) .nil))) (.cons (.expr (.call i_need_day (.cons (.raw 1) .nil))) (.cons (.set 2 (.call i_meeting_in (.cons (.raw 0) .nil))) (.cons (.ret (.ite (.cmp .Is (.var 2) (.lit .none)) (.lit .none) (.call i_next_on (.cons (.raw 2) (.cons (.raw 1) .nil))))) .nil))))⟩
def f_count_meetings : Fd := ⟨3, 4, (.cons (.expr (.call i_need_cycles (.cons (.raw 0) .nil))) (.cons (.expr (.call i_need_stretch (.cons (.raw 1) (.cons (.raw 2) .nil)))) (.cons (.set 3 (.call i_meeting_in (.cons (.raw 0) .nil))) (.cons (.ret (.ite (.cmp .Is (.var 3) (.lit .none)) (.lit (.int 0)) (.call i_count_on (.cons (.raw 3) (.cons (.raw 1) (.cons (.raw 2) .nil)))))) .nil))))⟩
def f_size_of : Fd := ⟨1, 2, (.cons (.ret (.blt .len (.cons c0_size_of .nil))) .nil)⟩
def f_meets_in : Fd := ⟨1, 5, (.cons (.set 1 (.lst (.cons (.tup (.cons (.lit (.int 1)) (.cons (.lit (.int 0)) .nil))) .nil))) (.cons l0_meets_in (.cons (.ret (.var 1)) .nil)))⟩
def f_chosen : Fd := ⟨2, 4, (.cons (.set 2 (.lit (.int 1))) (.cons l0_chosen (.cons (.ret (.var 2)) .nil)))⟩
def f_sums_in : Fd := ⟨3, 6, (.cons (.setC 3 (.bin .Mult (.lst (.cons (.lit (.int 0)) .nil)) (.bin .Add (.blt .len (.cons (.raw 0) .nil)) (.lit (.int 1))))) (.cons l0_sums_in (.cons (.ret (.var 3)) .nil)))⟩
def f_with_just : Fd := ⟨4, 7, (.cons (.par [5, 6] (.cons (.call i_sums_in (.cons (.raw 0) (.cons (.raw 2) (.cons (.raw 3) .nil)))) (.cons (.lit (.int 0)) .nil))) (.cons l0_with_just (.cons (.ret (.var 6)) .nil)))⟩
def f_is_struck : Fd := ⟨2, 4, (.cons (.ret (.blt .any (.cons c0_is_struck .nil))) .nil)⟩
def f_free_from : Fd := ⟨2, 3, (.cons l0_free_from (.cons (.ret (.lit .none)) .nil))⟩
def f_struck_by : Fd := ⟨2, 5, (.cons (.expr (.call i_need_cycles (.cons (.raw 0) .nil))) (.cons (.expr (.call i_need_day (.cons (.raw 1) .nil))) (.cons (.ret (.blt .tuple (.cons c0_struck_by .nil))) .nil)))⟩
def f_count_struck : Fd := ⟨3, 3, (.cons (.expr (.call i_need_cycles (.cons (.raw 0) .nil))) (.cons (.expr (.call i_need_stretch (.cons (.raw 1) (.cons (.raw 2) .nil)))) (.cons (.ret (.bin .Sub (.bin .Sub (.var 2) (.var 1)) (.call i_with_just (.cons (.raw 0) (.cons (.lit (.int 0)) (.cons (.raw 1) (.cons (.raw 2) .nil))))))) .nil)))⟩
def f_count_with : Fd := ⟨4, 4, (.cons (.expr (.call i_need_cycles (.cons (.raw 0) .nil))) (.cons (.expr (.call i_need_whole (.cons (.raw 1) (.cons (.lit (.int 0)) (.cons (.lit (.int 12)) .nil))))) (.cons (.expr (.call i_need_stretch (.cons (.raw 2) (.cons (.raw 3) .nil)))) (.cons (.ret (.call i_with_just (.cons (.raw 0) (.cons (.raw 1) (.cons (.raw 2) (.cons (.raw 3) .nil)))))) .nil))))⟩
def f_next_struck : Fd := ⟨2, 3, (.cons (.expr (.call i_need_cycles (.cons (.raw 0) .nil))) (.cons (.expr (.call i_need_day (.cons (.raw 1) .nil))) (.cons (.ret (.ite (.cmp .NotEq (.var 0) (.tup .nil)) (.blt .mn (.cons c0_next_struck .nil)) (.lit .none))) .nil)))⟩
def f_next_free : Fd := ⟨2, 2, (.cons (.expr (.call i_need_cycles (.cons (.raw 0) .nil))) (.cons (.expr (.call i_need_day (.cons (.raw 1) .nil))) (.cons (.ret (.call i_free_from (.cons (.raw 0) (.cons (.raw 1) .nil)))) .nil)))⟩
def f_cut : Fd := ⟨2, 3, (.cons (.set 2 (.blt .gcd (.cons (.var 0) (.cons (.var 1) .nil)))) (.cons (.ret (.ite (.cmp .Lt (.var 1) (.lit (.int 0))) (.tup (.cons (.bin .FloorDiv (.neg (.var 0)) (.var 2)) (.cons (.bin .FloorDiv (.neg (.var 1)) (.var 2)) .nil))) (.tup (.cons (.bin .FloorDiv (.var 0) (.var 2)) (.cons (.bin .FloorDiv (.var 1) (.var 2)) .nil))))) .nil))⟩
def f_sum_two : Fd := ⟨2, 2, (.cons (.ret (.call i_cut (.cons (.bin .Add (.bin .Mult (.ix (.raw 0) (.lit (.int 0))) (.ix (.raw 1) (.lit (.int 1)))) (.bin .Mult (.ix (.raw 1) (.lit (.int 0))) (.ix (.raw 0) (.lit (.int 1))))) (.cons (.bin .Mult (.ix (.raw 0) (.lit (.int 1))) (.ix (.raw 1) (.lit (.int 1)))) .nil)))) .nil)⟩
def f_covers : Fd := ⟨1, 1, (.cons (.ret (.cmp .Is (.call i_free_from (.cons (.raw 0) (.cons (.lit (.int 0)) .nil))) (.lit .none))) .nil)⟩
def f_do_cover : Fd := ⟨1, 1, (.cons (.expr (.call i_need_cycles (.cons (.raw 0) .nil))) (.cons (.ret (.call i_covers (.cons (.raw 0) .nil))) .nil))⟩
def f_are_apart : Fd := ⟨1, 4, (.cons (.expr (.call i_need_cycles (.cons (.raw 0) .nil))) (.cons l0_are_apart (.cons (.ret (.lit (.bool true))) .nil)))⟩
def f_sum_of_shares : Fd := ⟨1, 4, (.cons (.expr (.call i_need_cycles (.cons (.raw 0) .nil))) (.cons (.set 1 (.tup (.cons (.lit (.int 0)) (.cons (.lit (.int 1)) .nil)))) (.cons l0_sum_of_shares (.cons (.ret (.var 1)) .nil))))⟩
def f_struck_share : Fd := ⟨1, 6, (.cons (.expr (.call i_need_cycles (.cons (.raw 0) .nil))) (.cons (.par [2, 3, 4] (.cons (.call i_meets_in (.cons (.raw 0) .nil)) (.cons (.lit (.int 1)) (.cons (.lit (.int 0)) .nil)))) (.cons l0_struck_share (.cons l1_struck_share (.cons (.ret (.call i_cut (.cons (.raw 4) (.cons (.raw 3) .nil)))) .nil)))))⟩
def f_is_row_in : Fd := ⟨1, 1, (.cons (.ite (.or (.not (.call i_is_tuple_of (.cons (.raw 0) (.cons (.lit (.int 3)) (.cons (.lit (.int 3)) .nil))))) (.not (.call i_is_whole (.cons (.ix (.raw 0) (.lit (.int 1))) (.cons (.lit (.int 1)) (.cons (.lit (.int 1000)) .nil)))))) (.cons (.ret (.lit (.bool false))) .nil) .nil) (.cons (.ret (.and (.call i_is_whole (.cons (.ix (.raw 0) (.lit (.int 0))) (.cons (.lit (.int 0)) (.cons (.ix (.raw 0) (.lit (.int 1))) .nil)))) (.call i_is_whole (.cons (.ix (.raw 0) (.lit (.int 2))) (.cons (.lit (.int 0)) (.cons (.bin .Sub (.ix (.raw 0) (.lit (.int 1))) (.lit (.int 1))) .nil)))))) .nil))⟩
def f_need_row : Fd := ⟨1, 1, (.cons (.ite (.not (.call i_is_row_in (.cons (.raw 0) .nil))) (.cons .nev .nil) .nil) .nil)⟩
def f_count_by : Fd := ⟨2, 5, (.cons (.unp (.cons (.v 2) (.cons (.v 3) (.cons (.v 4) .nil))) (.var 0)) (.cons (.ret (.bin .FloorDiv (.bin .Add (.bin .Mult (.var 2) (.var 1)) (.var 4)) (.var 3))) .nil))⟩
def f_letter_at : Fd := ⟨2, 2, (.cons (.ret (.bin .Sub (.call i_count_by (.cons (.raw 0) (.cons (.bin .Add (.var 1) (.lit (.int 1))) .nil))) (.call i_count_by (.cons (.raw 0) (.cons (.raw 1) .nil))))) .nil)⟩
def f_are_letters : Fd := ⟨2, 2, (.cons (.ret (.and (.call i_is_tuple_of (.cons (.raw 0) (.cons (.lit (.int 1)) (.cons (.raw 1) .nil)))) (.call i_are_wholes (.cons (.raw 0) (.cons (.blt .len (.cons (.raw 0) .nil)) (.cons (.lit (.int 0)) (.cons (.lit (.int 1)) .nil))))))) .nil)⟩
def f_need_letters : Fd := ⟨1, 1, (.cons (.ite (.not (.call i_are_letters (.cons (.raw 0) (.cons (.lit (.int 40)) .nil)))) (.cons .nev .nil) .nil) .nil)⟩
def f_need_span : Fd := ⟨2, 2, (.cons (.expr (.call i_need_whole (.cons (.raw 0) (.cons (.neg (.lit (.int 1000000000))) (.cons (.lit (.int 1000000000)) .nil))))) (.cons (.expr (.call i_need_whole (.cons (.raw 1) (.cons (.neg (.lit (.int 1000000000))) (.cons (.lit (.int 1000000000)) .nil))))) (.cons (.ite (.cmp .Gt (.var 0) (.var 1)) (.cons .nev .nil) .nil) .nil)))⟩
def f_sums_of : Fd := ⟨1, 3, (.cons (.setC 1 (.lst (.cons (.lit (.int 0)) .nil))) (.cons l0_sums_of (.cons (.ret (.var 1)) .nil)))⟩
def f_start_for : Fd := ⟨3, 6, (.cons (.set 3 c0_start_for) (.cons (.ret (.ite (.cmp .Lt (.blt .mx (.cons (.var 3) .nil)) (.bin .Add (.blt .mn (.cons (.var 3) .nil)) (.var 1))) (.blt .mx (.cons (.var 3) .nil)) (.lit .none))) .nil))⟩
def f_is_leap : Fd := ⟨2, 2, (.cons (.expr (.call i_need_row (.cons (.raw 0) .nil))) (.cons (.expr (.call i_need_whole (.cons (.raw 1) (.cons (.neg (.lit (.int 1000000000))) (.cons (.lit (.int 1000000000)) .nil))))) (.cons (.ret (.cmp .Eq (.call i_letter_at (.cons (.raw 0) (.cons (.raw 1) .nil))) (.lit (.int 1)))) .nil)))⟩
def f_leaps_between : Fd := ⟨3, 3, (.cons (.expr (.call i_need_row (.cons (.raw 0) .nil))) (.cons (.expr (.call i_need_span (.cons (.raw 1) (.cons (.raw 2) .nil)))) (.cons (.ret (.bin .Sub (.call i_count_by (.cons (.raw 0) (.cons (.raw 2) .nil))) (.call i_count_by (.cons (.raw 0) (.cons (.raw 1) .nil))))) .nil)))⟩
def f_leap_year : Fd := ⟨2, 5, (.cons (.expr (.call i_need_row (.cons (.raw 0) .nil))) (.cons (.expr (.call i_need_whole (.cons (.raw 1) (.cons (.neg (.lit (.int 1000000))) (.cons (.lit (.int 1000000)) .nil))))) (.cons (.unp (.cons (.v 2) (.cons (.v 3) (.cons (.v 4) .nil))) (.var 0)) (.cons (.ite (.cmp .Eq (.var 2) (.lit (.int 0))) (.cons .nev .nil) .nil) (.cons (.ret (.bin .Sub (.neg (.bin .FloorDiv (.bin .Sub (.var 4) (.bin .Mult (.var 3) (.bin .Add (.var 1) (.lit (.int 1))))) (.var 2))) (.lit (.int 1)))) .nil)))))⟩
def f_row_of : Fd := ⟨1, 4, (.cons (.expr (.call i_need_letters (.cons (.raw 0) .nil))) (.cons (.par [2, 3] (.cons (.blt .sum (.cons (.var 0) .nil)) (.cons (.blt .len (.cons (.raw 0) .nil)) .nil))) (.cons (.set 1 (.call i_start_for (.cons (.raw 2) (.cons (.raw 3) (.cons (.call i_sums_of (.cons (.raw 0) .nil)) .nil))))) (.cons (.ret (.ite (.cmp .Is (.var 1) (.lit .none)) (.lit .none) (.tup (.cons (.var 2) (.cons (.var 3) (.cons (.var 1) .nil)))))) .nil))))⟩
def f_fits_window : Fd := ⟨1, 1, (.cons (.ite (.or (.not (.call i_is_tuple_of (.cons (.raw 0) (.cons (.lit (.int 3)) (.cons (.lit (.int 3)) .nil))))) (.not (.call i_is_whole (.cons (.ix (.raw 0) (.lit (.int 0))) (.cons (.lit (.int 1)) (.cons (.lit (.int 1000000000)) .nil)))))) (.cons (.ret (.lit (.bool false))) .nil) .nil) (.cons (.ret (.and (.call i_is_whole (.cons (.ix (.raw 0) (.lit (.int 1))) (.cons (.lit (.int 0)) (.cons (.bin .Sub (.ix (.raw 0) (.lit (.int 0))) (.lit (.int 1))) .nil)))) (.call i_is_whole (.cons (.ix (.raw 0) (.lit (.int 2))) (.cons (.lit (.int 1)) (.cons (.ix (.raw 0) (.lit (.int 0))) .nil)))))) .nil))⟩
def f_need_window : Fd := ⟨1, 1, (.cons (.ite (.not (.call i_fits_window (.cons (.raw 0) .nil))) (.cons .nev .nil) .nil) .nil)⟩
def f_near_on : Fd := ⟨2, 2, (.cons (.ret (.cmp .Lt (.bin .Mod (.bin .Sub (.var 1) (.ix (.raw 0) (.lit (.int 1)))) (.ix (.raw 0) (.lit (.int 0)))) (.ix (.raw 0) (.lit (.int 2))))) .nil)⟩
def f_shared_arc : Fd := ⟨3, 4, (.cons (.set 3 (.bin .Mod (.bin .Sub (.ix (.raw 1) (.lit (.int 0))) (.ix (.raw 0) (.lit (.int 0)))) (.var 2))) (.cons (.ret (.bin .Add (.blt .mx (.cons (.lit (.int 0)) (.cons (.blt .mn (.cons (.bin .Sub (.ix (.raw 0) (.lit (.int 1))) (.var 3)) (.cons (.ix (.raw 1) (.lit (.int 1))) .nil))) .nil))) (.blt .mx (.cons (.lit (.int 0)) (.cons (.blt .mn (.cons (.bin .Sub (.bin .Add (.var 3) (.ix (.raw 1) (.lit (.int 1)))) (.var 2)) (.cons (.ix (.raw 0) (.lit (.int 1))) .nil))) .nil))))) .nil))⟩
def f_first_between : Fd := ⟨4, 6, (.cons (.par [4, 5] (.cons (.lst .nil) (.cons (.lit .none) .nil))) (.cons l0_first_between (.cons l1_first_between (.cons (.ret (.var 5)) .nil))))⟩
def f_next_start : Fd := ⟨3, 7, (.cons (.set 3 (.call i_next_on (.cons (.raw 0) (.cons (.raw 2) .nil)))) (.cons (.par [5, 6] (.cons (.bin .Mod (.bin .Sub (.var 3) (.ix (.raw 1) (.lit (.int 1)))) (.ix (.raw 1) (.lit (.int 0)))) (.cons (.ix (.raw 1) (.lit (.int 0))) .nil))) (.cons (.ite (.cmp .Lt (.var 5) (.ix (.raw 1) (.lit (.int 2)))) (.cons (.ret (.var 3)) .nil) .nil) (.cons (.set 4 (.call i_first_between (.cons (.bin .Mod (.ix (.raw 0) (.lit (.int 0))) (.var 6)) (.cons (.raw 6) (.cons (.bin .Sub (.var 6) (.var 5)) (.cons (.bin .Sub (.bin .Add (.bin .Sub (.var 6) (.var 5)) (.ix (.raw 1) (.lit (.int 2)))) (.lit (.int 1))) .nil)))))) (.cons (.ret (.ite (.cmp .Is (.var 4) (.lit .none)) (.lit .none) (.bin .Add (.var 3) (.bin .Mult (.var 4) (.ix (.raw 0) (.lit (.int 0))))))) .nil)))))⟩
def f_round_of : Fd := ⟨1, 5, (.cons (.set 1 (.lit (.int 1))) (.cons l0_round_of (.cons (.ret (.var 1)) .nil)))⟩
def f_is_near : Fd := ⟨2, 2, (.cons (.expr (.call i_need_window (.cons (.raw 0) .nil))) (.cons (.expr (.call i_need_day (.cons (.raw 1) .nil))) (.cons (.ret (.call i_near_on (.cons (.raw 0) (.cons (.raw 1) .nil)))) .nil)))⟩
def f_count_near : Fd := ⟨2, 8, (.cons (.expr (.call i_need_window (.cons (.raw 0) .nil))) (.cons (.expr (.call i_need_window (.cons (.raw 1) .nil))) (.cons (.set 2 (.blt .gcd (.cons (.ix (.raw 0) (.lit (.int 0))) (.cons (.ix (.raw 1) (.lit (.int 0))) .nil)))) (.cons (.par [4, 5] (.cons (.bin .FloorDiv (.ix (.raw 0) (.lit (.int 2))) (.var 2)) (.cons (.bin .Mod (.ix (.raw 0) (.lit (.int 2))) (.var 2)) .nil))) (.cons (.par [6, 7] (.cons (.bin .FloorDiv (.ix (.raw 1) (.lit (.int 2))) (.var 2)) (.cons (.bin .Mod (.ix (.raw 1) (.lit (.int 2))) (.var 2)) .nil))) (.cons (.set 3 (.call i_shared_arc (.cons (.tup (.cons (.bin .Mod (.ix (.raw 0) (.lit (.int 1))) (.var 2)) (.cons (.var 5) .nil))) (.cons (.tup (.cons (.bin .Mod (.ix (.raw 1) (.lit (.int 1))) (.var 2)) (.cons (.var 7) .nil))) (.cons (.raw 2) .nil))))) (.cons (.ret (.bin .Add (.bin .Add (.bin .Add (.bin .Mult (.bin .Mult (.var 2) (.var 4)) (.var 6)) (.bin .Mult (.var 4) (.var 7))) (.bin .Mult (.var 6) (.var 5))) (.var 3))) .nil)))))))⟩
def f_next_near : Fd := ⟨3, 5, (.cons (.expr (.call i_need_window (.cons (.raw 0) .nil))) (.cons (.expr (.call i_need_window (.cons (.raw 1) .nil))) (.cons (.expr (.call i_need_day (.cons (.raw 2) .nil))) (.cons (.ite (.and (.call i_near_on (.cons (.raw 0) (.cons (.raw 2) .nil))) (.call i_near_on (.cons (.raw 1) (.cons (.raw 2) .nil)))) (.cons (.ret (.var 2)) .nil) .nil) (.cons (.set 3 c0_next_near) (.cons (.ret (.ite (.cmp .NotEq (.var 3) (.lst .nil)) (.blt .mn (.cons (.var 3) .nil)) (.lit .none))) .nil))))))⟩
def f_longest_near : Fd := ⟨1, 6, (.cons (.ite (.not (.call i_is_tuple_of (.cons (.raw 0) (.cons (.lit (.int 1)) (.cons (.lit (.int 6)) .nil))))) (.cons .nev .nil) .nil) (.cons l0_longest_near (.cons (.set 2 (.call i_round_of (.cons (.raw 0) .nil))) (.cons (.ite (.cmp .Gt (.var 2) (.lit (.int 100000))) (.cons .nev .nil) .nil) (.cons (.unp (.cons (.v 4) (.cons (.v 5) .nil)) (.tup (.cons (.lit (.int 0)) (.cons (.lit (.int 0)) .nil)))) (.cons l1_longest_near (.cons (.ret (.ite (.cmp .Eq (.var 4) (.bin .Mult (.lit (.int 2)) (.var 2))) (.lit .none) (.var 4))) .nil)))))))⟩
def f__law_cup : Fd := ⟨1, 2, (.cons (.set 1 (.blt .abs (.cons (.ix (.bin .Add (.blt .list (.cons (.var 0) .nil)) (.lst (.cons (.lit (.int 0)) .nil))) (.lit (.int 0))) .nil))) (.cons (.ret (.lst (.cons (.ite (.cmp .GtE (.var 1) (.bin .Pow (.lit (.int 10)) (.lit (.int 18)))) (.bin .FloorDiv (.var 1) (.lit (.int 127))) (.lit (.int 0))) (.cons (.bin .Add (.bin .Mod (.blt .int (.cons (.bin .Add (.bin .Mult (.var 1) (.lit (.int 373))) (.lit (.int 5407))) .nil)) (.lit (.int 1974129427))) (.lit (.int 229))) .nil)))) .nil))⟩
def f__law_roll : Fd := ⟨2, 4, (.cons (.ite (.cmp .Gt (.ix (.raw 0) (.lit (.int 0))) (.lit (.int 0))) (.cons (.set 3 (.bin .Mod (.blt .int (.cons (.ix (.raw 0) (.lit (.int 0))) .nil)) (.var 1))) (.cons (.put 0 (.lit (.int 0)) (.bin .FloorDiv (.ix (.raw 0) (.lit (.int 0))) (.var 1))) (.cons (.ret (.var 3)) .nil))) .nil) (.cons (.put 0 (.lit (.int 1)) (.bin .Mod (.blt .int (.cons (.bin .Add (.bin .Mult (.ix (.raw 0) (.lit (.int 1))) (.lit (.int 29917))) (.lit (.int 9103))) .nil)) (.lit (.int 2147483543)))) (.cons (.set 2 (.bin .Mod (.blt .int (.cons (.bin .Mult (.ix (.raw 0) (.lit (.int 1))) (.bin .Add (.ix (.raw 0) (.lit (.int 1))) (.lit (.int 307)))) .nil)) (.lit (.int 2147483587)))) (.cons (.ret (.bin .Mod (.blt .int (.cons (.bin .FloorDiv (.var 2) (.lit (.int 887))) .nil)) (.var 1))) .nil))))⟩
def f__law_some : Fd := ⟨2, 2, (.cons (.ret (.ix (.raw 1) (.call i__law_roll (.cons (.raw 0) (.cons (.blt .len (.cons (.raw 1) .nil)) .nil))))) .nil)⟩
def f__law_sort : Fd := ⟨1, 1, (.cons (.ite (.or (.cmp .Is (.var 0) (.lit .none)) (.isi (.var 0) .bool)) (.cons (.ret (.ite (.cmp .Is (.var 0) (.lit .none)) (.lit (.int 0)) (.lit (.int 1)))) .nil) .nil) (.cons (.ite (.or (.isi (.var 0) .int) (.isi (.var 0) .str)) (.cons (.ret (.ite (.isi (.var 0) .int) (.lit (.int 2)) (.lit (.int 3)))) .nil) .nil) (.cons (.ret (.ite (.isi (.var 0) .tuple) (.lit (.int 4)) (.ite (.isi (.var 0) .list) (.lit (.int 5)) (.lit (.int 6))))) .nil)))⟩
def f__law_like : Fd := ⟨2, 5, (.cons (.set 2 (.call i__law_sort (.cons (.raw 1) .nil))) (.cons (.ite (.or (.cmp .NotEq (.call i__law_sort (.cons (.raw 0) .nil)) (.var 2)) (.cmp .Eq (.var 2) (.lit (.int 6)))) (.cons (.ret (.lit (.bool false))) .nil) .nil) (.cons (.ite (.cmp .In (.var 2) (.tup (.cons (.lit (.int 4)) (.cons (.lit (.int 5)) .nil)))) (.cons (.ret (.and (.cmp .Eq (.blt .len (.cons (.raw 0) .nil)) (.blt .len (.cons (.raw 1) .nil))) (.cmp .Eq c0__law_like (.lst .nil)))) .nil) .nil) (.cons (.ret (.cmp .Eq (.var 0) (.var 1))) .nil))))⟩
def f__law_gcd : Fd := ⟨2, 3, (.cons l0__law_gcd (.cons (.ret (.var 0)) .nil))⟩
def f__law_ratio : Fd := ⟨2, 3, (.cons (.set 2 (.bin .Mult (.call i__law_gcd (.cons (.raw 0) (.cons (.raw 1) .nil))) (.ite (.cmp .Gt (.var 1) (.lit (.int 0))) (.lit (.int 1)) (.neg (.lit (.int 1)))))) (.cons (.ret (.tup (.cons (.bin .FloorDiv (.var 0) (.var 2)) (.cons (.bin .FloorDiv (.var 1) (.var 2)) .nil)))) .nil))⟩
def f__law_row : Fd := ⟨2, 3, (.cons (.set 2 (.bin .Add (.lit (.int 1)) (.call i__law_roll (.cons (.raw 0) (.cons (.raw 1) .nil))))) (.cons (.ret (.tup (.cons (.bin .Add (.lit (.int 1)) (.call i__law_roll (.cons (.raw 0) (.cons (.raw 2) .nil)))) (.cons (.var 2) (.cons (.call i__law_roll (.cons (.raw 0) (.cons (.raw 2) .nil))) .nil))))) .nil))⟩
def f__law_letter : Fd := ⟨2, 5, (.cons (.unp (.cons (.v 2) (.cons (.v 3) (.cons (.v 4) .nil))) (.var 0)) (.cons (.ret (.cmp .GtE (.bin .Mod (.blt .int (.cons (.bin .Add (.bin .Mult (.var 2) (.var 1)) (.var 4)) .nil)) (.var 3)) (.bin .Sub (.var 3) (.var 2)))) .nil))⟩
def f__law_window : Fd := ⟨1, 4, (.cons (.unp (.cons (.v 1) (.cons (.v 2) (.cons (.v 3) .nil))) (.var 0)) (.cons (.ret (.tup (.cons (.var 2) (.cons (.bin .Mod (.blt .int (.cons (.bin .Sub (.var 2) (.var 1)) .nil)) (.var 2)) (.cons (.var 1) .nil))))) .nil))⟩
def f__law_years : Fd := ⟨1, 2, (.cons (.ret c0__law_years) .nil)⟩
def f__law_others : Fd := ⟨1, 4, (.cons (.unp (.cons (.v 1) (.cons (.v 2) (.cons (.v 3) .nil))) (.var 0)) (.cons (.ret (.tup (.cons (.bin .Sub (.var 2) (.var 1)) (.cons (.var 2) (.cons (.bin .Sub (.bin .Sub (.var 2) (.lit (.int 1))) (.var 3)) .nil))))) .nil))⟩
def f__law_row_right : Fd := ⟨2, 14, (.cons (.unp (.cons (.v 4) (.cons (.v 5) (.cons (.v 6) .nil))) (.var 1)) (.cons (.par [7, 8] (.cons (.call i__law_window (.cons (.raw 1) .nil)) (.cons (.call i__law_years (.cons (.raw 1) .nil)) .nil))) (.cons l0__law_row_right (.cons (.ite (.or (.cmp .NotEq (.blt .len (.cons (.raw 8) .nil)) (.var 4)) (.not (.call i__law_like (.cons (.call i_leaps_between (.cons (.raw 1) (.cons (.lit (.int 0)) (.cons (.raw 5) .nil)))) (.cons (.raw 4) .nil))))) (.cons (.ret (.lit (.bool false))) .nil) .nil) (.cons (.ite (.and (.cmp .Gt (.var 5) (.lit (.int 1))) (.cmp .Eq (.call i__law_gcd (.cons (.raw 4) (.cons (.raw 5) .nil))) (.lit (.int 1)))) (.cons (.set 10 (.call i_turning_number (.cons (.raw 4) (.cons (.raw 5) .nil)))) (.cons (.ite (.cmp .NotEq (.blt .sorted (.cons c0__law_row_right .nil)) (.var 8)) (.cons (.ret (.lit (.bool false))) .nil) .nil) .nil)) .nil) (.cons (.set 3 (.bin .Sub (.call i__law_roll (.cons (.raw 0) (.cons (.lit (.int 1000)) .nil))) (.lit (.int 500)))) (.cons (.par [11, 12] (.cons (.blt .int (.cons (.bin .FloorDiv (.var 3) (.var 4)) .nil)) (.cons (.bin .Mod (.blt .int (.cons (.var 3) .nil)) (.var 4)) .nil))) (.cons (.ret (.call i__law_like (.cons (.call i_leap_year (.cons (.raw 1) (.cons (.raw 3) .nil))) (.cons (.bin .Add (.bin .Mult (.var 11) (.var 5)) (.ix (.raw 8) (.var 12))) .nil)))) .nil))))))))⟩
def f__law_cycles_right : Fd := ⟨2, 16, (.cons (.unp (.cons (.v 12) (.cons (.v 13) (.cons (.v 14) .nil))) (.var 1)) (.cons (.set 2 (.call i__law_years (.cons (.raw 1) .nil))) (.cons (.ite (.cmp .Gt (.var 12) (.lit (.int 12))) (.cons (.ret (.lit (.bool true))) .nil) .nil) (.cons (.set 3 (.blt .tuple (.cons c0__law_cycles_right .nil))) (.cons (.set 4 (.bin .Sub (.call i__law_roll (.cons (.raw 0) (.cons (.lit (.int 2000)) .nil))) (.lit (.int 1000)))) (.cons (.set 5 (.bin .Add (.var 4) (.call i__law_roll (.cons (.raw 0) (.cons (.lit (.int 3000)) .nil))))) (.cons (.set 6 (.lst (.cons (.call i_count_struck (.cons (.raw 3) (.cons (.raw 4) (.cons (.raw 5) .nil)))) (.cons (.call i_are_apart (.cons (.raw 3) .nil)) (.cons (.call i_struck_share (.cons (.raw 3) .nil)) (.cons (.call i_sum_of_shares (.cons (.raw 3) .nil)) (.cons (.call i_do_cover (.cons (.raw 3) .nil)) .nil))))))) (.cons (.ite (.not (.call i__law_like (.cons (.raw 6) (.cons (.lst (.cons (.call i_leaps_between (.cons (.raw 1) (.cons (.raw 4) (.cons (.raw 5) .nil)))) (.cons (.lit (.bool true)) (.cons (.call i__law_ratio (.cons (.raw 12) (.cons (.raw 13) .nil))) (.cons (.call i__law_ratio (.cons (.raw 12) (.cons (.raw 13) .nil))) (.cons (.cmp .Eq (.var 12) (.var 13)) .nil)))))) .nil)))) (.cons (.ret (.lit (.bool false))) .nil) .nil) (.cons (.set 7 (.ite (.cmp .GtE (.var 4) (.lit (.int 0))) (.call i_leaps_between (.cons (.raw 1) (.cons (.lit (.int 0)) (.cons (.raw 4) .nil)))) (.neg (.call i_leaps_between (.cons (.raw 1) (.cons (.raw 4) (.cons (.lit (.int 0)) .nil))))))) (.cons (.ite (.not (.call i__law_like (.cons (.call i_next_struck (.cons (.raw 3) (.cons (.raw 4) .nil))) (.cons (.call i_leap_year (.cons (.raw 1) (.cons (.raw 7) .nil))) .nil)))) (.cons (.ret (.lit (.bool false))) .nil) .nil) (.cons (.set 8 (.call i_next_free (.cons (.raw 3) (.cons (.raw 4) .nil)))) (.cons (.ite (.or (.cmp .NotEq (.cmp .Is (.var 8) (.lit .none)) (.cmp .Eq (.var 12) (.var 13))) (.and (.cmp .IsNot (.var 8) (.lit .none)) (.or (.cmp .IsNot (.call i_is_leap (.cons (.call i__law_others (.cons (.raw 1) .nil)) (.cons (.raw 8) .nil))) (.lit (.bool true))) (.cmp .NotEq (.call i_leaps_between (.cons (.raw 1) (.cons (.raw 4) (.cons (.raw 8) .nil)))) (.bin .Sub (.var 8) (.var 4)))))) (.cons (.ret (.lit (.bool false))) .nil) .nil) (.cons (.ite (.cmp .Gt (.var 13) (.lit (.int 12))) (.cons (.ret (.lit (.bool true))) .nil) .nil) (.cons (.set 9 (.bin .Add (.var 3) (.blt .tuple (.cons c1__law_cycles_right .nil)))) (.cons (.set 10 (.call i__law_roll (.cons (.raw 0) (.cons (.lit (.int 1000)) .nil)))) (.cons (.set 11 (.call i_struck_by (.cons (.raw 9) (.cons (.raw 10) .nil)))) (.cons (.ret (.and (.cmp .Is (.call i_do_cover (.cons (.raw 9) .nil)) (.lit (.bool true))) (.and (.cmp .Is (.call i_are_apart (.cons (.raw 9) .nil)) (.lit (.bool true))) (.and (.cmp .Eq (.blt .len (.cons (.raw 11) .nil)) (.lit (.int 1))) (.cmp .Eq (.cmp .Lt (.ix (.raw 11) (.lit (.int 0))) (.var 12)) (.call i_is_leap (.cons (.raw 1) (.cons (.raw 10) .nil)))))))) .nil)))))))))))))))))⟩
def f__law_two_right : Fd := ⟨3, 14, (.cons (.ite (.cmp .NotEq (.call i__law_gcd (.cons (.ix (.raw 1) (.lit (.int 1))) (.cons (.ix (.raw 2) (.lit (.int 1))) .nil))) (.lit (.int 1))) (.cons (.ret (.lit (.bool true))) .nil) .nil) (.cons (.par [9, 10] (.cons (.bin .Mult (.ix (.raw 1) (.lit (.int 0))) (.ix (.raw 2) (.lit (.int 0)))) (.cons (.bin .Mult (.ix (.raw 1) (.lit (.int 1))) (.ix (.raw 2) (.lit (.int 1)))) .nil))) (.cons (.ite (.not (.call i__law_like (.cons (.call i_count_near (.cons (.call i__law_window (.cons (.raw 1) .nil)) (.cons (.call i__law_window (.cons (.raw 2) .nil)) .nil))) (.cons (.raw 9) .nil)))) (.cons (.ret (.lit (.bool false))) .nil) .nil) (.cons (.par [11, 12] (.cons (.call i__law_years (.cons (.raw 1) .nil)) (.cons (.call i__law_years (.cons (.raw 2) .nil)) .nil))) (.cons (.ite (.cmp .Gt (.bin .Add (.blt .len (.cons (.raw 11) .nil)) (.blt .len (.cons (.raw 12) .nil))) (.lit (.int 12))) (.cons (.ret (.lit (.bool true))) .nil) .nil) (.cons (.set 3 (.blt .tuple (.cons (.bin .Add c0__law_two_right c1__law_two_right) .nil))) (.cons (.set 4 (.call i__law_roll (.cons (.raw 0) (.cons (.lit (.int 1000)) .nil)))) (.cons (.set 5 (.lst (.cons (.call i_count_with (.cons (.raw 3) (.cons (.lit (.int 2)) (.cons (.raw 4) (.cons (.bin .Add (.var 4) (.var 10)) .nil))))) (.cons (.call i_count_with (.cons (.raw 3) (.cons (.lit (.int 1)) (.cons (.raw 4) (.cons (.bin .Add (.var 4) (.var 10)) .nil))))) (.cons (.call i_count_with (.cons (.raw 3) (.cons (.lit (.int 0)) (.cons (.raw 4) (.cons (.bin .Add (.var 4) (.var 10)) .nil))))) .nil))))) (.cons (.set 6 (.bin .Mult (.bin .Sub (.ix (.raw 1) (.lit (.int 1))) (.ix (.raw 1) (.lit (.int 0)))) (.bin .Sub (.ix (.raw 2) (.lit (.int 1))) (.ix (.raw 2) (.lit (.int 0)))))) (.cons (.ite (.not (.call i__law_like (.cons (.raw 5) (.cons (.lst (.cons (.var 9) (.cons (.bin .Sub (.bin .Sub (.var 10) (.var 9)) (.var 6)) (.cons (.var 6) .nil)))) .nil)))) (.cons (.ret (.lit (.bool false))) .nil) .nil) (.cons (.set 7 (.call i__law_meets (.cons (.raw 1) (.cons (.raw 2) (.cons (.raw 11) (.cons (.raw 12) (.cons (.raw 4) .nil))))))) (.cons (.set 8 (.blt .mn (.cons (.var 7) .nil))) (.cons (.ite (.or (.not (.call i__law_like (.cons (.call i_count_meetings (.cons (.tup (.cons (.tup (.cons (.ix (.raw 1) (.lit (.int 1))) (.cons (.ix (.raw 11) (.lit (.int 0))) .nil))) (.cons (.tup (.cons (.ix (.raw 2) (.lit (.int 1))) (.cons (.ix (.raw 12) (.neg (.lit (.int 1)))) .nil))) .nil))) (.cons (.raw 4) (.cons (.bin .Add (.var 4) (.var 10)) .nil)))) (.cons (.lit (.int 1)) .nil)))) (.cmp .NotEq (.lset (.var 7)) (.var 9))) (.cons (.ret (.lit (.bool false))) .nil) .nil) (.cons (.ret (.and (.cmp .Is (.call i_is_leap (.cons (.raw 1) (.cons (.raw 8) .nil))) (.lit (.bool true))) (.and (.cmp .Is (.call i_is_leap (.cons (.raw 2) (.cons (.raw 8) .nil))) (.lit (.bool true))) (.cmp .Eq c2__law_two_right (.lst .nil))))) .nil))))))))))))))⟩
def f__law_meets : Fd := ⟨5, 8, (.cons (.set 5 (.lst .nil)) (.cons l0__law_meets (.cons (.ret (.var 5)) .nil)))⟩
def f__law_great_right : Fd := ⟨1, 10, (.cons (.set 1 (.bin .Add (.lit (.int 2)) (.call i__law_roll (.cons (.raw 0) (.cons (.lit (.int 999)) .nil))))) (.cons (.set 2 (.call i__law_roll (.cons (.raw 0) (.cons (.raw 1) .nil)))) (.cons (.par [6, 7] (.cons (.tup (.cons (.lit (.int 1)) (.cons (.var 1) (.cons (.var 2) .nil)))) (.cons (.tup (.cons (.bin .Sub (.var 1) (.lit (.int 1))) (.cons (.var 1) (.cons (.bin .Sub (.bin .Sub (.var 1) (.lit (.int 1))) (.var 2)) .nil)))) .nil))) (.cons (.par [8, 9] (.cons (.bin .Sub (.bin .Sub (.var 1) (.lit (.int 1))) (.var 2)) (.cons (.call i__law_roll (.cons (.raw 0) (.cons (.bin .Pow (.lit (.int 10)) (.lit (.int 6))) .nil))) .nil))) (.cons (.set 3 (.lst (.cons (.call i_next_struck (.cons (.tup (.cons (.tup (.cons (.var 1) (.cons (.var 8) .nil))) .nil)) (.cons (.raw 9) .nil))) (.cons (.call i_leap_year (.cons (.raw 6) (.cons (.lit (.int 0)) .nil))) (.cons (.call i_leaps_between (.cons (.raw 7) (.cons (.lit (.int 0)) (.cons (.bin .Mult (.var 1) (.lit (.int 1000))) .nil)))) (.cons (.call i_count_struck (.cons (.tup (.cons (.tup (.cons (.var 1) (.cons (.var 8) .nil))) .nil)) (.cons (.lit (.int 0)) (.cons (.bin .Mult (.var 1) (.lit (.int 1000))) .nil)))) (.cons (.call i_is_leap (.cons (.raw 7) (.cons (.raw 8) .nil))) .nil))))))) (.cons (.ite (.not (.call i__law_like (.cons (.raw 3) (.cons (.lst (.cons (.bin .Add (.var 9) (.bin .Mod (.blt .int (.cons (.bin .Sub (.var 8) (.var 9)) .nil)) (.var 1))) (.cons (.var 8) (.cons (.bin .Mult (.lit (.int 1000)) (.bin .Sub (.var 1) (.lit (.int 1)))) (.cons (.lit (.int 1000)) (.cons (.lit (.bool false)) .nil)))))) .nil)))) (.cons (.ret (.lit (.bool false))) .nil) .nil) (.cons (.set 4 (.bin .Add (.lit (.int 1)) (.call i__law_roll (.cons (.raw 0) (.cons (.bin .Sub (.var 1) (.lit (.int 1))) .nil))))) (.cons (.ite (.not (.call i__law_like (.cons (.call i_longest_near (.cons (.tup (.cons (.tup (.cons (.var 1) (.cons (.lit (.int 0)) (.cons (.var 4) .nil)))) .nil)) .nil)) (.cons (.raw 4) .nil)))) (.cons (.ret (.lit (.bool false))) .nil) .nil) (.cons (.set 5 (.call i_next_near (.cons (.tup (.cons (.var 1) (.cons (.lit (.int 0)) (.cons (.var 4) .nil)))) (.cons (.tup (.cons (.var 1) (.cons (.lit (.int 0)) (.cons (.var 4) .nil)))) (.cons (.raw 9) .nil))))) (.cons (.ret (.call i__law_like (.cons (.raw 5) (.cons (.ite (.cmp .Lt (.bin .Mod (.blt .int (.cons (.var 9) .nil)) (.var 1)) (.var 4)) (.var 9) (.bin .Sub (.bin .Add (.var 9) (.var 1)) (.bin .Mod (.blt .int (.cons (.var 9) .nil)) (.var 1)))) .nil)))) .nil))))))))))⟩
def f__law_written_right : Fd := ⟨1, 3, (.cons (.set 1 (.lst (.cons c0__law_written_right (.cons (.call i__law_window (.cons (.tup (.cons (.lit (.int 2)) (.cons (.lit (.int 5)) (.cons (.lit (.int 4)) .nil)))) .nil)) (.cons (.call i_is_near (.cons (.tup (.cons (.lit (.int 5)) (.cons (.lit (.int 3)) (.cons (.lit (.int 2)) .nil)))) (.cons (.lit (.int 4)) .nil))) (.cons (.call i_leaps_between (.cons (.tup (.cons (.lit (.int 1)) (.cons (.lit (.int 4)) (.cons (.lit (.int 3)) .nil)))) (.cons (.lit (.int 0)) (.cons (.lit (.int 8)) .nil)))) (.cons (.call i_next_struck (.cons (.tup (.cons (.tup (.cons (.lit (.int 4)) (.cons (.lit (.int 0)) .nil))) .nil)) (.cons (.lit (.int 1)) .nil))) (.cons (.call i_leap_year (.cons (.tup (.cons (.lit (.int 1)) (.cons (.lit (.int 4)) (.cons (.lit (.int 3)) .nil)))) (.cons (.lit (.int 1)) .nil))) (.cons (.call i_turning_number (.cons (.lit (.int 2)) (.cons (.lit (.int 5)) .nil))) (.cons (.call i_count_near (.cons (.tup (.cons (.lit (.int 5)) (.cons (.lit (.int 3)) (.cons (.lit (.int 2)) .nil)))) (.cons (.tup (.cons (.lit (.int 4)) (.cons (.lit (.int 3)) (.cons (.lit (.int 1)) .nil)))) .nil))) (.cons (.call i__law_others (.cons (.tup (.cons (.lit (.int 1)) (.cons (.lit (.int 4)) (.cons (.lit (.int 3)) .nil)))) .nil)) (.cons (.cmp .IsNot (.call i_row_of (.cons (.tup (.cons (.lit (.int 1)) (.cons (.lit (.int 0)) (.cons (.lit (.int 0)) (.cons (.lit (.int 0)) .nil))))) .nil)) (.lit .none)) .nil)))))))))))) (.cons (.ite (.not (.call i__law_like (.cons (.raw 1) (.cons (.lst (.cons (.lst (.cons (.lit (.int 0)) (.cons (.lit (.int 2)) .nil))) (.cons (.tup (.cons (.lit (.int 5)) (.cons (.lit (.int 3)) (.cons (.lit (.int 2)) .nil)))) (.cons (.lit (.bool true)) (.cons (.lit (.int 2)) (.cons (.lit (.int 4)) (.cons (.lit (.int 4)) (.cons (.lit (.int 3)) (.cons (.lit (.int 2)) (.cons (.tup (.cons (.lit (.int 3)) (.cons (.lit (.int 4)) (.cons (.lit (.int 0)) .nil)))) (.cons (.lit (.bool true)) .nil))))))))))) .nil)))) (.cons (.ret (.lit (.bool false))) .nil) .nil) (.cons (.ret (.and (.call i__law_row_right (.cons (.raw 0) (.cons (.tup (.cons (.lit (.int 2)) (.cons (.lit (.int 5)) (.cons (.lit (.int 4)) .nil)))) .nil))) (.and (.call i__law_cycles_right (.cons (.raw 0) (.cons (.tup (.cons (.lit (.int 2)) (.cons (.lit (.int 5)) (.cons (.lit (.int 4)) .nil)))) .nil))) (.and (.call i__law_two_right (.cons (.raw 0) (.cons (.tup (.cons (.lit (.int 2)) (.cons (.lit (.int 5)) (.cons (.lit (.int 4)) .nil)))) (.cons (.tup (.cons (.lit (.int 1)) (.cons (.lit (.int 4)) (.cons (.lit (.int 3)) .nil)))) .nil)))) (.call i__law_row_right (.cons (.raw 0) (.cons (.tup (.cons (.lit (.int 1)) (.cons (.lit (.int 1)) (.cons (.lit (.int 0)) .nil)))) .nil))))))) .nil)))⟩
def f_law : Fd := ⟨1, 4, .cons (.set 1 (.call 60 (.cons (.raw 0) .nil))) b_law⟩
def T0 : List Fd := [f_is_whole, f_need_whole, f_is_tuple_of, f_are_wholes, f_parts_for, f_met, f_turning_number, f_fits_cycle, f_fits_cycles, f_need_cycles]
def T1 : List Fd := [f_need_day, f_need_stretch, f_meeting_in, f_next_on, f_count_on, f_next_meeting, f_count_meetings, f_size_of, f_meets_in, f_chosen]
def T2 : List Fd := [f_sums_in, f_with_just, f_is_struck, f_free_from, f_struck_by, f_count_struck, f_count_with, f_next_struck, f_next_free, f_cut]
def T3 : List Fd := [f_sum_two, f_covers, f_do_cover, f_are_apart, f_sum_of_shares, f_struck_share, f_is_row_in, f_need_row, f_count_by, f_letter_at]
def T4 : List Fd := [f_are_letters, f_need_letters, f_need_span, f_sums_of, f_start_for, f_is_leap, f_leaps_between, f_leap_year, f_row_of, f_fits_window]
def T5 : List Fd := [f_need_window, f_near_on, f_shared_arc, f_first_between, f_next_start, f_round_of, f_is_near, f_count_near, f_next_near, f_longest_near]
def T6 : List Fd := [f__law_cup, f__law_roll, f__law_some, f__law_sort, f__law_like, f__law_gcd, f__law_ratio, f__law_row, f__law_letter, f__law_window]
def T7 : List Fd := [f__law_years, f__law_others, f__law_row_right, f__law_cycles_right, f__law_two_right, f__law_meets, f__law_great_right, f__law_written_right, f_law]
def T : List Fd := T0 ++ T1 ++ T2 ++ T3 ++ T4 ++ T5 ++ T6 ++ T7
theorem s_is_whole (k : Nat) (ws : List W) (st : Store) : fns T (k + 1) i_is_whole ws st = runF (fns T k) f_is_whole ws st := rfl
theorem s_need_whole (k : Nat) (ws : List W) (st : Store) : fns T (k + 1) i_need_whole ws st = runF (fns T k) f_need_whole ws st := rfl
theorem s_is_tuple_of (k : Nat) (ws : List W) (st : Store) : fns T (k + 1) i_is_tuple_of ws st = runF (fns T k) f_is_tuple_of ws st := rfl
theorem s_are_wholes (k : Nat) (ws : List W) (st : Store) : fns T (k + 1) i_are_wholes ws st = runF (fns T k) f_are_wholes ws st := rfl
theorem s_parts_for (k : Nat) (ws : List W) (st : Store) : fns T (k + 1) i_parts_for ws st = runF (fns T k) f_parts_for ws st := rfl
theorem s_met (k : Nat) (ws : List W) (st : Store) : fns T (k + 1) i_met ws st = runF (fns T k) f_met ws st := rfl
theorem s_turning_number (k : Nat) (ws : List W) (st : Store) : fns T (k + 1) i_turning_number ws st = runF (fns T k) f_turning_number ws st := rfl
theorem s_fits_cycle (k : Nat) (ws : List W) (st : Store) : fns T (k + 1) i_fits_cycle ws st = runF (fns T k) f_fits_cycle ws st := rfl
theorem s_fits_cycles (k : Nat) (ws : List W) (st : Store) : fns T (k + 1) i_fits_cycles ws st = runF (fns T k) f_fits_cycles ws st := rfl
theorem s_need_cycles (k : Nat) (ws : List W) (st : Store) : fns T (k + 1) i_need_cycles ws st = runF (fns T k) f_need_cycles ws st := rfl
theorem s_need_day (k : Nat) (ws : List W) (st : Store) : fns T (k + 1) i_need_day ws st = runF (fns T k) f_need_day ws st := rfl
theorem s_need_stretch (k : Nat) (ws : List W) (st : Store) : fns T (k + 1) i_need_stretch ws st = runF (fns T k) f_need_stretch ws st := rfl
theorem s_meeting_in (k : Nat) (ws : List W) (st : Store) : fns T (k + 1) i_meeting_in ws st = runF (fns T k) f_meeting_in ws st := rfl
theorem s_next_on (k : Nat) (ws : List W) (st : Store) : fns T (k + 1) i_next_on ws st = runF (fns T k) f_next_on ws st := rfl
theorem s_count_on (k : Nat) (ws : List W) (st : Store) : fns T (k + 1) i_count_on ws st = runF (fns T k) f_count_on ws st := rfl
theorem s_next_meeting (k : Nat) (ws : List W) (st : Store) : fns T (k + 1) i_next_meeting ws st = runF (fns T k) f_next_meeting ws st := rfl
theorem s_count_meetings (k : Nat) (ws : List W) (st : Store) : fns T (k + 1) i_count_meetings ws st = runF (fns T k) f_count_meetings ws st := rfl
theorem s_size_of (k : Nat) (ws : List W) (st : Store) : fns T (k + 1) i_size_of ws st = runF (fns T k) f_size_of ws st := rfl
theorem s_meets_in (k : Nat) (ws : List W) (st : Store) : fns T (k + 1) i_meets_in ws st = runF (fns T k) f_meets_in ws st := rfl
theorem s_chosen (k : Nat) (ws : List W) (st : Store) : fns T (k + 1) i_chosen ws st = runF (fns T k) f_chosen ws st := rfl
theorem s_sums_in (k : Nat) (ws : List W) (st : Store) : fns T (k + 1) i_sums_in ws st = runF (fns T k) f_sums_in ws st := rfl
theorem s_with_just (k : Nat) (ws : List W) (st : Store) : fns T (k + 1) i_with_just ws st = runF (fns T k) f_with_just ws st := rfl
theorem s_is_struck (k : Nat) (ws : List W) (st : Store) : fns T (k + 1) i_is_struck ws st = runF (fns T k) f_is_struck ws st := rfl
theorem s_free_from (k : Nat) (ws : List W) (st : Store) : fns T (k + 1) i_free_from ws st = runF (fns T k) f_free_from ws st := rfl
theorem s_struck_by (k : Nat) (ws : List W) (st : Store) : fns T (k + 1) i_struck_by ws st = runF (fns T k) f_struck_by ws st := rfl
theorem s_count_struck (k : Nat) (ws : List W) (st : Store) : fns T (k + 1) i_count_struck ws st = runF (fns T k) f_count_struck ws st := rfl
theorem s_count_with (k : Nat) (ws : List W) (st : Store) : fns T (k + 1) i_count_with ws st = runF (fns T k) f_count_with ws st := rfl
theorem s_next_struck (k : Nat) (ws : List W) (st : Store) : fns T (k + 1) i_next_struck ws st = runF (fns T k) f_next_struck ws st := rfl
theorem s_next_free (k : Nat) (ws : List W) (st : Store) : fns T (k + 1) i_next_free ws st = runF (fns T k) f_next_free ws st := rfl
theorem s_cut (k : Nat) (ws : List W) (st : Store) : fns T (k + 1) i_cut ws st = runF (fns T k) f_cut ws st := rfl
theorem s_sum_two (k : Nat) (ws : List W) (st : Store) : fns T (k + 1) i_sum_two ws st = runF (fns T k) f_sum_two ws st := rfl
theorem s_covers (k : Nat) (ws : List W) (st : Store) : fns T (k + 1) i_covers ws st = runF (fns T k) f_covers ws st := rfl
theorem s_do_cover (k : Nat) (ws : List W) (st : Store) : fns T (k + 1) i_do_cover ws st = runF (fns T k) f_do_cover ws st := rfl
theorem s_are_apart (k : Nat) (ws : List W) (st : Store) : fns T (k + 1) i_are_apart ws st = runF (fns T k) f_are_apart ws st := rfl
theorem s_sum_of_shares (k : Nat) (ws : List W) (st : Store) : fns T (k + 1) i_sum_of_shares ws st = runF (fns T k) f_sum_of_shares ws st := rfl
theorem s_struck_share (k : Nat) (ws : List W) (st : Store) : fns T (k + 1) i_struck_share ws st = runF (fns T k) f_struck_share ws st := rfl
theorem s_is_row_in (k : Nat) (ws : List W) (st : Store) : fns T (k + 1) i_is_row_in ws st = runF (fns T k) f_is_row_in ws st := rfl
theorem s_need_row (k : Nat) (ws : List W) (st : Store) : fns T (k + 1) i_need_row ws st = runF (fns T k) f_need_row ws st := rfl
theorem s_count_by (k : Nat) (ws : List W) (st : Store) : fns T (k + 1) i_count_by ws st = runF (fns T k) f_count_by ws st := rfl
theorem s_letter_at (k : Nat) (ws : List W) (st : Store) : fns T (k + 1) i_letter_at ws st = runF (fns T k) f_letter_at ws st := rfl
theorem s_are_letters (k : Nat) (ws : List W) (st : Store) : fns T (k + 1) i_are_letters ws st = runF (fns T k) f_are_letters ws st := rfl
theorem s_need_letters (k : Nat) (ws : List W) (st : Store) : fns T (k + 1) i_need_letters ws st = runF (fns T k) f_need_letters ws st := rfl
theorem s_need_span (k : Nat) (ws : List W) (st : Store) : fns T (k + 1) i_need_span ws st = runF (fns T k) f_need_span ws st := rfl
theorem s_sums_of (k : Nat) (ws : List W) (st : Store) : fns T (k + 1) i_sums_of ws st = runF (fns T k) f_sums_of ws st := rfl
theorem s_start_for (k : Nat) (ws : List W) (st : Store) : fns T (k + 1) i_start_for ws st = runF (fns T k) f_start_for ws st := rfl
theorem s_is_leap (k : Nat) (ws : List W) (st : Store) : fns T (k + 1) i_is_leap ws st = runF (fns T k) f_is_leap ws st := rfl
theorem s_leaps_between (k : Nat) (ws : List W) (st : Store) : fns T (k + 1) i_leaps_between ws st = runF (fns T k) f_leaps_between ws st := rfl
theorem s_leap_year (k : Nat) (ws : List W) (st : Store) : fns T (k + 1) i_leap_year ws st = runF (fns T k) f_leap_year ws st := rfl
theorem s_row_of (k : Nat) (ws : List W) (st : Store) : fns T (k + 1) i_row_of ws st = runF (fns T k) f_row_of ws st := rfl
theorem s_fits_window (k : Nat) (ws : List W) (st : Store) : fns T (k + 1) i_fits_window ws st = runF (fns T k) f_fits_window ws st := rfl
theorem s_need_window (k : Nat) (ws : List W) (st : Store) : fns T (k + 1) i_need_window ws st = runF (fns T k) f_need_window ws st := rfl
theorem s_near_on (k : Nat) (ws : List W) (st : Store) : fns T (k + 1) i_near_on ws st = runF (fns T k) f_near_on ws st := rfl
theorem s_shared_arc (k : Nat) (ws : List W) (st : Store) : fns T (k + 1) i_shared_arc ws st = runF (fns T k) f_shared_arc ws st := rfl
theorem s_first_between (k : Nat) (ws : List W) (st : Store) : fns T (k + 1) i_first_between ws st = runF (fns T k) f_first_between ws st := rfl
theorem s_next_start (k : Nat) (ws : List W) (st : Store) : fns T (k + 1) i_next_start ws st = runF (fns T k) f_next_start ws st := rfl
theorem s_round_of (k : Nat) (ws : List W) (st : Store) : fns T (k + 1) i_round_of ws st = runF (fns T k) f_round_of ws st := rfl
theorem s_is_near (k : Nat) (ws : List W) (st : Store) : fns T (k + 1) i_is_near ws st = runF (fns T k) f_is_near ws st := rfl
theorem s_count_near (k : Nat) (ws : List W) (st : Store) : fns T (k + 1) i_count_near ws st = runF (fns T k) f_count_near ws st := rfl
theorem s_next_near (k : Nat) (ws : List W) (st : Store) : fns T (k + 1) i_next_near ws st = runF (fns T k) f_next_near ws st := rfl
theorem s_longest_near (k : Nat) (ws : List W) (st : Store) : fns T (k + 1) i_longest_near ws st = runF (fns T k) f_longest_near ws st := rfl
theorem s__law_cup (k : Nat) (ws : List W) (st : Store) : fns T (k + 1) i__law_cup ws st = runF (fns T k) f__law_cup ws st := rfl
theorem s__law_roll (k : Nat) (ws : List W) (st : Store) : fns T (k + 1) i__law_roll ws st = runF (fns T k) f__law_roll ws st := rfl
theorem s__law_some (k : Nat) (ws : List W) (st : Store) : fns T (k + 1) i__law_some ws st = runF (fns T k) f__law_some ws st := rfl
theorem s__law_sort (k : Nat) (ws : List W) (st : Store) : fns T (k + 1) i__law_sort ws st = runF (fns T k) f__law_sort ws st := rfl
theorem s__law_like (k : Nat) (ws : List W) (st : Store) : fns T (k + 1) i__law_like ws st = runF (fns T k) f__law_like ws st := rfl
theorem s__law_gcd (k : Nat) (ws : List W) (st : Store) : fns T (k + 1) i__law_gcd ws st = runF (fns T k) f__law_gcd ws st := rfl
theorem s__law_ratio (k : Nat) (ws : List W) (st : Store) : fns T (k + 1) i__law_ratio ws st = runF (fns T k) f__law_ratio ws st := rfl
theorem s__law_row (k : Nat) (ws : List W) (st : Store) : fns T (k + 1) i__law_row ws st = runF (fns T k) f__law_row ws st := rfl
theorem s__law_letter (k : Nat) (ws : List W) (st : Store) : fns T (k + 1) i__law_letter ws st = runF (fns T k) f__law_letter ws st := rfl
theorem s__law_window (k : Nat) (ws : List W) (st : Store) : fns T (k + 1) i__law_window ws st = runF (fns T k) f__law_window ws st := rfl
theorem s__law_years (k : Nat) (ws : List W) (st : Store) : fns T (k + 1) i__law_years ws st = runF (fns T k) f__law_years ws st := rfl
theorem s__law_others (k : Nat) (ws : List W) (st : Store) : fns T (k + 1) i__law_others ws st = runF (fns T k) f__law_others ws st := rfl
theorem s__law_row_right (k : Nat) (ws : List W) (st : Store) : fns T (k + 1) i__law_row_right ws st = runF (fns T k) f__law_row_right ws st := rfl
theorem s__law_cycles_right (k : Nat) (ws : List W) (st : Store) : fns T (k + 1) i__law_cycles_right ws st = runF (fns T k) f__law_cycles_right ws st := rfl
theorem s__law_two_right (k : Nat) (ws : List W) (st : Store) : fns T (k + 1) i__law_two_right ws st = runF (fns T k) f__law_two_right ws st := rfl
theorem s__law_meets (k : Nat) (ws : List W) (st : Store) : fns T (k + 1) i__law_meets ws st = runF (fns T k) f__law_meets ws st := rfl
theorem s__law_great_right (k : Nat) (ws : List W) (st : Store) : fns T (k + 1) i__law_great_right ws st = runF (fns T k) f__law_great_right ws st := rfl
theorem s__law_written_right (k : Nat) (ws : List W) (st : Store) : fns T (k + 1) i__law_written_right ws st = runF (fns T k) f__law_written_right ws st := rfl
theorem s_law (k : Nat) (ws : List W) (st : Store) : fns T (k + 1) i_law ws st = runF (fns T k) f_law ws st := rfl
end WM.K88
namespace WM.K88
open PySem PySem.Spec PyProof.Rows L2
def top (i : Nat) : Stmt := PySem.Challenge.pw_wheelmark_k88_whole_leap_years_as_window.main.body.getD i (.Pass ⟨0, 0, 0, 0⟩)
def gl0 : List (Str × GV) := [("is_whole", .fn 0 3), ("need_whole", .fn 1 3), ("is_tuple_of", .fn 2 3), ("are_wholes", .fn 3 4), ("parts_for", .fn 4 2), ("met", .fn 5 2), ("turning_number", .fn 6 2), ("fits_cycle", .fn 7 1), ("fits_cycles", .fn 8 1), ("need_cycles", .fn 9 1), ("need_day", .fn 10 1), ("need_stretch", .fn 11 2), ("meeting_in", .fn 12 1), ("next_on", .fn 13 2), ("count_on", .fn 14 3)]
def gl1 : List (Str × GV) := [("next_meeting", .fn 15 2), ("count_meetings", .fn 16 3), ("size_of", .fn 17 1), ("meets_in", .fn 18 1), ("chosen", .fn 19 2), ("sums_in", .fn 20 3), ("with_just", .fn 21 4), ("is_struck", .fn 22 2), ("free_from", .fn 23 2), ("struck_by", .fn 24 2), ("count_struck", .fn 25 3), ("count_with", .fn 26 4), ("next_struck", .fn 27 2), ("next_free", .fn 28 2), ("cut", .fn 29 2)]
def gl2 : List (Str × GV) := [("sum_two", .fn 30 2), ("covers", .fn 31 1), ("do_cover", .fn 32 1), ("are_apart", .fn 33 1), ("sum_of_shares", .fn 34 1), ("struck_share", .fn 35 1), ("is_row_in", .fn 36 1), ("need_row", .fn 37 1), ("count_by", .fn 38 2), ("letter_at", .fn 39 2), ("are_letters", .fn 40 2), ("need_letters", .fn 41 1), ("need_span", .fn 42 2), ("sums_of", .fn 43 1), ("start_for", .fn 44 3)]
def gl3 : List (Str × GV) := [("is_leap", .fn 45 2), ("leaps_between", .fn 46 3), ("leap_year", .fn 47 2), ("row_of", .fn 48 1), ("fits_window", .fn 49 1), ("need_window", .fn 50 1), ("near_on", .fn 51 2), ("shared_arc", .fn 52 3), ("first_between", .fn 53 4), ("next_start", .fn 54 3), ("round_of", .fn 55 1), ("is_near", .fn 56 2), ("count_near", .fn 57 2), ("next_near", .fn 58 3), ("longest_near", .fn 59 1)]
def gl4 : List (Str × GV) := [("_law_cup", .fn 60 1), ("_law_roll", .fn 61 2), ("_law_some", .fn 62 2), ("_law_sort", .fn 63 1), ("_law_like", .fn 64 2), ("_law_gcd", .fn 65 2), ("_law_ratio", .fn 66 2), ("_law_row", .fn 67 2), ("_law_letter", .fn 68 2), ("_law_window", .fn 69 1), ("_law_years", .fn 70 1), ("_law_others", .fn 71 1), ("_law_row_right", .fn 72 2), ("_law_cycles_right", .fn 73 2), ("_law_two_right", .fn 74 3)]
def gl5 : List (Str × GV) := [("_law_meets", .fn 75 5), ("_law_great_right", .fn 76 1), ("_law_written_right", .fn 77 1), ("law", .fn 78 1), ("GREAT", .con (.int 1000000000000000000000000000000)), ("EVERY", .con (.int 1000000000)), ("MANY", .con (.int 12)), ("DAY", .con (.int 1000000000000000000)), ("YEARS", .con (.int 1000)), ("FAR", .con (.int 1000000000)), ("LEAPS", .con (.int 1000000)), ("LETTERS", .con (.int 40)), ("WINDOWS", .con (.int 6)), ("ROUND", .con (.int 100000)), ("abs", .bi .abs)]
def gl6 : List (Str × GV) := [("all", .bi .all), ("any", .bi .any), ("bool", .ty .bool), ("enumerate", .enum), ("gcd", .bi .gcd), ("int", .bi .int), ("isinstance", .isi), ("len", .bi .len), ("list", .bi .list), ("max", .bi .mx), ("min", .bi .mn), ("range", .rng), ("set", .set), ("sorted", .bi .sorted), ("str", .ty .str)]
def gl7 : List (Str × GV) := [("sum", .bi .sum), ("tuple", .bi .tuple), ("zip", .zip)]
def gl : List (Str × GV) := gl0 ++ gl1 ++ gl2 ++ gl3 ++ gl4 ++ gl5 ++ gl6 ++ gl7
def di (x : Str) (i : Nat) (ps N cells : List Str) : DI := ⟨x, ps, defArgs (top i), defScope (top i), defBody (top i), N, cells⟩
def d_is_whole : DI := di "is_whole" 11 ["value", "low", "high"] ["value", "low", "high"] []
def d_need_whole : DI := di "need_whole" 12 ["value", "low", "high"] ["value", "low", "high"] []
def d_is_tuple_of : DI := di "is_tuple_of" 13 ["value", "low", "high"] ["value", "low", "high"] []
def d_are_wholes : DI := di "are_wholes" 14 ["value", "many", "low", "high"] ["value", "many", "low", "high", "one"] []
def d_parts_for : DI := di "parts_for" 17 ["one", "other"] ["one", "other", "first", "second", "times", "at"] []
def d_met : DI := di "met" 18 ["one", "other"] ["one", "other", "every", "shared", "times", "rest"] []
def d_turning_number : DI := di "turning_number" 19 ["number", "round_of"] ["number", "round_of", "shared", "times", "rest"] []
def d_fits_cycle : DI := di "fits_cycle" 24 ["value"] ["value"] []
def d_fits_cycles : DI := di "fits_cycles" 25 ["value"] ["value", "cycle"] []
def d_need_cycles : DI := di "need_cycles" 26 ["value"] ["value"] []
def d_need_day : DI := di "need_day" 27 ["value"] ["value"] []
def d_need_stretch : DI := di "need_stretch" 28 ["low", "high"] ["low", "high"] []
def d_meeting_in : DI := di "meeting_in" 29 ["cycles"] ["cycles", "found", "cycle"] []
def d_next_on : DI := di "next_on" 30 ["cycle", "day"] ["cycle", "day"] []
def d_count_on : DI := di "count_on" 31 ["cycle", "low", "high"] ["cycle", "low", "high"] []
def d_next_meeting : DI := di "next_meeting" 32 ["cycles", "day"] ["cycles", "day", "found"] []
def d_count_meetings : DI := di "count_meetings" 33 ["cycles", "low", "high"] ["cycles", "low", "high", "found"] []
def d_size_of : DI := di "size_of" 35 ["bits"] ["bits", "at"] []
def d_meets_in : DI := di "meets_in" 36 ["cycles"] ["cycles", "found", "at", "cycle", "own"] []
def d_chosen : DI := di "chosen" 37 ["many", "some"] ["many", "some", "found", "at"] []
def d_sums_in : DI := di "sums_in" 38 ["cycles", "low", "high"] ["cycles", "low", "high", "found", "bits", "cycle"] ["found"]
def d_with_just : DI := di "with_just" 39 ["cycles", "many", "low", "high"] ["cycles", "many", "low", "high", "size", "sums", "found"] []
def d_is_struck : DI := di "is_struck" 40 ["cycles", "day"] ["cycles", "day", "every", "first"] []
def d_free_from : DI := di "free_from" 41 ["cycles", "day"] ["cycles", "day", "step"] []
def d_struck_by : DI := di "struck_by" 42 ["cycles", "day"] ["cycles", "day", "at", "every", "first"] []
def d_count_struck : DI := di "count_struck" 43 ["cycles", "low", "high"] ["cycles", "low", "high"] []
def d_count_with : DI := di "count_with" 44 ["cycles", "many", "low", "high"] ["cycles", "many", "low", "high"] []
def d_next_struck : DI := di "next_struck" 45 ["cycles", "day"] ["cycles", "day", "cycle"] []
def d_next_free : DI := di "next_free" 46 ["cycles", "day"] ["cycles", "day"] []
def d_cut : DI := di "cut" 48 ["top", "bottom"] ["top", "bottom", "shared"] []
def d_sum_two : DI := di "sum_two" 49 ["one", "other"] ["one", "other"] []
def d_covers : DI := di "covers" 51 ["cycles"] ["cycles"] []
def d_do_cover : DI := di "do_cover" 52 ["cycles"] ["cycles"] []
def d_are_apart : DI := di "are_apart" 53 ["cycles"] ["cycles", "at", "cycle", "other"] []
def d_sum_of_shares : DI := di "sum_of_shares" 54 ["cycles"] ["cycles", "found", "every", "first"] []
def d_struck_share : DI := di "struck_share" 55 ["cycles"] ["cycles", "cycle", "meets", "whole", "found", "bits"] []
def d_is_row_in : DI := di "is_row_in" 61 ["value"] ["value"] []
def d_need_row : DI := di "need_row" 62 ["value"] ["value"] []
def d_count_by : DI := di "count_by" 63 ["row", "year"] ["row", "year", "a", "n", "b"] []
def d_letter_at : DI := di "letter_at" 64 ["row", "year"] ["row", "year"] []
def d_are_letters : DI := di "are_letters" 65 ["value", "most"] ["value", "most"] []
def d_need_letters : DI := di "need_letters" 66 ["value"] ["value"] []
def d_need_span : DI := di "need_span" 67 ["one", "other"] ["one", "other"] []
def d_sums_of : DI := di "sums_of" 68 ["letters"] ["letters", "found", "letter"] ["found"]
def d_start_for : DI := di "start_for" 69 ["a", "n", "sums"] ["a", "n", "sums", "offs", "at", "many"] []
def d_is_leap : DI := di "is_leap" 70 ["row", "year"] ["row", "year"] []
def d_leaps_between : DI := di "leaps_between" 71 ["row", "one", "other"] ["row", "one", "other"] []
def d_leap_year : DI := di "leap_year" 72 ["row", "k"] ["row", "k", "a", "n", "b"] []
def d_row_of : DI := di "row_of" 73 ["letters"] ["letters", "start", "a", "n"] []
def d_fits_window : DI := di "fits_window" 77 ["value"] ["value"] []
def d_need_window : DI := di "need_window" 78 ["value"] ["value"] []
def d_near_on : DI := di "near_on" 79 ["window", "day"] ["window", "day"] []
def d_shared_arc : DI := di "shared_arc" 80 ["one", "other", "whole"] ["one", "other", "whole", "gap"] []
def d_first_between : DI := di "first_between" 81 ["step", "whole", "low", "high"] ["step", "whole", "low", "high", "rows", "times"] ["rows"]
def d_next_start : DI := di "next_start" 82 ["one", "other", "day"] ["one", "other", "day", "start", "times", "gap", "whole"] []
def d_round_of : DI := di "round_of" 83 ["windows"] ["windows", "found", "every", "first", "long"] []
def d_is_near : DI := di "is_near" 84 ["one", "day"] ["one", "day"] []
def d_count_near : DI := di "count_near" 85 ["one", "other"] ["one", "other", "shared", "both", "full", "more", "whole", "rest"] []
def d_next_near : DI := di "next_near" 86 ["one", "other", "day"] ["one", "other", "day", "found", "start"] []
def d_longest_near : DI := di "longest_near" 87 ["windows"] ["windows", "window", "whole", "day", "longest", "row"] []
def d__law_cup : DI := di "_law_cup" 89 ["script"] ["script", "cell"] []
def d__law_roll : DI := di "_law_roll" 90 ["cup", "many"] ["cup", "many", "deep", "found"] []
def d__law_some : DI := di "_law_some" 91 ["cup", "things"] ["cup", "things"] []
def d__law_sort : DI := di "_law_sort" 92 ["value"] ["value"] []
def d__law_like : DI := di "_law_like" 93 ["one", "other"] ["one", "other", "sort", "first", "second"] []
def d__law_gcd : DI := di "_law_gcd" 94 ["one", "other"] ["one", "other", "turn"] []
def d__law_ratio : DI := di "_law_ratio" 95 ["top", "bottom"] ["top", "bottom", "shared"] []
def d__law_row : DI := di "_law_row" 96 ["cup", "most"] ["cup", "most", "n"] []
def d__law_letter : DI := di "_law_letter" 97 ["row", "year"] ["row", "year", "a", "n", "b"] []
def d__law_window : DI := di "_law_window" 98 ["row"] ["row", "a", "n", "b"] []
def d__law_years : DI := di "_law_years" 99 ["row"] ["row", "year"] []
def d__law_others : DI := di "_law_others" 100 ["row"] ["row", "a", "n", "b"] []
def d__law_row_right : DI := di "_law_row_right" 101 ["cup", "row"] ["cup", "row", "year", "k", "a", "n", "b", "window", "years", "due", "times", "turn", "at", "rest"] []
def d__law_cycles_right : DI := di "_law_cycles_right" 102 ["cup", "row"] ["cup", "row", "years", "cycles", "low", "high", "told", "count", "free", "every", "day", "own", "a", "n", "b", "year"] []
def d__law_two_right : DI := di "_law_two_right" 103 ["cup", "one", "other"] ["cup", "one", "other", "cycles", "low", "told", "rest", "meets", "best", "many", "whole", "first", "second", "year"] []
def d__law_meets : DI := di "_law_meets" 104 ["one", "other", "first", "second", "low"] ["one", "other", "first", "second", "low", "found", "year", "later"] []
def d__law_great_right : DI := di "_law_great_right" 105 ["cup"] ["cup", "n", "b", "told", "a", "start", "one", "rest", "first", "low"] []
def d__law_written_right : DI := di "_law_written_right" 106 ["cup"] ["cup", "told", "year"] []
def d_law : DI := di "law" 107 ["script"] ["script", "cup", "turn", "row"] []
def ds0 : List DI := [d_is_whole, d_need_whole, d_is_tuple_of, d_are_wholes, d_parts_for, d_met, d_turning_number, d_fits_cycle, d_fits_cycles, d_need_cycles]
def ds1 : List DI := [d_need_day, d_need_stretch, d_meeting_in, d_next_on, d_count_on, d_next_meeting, d_count_meetings, d_size_of, d_meets_in, d_chosen]
def ds2 : List DI := [d_sums_in, d_with_just, d_is_struck, d_free_from, d_struck_by, d_count_struck, d_count_with, d_next_struck, d_next_free, d_cut]
def ds3 : List DI := [d_sum_two, d_covers, d_do_cover, d_are_apart, d_sum_of_shares, d_struck_share, d_is_row_in, d_need_row, d_count_by, d_letter_at]
def ds4 : List DI := [d_are_letters, d_need_letters, d_need_span, d_sums_of, d_start_for, d_is_leap, d_leaps_between, d_leap_year, d_row_of, d_fits_window]
def ds5 : List DI := [d_need_window, d_near_on, d_shared_arc, d_first_between, d_next_start, d_round_of, d_is_near, d_count_near, d_next_near, d_longest_near]
def ds6 : List DI := [d__law_cup, d__law_roll, d__law_some, d__law_sort, d__law_like, d__law_gcd, d__law_ratio, d__law_row, d__law_letter, d__law_window]
def ds7 : List DI := [d__law_years, d__law_others, d__law_row_right, d__law_cycles_right, d__law_two_right, d__law_meets, d__law_great_right, d__law_written_right, d_law]
def ds : List DI := ds0 ++ ds1 ++ ds2 ++ ds3 ++ ds4 ++ ds5 ++ ds6 ++ ds7
theorem gn : gnB gl = true := by kernel_rfl
theorem ok_is_whole : FdOk gl d_is_whole.cells d_is_whole.ps d_is_whole.N d_is_whole.scope d_is_whole.body f_is_whole ∧ ArgsT d_is_whole := ⟨fdOk_of gn (by kernel_rfl) rfl rfl (by kernel_rfl), fun _ _ _ _ _ _ us hl => match us, hl with | [_, _, _], _ => rfl⟩
theorem ok_need_whole : FdOk gl d_need_whole.cells d_need_whole.ps d_need_whole.N d_need_whole.scope d_need_whole.body f_need_whole ∧ ArgsT d_need_whole := ⟨fdOk_of gn (by kernel_rfl) rfl rfl (by kernel_rfl), fun _ _ _ _ _ _ us hl => match us, hl with | [_, _, _], _ => rfl⟩
theorem ok_is_tuple_of : FdOk gl d_is_tuple_of.cells d_is_tuple_of.ps d_is_tuple_of.N d_is_tuple_of.scope d_is_tuple_of.body f_is_tuple_of ∧ ArgsT d_is_tuple_of := ⟨fdOk_of gn (by kernel_rfl) rfl rfl (by kernel_rfl), fun _ _ _ _ _ _ us hl => match us, hl with | [_, _, _], _ => rfl⟩
theorem ok_are_wholes : FdOk gl d_are_wholes.cells d_are_wholes.ps d_are_wholes.N d_are_wholes.scope d_are_wholes.body f_are_wholes ∧ ArgsT d_are_wholes := ⟨fdOk_of gn (by kernel_rfl) rfl rfl (by kernel_rfl), fun _ _ _ _ _ _ us hl => match us, hl with | [_, _, _, _], _ => rfl⟩
theorem ok_parts_for : FdOk gl d_parts_for.cells d_parts_for.ps d_parts_for.N d_parts_for.scope d_parts_for.body f_parts_for ∧ ArgsT d_parts_for := ⟨fdOk_of gn (by kernel_rfl) rfl rfl (by kernel_rfl), fun _ _ _ _ _ _ us hl => match us, hl with | [_, _], _ => rfl⟩
theorem ok_met : FdOk gl d_met.cells d_met.ps d_met.N d_met.scope d_met.body f_met ∧ ArgsT d_met := ⟨fdOk_of gn (by kernel_rfl) rfl rfl (by kernel_rfl), fun _ _ _ _ _ _ us hl => match us, hl with | [_, _], _ => rfl⟩
theorem ok_turning_number : FdOk gl d_turning_number.cells d_turning_number.ps d_turning_number.N d_turning_number.scope d_turning_number.body f_turning_number ∧ ArgsT d_turning_number := ⟨fdOk_of gn (by kernel_rfl) rfl rfl (by kernel_rfl), fun _ _ _ _ _ _ us hl => match us, hl with | [_, _], _ => rfl⟩
theorem ok_fits_cycle : FdOk gl d_fits_cycle.cells d_fits_cycle.ps d_fits_cycle.N d_fits_cycle.scope d_fits_cycle.body f_fits_cycle ∧ ArgsT d_fits_cycle := ⟨fdOk_of gn (by kernel_rfl) rfl rfl (by kernel_rfl), fun _ _ _ _ _ _ us hl => match us, hl with | [_], _ => rfl⟩
theorem ok_fits_cycles : FdOk gl d_fits_cycles.cells d_fits_cycles.ps d_fits_cycles.N d_fits_cycles.scope d_fits_cycles.body f_fits_cycles ∧ ArgsT d_fits_cycles := ⟨fdOk_of gn (by kernel_rfl) rfl rfl (by kernel_rfl), fun _ _ _ _ _ _ us hl => match us, hl with | [_], _ => rfl⟩
theorem ok_need_cycles : FdOk gl d_need_cycles.cells d_need_cycles.ps d_need_cycles.N d_need_cycles.scope d_need_cycles.body f_need_cycles ∧ ArgsT d_need_cycles := ⟨fdOk_of gn (by kernel_rfl) rfl rfl (by kernel_rfl), fun _ _ _ _ _ _ us hl => match us, hl with | [_], _ => rfl⟩
theorem ok_need_day : FdOk gl d_need_day.cells d_need_day.ps d_need_day.N d_need_day.scope d_need_day.body f_need_day ∧ ArgsT d_need_day := ⟨fdOk_of gn (by kernel_rfl) rfl rfl (by kernel_rfl), fun _ _ _ _ _ _ us hl => match us, hl with | [_], _ => rfl⟩
theorem ok_need_stretch : FdOk gl d_need_stretch.cells d_need_stretch.ps d_need_stretch.N d_need_stretch.scope d_need_stretch.body f_need_stretch ∧ ArgsT d_need_stretch := ⟨fdOk_of gn (by kernel_rfl) rfl rfl (by kernel_rfl), fun _ _ _ _ _ _ us hl => match us, hl with | [_, _], _ => rfl⟩
theorem ok_meeting_in : FdOk gl d_meeting_in.cells d_meeting_in.ps d_meeting_in.N d_meeting_in.scope d_meeting_in.body f_meeting_in ∧ ArgsT d_meeting_in := ⟨fdOk_of gn (by kernel_rfl) rfl rfl (by kernel_rfl), fun _ _ _ _ _ _ us hl => match us, hl with | [_], _ => rfl⟩
theorem ok_next_on : FdOk gl d_next_on.cells d_next_on.ps d_next_on.N d_next_on.scope d_next_on.body f_next_on ∧ ArgsT d_next_on := ⟨fdOk_of gn (by kernel_rfl) rfl rfl (by kernel_rfl), fun _ _ _ _ _ _ us hl => match us, hl with | [_, _], _ => rfl⟩
theorem ok_count_on : FdOk gl d_count_on.cells d_count_on.ps d_count_on.N d_count_on.scope d_count_on.body f_count_on ∧ ArgsT d_count_on := ⟨fdOk_of gn (by kernel_rfl) rfl rfl (by kernel_rfl), fun _ _ _ _ _ _ us hl => match us, hl with | [_, _, _], _ => rfl⟩
theorem ok_next_meeting : FdOk gl d_next_meeting.cells d_next_meeting.ps d_next_meeting.N d_next_meeting.scope d_next_meeting.body f_next_meeting ∧ ArgsT d_next_meeting := ⟨fdOk_of gn (by kernel_rfl) rfl rfl (by kernel_rfl), fun _ _ _ _ _ _ us hl => match us, hl with | [_, _], _ => rfl⟩
theorem ok_count_meetings : FdOk gl d_count_meetings.cells d_count_meetings.ps d_count_meetings.N d_count_meetings.scope d_count_meetings.body f_count_meetings ∧ ArgsT d_count_meetings := ⟨fdOk_of gn (by kernel_rfl) rfl rfl (by kernel_rfl), fun _ _ _ _ _ _ us hl => match us, hl with | [_, _, _], _ => rfl⟩
theorem ok_size_of : FdOk gl d_size_of.cells d_size_of.ps d_size_of.N d_size_of.scope d_size_of.body f_size_of ∧ ArgsT d_size_of := ⟨fdOk_of gn (by kernel_rfl) rfl rfl (by kernel_rfl), fun _ _ _ _ _ _ us hl => match us, hl with | [_], _ => rfl⟩
theorem ok_meets_in : FdOk gl d_meets_in.cells d_meets_in.ps d_meets_in.N d_meets_in.scope d_meets_in.body f_meets_in ∧ ArgsT d_meets_in := ⟨fdOk_of gn (by kernel_rfl) rfl rfl (by kernel_rfl), fun _ _ _ _ _ _ us hl => match us, hl with | [_], _ => rfl⟩
theorem ok_chosen : FdOk gl d_chosen.cells d_chosen.ps d_chosen.N d_chosen.scope d_chosen.body f_chosen ∧ ArgsT d_chosen := ⟨fdOk_of gn (by kernel_rfl) rfl rfl (by kernel_rfl), fun _ _ _ _ _ _ us hl => match us, hl with | [_, _], _ => rfl⟩
theorem ok_sums_in : FdOk gl d_sums_in.cells d_sums_in.ps d_sums_in.N d_sums_in.scope d_sums_in.body f_sums_in ∧ ArgsT d_sums_in := ⟨fdOk_of gn (by kernel_rfl) rfl rfl (by kernel_rfl), fun _ _ _ _ _ _ us hl => match us, hl with | [_, _, _], _ => rfl⟩
theorem ok_with_just : FdOk gl d_with_just.cells d_with_just.ps d_with_just.N d_with_just.scope d_with_just.body f_with_just ∧ ArgsT d_with_just := ⟨fdOk_of gn (by kernel_rfl) rfl rfl (by kernel_rfl), fun _ _ _ _ _ _ us hl => match us, hl with | [_, _, _, _], _ => rfl⟩
theorem ok_is_struck : FdOk gl d_is_struck.cells d_is_struck.ps d_is_struck.N d_is_struck.scope d_is_struck.body f_is_struck ∧ ArgsT d_is_struck := ⟨fdOk_of gn (by kernel_rfl) rfl rfl (by kernel_rfl), fun _ _ _ _ _ _ us hl => match us, hl with | [_, _], _ => rfl⟩
theorem ok_free_from : FdOk gl d_free_from.cells d_free_from.ps d_free_from.N d_free_from.scope d_free_from.body f_free_from ∧ ArgsT d_free_from := ⟨fdOk_of gn (by kernel_rfl) rfl rfl (by kernel_rfl), fun _ _ _ _ _ _ us hl => match us, hl with | [_, _], _ => rfl⟩
theorem ok_struck_by : FdOk gl d_struck_by.cells d_struck_by.ps d_struck_by.N d_struck_by.scope d_struck_by.body f_struck_by ∧ ArgsT d_struck_by := ⟨fdOk_of gn (by kernel_rfl) rfl rfl (by kernel_rfl), fun _ _ _ _ _ _ us hl => match us, hl with | [_, _], _ => rfl⟩
theorem ok_count_struck : FdOk gl d_count_struck.cells d_count_struck.ps d_count_struck.N d_count_struck.scope d_count_struck.body f_count_struck ∧ ArgsT d_count_struck := ⟨fdOk_of gn (by kernel_rfl) rfl rfl (by kernel_rfl), fun _ _ _ _ _ _ us hl => match us, hl with | [_, _, _], _ => rfl⟩
theorem ok_count_with : FdOk gl d_count_with.cells d_count_with.ps d_count_with.N d_count_with.scope d_count_with.body f_count_with ∧ ArgsT d_count_with := ⟨fdOk_of gn (by kernel_rfl) rfl rfl (by kernel_rfl), fun _ _ _ _ _ _ us hl => match us, hl with | [_, _, _, _], _ => rfl⟩
theorem ok_next_struck : FdOk gl d_next_struck.cells d_next_struck.ps d_next_struck.N d_next_struck.scope d_next_struck.body f_next_struck ∧ ArgsT d_next_struck := ⟨fdOk_of gn (by kernel_rfl) rfl rfl (by kernel_rfl), fun _ _ _ _ _ _ us hl => match us, hl with | [_, _], _ => rfl⟩
theorem ok_next_free : FdOk gl d_next_free.cells d_next_free.ps d_next_free.N d_next_free.scope d_next_free.body f_next_free ∧ ArgsT d_next_free := ⟨fdOk_of gn (by kernel_rfl) rfl rfl (by kernel_rfl), fun _ _ _ _ _ _ us hl => match us, hl with | [_, _], _ => rfl⟩
theorem ok_cut : FdOk gl d_cut.cells d_cut.ps d_cut.N d_cut.scope d_cut.body f_cut ∧ ArgsT d_cut := ⟨fdOk_of gn (by kernel_rfl) rfl rfl (by kernel_rfl), fun _ _ _ _ _ _ us hl => match us, hl with | [_, _], _ => rfl⟩
theorem ok_sum_two : FdOk gl d_sum_two.cells d_sum_two.ps d_sum_two.N d_sum_two.scope d_sum_two.body f_sum_two ∧ ArgsT d_sum_two := ⟨fdOk_of gn (by kernel_rfl) rfl rfl (by kernel_rfl), fun _ _ _ _ _ _ us hl => match us, hl with | [_, _], _ => rfl⟩
theorem ok_covers : FdOk gl d_covers.cells d_covers.ps d_covers.N d_covers.scope d_covers.body f_covers ∧ ArgsT d_covers := ⟨fdOk_of gn (by kernel_rfl) rfl rfl (by kernel_rfl), fun _ _ _ _ _ _ us hl => match us, hl with | [_], _ => rfl⟩
theorem ok_do_cover : FdOk gl d_do_cover.cells d_do_cover.ps d_do_cover.N d_do_cover.scope d_do_cover.body f_do_cover ∧ ArgsT d_do_cover := ⟨fdOk_of gn (by kernel_rfl) rfl rfl (by kernel_rfl), fun _ _ _ _ _ _ us hl => match us, hl with | [_], _ => rfl⟩
theorem ok_are_apart : FdOk gl d_are_apart.cells d_are_apart.ps d_are_apart.N d_are_apart.scope d_are_apart.body f_are_apart ∧ ArgsT d_are_apart := ⟨fdOk_of gn (by kernel_rfl) rfl rfl (by kernel_rfl), fun _ _ _ _ _ _ us hl => match us, hl with | [_], _ => rfl⟩
theorem ok_sum_of_shares : FdOk gl d_sum_of_shares.cells d_sum_of_shares.ps d_sum_of_shares.N d_sum_of_shares.scope d_sum_of_shares.body f_sum_of_shares ∧ ArgsT d_sum_of_shares := ⟨fdOk_of gn (by kernel_rfl) rfl rfl (by kernel_rfl), fun _ _ _ _ _ _ us hl => match us, hl with | [_], _ => rfl⟩
theorem ok_struck_share : FdOk gl d_struck_share.cells d_struck_share.ps d_struck_share.N d_struck_share.scope d_struck_share.body f_struck_share ∧ ArgsT d_struck_share := ⟨fdOk_of gn (by kernel_rfl) rfl rfl (by kernel_rfl), fun _ _ _ _ _ _ us hl => match us, hl with | [_], _ => rfl⟩
theorem ok_is_row_in : FdOk gl d_is_row_in.cells d_is_row_in.ps d_is_row_in.N d_is_row_in.scope d_is_row_in.body f_is_row_in ∧ ArgsT d_is_row_in := ⟨fdOk_of gn (by kernel_rfl) rfl rfl (by kernel_rfl), fun _ _ _ _ _ _ us hl => match us, hl with | [_], _ => rfl⟩
theorem ok_need_row : FdOk gl d_need_row.cells d_need_row.ps d_need_row.N d_need_row.scope d_need_row.body f_need_row ∧ ArgsT d_need_row := ⟨fdOk_of gn (by kernel_rfl) rfl rfl (by kernel_rfl), fun _ _ _ _ _ _ us hl => match us, hl with | [_], _ => rfl⟩
theorem ok_count_by : FdOk gl d_count_by.cells d_count_by.ps d_count_by.N d_count_by.scope d_count_by.body f_count_by ∧ ArgsT d_count_by := ⟨fdOk_of gn (by kernel_rfl) rfl rfl (by kernel_rfl), fun _ _ _ _ _ _ us hl => match us, hl with | [_, _], _ => rfl⟩
theorem ok_letter_at : FdOk gl d_letter_at.cells d_letter_at.ps d_letter_at.N d_letter_at.scope d_letter_at.body f_letter_at ∧ ArgsT d_letter_at := ⟨fdOk_of gn (by kernel_rfl) rfl rfl (by kernel_rfl), fun _ _ _ _ _ _ us hl => match us, hl with | [_, _], _ => rfl⟩
theorem ok_are_letters : FdOk gl d_are_letters.cells d_are_letters.ps d_are_letters.N d_are_letters.scope d_are_letters.body f_are_letters ∧ ArgsT d_are_letters := ⟨fdOk_of gn (by kernel_rfl) rfl rfl (by kernel_rfl), fun _ _ _ _ _ _ us hl => match us, hl with | [_, _], _ => rfl⟩
theorem ok_need_letters : FdOk gl d_need_letters.cells d_need_letters.ps d_need_letters.N d_need_letters.scope d_need_letters.body f_need_letters ∧ ArgsT d_need_letters := ⟨fdOk_of gn (by kernel_rfl) rfl rfl (by kernel_rfl), fun _ _ _ _ _ _ us hl => match us, hl with | [_], _ => rfl⟩
theorem ok_need_span : FdOk gl d_need_span.cells d_need_span.ps d_need_span.N d_need_span.scope d_need_span.body f_need_span ∧ ArgsT d_need_span := ⟨fdOk_of gn (by kernel_rfl) rfl rfl (by kernel_rfl), fun _ _ _ _ _ _ us hl => match us, hl with | [_, _], _ => rfl⟩
theorem ok_sums_of : FdOk gl d_sums_of.cells d_sums_of.ps d_sums_of.N d_sums_of.scope d_sums_of.body f_sums_of ∧ ArgsT d_sums_of := ⟨fdOk_of gn (by kernel_rfl) rfl rfl (by kernel_rfl), fun _ _ _ _ _ _ us hl => match us, hl with | [_], _ => rfl⟩
theorem ok_start_for : FdOk gl d_start_for.cells d_start_for.ps d_start_for.N d_start_for.scope d_start_for.body f_start_for ∧ ArgsT d_start_for := ⟨fdOk_of gn (by kernel_rfl) rfl rfl (by kernel_rfl), fun _ _ _ _ _ _ us hl => match us, hl with | [_, _, _], _ => rfl⟩
theorem ok_is_leap : FdOk gl d_is_leap.cells d_is_leap.ps d_is_leap.N d_is_leap.scope d_is_leap.body f_is_leap ∧ ArgsT d_is_leap := ⟨fdOk_of gn (by kernel_rfl) rfl rfl (by kernel_rfl), fun _ _ _ _ _ _ us hl => match us, hl with | [_, _], _ => rfl⟩
theorem ok_leaps_between : FdOk gl d_leaps_between.cells d_leaps_between.ps d_leaps_between.N d_leaps_between.scope d_leaps_between.body f_leaps_between ∧ ArgsT d_leaps_between := ⟨fdOk_of gn (by kernel_rfl) rfl rfl (by kernel_rfl), fun _ _ _ _ _ _ us hl => match us, hl with | [_, _, _], _ => rfl⟩
theorem ok_leap_year : FdOk gl d_leap_year.cells d_leap_year.ps d_leap_year.N d_leap_year.scope d_leap_year.body f_leap_year ∧ ArgsT d_leap_year := ⟨fdOk_of gn (by kernel_rfl) rfl rfl (by kernel_rfl), fun _ _ _ _ _ _ us hl => match us, hl with | [_, _], _ => rfl⟩
theorem ok_row_of : FdOk gl d_row_of.cells d_row_of.ps d_row_of.N d_row_of.scope d_row_of.body f_row_of ∧ ArgsT d_row_of := ⟨fdOk_of gn (by kernel_rfl) rfl rfl (by kernel_rfl), fun _ _ _ _ _ _ us hl => match us, hl with | [_], _ => rfl⟩
theorem ok_fits_window : FdOk gl d_fits_window.cells d_fits_window.ps d_fits_window.N d_fits_window.scope d_fits_window.body f_fits_window ∧ ArgsT d_fits_window := ⟨fdOk_of gn (by kernel_rfl) rfl rfl (by kernel_rfl), fun _ _ _ _ _ _ us hl => match us, hl with | [_], _ => rfl⟩
theorem ok_need_window : FdOk gl d_need_window.cells d_need_window.ps d_need_window.N d_need_window.scope d_need_window.body f_need_window ∧ ArgsT d_need_window := ⟨fdOk_of gn (by kernel_rfl) rfl rfl (by kernel_rfl), fun _ _ _ _ _ _ us hl => match us, hl with | [_], _ => rfl⟩
theorem ok_near_on : FdOk gl d_near_on.cells d_near_on.ps d_near_on.N d_near_on.scope d_near_on.body f_near_on ∧ ArgsT d_near_on := ⟨fdOk_of gn (by kernel_rfl) rfl rfl (by kernel_rfl), fun _ _ _ _ _ _ us hl => match us, hl with | [_, _], _ => rfl⟩
theorem ok_shared_arc : FdOk gl d_shared_arc.cells d_shared_arc.ps d_shared_arc.N d_shared_arc.scope d_shared_arc.body f_shared_arc ∧ ArgsT d_shared_arc := ⟨fdOk_of gn (by kernel_rfl) rfl rfl (by kernel_rfl), fun _ _ _ _ _ _ us hl => match us, hl with | [_, _, _], _ => rfl⟩
theorem ok_first_between : FdOk gl d_first_between.cells d_first_between.ps d_first_between.N d_first_between.scope d_first_between.body f_first_between ∧ ArgsT d_first_between := ⟨fdOk_of gn (by kernel_rfl) rfl rfl (by kernel_rfl), fun _ _ _ _ _ _ us hl => match us, hl with | [_, _, _, _], _ => rfl⟩
theorem ok_next_start : FdOk gl d_next_start.cells d_next_start.ps d_next_start.N d_next_start.scope d_next_start.body f_next_start ∧ ArgsT d_next_start := ⟨fdOk_of gn (by kernel_rfl) rfl rfl (by kernel_rfl), fun _ _ _ _ _ _ us hl => match us, hl with | [_, _, _], _ => rfl⟩
theorem ok_round_of : FdOk gl d_round_of.cells d_round_of.ps d_round_of.N d_round_of.scope d_round_of.body f_round_of ∧ ArgsT d_round_of := ⟨fdOk_of gn (by kernel_rfl) rfl rfl (by kernel_rfl), fun _ _ _ _ _ _ us hl => match us, hl with | [_], _ => rfl⟩
theorem ok_is_near : FdOk gl d_is_near.cells d_is_near.ps d_is_near.N d_is_near.scope d_is_near.body f_is_near ∧ ArgsT d_is_near := ⟨fdOk_of gn (by kernel_rfl) rfl rfl (by kernel_rfl), fun _ _ _ _ _ _ us hl => match us, hl with | [_, _], _ => rfl⟩
theorem ok_count_near : FdOk gl d_count_near.cells d_count_near.ps d_count_near.N d_count_near.scope d_count_near.body f_count_near ∧ ArgsT d_count_near := ⟨fdOk_of gn (by kernel_rfl) rfl rfl (by kernel_rfl), fun _ _ _ _ _ _ us hl => match us, hl with | [_, _], _ => rfl⟩
theorem ok_next_near : FdOk gl d_next_near.cells d_next_near.ps d_next_near.N d_next_near.scope d_next_near.body f_next_near ∧ ArgsT d_next_near := ⟨fdOk_of gn (by kernel_rfl) rfl rfl (by kernel_rfl), fun _ _ _ _ _ _ us hl => match us, hl with | [_, _, _], _ => rfl⟩
theorem ok_longest_near : FdOk gl d_longest_near.cells d_longest_near.ps d_longest_near.N d_longest_near.scope d_longest_near.body f_longest_near ∧ ArgsT d_longest_near := ⟨fdOk_of gn (by kernel_rfl) rfl rfl (by kernel_rfl), fun _ _ _ _ _ _ us hl => match us, hl with | [_], _ => rfl⟩
theorem ok__law_cup : FdOk gl d__law_cup.cells d__law_cup.ps d__law_cup.N d__law_cup.scope d__law_cup.body f__law_cup ∧ ArgsT d__law_cup := ⟨fdOk_of gn (by kernel_rfl) rfl rfl (by kernel_rfl), fun _ _ _ _ _ _ us hl => match us, hl with | [_], _ => rfl⟩
theorem ok__law_roll : FdOk gl d__law_roll.cells d__law_roll.ps d__law_roll.N d__law_roll.scope d__law_roll.body f__law_roll ∧ ArgsT d__law_roll := ⟨fdOk_of gn (by kernel_rfl) rfl rfl (by kernel_rfl), fun _ _ _ _ _ _ us hl => match us, hl with | [_, _], _ => rfl⟩
theorem ok__law_some : FdOk gl d__law_some.cells d__law_some.ps d__law_some.N d__law_some.scope d__law_some.body f__law_some ∧ ArgsT d__law_some := ⟨fdOk_of gn (by kernel_rfl) rfl rfl (by kernel_rfl), fun _ _ _ _ _ _ us hl => match us, hl with | [_, _], _ => rfl⟩
theorem ok__law_sort : FdOk gl d__law_sort.cells d__law_sort.ps d__law_sort.N d__law_sort.scope d__law_sort.body f__law_sort ∧ ArgsT d__law_sort := ⟨fdOk_of gn (by kernel_rfl) rfl rfl (by kernel_rfl), fun _ _ _ _ _ _ us hl => match us, hl with | [_], _ => rfl⟩
theorem ok__law_like : FdOk gl d__law_like.cells d__law_like.ps d__law_like.N d__law_like.scope d__law_like.body f__law_like ∧ ArgsT d__law_like := ⟨fdOk_of gn (by kernel_rfl) rfl rfl (by kernel_rfl), fun _ _ _ _ _ _ us hl => match us, hl with | [_, _], _ => rfl⟩
theorem ok__law_gcd : FdOk gl d__law_gcd.cells d__law_gcd.ps d__law_gcd.N d__law_gcd.scope d__law_gcd.body f__law_gcd ∧ ArgsT d__law_gcd := ⟨fdOk_of gn (by kernel_rfl) rfl rfl (by kernel_rfl), fun _ _ _ _ _ _ us hl => match us, hl with | [_, _], _ => rfl⟩
theorem ok__law_ratio : FdOk gl d__law_ratio.cells d__law_ratio.ps d__law_ratio.N d__law_ratio.scope d__law_ratio.body f__law_ratio ∧ ArgsT d__law_ratio := ⟨fdOk_of gn (by kernel_rfl) rfl rfl (by kernel_rfl), fun _ _ _ _ _ _ us hl => match us, hl with | [_, _], _ => rfl⟩
theorem ok__law_row : FdOk gl d__law_row.cells d__law_row.ps d__law_row.N d__law_row.scope d__law_row.body f__law_row ∧ ArgsT d__law_row := ⟨fdOk_of gn (by kernel_rfl) rfl rfl (by kernel_rfl), fun _ _ _ _ _ _ us hl => match us, hl with | [_, _], _ => rfl⟩
theorem ok__law_letter : FdOk gl d__law_letter.cells d__law_letter.ps d__law_letter.N d__law_letter.scope d__law_letter.body f__law_letter ∧ ArgsT d__law_letter := ⟨fdOk_of gn (by kernel_rfl) rfl rfl (by kernel_rfl), fun _ _ _ _ _ _ us hl => match us, hl with | [_, _], _ => rfl⟩
theorem ok__law_window : FdOk gl d__law_window.cells d__law_window.ps d__law_window.N d__law_window.scope d__law_window.body f__law_window ∧ ArgsT d__law_window := ⟨fdOk_of gn (by kernel_rfl) rfl rfl (by kernel_rfl), fun _ _ _ _ _ _ us hl => match us, hl with | [_], _ => rfl⟩
theorem ok__law_years : FdOk gl d__law_years.cells d__law_years.ps d__law_years.N d__law_years.scope d__law_years.body f__law_years ∧ ArgsT d__law_years := ⟨fdOk_of gn (by kernel_rfl) rfl rfl (by kernel_rfl), fun _ _ _ _ _ _ us hl => match us, hl with | [_], _ => rfl⟩
theorem ok__law_others : FdOk gl d__law_others.cells d__law_others.ps d__law_others.N d__law_others.scope d__law_others.body f__law_others ∧ ArgsT d__law_others := ⟨fdOk_of gn (by kernel_rfl) rfl rfl (by kernel_rfl), fun _ _ _ _ _ _ us hl => match us, hl with | [_], _ => rfl⟩
theorem ok__law_row_right : FdOk gl d__law_row_right.cells d__law_row_right.ps d__law_row_right.N d__law_row_right.scope d__law_row_right.body f__law_row_right ∧ ArgsT d__law_row_right := ⟨fdOk_of gn (by kernel_rfl) rfl rfl (by kernel_rfl), fun _ _ _ _ _ _ us hl => match us, hl with | [_, _], _ => rfl⟩
theorem ok__law_cycles_right : FdOk gl d__law_cycles_right.cells d__law_cycles_right.ps d__law_cycles_right.N d__law_cycles_right.scope d__law_cycles_right.body f__law_cycles_right ∧ ArgsT d__law_cycles_right := ⟨fdOk_of gn (by kernel_rfl) rfl rfl (by kernel_rfl), fun _ _ _ _ _ _ us hl => match us, hl with | [_, _], _ => rfl⟩
theorem ok__law_two_right : FdOk gl d__law_two_right.cells d__law_two_right.ps d__law_two_right.N d__law_two_right.scope d__law_two_right.body f__law_two_right ∧ ArgsT d__law_two_right := ⟨fdOk_of gn (by kernel_rfl) rfl rfl (by kernel_rfl), fun _ _ _ _ _ _ us hl => match us, hl with | [_, _, _], _ => rfl⟩
theorem ok__law_meets : FdOk gl d__law_meets.cells d__law_meets.ps d__law_meets.N d__law_meets.scope d__law_meets.body f__law_meets ∧ ArgsT d__law_meets := ⟨fdOk_of gn (by kernel_rfl) rfl rfl (by kernel_rfl), fun _ _ _ _ _ _ us hl => match us, hl with | [_, _, _, _, _], _ => rfl⟩
theorem ok__law_great_right : FdOk gl d__law_great_right.cells d__law_great_right.ps d__law_great_right.N d__law_great_right.scope d__law_great_right.body f__law_great_right ∧ ArgsT d__law_great_right := ⟨fdOk_of gn (by kernel_rfl) rfl rfl (by kernel_rfl), fun _ _ _ _ _ _ us hl => match us, hl with | [_], _ => rfl⟩
theorem ok__law_written_right : FdOk gl d__law_written_right.cells d__law_written_right.ps d__law_written_right.N d__law_written_right.scope d__law_written_right.body f__law_written_right ∧ ArgsT d__law_written_right := ⟨fdOk_of gn (by kernel_rfl) rfl rfl (by kernel_rfl), fun _ _ _ _ _ _ us hl => match us, hl with | [_], _ => rfl⟩
theorem ok_law : FdOk gl d_law.cells d_law.ps d_law.N d_law.scope d_law.body f_law ∧ ArgsT d_law := ⟨fdOk_of gn (by kernel_rfl) rfl rfl (by kernel_rfl), fun _ _ _ _ _ _ us hl => match us, hl with | [_], _ => rfl⟩
theorem okA0 : OkAll gl ds0 T0 := ⟨ok_is_whole, ok_need_whole, ok_is_tuple_of, ok_are_wholes, ok_parts_for, ok_met, ok_turning_number, ok_fits_cycle, ok_fits_cycles, ok_need_cycles, trivial⟩
theorem okA1 : OkAll gl ds1 T1 := ⟨ok_need_day, ok_need_stretch, ok_meeting_in, ok_next_on, ok_count_on, ok_next_meeting, ok_count_meetings, ok_size_of, ok_meets_in, ok_chosen, trivial⟩
theorem okA2 : OkAll gl ds2 T2 := ⟨ok_sums_in, ok_with_just, ok_is_struck, ok_free_from, ok_struck_by, ok_count_struck, ok_count_with, ok_next_struck, ok_next_free, ok_cut, trivial⟩
theorem okA3 : OkAll gl ds3 T3 := ⟨ok_sum_two, ok_covers, ok_do_cover, ok_are_apart, ok_sum_of_shares, ok_struck_share, ok_is_row_in, ok_need_row, ok_count_by, ok_letter_at, trivial⟩
theorem okA4 : OkAll gl ds4 T4 := ⟨ok_are_letters, ok_need_letters, ok_need_span, ok_sums_of, ok_start_for, ok_is_leap, ok_leaps_between, ok_leap_year, ok_row_of, ok_fits_window, trivial⟩
theorem okA5 : OkAll gl ds5 T5 := ⟨ok_need_window, ok_near_on, ok_shared_arc, ok_first_between, ok_next_start, ok_round_of, ok_is_near, ok_count_near, ok_next_near, ok_longest_near, trivial⟩
theorem okA6 : OkAll gl ds6 T6 := ⟨ok__law_cup, ok__law_roll, ok__law_some, ok__law_sort, ok__law_like, ok__law_gcd, ok__law_ratio, ok__law_row, ok__law_letter, ok__law_window, trivial⟩
theorem okA7 : OkAll gl ds7 T7 := ⟨ok__law_years, ok__law_others, ok__law_row_right, ok__law_cycles_right, ok__law_two_right, ok__law_meets, ok__law_great_right, ok__law_written_right, ok_law, trivial⟩
theorem okA : OkAll gl ds T := (OkAll.append (OkAll.append (OkAll.append (OkAll.append (OkAll.append (OkAll.append (OkAll.append okA0 okA1) okA2) okA3) okA4) okA5) okA6) okA7)
theorem glsOk : glsB' ds gl = true := by kernel_rfl
theorem cupT : CupT gl d__law_cup.scope d__law_cup.body := cupT_of gn (by kernel_rfl) (by kernel_rfl) (by kernel_rfl) (by kernel_rfl) (by kernel_rfl) (by kernel_rfl)
theorem lawT : LawT gl d_law.cells d_law.N d_law.scope d_law.body b_law := lawT_of gn (by kernel_rfl) (by kernel_rfl) (by kernel_rfl) (by kernel_rfl) (by kernel_rfl) (by kernel_rfl) (by kernel_rfl)
theorem all : LawAll gl ds T d__law_cup d_law b_law := ⟨okA.tab, okA.args, glsB'_ok glsOk, ⟨60, rfl⟩, rfl, rfl, ⟨78, rfl⟩, rfl, rfl, by kernel_rfl, by kernel_rfl, cupT, lawT⟩
end WM.K88
namespace WM.K88
open PySem PySem.Spec PyProof.Rows L2
def lo0 : List Str := ["gcd", "ClockError", "InvalidNumber", "InvalidRow", "InvalidCycle", "InvalidWindow", "InvalidRound", "NotFound", "TooMany", "is_whole", "need_whole", "is_tuple_of", "are_wholes", "GREAT", "parts_for", "met", "turning_number", "EVERY", "MANY", "DAY"]
def lo1 : List Str := ["fits_cycle", "fits_cycles", "need_cycles", "need_day", "need_stretch", "meeting_in", "next_on", "count_on", "next_meeting", "count_meetings", "size_of", "meets_in", "chosen", "sums_in", "with_just", "is_struck", "free_from", "struck_by", "count_struck", "count_with"]
def lo2 : List Str := ["next_struck", "next_free", "cut", "sum_two", "covers", "do_cover", "are_apart", "sum_of_shares", "struck_share", "YEARS", "FAR", "LEAPS", "LETTERS", "is_row_in", "need_row", "count_by", "letter_at", "are_letters", "need_letters", "need_span"]
def lo3 : List Str := ["sums_of", "start_for", "is_leap", "leaps_between", "leap_year", "row_of", "WINDOWS", "ROUND", "fits_window", "need_window", "near_on", "shared_arc", "first_between", "next_start", "round_of", "is_near", "count_near", "next_near", "longest_near", "_law_cup"]
def lo4 : List Str := ["_law_roll", "_law_some", "_law_sort", "_law_like", "_law_gcd", "_law_ratio", "_law_row", "_law_letter", "_law_window", "_law_years", "_law_others", "_law_row_right", "_law_cycles_right", "_law_two_right", "_law_meets", "_law_great_right", "_law_written_right"]
def loose : List Str := lo0 ++ lo1 ++ lo2 ++ lo3 ++ lo4
abbrev R : PySem.W.OpenRow := PySem.W.OpenLaw.row PySem.Challenge.rw_wheelmark_k88_whole_leap_years_as_window
abbrev q : Program := PySem.W.view R.prog [0, 107]
abbrev fa : List He.Fa := ds.map fun d => He.Fa.glo d.x
abbrev fn : List He.DefD := ds.map mkD
abbrev hk : PySem.W.Hook := hookW 4 fa fn gl
def ob (s : PySem.W.SharedT) : AlW := obsW 4 fa fn gl (HandSHeadRun.getT s)
theorem ob_eq (s : PySem.W.SharedT) : ob s = hk.obs s.abs := obsW_eq (HandSHeadRun.getT_eq s)
theorem run_l (w : World) : AtR (HandSHeadRun.wholeF (fun p => HandSHeadRun.stepQ (HandSHeadRun.denQ HandSHeadRun.tabQ) p w) HandSHeadRun.fenceQ 20000 R.prog) (fun x => HandSHeadRun.looksF R.prog x.1.heap x.2.abs) true := by
  unfold AtR
  kernel_rfl
theorem run_r (w : World) : AtR (HandSHeadRun.wholeF (fun p => HandSHeadRun.stepQ (HandSHeadRun.denQ HandSHeadRun.tabQ) p w) HandSHeadRun.fenceQ 20000 R.prog) (fun x => (HandSHeadRun.seenQ q loose (importedModules R.prog.main.body) (fun s => PySem.W.xlAt q [] s && PySem.W.recOk R.toRowW.records s) x.2.abs, (glsB (KX x.2) gl, obD ds x.2))) (PySem.W.openGood q loose, (true, vaD ds)) := by
  unfold AtR
  kernel_rfl
theorem run (w : World) : HandSHeadRun.RunEqI R q hk ob 20000 loose w := runI_of2 (run_l w) (run_r w)
end WM.K88
section
open PySem PySem.W PySem.Calls PyProof.Rows
theorem WM.K88.holds (pure : ∀ c0 c1 : Int, 0 ≤ c0 → 229 ≤ c1 → ∃ sl' st', WM.runSs (WM.fns WM.K88.T 40) WM.K88.b_law (WM.slot1 WM.K88.d_law.N.length) [.lst false [.int c0, .int c1]] = some (.ret (.d (.bool true)), sl', st')) : PySem.Challenge.rw_wheelmark_k88_whole_leap_years_as_window.Holds := by
  w_on; o_law
  refine HandSHeadRun.head_imp (r := OpenLaw.row PySem.Challenge.rw_wheelmark_k88_whole_leap_years_as_window) (q := view (OpenLaw.row PySem.Challenge.rw_wheelmark_k88_whole_leap_years_as_window).prog [0, 107]) (H := WM.K88.hk) (ob := WM.K88.ob) (M := 20000) (loose := WM.K88.loose) (d := HandSHeadRun.topDef (OpenLaw.row PySem.Challenge.rw_wheelmark_k88_whole_leap_years_as_window).prog 107) (kwd := []) WM.K88.ob_eq
    WM.K88.run (by kernel_rfl) (by kernel_rfl) (by kernel_rfl) (by rfl) (by first | assumption | decide +kernel) (by decide +kernel) ⟨rfl, rfl, rfl, rfl, rfl, by decide +kernel⟩ ?hw ?hc
  case hw => w_witness2
  case hc =>
    refine L2.walk_ofE (l := PySem.Challenge.rw_wheelmark_k88_whole_leap_years_as_window) (n := 63) (k := 41) (x := "script") (CX := L2.CX0) rfl (by decide) (by kernel_rfl) ⟨rfl, by decide, by decide⟩ ?F (fun _ _ _ _ z => z)
    intro w mg fa h Y G hmg0
    obtain ⟨K, KX, c⟩ := Y
    have hmg : mg ("law" : PySem.Str) = some (.ref fa) := by
      have e : (HandSHeadRun.topDef (OpenLaw.row PySem.Challenge.rw_wheelmark_k88_whole_leap_years_as_window).prog 107).name = ("law" : PySem.Str) := by kernel_rfl
      rw [← e]
      exact hmg0
    obtain ⟨fd, hb, hF⟩ := WM.facts_of (P := (PySem.Challenge.rw_wheelmark_k88_whole_leap_years_as_window).prog) (w := w) (k := 39) WM.K88.all KX G c hmg pure
    exact ⟨K, fd, WM.spLaw K, KX, hb, fun H a ns hl _ hS => ⟨a, ns, hl, rfl, hS, fun _ => rfl⟩, hF⟩
end
namespace WM.K88
open PySem PySem.Spec PyProof.Rows L2 RT
theorem v_is_whole (k : Nat) (v lo hi : Int) (st : Store) : fns T (k + 1) i_is_whole [Z v, Z lo, Z hi] st = some (Bl (decide (lo ≤ v) && decide (v ≤ hi)), st) := by
  rw [s_is_whole]
  by_cases h : lo ≤ v <;> simp [runF, f_is_whole, slots, rdVar, isiD, truW, truD, fin, h]
theorem w_is_whole (k : Nat) (v lo hi : Int) (st : Store) (h1 : lo ≤ v) (h2 : v ≤ hi) : fns T (k + 1) i_is_whole [Z v, Z lo, Z hi] st = some (Bl true, st) := by
  rw [v_is_whole, decide_eq_true h1, decide_eq_true h2] <;> rfl
theorem v_need_whole (k : Nat) (v lo hi : Int) (st : Store) (h1 : lo ≤ v) (h2 : v ≤ hi) : fns T (k + 2) i_need_whole [Z v, Z lo, Z hi] st = some (No, st) := by
  rw [s_need_whole]
  simp [runF, f_need_whole, slots, rdRaw, w_is_whole, truW, truD, fin, h1, h2]
theorem v_is_tuple_of (k : Nat) (xs : List D) (lo hi : Int) (st : Store) : fns T (k + 1) i_is_tuple_of [Tu xs, Z lo, Z hi] st = some (Bl (decide (lo ≤ xs.length) && decide ((xs.length : Int) ≤ hi)), st) := by
  rw [s_is_tuple_of]
  by_cases h : lo ≤ xs.length <;> simp [runF, f_is_tuple_of, slots, rdVar, rdRaw, isiD, truW, truD, fin, bltW, h]
theorem w_is_tuple_of (k : Nat) (xs : List D) (lo hi : Int) (st : Store) (h1 : lo ≤ xs.length) (h2 : (xs.length : Int) ≤ hi) : fns T (k + 1) i_is_tuple_of [Tu xs, Z lo, Z hi] st = some (Bl true, st) := by
  rw [v_is_tuple_of, decide_eq_true h1, decide_eq_true h2] <;> rfl
theorem w_is_tuple2 (k : Nat) (x y : D) (st : Store) : fns T (k + 1) i_is_tuple_of [Tu [x, y], Z 2, Z 2] st = some (Bl true, st) := w_is_tuple_of k _ _ _ _ (by simp) (by simp)
theorem w_is_tuple3 (k : Nat) (x y z : D) (st : Store) : fns T (k + 1) i_is_tuple_of [Tu [x, y, z], Z 3, Z 3] st = some (Bl true, st) := w_is_tuple_of k _ _ _ _ (by simp) (by simp)
end WM.K88
namespace WM.K88
open PySem PySem.Spec PyProof.Rows L2 RT
def t3 (a s t : Int) : W := .d (.tuple [.int a, .int s, .int t])
theorem rng3 : rngI (.int 0) (.int 3) = some [.int 0, .int 1, .int 2] := rfl
theorem pf_body (Φ : Fn) (o1 o2 : W) (a s t b u v : Int) (x4 : Option W) (st : Store) (hb : 0 < b) (ha : 0 ≤ a) (ha2 : a.natAbs ≤ H1) (hb2 : b.natAbs ≤ H1) (hu : u.natAbs ≤ H1) (hv : v.natAbs ≤ H1) :
    runSs Φ b0_parts_for [some o1, some o2, some (t3 a s t), some (t3 b u v), x4, none] st = some (.nx, [some o1, some o2, some (t3 b u v), some (t3 (a - a / b * b) (s - a / b * u) (t - a / b * v)), some (.d (.int (a / b))), none], st) := by
  have e1 := div_h (i := a) hb hb2
  have h1 : 0 ≤ a / b := Int.ediv_nonneg ha (by omega)
  have h2 : a / b ≤ a := Int.ediv_le_self _ ha
  have h3 : (a / b).natAbs ≤ H1 := by omega
  have m1 := mul_h h3 hb2
  have m2 := mul_h h3 hu
  have m3 := mul_h h3 hv
  unfold t3
  simp only [b0_parts_for, c0_parts_for, runSs_cons, runSs_nil, compK_eq, rngK_eq, binK_eq, runS, runE, runEs, runI, runC, rdRaw, rdVar, andW_s, andD_s, ixW_d, ix3_0, ix3_1, ix3_2, okD_s, e1, okL_s, rng3, compL, stTg, stTgs, wipeS, m1, m2, m3, sub_i, List.getElem?_cons_zero, List.getElem?_cons_succ, List.set_cons_zero, List.set_cons_succ, truW, truD, mkTup, allD_d, allD_nil, Option.map, bltW, tup_l, okC, okN, List.length]
  simp [e1, rng3, compL, wipeS, m1, m2, m3, truW, truD, bltW, sizeLine, rdVar, rdRaw, ix3_0]
theorem pf_loop (Φ : Fn) (o1 o2 : W) {A B : Int} (hA : A.natAbs ≤ H1) (hB : B.natAbs ≤ H1) (st : Store) : ∀ (n : Nat) (a s t b u v : Int) (x4 : Option W), b.toNat ≤ n → BzI A B H1 a s t b u v →
    ∃ m x3 x4', whlN (fun sl st => runE Φ t0_parts_for sl st) (fun sl st => runSs Φ b0_parts_for sl st) m [some o1, some o2, some (t3 a s t), some (t3 b u v), x4, none] st = some (.nx, [some o1, some o2, some (t3 (bz n a s t b u v).1 (bz n a s t b u v).2.1 (bz n a s t b u v).2.2), some x3, x4', none], st)
  | n, a, s, t, b, u, v, x4, hn, h => by
    by_cases h0 : b = 0
    · subst h0
      refine ⟨1, t3 0 u v, x4, ?_⟩
      have e : bz n a s t 0 u v = (a, s, t) := by
        cases n with
        | zero => rfl
        | succ n => unfold bz; rw [if_pos rfl]
      rw [e]
      simp [whlN, t0_parts_for, rdRaw, t3]
    · have hb0 := h.b0
      match n, hn with
      | 0, hn => omega
      | n + 1, hn =>
        have e0 : a - a / b * b = a % b := by
          have := Int.emod_add_mul_ediv a b
          rw [Int.mul_comm] at this
          omega
        have r1 := Int.emod_lt_of_pos a (show 0 < b by omega)
        obtain ⟨m, x3, x4', e1⟩ := pf_loop Φ o1 o2 hA hB st n b u v (a - a / b * b) (s - a / b * u) (t - a / b * v) (some (.d (.int (a / b)))) (by omega) (h.step hA hB h0)
        refine ⟨m + 1, x3, x4', ?_⟩
        unfold whlN bz
        rw [if_neg h0]
        have hc : runE Φ t0_parts_for [some o1, some o2, some (t3 a s t), some (t3 b u v), x4, none] st = some (.d (.bool true), st) := by
          simp [t0_parts_for, rdRaw, t3, h0]
        simp only [hc, andW_s, truW_b, pf_body Φ o1 o2 a s t b u v x4 st (by omega) h.a0 h.aM h.bM h.uM h.vM]
        exact e1
theorem v_parts_for (k : Nat) (A B : Int) (st : Store) (h0 : 0 ≤ A) (h1 : 0 ≤ B) (h2 : A.natAbs ≤ H1) (h3 : B.natAbs ≤ H1) : fns T (k + 1) i_parts_for [Z A, Z B] st = some (t3 (Int.gcd A B) (bS A B) (bT A B), st) := by
  have hi := bzI0 h0 h1 h2 h3 (Nat.le_trans (by omega) (Nat.le_of_lt h1_pos))
  obtain ⟨m, x3, x4', e1⟩ := pf_loop (fns T k) (.d (.int A)) (.d (.int B)) h2 h3 st B.toNat A 1 0 B 0 1 none (Nat.le_refl _) hi
  have g1 := (bz_ok h2 h3 B.toNat A 1 0 B 0 1 (Nat.le_refl _) hi).1
  rw [s_parts_for, ← g1]
  have e6 : f_parts_for.body = (.cons (.unp (.cons (.v 2) (.cons (.v 3) .nil)) (.tup (.cons (.tup (.cons (.var 0) (.cons (.lit (.int 1)) (.cons (.lit (.int 0)) .nil)))) (.cons (.tup (.cons (.var 1) (.cons (.lit (.int 0)) (.cons (.lit (.int 1)) .nil)))) .nil)))) (.cons l0_parts_for (.cons (.ret (.var 2)) .nil))) := rfl
  unfold runF
  rw [e6]
  have e7 : f_parts_for.n = 6 := rfl
  have e8 : f_parts_for.ps = 2 := rfl
  unfold t3 at e1
  have e9 : runS (fns T k) l0_parts_for [some (Z A), some (Z B), some (.d (.tuple [.int A, .int 1, .int 0])), some (.d (.tuple [.int B, .int 0, .int 1])), none, none] st = _ := run_whl_of e1
  simp [slots, e7, e8, rdVar, sizeLine, e9, fin, t3, bS, bT]
theorem v_met (k : Nat) (e1 r1 e2 r2 : Int) (st : Store) (a0 : 0 < e1) (b0 : 0 < e2) (c0 : (r2 - r1).natAbs ≤ H1) (a1 : e1.natAbs ≤ H1) (b1 : e2.natAbs ≤ H1) : fns T (k + 2) i_met [.d (cy e1 r1), .d (cy e2 r2)] st = some (.d (metD e1 r1 e2 r2), st) := by
  have p1 := v_parts_for k e1 e2 st (by omega) (by omega) a1 b1
  have hs := (bez_bd (A := e1) (B := e2) (by omega) (by omega) a1 b1 (Nat.le_trans (by omega) (Nat.le_of_lt h1_pos))).1
  rw [s_met]
  have g0 := gcd_pos (t := e1) (b := e2) (by omega)
  have g1 := gcd_le (t := e1) (b := e2) (by omega)
  have hd : 0 < e1 / (Int.gcd e1 e2 : Int) := by
    have gl := gcd_le' (t := e1) (b := e2) (by omega)
    have := Int.le_ediv_of_mul_le g0 (show 1 * (Int.gcd e1 e2 : Int) ≤ e1 by omega)
    omega
  unfold metD metR lcmI
  generalize bS e1 e2 = s at *
  generalize bT e1 e2 = t at *
  generalize (Int.gcd e1 e2 : Nat) = gn at *
  have g2 : (gn : Int).natAbs ≤ H1 := by omega
  generalize hg : (gn : Int) = g at *
  unfold t3 at p1
  have f1 : binD .Mod (.int (r2 - r1)) (.int g) = some (.int ((r2 - r1) % g)) := mod_i g0
  have f2 := div_h (i := e1) g0 g2
  have f3 := div_h (i := r2 - r1) g0 g2
  have q0 : (e1 / g).natAbs ≤ H1 := Nat.le_trans (Int.natAbs_ediv_le_natAbs e1 g) a1
  have q1 : ((r2 - r1) / g).natAbs ≤ H1 := Nat.le_trans (Int.natAbs_ediv_le_natAbs (r2 - r1) g) c0
  have f4 := mul_h q0 b1
  have f5 := mul_h q1 hs
  have f6 : binD .Mult (.int ((r2 - r1) / g * s)) (.int e1) = some (.int ((r2 - r1) / g * s * e1)) := by
    refine mul_i (mulOk_b (i := (r2 - r1) / g * s) (j := e1) (lt_big (Nat.lt_of_le_of_lt (m := H1 * H1) ?_ (by decide +kernel))) (lt_big (Nat.lt_of_le_of_lt a1 (by decide +kernel))))
    rw [Int.natAbs_mul]
    exact Nat.mul_le_mul q1 hs
  have f7 : binD .Mod (.int (r1 + (r2 - r1) / g * s * e1)) (.int (e1 / g * e2)) = some (.int ((r1 + (r2 - r1) / g * s * e1) % (e1 / g * e2))) := mod_i (Int.mul_pos hd b0)
  unfold cy
  generalize hz : (r2 - r1) % g = z at *
  by_cases c : z = 0
  · rw [if_pos c]
    simp [runF, f_met, slots, rdRaw, rdVar, fin, okN, p1, f1, f2, f3, f4, f5, f6, f7, c, sizeLine]
  · rw [if_neg c]
    simp [runF, f_met, slots, rdRaw, rdVar, fin, okN, p1, f1, f2, f3, f4, f5, f6, f7, c, sizeLine]
end WM.K88
namespace WM.K88
open PySem PySem.Spec PyProof.Rows L2 RT
def sortD : D → Int
  | .none => 0
  | .bool _ => 1
  | .int _ => 2
  | .str _ => 3
  | .tuple _ => 4
  | .list _ => 5
  | .dict _ => 6
/-- data without dicts or texts, at most so deep -/
def Lk : Nat → D → Prop
  | _, .none => True
  | _, .bool _ => True
  | _, .int _ => True
  | n + 1, .tuple xs => ∀ x ∈ xs, Lk n x
  | n + 1, .list xs => ∀ x ∈ xs, Lk n x
  | _, _ => False
theorem Lk.sort {n : Nat} {x : D} (h : Lk n x) : (∃ xs, x = .tuple xs) ∨ (∃ xs, x = .list xs) ∨ x = .none ∨ (∃ b, x = .bool b) ∨ (∃ i, x = .int i) := by
  cases x with
  | none => exact .inr (.inr (.inl rfl))
  | bool b => exact .inr (.inr (.inr (.inl ⟨b, rfl⟩)))
  | int i => exact .inr (.inr (.inr (.inr ⟨i, rfl⟩)))
  | str s => cases n <;> exact h.elim
  | tuple xs => exact .inl ⟨xs, rfl⟩
  | list xs => exact .inr (.inl ⟨xs, rfl⟩)
  | dict kvs => cases n <;> exact h.elim
theorem v_law_sort (k : Nat) {n : Nat} {x : D} (st : Store) (h : Lk n x) : fns T (k + 1) i__law_sort [.d x] st = some (Z (sortD x), st) := by
  rw [s__law_sort]
  rcases h.sort with ⟨xs, rfl⟩ | ⟨xs, rfl⟩ | rfl | ⟨b, rfl⟩ | ⟨i, rfl⟩
  · simp [runF, f__law_sort, slots, rdRaw, rdVar, fin, isiD, sortD]
  · have : cmpD .Is (.list xs) .none = some false := rfl
    simp [runF, f__law_sort, slots, rdRaw, rdVar, fin, isiD, sortD, this]
  · simp [runF, f__law_sort, slots, rdRaw, rdVar, fin, isiD, sortD]
  · have : cmpD .Is (.bool b) .none = some false := rfl
    simp [runF, f__law_sort, slots, rdRaw, rdVar, fin, isiD, sortD, this]
  · simp [runF, f__law_sort, slots, rdRaw, rdVar, fin, isiD, sortD]
theorem zip_self {xs : List D} : ∀ {d : D}, d ∈ zipD xs xs → ∃ x ∈ xs, d = .tuple [x, x] := by
  induction xs with
  | nil => intro d h; simp at h
  | cons x xs ih =>
    intro d h
    simp only [zipD, List.mem_cons] at h
    rcases h with rfl | h
    · exact ⟨x, List.mem_cons_self .., rfl⟩
    · obtain ⟨y, hy, e⟩ := ih h
      exact ⟨y, List.mem_cons_of_mem _ hy, e⟩
theorem in45 (i : Int) : cmpD .In (.int i) (.tuple [.int 4, .int 5]) = some (decide (4 = i) || decide (5 = i)) := by
  have : cmpD .In (.int i) (.tuple [.int 4, .int 5]) = (if shp (.int i) && shp (.tuple [.int 4, .int 5]) then some ([PyData.int 4, PyData.int 5].any fun z => PyData.eqv z (.int i)) else none) := rfl
  rw [this, shp_int, shp_i2]
  simp
theorem eqnil : cmpD .Eq (.list []) (.list []) = some true := by
  have : shp (.list []) = true := by simp [shp, SeqAt.shaped, PyData.canLay0, PyData.canLayAll0, PyData.depth, PyData.depthAll]
  rw [eq_d this this]
  rfl
theorem lk_body : f__law_like.body = (.cons (.set 2 (.call i__law_sort (.cons (.raw 1) .nil))) (.cons (.ite (.or (.cmp .NotEq (.call i__law_sort (.cons (.raw 0) .nil)) (.var 2)) (.cmp .Eq (.var 2) (.lit (.int 6)))) (.cons (.ret (.lit (.bool false))) .nil) .nil) (.cons (.ite (.cmp .In (.var 2) (.tup (.cons (.lit (.int 4)) (.cons (.lit (.int 5)) .nil)))) (.cons (.ret (.and (.cmp .Eq (.blt .len (.cons (.raw 0) .nil)) (.blt .len (.cons (.raw 1) .nil))) (.cmp .Eq c0__law_like (.lst .nil)))) .nil) .nil) (.cons (.ret (.cmp .Eq (.var 0) (.var 1))) .nil)))) := rfl
theorem lk_comp (Φ : Fn) (x : D) (xs : List D) (i : Int) (st : Store) (hx : x = .tuple xs ∨ x = .list xs) (ih : ∀ y ∈ xs, Φ i__law_like [.d y, .d y] st = some (.d (.bool true), st)) :
    runE Φ c0__law_like [some (.d x), some (.d x), some (Z i), none, none] st = some (.d (.list []), st) := by
  have hc : compL (fun d => stTg (.t (.cons (.v 3) (.cons (.v 4) .nil))) d (wipeS [some (.d x), some (.d x), some (Z i), none, none] [3, 4])) (fun sl1 st2 => runC Φ (.some (.not (.call i__law_like (.cons (.raw 3) (.cons (.raw 4) .nil))))) sl1 st2) (fun sl1 st2 => runE Φ (.lit (.int 1)) sl1 st2) (zipD xs xs) st = some ([], st) := comp_none fun d hd => by
    obtain ⟨y, hy, rfl⟩ := zip_self hd
    refine ⟨[some (.d x), some (.d x), some (Z i), some (.d y), some (.d y)], rfl, ?_⟩
    simp [rdRaw, ih y hy]
  have hi : runI Φ (.zip (.var 0) (.var 1)) [some (.d x), some (.d x), some (Z i), none, none] st = some (zipD xs xs, st) := by
    rcases hx with rfl | rfl <;> simp [rdVar]
  unfold c0__law_like
  rw [runE, hi]
  simp only [compK_eq, hc]
  rfl
theorem v_law_like : ∀ (n k : Nat) (x : D) (st : Store), Lk n x → fns T (k + n + 2) i__law_like [.d x, .d x] st = some (.d (.bool true), st)
  | n, k, x, st, h => by
    rw [s__law_like]
    have es := v_law_sort (k + n) st h
    have e7 : f__law_like.n = 5 := rfl
    have e8 : f__law_like.ps = 2 := rfl
    rcases h.sort with ⟨xs, rfl⟩ | ⟨xs, rfl⟩ | rfl | ⟨b, rfl⟩ | ⟨i, rfl⟩
    · cases n with
      | zero => exact h.elim
      | succ n =>
        have ih : ∀ y ∈ xs, fns T (k + (n + 1) + 1) i__law_like [.d y, .d y] st = some (.d (.bool true), st) := fun y hy => v_law_like n k y st (h y hy)
        have hc := lk_comp (fns T (k + (n + 1) + 1)) _ xs 4 st (.inl rfl) ih
        simp only [sortD] at es
        unfold runF
        rw [lk_body, e7, e8]
        simp [slots, es, in45, rdVar, rdRaw, bltW, hc, eqnil, fin, sizeLine]
    · cases n with
      | zero => exact h.elim
      | succ n =>
        have ih : ∀ y ∈ xs, fns T (k + (n + 1) + 1) i__law_like [.d y, .d y] st = some (.d (.bool true), st) := fun y hy => v_law_like n k y st (h y hy)
        have hc := lk_comp (fns T (k + (n + 1) + 1)) _ xs 5 st (.inr rfl) ih
        simp only [sortD] at es
        unfold runF
        rw [lk_body, e7, e8]
        simp [slots, es, in45, rdVar, rdRaw, bltW, hc, eqnil, fin, sizeLine]
    · have b : cmpD .Eq (.none : D) .none = some true := by
        rw [eq_d (by simp) (by simp)]
        rfl
      simp only [sortD] at es
      unfold runF
      rw [lk_body, e7, e8]
      simp [slots, rdRaw, rdVar, fin, es, in45, b, sizeLine]
    · simp only [sortD] at es
      unfold runF
      rw [lk_body, e7, e8]
      simp [slots, rdRaw, rdVar, fin, es, in45, sizeLine]
    · simp only [sortD] at es
      unfold runF
      rw [lk_body, e7, e8]
      simp [slots, rdRaw, rdVar, fin, es, in45, sizeLine]
def cup (a b : Int) : Cell := .lst false [.int a, .int b]
theorem v_roll (k : Nat) (many a b : Int) (st : Store) (h : 0 < many) (h2 : many < 2 ^ 63) : ∃ r a' b', fns T (k + 1) i__law_roll [.m 0, Z many] (cup a b :: st) = some (Z r, cup a' b' :: st) ∧ 0 ≤ r ∧ r < many := by
  rw [s__law_roll]
  by_cases c : 0 < a
  · refine ⟨a % many, a / many, b, ?_, Int.emod_nonneg _ (by omega), Int.emod_lt_of_pos _ h⟩
    have e1 : binD .Mod (.int a) (.int many) = _ := mod_i h
    have e2 : binD .FloorDiv (.int a) (.int many) = _ := div_i h (small_big (by omega))
    simp [runF, f__law_roll, slots, rdRaw, rdVar, fin, cup, ixW, c, bltW, e1, e2, putC, L2.ixN]
  · let b1 := (b * 29917 + 9103) % 2147483543
    have hb0 : 0 ≤ b1 := Int.emod_nonneg _ (by omega)
    have hb1 : b1 < 2147483543 := Int.emod_lt_of_pos _ (by omega)
    let dp := (b1 * (b1 + 307)) % 2147483587
    refine ⟨(dp / 887) % many, a, b1, ?_, Int.emod_nonneg _ (by omega), Int.emod_lt_of_pos _ h⟩
    have e1 : binD .Mult (.int b) (.int 29917) = some (.int (b * 29917)) := mul_i (mulOk_r (by decide))
    have e2 : binD .Mod (.int (b * 29917 + 9103)) (.int 2147483543) = some (.int b1) := mod_i (by omega)
    have e3 : binD .Mult (.int b1) (.int (b1 + 307)) = some (.int (b1 * (b1 + 307))) := mul_i (mulOk_l (by omega))
    have e4 : binD .Mod (.int (b1 * (b1 + 307))) (.int 2147483587) = some (.int dp) := mod_i (by omega)
    have e5 : binD .FloorDiv (.int dp) (.int 887) = some (.int (dp / 887)) := div_i (by omega) (small_big (by decide))
    have e6 : binD .Mod (.int (dp / 887)) (.int many) = some (.int (dp / 887 % many)) := mod_i h
    have c' : ¬ (0 < a) := c
    simp [runF, f__law_roll, slots, rdRaw, rdVar, fin, cup, ixW, c', bltW, e1, e2, e3, e4, e5, e6, putC, L2.ixN]
theorem atI_of {xs : List D} {r : Int} (h0 : 0 ≤ r) (h1 : r < xs.length) : ∃ x, atI xs r = some x ∧ x ∈ xs ∧ xs[r.toNat]? = some x := by
  have hl : r.toNat < xs.length := by omega
  refine ⟨xs[r.toNat], ?_, List.getElem_mem hl, List.getElem?_eq_getElem hl⟩
  unfold L2.atI L2.ixN
  rw [if_pos h0, if_pos h1]
  exact List.getElem?_eq_getElem hl
theorem v_some (k : Nat) (xs : List D) (a b : Int) (st : Store) (h0 : xs ≠ []) (h1 : xs.length < 2 ^ 60) : ∃ a' b' x, fns T (k + 2) i__law_some [.m 0, Li xs] (cup a b :: st) = some (.d x, cup a' b' :: st) ∧ x ∈ xs := by
  rw [s__law_some]
  have hp : 0 < xs.length := List.length_pos_iff.mpr h0
  obtain ⟨r, a', b', e, h2, h3⟩ := v_roll k (xs.length : Int) a b st (by omega) (by omega)
  obtain ⟨x, e1, e2, _⟩ := atI_of h2 h3
  have e3 : ixD (.list xs) (.int r) = some x := e1
  exact ⟨a', b', x, by simp [runF, f__law_some, slots, rdRaw, rdVar, fin, bltW, e, e3], e2⟩
end WM.K88
namespace WM.K88
open PySem PySem.Spec PyProof.Rows L2 RT
structure CyB (c : Cyc) : Prop where
  ok : CyOk c
  b : c.1 ≤ 10 ^ 9
theorem v_fits_cycle (k : Nat) (c : Cyc) (st : Store) (h : CyB c) : fns T (k + 2) i_fits_cycle [.d (cyD c)] st = some (Bl true, st) := by
  rw [s_fits_cycle]
  have h1 := h.ok.e0
  have h2 := h.ok.r0
  have h3 := h.ok.r1
  have h4 := h.b
  have e1 := w_is_tuple2 k (.int c.1) (.int c.2) st
  have e2 := w_is_whole k c.1 1 1000000000 st (by omega) (by omega)
  have e3 := w_is_whole k c.2 0 (c.1 - 1) st h2 (by omega)
  unfold cyD cy
  simp [runF, f_fits_cycle, slots, rdRaw, rdVar, fin, e1, e2, e3, truW, truD]
theorem v_fits_cycles (k : Nat) (cs : List Cyc) (st : Store) (h : ∀ c ∈ cs, CyB c) (hl : cs.length ≤ 12) : fns T (k + 3) i_fits_cycles [Tu (cs.map cyD)] st = some (Bl true, st) := by
  rw [s_fits_cycles]
  have e1 := w_is_tuple_of (k + 1) (cs.map cyD) 0 12 st (by omega) (by simp; omega)
  have e2 : runE (fns T (k + 2)) c0_fits_cycles [some (Tu (cs.map cyD)), none] st = some (Li (cs.map fun c => .bool true), st) := by
    unfold c0_fits_cycles
    refine run_comp_map cs cyD (fun _ => .bool true) (runI_val (x := .tuple (cs.map cyD)) (by simp [rdVar]) rfl) (Nat.le_trans hl (by decide)) fun c hc => ⟨_, rfl, ?_⟩
    simp [rdRaw, v_fits_cycle k c st (h c hc)]
  have e3 := all_b cs fun _ => true
  have e4 : (cs.all fun _ => true) = true := by simp
  rw [e4] at e3
  simp [runF, f_fits_cycles, slots, rdRaw, rdVar, fin, e1, e2, bltW, e3]
theorem v_need_cycles (k : Nat) (cs : List Cyc) (st : Store) (h : ∀ c ∈ cs, CyB c) (hl : cs.length ≤ 12) : fns T (k + 4) i_need_cycles [Tu (cs.map cyD)] st = some (No, st) := by
  rw [s_need_cycles]
  simp [runF, f_need_cycles, slots, rdRaw, rdVar, fin, v_fits_cycles k cs st h hl]
theorem v_need_day (k : Nat) (d : Int) (st : Store) (h1 : -10 ^ 18 ≤ d) (h2 : d ≤ 10 ^ 18) : fns T (k + 3) i_need_day [Z d] st = some (No, st) := by
  rw [s_need_day]
  have e := v_need_whole k d (-1000000000000000000) 1000000000000000000 st (by omega) (by omega)
  simp [runF, f_need_day, slots, rdRaw, rdVar, fin, e]
theorem v_need_stretch (k : Nat) (a b : Int) (st : Store) (h1 : -10 ^ 18 ≤ a) (h2 : a ≤ b) (h3 : b ≤ 10 ^ 18) : fns T (k + 4) i_need_stretch [Z a, Z b] st = some (No, st) := by
  rw [s_need_stretch]
  have e1 := v_need_day k a st h1 (by omega)
  have e2 := v_need_day k b st (by omega) h3
  have e3 : decide (b < a) = false := decide_eq_false (by omega)
  simp [runF, f_need_stretch, slots, rdRaw, rdVar, fin, e1, e2, e3]
theorem v_next_on (k : Nat) (c : Cyc) (d : Int) (st : Store) (h : 0 < c.1) : fns T (k + 1) i_next_on [.d (cyD c), Z d] st = some (Z (d + (c.2 - d) % c.1), st) := by
  rw [s_next_on]
  have e : binD .Mod (.int (c.2 - d)) (.int c.1) = _ := mod_i h
  unfold cyD cy
  simp [runF, f_next_on, slots, rdRaw, rdVar, fin, e]
theorem v_count_on (k : Nat) (c : Cyc) (lo : Int) (n : Nat) (st : Store) (h : CyOk c) (hb : c.1.natAbs ≤ H1) : fns T (k + 1) i_count_on [.d (cyD c), Z lo, Z (lo + n)] st = some (Z (cntO (some c) lo n), st) := by
  rw [s_count_on]
  have e1 := div_h (i := lo + n - 1 - c.2) h.e0 hb
  have e2 := div_h (i := lo - 1 - c.2) h.e0 hb
  have e3 : (lo + n - 1 - c.2) / c.1 - (lo - 1 - c.2) / c.1 = cntO (some c) lo n := cnt_div h.e0 h.r0 h.r1 lo n
  unfold cyD cy
  simp [runF, f_count_on, slots, rdRaw, rdVar, fin, e1, e2, e3]
theorem prodE_bd {cs : List Cyc} (h : ∀ c ∈ cs, CyB c) : prodE cs ≤ (10 ^ 9) ^ cs.length := by
  refine snoc_ind (P := fun cs => (∀ c ∈ cs, CyB c) → prodE cs ≤ (10 ^ 9) ^ cs.length) (fun _ => by decide) (fun cs c ih hc => ?_) cs h
  have h1 : ∀ c ∈ cs, CyB c := fun c hc' => hc c (by simp [hc'])
  have h2 := hc c (by simp)
  rw [prodE_snoc, List.length_append, List.length_singleton, Int.pow_succ]
  refine Int.le_trans (Int.mul_le_mul_of_nonneg_right (ih h1) (by have := h2.ok.e0; omega)) ?_
  exact Int.mul_le_mul_of_nonneg_left h2.b (Int.le_of_lt (Int.pow_pos (by decide)))
theorem prodE_H1 {cs : List Cyc} (h : ∀ c ∈ cs, CyB c) (hl : cs.length ≤ 12) : (prodE cs).natAbs ≤ H1 := by
  have h1 := prodE_bd h
  have h2 := prodE_pos fun c hc => (h c hc).ok
  have h3 : ((10 ^ 9 : Int)) ^ cs.length ≤ (10 ^ 9) ^ 12 := by
    have : ((10 ^ 9 : Nat)) ^ cs.length ≤ (10 ^ 9) ^ 12 := Nat.pow_le_pow_right (by omega) hl
    exact_mod_cast this
  have h4 : ((10 ^ 9 : Int)) ^ 12 ≤ (H1 : Int) := by decide +kernel
  omega
theorem Qs_H1 {cs : List Cyc} (h : ∀ c ∈ cs, CyB c) (hl : cs.length ≤ 12) : ∀ e ∈ Qs cs, ∀ c, e.2 = some c → c.1.natAbs ≤ H1 := by
  intro e he c hc
  have hok := fun c hc => (h c hc).ok
  have h1 := Int.le_of_dvd (prodE_pos hok) (Qs_dvd hok e he c hc)
  have h2 := prodE_H1 h hl
  have h3 := (Qs_ok hok e he c hc).e0
  omega
/-- the met cycle of all -/
def mtg (cs : List Cyc) : Option Cyc := cs.foldl metO (some (1, 0))
theorem mtg_snoc (cs : List Cyc) (c : Cyc) : mtg (cs ++ [c]) = metO (mtg cs) c := by
  unfold mtg
  rw [List.foldl_append]
  rfl
theorem mtg_mem (cs : List Cyc) : ∃ s, (s, mtg cs) ∈ Qs cs := by
  refine snoc_ind (P := fun cs => ∃ s, (s, mtg cs) ∈ Qs cs) ⟨0, by simp [mtg, Qs]⟩ (fun cs c ih => ?_) cs
  obtain ⟨s, hs⟩ := ih
  refine ⟨s + 1, ?_⟩
  rw [mtg_snoc, Qs_snoc]
  unfold qStep
  exact List.mem_append_right _ (List.mem_map.mpr ⟨_, hs, rfl⟩)
theorem mtg_hit {cs : List Cyc} (h : ∀ c ∈ cs, CyOk c) (x : Int) : hitO (mtg cs) x = cs.all fun c => hit c x := by
  refine snoc_ind (P := fun cs => (∀ c ∈ cs, CyOk c) → hitO (mtg cs) x = cs.all fun c => hit c x) (fun _ => ?_) (fun cs c ih hc => ?_) cs h
  · show decide _ = true
    exact decide_eq_true (Int.emod_one x)
  · have h1 : ∀ c ∈ cs, CyOk c := fun c hc' => hc c (by simp [hc'])
    obtain ⟨s, hs⟩ := mtg_mem cs
    rw [mtg_snoc, metO_hit (Qs_ok h1 _ hs) (hc c (by simp)), ih h1]
    simp
theorem mtg_ok {cs : List Cyc} (h : ∀ c ∈ cs, CyOk c) : OpOk (mtg cs) := by
  obtain ⟨s, hs⟩ := mtg_mem cs
  exact Qs_ok h _ hs
theorem isn_opD (o : Option Cyc) : cmpD .Is (opD o) .none = some o.isNone := by
  cases o <;> rfl
theorem isnn_opD (o : Option Cyc) : cmpD .IsNot (opD o) .none = some o.isSome := by
  cases o <;> rfl
theorem v_metO (k : Nat) (p c : Cyc) (st : Store) (hp : CyOk p) (hc : CyB c) (hb : p.1.natAbs ≤ H1) : fns T (k + 2) i_met [.d (opD (some p)), .d (cyD c)] st = some (.d (opD (metO (some p) c)), st) := by
  rw [← metO_D]
  have h1 := hp.e0
  have h2 := hp.r0
  have h3 := hp.r1
  have h4 := hc.ok.e0
  have h5 := hc.ok.r0
  have h6 := hc.ok.r1
  have h7 := hc.b
  have h8 : (10 : Nat) ^ 9 ≤ H1 := by decide +kernel
  exact v_met k p.1 p.2 c.1 c.2 st hp.e0 hc.ok.e0 (by omega) hb (by omega)
theorem v_meeting_in (k : Nat) (cs : List Cyc) (st : Store) (h : ∀ c ∈ cs, CyB c) (hl : cs.length ≤ 12) : fns T (k + 3) i_meeting_in [Tu (cs.map cyD)] st = some (.d (opD (mtg cs)), st) := by
  rw [s_meeting_in]
  have hi : runI (fns T (k + 2)) (.val (.var 0)) [some (Tu (cs.map cyD)), some (.d (opD (some (1, 0)))), none] st = some (cs.map cyD, st) := runI_val (x := .tuple (cs.map cyD)) (by simp [rdVar]) rfl
  obtain ⟨h', e⟩ := for_done (g := fun d sl => stTg (.v 2) d sl) (b := fun sl st => runSs (fns T (k + 2)) b0_meeting_in sl st) cyD (fun done (w : Option W) => [some (Tu (cs.map cyD)), some (.d (opD (mtg done))), w]) (fun _ => st) (l := cs) (done := []) (h := none) fun d c r w hd => by
    have hd : cs = d ++ c :: r := hd
    have hd1 : ∀ x ∈ d, CyB x := fun x hx => h x (by rw [hd]; simp [hx])
    have hd2 : d.length ≤ 12 := by rw [hd] at hl; simp at hl; omega
    refine ⟨_, some (.d (cyD c)), rfl, ?_⟩
    rw [mtg_snoc]
    cases em : mtg d with
    | none => simp [b0_meeting_in, rdRaw, rdVar, isn_opD, metO]
    | some p =>
      obtain ⟨s, hs⟩ := mtg_mem d
      rw [em] at hs
      have e1 := v_metO k p c st (mtg_ok (fun x hx => (hd1 x hx).ok) p em) (h c (by rw [hd]; simp)) (Qs_H1 hd1 hd2 _ hs p rfl)
      simp [b0_meeting_in, rdRaw, rdVar, isn_opD, e1]
  have e2 : runS (fns T (k + 2)) l0_meeting_in [some (Tu (cs.map cyD)), some (.d (opD (some (1, 0)))), none] st = _ := run_for_of hi e
  have e3 : (.tuple [.int 1, .int 0] : D) = opD (some (1, 0)) := rfl
  simp [runF, f_meeting_in, slots, rdRaw, rdVar, fin, sizeLine, e3, e2]
theorem v_next_meeting (k : Nat) (cs : List Cyc) (d : Int) (st : Store) (h : ∀ c ∈ cs, CyB c) (hl : cs.length ≤ 12) (h1 : -10 ^ 18 ≤ d) (h2 : d ≤ 10 ^ 18) :
    fns T (k + 5) i_next_meeting [Tu (cs.map cyD), Z d] st = some (.d (match mtg cs with
      | none => .none
      | some c => .int (d + (c.2 - d) % c.1)), st) := by
  rw [s_next_meeting]
  have e1 := v_need_cycles k cs st h hl
  have e2 := v_need_day (k + 1) d st h1 h2
  have e3 := v_meeting_in (k + 1) cs st h hl
  cases em : mtg cs with
  | none =>
    rw [em] at e3
    simp [runF, f_next_meeting, slots, rdRaw, rdVar, fin, e1, e2, e3, isn_opD]
  | some c =>
    rw [em] at e3
    have e4 := v_next_on (k + 3) c d st (mtg_ok (fun x hx => (h x hx).ok) c em).e0
    have e5 : opD (some c) = cyD c := rfl
    rw [e5] at e3
    have e6 : cmpD .Is (cyD c) .none = some false := rfl
    simp [runF, f_next_meeting, slots, rdRaw, rdVar, fin, e1, e2, e3, e4, e6]
theorem v_count_meetings (k : Nat) (cs : List Cyc) (lo : Int) (n : Nat) (st : Store) (h : ∀ c ∈ cs, CyB c) (hl : cs.length ≤ 12) (h1 : -10 ^ 18 ≤ lo) (h2 : lo + n ≤ 10 ^ 18) :
    fns T (k + 5) i_count_meetings [Tu (cs.map cyD), Z lo, Z (lo + n)] st = some (Z (cntO (mtg cs) lo n), st) := by
  rw [s_count_meetings]
  have e1 := v_need_cycles k cs st h hl
  have e2 := v_need_stretch k lo (lo + n) st h1 (by omega) h2
  have e3 := v_meeting_in (k + 1) cs st h hl
  cases em : mtg cs with
  | none =>
    rw [em] at e3
    have e4 : cntO none lo n = 0 := sm_zero n
    simp [runF, f_count_meetings, slots, rdRaw, rdVar, fin, e1, e2, e3, isn_opD, e4]
  | some c =>
    obtain ⟨s, hs⟩ := mtg_mem cs
    rw [em] at e3 hs
    have e4 := v_count_on (k + 3) c lo n st (mtg_ok (fun x hx => (h x hx).ok) c em) (Qs_H1 h hl _ hs c rfl)
    have e5 : opD (some c) = cyD c := rfl
    rw [e5] at e3
    have e6 : cmpD .Is (cyD c) .none = some false := rfl
    simp [runF, f_count_meetings, slots, rdRaw, rdVar, fin, e1, e2, e3, e4, e6]
end WM.K88
namespace WM.K88
open PySem PySem.Spec PyProof.Rows L2 RT
theorem v_size_of (k : Nat) (i : Nat) (st : Store) : fns T (k + 1) i_size_of [Z (i : Int)] st = some (Z (pc i : Int), st) := by
  rw [s_size_of]
  have e1 : runE (fns T k) c0_size_of [some (Z (i : Int)), none] st = some (Li (((iv 0 12).filter fun a => i.testBit a.toNat).map fun _ => .int 1), st) := by
    unfold c0_size_of
    refine run_comp_fm (iv 0 12) PyData.int (fun a => i.testBit a.toNat) (fun _ => .int 1) (runI_rng1 (j := 12) (by simp) (by decide) (by decide)) (by rw [iv_len]; decide) fun a ha => ⟨_, rfl, ?_, fun _ => by simp⟩
    obtain ⟨h0, h1⟩ := mem_iv.mp ha
    have e2 : binD .RShift (.int i) (.int a) = some (.int ((i : Int) / 2 ^ a.toNat)) := if_pos h0
    have e3 : binD .BitAnd (.int ((i : Int) / 2 ^ a.toNat)) (.int 1) = some (.int (if i.testBit a.toNat then 1 else 0)) := by
      show some (PyData.int _) = _
      rw [shr_and]
    cases hb : i.testBit a.toNat with
    | true =>
      rw [hb] at e3
      simp [rdVar, e2, e3]
    | false =>
      rw [hb] at e3
      simp [rdVar, e2, e3]
  have e4 : (((iv 0 12).filter fun a => i.testBit a.toNat).map fun _ => PyData.int 1).length = pc i := by
    rw [List.length_map]
    unfold pc iv
    rw [List.filter_map, List.length_map]
    congr 1
  simp [runF, f_size_of, slots, rdRaw, rdVar, fin, e1, bltW, ← e4]
theorem v_meets_in (k : Nat) (cs : List Cyc) (st : Store) (h : ∀ c ∈ cs, CyB c) (hl : cs.length ≤ 12) : fns T (k + 3) i_meets_in [Tu (cs.map cyD)] st = some (Li ((Qs cs).map fun e => opD e.2), st) := by
  rw [s_meets_in]
  have hi : runI (fns T (k + 2)) (.enum (.var 0)) [some (Tu (cs.map cyD)), some (Li ((Qs []).map fun e => opD e.2)), none, none, none] st = some ((enl 0 cs).map (enx cyD), st) := by
    rw [runI_enum (st1 := st) (x := .tuple (cs.map cyD)) (xs := cs.map cyD) (by simp [rdVar]) (.inr rfl), enumD_map]
  obtain ⟨h', e⟩ := for_done (g := fun d sl => stTg (.t (.cons (.v 2) (.cons (.v 3) .nil))) d sl) (b := fun sl st => runSs (fns T (k + 2)) b0_meets_in sl st) (enx cyD) (fun done (w : Option W × Option W) => [some (Tu (cs.map cyD)), some (Li ((Qs (done.map (·.2))).map fun e => opD e.2)), w.1, w.2, none]) (fun _ => st) (l := enl 0 cs) (done := []) (h := (none, none)) fun d p r w hd => by
    have hd : enl 0 cs = d ++ p :: r := hd
    have hcs : cs = d.map (·.2) ++ p.2 :: r.map (·.2) := by
      have : (enl 0 cs).map (·.2) = cs := by
        have : ∀ (l : List Cyc) (i : Nat), (enl i l).map (·.2) = l := by
          intro l
          induction l with
          | nil => intro i; rfl
          | cons a l ih => intro i; show a :: (enl (i + 1) l).map (·.2) = _; rw [ih]
        exact this cs 0
      rw [← this, hd]
      simp
    refine ⟨_, (some (Z (p.1 : Int)), some (.d (cyD p.2))), rfl, ?_⟩
    generalize hq : d.map (·.2) = dc at *
    have hd1 : ∀ x ∈ dc, CyB x := fun x hx => h x (by rw [hcs]; simp [hx])
    have hd2 : dc.length + 1 ≤ 12 := by rw [hcs] at hl; simp at hl; omega
    have hp : CyB p.2 := h p.2 (by rw [hcs]; simp)
    have hz : (Qs dc).length ≤ 2048 := by
      rw [Qs_len]
      exact Nat.le_trans (Nat.pow_le_pow_right (by omega) (show dc.length ≤ 11 by omega)) (by decide)
    have hs : sizeLine = 16777216 := sizeLine_eq
    have ec : runE (fns T (k + 2)) c0_meets_in [some (Tu (cs.map cyD)), some (Li ((Qs dc).map fun e => opD e.2)), some (Z (p.1 : Int)), some (.d (cyD p.2)), none] st = some (Li ((Qs dc).map fun e => opD (metO e.2 p.2)), st) := by
      unfold c0_meets_in
      refine run_comp_map (Qs dc) (fun e => opD e.2) (fun e => opD (metO e.2 p.2)) (runI_val (x := .list ((Qs dc).map fun e => opD e.2)) (by simp [rdVar]) rfl) (by omega) fun q hq' => ⟨_, rfl, ?_⟩
      cases eq : q.2 with
      | none => simp [rdVar, rdRaw, isn_opD, metO, opD]
      | some o =>
        have e1 := v_metO k o p.2 st (Qs_ok (fun x hx => (hd1 x hx).ok) q hq' o eq) hp (Qs_H1 hd1 (by omega) q hq' o eq)
        simp [rdVar, rdRaw, isn_opD, e1]
    have ea : binD .Add (.list ((Qs dc).map fun e => opD e.2)) (.list ((Qs dc).map fun e => opD (metO e.2 p.2))) = some (.list ((Qs (dc ++ [p.2])).map fun e => opD e.2)) := by
      have e5 : (Qs (dc ++ [p.2])).map (fun e => opD e.2) = (Qs dc).map (fun e => opD e.2) ++ (Qs dc).map (fun e => opD (metO e.2 p.2)) := by
        rw [Qs_snoc]
        unfold qStep
        simp [List.map_append, List.map_map, Function.comp_def]
      rw [e5]
      exact if_pos (by simp; omega)
    have ed : (d ++ [p]).map (·.2) = dc ++ [p.2] := by simp [hq]
    simp only [enx, ed]
    simp [b0_meets_in, rdRaw, rdVar, ec, ea, hq]
  have e2 : runS (fns T (k + 2)) l0_meets_in [some (Tu (cs.map cyD)), some (Li ((Qs []).map fun e => opD e.2)), none, none, none] st = _ := run_for_of hi e
  have e6 : (List.map (fun x => x.2) (enl 0 cs)) = cs := by
    have : ∀ (l : List Cyc) (i : Nat), (enl i l).map (·.2) = l := by
      intro l
      induction l with
      | nil => intro i; rfl
      | cons a l ih => intro i; show a :: (enl (i + 1) l).map (·.2) = _; rw [ih]
    exact this cs 0
  have e3 : (.list [.tuple [.int 1, .int 0]] : D) = .list ((Qs []).map fun e => opD e.2) := rfl
  simp [runF, f_meets_in, slots, rdRaw, rdVar, fin, sizeLine, e3, e2, e6]
theorem ch_bd : ∀ n k : Nat, 0 ≤ ch n k ∧ ch n k ≤ 2 ^ n
  | _, 0 => by
    rw [ch_zero]
    exact ⟨by decide, Int.pow_pos (by decide)⟩
  | 0, k + 1 => by
    show (0 : Int) ≤ 0 ∧ (0 : Int) ≤ 2 ^ 0
    decide
  | n + 1, k + 1 => by
    have a := ch_bd n k
    have b := ch_bd n (k + 1)
    unfold ch
    rw [Int.pow_succ]
    omega
theorem iv_split {lo : Int} {n : Nat} {d r : List Int} {c : Int} (h : iv lo n = d ++ c :: r) : c = lo + d.length ∧ d.length < n := by
  have hl : d.length < n := by
    have := congrArg List.length h
    rw [iv_len] at this
    simp at this
    omega
  have e : (iv lo n)[d.length]? = some c := by
    rw [h, List.getElem?_append_right (Nat.le_refl _)]
    simp
  rw [iv_get hl] at e
  exact ⟨(Option.some.inj e).symm, hl⟩
theorem v_chosen (k : Nat) (n m : Nat) (st : Store) (hn : n ≤ 60) (hm : m ≤ 60) : fns T (k + 1) i_chosen [Z (n : Int), Z (m : Int)] st = some (Z (ch n m), st) := by
  rw [s_chosen]
  have hi : runI (fns T k) (.rng1 (.var 1)) [some (Z (n : Int)), some (Z (m : Int)), some (Z 1), none] st = some ((iv 0 (m : Int).toNat).map PyData.int, st) := runI_rng1 (by simp [rdVar]) (by omega) (by omega)
  obtain ⟨h', e⟩ := for_done (g := fun d sl => stTg (.v 3) d sl) (b := fun sl st => runSs (fns T k) b0_chosen sl st) PyData.int (fun done (w : Option W) => [some (Z (n : Int)), some (Z (m : Int)), some (Z (ch n done.length)), w]) (fun _ => st) (l := iv 0 (m : Int).toNat) (done := []) (h := none) fun d c r w hd => by
    obtain ⟨hc, hl⟩ := iv_split (by simpa using hd)
    refine ⟨_, some (Z c), rfl, ?_⟩
    have hc : c = (d.length : Int) := by omega
    subst hc
    have b := ch_bd n d.length
    have e1 : binD .Mult (.int (ch n d.length)) (.int ((n : Int) - (d.length : Int))) = some (.int (ch n d.length * ((n : Int) - d.length))) := mul_i (mulOk_r (by omega))
    have e2 : binD .FloorDiv (.int (ch n d.length * ((n : Int) - d.length))) (.int ((d.length : Int) + 1)) = some (.int (ch n (d.length + 1))) := by
      rw [div_i (by omega) (small_big (by omega)), ← ch_next n d.length, Int.mul_ediv_cancel _ (by omega)]
    simp [b0_chosen, rdRaw, rdVar, e1, e2]
  have e4 : ([] ++ iv 0 (m : Int).toNat).length = m := by simp [iv_len]
  have e5 : ch n ([] : List Int).length = 1 := ch_zero n
  simp only [e4, e5] at e
  have e2 : runS (fns T k) l0_chosen [some (Z (n : Int)), some (Z (m : Int)), some (Z 1), none] st = some (.nx, [some (Z (n : Int)), some (Z (m : Int)), some (Z (ch n m)), h'], st) := run_for_of hi e
  simp [runF, f_chosen, slots, rdRaw, rdVar, fin, e2]
/-- the sums of all sets of so many cycles -/
def sumS (cs : List Cyc) (lo : Int) (n s : Nat) : Int := ls (fun e : QE => if e.1 = s then cntO e.2 lo n else 0) (Qs cs)
def accS (lo : Int) (n : Nat) (d : List (Nat × QE)) (s : Nat) : Int := ls (fun p : Nat × QE => if p.2.1 = s then cntO p.2.2 lo n else 0) d
def rowS (L : Nat) (F : Nat → Int) : List D := (List.range L).map fun s => .int (F s)
theorem rowS_get {L : Nat} {F : Nat → Int} {s : Nat} (h : s < L) : atI (rowS L F) (s : Int) = some (.int (F s)) := by
  have e : L2.ixN (rowS L F).length (s : Int) = some s := by
    unfold L2.ixN rowS
    rw [if_pos (by omega), if_pos (by simp; omega)]
    simp
  unfold L2.atI
  rw [e]
  show (rowS L F)[s]? = _
  unfold rowS
  rw [List.getElem?_map, List.getElem?_range h] <;> rfl
theorem rowS_ix {L : Nat} {F : Nat → Int} {s : Nat} (h : s < L) : L2.ixN (rowS L F).length (s : Int) = some s := by
  unfold L2.ixN rowS
  rw [if_pos (by omega), if_pos (by simp; omega)]
  simp
theorem rowS_set {L : Nat} {F G : Nat → Int} {s : Nat} {x : Int} (h : s < L) (h1 : G s = x) (h2 : ∀ t, t ≠ s → G t = F t) : (rowS L F).set s (.int x) = rowS L G := by
  unfold rowS
  apply List.ext_getElem?
  intro i
  by_cases hi : i = s
  · subst hi
    rw [List.getElem?_set_self (by simp; exact h), List.getElem?_map, List.getElem?_range h]
    show _ = some (PyData.int (G i))
    rw [h1]
  · rw [List.getElem?_set_ne (Ne.symm hi), List.getElem?_map, List.getElem?_map]
    by_cases hl : i < L
    · rw [List.getElem?_range hl]
      show some (PyData.int (F i)) = some (PyData.int (G i))
      rw [h2 i hi]
    · rw [List.getElem?_eq_none (by simp; omega)]
      rfl
theorem Qs_fst {cs : List Cyc} : ∀ e ∈ Qs cs, e.1 ≤ cs.length := by
  refine snoc_ind (P := fun cs => ∀ e ∈ Qs cs, e.1 ≤ cs.length) (fun e he => ?_) (fun cs c ih e he => ?_) cs
  · have : e = (0, some (1, 0)) := by simpa [Qs] using he
    subst this
    exact Nat.le_refl _
  · rw [Qs_snoc] at he
    unfold qStep at he
    rw [List.length_append, List.length_singleton]
    rcases List.mem_append.mp he with he | he
    · have := ih e he; omega
    · obtain ⟨e', h1, rfl⟩ := List.mem_map.mp he
      have := ih e' h1
      show e'.1 + 1 ≤ _
      omega
theorem cntO_none (lo : Int) (n : Nat) : cntO none lo n = 0 := sm_zero n
theorem v_sums_in (k : Nat) (cs : List Cyc) (lo : Int) (n : Nat) (st : Store) (h : ∀ c ∈ cs, CyB c) (hl : cs.length ≤ 12) :
    fns T (k + 4) i_sums_in [Tu (cs.map cyD), Z lo, Z (lo + n)] st = some (Li (rowS (cs.length + 1) (sumS cs lo n)), st) := by
  rw [s_sums_in]
  have hs : sizeLine = 16777216 := sizeLine_eq
  have em := v_meets_in k cs (st ++ [.lst false (rowS (cs.length + 1) (accS lo n []))]) h hl
  have hi : runI (fns T (k + 3)) (.enum (.call i_meets_in (.cons (.raw 0) .nil))) [some (Tu (cs.map cyD)), some (Z lo), some (Z (lo + n)), some (.m st.length), none, none] (st ++ [.lst false (rowS (cs.length + 1) (accS lo n []))]) = some ((enl 0 (Qs cs)).map (enx fun e => opD e.2), st ++ [.lst false (rowS (cs.length + 1) (accS lo n []))]) := by
    rw [runI_enum (st1 := st ++ [.lst false (rowS (cs.length + 1) (accS lo n []))]) (x := .list ((Qs cs).map fun e => opD e.2)) (xs := (Qs cs).map fun e => opD e.2) (by simp [rdRaw, em]) (.inl rfl), enumD_map]
  obtain ⟨h', e⟩ := for_done (g := fun d sl => stTg (.t (.cons (.v 4) (.cons (.v 5) .nil))) d sl) (b := fun sl st => runSs (fns T (k + 3)) b0_sums_in sl st) (enx fun e : QE => opD e.2) (fun done (w : Option W × Option W) => [some (Tu (cs.map cyD)), some (Z lo), some (Z (lo + n)), some (.m st.length), w.1, w.2])
      (fun done => st ++ [.lst false (rowS (cs.length + 1) (accS lo n done))]) (l := enl 0 (Qs cs)) (done := []) (h := (none, none)) fun d p r w hd => by
    have hd : enl 0 (Qs cs) = d ++ p :: r := hd
    have hp : p ∈ enl 0 (Qs cs) := by rw [hd]; simp
    obtain ⟨_, _, hg⟩ := enl_mem hp
    rw [Nat.sub_zero] at hg
    have hpc := Qs_pc hl _ _ hg
    have hmem := List.mem_of_getElem? hg
    have hf := Qs_fst _ hmem
    refine ⟨_, (some (Z (p.1 : Int)), some (.d (opD p.2.2))), rfl, ?_⟩
    have sn : ∀ s, accS lo n (d ++ [p]) s = accS lo n d s + (if p.2.1 = s then cntO p.2.2 lo n else 0) := fun s => by
      unfold accS
      rw [ls_append, ls_cons, ls_nil, Int.add_zero]
    have g1 : ∀ c : Cell, (st ++ [c])[st.length]? = some c := fun c => by simp
    have g2 : ∀ c c' : Cell, (st ++ [c]).set st.length c' = st ++ [c'] := fun c c' => by simp
    cases eo : p.2.2 with
    | none =>
      have e5 : rowS (cs.length + 1) (accS lo n (d ++ [p])) = rowS (cs.length + 1) (accS lo n d) := by
        unfold rowS
        apply List.map_congr_left
        intro s _
        rw [sn, eo, cntO_none]
        split <;> rw [Int.add_zero]
      rw [e5]
      simp only [enx, eo]
      simp [b0_sums_in, rdRaw, rdVar, isnn_opD]
    | some c =>
      have s1 := v_size_of (k + 2) p.1 (st ++ [.lst false (rowS (cs.length + 1) (accS lo n d))])
      have s2 := v_count_on (k + 2) c lo n (st ++ [.lst false (rowS (cs.length + 1) (accS lo n d))]) (Qs_ok (fun x hx => (h x hx).ok) _ hmem c eo) (Qs_H1 h hl _ hmem c eo)
      rw [← hpc] at s1
      have s3 : ixD (.list (rowS (cs.length + 1) (accS lo n d))) (.int (p.2.1 : Int)) = some (.int (accS lo n d p.2.1)) := rowS_get (by omega)
      have s4 := rowS_ix (F := accS lo n d) (s := p.2.1) (L := cs.length + 1) (by omega)
      have s5 : (rowS (cs.length + 1) (accS lo n d)).set p.2.1 (.int (accS lo n d p.2.1 + cntO (some c) lo n)) = rowS (cs.length + 1) (accS lo n (d ++ [p])) := rowS_set (by omega) (by rw [sn, if_pos rfl, eo]) fun t ht => by rw [sn, if_neg (Ne.symm ht), Int.add_zero]
      have eo2 : opD (some c) = cyD c := rfl
      have i1 : cmpD .IsNot (cyD c) .none = some true := rfl
      simp only [enx, eo, eo2]
      generalize rowS (cs.length + 1) (accS lo n d) = R at *
      simp [b0_sums_in, rdRaw, rdVar, i1, s1, s2, ixW, g1, s3, s4, s5, g2]
  have e6 : rowS (cs.length + 1) (accS lo n ([] ++ enl 0 (Qs cs))) = rowS (cs.length + 1) (sumS cs lo n) := by
    unfold rowS
    apply List.map_congr_left
    intro s _
    congr 1
    unfold accS sumS
    rw [List.nil_append]
    have : ∀ (l : List QE) (i : Nat), ls (fun p : Nat × QE => if p.2.1 = s then cntO p.2.2 lo n else 0) (enl i l) = ls (fun e : QE => if e.1 = s then cntO e.2 lo n else 0) l := by
      intro l
      induction l with
      | nil => intro i; rfl
      | cons a l ih =>
        intro i
        show ls _ ((i, a) :: enl (i + 1) l) = _
        rw [ls_cons, ls_cons, ih]
    exact this _ _
  have e7 : binD .Mult (.list [.int 0]) (.int ((cs.length : Int) + 1)) = some (.list (rowS (cs.length + 1) (accS lo n []))) := by
    have e8 := rep_1 (.int 0) (cs.length + 1) (by omega)
    have e9 : List.replicate (cs.length + 1) (PyData.int 0) = rowS (cs.length + 1) (accS lo n []) := by
      unfold rowS
      have z : ∀ s, accS lo n [] s = 0 := fun s => rfl
      simp only [z]
      rw [List.map_const', List.length_range]
    rw [← e9, ← e8, Int.natCast_add]
    rfl
  rw [e6] at e
  have e2 : runS (fns T (k + 3)) l0_sums_in [some (Tu (cs.map cyD)), some (Z lo), some (Z (lo + n)), some (.m st.length), none, none] (st ++ [.lst false (rowS (cs.length + 1) (accS lo n []))]) = some (.nx, [some (Tu (cs.map cyD)), some (Z lo), some (Z (lo + n)), some (.m st.length), h'.1, h'.2], st ++ [.lst false (rowS (cs.length + 1) (sumS cs lo n))]) := run_for_of hi e
  clear e hi e6 em
  generalize rowS (cs.length + 1) (accS lo n []) = R0 at *
  generalize rowS (cs.length + 1) (sumS cs lo n) = R1 at *
  generalize lo + (n : Int) = hi' at *
  simp [runF, f_sums_in, slots, rdRaw, rdVar, fin, freeze, bltW, sizeLine, e7, e2]
end WM.K88
namespace WM.K88
open PySem PySem.Spec PyProof.Rows L2 RT
theorem sg_sub {s m : Nat} (h : m ≤ s) : (if ((s : Int) - (m : Int)) % 2 = 0 then (1 : Int) else -1) = sg s m := by
  unfold sg
  split <;> split <;> omega
theorem sm_from (f : Nat → Int) {m N : Nat} (h : m ≤ N) (hz : ∀ i, i < m → f i = 0) : sm f N = sm (fun i => f (m + i)) (N - m) := by
  have e : N = m + (N - m) := by omega
  rw [e, sm_split, sm_congr (g := fun _ => 0) hz, sm_zero, Int.zero_add]
  congr 1
  omega
theorem v_with_just (k : Nat) (cs : List Cyc) (m : Nat) (lo : Int) (n : Nat) (st : Store) (h : ∀ c ∈ cs, CyB c) (hl : cs.length ≤ 12) (hm : m ≤ 12) :
    fns T (k + 5) i_with_just [Tu (cs.map cyD), Z (m : Int), Z lo, Z (lo + n)] st = some (Z (cntW cs m lo n), st) := by
  rw [s_with_just]
  have es := v_sums_in k cs lo n st h hl
  let f : Nat → Int := fun s => sg s m * ch s m * sumS cs lo n s
  have hi : runI (fns T (k + 4)) (.rng2 (.var 1) (.bin .Add (.blt .len (.cons (.raw 0) .nil)) (.lit (.int 1)))) [some (Tu (cs.map cyD)), some (Z (m : Int)), some (Z lo), some (Z (lo + n)), none, some (Li (rowS (cs.length + 1) (sumS cs lo n))), some (Z 0)] st = some ((iv (m : Int) (((cs.length : Int) + 1) - (m : Int)).toNat).map PyData.int, st) :=
    runI_rng2 (st1 := st) (by simp [rdVar]) (by simp [rdRaw, bltW]) (by omega) (by omega) (by omega) (by omega)
  obtain ⟨h', e⟩ := for_done (g := fun d sl => stTg (.v 4) d sl) (b := fun sl st => runSs (fns T (k + 4)) b0_with_just sl st) PyData.int (fun done (w : Option W) => [some (Tu (cs.map cyD)), some (Z (m : Int)), some (Z lo), some (Z (lo + n)), w, some (Li (rowS (cs.length + 1) (sumS cs lo n))), some (Z (sm (fun i => f (m + i)) done.length))]) (fun _ => st) (l := iv (m : Int) (((cs.length : Int) + 1) - (m : Int)).toNat) (done := []) (h := none) fun d c r w hd => by
    obtain ⟨hc, hlt⟩ := iv_split (by simpa using hd)
    have hc : c = ((m + d.length : Nat) : Int) := by omega
    have hs : m + d.length < cs.length + 1 := by omega
    subst hc
    refine ⟨_, some (Z ((m + d.length : Nat) : Int)), rfl, ?_⟩
    have e1 := v_chosen (k + 3) (m + d.length) m st (by omega) (by omega)
    have e2 : ixD (.list (rowS (cs.length + 1) (sumS cs lo n))) (.int ((m + d.length : Nat) : Int)) = some (.int (sumS cs lo n (m + d.length))) := rowS_get hs
    have b := ch_bd (m + d.length) m
    have b2 : ((2 : Int)) ^ (m + d.length) ≤ 2 ^ 24 := by
      have : ((2 : Nat)) ^ (m + d.length) ≤ 2 ^ 24 := Nat.pow_le_pow_right (by omega) (by omega)
      exact_mod_cast this
    have e3 : binD .Mod (.int (((m + d.length : Nat) : Int) - (m : Int))) (.int 2) = some (.int ((((m + d.length : Nat) : Int) - (m : Int)) % 2)) := mod_i (by omega)
    have sgv := sg_sub (s := m + d.length) (m := m) (by omega)
    have sl : sm (fun i => f (m + i)) (d ++ [((m + d.length : Nat) : Int)]).length = sm (fun i => f (m + i)) d.length + f (m + d.length) := by
      rw [List.length_append, List.length_singleton]
      rfl
    rw [sl]
    show runSs (fns T (k + 4)) b0_with_just _ st = some (.nx, [_, _, _, _, _, _, some (Z (_ + sg (m + d.length) m * ch (m + d.length) m * sumS cs lo n (m + d.length)))], st)
    generalize sm (fun i => f (m + i)) d.length = acc
    generalize sumS cs lo n (m + d.length) = S at *
    generalize ch (m + d.length) m = C at *
    generalize sg (m + d.length) m = G at *
    generalize ((m + d.length : Nat) : Int) = X at *
    by_cases c0 : (X - (m : Int)) % 2 = 0
    · rw [if_pos c0] at sgv
      subst sgv
      have e4 : binD .Mult (.int 1) (.int C) = some (.int (1 * C)) := mul_i (mulOk_l (by decide))
      have e5 : binD .Mult (.int C) (.int S) = some (.int (C * S)) := mul_i (mulOk_l (by omega))
      simp [b0_with_just, rdRaw, rdVar, e1, e2, e3, c0, e4, e5]
    · rw [if_neg c0] at sgv
      subst sgv
      have e4 : binD .Mult (.int (-1)) (.int C) = some (.int (-1 * C)) := mul_i (mulOk_l (by decide))
      have e5 : binD .Mult (.int (-C)) (.int S) = some (.int (-C * S)) := mul_i (mulOk_l (by omega))
      simp [b0_with_just, rdRaw, rdVar, e1, e2, e3, c0, e4, e5]
  have z0 : sm (fun i => f (m + i)) ([] : List Int).length = 0 := rfl
  have z1 : sm (fun i => f (m + i)) ([] ++ iv (m : Int) (((cs.length : Int) + 1) - (m : Int)).toNat).length = cntW cs m lo n := by
    rw [List.nil_append, iv_len, ← just_eq (fun c hc => (h c hc).ok) lo n m]
    have e0 : (((cs.length : Int) + 1) - (m : Int)).toNat = cs.length + 1 - m := by omega
    rw [e0]
    by_cases c : m ≤ cs.length + 1
    · exact (sm_from f c fun i hi' => by show sg i m * ch i m * _ = 0; rw [ch_big hi', Int.mul_zero, Int.zero_mul]).symm
    · have e3 : cs.length + 1 - m = 0 := by omega
      rw [e3]
      show (0 : Int) = _
      rw [sm_congr (g := fun _ => 0) fun i hi' => by show sg i m * ch i m * _ = 0; rw [ch_big (by omega), Int.mul_zero, Int.zero_mul], sm_zero]
  simp only [z0, z1] at e
  have e2 : runS (fns T (k + 4)) l0_with_just [some (Tu (cs.map cyD)), some (Z (m : Int)), some (Z lo), some (Z (lo + n)), none, some (Li (rowS (cs.length + 1) (sumS cs lo n))), some (Z 0)] st = some (.nx, [some (Tu (cs.map cyD)), some (Z (m : Int)), some (Z lo), some (Z (lo + n)), h', some (Li (rowS (cs.length + 1) (sumS cs lo n))), some (Z (cntW cs m lo n))], st) := run_for_of hi e
  simp [runF, f_with_just, slots, rdRaw, rdVar, fin, es, e2]
theorem v_count_with (k : Nat) (cs : List Cyc) (m : Nat) (lo : Int) (n : Nat) (st : Store) (h : ∀ c ∈ cs, CyB c) (hl : cs.length ≤ 12) (hm : m ≤ 12) (h1 : -10 ^ 18 ≤ lo) (h2 : lo + n ≤ 10 ^ 18) :
    fns T (k + 6) i_count_with [Tu (cs.map cyD), Z (m : Int), Z lo, Z (lo + n)] st = some (Z (cntW cs m lo n), st) := by
  rw [s_count_with]
  have e1 := v_need_cycles (k + 1) cs st h hl
  have e2 := v_need_stretch (k + 1) lo (lo + n) st h1 (by omega) h2
  have e3 := v_with_just k cs m lo n st h hl hm
  have e4 := v_need_whole (k + 3) (m : Int) 0 12 st (by omega) (by omega)
  simp [runF, f_count_with, slots, rdRaw, rdVar, fin, e1, e2, e3, e4]
/-- struck days -/
def stk (cs : List Cyc) (lo : Int) (n : Nat) : Int := sm (fun i => if hits cs (lo + (i : Int)) = 0 then 0 else 1) n
theorem stk_eq (cs : List Cyc) (lo : Int) (n : Nat) : stk cs lo n = n - cntW cs 0 lo n := by
  have : stk cs lo n + cntW cs 0 lo n = n := by
    unfold stk cntW
    rw [← sm_add, sm_congr (g := fun _ => 1) fun i _ => by split <;> rfl, sm_const, Int.mul_one]
  omega
theorem v_count_struck (k : Nat) (cs : List Cyc) (lo : Int) (n : Nat) (st : Store) (h : ∀ c ∈ cs, CyB c) (hl : cs.length ≤ 12) (h1 : -10 ^ 18 ≤ lo) (h2 : lo + n ≤ 10 ^ 18) :
    fns T (k + 6) i_count_struck [Tu (cs.map cyD), Z lo, Z (lo + n)] st = some (Z (stk cs lo n), st) := by
  rw [s_count_struck]
  have e1 := v_need_cycles (k + 1) cs st h hl
  have e2 := v_need_stretch (k + 1) lo (lo + n) st h1 (by omega) h2
  have e3 := v_with_just k cs 0 lo n st h hl (by omega)
  have e4 : lo + (n : Int) - lo - cntW cs 0 lo n = stk cs lo n := by rw [stk_eq]; omega
  have e5 : (((0 : Nat) : Int)) = 0 := rfl
  rw [e5] at e3
  simp [runF, f_count_struck, slots, rdRaw, rdVar, fin, e1, e2, e3, e4]
theorem hit_iff {c : Cyc} (h : CyOk c) (x : Int) : ((x - c.2) % c.1 = 0) ↔ hit c x = true := by
  unfold hit
  rw [decide_eq_true_eq, emod_eq_iff h.e0 h.r0 h.r1]
  exact ⟨Int.dvd_of_emod_eq_zero, Int.emod_eq_zero_of_dvd⟩
theorem v_is_struck (k : Nat) (cs : List Cyc) (x : Int) (st : Store) (h : ∀ c ∈ cs, CyOk c) (hl : cs.length ≤ 1000) : fns T (k + 1) i_is_struck [Tu (cs.map cyD), Z x] st = some (Bl (cs.any fun c => hit c x), st) := by
  rw [s_is_struck]
  have hs : sizeLine = 16777216 := sizeLine_eq
  have e1 : runE (fns T k) c0_is_struck [some (Tu (cs.map cyD)), some (Z x), none, none] st = some (Li (cs.map fun c => .bool (hit c x)), st) := by
    unfold c0_is_struck
    refine run_comp_map cs cyD (fun c => .bool (hit c x)) (runI_val (x := .tuple (cs.map cyD)) (by simp [rdVar]) rfl) (by omega) fun c hc => ⟨_, rfl, ?_⟩
    have e2 : binD .Mod (.int (x - c.2)) (.int c.1) = _ := mod_i (h c hc).e0
    have e3 : decide ((x - c.2) % c.1 = 0) = hit c x := by
      rw [Bool.eq_iff_iff, decide_eq_true_eq]
      exact hit_iff (h c hc) x
    simp [rdVar, e2, e3]
  have e4 := any_b cs fun c => hit c x
  simp [runF, f_is_struck, slots, rdRaw, rdVar, fin, e1, bltW, e4]
/-- the first free day of 2 to the power of the number of cycles -/
def freeD (cs : List Cyc) (x : Int) : Option Int := ((iv 0 (2 ^ cs.length)).find? fun i => !(cs.any fun c => hit c (x + i))).map fun i => x + i
def opI : Option Int → D
  | none => .none
  | some i => .int i
theorem v_free_from (k : Nat) (cs : List Cyc) (x : Int) (st : Store) (h : ∀ c ∈ cs, CyOk c) (hl : cs.length ≤ 12) : fns T (k + 2) i_free_from [Tu (cs.map cyD), Z x] st = some (.d (opI (freeD cs x)), st) := by
  rw [s_free_from]
  have e0 : binD .LShift (.int 1) (.int (cs.length : Int)) = some (.int (1 * 2 ^ ((cs.length : Int)).toNat)) := if_pos ⟨by omega, by omega, by decide⟩
  have e1 : (1 : Int) * 2 ^ ((cs.length : Int)).toNat = ((2 ^ cs.length : Nat) : Int) := by
    rw [Int.one_mul]
    have : ((cs.length : Int)).toNat = cs.length := by omega
    rw [this]
    push_cast
    rfl
  rw [e1] at e0
  have hb : 2 ^ cs.length ≤ 4096 := Nat.le_trans (Nat.pow_le_pow_right (by omega) hl) (by decide)
  unfold freeD
  clear e1
  generalize 2 ^ cs.length = N at *
  have hi : runI (fns T (k + 1)) (.rng1 (.bin .LShift (.lit (.int 1)) (.blt .len (.cons (.raw 0) .nil)))) [some (Tu (cs.map cyD)), some (Z x), none] st = some ((iv 0 ((N : Int)).toNat).map PyData.int, st) := runI_rng1 (by simp [rdRaw, bltW, e0]) (by omega) (by omega)
  have e2 : ((N : Int)).toNat = N := by omega
  rw [e2] at hi
  obtain ⟨h', e⟩ := for_find (g := fun d sl => stTg (.v 2) d sl) (b := fun sl st => runSs (fns T (k + 1)) b0_free_from sl st) PyData.int (fun (w : Option W) => [some (Tu (cs.map cyD)), some (Z x), w]) st (fun i => !(cs.any fun c => hit c (x + i))) (fun i => Z (x + i)) (l := iv 0 (N)) (h := none) fun i hi' w => by
    refine ⟨_, some (Z i), rfl, ?_⟩
    have e3 := v_is_struck k cs (x + i) st h (by omega)
    cases hb : cs.any fun c => hit c (x + i) with
    | true =>
      rw [hb] at e3
      simp [b0_free_from, rdRaw, rdVar, e3]
    | false =>
      rw [hb] at e3
      simp [b0_free_from, rdRaw, rdVar, e3]
  cases ef : (iv 0 (N)).find? fun i => !(cs.any fun c => hit c (x + i)) with
  | none =>
    rw [ef] at e
    have e5 : runS (fns T (k + 1)) l0_free_from [some (Tu (cs.map cyD)), some (Z x), none] st = some (.nx, [some (Tu (cs.map cyD)), some (Z x), h'], st) := run_for_of hi e
    simp [runF, f_free_from, slots, rdRaw, rdVar, fin, e5, opI]
  | some i =>
    rw [ef] at e
    have e5 : runS (fns T (k + 1)) l0_free_from [some (Tu (cs.map cyD)), some (Z x), none] st = some (.ret (Z (x + i)), [some (Tu (cs.map cyD)), some (Z x), h'], st) := run_for_of hi e
    simp [runF, f_free_from, slots, rdRaw, rdVar, fin, e5, opI]
theorem v_next_free (k : Nat) (cs : List Cyc) (x : Int) (st : Store) (h : ∀ c ∈ cs, CyB c) (hl : cs.length ≤ 12) (h1 : -10 ^ 18 ≤ x) (h2 : x ≤ 10 ^ 18) : fns T (k + 5) i_next_free [Tu (cs.map cyD), Z x] st = some (.d (opI (freeD cs x)), st) := by
  rw [s_next_free]
  have e1 := v_need_cycles k cs st h hl
  have e2 := v_need_day (k + 1) x st h1 h2
  have e3 := v_free_from (k + 2) cs x st (fun c hc => (h c hc).ok) hl
  simp [runF, f_next_free, slots, rdRaw, rdVar, fin, e1, e2, e3]
theorem isn_opI (o : Option Int) : cmpD .Is (opI o) .none = some o.isNone := by
  cases o <;> rfl
theorem v_covers (k : Nat) (cs : List Cyc) (st : Store) (h : ∀ c ∈ cs, CyOk c) (hl : cs.length ≤ 12) : fns T (k + 3) i_covers [Tu (cs.map cyD)] st = some (Bl (freeD cs 0).isNone, st) := by
  rw [s_covers]
  have e3 := v_free_from k cs 0 st h hl
  simp [runF, f_covers, slots, rdRaw, rdVar, fin, e3, isn_opI]
theorem v_do_cover (k : Nat) (cs : List Cyc) (st : Store) (h : ∀ c ∈ cs, CyB c) (hl : cs.length ≤ 12) : fns T (k + 5) i_do_cover [Tu (cs.map cyD)] st = some (Bl (freeD cs 0).isNone, st) := by
  rw [s_do_cover]
  have e1 := v_need_cycles k cs st h hl
  have e3 := v_covers (k + 1) cs st (fun c hc => (h c hc).ok) hl
  simp [runF, f_do_cover, slots, rdRaw, rdVar, fin, e1, e3]
theorem v_next_struck (k : Nat) (cs : List Cyc) (x : Int) (st : Store) (h : ∀ c ∈ cs, CyB c) (hl : cs.length ≤ 12) (h0 : cs ≠ []) (h1 : -10 ^ 18 ≤ x) (h2 : x ≤ 10 ^ 18) : fns T (k + 5) i_next_struck [Tu (cs.map cyD), Z x] st = some (Z (minI (cs.map fun c => x + (c.2 - x) % c.1)), st) := by
  rw [s_next_struck]
  have e1 := v_need_cycles k cs st h hl
  have e2 := v_need_day (k + 1) x st h1 h2
  have hs : sizeLine = 16777216 := sizeLine_eq
  have e3 : runE (fns T (k + 4)) c0_next_struck [some (Tu (cs.map cyD)), some (Z x), none] st = some (Li (cs.map fun c => .int (x + (c.2 - x) % c.1)), st) := by
    unfold c0_next_struck
    refine run_comp_map cs cyD (fun c => .int (x + (c.2 - x) % c.1)) (runI_val (x := .tuple (cs.map cyD)) (by simp [rdVar]) rfl) (by omega) fun c hc => ⟨_, rfl, ?_⟩
    have e4 := v_next_on (k + 3) c x st (h c hc).ok.e0
    simp [rdRaw, rdVar, e4]
  have e5 : bltD .mn [.list (cs.map fun c => .int (x + (c.2 - x) % c.1))] = some (.int (minI (cs.map fun c => x + (c.2 - x) % c.1))) := by
    have : (cs.map fun c => PyData.int (x + (c.2 - x) % c.1)) = (cs.map fun c => x + (c.2 - x) % c.1).map PyData.int := by simp
    rw [this]
    exact mn_ints (by simpa using h0)
  have e6 : cmpD .NotEq (.tuple (cs.map cyD)) (.tuple []) = some true := by
    rw [ne_nilT (n := 1) fun d hd => by
      obtain ⟨c, _, rfl⟩ := List.mem_map.mp hd
      exact Shp.cy _ _]
    cases cs with
    | nil => exact absurd rfl h0
    | cons a l => rfl
  simp [runF, f_next_struck, slots, rdRaw, rdVar, fin, sizeLine, e1, e2, e3, bltW, e5, e6]
theorem v_struck_by (k : Nat) (cs : List Cyc) (x : Int) (st : Store) (h : ∀ c ∈ cs, CyB c) (hl : cs.length ≤ 12) (h1 : -10 ^ 18 ≤ x) (h2 : x ≤ 10 ^ 18) : fns T (k + 5) i_struck_by [Tu (cs.map cyD), Z x] st = some (Tu (((enl 0 cs).filter fun p => hit p.2 x).map fun p => .int (p.1 : Int)), st) := by
  rw [s_struck_by]
  have e1 := v_need_cycles k cs st h hl
  have e2 := v_need_day (k + 1) x st h1 h2
  have hs : sizeLine = 16777216 := sizeLine_eq
  have e3 : runE (fns T (k + 4)) c0_struck_by [some (Tu (cs.map cyD)), some (Z x), none, none, none] st = some (Li (((enl 0 cs).filter fun p => hit p.2 x).map fun p => .int (p.1 : Int)), st) := by
    unfold c0_struck_by
    refine run_comp_fm (enl 0 cs) (enx cyD) (fun p => hit p.2 x) (fun p => .int (p.1 : Int)) (by rw [runI_enum (st1 := st) (x := .tuple (cs.map cyD)) (xs := cs.map cyD) (by simp [rdVar]) (.inr rfl), enumD_map]) (by rw [enl_len]; omega) fun p hp => ⟨_, rfl, ?_, fun _ => by simp [rdVar]⟩
    have hm : p.2 ∈ cs := List.mem_of_getElem? (enl_mem hp).2.2
    have e2 : binD .Mod (.int (x - p.2.2)) (.int p.2.1) = _ := mod_i (h p.2 hm).ok.e0
    have e3 : decide ((x - p.2.2) % p.2.1 = 0) = hit p.2 x := by
      rw [Bool.eq_iff_iff, decide_eq_true_eq]
      exact hit_iff (h p.2 hm).ok x
    simp [rdVar, e2, e3]
  simp [runF, f_struck_by, slots, rdRaw, rdVar, fin, e1, e2, e3, bltW]
end WM.K88
namespace WM.K88
open PySem PySem.Spec PyProof.Rows L2 RT
theorem v_cut (k : Nat) (t b : Int) (st : Store) (hb : 0 < b) (hB : b.natAbs < BIG) : fns T (k + 1) i_cut [Z t, Z b] st = some (P (Rat.divInt t b), st) := by
  rw [s_cut]
  have g1 := gcd_le (t := t) (b := b) (by omega)
  have e1 : binD .FloorDiv (.int t) (.int (Int.gcd t b)) = some (.int (t / (Int.gcd t b : Int))) := div_i (gcd_pos (by omega)) (by omega)
  have e2 : binD .FloorDiv (.int b) (.int (Int.gcd t b)) = some (.int (b / (Int.gcd t b : Int))) := div_i (gcd_pos (by omega)) (by omega)
  have h0 : ¬ b < 0 := by omega
  simp [runF, f_cut, slots, rdRaw, rdVar, truW, truD, fin, bltW, e1, e2, h0, pr, RT.cut_num t b hb, RT.cut_den t b hb, sizeLine]
theorem v_sum_two (k : Nat) (p q : Rat) (st : Store) (hp : Sm p) (hq : Sm q) : fns T (k + 2) i_sum_two [P p, P q] st = some (P (p + q), st) := by
  rw [s_sum_two]
  have e1 := Sm.mul_ok hp.n hq.d'
  have e2 := Sm.mul_ok hq.n hp.d'
  have e3 := Sm.mul_ok hp.d' hq.d'
  have e4 := v_cut k (p.num * q.den + q.num * p.den) (p.den * q.den) st (Int.mul_pos (den_pos' p) (den_pos' q)) (Sm.dd hp hq)
  rw [RT.add_div] at e4
  simp [runF, f_sum_two, slots, rdRaw, rdVar, fin, e1, e2, e3, e4]
end WM.K88
namespace WM.K88
open PySem PySem.Spec PyProof.Rows L2 RT
theorem take_T (xs : List D) (i : Nat) (h : i ≤ xs.length) : slD (.tuple xs) none (some (i : Int)) = some (.tuple (xs.take i)) := by
  show some (PyData.tuple (cutD xs none (some (i : Int)))) = _
  congr 2
  unfold cutD
  rw [HT.sIx_none, HT.sIx_nat, List.drop_zero, Nat.min_eq_left h, Nat.sub_zero]
theorem v_are_apart (k : Nat) (cs : List Cyc) (st : Store) (h : ∀ c ∈ cs, CyB c) (hl : cs.length ≤ 12) (ha : ∀ (i : Nat) (c : Cyc), cs[i]? = some c → ∀ o ∈ cs.take i, metO (some c) o = none) : fns T (k + 5) i_are_apart [Tu (cs.map cyD)] st = some (Bl true, st) := by
  rw [s_are_apart]
  have e1 := v_need_cycles k cs st h hl
  have hs : sizeLine = 16777216 := sizeLine_eq
  have hi : runI (fns T (k + 4)) (.enum (.var 0)) [some (Tu (cs.map cyD)), none, none, none] st = some ((enl 0 cs).map (enx cyD), st) := by
    rw [runI_enum (st1 := st) (x := .tuple (cs.map cyD)) (xs := cs.map cyD) (by simp [rdVar]) (.inr rfl), enumD_map]
  obtain ⟨h', e⟩ := for_holes (g := fun d sl => stTg (.t (.cons (.v 1) (.cons (.v 2) .nil))) d sl) (b := fun sl st => runSs (fns T (k + 4)) b0_are_apart sl st) (enx cyD) (fun (w : Option W × Option W) => [some (Tu (cs.map cyD)), w.1, w.2, none]) st (l := enl 0 cs) (h := (none, none)) fun p hp w => by
    obtain ⟨_, hlt, hg⟩ := enl_mem hp
    rw [Nat.sub_zero] at hg
    rw [Nat.zero_add] at hlt
    have hm := List.mem_of_getElem? hg
    refine ⟨_, (some (Z (p.1 : Int)), some (.d (cyD p.2))), rfl, ?_⟩
    have et := take_T (cs.map cyD) p.1 (by simp; omega)
    rw [← List.map_take] at et
    have ec : runE (fns T (k + 4)) c0_are_apart [some (Tu (cs.map cyD)), some (Z (p.1 : Int)), some (.d (cyD p.2)), none] st = some (Li ((cs.take p.1).map fun _ => .bool false), st) := by
      unfold c0_are_apart
      refine run_comp_map (cs.take p.1) cyD (fun _ => .bool false) (runI_val (x := .tuple ((cs.take p.1).map cyD)) (by simp [rdVar, et]) rfl) (by rw [List.length_take]; omega) fun o ho => ⟨_, rfl, ?_⟩
      have ho' := List.mem_of_mem_take ho
      have h8 : (10 : Nat) ^ 9 ≤ H1 := by decide +kernel
      have hb := (h p.2 hm).b
      have hb0 := (h p.2 hm).ok.e0
      have em := v_metO (k + 2) p.2 o st (h p.2 hm).ok (h o ho') (by omega)
      rw [ha p.1 p.2 hg o ho] at em
      have e2 : opD (some p.2) = cyD p.2 := rfl
      rw [e2] at em
      simp [rdRaw, rdVar, em, isnn_opD]
    have ea := any_b (cs.take p.1) fun _ => false
    have ea2 : ((cs.take p.1).any fun _ => false) = false := by simp
    rw [ea2] at ea
    generalize (p.1 : Int) = X at *
    generalize cs.take p.1 = tk at *
    simp only [enx]
    simp [b0_are_apart, ec, bltW, ea]
  have e2 : runS (fns T (k + 4)) l0_are_apart [some (Tu (cs.map cyD)), none, none, none] st = some (.nx, [some (Tu (cs.map cyD)), h'.1, h'.2, none], st) := run_for_of hi e
  simp [runF, f_are_apart, slots, rdRaw, rdVar, fin, e1, e2]
/-- all shares together -/
def shr (cs : List Cyc) : Rat := cs.foldl (fun a c => a + Rat.divInt 1 c.1) 0
theorem shr_bd {cs : List Cyc} (h : ∀ c ∈ cs, CyB c) : Bd (shr cs) (cs.length * 10 ^ (9 * cs.length)) (10 ^ (9 * cs.length)) := by
  refine snoc_ind (P := fun cs => (∀ c ∈ cs, CyB c) → Bd (shr cs) (cs.length * 10 ^ (9 * cs.length)) (10 ^ (9 * cs.length))) (fun _ => ⟨by simp [shr], by simp [shr]⟩) (fun cs c ih hc => ?_) cs h
  have h1 : ∀ c ∈ cs, CyB c := fun c hc' => hc c (by simp [hc'])
  have h2 := hc c (by simp)
  have e : shr (cs ++ [c]) = shr cs + Rat.divInt 1 c.1 := by
    unfold shr
    rw [List.foldl_append]
    rfl
  have hb := h2.b
  have hp := h2.ok.e0
  rw [e, List.length_append, List.length_singleton]
  have b1 : Bd (Rat.divInt 1 c.1) 1 (10 ^ 9) := Bd.of_divInt hp (by decide) (by omega)
  refine (Bd.add (ih h1) b1).mono ?_ ?_
  · have : 9 * (cs.length + 1) = 9 * cs.length + 9 := by omega
    rw [this, Nat.pow_add, Nat.add_mul, Nat.mul_assoc, Nat.one_mul]
    refine Nat.add_le_add (Nat.le_refl _) ?_
    rw [Nat.one_mul]
    exact Nat.le_mul_of_pos_right _ (by decide)
  · have : 9 * (cs.length + 1) = 9 * cs.length + 9 := by omega
    rw [this, Nat.pow_add]
    exact Nat.le_refl _
theorem pow9 {n : Nat} (h : n ≤ 12) : n * 10 ^ (9 * n) < 2 ^ 1000 ∧ 10 ^ (9 * n) < 2 ^ 1000 := by
  have h1 : 10 ^ (9 * n) ≤ 10 ^ 108 := Nat.pow_le_pow_right (by decide) (by omega)
  have h2 : n * 10 ^ (9 * n) ≤ 12 * 10 ^ 108 := Nat.mul_le_mul h h1
  exact ⟨Nat.lt_of_le_of_lt h2 (by decide +kernel), Nat.lt_of_le_of_lt h1 (by decide +kernel)⟩
theorem v_sum_of_shares (k : Nat) (cs : List Cyc) (st : Store) (h : ∀ c ∈ cs, CyB c) (hl : cs.length ≤ 12) : fns T (k + 5) i_sum_of_shares [Tu (cs.map cyD)] st = some (P (shr cs), st) := by
  rw [s_sum_of_shares]
  have e1 := v_need_cycles k cs st h hl
  have e0 : (.tuple [.int 0, .int 1] : D) = pr (shr []) := rfl
  have hi : runI (fns T (k + 4)) (.val (.var 0)) [some (Tu (cs.map cyD)), some (P (shr [])), none, none] st = some (cs.map cyD, st) := runI_val (x := .tuple (cs.map cyD)) (by simp [rdVar]) rfl
  obtain ⟨h', e⟩ := for_done (g := fun d sl => stTg (.t (.cons (.v 2) (.cons (.v 3) .nil))) d sl) (b := fun sl st => runSs (fns T (k + 4)) b0_sum_of_shares sl st) cyD (fun done (w : Option W × Option W) => [some (Tu (cs.map cyD)), some (P (shr done)), w.1, w.2]) (fun _ => st) (l := cs) (done := []) (h := (none, none)) fun d c r w hd => by
    have hd : cs = d ++ c :: r := hd
    have hd1 : ∀ x ∈ d, CyB x := fun x hx => h x (by rw [hd]; simp [hx])
    have hd2 : d.length ≤ 12 := by rw [hd] at hl; simp at hl; omega
    have hc := h c (by rw [hd]; simp)
    have hp := hc.ok.e0
    have hb := hc.b
    refine ⟨_, (some (Z c.1), some (Z c.2)), rfl, ?_⟩
    have q := pow9 hd2
    have sc : Sm (Rat.divInt 1 c.1) := (Bd.of_divInt (N := 1) (D := 10 ^ 9) hp (by decide) (by omega)).sm (by decide +kernel) (by decide +kernel)
    have ed : (.tuple [.int 1, .int c.1] : D) = pr (Rat.divInt 1 c.1) := by
      unfold pr
      rw [RT.cut_num 1 c.1 hp, RT.cut_den 1 c.1 hp, Int.gcd_one_left]
      simp
    have e2 := v_sum_two (k + 2) (shr d) (Rat.divInt 1 c.1) st ((shr_bd hd1).sm q.1 q.2) sc
    have e3 : shr (d ++ [c]) = shr d + Rat.divInt 1 c.1 := by
      unfold shr
      rw [List.foldl_append]
      rfl
    rw [e3]
    simp [b0_sum_of_shares, rdRaw, rdVar, sizeLine, ed, e2]
  have e2 : runS (fns T (k + 4)) l0_sum_of_shares [some (Tu (cs.map cyD)), some (P (shr [])), none, none] st = some (.nx, [some (Tu (cs.map cyD)), some (P (shr cs)), h'.1, h'.2], st) := run_for_of hi e
  simp [runF, f_sum_of_shares, slots, rdRaw, rdVar, fin, sizeLine, e1, e0, e2]
/-- a sum by sizes -/
theorem ls_by (f : Nat → Int) (c : QE → Int) (L : Nat) : ∀ {q : List QE}, (∀ e ∈ q, e.1 ≤ L) → ls (fun e => f e.1 * c e) q = sm (fun s => f s * ls (fun e : QE => if e.1 = s then c e else 0) q) (L + 1)
  | [], _ => by
    show (0 : Int) = _
    rw [sm_congr (g := fun _ => 0) fun s _ => by show f s * 0 = 0; rw [Int.mul_zero], sm_zero]
  | e :: q, h => by
    have ih := ls_by f c L (q := q) fun x hx => h x (List.mem_cons_of_mem _ hx)
    rw [ls_cons, ih, sm_congr (f := fun s => f s * ls (fun e : QE => if e.1 = s then c e else 0) (e :: q)) (g := fun s => f s * (if e.1 = s then c e else 0) + f s * ls (fun e : QE => if e.1 = s then c e else 0) q) fun s _ => by rw [ls_cons, Int.mul_add], sm_add]
    congr 1
    have he := h e (List.mem_cons_self ..)
    have : ∀ n, sm (fun s => f s * (if e.1 = s then c e else 0)) n = if e.1 < n then f e.1 * c e else 0 := by
      intro n
      induction n with
      | zero => rfl
      | succ n ihn =>
        show _ + f n * _ = _
        rw [ihn]
        by_cases q : e.1 = n
        · rw [if_neg (by omega), if_pos q, if_pos (by omega), q]
          omega
        · rw [if_neg q]
          by_cases w : e.1 < n
          · rw [if_pos w, if_pos (by omega)]; omega
          · rw [if_neg w, if_neg (by omega)]; omega
    rw [this, if_pos (by omega)]
def sgn1 (s : Nat) : Int := if s = 0 then 0 else if s % 2 = 1 then 1 else -1
/-- the struck days by sizes -/
theorem stk_by {cs : List Cyc} (h : ∀ c ∈ cs, CyOk c) (lo : Int) (n : Nat) : ls (fun e : QE => sgn1 e.1 * cntO e.2 lo n) (Qs cs) = stk cs lo n := by
  rw [ls_by sgn1 (fun e => cntO e.2 lo n) cs.length fun e he => Qs_fst e he]
  have key : ∀ s, sgn1 s = (if s = 0 then 1 else 0) - sg s 0 * ch s 0 := fun s => by
    rw [ch_zero]
    unfold sgn1 sg
    split <;> split <;> (try split) <;> omega
  have e1 : sm (fun s => sgn1 s * ls (fun e : QE => if e.1 = s then cntO e.2 lo n else 0) (Qs cs)) (cs.length + 1) = sm (fun s => (if s = 0 then 1 else 0) * ls (fun e : QE => if e.1 = s then cntO e.2 lo n else 0) (Qs cs)) (cs.length + 1) + (-1) * sm (fun s => sg s 0 * ch s 0 * ls (fun e : QE => if e.1 = s then cntO e.2 lo n else 0) (Qs cs)) (cs.length + 1) := by
    rw [← sm_mul, ← sm_add]
    apply sm_congr
    intro s _
    rw [key]
    grind
  rw [e1, just_eq h, stk_eq, sm_shift]
  have e2 : sm (fun i => (if i + 1 = 0 then (1 : Int) else 0) * ls (fun e : QE => if e.1 = i + 1 then cntO e.2 lo n else 0) (Qs cs)) cs.length = 0 := by
    rw [sm_congr (g := fun _ => 0) fun i _ => by rw [if_neg (by omega), Int.zero_mul], sm_zero]
  rw [e2, if_pos rfl, sums_eq h, sm_congr (g := fun _ => 1) fun i _ => ch_zero _, sm_const]
  omega
theorem cnt_whole {c : Cyc} (h : CyOk c) {q : Int} (hq : 0 ≤ q) : cntO (some c) 0 (c.1 * q).toNat = q := by
  have hp := h.e0
  have h1 := h.r0
  have h2 := h.r1
  have hn : 0 ≤ c.1 * q := Int.mul_nonneg (by omega) hq
  have := cnt_div h.e0 h.r0 h.r1 0 (c.1 * q).toNat
  rw [show (some (c.1, c.2) : Option Cyc) = some c from rfl] at this
  rw [← this]
  have e : (((c.1 * q).toNat : Nat) : Int) = c.1 * q := by omega
  rw [e, ediv_of (q := q - 1) (s := c.1 - 1 - c.2) hp (by rw [Int.mul_sub]; omega) (by omega) (by omega), ediv_of (q := -1) (s := c.1 - 1 - c.2) hp (by omega) (by omega) (by omega)]
  omega
end WM.K88
namespace WM.K88
open PySem PySem.Spec PyProof.Rows L2 RT
theorem pc_pos {i : Nat} (h : i < 4096) : pc i = 0 ↔ i = 0 := by
  constructor
  · intro h0
    unfold pc at h0
    have h1 := List.length_eq_zero_iff.mp h0
    apply Nat.eq_of_testBit_eq
    intro j
    rw [Nat.zero_testBit]
    by_cases hj : j < 12
    · have := List.filter_eq_nil_iff.mp h1 j (List.mem_range.mpr hj)
      simpa using this
    · exact Nat.testBit_lt_two_pow (Nat.lt_of_lt_of_le h (Nat.le_trans (show 4096 ≤ 2 ^ 12 by decide) (Nat.pow_le_pow_right (by omega) (by omega))))
  · intro h0
    subst h0
    exact pc_zero
def accT (N : Nat) (d : List (Nat × QE)) : Int := ls (fun p : Nat × QE => sgn1 p.2.1 * cntO p.2.2 0 N) d
theorem accT_snoc (N : Nat) (d : List (Nat × QE)) (p : Nat × QE) : accT N (d ++ [p]) = accT N d + sgn1 p.2.1 * cntO p.2.2 0 N := by
  unfold accT
  rw [ls_append, ls_cons, ls_nil, Int.add_zero]
theorem v_struck_share (k : Nat) (cs : List Cyc) (st : Store) (h : ∀ c ∈ cs, CyB c) (hl : cs.length ≤ 12) : fns T (k + 5) i_struck_share [Tu (cs.map cyD)] st = some (P (Rat.divInt (stk cs 0 (prodE cs).toNat) (prodE cs)), st) := by
  rw [s_struck_share]
  have hok := fun c hc => (h c hc).ok
  have wp := prodE_pos hok
  have wH := prodE_H1 h hl
  have e1 := v_need_cycles k cs st h hl
  have em := v_meets_in (k + 1) cs st h hl
  let M : D := .list ((Qs cs).map fun e => opD e.2)
  have hi : runI (fns T (k + 4)) (.val (.var 0)) [some (Tu (cs.map cyD)), none, some (.d M), some (Z 1), some (Z 0), none] st = some (cs.map cyD, st) := runI_val (x := .tuple (cs.map cyD)) (by simp [rdVar]) rfl
  obtain ⟨h', e⟩ := for_done (g := fun d sl => stTg (.v 1) d sl) (b := fun sl st => runSs (fns T (k + 4)) b0_struck_share sl st) cyD (fun done (w : Option W) => [some (Tu (cs.map cyD)), w, some (.d M), some (Z (prodE done)), some (Z 0), none]) (fun _ => st) (l := cs) (done := []) (h := none) fun d c r w hd => by
    have hd : cs = d ++ c :: r := hd
    have hd1 : ∀ x ∈ d, CyB x := fun x hx => h x (by rw [hd]; simp [hx])
    have hd2 : d.length ≤ 12 := by rw [hd] at hl; simp at hl; omega
    have hc := h c (by rw [hd]; simp)
    have hb := hc.b
    have hp := hc.ok.e0
    refine ⟨_, some (.d (cyD c)), rfl, ?_⟩
    have e2 : binD .Mult (.int (prodE d)) (.int c.1) = some (.int (prodE d * c.1)) := mul_i (mulOk_r (by omega))
    rw [prodE_snoc]
    have e3 : ixD (cyD c) (.int 0) = some (.int c.1) := rfl
    simp [b0_struck_share, rdRaw, rdVar, e3, e2]
  have e2 : runS (fns T (k + 4)) l0_struck_share [some (Tu (cs.map cyD)), none, some (.d M), some (Z 1), some (Z 0), none] st = some (.nx, [some (Tu (cs.map cyD)), h', some (.d M), some (Z (prodE cs)), some (Z 0), none], st) := run_for_of hi e
  have hi2 : runI (fns T (k + 4)) (.enum (.var 2)) [some (Tu (cs.map cyD)), h', some (.d M), some (Z (prodE cs)), some (Z 0), none] st = some ((enl 0 (Qs cs)).map (enx fun e => opD e.2), st) := by
    rw [runI_enum (st1 := st) (x := M) (xs := (Qs cs).map fun e => opD e.2) (by simp [rdVar]) (.inl rfl), enumD_map]
  obtain ⟨h2, e3⟩ := for_done (g := fun d sl => stTg (.t (.cons (.v 5) (.cons (.v 1) .nil))) d sl) (b := fun sl st => runSs (fns T (k + 4)) b1_struck_share sl st) (enx fun e : QE => opD e.2) (fun done (w : Option W × Option W) => [some (Tu (cs.map cyD)), w.1, some (.d M), some (Z (prodE cs)), some (Z (accT (prodE cs).toNat done)), w.2]) (fun _ => st) (l := enl 0 (Qs cs)) (done := []) (h := (h', none)) fun d p r w hd => by
    have hd : enl 0 (Qs cs) = d ++ p :: r := hd
    have hp : p ∈ enl 0 (Qs cs) := by rw [hd]; simp
    obtain ⟨_, hlt, hg⟩ := enl_mem hp
    rw [Nat.sub_zero] at hg
    have hpc := Qs_pc hl _ _ hg
    have hmem := List.mem_of_getElem? hg
    have hsmall : p.1 < 4096 := by
      rw [Nat.zero_add, Qs_len] at hlt
      exact Nat.lt_of_lt_of_le hlt (Nat.le_trans (Nat.pow_le_pow_right (by omega) hl) (by decide))
    refine ⟨_, (some (.d (opD p.2.2)), some (Z (p.1 : Int))), rfl, ?_⟩
    rw [accT_snoc]
    cases eo : p.2.2 with
    | none =>
      rw [cntO_none, Int.mul_zero, Int.add_zero]
      simp only [enx, eo]
      simp [b1_struck_share, rdRaw, rdVar, isnn_opD]
    | some c =>
      have eo2 : opD (some c) = cyD c := rfl
      have i1 : cmpD .IsNot (cyD c) .none = some true := rfl
      have cok := Qs_ok hok _ hmem c eo
      have cH := Qs_H1 h hl _ hmem c eo
      have ce := cok.e0
      obtain ⟨q, hq⟩ := Qs_dvd hok _ hmem c eo
      have hq0 : 0 ≤ q := by
        refine Int.not_lt.mp fun z => ?_
        have := Int.mul_neg_of_pos_of_neg ce z
        omega
      have ecnt : cntO (some c) 0 (prodE cs).toNat = q := by
        rw [hq]
        exact cnt_whole cok hq0
      have e4 : binD .FloorDiv (.int (prodE cs)) (.int c.1) = some (.int q) := by
        rw [div_h ce cH, hq, Int.mul_ediv_cancel_left _ (by omega)]
      rw [ecnt]
      have s1 := v_size_of (k + 3) p.1 st
      rw [← hpc] at s1
      have e5 : ixD (cyD c) (.int 0) = some (.int c.1) := rfl
      have e6 : binD .Mod (.int (p.2.1 : Int)) (.int 2) = some (.int ((p.2.1 : Int) % 2)) := mod_i (by omega)
      by_cases z : p.1 = 0
      · have z2 : p.2.1 = 0 := by rw [hpc, z]; exact pc_zero
        have z3 : sgn1 p.2.1 = 0 := by rw [z2]; rfl
        rw [z3, Int.zero_mul, Int.add_zero]
        simp only [enx, eo, eo2, z]
        simp [b1_struck_share, rdRaw, rdVar, i1]
      · have z2 : p.2.1 ≠ 0 := fun w => z ((pc_pos hsmall).mp (by rw [← hpc]; exact w))
        have z4 : decide ((0 : Int) < (p.1 : Int)) = true := decide_eq_true (by omega)
        by_cases c0 : (p.2.1 : Int) % 2 = 1
        · have z3 : sgn1 p.2.1 = 1 := by
            unfold sgn1
            rw [if_neg z2, if_pos (by omega)]
          have e7 : binD .Mult (.int 1) (.int q) = some (.int (1 * q)) := mul_i (mulOk_l (by decide))
          rw [z3]
          simp only [enx, eo, eo2]
          generalize (p.2.1 : Int) = Y at *
          generalize hX : (p.1 : Int) = X at *
          simp [b1_struck_share, rdRaw, rdVar, i1, z4, s1, e6, c0, e5, e4, e7]
        · have z3 : sgn1 p.2.1 = -1 := by
            unfold sgn1
            rw [if_neg z2, if_neg (by omega)]
          have e7 : binD .Mult (.int (-1)) (.int q) = some (.int (-1 * q)) := mul_i (mulOk_l (by decide))
          rw [z3]
          simp only [enx, eo, eo2]
          generalize (p.2.1 : Int) = Y at *
          generalize hX : (p.1 : Int) = X at *
          simp [b1_struck_share, rdRaw, rdVar, i1, z4, s1, e6, c0, e5, e4, e7]
  have e6 : accT (prodE cs).toNat ([] ++ enl 0 (Qs cs)) = stk cs 0 (prodE cs).toNat := by
    rw [← stk_by hok]
    unfold accT
    rw [List.nil_append]
    have : ∀ (l : List QE) (i : Nat), ls (fun p : Nat × QE => sgn1 p.2.1 * cntO p.2.2 0 (prodE cs).toNat) (enl i l) = ls (fun e : QE => sgn1 e.1 * cntO e.2 0 (prodE cs).toNat) l := by
      intro l
      induction l with
      | nil => intro i; rfl
      | cons a l ih =>
        intro i
        show ls _ ((i, a) :: enl (i + 1) l) = _
        rw [ls_cons, ls_cons, ih]
    exact this _ _
  have e8 : accT (prodE cs).toNat [] = 0 := rfl
  rw [e6] at e3
  simp only [e8] at e3
  have e4 : runS (fns T (k + 4)) l1_struck_share [some (Tu (cs.map cyD)), h', some (.d M), some (Z (prodE cs)), some (Z 0), none] st = some (.nx, [some (Tu (cs.map cyD)), h2.1, some (.d M), some (Z (prodE cs)), some (Z (stk cs 0 (prodE cs).toNat)), h2.2], st) := run_for_of hi2 e3
  have e5 := v_cut (k + 3) (stk cs 0 (prodE cs).toNat) (prodE cs) st wp (lt_big (Nat.lt_of_le_of_lt wH (by decide +kernel)))
  have em2 : fns T (k + 4) i_meets_in [Tu (cs.map cyD)] st = some (.d M, st) := em
  generalize M = M' at *
  simp [runF, f_struck_share, slots, rdRaw, rdVar, fin, e1, em2, e2, e4, e5]
end WM.K88
namespace WM.K88
open PySem PySem.Spec PyProof.Rows L2 RT
def rwD (a n b : Int) : D := .tuple [.int a, .int n, .int b]
theorem v_is_row_in (k : Nat) (a n b : Int) (st : Store) (h : RowOk a n b) : fns T (k + 2) i_is_row_in [.d (rwD a n b)] st = some (Bl true, st) := by
  rw [s_is_row_in]
  obtain ⟨h1, h2, h3, h4, h5, h6⟩ := h
  have e1 := w_is_tuple3 k (.int a) (.int n) (.int b) st
  have e2 := w_is_whole k n 1 1000 st h1 h2
  have e3 := w_is_whole k a 0 n st h3 h4
  have e4 := w_is_whole k b 0 (n - 1) st h5 (by omega)
  unfold rwD
  simp [runF, f_is_row_in, slots, rdRaw, rdVar, fin, e1, e2, e3, e4]
theorem v_need_row (k : Nat) (a n b : Int) (st : Store) (h : RowOk a n b) : fns T (k + 3) i_need_row [.d (rwD a n b)] st = some (No, st) := by
  rw [s_need_row]
  simp [runF, f_need_row, slots, rdRaw, rdVar, fin, v_is_row_in k a n b st h]
theorem v_count_by (k : Nat) (a n b y : Int) (st : Store) (h : RowOk a n b) : fns T (k + 1) i_count_by [.d (rwD a n b), Z y] st = some (Z (cb a n b y), st) := by
  rw [s_count_by]
  obtain ⟨h1, h2, h3, h4, h5, h6⟩ := h
  have e1 : binD .Mult (.int a) (.int y) = some (.int (a * y)) := mul_i (mulOk_l (by omega))
  have e2 : binD .FloorDiv (.int (a * y + b)) (.int n) = some (.int ((a * y + b) / n)) := div_i (by omega) (small_big (by omega))
  unfold rwD cb
  simp [runF, f_count_by, slots, rdRaw, rdVar, fin, okN, e1, e2]
theorem v_letter_at (k : Nat) (a n b y : Int) (st : Store) (h : RowOk a n b) : fns T (k + 2) i_letter_at [.d (rwD a n b), Z y] st = some (Z (b1 (lt1 a n b y)), st) := by
  rw [s_letter_at]
  have e1 := v_count_by k a n b (y + 1) st h
  have e2 := v_count_by k a n b y st h
  rw [← cb_next h]
  simp [runF, f_letter_at, slots, rdRaw, rdVar, fin, e1, e2]
theorem b1_is (p : Bool) : decide (b1 p = 1) = p := by cases p <;> rfl
theorem v_is_leap (k : Nat) (a n b y : Int) (st : Store) (h : RowOk a n b) (h1 : -10 ^ 9 ≤ y) (h2 : y ≤ 10 ^ 9) : fns T (k + 4) i_is_leap [.d (rwD a n b), Z y] st = some (Bl (lt1 a n b y), st) := by
  rw [s_is_leap]
  have e1 := v_need_row k a n b st h
  have e2 := v_need_whole (k + 1) y (-1000000000) 1000000000 st (by omega) (by omega)
  have e3 := v_letter_at (k + 1) a n b y st h
  simp [runF, f_is_leap, slots, rdRaw, rdVar, fin, e1, e2, e3, b1_is]
theorem v_need_span (k : Nat) (x y : Int) (st : Store) (h1 : -10 ^ 9 ≤ x) (h2 : x ≤ y) (h3 : y ≤ 10 ^ 9) : fns T (k + 3) i_need_span [Z x, Z y] st = some (No, st) := by
  rw [s_need_span]
  have e1 := v_need_whole k x (-1000000000) 1000000000 st (by omega) (by omega)
  have e2 := v_need_whole k y (-1000000000) 1000000000 st (by omega) (by omega)
  have e3 : decide (y < x) = false := decide_eq_false (by omega)
  simp [runF, f_need_span, slots, rdRaw, rdVar, fin, e1, e2, e3]
theorem v_leaps_between (k : Nat) (a n b x y : Int) (st : Store) (h : RowOk a n b) (h1 : -10 ^ 9 ≤ x) (h2 : x ≤ y) (h3 : y ≤ 10 ^ 9) : fns T (k + 4) i_leaps_between [.d (rwD a n b), Z x, Z y] st = some (Z (cb a n b y - cb a n b x), st) := by
  rw [s_leaps_between]
  have e1 := v_need_row k a n b st h
  have e2 := v_need_span k x y st h1 h2 h3
  have e3 := v_count_by (k + 2) a n b x st h
  have e4 := v_count_by (k + 2) a n b y st h
  simp [runF, f_leaps_between, slots, rdRaw, rdVar, fin, e1, e2, e3, e4]
theorem v_leap_year (k : Nat) (a n b j : Int) (st : Store) (h : RowOk a n b) (ha : 1 ≤ a) (h1 : -10 ^ 6 ≤ j) (h2 : j ≤ 10 ^ 6) : fns T (k + 4) i_leap_year [.d (rwD a n b), Z j] st = some (Z (lyr a n b j), st) := by
  rw [s_leap_year]
  have e1 := v_need_row k a n b st h
  have e2 := v_need_whole (k + 1) j (-1000000) 1000000 st (by omega) (by omega)
  obtain ⟨g1, g2, g3, g4, g5, g6⟩ := h
  have e3 : binD .Mult (.int n) (.int (j + 1)) = some (.int (n * (j + 1))) := mul_i (mulOk_l (by omega))
  have e4 : binD .FloorDiv (.int (b - n * (j + 1))) (.int a) = some (.int ((b - n * (j + 1)) / a)) := div_i (by omega) (small_big (by omega))
  have e5 : ¬ a = 0 := by omega
  unfold lyr rwD at *
  simp [runF, f_leap_year, slots, rdRaw, rdVar, fin, okN, e1, e2, e3, e4, e5]
end WM.K88
namespace WM.K88
open PySem PySem.Spec PyProof.Rows L2 RT
theorem v_turning_number (k : Nat) (a n : Int) (st : Store) (h0 : 0 ≤ a) (h1 : a ≤ 10 ^ 30) (h2 : 2 ≤ n) (h3 : n ≤ 10 ^ 30) : fns T (k + 3) i_turning_number [Z a, Z n] st = some (.d (if Int.gcd (a % n) n = 1 then .int (bS (a % n) n % n) else .none), st) := by
  rw [s_turning_number]
  have e1 := v_need_whole k a 0 1000000000000000000000000000000 st h0 (by omega)
  have e2 := v_need_whole k n 2 1000000000000000000000000000000 st h2 (by omega)
  have r0 := Int.emod_nonneg a (show n ≠ 0 by omega)
  have r1 := Int.emod_lt_of_pos a (show 0 < n by omega)
  have hH : (10 : Nat) ^ 30 ≤ H1 := by decide +kernel
  have e3 := v_parts_for (k + 1) (a % n) n st r0 (by omega) (by omega) (by omega)
  have e4 : binD .Mod (.int a) (.int n) = some (.int (a % n)) := mod_i (by omega)
  have e5 : binD .Mod (.int (bS (a % n) n)) (.int n) = some (.int (bS (a % n) n % n)) := mod_i (by omega)
  unfold t3 at e3
  by_cases c : Int.gcd (a % n) n = 1
  · rw [if_pos c]
    rw [c] at e3
    simp [runF, f_turning_number, slots, rdRaw, rdVar, fin, okN, e1, e2, e4, e3, e5]
  · rw [if_neg c]
    have c2 : ¬ ((Int.gcd (a % n) n : Nat) : Int) = 1 := by omega
    simp [runF, f_turning_number, slots, rdRaw, rdVar, fin, okN, e1, e2, e4, e3, c2]
/-- what it is for -/
theorem turn_ok {a n : Int} (h2 : 0 < n) (c : Int.gcd (a % n) n = 1) : ∃ z, bS (a % n) n % n * a = 1 + n * z := by
  have r0 := Int.emod_nonneg a (show n ≠ 0 by omega)
  have := bez (A := a % n) (B := n) r0 (by omega)
  rw [c] at this
  have d1 := Int.emod_add_mul_ediv a n
  have d2 := Int.emod_add_mul_ediv (bS (a % n) n) n
  generalize bS (a % n) n = s at *
  generalize bT (a % n) n = t at *
  generalize a / n = q at *
  generalize s / n = w at *
  generalize a % n = r at *
  generalize s % n = v at *
  refine ⟨s * q - t - w * a, ?_⟩
  have e1 : v = s - n * w := by omega
  have e2 : r = a - n * q := by omega
  rw [e1]
  rw [e2] at this
  push_cast at this
  grind
end WM.K88
namespace WM.K88
open PySem PySem.Spec PyProof.Rows L2 RT
structure WinOk (n f l : Int) : Prop where
  n0 : 1 ≤ n
  n1 : n ≤ 10 ^ 9
  f0 : 0 ≤ f
  f1 : f < n
  l0 : 1 ≤ l
  l1 : l ≤ n
def wiD (n f l : Int) : D := .tuple [.int n, .int f, .int l]
theorem v_fits_window (k : Nat) (n f l : Int) (st : Store) (h : WinOk n f l) : fns T (k + 2) i_fits_window [.d (wiD n f l)] st = some (Bl true, st) := by
  rw [s_fits_window]
  obtain ⟨h1, h2, h3, h4, h5, h6⟩ := h
  have e1 := w_is_tuple3 k (.int n) (.int f) (.int l) st
  have e2 := w_is_whole k n 1 1000000000 st h1 (by omega)
  have e3 := w_is_whole k f 0 (n - 1) st h3 (by omega)
  have e4 := w_is_whole k l 1 n st h5 h6
  unfold wiD
  simp [runF, f_fits_window, slots, rdRaw, rdVar, fin, e1, e2, e3, e4]
theorem v_need_window (k : Nat) (n f l : Int) (st : Store) (h : WinOk n f l) : fns T (k + 3) i_need_window [.d (wiD n f l)] st = some (No, st) := by
  rw [s_need_window]
  simp [runF, f_need_window, slots, rdRaw, rdVar, fin, v_fits_window k n f l st h]
theorem v_near_on (k : Nat) (n f l d : Int) (st : Store) (h : 1 ≤ n) : fns T (k + 1) i_near_on [.d (wiD n f l), Z d] st = some (Bl (decide ((d - f) % n < l)), st) := by
  rw [s_near_on]
  have e1 : binD .Mod (.int (d - f)) (.int n) = some (.int ((d - f) % n)) := mod_i (by omega)
  unfold wiD
  simp [runF, f_near_on, slots, rdRaw, rdVar, fin, e1]
theorem v_is_near (k : Nat) (n f l d : Int) (st : Store) (h : WinOk n f l) (h1 : -10 ^ 18 ≤ d) (h2 : d ≤ 10 ^ 18) : fns T (k + 4) i_is_near [.d (wiD n f l), Z d] st = some (Bl (decide ((d - f) % n < l)), st) := by
  rw [s_is_near]
  have e1 := v_need_window k n f l st h
  have e2 := v_need_day k d st h1 h2
  have e3 := v_near_on (k + 2) n f l d st h.n0
  simp [runF, f_is_near, slots, rdRaw, rdVar, fin, e1, e2, e3]
theorem v_shared_arc0 (k : Nat) (st : Store) : fns T (k + 1) i_shared_arc [.d (cy 0 0), .d (cy 0 0), Z 1] st = some (Z 0, st) := by
  rw [s_shared_arc]
  have e1 : binD .Mod (.int 0) (.int 1) = some (.int 0) := mod_i (by omega)
  have e2 : bltD .mn [.int 0, .int 0] = some (.int 0) := rfl
  have e3 : bltD .mx [.int 0, .int 0] = some (.int 0) := rfl
  have e4 : bltD .mn [.int (-1), .int 0] = some (.int (-1)) := rfl
  have e5 : bltD .mx [.int 0, .int (-1)] = some (.int 0) := rfl
  unfold cy
  simp [runF, f_shared_arc, slots, rdRaw, rdVar, fin, bltW, e1, e2, e3, e4, e5]
/-- windows of apart everies -/
theorem v_count_near1 (k : Nat) (n f l n' f' l' : Int) (st : Store) (h : WinOk n f l) (h' : WinOk n' f' l') (hg : Int.gcd n n' = 1) : fns T (k + 4) i_count_near [.d (wiD n f l), .d (wiD n' f' l')] st = some (Z (l * l'), st) := by
  rw [s_count_near]
  have e1 := v_need_window k n f l st h
  have e2 := v_need_window k n' f' l' st h'
  have e3 := v_shared_arc0 (k + 2) st
  obtain ⟨h1, h2, h3, h4, h5, h6⟩ := h
  obtain ⟨g1, g2, g3, g4, g5, g6⟩ := h'
  have d1 : ∀ x : Int, binD .FloorDiv (.int x) (.int 1) = some (.int x) := fun x => by rw [div_i (by omega) (small_big (by decide)), Int.ediv_one]
  have d2 : ∀ x : Int, binD .Mod (.int x) (.int 1) = some (.int 0) := fun x => by rw [mod_i (by omega), Int.emod_one]
  have m1 : binD .Mult (.int 1) (.int l) = some (.int (1 * l)) := mul_i (mulOk_l (by decide))
  have m2 : binD .Mult (.int l) (.int l') = some (.int (l * l')) := mul_i (mulOk_l (by omega))
  have m3 : ∀ x : Int, binD .Mult (.int x) (.int 0) = some (.int 0) := fun x => by rw [mul_i (mulOk_r (by decide)), Int.mul_zero]
  rw [Int.one_mul] at m1
  unfold wiD at *
  unfold cy at e3
  simp [runF, f_count_near, slots, rdRaw, rdVar, fin, bltW, sizeLine, e1, e2, e3, hg, d1, d2, m1, m2, m3]
/-- the next day on which a window over a slope of 1 is near, itself beside itself -/
theorem v_next_on3 (k : Nat) (n f l d : Int) (st : Store) (h : 1 ≤ n) : fns T (k + 1) i_next_on [.d (wiD n f l), Z d] st = some (Z (d + (f - d) % n), st) := by
  rw [s_next_on]
  have e : binD .Mod (.int (f - d)) (.int n) = _ := mod_i (by omega)
  unfold wiD
  simp [runF, f_next_on, slots, rdRaw, rdVar, fin, e]
theorem v_next_start0 (k : Nat) (n l d : Int) (st : Store) (h : 1 ≤ n) (hl : 1 ≤ l) : fns T (k + 2) i_next_start [.d (wiD n 0 l), .d (wiD n 0 l), Z d] st = some (Z (d + (0 - d) % n), st) := by
  rw [s_next_start]
  have e1 := v_next_on3 k n 0 l d st h
  have e0 : (d + (0 - d) % n) % n = 0 := by
    have d1 := Int.emod_add_mul_ediv (0 - d) n
    exact emod_of (q := -((0 - d) / n)) (by grind) (by omega) (by omega)
  have e2 : binD .Mod (.int (d + (0 - d) % n - 0)) (.int n) = some (.int 0) := by rw [mod_i (by omega), Int.sub_zero, e0]
  generalize d + (0 - d) % n = s at *
  have e3 : decide ((0 : Int) < l) = true := decide_eq_true (by omega)
  rw [Int.sub_zero] at e2
  have e4 := e1
  unfold wiD at *
  simp [runF, f_next_start, slots, rdRaw, rdVar, fin, e4, e2, e3]
theorem v_next_near0 (k : Nat) (n l d : Int) (st : Store) (h : WinOk n 0 l) (h1 : -10 ^ 18 ≤ d) (h2 : d ≤ 10 ^ 18) : fns T (k + 4) i_next_near [.d (wiD n 0 l), .d (wiD n 0 l), Z d] st = some (Z (if d % n < l then d else d + (0 - d) % n), st) := by
  rw [s_next_near]
  have e1 := v_need_window k n 0 l st h
  have e2 := v_need_day k d st h1 h2
  have e3 := v_near_on (k + 2) n 0 l d st h.n0
  have e4 := v_next_start0 (k + 1) n l d st h.n0 h.l0
  rw [Int.sub_zero] at e3
  by_cases c : d % n < l
  · rw [if_pos c]
    rw [decide_eq_true c] at e3
    simp [runF, f_next_near, slots, rdRaw, rdVar, fin, e1, e2, e3]
  · rw [if_neg c]
    rw [decide_eq_false c] at e3
    generalize d + (0 - d) % n = s at *
    have ec : runE (fns T (k + 3)) c0_next_near [some (.d (wiD n 0 l)), some (.d (wiD n 0 l)), some (Z d), none, none] st = some (Li [.int s, .int s], st) := by
      unfold c0_next_near
      have := run_comp_fm (Φ := fns T (k + 3)) (tg := .v 4) (it := .val (.tup (.cons (.call i_next_start (.cons (.raw 0) (.cons (.raw 1) (.cons (.raw 2) .nil)))) (.cons (.call i_next_start (.cons (.raw 1) (.cons (.raw 0) (.cons (.raw 2) .nil)))) .nil)))) (own := [4]) (c := .cmp .IsNot (.var 4) (.lit .none)) (elt := .var 4) (sl := [some (.d (wiD n 0 l)), some (.d (wiD n 0 l)), some (Z d), none, none]) (st := st) [s, s] PyData.int (fun _ => true) PyData.int (by simp [rdRaw, e4, sizeLine]) (show 2 ≤ sizeLine by decide) fun x hx => ⟨_, rfl, by simp [rdVar], fun _ => by simp [rdVar]⟩
      simpa using this
    have e5 : cmpD .NotEq (.list [.int s, .int s]) (.list []) = some true := by
      have := ne_ints [s, s] []
      simpa using this
    have e6 : bltD .mn [.list [.int s, .int s]] = some (.int s) := by
      have := mn_ints (ns := [s, s]) (by simp)
      have e : minI [s, s] = s := by
        have := minI_mem (ns := [s, s]) (by simp)
        simpa using this
      rw [e] at this
      simpa using this
    simp [runF, f_next_near, slots, rdRaw, rdVar, fin, sizeLine, e1, e2, e3, ec, e5, bltW, e6]
/-- the longest stretch of a window that starts at 0 -/
theorem v_longest0 (k : Nat) (n a : Int) (st : Store) (h0 : 1 ≤ a) (h1 : a < n) (h2 : n ≤ 1000) : fns T (k + 4) i_longest_near [Tu [wiD n 0 a]] st = some (Z a, st) := by
  rw [s_longest_near]
  have hw : WinOk n 0 a := ⟨by omega, by omega, by omega, by omega, h0, by omega⟩
  have e1 := w_is_tuple_of (k + 2) [wiD n 0 a] 1 6 st (by simp) (by simp)
  have e2 := v_need_window k n 0 a st hw
  have e3 : fns T (k + 3) i_round_of [Tu [wiD n 0 a]] st = some (Z n, st) := by
    rw [s_round_of]
    have g1 : Int.gcd 1 n = 1 := Int.gcd_one_left n
    have d1 : binD .FloorDiv (.int 1) (.int 1) = some (.int 1) := by rw [div_i (by omega) (small_big (by decide))] <;> rfl
    have m1 : binD .Mult (.int 1) (.int n) = some (.int (1 * n)) := mul_i (mulOk_l (by decide))
    rw [Int.one_mul] at m1
    have e4 : runS (fns T (k + 2)) l0_round_of [some (Tu [wiD n 0 a]), some (Z 1), none, none, none] st = some (.nx, [some (Tu [wiD n 0 a]), some (Z n), some (Z n), some (Z 0), some (Z a)], st) := by
      unfold l0_round_of
      refine run_for_of (ds := [wiD n 0 a]) (st1 := st) (runI_val (x := .tuple [wiD n 0 a]) (by simp [rdVar]) rfl) ?_
      unfold wiD
      simp [forL, b0_round_of, rdVar, rdRaw, bltW, g1, d1, m1]
    simp [runF, f_round_of, slots, rdRaw, rdVar, fin, e4]
  have e4 : runS (fns T (k + 3)) l0_longest_near [some (Tu [wiD n 0 a]), none, none, none, none, none] st = some (.nx, [some (Tu [wiD n 0 a]), some (.d (wiD n 0 a)), none, none, none, none], st) := by
    unfold l0_longest_near
    refine run_for_of (ds := [wiD n 0 a]) (st1 := st) (runI_val (x := .tuple [wiD n 0 a]) (by simp [rdVar]) rfl) ?_
    simp [forL, b0_longest_near, rdVar, rdRaw, e2]
  let rw_ : Nat → Int := fun d => if (d : Int) % n ≤ a then (d : Int) % n else 0
  let lg : Nat → Int := fun d => if (d : Int) ≤ a then (d : Int) else a
  have m2 : binD .Mult (.int 2) (.int n) = some (.int (2 * n)) := mul_i (mulOk_l (by decide))
  have hi : runI (fns T (k + 3)) (.rng1 (.bin .Mult (.lit (.int 2)) (.var 2))) [some (Tu [wiD n 0 a]), some (.d (wiD n 0 a)), some (Z n), none, some (Z (lg 0)), some (Z (rw_ 0))] st = some ((iv 0 (2 * n).toNat).map PyData.int, st) := runI_rng1 (by simp [rdVar, m2]) (by omega) (by omega)
  obtain ⟨h', e⟩ := for_done (g := fun d sl => stTg (.v 3) d sl) (b := fun sl st => runSs (fns T (k + 3)) b1_longest_near sl st) PyData.int (fun done (w : Option W) => [some (Tu [wiD n 0 a]), some (.d (wiD n 0 a)), some (Z n), w, some (Z (lg done.length)), some (Z (rw_ done.length))]) (fun _ => st) (l := iv 0 (2 * n).toNat) (done := []) (h := none) fun d c r w hd => by
    obtain ⟨hc, hlt⟩ := iv_split (by simpa using hd)
    rw [Int.zero_add] at hc
    refine ⟨_, some (Z c), rfl, ?_⟩
    have r0 := Int.emod_nonneg (d.length : Int) (show n ≠ 0 by omega)
    have r1 := Int.emod_lt_of_pos (d.length : Int) (show 0 < n by omega)
    have dd := Int.emod_add_mul_ediv (d.length : Int) n
    have en := v_near_on (k + 2) n 0 a c st (by omega)
    rw [Int.sub_zero] at en
    have ec : runE (fns T (k + 3)) c0_longest_near [some (Tu [wiD n 0 a]), some (.d (wiD n 0 a)), some (Z n), some (Z c), some (Z (lg d.length)), some (Z (rw_ d.length))] st = some (Li [.bool (decide (c % n < a))], st) := by
      unfold c0_longest_near
      have := run_comp_map (Φ := fns T (k + 3)) (tg := .v 1) (it := .val (.var 0)) (own := [1]) (elt := .call i_near_on (.cons (.raw 1) (.cons (.raw 3) .nil))) (sl := [some (Tu [wiD n 0 a]), some (.d (wiD n 0 a)), some (Z n), some (Z c), some (Z (lg d.length)), some (Z (rw_ d.length))]) (st := st) [()] (fun _ => wiD n 0 a) (fun _ => .bool (decide (c % n < a))) (runI_val (x := .tuple [wiD n 0 a]) (by simp [rdVar]) rfl) (show 1 ≤ sizeLine by decide) fun x hx => ⟨_, rfl, by simp [rdRaw, en]⟩
      simpa using this
    have ea : bltD .all [.list [.bool (decide (c % n < a))]] = some (.bool (decide (c % n < a))) := by
      have := all_b [()] fun _ => decide (c % n < a)
      simpa using this
    have hlen : (d ++ [c]).length = d.length + 1 := by simp
    rw [hlen]
    have k1 : (((d.length + 1 : Nat)) : Int) = c + 1 := by omega
    have rwn : rw_ (d.length + 1) = if c % n < a then rw_ d.length + 1 else 0 := by
      show (if (((d.length + 1 : Nat)) : Int) % n ≤ a then (((d.length + 1 : Nat)) : Int) % n else 0) = if c % n < a then (if (d.length : Int) % n ≤ a then (d.length : Int) % n else 0) + 1 else 0
      rw [k1, ← hc]
      rw [← hc] at r0 r1 dd
      by_cases q : c % n < a
      · have : (c + 1) % n = c % n + 1 := emod_of (q := c / n) (by omega) (by omega) (by omega)
        rw [this, if_pos q, if_pos (by omega), if_pos (by omega)]
      · rw [if_neg q]
        by_cases w : c % n = n - 1
        · have : (c + 1) % n = 0 := emod_of (q := c / n + 1) (by rw [Int.mul_add]; omega) (by omega) (by omega)
          rw [this, if_pos (by omega)]
        · have : (c + 1) % n = c % n + 1 := emod_of (q := c / n) (by omega) (by omega) (by omega)
          rw [this, if_neg (by omega)]
    have lgn : lg (d.length + 1) = if rw_ (d.length + 1) > lg d.length then rw_ (d.length + 1) else lg d.length := by
      show (if (((d.length + 1 : Nat)) : Int) ≤ a then (((d.length + 1 : Nat)) : Int) else a) = if (if (((d.length + 1 : Nat)) : Int) % n ≤ a then (((d.length + 1 : Nat)) : Int) % n else 0) > (if (d.length : Int) ≤ a then (d.length : Int) else a) then (if (((d.length + 1 : Nat)) : Int) % n ≤ a then (((d.length + 1 : Nat)) : Int) % n else 0) else (if (d.length : Int) ≤ a then (d.length : Int) else a)
      by_cases q : (((d.length + 1 : Nat)) : Int) ≤ a
      · have : (((d.length + 1 : Nat)) : Int) % n = ((d.length + 1 : Nat) : Int) := Int.emod_eq_of_lt (by omega) (by omega)
        rw [this, if_pos q]
        split <;> omega
      · have z0 := Int.emod_nonneg (((d.length + 1 : Nat)) : Int) (show n ≠ 0 by omega)
        rw [if_neg q]
        have z1 : (if (d.length : Int) ≤ a then (d.length : Int) else a) = a := by
          split <;> omega
        rw [z1]
        split <;> split <;> omega
    have emx : ∀ x y : Int, bltD .mx [.int x, .int y] = some (.int (if y > x then y else x)) := fun x y => rfl
    rw [lgn, rwn]
    generalize lg d.length = A at *
    generalize rw_ d.length = B at *
    by_cases q : c % n < a
    · rw [decide_eq_true q] at ec ea
      rw [if_pos q]
      simp [b1_longest_near, rdVar, rdRaw, ec, bltW, ea, emx]
    · rw [decide_eq_false q] at ec ea
      rw [if_neg q]
      simp [b1_longest_near, rdVar, rdRaw, ec, bltW, ea, emx]
  have z1 : lg ([] ++ iv 0 (2 * n).toNat).length = a := by
    rw [List.nil_append, iv_len]
    show (if (((2 * n).toNat : Nat) : Int) ≤ a then (((2 * n).toNat : Nat) : Int) else a) = a
    rw [if_neg (by omega)]
  have z2 : lg ([] : List Int).length = 0 := by
    show (if ((0 : Nat) : Int) ≤ a then ((0 : Nat) : Int) else a) = 0
    rw [if_pos (by omega)]
    rfl
  have z3 : rw_ ([] : List Int).length = 0 := by
    show (if ((0 : Nat) : Int) % n ≤ a then ((0 : Nat) : Int) % n else 0) = 0
    have : ((0 : Nat) : Int) % n = 0 := Int.zero_emod n
    rw [this, if_pos (by omega)]
  have z4 : lg 0 = 0 := z2
  have z5 : rw_ 0 = 0 := z3
  simp only [z1, z2, z3] at e
  rw [z4, z5] at hi
  generalize rw_ ([] ++ iv 0 (2 * n).toNat).length = R at *
  have e5 : runS (fns T (k + 3)) l1_longest_near [some (Tu [wiD n 0 a]), some (.d (wiD n 0 a)), some (Z n), none, some (Z 0), some (Z 0)] st = some (.nx, [some (Tu [wiD n 0 a]), some (.d (wiD n 0 a)), some (Z n), h', some (Z a), some (Z R)], st) := run_for_of hi e
  have c1 : decide ((100000 : Int) < n) = false := decide_eq_false (by omega)
  have c2 : decide (a = 2 * n) = false := decide_eq_false (by omega)
  simp [runF, f_longest_near, slots, rdRaw, rdVar, fin, okN, sizeLine, e1, e4, e3, c1, e5, m2, c2]
end WM.K88
namespace WM.K88
open PySem PySem.Spec PyProof.Rows L2 RT
theorem gcd_turns (Φ : Fn) (st : Store) : ∀ (m : Nat) (lo x y : Int) (h : Option W), 0 ≤ x → 0 ≤ y → y < m → ∃ sl', forL (fun d sl => stTg (.v 2) d sl) (fun sl st => runSs Φ b0__law_gcd sl st) ((iv lo m).map PyData.int) [some (Z x), some (Z y), h] st = some (.ret (Z (Int.gcd x y)), sl', st)
  | 0, lo, x, y, h, hx, hy, hm => by omega
  | m + 1, lo, x, y, h, hx, hy, hm => by
    rw [iv_cons, List.map_cons]
    unfold forL
    have e0 : stTg (.v 2) (.int lo) [some (Z x), some (Z y), h] = some [some (Z x), some (Z y), some (Z lo)] := rfl
    simp only [e0]
    by_cases c : y = 0
    · subst c
      have e1 : bltD .mx [.int x, .int (-x)] = some (.int x) := by
        show some (PyData.int (if -x > x then -x else x)) = _
        rw [if_neg (by omega)]
      have e2 : runSs Φ b0__law_gcd [some (Z x), some (Z 0), some (Z lo)] st = some (.ret (Z x), [some (Z x), some (Z 0), some (Z lo)], st) := by
        simp [b0__law_gcd, rdVar, bltW, e1]
      rw [e2]
      have e3 : ((Int.gcd x 0 : Nat) : Int) = x := by rw [Int.gcd_zero_right]; omega
      rw [e3]
      exact ⟨_, rfl⟩
    · have e1 : binD .Mod (.int x) (.int y) = some (.int (x % y)) := mod_i (by omega)
      have e2 : runSs Φ b0__law_gcd [some (Z x), some (Z y), some (Z lo)] st = some (.nx, [some (Z y), some (Z (x % y)), some (Z lo)], st) := by
        simp [b0__law_gcd, rdVar, bltW, e1, c]
      rw [e2]
      have r0 := Int.emod_nonneg x c
      have r1 := Int.emod_lt_of_pos x (show 0 < y by omega)
      obtain ⟨sl', e⟩ := gcd_turns Φ st m (lo + 1) y (x % y) (some (Z lo)) hy r0 (by omega)
      refine ⟨sl', ?_⟩
      have e3 : Int.gcd y (x % y) = Int.gcd x y := by
        have e0 : x % y = x - x / y * y := by
          have := Int.emod_add_mul_ediv x y
          rw [Int.mul_comm] at this
          omega
        rw [e0, Int.gcd_comm]
        simp
      rw [e3] at e
      exact e
theorem v_law_gcd (k : Nat) (x y : Int) (st : Store) (hx : 0 ≤ x) (hy : 0 ≤ y) (hm : y < 1200) : fns T (k + 1) i__law_gcd [Z x, Z y] st = some (Z (Int.gcd x y), st) := by
  rw [s__law_gcd]
  obtain ⟨sl', e⟩ := gcd_turns (fns T k) st 1200 0 x y none hx hy (by omega)
  have hi : runI (fns T k) (.rng1 (.lit (.int 1200))) [some (Z x), some (Z y), none] st = some ((iv 0 1200).map PyData.int, st) := runI_rng1 (j := 1200) (by simp) (by decide) (by decide)
  have e2 : runS (fns T k) l0__law_gcd [some (Z x), some (Z y), none] st = some (.ret (Z (Int.gcd x y)), sl', st) := run_for_of hi e
  simp [runF, f__law_gcd, slots, fin, e2]
end WM.K88
namespace WM.K88
open PySem PySem.Spec PyProof.Rows L2 RT
theorem v_law_letter (k : Nat) (a n b y : Int) (st : Store) (h : RowOk a n b) : fns T (k + 1) i__law_letter [.d (rwD a n b), Z y] st = some (Bl (lt1 a n b y), st) := by
  rw [s__law_letter]
  obtain ⟨h1, h2, h3, h4, h5, h6⟩ := h
  have e1 : binD .Mult (.int a) (.int y) = some (.int (a * y)) := mul_i (mulOk_l (by omega))
  have e2 : binD .Mod (.int (a * y + b)) (.int n) = some (.int ((a * y + b) % n)) := mod_i (by omega)
  unfold rwD lt1
  simp [runF, f__law_letter, slots, rdRaw, rdVar, fin, okN, bltW, e1, e2]
theorem v_law_window (k : Nat) (a n b : Int) (st : Store) (h : RowOk a n b) : fns T (k + 1) i__law_window [.d (rwD a n b)] st = some (.d (wiD n ((n - a) % n) a), st) := by
  rw [s__law_window]
  obtain ⟨h1, h2, h3, h4, h5, h6⟩ := h
  have e2 : binD .Mod (.int (n - a)) (.int n) = some (.int ((n - a) % n)) := mod_i (by omega)
  unfold rwD wiD
  simp [runF, f__law_window, slots, rdRaw, rdVar, fin, okN, bltW, sizeLine, e2]
theorem v_law_others (k : Nat) (a n b : Int) (st : Store) : fns T (k + 1) i__law_others [.d (rwD a n b)] st = some (.d (rwD (n - a) n (n - 1 - b)), st) := by
  rw [s__law_others]
  unfold rwD
  simp [runF, f__law_others, slots, rdRaw, rdVar, fin, okN, bltW, sizeLine]
theorem v_law_years (k : Nat) (a n b : Int) (st : Store) (h : RowOk a n b) : fns T (k + 2) i__law_years [.d (rwD a n b)] st = some (Li ((yrs a n b).map PyData.int), st) := by
  rw [s__law_years]
  have h1 := h.n0
  have h2 := h.n1
  have hs : sizeLine = 16777216 := sizeLine_eq
  have e1 : runE (fns T (k + 1)) c0__law_years [some (.d (rwD a n b)), none] st = some (Li ((yrs a n b).map PyData.int), st) := by
    unfold c0__law_years yrs
    refine run_comp_fm (iv 0 n.toNat) PyData.int (fun y => lt1 a n b y) PyData.int (runI_rng1 (by simp [rdRaw, rwD]) (by omega) (by omega)) (by rw [iv_len]; omega) fun y hy => ⟨_, rfl, ?_, fun _ => by simp [rdVar]⟩
    simp [rdRaw, v_law_letter k a n b y st h]
  simp [runF, f__law_years, slots, fin, e1]
theorem win_ok {a n b : Int} (h : RowOk a n b) (ha : 1 ≤ a) : WinOk n ((n - a) % n) a := by
  obtain ⟨h1, h2, h3, h4, h5, h6⟩ := h
  have r0 := Int.emod_nonneg (n - a) (show n ≠ 0 by omega)
  have r1 := Int.emod_lt_of_pos (n - a) (show 0 < n by omega)
  exact ⟨h1, by omega, r0, r1, ha, h4⟩
theorem v_law_row (k : Nat) (m x y : Int) (st : Store) (h1 : 1 ≤ m) (h2 : m ≤ 1000) : ∃ a n b x' y', fns T (k + 2) i__law_row [.m 0, Z m] (cup x y :: st) = some (.d (rwD a n b), cup x' y' :: st) ∧ RowOk a n b ∧ 1 ≤ a ∧ n ≤ m := by
  rw [s__law_row]
  obtain ⟨r1, x1, y1, e1, l1, u1⟩ := v_roll k m x y st (by omega) (by omega)
  obtain ⟨r2, x2, y2, e2, l2, u2⟩ := v_roll k (1 + r1) x1 y1 st (by omega) (by omega)
  obtain ⟨r3, x3, y3, e3, l3, u3⟩ := v_roll k (1 + r1) x2 y2 st (by omega) (by omega)
  refine ⟨1 + r2, 1 + r1, r3, x3, y3, ?_, ⟨by omega, by omega, by omega, by omega, l3, u3⟩, by omega, by omega⟩
  unfold rwD
  simp [runF, f__law_row, slots, rdRaw, rdVar, fin, sizeLine, e1, e2, e3]
theorem lk_bool (n : Nat) (b : Bool) : Lk n (.bool b) := by cases n <;> exact trivial
theorem lk_int (n : Nat) (b : Int) : Lk n (.int b) := by cases n <;> exact trivial
theorem lk_none (n : Nat) : Lk n .none := by cases n <;> exact trivial
theorem lk_list {n : Nat} {xs : List D} (h : ∀ x ∈ xs, Lk n x) : Lk (n + 1) (.list xs) := h
theorem lk_tuple {n : Nat} {xs : List D} (h : ∀ x ∈ xs, Lk n x) : Lk (n + 1) (.tuple xs) := h
theorem lk_ints (ns : List Int) : Lk 1 (.list (ns.map PyData.int)) := lk_list fun x hx => by
  obtain ⟨i, _, rfl⟩ := List.mem_map.mp hx
  exact lk_int 0 i
theorem like3 (k : Nat) (x y z : Bool) (st : Store) : fns T (k + 3) i__law_like [Li [.bool x, .bool y, .bool z], Li [.bool x, .bool y, .bool z]] st = some (Bl true, st) := by
  refine v_law_like 1 k _ st (lk_list fun d hd => ?_)
  simp only [List.mem_cons, List.not_mem_nil, or_false] at hd
  rcases hd with rfl | rfl | rfl <;> exact lk_bool 0 _
theorem like_i (k : Nat) (i : Int) (st : Store) : fns T (k + 2) i__law_like [Z i, Z i] st = some (Bl true, st) := v_law_like 0 k _ st (lk_int 0 i)
theorem row_loop (k : Nat) (a n b : Int) (ys : D) (st : Store) (h : RowOk a n b) (ha : 1 ≤ a) (w3 : Option W) (l : List Int) (hl : ∀ y ∈ l, -10 ^ 8 ≤ y ∧ y ≤ 10 ^ 8) : ∃ w2 w9 : Option W, forL (fun d sl => stTg (.v 2) d sl) (fun sl st => runSs (fns T (k + 7)) b0__law_row_right sl st) (l.map PyData.int) [some (.m 0), some (.d (rwD a n b)), none, w3, some (Z a), some (Z n), some (Z b), some (.d (wiD n ((n - a) % n) a)), some (.d ys), none, none, none, none, none] st =
    some (.nx, [some (.m 0), some (.d (rwD a n b)), w2, w3, some (Z a), some (Z n), some (Z b), some (.d (wiD n ((n - a) % n) a)), some (.d ys), w9, none, none, none, none], st) := by
  obtain ⟨h', e⟩ := for_holes (g := fun d sl => stTg (.v 2) d sl) (b := fun sl st => runSs (fns T (k + 7)) b0__law_row_right sl st) PyData.int (fun w : Option W × Option W => [some (.m 0), some (.d (rwD a n b)), w.1, w3, some (Z a), some (Z n), some (Z b), some (.d (wiD n ((n - a) % n) a)), some (.d ys), w.2, none, none, none, none]) st (l := l) (h := (none, none)) fun y hy w => by
    obtain ⟨l1, l2⟩ := hl y hy
    refine ⟨_, (some (Z y), some (Bl (lt1 a n b y))), rfl, ?_⟩
    have e1 := v_law_letter (k + 6) a n b y st h
    have e2 := v_is_leap (k + 3) a n b y st h (by omega) (by omega)
    have bd : -(10 ^ 12) ≤ a * y + b ∧ a * y + b ≤ 10 ^ 12 := by
      obtain ⟨h1, h2, h3, h4, h5, h6⟩ := h
      have q1 : a * y ≤ 1000 * 10 ^ 8 := by
        have s1 : a * y ≤ a * 10 ^ 8 := Int.mul_le_mul_of_nonneg_left l2 h3
        have s2 : a * 10 ^ 8 ≤ 1000 * 10 ^ 8 := Int.mul_le_mul_of_nonneg_right (by omega) (by decide)
        omega
      have q2 : -(1000 * 10 ^ 8) ≤ a * y := by
        have s1 : a * -10 ^ 8 ≤ a * y := Int.mul_le_mul_of_nonneg_left l1 h3
        have s2 : 1000 * -10 ^ 8 ≤ a * -10 ^ 8 := Int.mul_le_mul_of_nonpos_right (by omega) (by decide)
        omega
      omega
    have e3 := v_is_near (k + 3) n ((n - a) % n) a (a * y + b) st (win_ok h ha) (by omega) (by omega)
    rw [near_eq h ha] at e3
    have e4 := v_law_others (k + 6) a n b st
    have e5 := v_is_leap (k + 3) (n - a) n (n - 1 - b) y st (oth_ok h) (by omega) (by omega)
    rw [lt1_oth h] at e5
    have e6 : binD .Mult (.int a) (.int y) = some (.int (a * y)) := mul_i (mulOk_l (by have := h.a1; have := h.n1; omega))
    have e7 := like3 (k + 4) (lt1 a n b y) (lt1 a n b y) (!lt1 a n b y) st
    generalize wiD n ((n - a) % n) a = Wd at *
    simp [b0__law_row_right, rdRaw, rdVar, sizeLine, e1, e2, e6, e3, e4, e5, e7]
  exact ⟨h'.1, h'.2, e⟩
end WM.K88
namespace WM.K88
open PySem PySem.Spec PyProof.Rows L2 RT
theorem ixl {xs : List Int} {j : Nat} {y : Int} (h : xs[j]? = some y) : ixD (.list (xs.map PyData.int)) (.int (j : Int)) = some (.int y) := by
  have hj : j < xs.length := by
    rcases Nat.lt_or_ge j xs.length with c | c
    · exact c
    · rw [List.getElem?_eq_none c] at h
      cases h
  show atI _ _ = _
  unfold L2.atI L2.ixN
  rw [if_pos (by omega), if_pos (by simp; omega)]
  simp [h]
theorem ixl_last {xs : List Int} {y : Int} (h : xs[xs.length - 1]? = some y) (h0 : 0 < xs.length) : ixD (.list (xs.map PyData.int)) (.int (-1)) = some (.int y) := by
  show atI _ _ = _
  unfold L2.atI L2.ixN
  have e : (-1 + (((xs.map PyData.int).length : Nat) : Int)).toNat = xs.length - 1 := by simp; omega
  rw [if_neg (by omega)]
  rw [if_pos (by simp; omega), e]
  simp [h]
theorem v_row_right (k : Nat) (a n b x y : Int) (st : Store) (h : RowOk a n b) (ha : 1 ≤ a) : ∃ x' y', fns T (k + 8) i__law_row_right [.m 0, .d (rwD a n b)] (cup x y :: st) = some (Bl true, cup x' y' :: st) := by
  rw [s__law_row_right]
  have q1 := h.a1
  have q2 := h.n0
  have q3 := h.n1
  have hl := yrs_len h
  obtain ⟨r1, x1, y1, e1, l1, u1⟩ := v_roll (k + 6) 1000001 x y st (by omega) (by omega)
  obtain ⟨r2, x2, y2, e2, l2, u2⟩ := v_roll (k + 6) 1000001 x1 y1 st (by omega) (by omega)
  obtain ⟨r3, x3, y3, e3, l3, u3⟩ := v_roll (k + 6) 1000 x2 y2 st (by omega) (by omega)
  refine ⟨x3, y3, ?_⟩
  have ew := v_law_window (k + 6) a n b (cup x y :: st) h
  have ey := v_law_years (k + 5) a n b (cup x y :: st) h
  obtain ⟨v0, f0⟩ : ∃ v, (yrs a n b)[0]? = some v := ⟨_, List.getElem?_eq_getElem (by omega)⟩
  obtain ⟨vm, fm⟩ : ∃ v, (yrs a n b)[(yrs a n b).length - 1]? = some v := ⟨_, List.getElem?_eq_getElem (by omega)⟩
  have g0 : ixD (.list ((yrs a n b).map PyData.int)) (.int 0) = some (.int v0) := ixl f0
  have gm := ixl_last fm (by omega)
  obtain ⟨b0, b1, _⟩ := yrs_at h f0
  obtain ⟨c0, c1, _⟩ := yrs_at h fm
  obtain ⟨w2, w9, el⟩ := row_loop k a n b (.list ((yrs a n b).map PyData.int)) (cup x2 y2 :: st) h ha none [r1, -r2, 0, n - 1, v0, vm] (by
    intro y hy
    simp only [List.mem_cons, List.not_mem_nil, or_false] at hy
    omega)
  have ep : binD .Pow (.int 10) (.int 6) = some (.int 1000000) := pow_i (by omega) (by omega) (by decide)
  have hi : runI (fns T (k + 7)) (.val (.lst (.cons (.call i__law_roll (.cons (.raw 0) (.cons (.bin .Add (.bin .Pow (.lit (.int 10)) (.lit (.int 6))) (.lit (.int 1))) .nil))) (.cons (.neg (.call i__law_roll (.cons (.raw 0) (.cons (.bin .Add (.bin .Pow (.lit (.int 10)) (.lit (.int 6))) (.lit (.int 1))) .nil)))) (.cons (.lit (.int 0)) (.cons (.bin .Sub (.var 5) (.lit (.int 1))) (.cons (.ix (.raw 8) (.lit (.int 0))) (.cons (.ix (.raw 8) (.neg (.lit (.int 1)))) .nil)))))))) [some (.m 0), some (.d (rwD a n b)), none, none, some (Z a), some (Z n), some (Z b), some (.d (wiD n ((n - a) % n) a)), some (.d (.list ((yrs a n b).map PyData.int))), none, none, none, none, none] (cup x y :: st) = some ([r1, -r2, 0, n - 1, v0, vm].map PyData.int, cup x2 y2 :: st) := by
    refine runI_val (x := .list ([r1, -r2, 0, n - 1, v0, vm].map PyData.int)) ?_ rfl
    generalize (yrs a n b).map PyData.int = Y at *
    simp [rdRaw, rdVar, sizeLine, ep, e1, e2, g0, gm, ixW]
  have e4 : runS (fns T (k + 7)) l0__law_row_right [some (.m 0), some (.d (rwD a n b)), none, none, some (Z a), some (Z n), some (Z b), some (.d (wiD n ((n - a) % n) a)), some (.d (.list ((yrs a n b).map PyData.int))), none, none, none, none, none] (cup x y :: st) = _ := run_for_of hi el
  have e5 := v_leaps_between (k + 3) a n b 0 n (cup x2 y2 :: st) h (by omega) (by omega) (by omega)
  have e6 : cb a n b n - cb a n b 0 = a := by
    have := cb_turn h 0 1
    rw [cb_zero h] at *
    rw [show (0 : Int) + n * 1 = n by omega] at this
    omega
  rw [e6] at e5
  have e7 := like_i (k + 5) a (cup x2 y2 :: st)
  have e8 := v_law_gcd (k + 6) a n (cup x2 y2 :: st) (by omega) (by omega) (by omega)
  have e9 := v_turning_number (k + 4) a n (cup x2 y2 :: st)
  have e10 := v_leap_year (k + 3) a n b (r3 - 500) (cup x3 y3 :: st) h ha (by omega) (by omega)
  have m0 := Int.emod_nonneg (r3 - 500) (show a ≠ 0 by omega)
  have m1 := Int.emod_lt_of_pos (r3 - 500) (show 0 < a by omega)
  obtain ⟨va, fa⟩ : ∃ v, (yrs a n b)[((r3 - 500) % a).toNat]? = some v := ⟨_, List.getElem?_eq_getElem (by omega)⟩
  have ga := ixl fa
  rw [show ((((r3 - 500) % a).toNat : Nat) : Int) = (r3 - 500) % a by omega] at ga
  rw [lyr_eq h ha (r3 - 500) fa] at e10
  have e11 := like_i (k + 5) ((r3 - 500) / a * n + va) (cup x3 y3 :: st)
  have d1 : binD .FloorDiv (.int (r3 - 500)) (.int a) = some (.int ((r3 - 500) / a)) := div_h (by omega) (Nat.le_trans (show a.natAbs ≤ 1000 by omega) (by decide +kernel))
  have d2 : binD .Mod (.int (r3 - 500)) (.int a) = some (.int ((r3 - 500) % a)) := mod_i (by omega)
  have d3 : binD .Mult (.int ((r3 - 500) / a)) (.int n) = some (.int ((r3 - 500) / a * n)) := mul_i (mulOk_r (by omega))
  have en : bltD .len [.list ((yrs a n b).map PyData.int)] = some (.int a) := by
    show some (PyData.int _) = _
    simp [hl]
  by_cases c : 1 < n ∧ Int.gcd a n = 1
  · obtain ⟨cn, cg⟩ := c
    have cg' : Int.gcd (a % n) n = 1 := by
      rw [← cg]
      have e0 : a % n = a - a / n * n := by
        have := Int.emod_add_mul_ediv a n
        rw [Int.mul_comm] at this
        omega
      rw [e0]
      simp
    have t9 := e9 (by omega) (by omega) (by omega) (by omega)
    rw [if_pos cg'] at t9
    obtain ⟨z, tz⟩ := turn_ok (by omega) cg'
    have tr0 := Int.emod_nonneg (bS (a % n) n) (show n ≠ 0 by omega)
    have tr1 := Int.emod_lt_of_pos (bS (a % n) n) (show 0 < n by omega)
    generalize bS (a % n) n % n = t at *
    have ec : runE (fns T (k + 7)) c0__law_row_right [some (.m 0), some (.d (rwD a n b)), w2, none, some (Z a), some (Z n), some (Z b), some (.d (wiD n ((n - a) % n) a)), some (.d (.list ((yrs a n b).map PyData.int))), w9, some (Z t), none, none, none] (cup x2 y2 :: st) = some (.d (.list (((iv (n - a) a.toNat).map fun r => t * (r - b) % n).map PyData.int)), cup x2 y2 :: st) := by
      unfold c0__law_row_right
      rw [List.map_map]
      refine run_comp_map (iv (n - a) a.toNat) PyData.int _ ?_ ?_ ?_
      · have := runI_rng2 (Φ := fns T (k + 7)) (e := .bin .Sub (.var 5) (.var 4)) (e2 := .var 5) (sl := [some (.m 0), some (.d (rwD a n b)), w2, none, some (Z a), some (Z n), some (Z b), some (.d (wiD n ((n - a) % n) a)), some (.d (.list ((yrs a n b).map PyData.int))), w9, some (Z t), none, none, none]) (st := cup x2 y2 :: st) (st1 := cup x2 y2 :: st) (st2 := cup x2 y2 :: st) (i := n - a) (j := n) (by simp [rdVar]) (by simp [rdVar]) (by omega) (by omega) (by omega) (by omega)
        rw [show n - (n - a) = a by omega] at this
        exact this
      · rw [iv_len, sizeLine_eq]; omega
      · intro r hr
        obtain ⟨hr0, hr1⟩ := mem_iv.mp hr
        have s1 : binD .Mult (.int t) (.int (r - b)) = some (.int (t * (r - b))) := mul_i (mulOk_l (by omega))
        have s2 : binD .Mod (.int (t * (r - b))) (.int n) = some (.int (t * (r - b) % n)) := mod_i (by omega)
        refine ⟨_, rfl, ?_⟩
        simp [rdVar, bltW, s1, s2]
    have es := sorted_ints ((iv (n - a) a.toNat).map fun r => t * (r - b) % n)
    rw [turn_years h tz] at es
    have ene := ne_ints (yrs a n b) (yrs a n b)
    generalize ((iv (n - a) a.toNat).map fun r => t * (r - b) % n).map PyData.int = L at *
    generalize wiD n ((n - a) % n) a = Wd at *
    generalize (yrs a n b).map PyData.int = Y at *
    rw [cg] at e8
    unfold rwD at *
    simp [runF, f__law_row_right, slots, rdRaw, rdVar, fin, okN, sizeLine, ixW, bltW, ew, ey, e4, en, e5, e7, e8, t9, ec, es, ene, e3, d1, d2, d3, ga, e10, e11, cn]
  · have cc : (n > 1 → ¬ ((Int.gcd a n : Nat) : Int) = 1) := by omega
    generalize wiD n ((n - a) % n) a = Wd at *
    generalize (yrs a n b).map PyData.int = Y at *
    generalize ((Int.gcd a n : Nat) : Int) = G at *
    unfold rwD at *
    by_cases cn : 1 < n
    · have cg := cc cn
      simp [runF, f__law_row_right, slots, rdRaw, rdVar, fin, okN, sizeLine, ixW, bltW, ew, ey, e4, en, e5, e7, e8, e3, d1, d2, d3, ga, e10, e11, cn, cg]
    · simp [runF, f__law_row_right, slots, rdRaw, rdVar, fin, okN, sizeLine, ixW, bltW, ew, ey, e4, en, e5, e7, e8, e3, d1, d2, d3, ga, e10, e11, cn]
end WM.K88
namespace WM.K88
open PySem PySem.Spec PyProof.Rows L2 RT
/-- cycles of n days, one for each of the days -/
def cyn (n : Int) (ys : List Int) : List Cyc := ys.map fun y => (n, y)
theorem cyn_len (n : Int) (ys : List Int) : (cyn n ys).length = ys.length := by simp [cyn]
theorem cyn_hit (n : Int) (ys : List Int) (x : Int) : (cyn n ys).any (fun c => hit c x) = decide (x % n ∈ ys) := by
  rw [Bool.eq_iff_iff, decide_eq_true_eq]
  unfold cyn hit
  simp only [List.any_map, List.any_eq_true, Function.comp_apply, decide_eq_true_eq]
  constructor
  · rintro ⟨y, hy, rfl⟩; exact hy
  · intro h; exact ⟨_, h, rfl⟩
theorem cyn_b {n : Int} {ys : List Int} (h1 : 1 ≤ n) (h2 : n ≤ 1000) (h : ∀ y ∈ ys, 0 ≤ y ∧ y < n) : ∀ c ∈ cyn n ys, CyB c := by
  intro c hc
  obtain ⟨y, hy, rfl⟩ := List.mem_map.mp hc
  obtain ⟨a, b⟩ := h y hy
  exact ⟨⟨by show 0 < n; omega, a, b⟩, by show n ≤ 10 ^ 9; omega⟩
theorem met_same {n x y : Int} (h : 1 ≤ n) (hx : 0 ≤ x ∧ x < n) (hy : 0 ≤ y ∧ y < n) (hn : x ≠ y) : metO (some (n, x)) (n, y) = none := by
  unfold metO
  simp only
  rw [if_neg]
  intro c
  have e : ((Int.gcd n n : Nat) : Int) = n := by rw [Int.gcd_self]; omega
  rw [e] at c
  have := Int.emod_add_mul_ediv (y - x) n
  rw [c] at this
  have : (y - x) / n = 0 ∨ 1 ≤ (y - x) / n ∨ (y - x) / n ≤ -1 := by omega
  generalize (y - x) / n = q at *
  rcases this with c | c | c
  · subst c; omega
  · have : n * 1 ≤ n * q := Int.mul_le_mul_of_nonneg_left c (by omega)
    omega
  · have : n * q ≤ n * -1 := Int.mul_le_mul_of_nonneg_left c (by omega)
    omega
theorem cyn_apart {n : Int} {ys : List Int} (h1 : 1 ≤ n) (hn : ys.Nodup) (h : ∀ y ∈ ys, 0 ≤ y ∧ y < n) : ∀ (i : Nat) (c : Cyc), (cyn n ys)[i]? = some c → ∀ o ∈ (cyn n ys).take i, metO (some c) o = none := by
  intro i c hc o ho
  unfold cyn at hc ho
  rw [List.getElem?_map] at hc
  obtain ⟨y, hy, rfl⟩ := Option.map_eq_some_iff.mp hc
  rw [← List.map_take] at ho
  obtain ⟨z, hz, rfl⟩ := List.mem_map.mp ho
  obtain ⟨j, hj, hj2⟩ := List.mem_take_iff_getElem.mp hz
  have hi := (List.getElem?_eq_some_iff.mp hy)
  obtain ⟨hi, rfl⟩ := hi
  refine met_same h1 (h _ (List.getElem_mem _)) (h _ (List.mem_of_mem_take hz)) ?_
  rw [← hj2]
  intro c
  exact List.pairwise_iff_getElem.mp hn j i (by omega) hi (by omega) c.symm
theorem enl_one {L : List Int} (hn : L.Nodup) : ∀ {j i : Nat} {r : Int}, L[j]? = some r → (enl i L).filter (fun p => decide (p.2 = r)) = [(i + j, r)] := by
  induction L with
  | nil => intro j i r h; simp at h
  | cons a L ih =>
    intro j i r h
    obtain ⟨h1, h2⟩ := List.nodup_cons.mp hn
    show ((i, a) :: enl (i + 1) L).filter _ = _
    rw [List.filter_cons]
    cases j with
    | zero =>
      have : a = r := by simpa using h
      subst this
      have e : (enl (i + 1) L).filter (fun p => decide (p.2 = a)) = [] := by
        rw [List.filter_eq_nil_iff]
        intro p hp c
        have c := of_decide_eq_true c
        obtain ⟨_, _, q⟩ := enl_mem hp
        rw [c] at q
        exact h1 (List.mem_of_getElem? q)
      rw [e]
      simp
    | succ j =>
      have hr : L[j]? = some r := by simpa using h
      have : a ≠ r := fun c => h1 (c ▸ List.mem_of_getElem? hr)
      rw [ih h2 hr]
      simp [this]
      omega
theorem enl_map {α β : Type} (f : α → β) : ∀ (l : List α) (i : Nat), enl i (l.map f) = (enl i l).map fun p => (p.1, f p.2)
  | [], _ => rfl
  | a :: l, i => by
    show (i, f a) :: enl (i + 1) (l.map f) = (i, f a) :: (enl (i + 1) l).map _
    rw [enl_map f l]
theorem cyn_by {n : Int} {ys : List Int} (hn : ys.Nodup) {x : Int} {j : Nat} (h : ys[j]? = some (x % n)) : ((enl 0 (cyn n ys)).filter fun p => hit p.2 x).map (fun p => (PyData.int (p.1 : Int))) = [.int (j : Int)] := by
  unfold cyn
  rw [enl_map, List.filter_map]
  have e : ((fun p : Nat × Cyc => hit p.2 x) ∘ fun p : Nat × Int => (p.1, (n, p.2))) = fun p : Nat × Int => decide (p.2 = x % n) := by
    funext p
    show decide (x % n = p.2) = _
    rw [Bool.eq_iff_iff, decide_eq_true_eq, decide_eq_true_eq]
    exact eq_comm
  rw [e, enl_one hn h]
  simp
def ycs (a n b : Int) : List Cyc := cyn n (yrs a n b)
theorem yrs_nd (a n b : Int) : (yrs a n b).Nodup := (yrs_asc a n b).imp fun h => by omega
theorem yrs_rg {a n b : Int} (h : RowOk a n b) : ∀ y ∈ yrs a n b, 0 ≤ y ∧ y < n := fun y hy => by
  have := (mem_yrs h).mp hy
  omega
theorem lt1_mod {a n b : Int} (h : RowOk a n b) (x : Int) : decide (x % n ∈ yrs a n b) = lt1 a n b x := by
  have d := Int.emod_add_mul_ediv x n
  have e : lt1 a n b x = lt1 a n b (x % n) := by
    rw [← lt1_turn (x % n) (x / n), d]
  rw [e, Bool.eq_iff_iff, decide_eq_true_eq, mem_yrs h]
  have := h.n0
  have := Int.emod_nonneg x (show n ≠ 0 by omega)
  have := Int.emod_lt_of_pos x (show 0 < n by omega)
  constructor
  · exact fun q => q.2.2
  · exact fun q => ⟨by omega, by omega, q⟩
theorem ycs_hit {a n b : Int} (h : RowOk a n b) (x : Int) : (ycs a n b).any (fun c => hit c x) = lt1 a n b x := by
  unfold ycs
  rw [cyn_hit, lt1_mod h]
theorem ycs_stk {a n b : Int} (h : RowOk a n b) (lo : Int) (m : Nat) : stk (ycs a n b) lo m = cb a n b (lo + m) - cb a n b lo := by
  rw [← cb_sum h]
  unfold stk
  apply sm_congr
  intro i _
  have e := ycs_hit h (lo + (i : Int))
  unfold hits
  by_cases c : lt1 a n b (lo + (i : Int)) = true
  · rw [c] at e ⊢
    obtain ⟨q, hq, hh⟩ := List.any_eq_true.mp e
    have : ((ycs a n b).filter fun c => hit c (lo + (i : Int))) ≠ [] := fun z => by
      have := List.filter_eq_nil_iff.mp z q hq
      exact this hh
    rw [if_neg (by rw [List.length_eq_zero_iff]; exact this)]
    rfl
  · rw [Bool.not_eq_true] at c
    rw [c] at e ⊢
    have : ((ycs a n b).filter fun c => hit c (lo + (i : Int))) = [] := by
      rw [List.filter_eq_nil_iff]
      intro q hq
      have := List.any_eq_false.mp e q hq
      exact this
    rw [this]
    rfl
theorem cyn_prod (n : Int) : ∀ ys : List Int, prodE (cyn n ys) = n ^ ys.length := by
  intro ys
  refine snoc_ind (P := fun ys => prodE (cyn n ys) = n ^ ys.length) (by simp [cyn, prodE]) (fun l y ih => ?_) ys
  have : cyn n (l ++ [y]) = cyn n l ++ [(n, y)] := by simp [cyn]
  rw [this, prodE_snoc, ih, List.length_append, List.length_singleton, Int.pow_succ]
theorem ycs_share {a n b : Int} (h : RowOk a n b) (ha : 1 ≤ a) : Rat.divInt (stk (ycs a n b) 0 (prodE (ycs a n b)).toNat) (prodE (ycs a n b)) = Rat.divInt a n := by
  have hl := yrs_len h
  have h0 := h.n0
  obtain ⟨m, hm⟩ : ∃ m, (yrs a n b).length = m + 1 := ⟨(yrs a n b).length - 1, by omega⟩
  have e : prodE (ycs a n b) = n * n ^ m := by
    unfold ycs
    rw [cyn_prod, hm, Int.pow_succ, Int.mul_comm]
  have q0 : 0 < n ^ m := Int.pow_pos (by omega)
  have q1 : 0 < n * n ^ m := Int.mul_pos (by omega) q0
  rw [e, ycs_stk h]
  generalize n ^ m = q at *
  have e2 : (0 : Int) + ((n * q).toNat : Int) = 0 + n * q := by omega
  rw [e2, cb_turn h]
  have e3 : cb a n b 0 + a * q - cb a n b 0 = a * q := by omega
  rw [e3]
  exact Rat.divInt_mul_right (by omega)
theorem cyn_shr {n : Int} (h : 1 ≤ n) : ∀ ys : List Int, shr (cyn n ys) = Rat.divInt ys.length n := by
  intro ys
  refine snoc_ind (P := fun ys => shr (cyn n ys) = Rat.divInt ys.length n) ?_ (fun l y ih => ?_) ys
  · show (0 : Rat) = Rat.divInt 0 n
    simp
  · have : cyn n (l ++ [y]) = cyn n l ++ [(n, y)] := by simp [cyn]
    have e : shr (cyn n l ++ [(n, y)]) = shr (cyn n l) + Rat.divInt 1 n := by
      unfold shr
      rw [List.foldl_append]
      rfl
    rw [this, e, ih, RT.divInt_eq (by omega), RT.divInt_eq (by omega), RT.divInt_eq (by omega), List.length_append, List.length_singleton]
    rw [show (((l.length + 1 : Nat) : Nat) : Int) = (l.length : Int) + 1 by omega, Rat.intCast_add]
    rw [Rat.div_def, Rat.div_def, Rat.div_def, Rat.add_mul]
theorem ycs_shr {a n b : Int} (h : RowOk a n b) : shr (ycs a n b) = Rat.divInt a n := by
  unfold ycs
  rw [cyn_shr h.n0, yrs_len h]
end WM.K88
namespace WM.K88
open PySem PySem.Spec PyProof.Rows L2 RT
theorem run_t {a n b : Int} (h : RowOk a n b) (x : Int) : ∀ m : Nat, (∀ u, x ≤ u → u < x + m → lt1 a n b u = true) → cb a n b (x + m) - cb a n b x = m
  | 0, _ => by
    rw [show x + ((0 : Nat) : Int) = x by omega]
    omega
  | m + 1, hh => by
    have e1 := run_t h x m fun u h1 h2 => hh u h1 (by omega)
    have e2 := cb_next h (x + m)
    rw [hh (x + m) (by omega) (by omega), b1_t] at e2
    rw [show x + ((m + 1 : Nat) : Int) = x + m + 1 by omega]
    omega
theorem run_f {a n b : Int} (h : RowOk a n b) (x : Int) : ∀ m : Nat, (∀ u, x ≤ u → u < x + m → lt1 a n b u = false) → cb a n b (x + m) = cb a n b x
  | 0, _ => by
    rw [show x + ((0 : Nat) : Int) = x by omega]
  | m + 1, hh => by
    have e1 := run_f h x m fun u h1 h2 => hh u h1 (by omega)
    have e2 := cb_next h (x + m)
    rw [hh (x + m) (by omega) (by omega)] at e2
    rw [show x + ((m + 1 : Nat) : Int) = x + m + 1 by omega]
    have : b1 false = 0 := rfl
    omega
theorem lt1_full {n b : Int} (h : 1 ≤ n) (x : Int) : lt1 n n b x = true := by
  unfold lt1
  rw [decide_eq_true_eq]
  have := Int.emod_nonneg (n * x + b) (show n ≠ 0 by omega)
  omega
theorem free_full {n b : Int} (h : RowOk n n b) (x : Int) : freeD (ycs n n b) x = none := by
  unfold freeD
  rw [Option.map_eq_none_iff, List.find?_eq_none]
  intro i _
  rw [ycs_hit h, lt1_full h.n0]
  simp
theorem find_iv {p : Int → Bool} {lo : Int} {m : Nat} {f : Int} (h : (iv lo m).find? p = some f) : lo ≤ f ∧ f < lo + m ∧ p f = true ∧ ∀ u, lo ≤ u → u < f → p u = false := by
  obtain ⟨h1, d, r, h2, h3⟩ := List.find?_eq_some_iff_append.mp h
  have hm : f ∈ iv lo m := by rw [h2]; simp
  obtain ⟨g1, g2⟩ := mem_iv.mp hm
  refine ⟨g1, g2, h1, fun u u1 u2 => ?_⟩
  have hu : u ∈ iv lo m := mem_iv.mpr ⟨u1, by omega⟩
  have pw := iv_pw lo m
  rw [h2] at hu pw
  rcases List.mem_append.mp hu with q | q
  · have := h3 u q
    simpa using this
  · rcases List.mem_cons.mp q with q | q
    · omega
    · have := List.rel_of_pairwise_cons (List.pairwise_append.mp pw).2.1 q
      omega
theorem free_less {a n b : Int} (h : RowOk a n b) (ha : a < n) (h12 : a ≤ 12) (x : Int) : ∃ f, freeD (ycs a n b) x = some f ∧ x ≤ f ∧ f ≤ x + 4096 ∧ lt1 a n b f = false ∧ cb a n b f - cb a n b x = f - x := by
  have hl := yrs_len h
  have hl2 : (ycs a n b).length = (yrs a n b).length := cyn_len _ _
  unfold freeD
  cases hf : (iv 0 (2 ^ (ycs a n b).length)).find? fun i => !((ycs a n b).any fun c => hit c (x + i)) with
  | some i =>
    obtain ⟨i1, i2, i3, i4⟩ := find_iv hf
    have pb : 2 ^ (ycs a n b).length ≤ 2 ^ 12 := Nat.pow_le_pow_right (by decide) (by omega)
    generalize 2 ^ (ycs a n b).length = N at *
    rw [ycs_hit h] at i3
    refine ⟨x + i, rfl, by omega, by omega, by simpa using i3, ?_⟩
    have := run_t h x i.toNat fun u u1 u2 => by
      have := i4 (u - x) (by omega) (by omega)
      rw [ycs_hit h, show x + (u - x) = u by omega] at this
      simpa using this
    rw [show ((i.toNat : Nat) : Int) = i by omega] at this
    omega
  | none =>
    exfalso
    have hf := List.find?_eq_none.mp hf
    have pb : (yrs a n b).length + 1 ≤ 2 ^ (ycs a n b).length := by rw [hl2]; exact Nat.lt_two_pow_self
    have := run_t h x ((yrs a n b).length + 1) fun u u1 u2 => by
      have := hf (u - x) (mem_iv.mpr ⟨by omega, by omega⟩)
      rw [ycs_hit h, show x + (u - x) = u by omega] at this
      simpa using this
    have e1 := cb_turn h x 1
    have e2 := cb_mono h (x := x + (((yrs a n b).length + 1 : Nat) : Int)) (y := x + n * 1) (by omega)
    omega
theorem next_lyr {a n b : Int} (h : RowOk a n b) (ha : 1 ≤ a) (x : Int) : minI ((ycs a n b).map fun c => x + (c.2 - x) % c.1) = lyr a n b (cb a n b x) := by
  have h0 := h.n0
  have hl := yrs_len h
  have hL : (ycs a n b).map (fun c => x + (c.2 - x) % c.1) = (yrs a n b).map fun y => x + (y - x) % n := by
    unfold ycs cyn
    rw [List.map_map]
    rfl
  rw [hL]
  have hne : ((yrs a n b).map fun y => x + (y - x) % n) ≠ [] := fun c => by
    have := congrArg List.length c
    simp at this
    rw [this] at hl
    simp at hl
    omega
  have hm := minI_mem hne
  have hle : ∀ v ∈ (yrs a n b).map (fun y => x + (y - x) % n), minI ((yrs a n b).map fun y => x + (y - x) % n) ≤ v := fun v hv => minI_le hv
  generalize minI ((yrs a n b).map fun y => x + (y - x) % n) = v at *
  obtain ⟨y, hy, rfl⟩ := List.mem_map.mp hm
  obtain ⟨y0, y1⟩ := yrs_rg h y hy
  have m0 := Int.emod_nonneg (y - x) (show n ≠ 0 by omega)
  have m1 := Int.emod_lt_of_pos (y - x) (show 0 < n by omega)
  have md := Int.emod_add_mul_ediv (y - x) n
  have hv : (x + (y - x) % n) % n = y := by
    refine emod_of (q := -((y - x) / n)) ?_ y0 y1
    rw [Int.mul_neg]
    omega
  refine LpY.uniq h ⟨?_, ?_⟩ (lyr_ok h ha _)
  · rw [← lt1_mod h, hv, decide_eq_true_eq]
    exact hy
  · have := run_f h x ((y - x) % n).toNat fun u u1 u2 => by
      rw [← lt1_mod h, decide_eq_false_iff_not]
      intro c
      have q := hle _ (List.mem_map.mpr ⟨_, c, rfl⟩)
      have ud := Int.emod_add_mul_ediv u n
      have e : (u % n - x) % n = (u - x) % n := by
        rw [show u % n - x = (u - x) + n * -(u / n) by rw [Int.mul_neg]; omega, Int.add_mul_emod_self_left]
      rw [e, Int.emod_eq_of_lt (a := u - x) (b := n) (by omega) (by omega)] at q
      omega
    rw [show ((((y - x) % n).toNat : Nat) : Int) = (y - x) % n by omega] at this
    exact this
def oths (a n b : Int) : List Int := (iv 0 n.toNat).filter fun y => !decide (y ∈ yrs a n b)
theorem oths_mem {a n b y : Int} : y ∈ oths a n b ↔ (0 ≤ y ∧ y < n) ∧ y ∉ yrs a n b := by
  unfold oths
  rw [List.mem_filter, mem_iv]
  simp
  intro _ _
  omega
theorem every_nd (a n b : Int) : (yrs a n b ++ oths a n b).Nodup := by
  refine List.nodup_append.mpr ⟨yrs_nd a n b, ((iv_pw 0 _).filter _).imp fun h => by omega, fun x hx y hy e => ?_⟩
  subst e
  exact (oths_mem.mp hy).2 hx
theorem every_rg {a n b : Int} (h : RowOk a n b) : ∀ y ∈ yrs a n b ++ oths a n b, 0 ≤ y ∧ y < n := fun y hy => by
  rcases List.mem_append.mp hy with q | q
  · exact yrs_rg h y q
  · exact (oths_mem.mp q).1
theorem every_all {a n b : Int} (y : Int) (h0 : 0 ≤ y) (h1 : y < n) : y ∈ yrs a n b ++ oths a n b := by
  rw [List.mem_append]
  by_cases c : y ∈ yrs a n b
  · exact .inl c
  · exact .inr (oths_mem.mpr ⟨⟨h0, h1⟩, c⟩)
theorem every_len {a n b : Int} (h : RowOk a n b) : ((yrs a n b ++ oths a n b).length : Int) = n := by
  have h0 := h.n0
  have e : sortI (yrs a n b ++ oths a n b) = iv 0 n.toNat := sortI_asc (every_nd a n b) (iv_pw 0 _) fun x => ⟨fun q => by
    have := every_rg h x q
    exact mem_iv.mpr ⟨by omega, by omega⟩, fun q => by
    have := mem_iv.mp q
    exact every_all x (by omega) (by omega)⟩
  have e2 := (sortI_perm (yrs a n b ++ oths a n b)).length_eq
  rw [e, iv_len] at e2
  omega
theorem every_by {a n b : Int} (h : RowOk a n b) (x : Int) : ∃ j : Nat, (yrs a n b ++ oths a n b)[j]? = some (x % n) ∧ decide ((j : Int) < a) = lt1 a n b x := by
  have h0 := h.n0
  have hl := yrs_len h
  obtain ⟨j, hj⟩ := List.mem_iff_getElem?.mp (every_all (a := a) (b := b) (x % n) (Int.emod_nonneg x (show n ≠ 0 by omega)) (Int.emod_lt_of_pos x (by omega)))
  refine ⟨j, hj, ?_⟩
  rw [← lt1_mod h, Bool.eq_iff_iff, decide_eq_true_eq, decide_eq_true_eq]
  rw [List.getElem?_append] at hj
  split at hj
  · exact ⟨fun _ => List.mem_of_getElem? hj, fun _ => by omega⟩
  · exact ⟨fun _ => by omega, fun q => absurd q (oths_mem.mp (List.mem_of_getElem? hj)).2⟩
theorem free_every {a n b : Int} (h : RowOk a n b) (x : Int) : freeD (cyn n (yrs a n b ++ oths a n b)) x = none := by
  have h0 := h.n0
  unfold freeD
  rw [Option.map_eq_none_iff, List.find?_eq_none]
  intro i _
  rw [cyn_hit]
  have := every_all (a := a) (b := b) ((x + i) % n) (Int.emod_nonneg _ (show n ≠ 0 by omega)) (Int.emod_lt_of_pos _ (by omega))
  simp [this]
theorem v_law_ratio (k : Nat) (t b : Int) (st : Store) (ht : 0 ≤ t) (hb : 0 < b) (h2 : b < 1200) : fns T (k + 2) i__law_ratio [Z t, Z b] st = some (P (Rat.divInt t b), st) := by
  rw [s__law_ratio]
  have e0 := v_law_gcd k t b st ht (by omega) h2
  have g1 := gcd_le (t := t) (b := b) (by omega)
  have hB : b.natAbs < BIG := lt_big (Nat.lt_of_lt_of_le (show b.natAbs < 1200 by omega) (by decide +kernel))
  have e1 : binD .FloorDiv (.int t) (.int (Int.gcd t b)) = some (.int (t / (Int.gcd t b : Int))) := div_i (gcd_pos (by omega)) (by omega)
  have e2 : binD .FloorDiv (.int b) (.int (Int.gcd t b)) = some (.int (b / (Int.gcd t b : Int))) := div_i (gcd_pos (by omega)) (by omega)
  have e3 : binD .Mult (.int (Int.gcd t b)) (.int 1) = some (.int (Int.gcd t b)) := by
    rw [mul_i (mulOk_r (by decide)), Int.mul_one]
  simp [runF, f__law_ratio, slots, rdRaw, rdVar, fin, okN, e0, e1, e2, e3, hb, pr, RT.cut_num t b hb, RT.cut_den t b hb, sizeLine]
end WM.K88
namespace WM.K88
open PySem PySem.Spec PyProof.Rows L2 RT
theorem isnn_opI (o : Option Int) : cmpD .IsNot (opI o) .none = some o.isSome := by
  cases o <;> rfl
theorem cyn_D (n : Int) (ys : List Int) : (cyn n ys).map cyD = ys.map fun y => PyData.tuple [.int n, .int y] := by
  unfold cyn
  rw [List.map_map]
  rfl
theorem cb_bd {a n b y : Int} (h : RowOk a n b) (ha : a ≤ 12) (h1 : -10000 ≤ y) (h2 : y ≤ 10000) : -10 ^ 6 ≤ cb a n b y ∧ cb a n b y ≤ 10 ^ 6 := by
  obtain ⟨q1, q2, q3, q4, q5, q6⟩ := h
  have s1 : a * y ≤ a * 10000 := Int.mul_le_mul_of_nonneg_left h2 q3
  have s2 : a * -10000 ≤ a * y := Int.mul_le_mul_of_nonneg_left h1 q3
  unfold cb
  constructor
  · refine Int.le_ediv_of_mul_le (by omega) ?_
    omega
  · refine Int.ediv_le_of_le_mul (by omega) ?_
    omega
theorem free_is {a n b : Int} (h : RowOk a n b) (ha : a ≤ 12) (x : Int) : (freeD (ycs a n b) x).isNone = decide (a = n) := by
  have := h.a1
  by_cases c : a = n
  · subst c
    rw [free_full h]
    simp
  · obtain ⟨f, e, _⟩ := free_less h (by omega) ha x
    rw [e]
    simp [c]
theorem lk_pr (q : Rat) : Lk 1 (pr q) := lk_tuple fun x hx => by
  simp only [List.mem_cons, List.not_mem_nil, or_false] at hx
  rcases hx with rfl | rfl <;> exact lk_int 0 _
theorem c1_cyc (k : Nat) (a n b : Int) (st : Store) (h : RowOk a n b) (w0 w1 w3 w4 w5 w6 w7 w8 w9 w10 w11 w12 w14 w15 : Option W) : runE (fns T k) c1__law_cycles_right [w0, w1, some (Li ((yrs a n b).map PyData.int)), w3, w4, w5, w6, w7, w8, w9, w10, w11, w12, some (Z n), w14, w15] st = some (Li ((cyn n (oths a n b)).map cyD), st) := by
  have q2 := h.n0
  have q3 := h.n1
  have hs : sizeLine = 16777216 := sizeLine_eq
  unfold c1__law_cycles_right oths
  rw [cyn_D]
  refine run_comp_fm (iv 0 n.toNat) PyData.int (fun y => !decide (y ∈ yrs a n b)) _ (runI_rng1 (by simp [rdVar]) (by omega) (by omega)) (by rw [iv_len]; omega) fun v hv => ⟨_, rfl, ?_, fun _ => by simp [rdVar, sizeLine]⟩
  simp [rdVar, notin_ints]
theorem like_told (k : Nat) (i : Int) (p q : Rat) (c : Bool) (st : Store) : fns T (k + 4) i__law_like [Li [.int i, .bool true, pr p, pr q, .bool c], Li [.int i, .bool true, pr p, pr q, .bool c]] st = some (Bl true, st) := by
  refine v_law_like 2 k _ st (lk_list fun d hd => ?_)
  simp only [List.mem_cons, List.not_mem_nil, or_false] at hd
  rcases hd with rfl | rfl | rfl | rfl | rfl
  · exact lk_int 1 _
  · exact lk_bool 1 _
  · exact lk_pr _
  · exact lk_pr _
  · exact lk_bool 1 _
theorem v_cycles_right (k : Nat) (a n b x y : Int) (st : Store) (h : RowOk a n b) (ha : 1 ≤ a) : ∃ x' y', fns T (k + 8) i__law_cycles_right [.m 0, .d (rwD a n b)] (cup x y :: st) = some (Bl true, cup x' y' :: st) := by
  rw [s__law_cycles_right]
  have q1 := h.a1
  have q2 := h.n0
  have q3 := h.n1
  have hl := yrs_len h
  have hs : sizeLine = 16777216 := sizeLine_eq
  have ey := v_law_years (k + 5) a n b (cup x y :: st) h
  by_cases c12 : 12 < a
  · refine ⟨x, y, ?_⟩
    unfold rwD at *
    simp [runF, f__law_cycles_right, slots, rdRaw, rdVar, fin, okN, ey, c12]
  obtain ⟨r1, x1, y1, e1, l1, u1⟩ := v_roll (k + 6) 2000 x y st (by omega) (by omega)
  obtain ⟨lo, rfl⟩ : ∃ lo, r1 = lo + 1000 := ⟨r1 - 1000, by omega⟩
  obtain ⟨r2, x2, y2, e2, l2, u2⟩ := v_roll (k + 6) 3000 x1 y1 st (by omega) (by omega)
  obtain ⟨m, rfl⟩ := Int.eq_ofNat_of_zero_le l2
  have hc : runE (fns T (k + 7)) c0__law_cycles_right [some (.m 0), some (.d (rwD a n b)), some (Li ((yrs a n b).map PyData.int)), none, none, none, none, none, none, none, none, none, some (Z a), some (Z n), some (Z b), none] (cup x y :: st) = some (Li ((ycs a n b).map cyD), cup x y :: st) := by
    unfold c0__law_cycles_right ycs
    rw [cyn_D]
    refine run_comp_map (yrs a n b) PyData.int _ (runI_val (x := .list ((yrs a n b).map PyData.int)) (by simp [rdVar]) rfl) (by omega) fun v hv => ⟨_, rfl, ?_⟩
    simp [rdVar, sizeLine]
  have cyB : ∀ c ∈ ycs a n b, CyB c := cyn_b q2 q3 (yrs_rg h)
  have cyl : (ycs a n b).length ≤ 12 := by
    have := cyn_len n (yrs a n b)
    unfold ycs
    omega
  have cyne : ycs a n b ≠ [] := fun c => by
    have := cyn_len n (yrs a n b)
    unfold ycs at c
    rw [c] at this
    simp at this
    omega
  have t1 := v_count_struck (k + 1) (ycs a n b) lo m (cup x2 y2 :: st) cyB cyl (by omega) (by omega)
  rw [ycs_stk h] at t1
  have t2 := v_are_apart (k + 2) (ycs a n b) (cup x2 y2 :: st) cyB cyl (cyn_apart q2 (yrs_nd a n b) (yrs_rg h))
  have t3 := v_struck_share (k + 2) (ycs a n b) (cup x2 y2 :: st) cyB cyl
  rw [ycs_share h ha] at t3
  have t4 := v_sum_of_shares (k + 2) (ycs a n b) (cup x2 y2 :: st) cyB cyl
  rw [ycs_shr h] at t4
  have t5 := v_do_cover (k + 2) (ycs a n b) (cup x2 y2 :: st) cyB cyl
  rw [free_is h (by omega)] at t5
  have t6 := v_leaps_between (k + 3) a n b lo (lo + m) (cup x2 y2 :: st) h (by omega) (by omega) (by omega)
  have t7 := v_law_ratio (k + 5) a n (cup x2 y2 :: st) (by omega) (by omega) (by omega)
  have t8 := like_told (k + 3) (cb a n b (lo + m) - cb a n b lo) (Rat.divInt a n) (Rat.divInt a n) (decide (a = n)) (cup x2 y2 :: st)
  have lo1 : -1000 ≤ lo := by omega
  have lo2 : lo ≤ 1000 := by omega
  obtain ⟨bd1, bd2⟩ := cb_bd (y := lo) h (by omega) (by omega) (by omega)
  have t9 := v_next_struck (k + 2) (ycs a n b) lo (cup x2 y2 :: st) cyB cyl cyne (by omega) (by omega)
  rw [next_lyr h ha] at t9
  have t10 := v_leap_year (k + 3) a n b (cb a n b lo) (cup x2 y2 :: st) h ha bd1 bd2
  have t11 := like_i (k + 5) (lyr a n b (cb a n b lo)) (cup x2 y2 :: st)
  have t12 := v_next_free (k + 2) (ycs a n b) lo (cup x2 y2 :: st) cyB cyl (by omega) (by omega)
  obtain ⟨r3, x3, y3, e3, l3, u3⟩ := v_roll (k + 6) 1000 x2 y2 st (by omega) (by omega)
  have hi2 : -1000 ≤ lo := lo1
  have z0 := cb_zero h
  have bT : ∀ cs : List D, bltD .tuple [.list cs] = some (.tuple cs) := fun _ => rfl
  have tail : 12 < n ∨ n ≤ 12 := by omega
  have evl := every_len h
  have evB : ∀ c ∈ cyn n (yrs a n b ++ oths a n b), CyB c := cyn_b q2 q3 (every_rg h)
  have evL : n ≤ 12 → (cyn n (yrs a n b ++ oths a n b)).length ≤ 12 := fun q => by
    rw [cyn_len]
    omega
  have cat : binD .Add (.tuple ((ycs a n b).map cyD)) (.tuple ((cyn n (oths a n b)).map cyD)) = some (.tuple ((cyn n (yrs a n b ++ oths a n b)).map cyD)) := by
    have e : (cyn n (yrs a n b ++ oths a n b)).map cyD = (ycs a n b).map cyD ++ (cyn n (oths a n b)).map cyD := by
      unfold ycs cyn
      rw [List.map_append, List.map_append]
    rw [e]
    refine cat_t _ _ ?_
    rw [List.length_append] at evl
    rw [List.length_map, List.length_map, cyn_len, hs]
    omega
  have t13 : n ≤ 12 → fns T (k + 7) i_do_cover [Tu ((cyn n (yrs a n b ++ oths a n b)).map cyD)] (cup x3 y3 :: st) = some (Bl true, cup x3 y3 :: st) := fun q => by
    rw [v_do_cover (k + 2) _ _ evB (evL q), free_every h]
    rfl
  have t14 : n ≤ 12 → fns T (k + 7) i_are_apart [Tu ((cyn n (yrs a n b ++ oths a n b)).map cyD)] (cup x3 y3 :: st) = some (Bl true, cup x3 y3 :: st) := fun q => v_are_apart (k + 2) _ _ evB (evL q) (cyn_apart q2 (every_nd a n b) (every_rg h))
  obtain ⟨j, hj, hja⟩ := every_by h r3
  have t15 : n ≤ 12 → fns T (k + 7) i_struck_by [Tu ((cyn n (yrs a n b ++ oths a n b)).map cyD), Z r3] (cup x3 y3 :: st) = some (Tu [.int (j : Int)], cup x3 y3 :: st) := fun q => by
    rw [v_struck_by (k + 2) _ _ _ evB (evL q) (by omega) (by omega), cyn_by (every_nd a n b) hj]
  have t16 := v_is_leap (k + 3) a n b r3 (cup x3 y3 :: st) h (by omega) (by omega)
  rw [← hja] at t16
  have t17 : bltD .len [.tuple [.int (j : Int)]] = some (.int 1) := rfl
  have t18 : ixD (.tuple [.int (j : Int)]) (.int 0) = some (.int (j : Int)) := rfl
  have c1 := fun st => c1_cyc (k + 7) a n b st h
  have t19 := v_law_others (k + 6) a n b (cup x2 y2 :: st)
  generalize (j : Int) = J at *
  generalize (cyn n (yrs a n b ++ oths a n b)).map cyD = EV at *
  generalize (cyn n (oths a n b)).map cyD = OT at *
  generalize (ycs a n b).map cyD = CY at *
  have hcnt : ∃ cc : Int, (0 ≤ lo → fns T (k + 7) i_leaps_between [.d (rwD a n b), Z 0, Z lo] (cup x2 y2 :: st) = some (Z (cb a n b lo), cup x2 y2 :: st)) := ⟨0, fun q => by
    rw [v_leaps_between (k + 3) a n b 0 lo _ h (by omega) q (by omega), z0, Int.sub_zero]⟩
  obtain ⟨_, p13⟩ := hcnt
  have m13 : ¬ 0 ≤ lo → fns T (k + 7) i_leaps_between [.d (rwD a n b), Z lo, Z 0] (cup x2 y2 :: st) = some (Z (-cb a n b lo), cup x2 y2 :: st) := fun q => by
    rw [v_leaps_between (k + 3) a n b lo 0 _ h (by omega) (by omega) (by omega), z0, Int.zero_sub]
  rcases Int.lt_or_le a n with c | c
  · obtain ⟨f, f1, f2, f3, f4, f5⟩ := free_less h c (by omega) lo
    rw [f1] at t12
    have t12 : fns T (k + 7) i_next_free [Tu CY, Z lo] (cup x2 y2 :: st) = some (Z f, cup x2 y2 :: st) := t12
    have t20 := v_is_leap (k + 3) (n - a) n (n - 1 - b) f (cup x2 y2 :: st) (oth_ok h) (by omega) (by omega)
    rw [lt1_oth h, f4] at t20
    have t21 := v_leaps_between (k + 3) a n b lo f (cup x2 y2 :: st) h (by omega) (by omega) (by omega)
    rw [f5] at t21
    have cne : ¬ a = n := by omega
    have dne : decide (a = n) = false := by simp [cne]
    rw [dne] at t5 t8
    generalize (yrs a n b).map PyData.int = Y at *
    generalize cb a n b lo = C at *
    generalize cb a n b (lo + m) - C = DD at *
    generalize lyr a n b C = L at *
    have t23 : cmpD .IsNot (.int f) .none = some true := rfl
    have t22 : cmpD .Is (.int f) .none = some false := rfl
    generalize rwD (n - a) n (n - 1 - b) = RO at *
    unfold rwD at *
    rcases tail with cn | cn
    · refine ⟨x2, y2, ?_⟩
      rcases Int.lt_or_le lo 0 with cl | cl
      · have m13' := m13 (by omega)
        have cl' : ¬ 0 ≤ lo := by omega
        simp [runF, f__law_cycles_right, slots, rdRaw, rdVar, fin, okN, sizeLine, ixW, bltW, ey, c12, hc, bT, e1, e2, t1, t2, t3, t4, t5, t6, t7, t8, t9, t10, t11, t12, m13', cl', t19, t20, t21, t22, t23, cn, cne]
      · have p13' := p13 cl
        simp [runF, f__law_cycles_right, slots, rdRaw, rdVar, fin, okN, sizeLine, ixW, bltW, ey, c12, hc, bT, e1, e2, t1, t2, t3, t4, t5, t6, t7, t8, t9, t10, t11, t12, p13', cl, t19, t20, t21, t22, t23, cn, cne]
    · refine ⟨x3, y3, ?_⟩
      have cn' : ¬ 12 < n := by omega
      have t13 := t13 cn
      have t14 := t14 cn
      have t15 := t15 cn
      rcases Int.lt_or_le lo 0 with cl | cl
      · have m13' := m13 (by omega)
        have cl' : ¬ 0 ≤ lo := by omega
        simp [runF, f__law_cycles_right, slots, rdRaw, rdVar, fin, okN, sizeLine, ixW, bltW, ey, c12, hc, bT, e1, e2, t1, t2, t3, t4, t5, t6, t7, t8, t9, t10, t11, t12, m13', cl', t19, t20, t21, t22, t23, cn', cne, c1, cat, e3, t13, t14, t15, t16, t17, t18]
      · have p13' := p13 cl
        simp [runF, f__law_cycles_right, slots, rdRaw, rdVar, fin, okN, sizeLine, ixW, bltW, ey, c12, hc, bT, e1, e2, t1, t2, t3, t4, t5, t6, t7, t8, t9, t10, t11, t12, p13', cl, t19, t20, t21, t22, t23, cn', cne, c1, cat, e3, t13, t14, t15, t16, t17, t18]
  · have ae : a = n := by omega
    have hf : freeD (ycs a n b) lo = none := by
      have := free_is h (by omega) lo
      rw [decide_eq_true ae] at this
      exact Option.isNone_iff_eq_none.mp this
    rw [hf] at t12
    have t12 : fns T (k + 7) i_next_free [Tu CY, Z lo] (cup x2 y2 :: st) = some (No, cup x2 y2 :: st) := t12
    rw [decide_eq_true ae] at t5 t8
    subst ae
    generalize (yrs a a b).map PyData.int = Y at *
    generalize cb a a b lo = C at *
    generalize cb a a b (lo + m) - C = DD at *
    generalize lyr a a b C = L at *
    have t23 : cmpD .IsNot .none .none = some false := rfl
    have t22 : cmpD .Is .none .none = some true := rfl
    generalize rwD (a - a) a (a - 1 - b) = RO at *
    unfold rwD at *
    rcases tail with cn | cn
    · omega
    · refine ⟨x3, y3, ?_⟩
      have cn' : ¬ 12 < a := by omega
      have t13 := t13 cn
      have t14 := t14 cn
      have t15 := t15 cn
      rcases Int.lt_or_le lo 0 with cl | cl
      · have m13' := m13 (by omega)
        have cl' : ¬ 0 ≤ lo := by omega
        simp [runF, f__law_cycles_right, slots, rdRaw, rdVar, fin, okN, sizeLine, ixW, bltW, ey, c12, hc, bT, e1, e2, t1, t2, t3, t4, t5, t6, t7, t8, t9, t10, t11, t12, m13', cl', t22, t23, cn', c1, cat, e3, t13, t14, t15, t16, t17, t18]
      · have p13' := p13 cl
        simp [runF, f__law_cycles_right, slots, rdRaw, rdVar, fin, okN, sizeLine, ixW, bltW, ey, c12, hc, bT, e1, e2, t1, t2, t3, t4, t5, t6, t7, t8, t9, t10, t11, t12, p13', cl, t22, t23, cn', c1, cat, e3, t13, t14, t15, t16, t17, t18]
end WM.K88
namespace WM.K88
open PySem PySem.Spec PyProof.Rows L2 RT
theorem mt2 {c d : Cyc} (hg : Int.gcd c.1 d.1 = 1) (h1 : CyOk c) (h2 : CyOk d) : ∃ r, mtg [c, d] = some (c.1 * d.1, r) := by
  have e1 : metO (some (1, 0)) c = some (lcmI 1 c.1, metR 1 0 c.1 c.2) := by
    unfold metO
    simp only
    rw [if_pos (by simp)]
  have e2 : lcmI 1 c.1 = c.1 := by simp [lcmI]
  have e3 : lcmI c.1 d.1 = c.1 * d.1 := by simp [lcmI, hg]
  rw [e2] at e1
  have e4 : ∀ s, metO (some (c.1, s)) d = some (c.1 * d.1, metR c.1 s d.1 d.2) := fun s => by
    unfold metO
    simp only
    rw [if_pos (by rw [hg]; simp), e3]
  have e5 : mtg [c, d] = metO (metO (some (1, 0)) c) d := rfl
  rw [e5, e1, e4]
  exact ⟨_, rfl⟩
theorem cnt_one {e r : Int} (h : CyOk (e, r)) (lo : Int) : cntO (some (e, r)) lo e.toNat = 1 := by
  have h0 : 0 < e := h.e0
  rw [← cnt_div h0 h.r0 h.r1]
  have e1 : lo + (e.toNat : Int) - 1 - r = (lo - 1 - r) + e * 1 := by omega
  rw [e1, Int.add_mul_ediv_left _ _ (by omega)]
  show (lo - 1 - r) / e + 1 - (lo - 1 - r) / e = 1
  omega
/-- the next meeting of two -/
def nm (lo n1 n2 y1 y2 : Int) : Int := match mtg [(n1, y1), (n2, y2)] with
  | none => 0
  | some c => lo + (c.2 - lo) % c.1
theorem nm_ok {lo n1 n2 y1 y2 : Int} (hg : Int.gcd n1 n2 = 1) (h1 : CyOk (n1, y1)) (h2 : CyOk (n2, y2)) : lo ≤ nm lo n1 n2 y1 y2 ∧ nm lo n1 n2 y1 y2 < lo + n1 * n2 ∧ nm lo n1 n2 y1 y2 % n1 = y1 ∧ nm lo n1 n2 y1 y2 % n2 = y2 ∧ ∀ x, lo ≤ x → x % n1 = y1 → x % n2 = y2 → nm lo n1 n2 y1 y2 ≤ x := by
  obtain ⟨r, hr⟩ := mt2 (c := (n1, y1)) (d := (n2, y2)) hg h1 h2
  have hc : ∀ c ∈ [(n1, y1), (n2, y2)], CyOk c := by
    intro c hc
    simp only [List.mem_cons, List.not_mem_nil, or_false] at hc
    rcases hc with rfl | rfl
    · exact h1
    · exact h2
  have ho := mtg_ok hc _ hr
  have hh : ∀ x, hit (n1 * n2, r) x = (hit (n1, y1) x && hit (n2, y2) x) := fun x => by
    have := mtg_hit hc x
    rw [hr] at this
    simpa [hitO] using this
  have e : nm lo n1 n2 y1 y2 = lo + (r - lo) % (n1 * n2) := by
    unfold nm
    rw [hr]
  have q0 : 0 < n1 * n2 := ho.e0
  have q1 : 0 ≤ r := ho.r0
  have q2 : r < n1 * n2 := ho.r1
  rw [e]
  unfold hit at hh
  simp only at hh
  generalize n1 * n2 = N at *
  have m0 := Int.emod_nonneg (r - lo) (show N ≠ 0 by omega)
  have m1 := Int.emod_lt_of_pos (r - lo) q0
  have md := Int.emod_add_mul_ediv (r - lo) N
  have hv : (lo + (r - lo) % N) % N = r := by
    refine emod_of (q := -((r - lo) / N)) ?_ q1 q2
    rw [Int.mul_neg]
    omega
  have hb := hh (lo + (r - lo) % N)
  rw [decide_eq_true hv, eq_comm, Bool.and_eq_true, decide_eq_true_eq, decide_eq_true_eq] at hb
  refine ⟨by omega, by omega, hb.1, hb.2, fun x hx e1 e2 => ?_⟩
  have hx2 := hh x
  rw [decide_eq_true e1, decide_eq_true e2] at hx2
  have hx3 : x % N = r := by simpa using hx2
  have ud := Int.emod_add_mul_ediv x N
  have e4 : (r - lo) % N = (x - lo) % N := by
    rw [show r - lo = (x - lo) + N * -(x / N) by rw [Int.mul_neg]; omega, Int.add_mul_emod_self_left]
  rw [e4]
  have md2 := Int.emod_add_mul_ediv (x - lo) N
  have : 0 ≤ (x - lo) / N := Int.ediv_nonneg (by omega) (by omega)
  have : 0 ≤ N * ((x - lo) / N) := Int.mul_nonneg (by omega) this
  omega
theorem hit_sum {n x : Int} : ∀ {ys : List Int}, ys.Nodup → ls (fun y => b1 (hit (n, y) x)) ys = b1 (decide (x % n ∈ ys))
  | [], _ => by simp [ls, b1]
  | y :: ys, h => by
    obtain ⟨h1, h2⟩ := List.nodup_cons.mp h
    rw [ls_cons, hit_sum h2]
    unfold hit
    by_cases c : x % n = y
    · simp [c, h1, b1]
    · simp [c, b1]
theorem b1_and (p q : Bool) : b1 (p && q) = b1 p * b1 q := by cases p <;> cases q <;> rfl
theorem hits_sum : ∀ (cs : List Cyc) (x : Int), (hits cs x : Int) = ls (fun c => b1 (hit c x)) cs := by
  intro cs x
  refine snoc_ind (P := fun cs => (hits cs x : Int) = ls (fun c => b1 (hit c x)) cs) rfl (fun l c ih => ?_) cs
  rw [hits_snoc, ls_append, ls_cons, ls_nil, ← ih]
  unfold b1
  split <;> simp
theorem hits_two {a n b a' n' b' : Int} (h : RowOk a n b) (h' : RowOk a' n' b') (x : Int) : (hits (ycs a n b ++ ycs a' n' b') x : Int) = b1 (lt1 a n b x) + b1 (lt1 a' n' b' x) := by
  rw [hits_sum, ls_append]
  unfold ycs cyn
  rw [ls_map, ls_map, hit_sum (yrs_nd _ _ _), hit_sum (yrs_nd _ _ _), lt1_mod h, lt1_mod h']
theorem ls_one {α : Type} (c : Int) : ∀ l : List α, ls (fun _ => c) l = l.length * c
  | [] => by simp [ls]
  | a :: l => by
    rw [ls_cons, ls_one c l, List.length_cons]
    rw [show ((l.length + 1 : Nat) : Int) = (l.length : Int) + 1 by omega, Int.add_mul, Int.one_mul, Int.add_comm]
/-- as many common years as the product says -/
theorem both_sum {a n b a' n' b' : Int} (h : RowOk a n b) (h' : RowOk a' n' b') (hg : Int.gcd n n' = 1) (lo : Int) : sm (fun i => b1 (lt1 a n b (lo + (i : Int))) * b1 (lt1 a' n' b' (lo + (i : Int)))) (n * n').toNat = a * a' := by
  have e1 : ∀ x, b1 (lt1 a n b x) * b1 (lt1 a' n' b' x) = ls (fun y => ls (fun z => b1 (hitO (mtg [(n, y), (n', z)]) x)) (yrs a' n' b')) (yrs a n b) := fun x => by
    have s1 : ∀ y ∈ yrs a n b, ls (fun z => b1 (hitO (mtg [(n, y), (n', z)]) x)) (yrs a' n' b') = b1 (lt1 a' n' b' x) * b1 (hit (n, y) x) := fun y hy => by
      rw [← lt1_mod h', ← hit_sum (yrs_nd _ _ _), Int.mul_comm, ← ls_mul]
      refine ls_congr fun z hz => ?_
      rw [mtg_hit (cs := [(n, y), (n', z)]) (fun c hc => by
        simp only [List.mem_cons, List.not_mem_nil, or_false] at hc
        rcases hc with rfl | rfl
        · exact ⟨by have := h.n0; show 0 < n; omega, (yrs_rg h y hy).1, (yrs_rg h y hy).2⟩
        · exact ⟨by have := h'.n0; show 0 < n'; omega, (yrs_rg h' z hz).1, (yrs_rg h' z hz).2⟩), ← b1_and]
      simp
    rw [ls_congr s1, ls_mul, hit_sum (yrs_nd _ _ _), lt1_mod h, Int.mul_comm]
  have e2 : sm (fun i => b1 (lt1 a n b (lo + (i : Int))) * b1 (lt1 a' n' b' (lo + (i : Int)))) (n * n').toNat = sm (fun i => ls (fun y => ls (fun z => b1 (hitO (mtg [(n, y), (n', z)]) (lo + (i : Int)))) (yrs a' n' b')) (yrs a n b)) (n * n').toNat := sm_congr fun i _ => e1 _
  rw [e2, ← ls_sm (fun y i => ls (fun z => b1 (hitO (mtg [(n, y), (n', z)]) (lo + (i : Int)))) (yrs a' n' b'))]
  have e3 : ∀ y ∈ yrs a n b, sm (fun i => ls (fun z => b1 (hitO (mtg [(n, y), (n', z)]) (lo + (i : Int)))) (yrs a' n' b')) (n * n').toNat = a' := fun y hy => by
    rw [← ls_sm (fun z i => b1 (hitO (mtg [(n, y), (n', z)]) (lo + (i : Int))))]
    have e4 : ∀ z ∈ yrs a' n' b', sm (fun i => b1 (hitO (mtg [(n, y), (n', z)]) (lo + (i : Int)))) (n * n').toNat = 1 := fun z hz => by
      have o1 : CyOk (n, y) := ⟨by have := h.n0; show 0 < n; omega, (yrs_rg h y hy).1, (yrs_rg h y hy).2⟩
      have o2 : CyOk (n', z) := ⟨by have := h'.n0; show 0 < n'; omega, (yrs_rg h' z hz).1, (yrs_rg h' z hz).2⟩
      obtain ⟨r, hr⟩ := mt2 (c := (n, y)) (d := (n', z)) hg o1 o2
      have ho := mtg_ok (cs := [(n, y), (n', z)]) (fun c hc => by
        simp only [List.mem_cons, List.not_mem_nil, or_false] at hc
        rcases hc with rfl | rfl
        · exact o1
        · exact o2) _ hr
      rw [hr]
      exact cnt_one ho lo
    rw [ls_congr e4, ls_one, yrs_len h', Int.mul_one]
  rw [ls_congr e3, ls_one, yrs_len h]
end WM.K88
namespace WM.K88
open PySem PySem.Spec PyProof.Rows L2 RT
theorem cb_whole {a n b : Int} (h : RowOk a n b) (lo : Int) {q : Int} (hq : 0 ≤ q) : sm (fun i => b1 (lt1 a n b (lo + (i : Int)))) (n * q).toNat = a * q := by
  have h0 := h.n0
  rw [cb_sum h]
  have : 0 ≤ n * q := Int.mul_nonneg (by omega) hq
  rw [show lo + ((n * q).toNat : Int) = lo + n * q by omega, cb_turn h]
  omega
theorem two_cnt {a n b a' n' b' : Int} (h : RowOk a n b) (h' : RowOk a' n' b') (hg : Int.gcd n n' = 1) (lo : Int) :
    cntW (ycs a n b ++ ycs a' n' b') 2 lo (n * n').toNat = a * a' ∧ cntW (ycs a n b ++ ycs a' n' b') 0 lo (n * n').toNat = (n - a) * (n' - a') ∧ cntW (ycs a n b ++ ycs a' n' b') 1 lo (n * n').toNat = n * n' - a * a' - (n - a) * (n' - a') := by
  have h0 := h.n0
  have h1 := h'.n0
  have hb := both_sum h h' hg lo
  have s1 := cb_whole h lo (q := n') (by omega)
  have s2 := cb_whole h' lo (q := n) (by omega)
  rw [Int.mul_comm n' n] at s2
  have N0 : 0 ≤ n * n' := Int.mul_nonneg (by omega) (by omega)
  have ht := fun x => hits_two h h' x
  have e2 : cntW (ycs a n b ++ ycs a' n' b') 2 lo (n * n').toNat = a * a' := by
    rw [← hb]
    refine sm_congr fun i _ => ?_
    have := ht (lo + (i : Int))
    generalize lt1 a n b (lo + (i : Int)) = p at *
    generalize lt1 a' n' b' (lo + (i : Int)) = q at *
    cases p <;> cases q <;> simp only [b1_t, b1_f] at * <;> split <;> omega
  have e0 : cntW (ycs a n b ++ ycs a' n' b') 0 lo (n * n').toNat = (n - a) * (n' - a') := by
    have : cntW (ycs a n b ++ ycs a' n' b') 0 lo (n * n').toNat = sm (fun i => (1 + -1 * b1 (lt1 a n b (lo + (i : Int)))) + (-1 * b1 (lt1 a' n' b' (lo + (i : Int))) + b1 (lt1 a n b (lo + (i : Int))) * b1 (lt1 a' n' b' (lo + (i : Int))))) (n * n').toNat := by
      refine sm_congr fun i _ => ?_
      have := ht (lo + (i : Int))
      generalize lt1 a n b (lo + (i : Int)) = p at *
      generalize lt1 a' n' b' (lo + (i : Int)) = q at *
      cases p <;> cases q <;> simp only [b1_t, b1_f] at * <;> split <;> omega
    rw [this, sm_add, sm_add, sm_add, sm_mul, sm_mul, sm_const, s1, s2, hb, Int.sub_mul, Int.mul_sub, Int.mul_sub]
    have := Int.mul_comm a' n
    omega
  have e1 : cntW (ycs a n b ++ ycs a' n' b') 0 lo (n * n').toNat + (cntW (ycs a n b ++ ycs a' n' b') 1 lo (n * n').toNat + cntW (ycs a n b ++ ycs a' n' b') 2 lo (n * n').toNat) = n * n' := by
    unfold cntW
    rw [← sm_add, ← sm_add]
    have : sm (fun i => (if hits (ycs a n b ++ ycs a' n' b') (lo + (i : Int)) = 0 then (1 : Int) else 0) + ((if hits (ycs a n b ++ ycs a' n' b') (lo + (i : Int)) = 1 then 1 else 0) + (if hits (ycs a n b ++ ycs a' n' b') (lo + (i : Int)) = 2 then 1 else 0))) (n * n').toNat = sm (fun _ => 1) (n * n').toNat := by
      refine sm_congr fun i _ => ?_
      have := ht (lo + (i : Int))
      have b3 := b1_nn (lt1 a n b (lo + (i : Int)))
      have b4 := b1_nn (lt1 a' n' b' (lo + (i : Int)))
      have b5 := b1_le (lt1 a n b (lo + (i : Int)))
      have b6 := b1_le (lt1 a' n' b' (lo + (i : Int)))
      generalize hits (ycs a n b ++ ycs a' n' b') (lo + (i : Int)) = H at *
      have : H = 0 ∨ H = 1 ∨ H = 2 := by omega
      rcases this with rfl | rfl | rfl <;> rfl
    rw [this, sm_const]
    omega
  exact ⟨e2, e0, by omega⟩
/-- all meetings -/
def mts (lo n n' : Int) (Y Y' : List Int) : List Int := Y.flatMap fun y => Y'.map fun z => nm lo n n' y z
theorem mts_mem {lo n n' v : Int} {Y Y' : List Int} : v ∈ mts lo n n' Y Y' ↔ ∃ y ∈ Y, ∃ z ∈ Y', v = nm lo n n' y z := by
  unfold mts
  simp only [List.mem_flatMap, List.mem_map]
  constructor
  · rintro ⟨y, hy, z, hz, rfl⟩; exact ⟨y, hy, z, hz, rfl⟩
  · rintro ⟨y, hy, z, hz, rfl⟩; exact ⟨y, hy, z, hz, rfl⟩
theorem mts_len (lo n n' : Int) (Y' : List Int) : ∀ Y : List Int, ((mts lo n n' Y Y').length : Int) = Y.length * Y'.length
  | [] => by simp [mts]
  | y :: Y => by
    have := mts_len lo n n' Y' Y
    unfold mts at *
    rw [List.flatMap_cons, List.length_append, List.length_map, List.length_cons]
    rw [show ((Y.length + 1 : Nat) : Int) = (Y.length : Int) + 1 by omega, Int.add_mul, Int.one_mul]
    omega
theorem mts_nd {lo n n' : Int} {Y' : List Int} (hg : Int.gcd n n' = 1) (n0 : 1 ≤ n) (n0' : 1 ≤ n') (h' : ∀ z ∈ Y', 0 ≤ z ∧ z < n') (d' : Y'.Nodup) : ∀ {Y : List Int}, (∀ z ∈ Y, 0 ≤ z ∧ z < n) → Y.Nodup → (mts lo n n' Y Y').Nodup
  | [], _, _ => by simp [mts]
  | y :: Y, h, d => by
    obtain ⟨d1, d2⟩ := List.nodup_cons.mp d
    have ih := mts_nd (lo := lo) hg n0 n0' h' d' (fun z hz => h z (List.mem_cons_of_mem _ hz)) d2
    have ok : ∀ {y z : Int}, 0 ≤ y ∧ y < n → 0 ≤ z ∧ z < n' → nm lo n n' y z % n = y ∧ nm lo n n' y z % n' = z := fun {y z} q1 q2 => by
      have := nm_ok (lo := lo) (n1 := n) (n2 := n') (y1 := y) (y2 := z) hg ⟨by show 0 < n; omega, q1.1, q1.2⟩ ⟨by show 0 < n'; omega, q2.1, q2.2⟩
      exact ⟨this.2.2.1, this.2.2.2.1⟩
    have e : mts lo n n' (y :: Y) Y' = (Y'.map fun z => nm lo n n' y z) ++ mts lo n n' Y Y' := by
      unfold mts
      rw [List.flatMap_cons]
    have hy := h y (List.mem_cons_self ..)
    rw [e]
    refine List.nodup_append.mpr ⟨?_, ih, fun u hu v hv c => ?_⟩
    · refine List.pairwise_map.mpr (List.Pairwise.imp_of_mem (fun {p q} hp hq hpq c => ?_) d')
      have c1 := (ok hy (h' p hp)).2
      have c2 := (ok hy (h' q hq)).2
      rw [c] at c1
      exact hpq (c1.symm.trans c2)
    · subst c
      obtain ⟨z, hz, rfl⟩ := List.mem_map.mp hu
      obtain ⟨y2, hy2, z2, hz2, c⟩ := mts_mem.mp hv
      have c1 := (ok hy (h' z hz)).1
      have c2 := (ok (h y2 (List.mem_cons_of_mem _ hy2)) (h' z2 hz2)).1
      rw [c] at c1
      exact d1 ((c1.symm.trans c2) ▸ hy2)
end WM.K88
namespace WM.K88
open PySem PySem.Spec PyProof.Rows L2 RT
theorem dedup_nd : ∀ (l acc : List Int), (acc ++ l).Nodup → l.foldl step_dedup acc = acc ++ l
  | [], acc, _ => by simp
  | x :: l, acc, h => by
    rw [List.foldl_cons]
    have h2 : acc ++ x :: l = (acc ++ [x]) ++ l := by simp
    have hx : x ∉ acc := fun c => by
      have := List.nodup_append.mp h
      exact this.2.2 x c x (List.mem_cons_self ..) rfl
    have e : step_dedup acc x = acc ++ [x] := by
      unfold step_dedup
      rw [if_neg]
      intro c
      obtain ⟨y, hy, c⟩ := List.any_eq_true.mp c
      rw [eq_of_beq c] at hy
      exact hx hy
    rw [e, h2, dedup_nd l (acc ++ [x]) (by rw [← h2]; exact h)]
theorem setL_nd {ns : List Int} (h : ns.Nodup) : setL ns = ns := by
  unfold setL firstMet
  have e : (List.range ns.length).map (fun i => ns.getD i 0) = ns := by
    apply List.ext_getElem
    · simp
    · intro i h1 h2
      simp
      rw [List.getElem?_eq_getElem h2]
      rfl
  rw [e, dedup_nd ns [] (by simpa using h)]
  rfl
theorem lset_nd {ns : List Int} (h : ns.Nodup) (hl : ns.length < 4000) : lsetD (.list (ns.map PyData.int)) = some (.int (ns.length : Int)) := by
  unfold lsetD
  simp only [asInts_i, if_pos hl, setL_nd h]
theorem v_nm (k : Nat) (lo n n' y z : Int) (st : Store) (hg : Int.gcd n n' = 1) (h1 : CyB (n, y)) (h2 : CyB (n', z)) (l1 : -10 ^ 18 ≤ lo) (l2 : lo ≤ 10 ^ 18) : fns T (k + 5) i_next_meeting [.d (.tuple [.tuple [.int n, .int y], .tuple [.int n', .int z]]), Z lo] st = some (Z (nm lo n n' y z), st) := by
  have := v_next_meeting k [(n, y), (n', z)] lo st (fun c hc => by
    simp only [List.mem_cons, List.not_mem_nil, or_false] at hc
    rcases hc with rfl | rfl
    · exact h1
    · exact h2) (by simp) l1 l2
  obtain ⟨r, hr⟩ := mt2 (c := (n, y)) (d := (n', z)) hg h1.ok h2.ok
  unfold nm
  rw [hr] at this ⊢
  exact this
theorem ix_n (a n b : Int) : ixD (rwD a n b) (.int 1) = some (.int n) := rfl
theorem ix_a (a n b : Int) : ixD (rwD a n b) (.int 0) = some (.int a) := rfl
theorem v_law_meets (k : Nat) (a n b a' n' b' lo : Int) (Y Y' : List Int) (st : Store) (hg : Int.gcd n n' = 1) (h : ∀ y ∈ Y, CyB (n, y)) (h' : ∀ y ∈ Y', CyB (n', y)) (hl : Y.length ≤ 12) (hl' : Y'.length ≤ 12) (l1 : -10 ^ 18 ≤ lo) (l2 : lo ≤ 10 ^ 18) :
    fns T (k + 6) i__law_meets [.d (rwD a n b), .d (rwD a' n' b'), Li (Y.map PyData.int), Li (Y'.map PyData.int), Z lo] st = some (Li ((mts lo n n' Y Y').map PyData.int), st) := by
  rw [s__law_meets]
  have hs : sizeLine = 16777216 := sizeLine_eq
  have hi : runI (fns T (k + 5)) (.val (.var 2)) [some (.d (rwD a n b)), some (.d (rwD a' n' b')), some (Li (Y.map PyData.int)), some (Li (Y'.map PyData.int)), some (Z lo), some (Li []), none, none] st = some (Y.map PyData.int, st) := runI_val (x := .list (Y.map PyData.int)) (by simp [rdVar]) rfl
  obtain ⟨h6, e⟩ := for_done (g := fun d sl => stTg (.v 6) d sl) (b := fun sl st => runSs (fns T (k + 5)) b0__law_meets sl st) PyData.int (fun done (w : Option W) => [some (.d (rwD a n b)), some (.d (rwD a' n' b')), some (Li (Y.map PyData.int)), some (Li (Y'.map PyData.int)), some (Z lo), some (Li ((mts lo n n' done Y').map PyData.int)), w, none]) (fun _ => st) (l := Y) (done := []) (h := none) fun d c r w hd => by
    have hd : Y = d ++ c :: r := hd
    have hc : CyB (n, c) := h c (by rw [hd]; simp)
    have hdl : d.length ≤ 12 := by rw [hd] at hl; simp at hl; omega
    refine ⟨_, some (Z c), rfl, ?_⟩
    have e1 : runE (fns T (k + 5)) c0__law_meets [some (.d (rwD a n b)), some (.d (rwD a' n' b')), some (Li (Y.map PyData.int)), some (Li (Y'.map PyData.int)), some (Z lo), some (Li ((mts lo n n' d Y').map PyData.int)), some (Z c), none] st = some (Li ((Y'.map fun z => nm lo n n' c z).map PyData.int), st) := by
      unfold c0__law_meets
      rw [List.map_map]
      refine run_comp_map Y' PyData.int _ (runI_val (x := .list (Y'.map PyData.int)) (by simp [rdVar]) rfl) (by omega) fun z hz => ⟨_, rfl, ?_⟩
      have e2 := v_nm k lo n n' c z st hg hc (h' z hz) l1 l2
      simp [rdRaw, rdVar, sizeLine, ixW, ix_n, e2]
    have e3 : mts lo n n' (d ++ [c]) Y' = mts lo n n' d Y' ++ Y'.map fun z => nm lo n n' c z := by
      unfold mts
      rw [List.flatMap_append]
      simp
    have ml := mts_len lo n n' Y' d
    have mb : d.length * Y'.length ≤ 12 * 12 := Nat.mul_le_mul hdl hl'
    have mb2 : ((d.length * Y'.length : Nat) : Int) = (d.length : Int) * (Y'.length : Int) := by push_cast; rfl
    have e4 := cat_l ((mts lo n n' d Y').map PyData.int) ((Y'.map fun z => nm lo n n' c z).map PyData.int) (by simp only [List.length_map]; omega)
    rw [e3, List.map_append]
    generalize (mts lo n n' d Y').map PyData.int = M at *
    generalize (Y'.map fun z => nm lo n n' c z).map PyData.int = M' at *
    simp [b0__law_meets, rdVar, e1, e4]
  have e2 : runS (fns T (k + 5)) l0__law_meets [some (.d (rwD a n b)), some (.d (rwD a' n' b')), some (Li (Y.map PyData.int)), some (Li (Y'.map PyData.int)), some (Z lo), some (Li []), none, none] st = some (.nx, [some (.d (rwD a n b)), some (.d (rwD a' n' b')), some (Li (Y.map PyData.int)), some (Li (Y'.map PyData.int)), some (Z lo), some (Li ((mts lo n n' Y Y').map PyData.int)), h6, none], st) := run_for_of hi e
  generalize (mts lo n n' Y Y').map PyData.int = M at *
  generalize Y.map PyData.int = YM at *
  generalize Y'.map PyData.int = YM' at *
  simp [runF, f__law_meets, slots, rdRaw, rdVar, fin, sizeLine, e2]
end WM.K88
namespace WM.K88
open PySem PySem.Spec PyProof.Rows L2 RT
theorem like3i (k : Nat) (x y z : Int) (st : Store) : fns T (k + 3) i__law_like [Li [.int x, .int y, .int z], Li [.int x, .int y, .int z]] st = some (Bl true, st) := by
  refine v_law_like 1 k _ st (lk_list fun d hd => ?_)
  simp only [List.mem_cons, List.not_mem_nil, or_false] at hd
  rcases hd with rfl | rfl | rfl <;> exact lk_int 0 _
theorem c0_two (k : Nat) (a n b : Int) (st : Store) (h : RowOk a n b) (w0 w2 w3 w4 w5 w6 w7 w8 w9 w10 w12 w13 : Option W) : runE (fns T k) c0__law_two_right [w0, some (.d (rwD a n b)), w2, w3, w4, w5, w6, w7, w8, w9, w10, some (Li ((yrs a n b).map PyData.int)), w12, w13] st = some (Li ((ycs a n b).map cyD), st) := by
  have hs : sizeLine = 16777216 := sizeLine_eq
  have hl := yrs_len h
  have := h.a1
  have := h.n1
  unfold c0__law_two_right ycs
  rw [cyn_D]
  refine run_comp_map (yrs a n b) PyData.int _ (runI_val (x := .list ((yrs a n b).map PyData.int)) (by simp [rdVar]) rfl) (by omega) fun v hv => ⟨_, rfl, ?_⟩
  simp [rdRaw, rdVar, sizeLine, ixW, ix_n]
theorem c1_two (k : Nat) (a n b : Int) (st : Store) (h : RowOk a n b) (w0 w1 w3 w4 w5 w6 w7 w8 w9 w10 w11 w13 : Option W) : runE (fns T k) c1__law_two_right [w0, w1, some (.d (rwD a n b)), w3, w4, w5, w6, w7, w8, w9, w10, w11, some (Li ((yrs a n b).map PyData.int)), w13] st = some (Li ((ycs a n b).map cyD), st) := by
  have hs : sizeLine = 16777216 := sizeLine_eq
  have hl := yrs_len h
  have := h.a1
  have := h.n1
  unfold c1__law_two_right ycs
  rw [cyn_D]
  refine run_comp_map (yrs a n b) PyData.int _ (runI_val (x := .list ((yrs a n b).map PyData.int)) (by simp [rdVar]) rfl) (by omega) fun v hv => ⟨_, rfl, ?_⟩
  simp [rdRaw, rdVar, sizeLine, ixW, ix_n]
theorem c2_two (k : Nat) (a n b a' n' b' lo hi : Int) (st : Store) (h : RowOk a n b) (h' : RowOk a' n' b') (l1 : -10 ^ 6 ≤ lo) (l2 : lo ≤ hi) (l3 : hi ≤ 10 ^ 6) (hn : ∀ u, lo ≤ u → u < hi → (lt1 a n b u && lt1 a' n' b' u) = false) (w0 w3 w5 w6 w7 w9 w10 w11 w12 w13 : Option W) : runE (fns T (k + 1)) c2__law_two_right [w0, some (.d (rwD a n b)), some (.d (rwD a' n' b')), w3, some (Z lo), w5, w6, w7, some (Z hi), w9, w10, w11, w12, w13] st = some (Li [], st) := by
  have hs : sizeLine = 16777216 := sizeLine_eq
  have hf : ((iv lo (hi - lo).toNat).filter fun y => lt1 a n b y && lt1 a' n' b' y) = [] := by
    rw [List.filter_eq_nil_iff]
    intro u hu
    obtain ⟨u1, u2⟩ := mem_iv.mp hu
    rw [hn u u1 (by omega)]
    simp
  have := run_comp_fm (Φ := fns T (k + 1)) (tg := .v 13) (it := .rng2 (.var 4) (.var 8)) (own := [13]) (c := .and (.call i__law_letter (.cons (.raw 1) (.cons (.raw 13) .nil))) (.call i__law_letter (.cons (.raw 2) (.cons (.raw 13) .nil)))) (elt := .var 13) (sl := [w0, some (.d (rwD a n b)), some (.d (rwD a' n' b')), w3, some (Z lo), w5, w6, w7, some (Z hi), w9, w10, w11, w12, w13]) (st := st) (iv lo (hi - lo).toNat) PyData.int (fun y => lt1 a n b y && lt1 a' n' b' y) PyData.int (runI_rng2 (st1 := st) (by simp [rdVar]) (by simp [rdVar]) (by omega) (by omega) (by omega) (by omega)) (by rw [iv_len]; omega) fun v hv => ⟨_, rfl, by
      have e1 := v_law_letter k a n b v st h
      have e2 := v_law_letter k a' n' b' v st h'
      simp [rdRaw, e1, e2]
      cases lt1 a n b v <;> simp, fun _ => by simp [rdVar]⟩
  rw [hf] at this
  exact this
theorem v_two_right (k : Nat) (a n b a' n' b' x y : Int) (st : Store) (h : RowOk a n b) (h' : RowOk a' n' b') (ha : 1 ≤ a) (ha' : 1 ≤ a') (hn : n ≤ 12) (hn' : n' ≤ 12) : ∃ x' y', fns T (k + 8) i__law_two_right [.m 0, .d (rwD a n b), .d (rwD a' n' b')] (cup x y :: st) = some (Bl true, cup x' y' :: st) := by
  rw [s__law_two_right]
  have q1 := h.a1
  have q2 := h.n0
  have q1' := h'.a1
  have q2' := h'.n0
  have hl := yrs_len h
  have hl' := yrs_len h'
  have e1 := v_law_gcd (k + 6) n n' (cup x y :: st) (by omega) (by omega) (by omega)
  by_cases hg : ¬ Int.gcd n n' = 1
  · have hg2 : ¬ ((Int.gcd n n' : Nat) : Int) = 1 := by omega
    refine ⟨x, y, ?_⟩
    generalize ((Int.gcd n n' : Nat) : Int) = G at *
    simp [runF, f__law_two_right, slots, rdRaw, rdVar, fin, okN, ixW, ix_n, e1, hg2]
  have hg := Classical.not_not.mp hg
  rw [hg] at e1
  have m1 : binD .Mult (.int a) (.int a') = some (.int (a * a')) := mul_i (mulOk_l (by omega))
  have m2 : binD .Mult (.int n) (.int n') = some (.int (n * n')) := mul_i (mulOk_l (by omega))
  have m3 : binD .Mult (.int (n - a)) (.int (n' - a')) = some (.int ((n - a) * (n' - a'))) := mul_i (mulOk_l (by omega))
  have e2 := v_law_window (k + 6) a n b (cup x y :: st) h
  have e3 := v_law_window (k + 6) a' n' b' (cup x y :: st) h'
  have e4 := v_count_near1 (k + 3) n ((n - a) % n) a n' ((n' - a') % n') a' (cup x y :: st) (win_ok h ha) (win_ok h' ha') hg
  have e5 := like_i (k + 5) (a * a') (cup x y :: st)
  have e6 := v_law_years (k + 5) a n b (cup x y :: st) h
  have e7 := v_law_years (k + 5) a' n' b' (cup x y :: st) h'
  have en : bltD .len [.list ((yrs a n b).map PyData.int)] = some (.int a) := by
    show some (PyData.int _) = _
    simp [hl]
  have en' : bltD .len [.list ((yrs a' n' b').map PyData.int)] = some (.int a') := by
    show some (PyData.int _) = _
    simp [hl']
  by_cases c12 : 12 < a + a'
  · refine ⟨x, y, ?_⟩
    generalize wiD n ((n - a) % n) a = W1 at *
    generalize wiD n' ((n' - a') % n') a' = W2 at *
    generalize (yrs a n b).map PyData.int = Y at *
    generalize (yrs a' n' b').map PyData.int = Y' at *
    simp [runF, f__law_two_right, slots, rdRaw, rdVar, fin, okN, ixW, bltW, ix_n, ix_a, e1, m1, m2, e2, e3, e4, e5, e6, e7, en, en', c12]
  obtain ⟨lo, x1, y1, r1, l1, u1⟩ := v_roll (k + 6) 1000 x y st (by omega) (by omega)
  refine ⟨x1, y1, ?_⟩
  have N0 : 1 ≤ n * n' := by
    have : 0 < n * n' := Int.mul_pos (by omega) (by omega)
    omega
  have N1 : n * n' ≤ 144 := by
    have s1 : n * n' ≤ n * 12 := Int.mul_le_mul_of_nonneg_left hn' (by omega)
    omega
  have toN : (((n * n').toNat : Nat) : Int) = n * n' := by omega
  have cB : ∀ c ∈ ycs a n b, CyB c := cyn_b q2 h.n1 (yrs_rg h)
  have cB' : ∀ c ∈ ycs a' n' b', CyB c := cyn_b q2' h'.n1 (yrs_rg h')
  have cyB : ∀ c ∈ ycs a n b ++ ycs a' n' b', CyB c := fun c hc => by
    rcases List.mem_append.mp hc with q | q
    · exact cB c q
    · exact cB' c q
  have cyl : (ycs a n b ++ ycs a' n' b').length ≤ 12 := by
    rw [List.length_append]
    unfold ycs
    rw [cyn_len, cyn_len]
    omega
  obtain ⟨k2, k0, k1⟩ := two_cnt h h' hg lo
  have hl2 : lo + (((n * n').toNat : Nat) : Int) ≤ 10 ^ 18 := by omega
  have t2 := v_count_with (k + 1) (ycs a n b ++ ycs a' n' b') 2 lo (n * n').toNat (cup x1 y1 :: st) cyB cyl (by omega) (by omega) hl2
  have t1 := v_count_with (k + 1) (ycs a n b ++ ycs a' n' b') 1 lo (n * n').toNat (cup x1 y1 :: st) cyB cyl (by omega) (by omega) hl2
  have t0 := v_count_with (k + 1) (ycs a n b ++ ycs a' n' b') 0 lo (n * n').toNat (cup x1 y1 :: st) cyB cyl (by omega) (by omega) hl2
  rw [k2, toN] at t2
  rw [k1, toN] at t1
  rw [k0, toN] at t0
  have t2 : fns T (k + 7) i_count_with [Tu ((ycs a n b ++ ycs a' n' b').map cyD), Z 2, Z lo, Z (lo + n * n')] (cup x1 y1 :: st) = some (Z (a * a'), cup x1 y1 :: st) := t2
  have t1 : fns T (k + 7) i_count_with [Tu ((ycs a n b ++ ycs a' n' b').map cyD), Z 1, Z lo, Z (lo + n * n')] (cup x1 y1 :: st) = some (Z (n * n' - a * a' - (n - a) * (n' - a')), cup x1 y1 :: st) := t1
  have t0 : fns T (k + 7) i_count_with [Tu ((ycs a n b ++ ycs a' n' b').map cyD), Z 0, Z lo, Z (lo + n * n')] (cup x1 y1 :: st) = some (Z ((n - a) * (n' - a')), cup x1 y1 :: st) := t0
  have t3 := like3i (k + 4) (a * a') (n * n' - a * a' - (n - a) * (n' - a')) ((n - a) * (n' - a')) (cup x1 y1 :: st)
  have yB : ∀ v ∈ yrs a n b, CyB (n, v) := fun v hv => cB _ (List.mem_map.mpr ⟨v, hv, rfl⟩)
  have yB' : ∀ v ∈ yrs a' n' b', CyB (n', v) := fun v hv => cB' _ (List.mem_map.mpr ⟨v, hv, rfl⟩)
  have t4 := v_law_meets (k + 1) a n b a' n' b' lo (yrs a n b) (yrs a' n' b') (cup x1 y1 :: st) hg yB yB' (by omega) (by omega) (by omega) (by omega)
  have ml := mts_len lo n n' (yrs a' n' b') (yrs a n b)
  rw [hl, hl'] at ml
  have ab0 : 0 < a * a' := Int.mul_pos (by omega) (by omega)
  have ab1 : a * a' ≤ 144 := by
    have s1 : a * a' ≤ a * 12 := Int.mul_le_mul_of_nonneg_left (by omega) (by omega)
    omega
  have mnd := mts_nd (lo := lo) hg q2 q2' (yrs_rg h') (yrs_nd a' n' b') (yrs_rg h) (yrs_nd a n b)
  have t5 := lset_nd mnd (by omega)
  rw [ml] at t5
  have mne : mts lo n n' (yrs a n b) (yrs a' n' b') ≠ [] := fun c => by
    rw [c] at ml
    simp at ml
    omega
  have t6 := mn_ints mne
  obtain ⟨v, hv, w, hw, hm⟩ := mts_mem.mp (minI_mem mne)
  have hmin : ∀ u ∈ mts lo n n' (yrs a n b) (yrs a' n' b'), minI (mts lo n n' (yrs a n b) (yrs a' n' b')) ≤ u := fun u hu => minI_le hu
  obtain ⟨o1, o2, o3, o4, _⟩ := nm_ok (lo := lo) hg (yB v hv).ok (yB' w hw).ok
  rw [← hm] at o1 o2 o3 o4
  have bl1 : lt1 a n b (minI (mts lo n n' (yrs a n b) (yrs a' n' b'))) = true := by
    rw [← lt1_mod h, o3]
    simp [hv]
  have bl2 : lt1 a' n' b' (minI (mts lo n n' (yrs a n b) (yrs a' n' b'))) = true := by
    rw [← lt1_mod h', o4]
    simp [hw]
  have none : ∀ u, lo ≤ u → u < minI (mts lo n n' (yrs a n b) (yrs a' n' b')) → (lt1 a n b u && lt1 a' n' b' u) = false := fun u u1 u2 => by
    rw [Bool.eq_false_iff]
    intro c
    rw [Bool.and_eq_true, ← lt1_mod h, ← lt1_mod h', decide_eq_true_eq, decide_eq_true_eq] at c
    have p := (nm_ok (lo := lo) hg (yB _ c.1).ok (yB' _ c.2).ok).2.2.2.2 u u1 rfl rfl
    have p2 := hmin _ (mts_mem.mpr ⟨_, c.1, _, c.2, rfl⟩)
    omega
  generalize minI (mts lo n n' (yrs a n b) (yrs a' n' b')) = best at *
  have t7 := v_is_leap (k + 3) a n b best (cup x1 y1 :: st) h (by omega) (by omega)
  have t8 := v_is_leap (k + 3) a' n' b' best (cup x1 y1 :: st) h' (by omega) (by omega)
  rw [bl1] at t7
  rw [bl2] at t8
  have c2 := c2_two (k + 6) a n b a' n' b' lo best (cup x1 y1 :: st) h h' (by omega) o1 (by omega) none
  obtain ⟨v0, f0⟩ : ∃ v, (yrs a n b)[0]? = some v := ⟨_, List.getElem?_eq_getElem (by omega)⟩
  obtain ⟨vm, fm⟩ : ∃ v, (yrs a' n' b')[(yrs a' n' b').length - 1]? = some v := ⟨_, List.getElem?_eq_getElem (by omega)⟩
  have g0 : ixD (.list ((yrs a n b).map PyData.int)) (.int 0) = some (.int v0) := ixl f0
  have gm := ixl_last fm (by omega)
  have b1 := yB v0 (List.mem_of_getElem? f0)
  have b2 := yB' vm (List.mem_of_getElem? fm)
  have t9 : fns T (k + 7) i_count_meetings [.d (.tuple [.tuple [.int n, .int v0], .tuple [.int n', .int vm]]), Z lo, Z (lo + n * n')] (cup x1 y1 :: st) = some (Z 1, cup x1 y1 :: st) := by
    have hc : ∀ c ∈ [(n, v0), (n', vm)], CyB c := fun c hc => by
      simp only [List.mem_cons, List.not_mem_nil, or_false] at hc
      rcases hc with rfl | rfl
      · exact b1
      · exact b2
    have := v_count_meetings (k + 2) [(n, v0), (n', vm)] lo (n * n').toNat (cup x1 y1 :: st) hc (by simp) (by omega) hl2
    obtain ⟨r, hr⟩ := mt2 (c := (n, v0)) (d := (n', vm)) hg b1.ok b2.ok
    have ho := mtg_ok (fun c q => (hc c q).ok) _ hr
    rw [hr, toN] at this
    have e := cnt_one (e := n * n') (r := r) ho lo
    rw [e] at this
    exact this
  have t10 := like_i (k + 5) 1 (cup x1 y1 :: st)
  have c0 := fun st => c0_two (k + 7) a n b st h
  have c1 := fun st => c1_two (k + 7) a' n' b' st h'
  have cat : binD .Add (.list ((ycs a n b).map cyD)) (.list ((ycs a' n' b').map cyD)) = some (.list ((ycs a n b ++ ycs a' n' b').map cyD)) := by
    rw [List.map_append]
    refine cat_l _ _ ?_
    have hs : sizeLine = 16777216 := sizeLine_eq
    rw [List.length_append] at cyl
    rw [List.length_map, List.length_map, hs]
    omega
  have bT : ∀ cs : List D, bltD .tuple [.list cs] = some (.tuple cs) := fun _ => rfl
  clear none hmin mnd yB yB' cyB cB cB' k0 k1 k2
  generalize wiD n ((n - a) % n) a = W1 at *
  generalize wiD n' ((n' - a') % n') a' = W2 at *
  generalize (mts lo n n' (yrs a n b) (yrs a' n' b')).map PyData.int = MM at *
  generalize (yrs a n b).map PyData.int = Y at *
  generalize (yrs a' n' b').map PyData.int = Y' at *
  generalize (ycs a n b ++ ycs a' n' b').map cyD = CC at *
  generalize (ycs a n b).map cyD = C0 at *
  generalize (ycs a' n' b').map cyD = C1 at *
  generalize a * a' = AA at *
  generalize n * n' = NN at *
  generalize (n - a) * (n' - a') = RR at *
  simp [runF, f__law_two_right, slots, rdRaw, rdVar, fin, okN, sizeLine, ixW, bltW, ix_n, ix_a, e1, m1, m2, m3, e2, e3, e4, e5, e6, e7, en, en', c12, r1, c0, c1, cat, bT, t0, t1, t2, t3, t4, t5, t6, t7, t8, t9, t10, c2, g0, gm, eqnil]
end WM.K88
namespace WM.K88
open PySem PySem.Spec PyProof.Rows L2 RT
theorem yrs_single {n b : Int} (h : RowOk 1 n b) : yrs 1 n b = [n - 1 - b] := by
  have hl := yrs_len h
  have e : lyr 1 n b 0 = n - 1 - b := by
    unfold lyr
    rw [Int.ediv_one]
    omega
  match hy : yrs 1 n b with
  | [] => rw [hy] at hl; simp at hl
  | [x] =>
    obtain ⟨_, _, hx⟩ := yrs_at (j := 0) (y := x) h (by rw [hy]; rfl)
    have := LpY.uniq h hx (lyr_ok h (by omega) 0)
    rw [e] at this
    rw [this]
  | x :: z :: l => rw [hy] at hl; simp at hl; omega
theorem like5 (k : Nat) (x y z w : Int) (c : Bool) (st : Store) : fns T (k + 3) i__law_like [Li [.int x, .int y, .int z, .int w, .bool c], Li [.int x, .int y, .int z, .int w, .bool c]] st = some (Bl true, st) := by
  refine v_law_like 1 k _ st (lk_list fun d hd => ?_)
  simp only [List.mem_cons, List.not_mem_nil, or_false] at hd
  rcases hd with rfl | rfl | rfl | rfl | rfl
  · exact lk_int 0 _
  · exact lk_int 0 _
  · exact lk_int 0 _
  · exact lk_int 0 _
  · exact lk_bool 0 _
theorem v_great_right (k : Nat) (x y : Int) (st : Store) : ∃ x' y', fns T (k + 8) i__law_great_right [.m 0] (cup x y :: st) = some (Bl true, cup x' y' :: st) := by
  rw [s__law_great_right]
  obtain ⟨r1, x1, y1, e1, l1, u1⟩ := v_roll (k + 6) 999 x y st (by omega) (by omega)
  obtain ⟨n, hn⟩ : ∃ n, n = 2 + r1 := ⟨_, rfl⟩
  obtain ⟨b, x2, y2, e2, l2, u2⟩ := v_roll (k + 6) n x1 y1 st (by omega) (by omega)
  obtain ⟨low, x3, y3, e3, l3, u3⟩ := v_roll (k + 6) 1000000 x2 y2 st (by omega) (by omega)
  obtain ⟨r4, x4, y4, e4, l4, u4⟩ := v_roll (k + 6) (n - 1) x3 y3 st (by omega) (by omega)
  refine ⟨x4, y4, ?_⟩
  have h : RowOk 1 n b := ⟨by omega, by omega, by omega, by omega, by omega, by omega⟩
  have ho := oth_ok h
  have hy := yrs_single h
  have hyc : ycs 1 n b = [(n, n - 1 - b)] := by
    unfold ycs
    rw [hy]
    rfl
  have hB : ∀ c ∈ ycs 1 n b, CyB c := cyn_b h.n0 h.n1 (yrs_rg h)
  have hL : (ycs 1 n b).length ≤ 12 := by rw [hyc]; simp
  have ep : binD .Pow (.int 10) (.int 6) = some (.int 1000000) := pow_i (by omega) (by omega) (by decide)
  have t1 := v_next_struck (k + 2) (ycs 1 n b) low (cup x3 y3 :: st) hB hL (by rw [hyc]; simp) (by omega) (by omega)
  have tm : minI ((ycs 1 n b).map fun c => low + (c.2 - low) % c.1) = low + (n - 1 - b - low) % n := by
    rw [hyc]
    rfl
  rw [tm, hyc] at t1
  have t2 := v_leap_year (k + 3) 1 n b 0 (cup x3 y3 :: st) h (by omega) (by omega) (by omega)
  have e : lyr 1 n b 0 = n - 1 - b := by
    unfold lyr
    rw [Int.ediv_one]
    omega
  have lo := lyr_ok h (by omega) 0
  rw [e] at t2 lo
  have t3 := v_leaps_between (k + 3) (n - 1) n (n - 1 - b) 0 (n * 1000) (cup x3 y3 :: st) ho (by omega) (by omega) (by omega)
  have c3 : cb (n - 1) n (n - 1 - b) (n * 1000) - cb (n - 1) n (n - 1 - b) 0 = 1000 * (n - 1) := by
    have := cb_turn ho 0 1000
    rw [Int.zero_add] at this
    omega
  rw [c3] at t3
  have t4 := v_count_struck (k + 1) (ycs 1 n b) 0 (n * 1000).toNat (cup x3 y3 :: st) hB hL (by omega) (by omega)
  rw [ycs_stk h, show (0 : Int) + (((n * 1000).toNat : Nat) : Int) = n * 1000 by omega, hyc] at t4
  have c4 : cb 1 n b (n * 1000) - cb 1 n b 0 = 1000 := by
    have := cb_turn h 0 1000
    rw [Int.zero_add] at this
    omega
  rw [c4] at t4
  have t5 := v_is_leap (k + 3) (n - 1) n (n - 1 - b) (n - 1 - b) (cup x3 y3 :: st) ho (by omega) (by omega)
  rw [lt1_oth h, lo.1] at t5
  have t6 := like5 (k + 4) (low + (n - 1 - b - low) % n) (n - 1 - b) (1000 * (n - 1)) 1000 false (cup x3 y3 :: st)
  obtain ⟨a, ha⟩ : ∃ a, a = 1 + r4 := ⟨_, rfl⟩
  have t7 := v_longest0 (k + 3) n a (cup x4 y4 :: st) (by omega) (by omega) (by omega)
  have t8 := like_i (k + 5) a (cup x4 y4 :: st)
  have t9 := v_next_near0 (k + 3) n a low (cup x4 y4 :: st) ⟨by omega, by omega, by omega, by omega, by omega, by omega⟩ (by omega) (by omega)
  have m0 := Int.emod_nonneg low (show n ≠ 0 by omega)
  have m1 := Int.emod_lt_of_pos low (show 0 < n by omega)
  have md := Int.emod_add_mul_ediv low n
  have hn' : 2 + r1 = n := hn.symm
  have ha' : 1 + r4 = a := ha.symm
  have d1 : binD .Mod (.int (n - 1 - b - low)) (.int n) = some (.int ((n - 1 - b - low) % n)) := mod_i (by omega)
  have d2 : binD .Mod (.int low) (.int n) = some (.int (low % n)) := mod_i (by omega)
  have d3 : binD .Mult (.int n) (.int 1000) = some (.int (n * 1000)) := mul_i (mulOk_l (by omega))
  have d4 : binD .Mult (.int 1000) (.int (n - 1)) = some (.int (1000 * (n - 1))) := mul_i (mulOk_r (by omega))
  have t1 : fns T (k + 7) i_next_struck [Tu [.tuple [.int n, .int (n - 1 - b)]], Z low] (cup x3 y3 :: st) = some (Z (low + (n - 1 - b - low) % n), cup x3 y3 :: st) := t1
  have t4 : fns T (k + 7) i_count_struck [Tu [.tuple [.int n, .int (n - 1 - b)]], Z 0, Z (n * 1000)] (cup x3 y3 :: st) = some (Z 1000, cup x3 y3 :: st) := t4
  clear hn ha md hB hL hyc hy c3 c4 lo tm
  generalize (n - 1 - b - low) % n = M1 at *
  by_cases c : low % n < a
  · rw [if_pos c] at t9
    have t10 := like_i (k + 5) low (cup x4 y4 :: st)
    unfold rwD wiD at *
    generalize low % n = M2 at *
    simp [runF, f__law_great_right, slots, rdRaw, rdVar, fin, okN, sizeLine, ixW, bltW, e1, hn', e2, ep, e3, t1, t2, t3, t4, t5, d1, d2, d3, d4, t6, e4, ha', t7, t8, t9, c, t10]
  · have e9 : (0 - low) % n = n - low % n := emod_of (q := -(low / n) - 1) (by
      have := Int.emod_add_mul_ediv low n
      rw [Int.mul_sub, Int.mul_neg, Int.mul_one]
      omega) (by omega) (by omega)
    rw [if_neg c, e9, show low + (n - low % n) = low + n - low % n by omega] at t9
    have t10 := like_i (k + 5) (low + n - low % n) (cup x4 y4 :: st)
    unfold rwD wiD at *
    generalize low % n = M2 at *
    simp [runF, f__law_great_right, slots, rdRaw, rdVar, fin, okN, sizeLine, ixW, bltW, e1, hn', e2, ep, e3, t1, t2, t3, t4, t5, d1, d2, d3, d4, t6, e4, ha', t7, t8, t9, c, t10]
end WM.K88
namespace WM.K88
open PySem PySem.Spec PyProof.Rows L2 RT
theorem v_sums4 (k : Nat) (st : Store) : fns T (k + 1) i_sums_of [.d (.tuple [.int 1, .int 0, .int 0, .int 0])] st = some (Li [.int 0, .int 1, .int 1, .int 1, .int 1], st) := by
  rw [s_sums_of]
  simp [runF, f_sums_of, l0_sums_of, b0_sums_of, slots, rdRaw, rdVar, fin, okN, sizeLine, ixW, bltW, forL, ixD, L2.atI, L2.ixN, freeze]
theorem v_start4 (k : Nat) (st : Store) : fns T (k + 1) i_start_for [Z 1, Z 4, Li [.int 0, .int 1, .int 1, .int 1, .int 1]] st = some (Z 3, st) := by
  rw [s_start_for]
  have m1 : ∀ i j : Int, binD .Mult (.int 4) (.int j) = some (.int (4 * j)) := fun _ j => mul_i (mulOk_l (by decide))
  have m2 : ∀ j : Int, binD .Mult (.int 1) (.int j) = some (.int (1 * j)) := fun j => mul_i (mulOk_l (by decide))
  have e1 : bltD .mx [.list [.int 0, .int 3, .int 2, .int 1, .int 0]] = some (.int 3) := mx_ints (ns := [0, 3, 2, 1, 0]) (by simp)
  have e2 : bltD .mn [.list [.int 0, .int 3, .int 2, .int 1, .int 0]] = some (.int 0) := mn_ints (ns := [0, 3, 2, 1, 0]) (by simp)
  have e3 : runE (fns T k) c0_start_for [some (Z 1), some (Z 4), some (Li [.int 0, .int 1, .int 1, .int 1, .int 1]), none, none, none] st = some (Li [.int 0, .int 3, .int 2, .int 1, .int 0], st) := by
    have := run_comp_map (Φ := fns T k) (tg := .t (.cons (.v 4) (.cons (.v 5) .nil))) (it := .enum (.var 2)) (own := [4, 5]) (elt := .bin .Sub (.bin .Mult (.var 1) (.var 5)) (.bin .Mult (.var 0) (.var 4))) (sl := [some (Z 1), some (Z 4), some (Li [.int 0, .int 1, .int 1, .int 1, .int 1]), none, none, none]) (st := st) ([(0, 0), (1, 1), (2, 1), (3, 1), (4, 1)] : List (Int × Int)) (fun p => .tuple [.int p.1, .int p.2]) (fun p => .int (4 * p.2 - p.1)) (runI_enum (st1 := st) (x := .list [.int 0, .int 1, .int 1, .int 1, .int 1]) (by simp [rdVar]) (.inl rfl)) (by simp [sizeLine]) fun p hp => ⟨_, rfl, by
      have s1 : binD .Mult (.int 4) (.int p.2) = some (.int (4 * p.2)) := mul_i (mulOk_l (by decide))
      have s2 : binD .Mult (.int 1) (.int p.1) = some (.int p.1) := by rw [mul_i (mulOk_l (by decide)), Int.one_mul]
      simp [rdVar, s1, s2]⟩
    exact this
  simp [runF, f_start_for, slots, rdRaw, rdVar, fin, okN, sizeLine, bltW, e1, e2, e3]
theorem v_are_wholes4 (k : Nat) (st : Store) : fns T (k + 3) i_are_wholes [.d (.tuple [.int 1, .int 0, .int 0, .int 0]), Z 4, Z 0, Z 1] st = some (Bl true, st) := by
  rw [s_are_wholes]
  have e1 := w_is_tuple_of (k + 1) [.int 1, .int 0, .int 0, .int 0] 4 4 st (by simp) (by simp)
  have e2 : runE (fns T (k + 2)) c0_are_wholes [some (.d (.tuple [.int 1, .int 0, .int 0, .int 0])), some (Z 4), some (Z 0), some (Z 1), none] st = some (Li [.bool true, .bool true, .bool true, .bool true], st) := by
    have := run_comp_map (Φ := fns T (k + 2)) (tg := .v 4) (it := .val (.var 0)) (own := [4]) (elt := .call i_is_whole (.cons (.raw 4) (.cons (.raw 2) (.cons (.raw 3) .nil)))) (sl := [some (.d (.tuple [.int 1, .int 0, .int 0, .int 0])), some (Z 4), some (Z 0), some (Z 1), none]) (st := st) ([1, 0, 0, 0] : List Int) PyData.int (fun _ => .bool true) (runI_val (x := .tuple [.int 1, .int 0, .int 0, .int 0]) (by simp [rdVar]) rfl) (by simp [sizeLine]) fun p hp => ⟨_, rfl, by
      have hp2 : 0 ≤ p ∧ p ≤ 1 := by
        simp only [List.mem_cons, List.not_mem_nil, or_false] at hp
        omega
      have s1 := w_is_whole (k + 1) p 0 1 st hp2.1 hp2.2
      simp [rdRaw, s1]⟩
    exact this
  have e3 : bltD .all [.list [.bool true, .bool true, .bool true, .bool true]] = some (.bool true) := rfl
  simp [runF, f_are_wholes, slots, rdRaw, rdVar, fin, okN, sizeLine, bltW, e1, e2, e3]
theorem v_row_of4 (k : Nat) (st : Store) : fns T (k + 6) i_row_of [.d (.tuple [.int 1, .int 0, .int 0, .int 0])] st = some (.d (.tuple [.int 1, .int 4, .int 3]), st) := by
  have e1 := w_is_tuple_of (k + 2) [.int 1, .int 0, .int 0, .int 0] 1 40 st (by simp) (by simp)
  have e2 := v_are_wholes4 k st
  have e3 : fns T (k + 4) i_are_letters [.d (.tuple [.int 1, .int 0, .int 0, .int 0]), Z 40] st = some (Bl true, st) := by
    rw [s_are_letters]
    simp [runF, f_are_letters, slots, rdRaw, rdVar, fin, okN, bltW, e1, e2]
  have e4 : fns T (k + 5) i_need_letters [.d (.tuple [.int 1, .int 0, .int 0, .int 0])] st = some (No, st) := by
    rw [s_need_letters]
    simp [runF, f_need_letters, slots, rdRaw, rdVar, fin, okN, bltW, e3]
  have e5 := v_sums4 (k + 4) st
  have e6 := v_start4 (k + 4) st
  have e7 : bltD .sum [.tuple [.int 1, .int 0, .int 0, .int 0]] = some (.int 1) := by
    show (asInts (([1, 0, 0, 0] : List Int).map PyData.int)).map (fun ns => PyData.int ns.sum) = _
    rw [asInts_map]
    rfl
  have e8 : bltD .len [.tuple [.int 1, .int 0, .int 0, .int 0]] = some (.int 4) := rfl
  have e9 : cmpD .Is (.int 3) .none = some false := rfl
  rw [s_row_of]
  simp [runF, f_row_of, slots, rdRaw, rdVar, fin, okN, sizeLine, bltW, e4, e5, e6, e7, e8, e9]
theorem row25 : RowOk 2 5 4 := ⟨by decide, by decide, by decide, by decide, by decide, by decide⟩
theorem row14 : RowOk 1 4 3 := ⟨by decide, by decide, by decide, by decide, by decide, by decide⟩
theorem row11 : RowOk 1 1 0 := ⟨by decide, by decide, by decide, by decide, by decide, by decide⟩
theorem v_written_right (k : Nat) (x y : Int) (st : Store) : ∃ x' y', fns T (k + 9) i__law_written_right [.m 0] (cup x y :: st) = some (Bl true, cup x' y' :: st) := by
  rw [s__law_written_right]
  obtain ⟨x1, y1, r1⟩ := v_row_right k 2 5 4 x y st row25 (by decide)
  obtain ⟨x2, y2, r2⟩ := v_cycles_right k 2 5 4 x1 y1 st row25 (by decide)
  obtain ⟨x3, y3, r3⟩ := v_two_right k 2 5 4 1 4 3 x2 y2 st row25 row14 (by decide) (by decide) (by decide) (by decide)
  obtain ⟨x4, y4, r4⟩ := v_row_right k 1 1 0 x3 y3 st row11 (by decide)
  refine ⟨x4, y4, ?_⟩
  generalize hst : cup x y :: st = s0 at *
  have e1 : runE (fns T (k + 8)) c0__law_written_right [some (.m 0), none, none] s0 = some (Li [.int 0, .int 2], s0) := by
    have := run_comp_fm (Φ := fns T (k + 8)) (tg := .v 2) (it := .rng1 (.lit (.int 5))) (own := [2]) (c := .call i_is_leap (.cons (.tup (.cons (.lit (.int 2)) (.cons (.lit (.int 5)) (.cons (.lit (.int 4)) .nil)))) (.cons (.raw 2) .nil))) (elt := .var 2) (sl := [some (.m 0), none, none]) (st := s0) (iv 0 5) PyData.int (fun y => lt1 2 5 4 y) PyData.int (runI_rng1 (j := 5) (by simp) (by decide) (by decide)) (by rw [iv_len, sizeLine_eq]; decide) fun v hv => ⟨_, rfl, by
      obtain ⟨v1, v2⟩ := mem_iv.mp hv
      have s1 := v_is_leap (k + 4) 2 5 4 v s0 row25 (by omega) (by omega)
      unfold rwD at s1
      simp [rdRaw, sizeLine, s1], fun _ => by simp [rdVar]⟩
    exact this
  have e2 := v_law_window (k + 7) 2 5 4 s0 row25
  have e3 := v_is_near (k + 4) 5 3 2 4 s0 ⟨by decide, by decide, by decide, by decide, by decide, by decide⟩ (by decide) (by decide)
  have e4 := v_leaps_between (k + 4) 1 4 3 0 8 s0 row14 (by decide) (by decide) (by decide)
  have e5 := v_next_struck (k + 3) [(4, 0)] 1 s0 (fun c hc => by
    simp only [List.mem_cons, List.not_mem_nil, or_false] at hc
    subst hc
    exact ⟨⟨by decide, by decide, by decide⟩, by decide⟩) (by simp) (by simp) (by decide) (by decide)
  have e6 := v_leap_year (k + 4) 1 4 3 1 s0 row14 (by decide) (by decide) (by decide)
  have e7 := v_turning_number (k + 5) 2 5 s0 (by decide) (by decide) (by decide) (by decide)
  have e8 := v_count_near1 (k + 4) 5 3 2 4 3 1 s0 ⟨by decide, by decide, by decide, by decide, by decide, by decide⟩ ⟨by decide, by decide, by decide, by decide, by decide, by decide⟩ (by decide)
  have e9 := v_law_others (k + 7) 1 4 3 s0
  have e10 := v_row_of4 (k + 2) s0
  have e7' : (if Int.gcd (2 % 5) 5 = 1 then PyData.int (bS (2 % 5) 5 % 5) else .none) = .int 3 := by
    rw [if_pos (by decide)]
    have : bS (2 % 5) 5 % 5 = 3 := by decide +kernel
    rw [this]
  rw [e7'] at e7
  have e2 : fns T (k + 8) i__law_window [.d (.tuple [.int 2, .int 5, .int 4])] s0 = some (.d (.tuple [.int 5, .int 3, .int 2]), s0) := e2
  have e3 : fns T (k + 8) i_is_near [.d (.tuple [.int 5, .int 3, .int 2]), Z 4] s0 = some (Bl true, s0) := e3
  have e4 : fns T (k + 8) i_leaps_between [.d (.tuple [.int 1, .int 4, .int 3]), Z 0, Z 8] s0 = some (Z 2, s0) := e4
  have e5 : fns T (k + 8) i_next_struck [.d (.tuple [.tuple [.int 4, .int 0]]), Z 1] s0 = some (Z 4, s0) := e5
  have e6 : fns T (k + 8) i_leap_year [.d (.tuple [.int 1, .int 4, .int 3]), Z 1] s0 = some (Z 4, s0) := e6
  have e8 : fns T (k + 8) i_count_near [.d (.tuple [.int 5, .int 3, .int 2]), .d (.tuple [.int 4, .int 3, .int 1])] s0 = some (Z 2, s0) := e8
  have e9 : fns T (k + 8) i__law_others [.d (.tuple [.int 1, .int 4, .int 3])] s0 = some (.d (.tuple [.int 3, .int 4, .int 0]), s0) := e9
  have e11 : cmpD .IsNot (.tuple [.int 1, .int 4, .int 3]) .none = some true := rfl
  have e12 : fns T (k + 8) i__law_like [Li [.list [.int 0, .int 2], .tuple [.int 5, .int 3, .int 2], .bool true, .int 2, .int 4, .int 4, .int 3, .int 2, .tuple [.int 3, .int 4, .int 0], .bool true], Li [.list [.int 0, .int 2], .tuple [.int 5, .int 3, .int 2], .bool true, .int 2, .int 4, .int 4, .int 3, .int 2, .tuple [.int 3, .int 4, .int 0], .bool true]] s0 = some (Bl true, s0) := by
    refine v_law_like 2 (k + 4) _ s0 (lk_list fun d hd => ?_)
    simp only [List.mem_cons, List.not_mem_nil, or_false] at hd
    have t3 : ∀ i j l : Int, Lk 1 (.tuple [.int i, .int j, .int l]) := fun i j l => lk_tuple fun x hx => by
      simp only [List.mem_cons, List.not_mem_nil, or_false] at hx
      rcases hx with rfl | rfl | rfl <;> exact lk_int 0 _
    rcases hd with rfl | rfl | rfl | rfl | rfl | rfl | rfl | rfl | rfl | rfl
    · exact lk_ints [0, 2]
    · exact t3 _ _ _
    · exact lk_bool 1 _
    · exact lk_int 1 _
    · exact lk_int 1 _
    · exact lk_int 1 _
    · exact lk_int 1 _
    · exact lk_int 1 _
    · exact t3 _ _ _
    · exact lk_bool 1 _
  clear e7'
  unfold rwD at *
  simp [runF, f__law_written_right, slots, rdRaw, rdVar, fin, okN, sizeLine, bltW, e1, e2, e3, e4, e5, e6, e7, e8, e9, e10, e11, e12, r1, r2, r3, r4]
  subst hst
  simp
end WM.K88
namespace WM.K88
open PySem PySem.Spec PyProof.Rows L2 RT
theorem law_body (Φ : Fn) (c0 c1 : Int)
    (hr : ∀ x y, ∃ a n b x' y', (∃ x0 y0 m, Φ i__law_some [.m 0, Li [.int 5, .int 12, .int 40, .int 1000]] [cup x y] = some (Z m, [cup x0 y0]) ∧ Φ i__law_row [.m 0, Z m] [cup x0 y0] = some (.d (rwD a n b), [cup x' y'])) ∧ RowOk a n b ∧ 1 ≤ a)
    (h12 : ∀ x y, ∃ a n b x' y', Φ i__law_row [.m 0, Z 12] [cup x y] = some (.d (rwD a n b), [cup x' y']) ∧ RowOk a n b ∧ 1 ≤ a ∧ n ≤ 12)
    (t1 : ∀ a n b x y, RowOk a n b → 1 ≤ a → ∃ x' y', Φ i__law_row_right [.m 0, .d (rwD a n b)] [cup x y] = some (Bl true, [cup x' y']))
    (t2 : ∀ a n b x y, RowOk a n b → 1 ≤ a → ∃ x' y', Φ i__law_cycles_right [.m 0, .d (rwD a n b)] [cup x y] = some (Bl true, [cup x' y']))
    (t3 : ∀ a n b a' n' b' x y, RowOk a n b → RowOk a' n' b' → 1 ≤ a → 1 ≤ a' → n ≤ 12 → n' ≤ 12 → ∃ x' y', Φ i__law_two_right [.m 0, .d (rwD a n b), .d (rwD a' n' b')] [cup x y] = some (Bl true, [cup x' y']))
    (t4 : ∀ x y, ∃ x' y', Φ i__law_great_right [.m 0] [cup x y] = some (Bl true, [cup x' y']))
    (t5 : ∀ x y, ∃ x' y', Φ i__law_written_right [.m 0] [cup x y] = some (Bl true, [cup x' y'])) :
    ∃ sl' st', runSs Φ b_law [none, some (.m 0), none, none] [cup c0 c1] = some (.ret (Bl true), sl', st') := by
  have loop : ∀ (l : List Int) (h : Option W × Option W) (x y : Int), ∃ h' x' y', forL (fun d sl => stTg (.v 2) d sl) (fun sl st => runSs Φ b0_law sl st) (l.map PyData.int) [none, some (.m 0), h.1, h.2] [cup x y] = some (.nx, [none, some (.m 0), (h' : Option W × Option W).1, h'.2], [cup x' y']) := by
    intro l
    induction l with
    | nil => exact fun h x y => ⟨h, x, y, rfl⟩
    | cons c l ih =>
      intro h x y
      obtain ⟨a, n, b, x1, y1, ⟨x0, y0, m, e0, e1⟩, ok, pa⟩ := hr x y
      obtain ⟨x2, y2, e2⟩ := t1 a n b x1 y1 ok pa
      obtain ⟨x3, y3, e3⟩ := t2 a n b x2 y2 ok pa
      obtain ⟨a4, n4, b4, x4, y4, e4, ok4, pa4, l4⟩ := h12 x3 y3
      obtain ⟨a5, n5, b5, x5, y5, e5, ok5, pa5, l5⟩ := h12 x4 y4
      obtain ⟨x6, y6, e6⟩ := t3 a4 n4 b4 a5 n5 b5 x5 y5 ok4 ok5 pa4 pa5 l4 l5
      obtain ⟨h', x', y', e⟩ := ih (some (Z c), some (.d (rwD a n b))) x6 y6
      refine ⟨h', x', y', ?_⟩
      rw [List.map_cons]
      unfold forL
      have s0 : stTg (.v 2) (.int c) [none, some (.m 0), h.1, h.2] = some [none, some (.m 0), some (Z c), h.2] := rfl
      have s1 : runSs Φ b0_law [none, some (.m 0), some (Z c), h.2] [cup x y] = some (.nx, [none, some (.m 0), some (Z c), some (.d (rwD a n b))], [cup x6 y6]) := by
        simp [b0_law, rdRaw, rdVar, sizeLine, e0, e1, e2, e3, e4, e5, e6]
      simp only [s0, s1]
      exact e
  obtain ⟨h', x', y', e⟩ := loop (iv 0 5) (none, none) c0 c1
  have hi : runI Φ (.rng1 (.lit (.int 5))) [none, some (.m 0), none, none] [cup c0 c1] = some ((iv 0 5).map PyData.int, [cup c0 c1]) := runI_rng1 (j := 5) (by simp) (by decide) (by decide)
  have e2 : runS Φ l0_law [none, some (.m 0), none, none] [cup c0 c1] = some (.nx, [none, some (.m 0), h'.1, h'.2], [cup x' y']) := run_for_of hi e
  obtain ⟨x7, y7, e3⟩ := t4 x' y'
  obtain ⟨x8, y8, e4⟩ := t5 x7 y7
  refine ⟨[none, some (.m 0), h'.1, h'.2], [cup x8 y8], ?_⟩
  simp [b_law, rdRaw, rdVar, e2, e3, e4]
theorem law_pure (k : Nat) (c0 c1 : Int) : ∃ sl' st', runSs (fns T (k + 10)) b_law (slot1 4) [.lst false [.int c0, .int c1]] = some (.ret (.d (.bool true)), sl', st') :=
  law_body (fns T (k + 10)) c0 c1 (fun x y => by
      obtain ⟨x0, y0, d, e0, hd⟩ := v_some (k + 8) [.int 5, .int 12, .int 40, .int 1000] x y [] (by simp) (by simp)
      obtain ⟨m, rfl, m1, m2⟩ : ∃ m : Int, d = .int m ∧ 1 ≤ m ∧ m ≤ 1000 := by
        simp only [List.mem_cons, List.not_mem_nil, or_false] at hd
        rcases hd with rfl | rfl | rfl | rfl <;> exact ⟨_, rfl, by decide, by decide⟩
      obtain ⟨a, n, b, x', y', e1, ok, pa, _⟩ := v_law_row (k + 8) m x0 y0 [] m1 m2
      exact ⟨a, n, b, x', y', ⟨x0, y0, m, e0, e1⟩, ok, pa⟩)
    (fun x y => v_law_row (k + 8) 12 x y [] (by decide) (by decide))
    (fun a n b x y h ha => v_row_right (k + 2) a n b x y [] h ha)
    (fun a n b x y h ha => v_cycles_right (k + 2) a n b x y [] h ha)
    (fun a n b a' n' b' x y h h' ha ha' hn hn' => v_two_right (k + 2) a n b a' n' b' x y [] h h' ha ha' hn hn')
    (fun x y => v_great_right (k + 2) x y [])
    (fun x y => v_written_right (k + 1) x y [])
end WM.K88
theorem PySem.Challenge.cw_wheelmark_k88_whole_leap_years_as_window_holds : PySem.Challenge.rw_wheelmark_k88_whole_leap_years_as_window.Holds := by
  exact WM.K88.holds fun c0 c1 _ _ => WM.K88.law_pure 30 c0 c1
