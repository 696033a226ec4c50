import PyProof.Rows.All
import Wide.All
import OpenK.AllK
import Wide.FinOn
import HandS.ForMost
import HandS.Gcd
import HandS.Wide
import HandS.Exc
import HandS.Flow
import HandS.Defaults
import HandS.TupAny
import HandS.TupLe
import HandS.Zip
import HandS.Deep
import HandS.Conv
import HandS.SortInts
import HandS.SortRule
import HandS.IsInst
import HandS.TupMul
import HandS.Rev
import HandS.More
import KE.SortData
import KE.DataMinMax
import KE.KTupSum
import KE.GoesEnum
import KE.GoesZip
import KE.GoesMore
import KE.KRevSl
import KE.KStateDown
import HandS.WordsExc
import HandS.Head0
import HandS.Head1
import HandS.Head2
import HandS.HeadEnd
import HandS.HeadHook1
import HandS.HeadHook2
import HandS.HeadHook3
import HandS.HeadHook4
import HandS.Head3
import KE.BitLaws
import PySem.Challenge.RW_wheelmark_k82_whole_convergents_as_blurr
set_option Elab.async false
set_option linter.all false
set_option maxRecDepth 100000
set_option maxHeartbeats 0
set_option exponentiation.threshold 5000
namespace WM
open PySem PySem.Spec PyProof.Rows L2
abbrev D := PyData
/-- what a name stands for: data, or the i-th cell -/
inductive W where
  | d (x : D)
  | m (i : Nat)
/-- a list that may change; fz: it is read as data from here on, and changes no more -/
inductive Cell where
  | lst (fz : Bool) (ds : List D)
abbrev Store := List Cell
abbrev Sl := List (Option W)
section
variable {K : PySem.W.Frag}
theorem SqL.mono {G H : Hp} {a : Addr} {xs : List V} (e : Same G H) (h : SqL K G a xs) : SqL K H a xs := e.seq h
theorem SqT.mono {G H : Hp} {a : Addr} {xs : List V} (e : Same G H) (h : SqT K G a xs) : SqT K H a xs := by
  rcases h with (h | ⟨o, h⟩) | h
  · exact .inl (.inl (e _ _ h))
  · exact .inl (.inr ⟨o, e _ _ h⟩)
  · exact .inr h
mutual
inductive Rp (K : PySem.W.Frag) (G : Hp) : V → D → Prop
  | non : Rp K G .non .none
  | bl (b : Bool) : Rp K G (.bl b) (.bool b)
  | int (i : Int) : Rp K G (.int i) (.int i)
  | str (x : Str) : Rp K G (.str x) (.str x)
  | lst {a : Addr} {xs : List V} {ds : List D} : G a = some (.lst xs) → Rps K G xs ds → Rp K G (.ref a) (.list ds)
  | tup {a : Addr} {xs : List V} {ds : List D} : SqT K G a xs → Rps K G xs ds → Rp K G (.ref a) (.tuple ds)
inductive Rps (K : PySem.W.Frag) (G : Hp) : List V → List D → Prop
  | nil : Rps K G [] []
  | cons {v : V} {vs : List V} {d : D} {ds : List D} : Rp K G v d → Rps K G vs ds → Rps K G (v :: vs) (d :: ds)
end
mutual
theorem Rp.dp {G : Hp} : ∀ {v : V} {d : D}, Rp K G v d → Dp K G v d
  | _, _, .non => .non
  | _, _, .bl b => .bl b
  | _, _, .int i => .int i
  | _, _, .str x => .str x
  | _, _, .lst h a => .lst (SqL.of h) (Rps.dp a)
  | _, _, .tup h a => .tup h (Rps.dp a)
theorem Rps.dp {G : Hp} : ∀ {vs : List V} {ds : List D}, Rps K G vs ds → DpAll K G vs ds
  | _, _, .nil => .nil
  | _, _, .cons h a => .cons (Rp.dp h) (Rps.dp a)
end
mutual
theorem Rp.mono {G H : Hp} (e : Same G H) : ∀ {v : V} {d : D}, Rp K G v d → Rp K H v d
  | _, _, .non => .non
  | _, _, .bl b => .bl b
  | _, _, .int i => .int i
  | _, _, .str x => .str x
  | _, _, .lst h a => .lst (e _ _ h) (Rps.mono e a)
  | _, _, .tup h a => .tup (SqT.mono e h) (Rps.mono e a)
theorem Rps.mono {G H : Hp} (e : Same G H) : ∀ {vs : List V} {ds : List D}, Rps K G vs ds → Rps K H vs ds
  | _, _, .nil => .nil
  | _, _, .cons h a => .cons (Rp.mono e h) (Rps.mono e a)
end
theorem Rps.length {G : Hp} : ∀ {vs : List V} {ds : List D}, Rps K G vs ds → vs.length = ds.length
  | _, _, .nil => rfl
  | _, _, .cons _ a => by rw [List.length_cons, List.length_cons, Rps.length a]
theorem Rps.get {G : Hp} : ∀ {vs : List V} {ds : List D} {i : Nat} {d : D}, Rps K G vs ds → ds[i]? = some d → ∃ v, vs[i]? = some v ∧ Rp K G v d
  | _, _, i, _, .nil, h => by cases i <;> cases h
  | _, _, 0, _, .cons h _, e => by cases e; exact ⟨_, rfl, h⟩
  | _, _, i + 1, _, .cons _ a, e => Rps.get (i := i) a (by simpa using e)
theorem Rps.append {G : Hp} : ∀ {vs ws : List V} {ds es : List D}, Rps K G vs ds → Rps K G ws es → Rps K G (vs ++ ws) (ds ++ es)
  | _, _, _, _, .nil, b => b
  | _, _, _, _, .cons h a, b => .cons h (Rps.append a b)
theorem Rps.take {G : Hp} : ∀ {vs : List V} {ds : List D} (n : Nat), Rps K G vs ds → Rps K G (vs.take n) (ds.take n)
  | _, _, 0, _ => .nil
  | _, _, _ + 1, .nil => .nil
  | _, _, n + 1, .cons h a => .cons h (Rps.take n a)
theorem Rps.drop {G : Hp} : ∀ {vs : List V} {ds : List D} (n : Nat), Rps K G vs ds → Rps K G (vs.drop n) (ds.drop n)
  | _, _, 0, a => a
  | _, _, _ + 1, .nil => .nil
  | _, _, n + 1, .cons _ a => Rps.drop n a
theorem Rps.set {G : Hp} {v : V} {d : D} (h : Rp K G v d) : ∀ {vs : List V} {ds : List D} (i : Nat), Rps K G vs ds → Rps K G (vs.set i v) (ds.set i d)
  | _, _, _, .nil => .nil
  | _, _, 0, .cons _ a => .cons h a
  | _, _, i + 1, .cons h' a => .cons h' (Rps.set h i a)
theorem Rps.eraseIdx {G : Hp} : ∀ {vs : List V} {ds : List D} (i : Nat), Rps K G vs ds → Rps K G (vs.eraseIdx i) (ds.eraseIdx i)
  | _, _, _, .nil => .nil
  | _, _, 0, .cons _ a => a
  | _, _, i + 1, .cons h' a => .cons h' (Rps.eraseIdx i a)
theorem Rps.reverse {G : Hp} : ∀ {vs : List V} {ds : List D}, Rps K G vs ds → Rps K G vs.reverse ds.reverse
  | _, _, .nil => .nil
  | _, _, .cons h a => by
    rw [List.reverse_cons, List.reverse_cons]
    exact Rps.append (Rps.reverse a) (.cons h .nil)
theorem Rps.ints {G : Hp} : ∀ {vs : List V} {ns : List Int}, Rps K G vs (ns.map PyData.int) → vs = ns.map V.int
  | _, [], .nil => rfl
  | _, n :: ns, .cons h a => by
    cases h
    rw [List.map_cons, Rps.ints a]
theorem Rps.bools {G : Hp} : ∀ {vs : List V} {bs : List Bool}, Rps K G vs (bs.map PyData.bool) → vs = bs.map V.bl
  | _, [], .nil => rfl
  | _, n :: ns, .cons h a => by
    cases h
    rw [List.map_cons, Rps.bools a]
theorem Rps.of_ints {G : Hp} : ∀ (ns : List Int), Rps K G (ns.map V.int) (ns.map PyData.int)
  | [] => .nil
  | _ :: ns => .cons (.int _) (Rps.of_ints ns)
/-- the heap grows: G by new things alone -/
structure Ext (G H G' H' : Hp) : Prop where
  g : Same G G'
  h : Same H H'
  s : Same G' H'
  o : ∀ a u, H a = some u → G' a = G a
theorem Ext.refl {G H : Hp} (s : Same G H) : Ext G H G H := ⟨Same.refl _, Same.refl _, s, fun _ _ _ => rfl⟩
theorem Ext.trans {G H G1 H1 G2 H2 : Hp} (a : Ext G H G1 H1) (b : Ext G1 H1 G2 H2) : Ext G H G2 H2 :=
  ⟨a.g.trans b.g, a.h.trans b.h, b.s, fun x u e => (b.o x u (a.h _ _ e)).trans (a.o x u e)⟩
theorem same_upd {H : Hp} {p : Addr} {o : HO} (h : H p = none) : Same H (upd H p o) := fun b x e => by
  rw [upd_ne (ne_of_none e h)]
  exact e
theorem Same.upd2 {G H : Hp} {p : Addr} {o : HO} (s : Same G H) : Same (upd G p o) (upd H p o) := fun b x e => by
  by_cases q : b = p
  · subst q
    rw [upd_same] at e ⊢
    exact e
  · rw [upd_ne q] at e ⊢
    exact s _ _ e
theorem Ext.new {G H : Hp} {p : Addr} {o : HO} (s : Same G H) (n : H p = none) : Ext G H (upd G p o) (upd H p o) :=
  ⟨same_upd (s.free n), same_upd n, Same.upd2 s, fun a u e => upd_ne (ne_of_none e n)⟩
/-- a new thing that is no data (yet) -/
theorem Ext.junk {G H : Hp} {p : Addr} {o : HO} (s : Same G H) (n : H p = none) : Ext G H G (upd H p o) :=
  ⟨Same.refl _, same_upd n, s.trans (same_upd n), fun a u e => rfl⟩
/-- a cell's content, at its address -/
def CellOk (K : PySem.W.Frag) (G H : Hp) (a : Addr) : Cell → Prop
  | .lst fz ds => ∃ xs, H a = some (.lst xs) ∧ Rps K G xs ds ∧ xs.length ≤ sizeLine ∧ (match fz with
    | true => G a = some (.lst xs)
    | false => G a = none)
theorem CellOk.ext {G H G' H' : Hp} {a : Addr} {c : Cell} (e : Ext G H G' H') (h : CellOk K G H a c) : CellOk K G' H' a c := by
  cases c with
  | lst fz ds =>
    obtain ⟨xs, h1, h2, hz, h3⟩ := h
    refine ⟨xs, e.h _ _ h1, Rps.mono e.g h2, hz, ?_⟩
    cases fz with
    | true => exact e.g _ _ h3
    | false => exact (e.o _ _ h1).trans h3
/-- the state: G what is data, ca where the cells stand -/
structure HM (K : PySem.W.Frag) (P : Hp) (ca : List Addr) (G H : Hp) (st : Store) : Prop where
  sub : Same G H
  len : ca.length = st.length
  nd : ca.Nodup
  cell : ∀ (i : Nat) (a : Addr) (c : Cell), ca[i]? = some a → st[i]? = some c → CellOk K G H a c
  prot : Same P H
  pdis : ∀ a ∈ ca, P a = none
  pg : ∀ a u, P a = some u → G a = none
theorem HM.ext {P : Hp} {ca : List Addr} {G H G' H' : Hp} {st : Store} (h : HM K P ca G H st) (e : Ext G H G' H') : HM K P ca G' H' st :=
  ⟨e.s, h.len, h.nd, fun i a c e1 e2 => (h.cell i a c e1 e2).ext e, h.prot.trans e.h, h.pdis, fun a u q => (e.o a u (h.prot _ _ q)).trans (h.pg a u q)⟩
def RW (K : PySem.W.Frag) (ca : List Addr) (G : Hp) (v : V) : W → Prop
  | .d x => Rp K G v x
  | .m i => ∃ a, ca[i]? = some a ∧ v = .ref a
inductive RWs (K : PySem.W.Frag) (ca : List Addr) (G : Hp) : List V → List W → Prop where
  | nil : RWs K ca G [] []
  | cons {v : V} {w : W} {vs : List V} {ws : List W} : RW K ca G v w → RWs K ca G vs ws → RWs K ca G (v :: vs) (w :: ws)
structure Nxt (ca : List Addr) (G : Hp) (ca' : List Addr) (G' : Hp) : Prop where
  s : Same G G'
  p : ca <+: ca'
theorem Nxt.refl {ca : List Addr} {G : Hp} : Nxt ca G ca G := ⟨Same.refl _, List.prefix_refl _⟩
theorem Nxt.trans {ca ca1 ca2 : List Addr} {G G1 G2 : Hp} (a : Nxt ca G ca1 G1) (b : Nxt ca1 G1 ca2 G2) : Nxt ca G ca2 G2 := ⟨a.s.trans b.s, a.p.trans b.p⟩
theorem Nxt.of {ca : List Addr} {G G' : Hp} (s : Same G G') : Nxt ca G ca G' := ⟨s, List.prefix_refl _⟩
theorem prefix_get {α : Type} {l l' : List α} {i : Nat} {a : α} (p : l <+: l') (h : l[i]? = some a) : l'[i]? = some a := by
  obtain ⟨t, rfl⟩ := p
  rw [List.getElem?_append_left (List.getElem?_eq_some_iff.mp h).1]
  exact h
theorem RW.mono {ca ca' : List Addr} {G G' : Hp} (n : Nxt ca G ca' G') {v : V} : ∀ {w : W}, RW K ca G v w → RW K ca' G' v w
  | .d _, h => Rp.mono n.s h
  | .m _, ⟨a, e, r⟩ => ⟨a, prefix_get n.p e, r⟩
theorem RWs.mono {ca ca' : List Addr} {G G' : Hp} (n : Nxt ca G ca' G') : ∀ {vs : List V} {ws : List W}, RWs K ca G vs ws → RWs K ca' G' vs ws
  | _, _, .nil => .nil
  | _, _, .cons h a => .cons (RW.mono n h) (RWs.mono n a)
theorem RWs.length {ca : List Addr} {G : Hp} : ∀ {vs : List V} {ws : List W}, RWs K ca G vs ws → vs.length = ws.length
  | _, _, .nil => rfl
  | _, _, .cons _ a => by rw [List.length_cons, List.length_cons, RWs.length a]
theorem RWs.get {ca : List Addr} {G : Hp} : ∀ {vs : List V} {ws : List W} {i : Nat} {w : W}, RWs K ca G vs ws → ws[i]? = some w → ∃ v, vs[i]? = some v ∧ RW K ca G v w
  | _, _, i, _, .nil, h => by cases i <;> cases h
  | _, _, 0, _, .cons h _, e => by cases e; exact ⟨_, rfl, h⟩
  | _, _, i + 1, _, .cons _ a, e => RWs.get (i := i) a (by simpa using e)
/-- all are data -/
def allD : List W → Option (List D)
  | [] => some []
  | .d x :: ws => (allD ws).map (x :: ·)
  | .m _ :: _ => none
theorem RWs.dps {ca : List Addr} {G : Hp} : ∀ {vs : List V} {ws : List W} {ds : List D}, RWs K ca G vs ws → allD ws = some ds → Rps K G vs ds
  | _, _, _, .nil, h => by cases h; exact .nil
  | _, _, _, .cons (w := .m _) _ _, h => by cases h
  | _, _, _, .cons (w := .d x) (ws := ws) h a, e => by
    cases q : allD ws with
    | none => simp [allD, q] at e
    | some es =>
      simp [allD, q] at e
      subst e
      exact .cons h (RWs.dps a q)
/-- the slots -/
structure SlOk (K : PySem.W.Frag) (ca : List Addr) (G : Hp) (σ : L2.St) (sl : Sl) : Prop where
  len : σ.length = sl.length
  at_ : ∀ (i : Nat) (w : W), sl[i]? = some (some w) → ∃ v, σ[i]? = some (some v) ∧ RW K ca G v w
theorem SlOk.mono {ca ca' : List Addr} {G G' : Hp} {σ : L2.St} {sl : Sl} (n : Nxt ca G ca' G') (h : SlOk K ca G σ sl) : SlOk K ca' G' σ sl :=
  ⟨h.len, fun i w e => let ⟨v, e1, r⟩ := h.at_ i w e; ⟨v, e1, RW.mono n r⟩⟩
theorem SlOk.set {ca : List Addr} {G : Hp} {σ : L2.St} {sl : Sl} {v : V} {w : W} (h : SlOk K ca G σ sl) (i : Nat) (r : RW K ca G v w) : SlOk K ca G (σ.set i (some v)) (sl.set i (some w)) := by
  refine ⟨by rw [List.length_set, List.length_set, h.len], fun j u e => ?_⟩
  by_cases hj : i = j
  · subst hj
    have hl : i < sl.length := by
      have := (List.getElem?_eq_some_iff.mp e).1
      simpa using this
    rw [List.getElem?_set_self hl] at e
    cases e
    exact ⟨v, by rw [List.getElem?_set_self (by rw [h.len]; exact hl)], r⟩
  · rw [List.getElem?_set_ne hj] at e ⊢
    exact h.at_ j u e
abbrev EM := Sl → Store → Option (W × Store)
abbrev AM := Sl → Store → Option (List W × Store)
abbrev DM := Sl → Store → Option (List D × Store)
def tE (K : PySem.W.Frag) (f : EM) : TE := fun σ H Q => ∃ P ca G sl st w st', HM K P ca G H st ∧ SlOk K ca G σ sl ∧ f sl st = some (w, st') ∧
  ∀ v ca' G' H', Nxt ca G ca' G' → HM K P ca' G' H' st' → RW K ca' G' v w → Q v H'
def tA (K : PySem.W.Frag) (f : AM) : TA := fun σ H Q => ∃ P ca G sl st ws st', HM K P ca G H st ∧ SlOk K ca G σ sl ∧ f sl st = some (ws, st') ∧
  ∀ vs ca' G' H', Nxt ca G ca' G' → HM K P ca' G' H' st' → RWs K ca' G' vs ws → Q vs H'
/-- a value's truth -/
def truD : D → Option Bool
  | .none => some false
  | .bool b => some b
  | .int i => some (i != 0)
  | .str x => if x.length ≤ sizeLine then some ((x.length : Int) != 0) else none
  | .list xs => some !xs.isEmpty
  | .tuple xs => some !xs.isEmpty
  | .dict _ => none
def truW : W → Option Bool
  | .d x => truD x
  | .m _ => none
def tT (K : PySem.W.Frag) (f : EM) : TT := fun σ H Q => ∃ P ca G sl st w st' b, HM K P ca G H st ∧ SlOk K ca G σ sl ∧ f sl st = some (w, st') ∧ truW w = some b ∧
  ∀ ca' G' H', Nxt ca G ca' G' → HM K P ca' G' H' st' → Q b H'
inductive Fl where
  | nx | ret (w : W) | bk | ct
abbrev SM := Sl → Store → Option (Fl × Sl × Store)
def EndOk (K : PySem.W.Frag) (P : Hp) (D : Ends) (ca : List Addr) (G : Hp) (sl' : Sl) (st' : Store) : Fl → Prop
  | .nx => ∀ σ' ca' G' H', Nxt ca G ca' G' → HM K P ca' G' H' st' → SlOk K ca' G' σ' sl' → D.nx σ' H'
  | .bk => ∀ σ' ca' G' H', Nxt ca G ca' G' → HM K P ca' G' H' st' → SlOk K ca' G' σ' sl' → D.bk σ' H'
  | .ct => ∀ σ' ca' G' H', Nxt ca G ca' G' → HM K P ca' G' H' st' → SlOk K ca' G' σ' sl' → D.ct σ' H'
  | .ret w => ∀ v ca' G' H', Nxt ca G ca' G' → HM K P ca' G' H' st' → RW K ca' G' v w → D.rt v H'
def tS (K : PySem.W.Frag) (g : SM) : TS := fun D σ H => ∃ P ca G sl st fl sl' st', HM K P ca G H st ∧ SlOk K ca G σ sl ∧ g sl st = some (fl, sl', st') ∧ EndOk K P D ca G sl' st' fl
/-- a target: the heap stays, and all slots but ws -/
abbrev GM := D → Sl → Option Sl
def tG (K : PySem.W.Frag) (g : GM) (ws : List Nat) : TG := fun v σ H Q => ∃ P ca G sl st d sl', HM K P ca G H st ∧ SlOk K ca G σ sl ∧ Rp K G v d ∧ g d sl = some sl' ∧ ∀ σ', SlOk K ca G σ' sl' → σ'.length = σ.length → (∀ j, j ∉ ws → σ'[j]? = σ[j]?) → Q σ' H
def tGs (K : PySem.W.Frag) (g : List D → Sl → Option Sl) (ws : List Nat) : TGs := fun vs σ H Q => ∃ P ca G sl st ds sl', HM K P ca G H st ∧ SlOk K ca G σ sl ∧ Rps K G vs ds ∧ g ds sl = some sl' ∧ ∀ σ', SlOk K ca G σ' sl' → σ'.length = σ.length → (∀ j, j ∉ ws → σ'[j]? = σ[j]?) → Q σ' H
/-- an iterator yields these -/
def JOk (K : PySem.W.Frag) (J : It) (G : Hp) (ds : List D) : Prop := ∀ (i : Nat) (P : Hp) (ca : List Addr) (Gc H : Hp) (st : Store), Same G Gc → HM K P ca Gc H st →
  (∀ d, ds[i]? = some d → J.go i H ∧ ∀ x H', J.yld i H x H' → ∃ G', Ext Gc H G' H' ∧ Rp K G' x d) ∧ (ds.length ≤ i → J.stop i H)
def tI (K : PySem.W.Frag) (f : DM) : TI := fun σ H R => ∃ P ca G sl st ds st', HM K P ca G H st ∧ SlOk K ca G σ sl ∧ f sl st = some (ds, st') ∧
  ∀ J ca' G' H', Nxt ca G ca' G' → HM K P ca' G' H' st' → JOk K J G' ds → R J H'
end
section
variable {X : Cx}
theorem _root_.L2.PE.weak {e : Expr} {t t' : TE} (h : PE X e t) (w : ∀ σ H Q, t' σ H Q → t σ H Q) : PE X e t' := ⟨fun pins s σ H Q I q => h.run pins s σ H Q I (w _ _ _ q)⟩
theorem _root_.L2.PT.weak {e : Expr} {t t' : TT} (h : PT X e t) (w : ∀ σ H Q, t' σ H Q → t σ H Q) : PT X e t' := ⟨fun pins s σ H Q I q => h.run pins s σ H Q I (w _ _ _ q)⟩
theorem _root_.L2.PW.weak {e : Expr} {t t' : TT} (h : PW X e t) (w : ∀ σ H Q, t' σ H Q → t σ H Q) : PW X e t' := ⟨fun wh pins s σ H Q I q => h.run wh pins s σ H Q I (w _ _ _ q)⟩
theorem _root_.L2.PA.weak {es : List Expr} {t t' : TA} (h : PA X es t) (w : ∀ σ H Q, t' σ H Q → t σ H Q) : PA X es t' := ⟨fun pos pins s σ H Q I q => h.run pos pins s σ H Q I (w _ _ _ q)⟩
theorem _root_.L2.PS.weak {s : Stmt} {t t' : TS} (h : PS X s t) (w : ∀ D σ H, t' D σ H → t D σ H) : PS X s t' := ⟨fun pins s σ H D I q => h.run pins s σ H D I (w _ _ _ q)⟩
theorem _root_.L2.PSs.weak {s : List Stmt} {t t' : TS} (h : PSs X s t) (w : ∀ D σ H, t' D σ H → t D σ H) : PSs X s t' := ⟨fun pins s σ H D I q => h.run pins s σ H D I (w _ _ _ q)⟩
theorem _root_.L2.PG.weak {e : Expr} {t t' : TG} (h : PG X e t) (w : ∀ v σ H Q, t' v σ H Q → t v σ H Q) : PG X e t' := ⟨fun pins s σ H v u Q I r q => h.run pins s σ H v u Q I r (w _ _ _ _ q)⟩
theorem _root_.L2.PGs.weak {es : List Expr} {t t' : TGs} (h : PGs X es t) (w : ∀ v σ H Q, t' v σ H Q → t v σ H Q) : PGs X es t' := ⟨fun pins s σ H v u Q I r q => h.run pins s σ H v u Q I r (w _ _ _ _ q)⟩
theorem _root_.L2.PI.weak {tg e : Expr} {t t' : TI} (h : PI X tg e t) (w : ∀ σ H Q, t' σ H Q → t σ H Q) : PI X tg e t' := ⟨fun pins s σ H Q I q => h.run pins s σ H Q I (w _ _ _ q)⟩
end
end WM
namespace WM
open PySem PySem.Spec PyProof.Rows L2
theorem tuple_mul1 (l : Addr) (items : Array Value) (n : Nat) (dd : Option Addr) (sl : Array (Option Value)) (u : Tok) :
    Meets (Builtin.«tuple.__mul__» ⟨[.ref l, .int 1 u], []⟩) (fun _ R s => s.heap.get? l = some { cls := .type "tuple", dict := dd, data := .seq items n, slots := sl } ∧
      R (.ok (.ret (Value.ref l))) s) :=
  .of_wp fun prog w A R s h => by
    obtain ⟨hp, g, d, tk, os⟩ := s
    obtain ⟨hl, h⟩ := h
    have f1 := AutoSeq1.idx_int
    wp_walk using wpAny_loadPart' hl
    repeat (first
      | (refine wpAny_ite_false (decide_eq_false (by decide)) ?_; wp_walk using wpAny_loadPart' hl)
      | (refine wpAny_ite_true (decide_eq_true (by simp)) ?_; wp_walk using wpAny_loadPart' hl))
    exact ⟨_, rfl, h⟩
theorem tuple_mul0 (l : Addr) (items : Array Value) (n : Nat) (dd : Option Addr) (sl : Array (Option Value)) (x : Int) (u : Tok) (c0 : (decide (x < -(2 ^ 63)) || decide (x ≥ 2 ^ 63)) = false) (c1 : (items.isEmpty || x == 1) = false) (c2 : (decide (x ≤ 0) || items.isEmpty) = true) :
    Meets (Builtin.«tuple.__mul__» ⟨[.ref l, .int x u], []⟩) (fun _ R s => s.heap.get? l = some { cls := .type "tuple", dict := dd, data := .seq items n, slots := sl } ∧
      R (.ok (.ret (Value.ref s.heap.objs.size))) { s with heap := s.heap.push { cls := Value.type "tuple", data := Data.seq #[] }, toks := s.toks }) :=
  .of_wp fun prog w A R s h => by
    obtain ⟨hp, g, d, tk, os⟩ := s
    obtain ⟨hl, h⟩ := h
    have f1 := AutoSeq1.idx_int
    wp_walk using wpAny_loadPart' hl
    repeat (first
      | (refine wpAny_ite_false (decide_eq_false (by rw [c0]; exact Bool.false_ne_true)) ?_; wp_walk using wpAny_loadPart' hl)
      | (refine wpAny_ite_false (decide_eq_false (by rw [c1]; exact Bool.false_ne_true)) ?_; wp_walk using wpAny_loadPart' hl)
      | (refine wpAny_ite_true (decide_eq_true c2) ?_; wp_walk using wpAny_loadPart' hl))
    exact ⟨_, rfl, h⟩
def rRepT1 (K : PySem.W.Frag) : R2 := fun x y H Q => ∃ l xs, x = .ref l ∧ y = .int 1 ∧ SqT K H l xs ∧ Q (.ref l) H
def rRepT0 (K : PySem.W.Frag) : R2 := fun x y H Q => ∃ l k xs, x = .ref l ∧ y = .int k ∧ SqT K H l xs ∧ xs ≠ [] ∧ -(2 ^ 62) ≤ k ∧ k ≤ 0 ∧ ∀ p, H p = none → Q (.ref p) (upd H p (.tup []))
section
variable {X : Cx}
theorem op_repT1 : OpR X (binaryOp .Mult) (rRepT1 X.K) := by
  intro pins s σ H x y v u Q I rx ry h
  obtain ⟨l, xs, rfl, rfl, hT, q⟩ := h
  cases rx
  obtain ⟨t, rfl⟩ := ry
  obtain ⟨its, r, ⟨⟨cls, dd, data, sl⟩, ho, hc, n, hd⟩, hs⟩ := I.tuple hT
  simp only at hc hd
  subst hc hd
  refine wpAny_binaryOp_repeat_ref (T := "tuple") (U := "int") (by decide) ⟨_, ho, rfl⟩ (fun s' => typeIs_int s' 1 t) noFill_tuple_mul F.fills_int_mul F.slot_int_rmul repeat_tuple F.slot_int_index.lookup
    (call_meets F.slot_int_rmul (typeIs_int s 1 t) F.entry_int_rmul (F.args_int_rmul_2 _ _) (int_rmul_tuple 1 t l its.toArray n dd sl)
      ⟨ho, rfl, ⟨_, ho, rfl⟩, call_meets F.slot_tuple_mul ⟨_, ho, rfl⟩ F.entry_tuple_mul (F.args_tuple_mul_2 _ _) (tuple_mul1 l its.toArray n dd sl t) ⟨ho, ?_⟩⟩)
  exact ⟨.ref l, H, I, rfl, q⟩
theorem op_repT0 : OpR X (binaryOp .Mult) (rRepT0 X.K) := by
  intro pins s σ H x y v u Q I rx ry h
  obtain ⟨l, k, xs, rfl, rfl, hT, hne, h1, h2, q⟩ := h
  cases rx
  obtain ⟨t, rfl⟩ := ry
  obtain ⟨its, r, ⟨⟨cls, dd, data, sl⟩, ho, hc, n, hd⟩, hs⟩ := I.tuple hT
  simp only at hc hd
  subst hc hd
  have hle : its.length = xs.length := r.length.symm
  have hn : its ≠ [] := fun e => hne (by
    rw [e] at hle
    exact List.eq_nil_of_length_eq_zero hle.symm)
  have hi : its.toArray.isEmpty = false := by
    cases its with
    | nil => exact absurd rfl hn
    | cons a b => rfl
  have c0 : (decide (k < -(2 ^ 63)) || decide (k ≥ 2 ^ 63)) = false := by
    rw [decide_eq_false (by omega), decide_eq_false (by omega)] <;> rfl
  have c1 : (its.toArray.isEmpty || k == 1) = false := by
    rw [hi, Bool.false_or]
    exact beq_eq_false_iff_ne.mpr (by omega)
  have c2 : (decide (k ≤ 0) || its.toArray.isEmpty) = true := by
    rw [hi, Bool.or_false]
    exact decide_eq_true (by omega)
  refine wpAny_binaryOp_repeat_ref (T := "tuple") (U := "int") (by decide) ⟨_, ho, rfl⟩ (fun s' => typeIs_int s' k t) noFill_tuple_mul F.fills_int_mul F.slot_int_rmul repeat_tuple F.slot_int_index.lookup
    (call_meets F.slot_int_rmul (typeIs_int s k t) F.entry_int_rmul (F.args_int_rmul_2 _ _) (int_rmul_tuple k t l its.toArray n dd sl)
      ⟨ho, rfl, ⟨_, ho, rfl⟩, call_meets F.slot_tuple_mul ⟨_, ho, rfl⟩ F.entry_tuple_mul (F.args_tuple_mul_2 _ _) (tuple_mul0 l its.toArray n dd sl k t c0 c1 c2) ⟨ho, ?_⟩⟩)
  refine ⟨.ref s.heap.objs.size, _, I.laid (t' := s.toks) (o := .tup []) (fun b ob q => Heap.get?_push_of_some _ q) (Nat.le_refl _) ?_, rfl, q _ (I.hok.fresh (Nat.le_refl _))⟩
  exact ⟨by rw [sizeLine_eq]; decide, [], .nil, IsTup.new _ _⟩
end
end WM
namespace WM
open PySem PySem.Spec PyProof.Rows L2
/-- the most bits an int may have here -/
def BIG : Nat := 2 ^ 4096
def mulOk (i j : Int) : Bool := decide (i.natAbs < 2 ^ 64) || (decide (j.natAbs < 2 ^ 64) || (decide (i.natAbs < BIG) && decide (j.natAbs < BIG)))
def divOk (j : Int) : Bool := decide (j ≠ 0) && decide (j.natAbs < BIG)
def flatten' {α : Type} (n : Nat) (xs : List α) : List α := (List.replicate n xs).flatten
def shp (d : D) : Bool := SeqAt.shaped d
noncomputable def binD (op : Operator) (x y : D) : Option D := match op with
  | .Add => (match x, y with
    | .int i, .int j => some (.int (i + j))
    | .list xs, .list ys => if xs.length + ys.length ≤ sizeLine then some (.list (xs ++ ys)) else none
    | .tuple xs, .tuple ys => if xs.length + ys.length ≤ sizeLine then some (.tuple (xs ++ ys)) else none
    | .str x, .str y => if x.length + y.length ≤ sizeLine then some (.str (x ++ y)) else none
    | _, _ => none)
  | .Sub => (match x, y with
    | .int i, .int j => some (.int (i - j))
    | _, _ => none)
  | .Mult => (match x, y with
    | .int i, .int j => if mulOk i j then some (.int (i * j)) else none
    | .list xs, .int k => @ite _ (k < 2 ^ 62 ∧ -(2 ^ 62) ≤ k ∧ xs.length * k.toNat ≤ sizeLine) (Classical.propDecidable _) (some (.list (flatten' k.toNat xs))) none
    | .tuple xs, .int k => @ite _ (xs ≠ [] ∧ -(2 ^ 62) ≤ k ∧ k ≤ 1000 ∧ xs.length ≤ 1000) (Classical.propDecidable _) (some (.tuple (flatten' k.toNat xs))) none
    | _, _ => none)
  | .FloorDiv => (match x, y with
    | .int i, .int j => if divOk j then some (.int (i.fdiv j)) else none
    | _, _ => none)
  | .Mod => (match x, y with
    | .int i, .int j => if j = 0 then none else some (.int (i.fmod j))
    | _, _ => none)
  | .Pow => (match x, y with
    | .int i, .int j => @ite _ (0 ≤ j ∧ j ≤ 1000000 ∧ i.natAbs < 2 ^ 64) (Classical.propDecidable _) (some (.int (i ^ j.toNat))) none
    | _, _ => none)
  | .LShift => (match x, y with
    | .int i, .int j => @ite _ (0 ≤ j ∧ j ≤ 1000000 ∧ i.natAbs < 2 ^ 64) (Classical.propDecidable _) (some (.int (i * 2 ^ j.toNat))) none
    | _, _ => none)
  | .RShift => (match x, y with
    | .int i, .int j => if 0 ≤ j then some (.int (i / 2 ^ j.toNat)) else none
    | _, _ => none)
  | .BitAnd => (match x, y with
    | .int i, .int j => some (.int (Builtin.bitAnd i j))
    | _, _ => none)
  | .BitOr => (match x, y with
    | .int i, .int j => some (.int (Builtin.bitOr i j))
    | _, _ => none)
  | _ => none
def cmpD (op : CmpOp) (x y : D) : Option Bool := match op with
  | .Eq => if shp x && shp y then some (PyData.eqv x y) else none
  | .NotEq => if shp x && shp y then some (!PyData.eqv x y) else none
  | .Lt => (match x, y with
    | .int i, .int j => some (decide (i < j))
    | _, _ => none)
  | .LtE => (match x, y with
    | .int i, .int j => some (decide (i ≤ j))
    | _, _ => none)
  | .Gt => (match x, y with
    | .int i, .int j => some (decide (j < i))
    | _, _ => none)
  | .GtE => (match x, y with
    | .int i, .int j => some (decide (j ≤ i))
    | _, _ => none)
  | .Is => (match x, y with
    | .none, .none => some true
    | _, .none => some false
    | .bool a, .bool b => some (a == b)
    | _, _ => none)
  | .IsNot => (match x, y with
    | .none, .none => some false
    | _, .none => some true
    | .bool a, .bool b => some !(a == b)
    | _, _ => none)
  | .In => (match y with
    | .list ys => if shp x && shp (.list ys) then some (ys.any fun z => PyData.eqv z x) else none
    | .tuple ys => if shp x && shp (.tuple ys) then some (ys.any fun z => PyData.eqv z x) else none
    | _ => none)
  | .NotIn => (match y with
    | .list ys => if shp x && shp (.list ys) then some !(ys.any fun z => PyData.eqv z x) else none
    | .tuple ys => if shp x && shp (.tuple ys) then some !(ys.any fun z => PyData.eqv z x) else none
    | _ => none)
def negD : D → Option D
  | .int i => some (.int (-i))
  | _ => none
def ixD (x y : D) : Option D := match x, y with
  | .list xs, .int i => atI xs i
  | .tuple xs, .int i => atI xs i
  | _, _ => none
def cutD (xs : List D) (lo hi : Option Int) : List D := (xs.drop (HT.sIx xs.length 0 lo)).take (HT.sIx xs.length xs.length hi - HT.sIx xs.length 0 lo)
def slD (x : D) (lo hi : Option Int) : Option D := match x with
  | .list xs => some (.list (cutD xs lo hi))
  | .tuple xs => some (.tuple (cutD xs lo hi))
  | _ => none
theorem big_log {x : Int} (h : x.natAbs < BIG) : x.natAbs.log2 < 4096 := PySem.Flt.log2_lt_of (by decide) h
theorem mulOk_ok {i j : Int} (h : mulOk i j = true) : IntMulOk i j := by
  unfold mulOk at h
  rw [Bool.or_eq_true, Bool.or_eq_true, Bool.and_eq_true] at h
  rcases h with h | h | ⟨h1, h2⟩
  · have h := of_decide_eq_true h
    exact .of_left (intBits_le_64 (by omega) (by omega))
  · have h := of_decide_eq_true h
    exact .of_right (intBits_le_64 (by omega) (by omega))
  · have a := big_log (of_decide_eq_true h1)
    have b := big_log (of_decide_eq_true h2)
    exact CMulW.ok (show _ < _ by omega)
section
variable (K : PySem.W.Frag)
def rD2 (g : D → D → Option D) : R2 := fun x y H Q => ∃ G dx dy d, Same G H ∧ Rp K G x dx ∧ Rp K G y dy ∧ g dx dy = some d ∧ ∀ v G' H', Ext G H G' H' → Rp K G' v d → Q v H'
def rD1 (g : D → Option D) : V → Hp → VK → Prop := fun x H Q => ∃ G dx d, Same G H ∧ Rp K G x dx ∧ g dx = some d ∧ ∀ v G' H', Ext G H G' H' → Rp K G' v d → Q v H'
def rDs (g : List D → Option D) : List V → Hp → VK → Prop := fun xs H Q => ∃ G ds d, Same G H ∧ Rps K G xs ds ∧ g ds = some d ∧ ∀ v G' H', Ext G H G' H' → Rp K G' v d → Q v H'
end
section
variable {X : Cx}
theorem _root_.L2.OpR.weak {f : Value → Value → Sem Value} {r r' : R2} (h : OpR X f r) (w : ∀ x y H Q, r' x y H Q → r x y H Q) : OpR X f r' := fun pins s σ H x y v u Q I rx ry q => h pins s σ H x y v u Q I rx ry (w _ _ _ _ q)
theorem _root_.L2.CallR.weak {f : Value} {r r' : List V → Hp → VK → Prop} (h : CallR X f r) (w : ∀ xs H Q, r' xs H Q → r xs H Q) : CallR X f r' := fun pins s σ H xs us Q I rs q => h pins s σ H xs us Q I rs (w _ _ _ q)
theorem op_fdivB : OpR X (binaryOp .FloorDiv) (rI (fun _ j => divOk j = true) fun i j => .int (i.fdiv j)) := opI fun i j _ _ _ _ _ hc q => by
  unfold divOk at hc
  rw [Bool.and_eq_true] at hc
  have h1 := of_decide_eq_true hc.1
  have h2 := big_log (of_decide_eq_true hc.2)
  exact floordiv_int h1 q (.inl (PyProof.noPylong_of_log2 (by omega)))
theorem op_mulB : OpR X (binaryOp .Mult) (rI (fun i j => mulOk i j = true) fun i j => .int (i * j)) := opI fun _ _ _ _ _ _ _ hc q => mul_int q (mulOk_ok hc)
end
section
variable {X : Cx}
theorem Rp.int_inv {K : PySem.W.Frag} {G : Hp} {v : V} {i : Int} (h : Rp K G v (.int i)) : v = .int i := by cases h; rfl
theorem Rp.bool_inv {K : PySem.W.Frag} {G : Hp} {v : V} {b : Bool} (h : Rp K G v (.bool b)) : v = .bl b := by cases h; rfl
theorem Rp.none_inv {K : PySem.W.Frag} {G : Hp} {v : V} (h : Rp K G v .none) : v = .non := by cases h; rfl
theorem Rp.str_inv {K : PySem.W.Frag} {G : Hp} {v : V} {x : Str} (h : Rp K G v (.str x)) : v = .str x := by cases h; rfl
theorem Rp.list_inv {K : PySem.W.Frag} {G : Hp} {v : V} {ds : List D} (h : Rp K G v (.list ds)) : ∃ a xs, v = .ref a ∧ G a = some (.lst xs) ∧ Rps K G xs ds := by
  cases h with
  | lst h a => exact ⟨_, _, rfl, h, a⟩
theorem Rp.tuple_inv {K : PySem.W.Frag} {G : Hp} {v : V} {ds : List D} (h : Rp K G v (.tuple ds)) : ∃ a xs, v = .ref a ∧ SqT K G a xs ∧ Rps K G xs ds := by
  cases h with
  | tup h a => exact ⟨_, _, rfl, h, a⟩
theorem Rp.lnew {K : PySem.W.Frag} {G : Hp} {p : Addr} {xs : List V} {ds : List D} (n : G p = none) (a : Rps K G xs ds) : Rp K (upd G p (.lst xs)) (.ref p) (.list ds) :=
  .lst upd_same (Rps.mono (same_upd n) a)
theorem Rp.tnew {K : PySem.W.Frag} {G : Hp} {p : Addr} {xs : List V} {ds : List D} (n : G p = none) (a : Rps K G xs ds) : Rp K (upd G p (.tup xs)) (.ref p) (.tuple ds) :=
  .tup (SqT.of upd_same) (Rps.mono (same_upd n) a)
theorem Rps.flat {K : PySem.W.Frag} {G : Hp} {xs : List V} {ds : List D} (a : Rps K G xs ds) : ∀ n : Nat, Rps K G (List.replicate n xs).flatten (flatten' n ds)
  | 0 => .nil
  | n + 1 => by
    show Rps K G (xs ++ (List.replicate n xs).flatten) (ds ++ (List.replicate n ds).flatten)
    exact Rps.append a (Rps.flat a n)
theorem Rps.nil_iff {K : PySem.W.Frag} {G : Hp} {xs : List V} {ds : List D} (a : Rps K G xs ds) : xs = [] ↔ ds = [] := by
  cases a with
  | nil => simp
  | cons _ _ => simp
theorem Dp.of {K : PySem.W.Frag} {G H : Hp} {v : V} {d : D} (e : Same G H) (h : Rp K G v d) : Dp K H v d := (Rp.mono e h).dp
theorem op_binD (op : Operator) : OpR X (binaryOp op) (rD2 X.K (binD op)) := by
  intro pins s σ H x y v u Q I rx ry h
  obtain ⟨G, dx, dy, d, sG, hx, hy, e, q⟩ := h
  have forI : ∀ {C : Int → Int → Prop} {g : Int → Int → Int} {i j : Int}, OpR X (binaryOp op) (rI C fun i j => .int (g i j)) → dx = .int i → dy = .int j → C i j → d = .int (g i j) → wpAny (model X.prog X.w) X.A (binaryOp op v u) (EP X pins σ Q) X.xe s := by
    intro C g i j ho e1 e2 hc e3
    subst e1 e2 e3
    refine ho pins s σ H x y v u Q I rx ry ⟨i, j, hx.int_inv, hy.int_inv, hc, q _ _ _ (Ext.refl sG) (.int _)⟩
  have forI0 : ∀ {g : Int → Int → Int} {i j : Int}, OpR X (binaryOp op) (rI0 fun i j => .int (g i j)) → dx = .int i → dy = .int j → d = .int (g i j) → wpAny (model X.prog X.w) X.A (binaryOp op v u) (EP X pins σ Q) X.xe s := by
    intro g i j ho e1 e2 e3
    subst e1 e2 e3
    refine ho pins s σ H x y v u Q I rx ry ⟨i, j, hx.int_inv, hy.int_inv, q _ _ _ (Ext.refl sG) (.int _)⟩
  cases op with
  | Add =>
    unfold binD at e
    simp only at e
    split at e
    · cases e
      exact forI0 op_add rfl rfl rfl
    · split at e
      · rename_i xs ys hz
        cases e
        obtain ⟨a, vs, rfl, h1, a1⟩ := hx.list_inv
        obtain ⟨b, ws, rfl, h2, a2⟩ := hy.list_inv
        refine op_cat pins s σ H _ _ v u Q I rx ry ⟨a, b, vs, ws, rfl, rfl, sG _ _ h1, sG _ _ h2, ?_, fun p n => q _ _ _ (Ext.new sG n) (Rp.lnew (sG.free n) (Rps.append a1 a2))⟩
        rw [a1.length, a2.length]
        exact hz
      · cases e
    · split at e
      · rename_i xs ys hz
        cases e
        obtain ⟨a, vs, rfl, h1, a1⟩ := hx.tuple_inv
        obtain ⟨b, ws, rfl, h2, a2⟩ := hy.tuple_inv
        refine op_catA pins s σ H _ _ v u Q I rx ry ⟨a, b, vs, ws, rfl, rfl, SqT.mono sG h1, SqT.mono sG h2, ?_, fun e0 => ?_, fun _ e0 => ?_, fun _ _ p n => q _ _ _ (Ext.new sG n) (Rp.tnew (sG.free n) (Rps.append a1 a2))⟩
        · rw [a1.length, a2.length]
          exact hz
        · have e1 := a1.nil_iff.mp e0
          subst e1
          exact q _ _ _ (Ext.refl sG) (by rw [List.nil_append]; exact hy)
        · have e1 := a2.nil_iff.mp e0
          subst e1
          exact q _ _ _ (Ext.refl sG) (by rw [List.append_nil]; exact hx)
      · cases e
    · split at e
      · rename_i z1 z2 hz
        cases e
        refine op_add_str pins s σ H _ _ v u Q I rx ry ⟨_, _, hx.str_inv, hy.str_inv, hz, q _ _ _ (Ext.refl sG) (.str _)⟩
      · cases e
    · cases e
  | Sub =>
    unfold binD at e
    simp only at e
    split at e
    · cases e
      exact forI0 op_sub rfl rfl rfl
    · cases e
  | Mult =>
    unfold binD at e
    simp only at e
    split at e
    · split at e
      · rename_i hz
        cases e
        exact forI op_mulB rfl rfl hz rfl
      · cases e
    · split at e
      · rename_i xs k hz
        cases e
        obtain ⟨a, vs, rfl, h1, a1⟩ := hx.list_inv
        refine op_rep pins s σ H _ _ v u Q I rx ry ⟨a, k, vs, rfl, hy.int_inv, sG _ _ h1, by omega, by omega, ?_, fun p n => q _ _ _ (Ext.new sG n) (Rp.lnew (sG.free n) (a1.flat _))⟩
        rw [a1.length]
        exact hz.2.2
      · cases e
    · split at e
      · rename_i xs k hz
        cases e
        obtain ⟨a, vs, rfl, h1, a1⟩ := hx.tuple_inv
        rcases Int.lt_trichotomy k 1 with k1 | k1 | k1
        · refine op_repT0 pins s σ H _ _ v u Q I rx ry ⟨a, k, vs, rfl, hy.int_inv, SqT.mono sG h1, fun e0 => hz.1 (a1.nil_iff.mp e0), hz.2.1, by omega, fun p n => q _ _ _ (Ext.new sG n) ?_⟩
          have e0 : k.toNat = 0 := by omega
          rw [e0]
          exact Rp.tnew (sG.free n) .nil
        · subst k1
          refine op_repT1 pins s σ H _ _ v u Q I rx ry ⟨a, vs, rfl, hy.int_inv, SqT.mono sG h1, q _ _ _ (Ext.refl sG) ?_⟩
          have e0 : flatten' (1 : Int).toNat xs = xs := by
            show (List.replicate 1 xs).flatten = xs
            simp
          rw [e0]
          exact hx
        refine op_repT pins s σ H _ _ v u Q I rx ry ⟨a, k, vs, rfl, hy.int_inv, SqT.mono sG h1, fun e0 => hz.1 (a1.nil_iff.mp e0), by omega, hz.2.2.1, ?_, fun p n => q _ _ _ (Ext.new sG n) (Rp.tnew (sG.free n) (a1.flat _))⟩
        rw [a1.length]
        exact hz.2.2.2
      · cases e
    · cases e
  | FloorDiv =>
    unfold binD at e
    simp only at e
    split at e
    · split at e
      · rename_i hz
        cases e
        exact forI op_fdivB rfl rfl hz rfl
      · cases e
    · cases e
  | Mod =>
    unfold binD at e
    simp only at e
    split at e
    · split at e
      · cases e
      · rename_i hz
        cases e
        exact forI op_modN rfl rfl hz rfl
    · cases e
  | Pow =>
    unfold binD at e
    simp only at e
    split at e
    · split at e
      · rename_i hz
        cases e
        exact forI op_pow rfl rfl hz rfl
      · cases e
    · cases e
  | LShift =>
    unfold binD at e
    simp only at e
    split at e
    · split at e
      · rename_i hz
        cases e
        exact forI op_shl rfl rfl hz rfl
      · cases e
    · cases e
  | RShift =>
    unfold binD at e
    simp only at e
    split at e
    · split at e
      · rename_i hz
        cases e
        exact forI op_shr rfl rfl hz rfl
      · cases e
    · cases e
  | BitAnd =>
    unfold binD at e
    simp only at e
    split at e
    · cases e
      exact forI0 op_and rfl rfl rfl
    · cases e
  | BitOr =>
    unfold binD at e
    simp only at e
    split at e
    · cases e
      exact forI0 op_or rfl rfl rfl
    · cases e
  | _ => cases e
def rC (K : PySem.W.Frag) (g : D → D → Option Bool) : R2 := fun x y H Q => ∃ G dx dy b, Same G H ∧ Rp K G x dx ∧ Rp K G y dy ∧ g dx dy = some b ∧ Q (.bl b) H
theorem op_cmpD (hu : X.A.units + 65 < cLine) (op : CmpOp) : OpR X (compareOp op) (rC X.K (cmpD op)) := by
  intro pins s σ H x y v u Q I rx ry h
  obtain ⟨G, dx, dy, b, sG, hx, hy, e, q⟩ := h
  have hu2 : X.A.units + 64 < cLine := by omega
  have forI : ∀ {g : Int → Int → Bool} {i j : Int}, OpR X (compareOp op) (rI0 fun i j => .bl (g i j)) → dx = .int i → dy = .int j → b = g i j → wpAny (model X.prog X.w) X.A (compareOp op v u) (EP X pins σ Q) X.xe s := by
    intro g i j ho e1 e2 e3
    subst e1 e2 e3
    exact ho pins s σ H x y v u Q I rx ry ⟨i, j, hx.int_inv, hy.int_inv, q⟩
  have isn : ∀ {d : D}, Rp X.K G x d → (decide (x = .non)) = (match d with | .none => true | _ => false) := by
    intro d hd
    cases hd <;> simp
  cases op with
  | Eq =>
    unfold cmpD at e
    simp only at e
    split at e
    · rename_i hz
      rw [Bool.and_eq_true] at hz
      cases e
      exact op_eqD hu2 pins s σ H x y v u Q I rx ry ⟨dx, dy, Dp.of sG hx, Dp.of sG hy, hz.1, hz.2, q⟩
    · cases e
  | NotEq =>
    unfold cmpD at e
    simp only at e
    split at e
    · rename_i hz
      rw [Bool.and_eq_true] at hz
      cases e
      exact op_neD hu2 pins s σ H x y v u Q I rx ry ⟨dx, dy, Dp.of sG hx, Dp.of sG hy, hz.1, hz.2, q⟩
    · cases e
  | Lt =>
    unfold cmpD at e
    simp only at e
    split at e
    · cases e
      exact forI op_lt rfl rfl rfl
    · cases e
  | LtE =>
    unfold cmpD at e
    simp only at e
    split at e
    · cases e
      exact forI op_le rfl rfl rfl
    · cases e
  | Gt =>
    unfold cmpD at e
    simp only at e
    split at e
    · cases e
      exact forI op_gt rfl rfl rfl
    · cases e
  | GtE =>
    unfold cmpD at e
    simp only at e
    split at e
    · cases e
      exact forI op_ge rfl rfl rfl
    · cases e
  | Is =>
    unfold cmpD at e
    simp only at e
    split at e
    · cases e
      exact op_isN pins s σ H x y v u Q I rx ry ⟨hy.none_inv, by rw [isn hx]; exact q⟩
    · rename_i hn
      cases e
      refine op_isN pins s σ H x y v u Q I rx ry ⟨hy.none_inv, ?_⟩
      rw [isn hx]
      split
      · exact absurd rfl hn
      · exact q
    · cases e
      exact op_is_bl pins s σ H x y v u Q I rx ry ⟨_, _, hx.bool_inv, hy.bool_inv, by rw [← Bool.beq_eq_decide_eq]; exact q⟩
    · cases e
  | IsNot =>
    unfold cmpD at e
    simp only at e
    split at e
    · cases e
      exact op_notN pins s σ H x y v u Q I rx ry ⟨hy.none_inv, by rw [isn hx]; exact q⟩
    · rename_i hn
      cases e
      refine op_notN pins s σ H x y v u Q I rx ry ⟨hy.none_inv, ?_⟩
      rw [isn hx]
      split
      · exact absurd rfl hn
      · exact q
    · cases e
      exact op_isnot_bl pins s σ H x y v u Q I rx ry ⟨_, _, hx.bool_inv, hy.bool_inv, by rw [← Bool.beq_eq_decide_eq]; exact q⟩
    · cases e
  | In =>
    unfold cmpD at e
    simp only at e
    split at e
    · split at e
      · rename_i hz
        rw [Bool.and_eq_true] at hz
        cases e
        exact op_inD hu pins s σ H x y v u Q I rx ry ⟨dx, _, Dp.of sG hx, Dp.of sG hy, hz.1, hz.2, q⟩
      · cases e
    · split at e
      · rename_i hz
        rw [Bool.and_eq_true] at hz
        cases e
        obtain ⟨as, r1⟩ := Dp.reads I dx x v (Dp.of sG hx) rx
        obtain ⟨bs, r2⟩ := Dp.reads I _ y u (Dp.of sG hy) ry
        exact SeqAt.in_tuple_reads r2 r1 (SeqAt.canLay_of_shaped (d := .tuple _) hz.2) (SeqAt.canLay_of_shaped hz.1) (room_in_shaped (show SeqAt.shaped dx = true from hz.1) hu) ⟨.bl _, H, I, rfl, q⟩
      · cases e
    · cases e
  | NotIn =>
    unfold cmpD at e
    simp only at e
    split at e
    · split at e
      · rename_i hz
        rw [Bool.and_eq_true] at hz
        cases e
        exact op_notInD hu pins s σ H x y v u Q I rx ry ⟨dx, _, Dp.of sG hx, Dp.of sG hy, hz.1, hz.2, q⟩
      · cases e
    · split at e
      · rename_i hz
        rw [Bool.and_eq_true] at hz
        cases e
        obtain ⟨as, r1⟩ := Dp.reads I dx x v (Dp.of sG hx) rx
        obtain ⟨bs, r2⟩ := Dp.reads I _ y u (Dp.of sG hy) ry
        exact SeqAt.notIn_tuple_reads r2 r1 (SeqAt.canLay_of_shaped (d := .tuple _) hz.2) (SeqAt.canLay_of_shaped hz.1) (room_in_shaped (show SeqAt.shaped dx = true from hz.1) hu) ⟨.bl _, H, I, rfl, q⟩
      · cases e
    · cases e
theorem un_negD : UnR X (unaryOp .USub) (rD1 X.K negD) := by
  intro pins s σ H x v Q I rx h
  obtain ⟨G, dx, d, sG, hx, e, q⟩ := h
  cases dx with
  | int i =>
    cases e
    exact un_neg pins s σ H x v Q I rx ⟨i, hx.int_inv, q _ _ _ (Ext.refl sG) (.int _)⟩
  | _ => cases e
theorem Rps.atI {K : PySem.W.Frag} {G : Hp} {vs : List V} {ds : List D} {i : Int} {d : D} (a : Rps K G vs ds) (h : atI ds i = some d) : ∃ v, L2.atI vs i = some v ∧ Rp K G v d := by
  unfold L2.atI at h ⊢
  rw [a.length]
  cases e : ixN ds.length i with
  | none => rw [e] at h; cases h
  | some j =>
    rw [e] at h
    exact Rps.get a (show ds[j]? = some d from h)
theorem ix_D : IxR X (rD2 X.K ixD) := by
  intro value slice pins s σ H x y v u Q I rx ry h hs
  obtain ⟨G, dx, dy, d, sG, hx, hy, e, q⟩ := h
  unfold ixD at e
  split at e
  · rename_i xs i
    obtain ⟨a, vs, rfl, h1, a1⟩ := hx.list_inv
    obtain ⟨z, e2, r⟩ := Rps.atI a1 e
    exact ix_list value slice pins s σ H _ _ v u Q I rx ry ⟨a, vs, i, z, rfl, hy.int_inv, SqL.of (sG _ _ h1), e2, q _ _ _ (Ext.refl sG) r⟩ hs
  · rename_i xs i
    obtain ⟨a, vs, rfl, h1, a1⟩ := hx.tuple_inv
    obtain ⟨z, e2, r⟩ := Rps.atI a1 e
    exact ix_tup value slice pins s σ H _ _ v u Q I rx ry ⟨a, vs, i, z, rfl, hy.int_inv, SqT.mono sG h1, e2, q _ _ _ (Ext.refl sG) r⟩ hs
  · cases e
def rSlD (K : PySem.W.Frag) : V → Option Int → Option Int → Hp → VK → Prop := fun x lo hi H Q => ∃ G dx d, Same G H ∧ Rp K G x dx ∧ slD dx lo hi = some d ∧ ∀ v G' H', Ext G H G' H' → Rp K G' v d → Q v H'
theorem Rps.cut {K : PySem.W.Frag} {G : Hp} {vs : List V} {ds : List D} (a : Rps K G vs ds) (lo hi : Option Int) : Rps K G (cutV vs lo hi) (cutD ds lo hi) := by
  unfold cutV cutD
  rw [a.length]
  exact Rps.take _ (Rps.drop _ a)
theorem sl_D : SlR X (rSlD X.K) := by
  intro pins s σ H x v vl vu lo hi sl Q I rx hs pl pu h
  obtain ⟨G, dx, d, sG, hx, e, q⟩ := h
  unfold slD at e
  split at e
  · cases e
    obtain ⟨a, vs, rfl, h1, a1⟩ := hx.list_inv
    exact sl_list pins s σ H _ v vl vu lo hi sl Q I rx hs pl pu ⟨a, vs, rfl, SqL.of (sG _ _ h1), fun p n => q _ _ _ (Ext.new sG n) (Rp.lnew (sG.free n) (Rps.cut a1 _ _))⟩
  · cases e
    obtain ⟨a, vs, rfl, h1, a1⟩ := hx.tuple_inv
    refine sl_tupA pins s σ H _ v vl vu lo hi sl Q I rx hs pl pu ⟨a, vs, rfl, SqT.mono sG h1, fun hw => q _ _ _ (Ext.refl sG) ?_, fun _ p n => q _ _ _ (Ext.new sG n) (Rp.tnew (sG.free n) (Rps.cut a1 _ _))⟩
    rename_i ys
    have ec : cutD ys lo hi = ys := by
      unfold cutD
      rw [← a1.length, hw.1, hw.2, List.drop_zero, Nat.sub_zero, List.take_of_length_le (by rw [a1.length]; exact Nat.le_refl _)]
    rw [ec]
    exact hx
  · cases e
end
end WM
namespace WM
open PySem PySem.Spec PyProof.Rows L2
open PySem.W (alike dataLe dataLt EachIs minD maxD Sortable sorted_data min_list_data max_list_data alike_unique AlikeAll)
def tup1 : D → Bool
  | .tuple (_ :: _) => true
  | _ => false
def noTup : D → Bool
  | .none => false
  | .tuple _ => false
  | _ => true
def noneB : D → Bool
  | .none => true
  | _ => false
def dpB (xs : List D) : Bool := xs.all fun x => decide (x.depth ≤ 60)
def alB (xs : List D) : Bool := xs.all fun x => xs.all fun y => alike x y
/-- what sorted and min ask of data -/
def sdB (xs : List D) : Bool := alB xs && ((xs.all tup1 || xs.all noTup) && dpB xs)
def mdB (xs : List D) : Bool := alB xs && (xs.all (fun x => !noneB x) && dpB xs)
def srtD (xs : List D) : List D := xs.mergeSort (dataLe false id)
theorem alB_ok {xs : List D} (h : alB xs = true) : ∀ x ∈ xs, ∀ y ∈ xs, alike x y = true := fun x hx y hy => List.all_eq_true.mp (List.all_eq_true.mp h x hx) y hy
theorem dpB_ok {xs : List D} (h : dpB xs = true) : ∀ x ∈ xs, x.depth ≤ 60 := fun x hx => of_decide_eq_true (List.all_eq_true.mp h x hx)
theorem dpB_all : ∀ {xs : List D}, (∀ x ∈ xs, x.depth ≤ 60) → PyData.depthAll xs ≤ 60
  | [], _ => by simp [PyData.depthAll]
  | x :: xs, h => by
    unfold PyData.depthAll
    exact Nat.max_le.mpr ⟨h x (List.mem_cons_self ..), dpB_all fun y hy => h y (List.mem_cons_of_mem _ hy)⟩
section
variable {X : Cx}
theorem each_of {K : PySem.W.Frag} {G : Hp} : ∀ {vs : List V} {us : List Value} {ds : List D}, Vals vs us → Rps K G vs ds → EachIs (fun (u : Value) (d : D) => ∃ x : V, RelV x u ∧ Rp K G x d) us ds
  | _, _, _, .nil, .nil => .nil
  | _, _, _, .cons r rs, .cons h hs => .cons ⟨_, r, h⟩ (each_of rs hs)
theorem of_each {K : PySem.W.Frag} {G : Hp} : ∀ {us : List Value} {ds : List D}, EachIs (fun (u : Value) (d : D) => ∃ x : V, RelV x u ∧ Rp K G x d) us ds → ∃ vs : List V, Vals vs us ∧ Rps K G vs ds
  | _, _, .nil => ⟨[], .nil, .nil⟩
  | _, _, .cons ⟨x, r, h⟩ t => by
    obtain ⟨vs, a, b⟩ := of_each t
    exact ⟨x :: vs, .cons r a, .cons h b⟩
theorem call_sortD (hu : X.A.units + 65 < cLine) : CallR X (.builtin "sorted") (fun vs H Q => ∃ G xs v, Same G H ∧ vs = [v] ∧ Rp X.K G v (.list xs) ∧ sdB xs = true ∧ ∀ v G' H', Ext G H G' H' → Rp X.K G' v (.list (srtD xs)) → Q v H') := by
  intro pins s σ H vs us Q I r h
  obtain ⟨G, xs, v, sG, rfl, h1, hb, q⟩ := h
  obtain ⟨a, ys, rfl, h2, a2⟩ := h1.list_inv
  obtain ⟨u, rfl, ru⟩ := vals1 r
  obtain rfl : u = Value.ref a := ru
  obtain ⟨its, rv, hl, hz⟩ := I.list (SqL.of (sG _ _ h2))
  unfold sdB at hb
  rw [Bool.and_eq_true, Bool.and_eq_true, Bool.or_eq_true] at hb
  obtain ⟨b1, b2, b3⟩ := hb
  have e := each_of rv a2
  have er : EachIs (fun (v : Value) (d : D) => ∃ as, Reads s.heap v (id d) as) its xs := e.mono fun u d ⟨x, r1, r2⟩ => Dp.reads I d x u (Dp.of sG r2) r1
  have hk : Sortable (xs.map id) := by
    rw [List.map_id]
    rcases b2 with b2 | b2
    · refine .inl fun d hd => ?_
      have := List.all_eq_true.mp b2 d hd
      unfold tup1 at this
      split at this
      · exact ⟨_, _, rfl⟩
      · cases this
    · refine .inr fun d hd => ?_
      have := List.all_eq_true.mp b2 d hd
      refine ⟨fun z => ?_, fun zs z => ?_⟩
      · subst z
        cases this
      · subst z
        cases this
  have hlen : its.length = xs.length := e.length
  refine sorted_data (enc := id) (R := fun (u : Value) (d : D) => ∃ x : V, RelV x u ∧ Rp X.K G x d) hl.isList e er (by rw [List.map_id]; exact alB_ok b1) hk (by rw [← a2.length]; exact hz) (fun d hd => ?_) fun out ho eo => ?_
  · have := dpB_ok b3 d hd
    show X.A.units + 2 + d.depth < cLine
    omega
  · obtain ⟨zs, r1, r2⟩ := of_each eo
    obtain ⟨n, hn⟩ := sortedAll_at s.heap its out.toArray
    have hsz : zs.length ≤ sizeLine := by
      rw [r1.length, ho, ← a2.length]
      exact hz
    refine ⟨.ref (s.heap.objs.size + 1), upd H (s.heap.objs.size + 1) (.lst zs), I.laid (t' := s.toks) (fun b o e => sortedAll_old e) (Nat.le_succ _) ⟨hsz, out, n, r1, hn⟩, rfl, ?_⟩
    have hf := I.hok.fresh (Nat.le_succ s.heap.objs.size)
    exact q _ _ _ (Ext.new sG hf) (Rp.lnew (sG.free hf) r2)
theorem minD_mem : ∀ (xs : List D) (x : D), minD x xs ∈ x :: xs
  | [], x => List.mem_cons_self ..
  | y :: ys, x => by
    show minD (if dataLt y x then y else x) ys ∈ _
    have := minD_mem ys (if dataLt y x then y else x)
    rcases List.mem_cons.mp this with e | e
    · rw [e]
      split
      · exact List.mem_cons_of_mem _ (List.mem_cons_self ..)
      · exact List.mem_cons_self ..
    · exact List.mem_cons_of_mem _ (List.mem_cons_of_mem _ e)
theorem each_at {R : Value → D → Prop} : ∀ {us : List Value} {ds : List D} {i : Nat} {u : Value}, EachIs R us ds → us[i]? = some u → ∃ d, d ∈ ds ∧ R u d
  | _, _, i, _, .nil, h => by cases i <;> cases h
  | _, _, 0, _, .cons r _, h => by cases h; exact ⟨_, List.mem_cons_self .., r⟩
  | _, _, i + 1, _, .cons _ t, h => by
    obtain ⟨d, a, b⟩ := each_at (i := i) t (by simpa using h)
    exact ⟨d, List.mem_cons_of_mem _ a, b⟩
theorem call_minD (hc : X.calm = true) (hu : X.A.units + 65 < cLine) : CallR X (.builtin "min") (fun vs H Q => ∃ G x xs v, Same G H ∧ vs = [v] ∧ Rp X.K G v (.list (x :: xs)) ∧ mdB (x :: xs) = true ∧ ∀ v, Rp X.K G v (minD x xs) → Q v H) := by
  intro pins s σ H vs us Q I r h
  obtain ⟨G, x, xs, v, sG, rfl, h1, hb, q⟩ := h
  obtain ⟨a, ys, rfl, h2, a2⟩ := h1.list_inv
  obtain ⟨u, rfl, ru⟩ := vals1 r
  obtain rfl : u = Value.ref a := ru
  obtain ⟨its, rv, hl, hz⟩ := I.list (SqL.of (sG _ _ h2))
  unfold mdB at hb
  rw [Bool.and_eq_true, Bool.and_eq_true] at hb
  obtain ⟨b1, b2, b3⟩ := hb
  have e := each_of rv a2
  obtain ⟨as, ra⟩ := Dp.readsAll I (x :: xs) ys its (Rps.dp (Rps.mono sG a2)) rv
  have hd := dpB_all (dpB_ok b3)
  refine min_list_data (I.ok.hd hc) hl.isList ra ⟨alB_ok b1, fun d hd z => ?_⟩ (by omega) fun i u h' tk bs hi hr hk => ?_
  · subst z
    have := List.all_eq_true.mp b2 _ hd
    cases this
  · obtain ⟨d, hd', w, r1, r2⟩ := each_at e (i := i) (by simpa using hi)
    have I' : L2.Inv X pins σ H { s with heap := h', toks := tk } := I.kept (h' := h') (t' := tk) hk
    obtain ⟨cs, r3⟩ := Dp.reads I' d w u (Dp.of sG r2) r1
    have ed : d = minD x xs := alike_unique d _ u cs bs (alB_ok b1 d hd' _ (minD_mem xs x)) r3 hr
    rw [ed] at r2
    exact ⟨w, H, I', r1, q w r2⟩
theorem maxD_mem : ∀ (xs : List D) (x : D), maxD x xs ∈ x :: xs
  | [], x => List.mem_cons_self ..
  | y :: ys, x => by
    show maxD (if dataLt x y then y else x) ys ∈ _
    have := maxD_mem ys (if dataLt x y then y else x)
    rcases List.mem_cons.mp this with e | e
    · rw [e]
      split
      · exact List.mem_cons_of_mem _ (List.mem_cons_self ..)
      · exact List.mem_cons_self ..
    · exact List.mem_cons_of_mem _ (List.mem_cons_of_mem _ e)
theorem call_maxD (hc : X.calm = true) (hu : X.A.units + 65 < cLine) : CallR X (.builtin "max") (fun vs H Q => ∃ G x xs v, Same G H ∧ vs = [v] ∧ Rp X.K G v (.list (x :: xs)) ∧ mdB (x :: xs) = true ∧ ∀ v, Rp X.K G v (maxD x xs) → Q v H) := by
  intro pins s σ H vs us Q I r h
  obtain ⟨G, x, xs, v, sG, rfl, h1, hb, q⟩ := h
  obtain ⟨a, ys, rfl, h2, a2⟩ := h1.list_inv
  obtain ⟨u, rfl, ru⟩ := vals1 r
  obtain rfl : u = Value.ref a := ru
  obtain ⟨its, rv, hl, hz⟩ := I.list (SqL.of (sG _ _ h2))
  unfold mdB at hb
  rw [Bool.and_eq_true, Bool.and_eq_true] at hb
  obtain ⟨b1, b2, b3⟩ := hb
  have e := each_of rv a2
  obtain ⟨as, ra⟩ := Dp.readsAll I (x :: xs) ys its (Rps.dp (Rps.mono sG a2)) rv
  have hd := dpB_all (dpB_ok b3)
  refine max_list_data (I.ok.hd hc) hl.isList ra ⟨alB_ok b1, fun d hd z => ?_⟩ (by omega) fun i u h' tk bs hi hr hk => ?_
  · subst z
    have := List.all_eq_true.mp b2 _ hd
    cases this
  · obtain ⟨d, hd', w, r1, r2⟩ := each_at e (i := i) (by simpa using hi)
    have I' : L2.Inv X pins σ H { s with heap := h', toks := tk } := I.kept (h' := h') (t' := tk) hk
    obtain ⟨cs, r3⟩ := Dp.reads I' d w u (Dp.of sG r2) r1
    have ed : d = maxD x xs := alike_unique d _ u cs bs (alB_ok b1 d hd' _ (maxD_mem xs x)) r3 hr
    rw [ed] at r2
    exact ⟨w, H, I', r1, q w r2⟩
end
end WM
namespace WM
open PySem PySem.Spec PyProof.Rows L2
inductive Ty where
  | int | bool | str | tuple | list
  deriving DecidableEq
def Ty.nm : Ty → String
  | .int => "int"
  | .bool => "bool"
  | .str => "str"
  | .tuple => "tuple"
  | .list => "list"
def isiD : D → Ty → Option Bool
  | .none, _ => some false
  | .bool _, .int => some true
  | .bool _, .bool => some true
  | .bool _, _ => some false
  | .int _, .int => some true
  | .int _, _ => some false
  | .str _, .str => some true
  | .str _, _ => some false
  | .list _, .list => some true
  | .list _, _ => some false
  | .tuple _, .tuple => some true
  | .tuple _, _ => some false
  | .dict _, _ => none
def dTy : D → String
  | .none => "NoneType"
  | .bool _ => "bool"
  | .int _ => "int"
  | .str _ => "str"
  | .list _ => "list"
  | .tuple _ => "tuple"
  | .dict _ => "dict"
theorem kit_all : ∀ a ∈ ["NoneType", "bool", "int", "str", "list", "tuple"], ∀ t ∈ [Ty.int, .bool, .str, .tuple, .list], kitB a t.nm = some (decide (a = t.nm) || (decide (a = "bool") && decide (t = Ty.int))) := by decide +kernel
theorem kit_isi {K : PySem.W.Frag} {d : D} {t : Ty} {b : Bool} (h : isiD d t = some b) : PySem.W.kitOne K (.type (dTy d)) (.type t.nm) = some b := by
  have ne : ∀ kvs, d ≠ .dict kvs := by
    intro kvs e
    subst e
    cases t <;> cases h
  have key := kit_all (dTy d) (by cases d <;> first | (exact absurd rfl (ne _)) | simp [dTy]) t (by cases t <;> simp)
  refine kit_ty (key.trans ?_)
  cases d <;> cases t <;> first | exact absurd rfl (ne _) | (cases h; rfl)
theorem SqT.ty {K : PySem.W.Frag} {H : Hp} {a : Addr} {xs : List V} (h : SqT K H a xs) : TyX K H (.ref a) (.type "tuple") := by
  rcases h with (h | ⟨o, h⟩) | ⟨o, its, n, hk, hc, _⟩
  · exact .base (.tup h)
  · exact .fTuple h
  · exact .kTuple hk hc
theorem Rp.ty {K : PySem.W.Frag} {H : Hp} {v : V} {d : D} (h : Rp K H v d) : TyX K H v (.type (dTy d)) := by
  cases h with
  | non => exact .base .non
  | bl b => exact .base (.bl b)
  | int i => exact .base (.int i)
  | str x => exact .base (.str x)
  | lst h a => exact .base (.lst h)
  | tup h a => exact SqT.ty h
/-- the built-in functions -/
inductive B where
  | len | abs | mx | mn | sum | all | any | sorted | tuple | list | int | gcd
  deriving DecidableEq
/-- what each is bound to -/
def B.val : B → Value
  | .len => .builtin "len"
  | .abs => .builtin "abs"
  | .mx => .builtin "max"
  | .mn => .builtin "min"
  | .sum => .builtin "sum"
  | .all => .builtin "all"
  | .any => .builtin "any"
  | .sorted => .builtin "sorted"
  | .tuple => .type "tuple"
  | .list => .type "list"
  | .int => .type "int"
  | .gcd => .builtin "math.gcd"
def asInts : List D → Option (List Int)
  | [] => some []
  | .int i :: r => (asInts r).map (i :: ·)
  | _ :: _ => none
def asBools : List D → Option (List Bool)
  | [] => some []
  | .bool b :: r => (asBools r).map (b :: ·)
  | _ :: _ => none
theorem asInts_ok : ∀ {ds : List D} {ns : List Int}, asInts ds = some ns → ds = ns.map PyData.int
  | [], _, h => by cases h; rfl
  | .int i :: r, ns, h => by
    cases q : asInts r with
    | none => simp [asInts, q] at h
    | some ms =>
      simp [asInts, q] at h
      subst h
      rw [asInts_ok q]; rfl
  | .none :: _, _, h => by cases h
  | .bool _ :: _, _, h => by cases h
  | .str _ :: _, _, h => by cases h
  | .list _ :: _, _, h => by cases h
  | .tuple _ :: _, _, h => by cases h
  | .dict _ :: _, _, h => by cases h
theorem asInts_map : ∀ ns : List Int, asInts (ns.map PyData.int) = some ns
  | [] => rfl
  | i :: r => by simp [asInts, asInts_map r]
theorem asBools_ok : ∀ {ds : List D} {ns : List Bool}, asBools ds = some ns → ds = ns.map PyData.bool
  | [], _, h => by cases h; rfl
  | .bool i :: r, ns, h => by
    cases q : asBools r with
    | none => simp [asBools, q] at h
    | some ms =>
      simp [asBools, q] at h
      subst h
      rw [asBools_ok q]; rfl
  | .none :: _, _, h => by cases h
  | .int _ :: _, _, h => by cases h
  | .str _ :: _, _, h => by cases h
  | .list _ :: _, _, h => by cases h
  | .tuple _ :: _, _, h => by cases h
  | .dict _ :: _, _, h => by cases h
theorem asBools_map : ∀ ns : List Bool, asBools (ns.map PyData.bool) = some ns
  | [] => rfl
  | i :: r => by simp [asBools, asBools_map r]
def minL : List Int → Option Int
  | [] => none
  | x :: r => some (r.foldl min x)
def maxL : List Int → Option Int
  | [] => none
  | x :: r => some (r.foldl max x)
theorem foldl_min : ∀ (r : List Int) (x : Int), r.foldl min x ∈ x :: r ∧ ∀ y ∈ x :: r, r.foldl min x ≤ y
  | [], x => by simp
  | a :: r, x => by
    have ih := foldl_min r (min x a)
    rw [List.foldl_cons]
    obtain ⟨h1, h2⟩ := ih
    have h3 := h2 _ List.mem_cons_self
    refine ⟨?_, fun y hy => ?_⟩
    · rcases List.mem_cons.mp h1 with e | e
      · rw [e]
        by_cases q : x ≤ a
        · rw [Int.min_eq_left q]; exact List.mem_cons_self
        · rw [Int.min_eq_right (by omega)]; exact List.mem_cons_of_mem _ List.mem_cons_self
      · exact List.mem_cons_of_mem _ (List.mem_cons_of_mem _ e)
    · rcases List.mem_cons.mp hy with e | hy
      · subst e; exact Int.le_trans h3 (Int.min_le_left _ _)
      · rcases List.mem_cons.mp hy with e | hy
        · subst e; exact Int.le_trans h3 (Int.min_le_right _ _)
        · exact h2 _ (List.mem_cons_of_mem _ hy)
theorem foldl_max : ∀ (r : List Int) (x : Int), r.foldl max x ∈ x :: r ∧ ∀ y ∈ x :: r, y ≤ r.foldl max x
  | [], x => by simp
  | a :: r, x => by
    have ih := foldl_max r (max x a)
    rw [List.foldl_cons]
    obtain ⟨h1, h2⟩ := ih
    have h3 := h2 _ List.mem_cons_self
    refine ⟨?_, fun y hy => ?_⟩
    · rcases List.mem_cons.mp h1 with e | e
      · rw [e]
        by_cases q : x ≤ a
        · rw [Int.max_eq_right q]; exact List.mem_cons_of_mem _ List.mem_cons_self
        · rw [Int.max_eq_left (by omega)]; exact List.mem_cons_self
      · exact List.mem_cons_of_mem _ (List.mem_cons_of_mem _ e)
    · rcases List.mem_cons.mp hy with e | hy
      · subst e; exact Int.le_trans (Int.le_max_left _ _) h3
      · rcases List.mem_cons.mp hy with e | hy
        · subst e; exact Int.le_trans (Int.le_max_right _ _) h3
        · exact h2 _ (List.mem_cons_of_mem _ hy)
/-- sorted ints -/
def insI (x : Int) : List Int → List Int
  | [] => [x]
  | y :: r => if x ≤ y then x :: y :: r else y :: insI x r
def sortI : List Int → List Int
  | [] => []
  | x :: r => insI x (sortI r)
theorem insI_perm (x : Int) : ∀ l, (insI x l).Perm (x :: l)
  | [] => List.Perm.refl _
  | y :: r => by
    unfold insI
    split
    · exact List.Perm.refl _
    · exact (List.Perm.cons y (insI_perm x r)).trans (List.Perm.swap x y r)
theorem sortI_perm : ∀ l, (sortI l).Perm l
  | [] => List.Perm.refl _
  | x :: r => (insI_perm x _).trans (List.Perm.cons x (sortI_perm r))
theorem insI_sorted (x : Int) : ∀ l, l.Pairwise (· ≤ ·) → (insI x l).Pairwise (· ≤ ·)
  | [], _ => by simp [insI]
  | y :: r, h => by
    unfold insI
    obtain ⟨h1, h2⟩ := List.pairwise_cons.mp h
    split
    · rename_i hxy
      refine List.pairwise_cons.mpr ⟨fun z hz => ?_, h⟩
      rcases List.mem_cons.mp hz with e | hz
      · subst e; exact hxy
      · exact Int.le_trans hxy (h1 z hz)
    · rename_i hxy
      refine List.pairwise_cons.mpr ⟨fun z hz => ?_, insI_sorted x r h2⟩
      rcases List.mem_cons.mp ((insI_perm x r).mem_iff.mp hz) with e | hz
      · subst e; omega
      · exact h1 z hz
theorem sortI_sorted : ∀ l, (sortI l).Pairwise (· ≤ ·)
  | [] => .nil
  | x :: r => insI_sorted x _ (sortI_sorted r)
theorem sorted_uniq : ∀ {l m : List Int}, l.Pairwise (· ≤ ·) → m.Pairwise (· ≤ ·) → l.Perm m → l = m
  | [], m, _, _, h => (List.Perm.eq_nil h.symm).symm
  | x :: l, [], _, _, h => absurd h.length_eq (by simp)
  | x :: l, y :: m, hl, hm, h => by
    obtain ⟨a1, a2⟩ := List.pairwise_cons.mp hl
    obtain ⟨b1, b2⟩ := List.pairwise_cons.mp hm
    have h1 : x ≤ y := by
      rcases List.mem_cons.mp (h.mem_iff.mpr List.mem_cons_self) with e | e
      · omega
      · exact a1 _ e
    have h2 : y ≤ x := by
      rcases List.mem_cons.mp (h.mem_iff.mp List.mem_cons_self) with e | e
      · omega
      · exact b1 _ e
    have e : x = y := by omega
    subst e
    rw [sorted_uniq a2 b2 h.cons_inv]
def bltD (b : B) (ds : List D) : Option D := match b, ds with
  | .len, [.list xs] => some (.int xs.length)
  | .len, [.tuple xs] => some (.int xs.length)
  | .len, [.str x] => if x.length ≤ sizeLine then some (.int x.length) else none
  | .abs, [.int i] => some (.int (if i < 0 then -i else i))
  | .mx, [.int i, .int j] => some (.int (if j > i then j else i))
  | .mn, [.int i, .int j] => some (.int (if j < i then j else i))
  | .mx, [.list xs] => (match asInts xs with
    | some ns => (maxL ns).map .int
    | none => (match xs with
      | x :: r => if mdB (x :: r) then some (PySem.W.maxD x r) else none
      | [] => none))
  | .mn, [.list xs] => (match asInts xs with
    | some ns => (minL ns).map .int
    | none => (match xs with
      | x :: r => if mdB (x :: r) then some (PySem.W.minD x r) else none
      | [] => none))
  | .sum, [.list xs] => (asInts xs).map fun ns => .int ns.sum
  | .sum, [.tuple xs] => (asInts xs).map fun ns => .int ns.sum
  | .all, [.list xs] => (asBools xs).map fun ns => .bool (ns.all id)
  | .any, [.list xs] => (asBools xs).map fun ns => .bool (ns.any id)
  | .sorted, [.list xs] => (match asInts xs with
    | some ns => some (.list ((sortI ns).map .int))
    | none => if sdB xs then some (.list (srtD xs)) else none)
  | .tuple, [.list xs] => some (.tuple xs)
  | .tuple, [.tuple xs] => some (.tuple xs)
  | .list, [.list xs] => if xs.length ≤ sizeLine then some (.list xs) else none
  | .list, [.tuple xs] => if xs.length ≤ sizeLine then some (.list xs) else none
  | .int, [.int i] => some (.int i)
  | .int, [.bool k] => some (.int (if k then 1 else 0))
  | .gcd, [.int i, .int j] => some (.int ((Nat.gcd i.natAbs j.natAbs : Nat) : Int))
  | _, _ => none
theorem Rps.one {K : PySem.W.Frag} {G : Hp} {xs : List V} {d : D} (h : Rps K G xs [d]) : ∃ v, xs = [v] ∧ Rp K G v d := by
  cases h with
  | cons h a => cases a; exact ⟨_, rfl, h⟩
theorem Rps.two {K : PySem.W.Frag} {G : Hp} {xs : List V} {d e : D} (h : Rps K G xs [d, e]) : ∃ v w, xs = [v, w] ∧ Rp K G v d ∧ Rp K G w e := by
  cases h with
  | cons h a =>
    obtain ⟨w, rfl, h2⟩ := Rps.one a
    exact ⟨_, _, rfl, h, h2⟩
theorem Rp.lint {K : PySem.W.Frag} {G : Hp} {v : V} {xs : List D} {ns : List Int} (h : Rp K G v (.list xs)) (e : asInts xs = some ns) : ∃ a, v = .ref a ∧ G a = some (.lst (ns.map V.int)) := by
  obtain ⟨a, vs, rfl, h1, a1⟩ := h.list_inv
  rw [asInts_ok e] at a1
  rw [Rps.ints a1] at h1
  exact ⟨a, rfl, h1⟩
theorem Rp.lbool {K : PySem.W.Frag} {G : Hp} {v : V} {xs : List D} {ns : List Bool} (h : Rp K G v (.list xs)) (e : asBools xs = some ns) : ∃ a, v = .ref a ∧ G a = some (.lst (ns.map V.bl)) := by
  obtain ⟨a, vs, rfl, h1, a1⟩ := h.list_inv
  rw [asBools_ok e] at a1
  rw [Rps.bools a1] at h1
  exact ⟨a, rfl, h1⟩
section
variable {X : Cx}
theorem cr_sumT (hc : X.calm = true) : CallR X (.builtin "sum") (fun vs H Q => ∃ (a : Addr) (ns : List Int), vs = [V.ref a] ∧ SqT X.K H a (ns.map V.int) ∧ Q (.int ns.sum) H) := by
  intro pins s σ H vs us Q I r h
  obtain ⟨a, ns, rfl, hs, q⟩ := h
  obtain ⟨its, rv, hl, _⟩ := I.tuple hs
  rw [Vals.ref1 r]
  have hi := rv.ints
  obtain ⟨xs, e⟩ := hi.allInts.items
  have hn : numsOf (intItems xs).toList = ns := by rw [← e]; exact hi.numsOf
  rw [nums_intItems] at hn
  have ht : s.heap.IsTuple a its.toArray := hl
  rw [e] at ht
  refine PySem.W.ktm_sumG (I.ok.hd hc) ht fun h' tk t' hk => ?_
  rw [preSum_eq, List.take_of_length_le (by simp), hn]
  exact ⟨.int _, H, I.kept hk, ⟨_, rfl⟩, q⟩
theorem Rp.tint {K : PySem.W.Frag} {G : Hp} {v : V} {xs : List D} {ns : List Int} (h : Rp K G v (.tuple xs)) (e : asInts xs = some ns) : ∃ a, v = .ref a ∧ SqT K G a (ns.map V.int) := by
  obtain ⟨a, vs, rfl, h1, a1⟩ := h.tuple_inv
  rw [asInts_ok e] at a1
  rw [Rps.ints a1] at h1
  exact ⟨a, rfl, h1⟩
theorem call_blt (hc : X.calm = true) (hu : X.A.units + 65 < cLine) (b : B) : CallR X b.val (rDs X.K (bltD b)) := by
  intro pins s σ H xs us Q I r h
  obtain ⟨G, ds, d, sG, hx, e, q⟩ := h
  unfold bltD at e
  split at e
  · cases e
    obtain ⟨v, rfl, h1⟩ := hx.one
    obtain ⟨a, vs, rfl, h2, a2⟩ := h1.list_inv
    exact call_len_seq pins s σ H _ us Q I r ⟨a, vs, rfl, .inl (SqL.of (sG _ _ h2)), q _ _ _ (Ext.refl sG) (by rw [a2.length]; exact .int _)⟩
  · cases e
    obtain ⟨v, rfl, h1⟩ := hx.one
    obtain ⟨a, vs, rfl, h2, a2⟩ := h1.tuple_inv
    exact call_len_seq pins s σ H _ us Q I r ⟨a, vs, rfl, .inr (SqT.mono sG h2), q _ _ _ (Ext.refl sG) (by rw [a2.length]; exact .int _)⟩
  · split at e
    · rename_i hz
      cases e
      obtain ⟨v, rfl, h1⟩ := hx.one
      rw [h1.str_inv] at r
      exact call_len_str pins s σ H _ us Q I r ⟨_, rfl, hz, q _ _ _ (Ext.refl sG) (.int _)⟩
    · cases e
  · cases e
    obtain ⟨v, rfl, h1⟩ := hx.one
    rw [h1.int_inv] at r
    exact call_abs pins s σ H _ us Q I r ⟨_, rfl, q _ _ _ (Ext.refl sG) (.int _)⟩
  · cases e
    obtain ⟨v, w, rfl, h1, h2⟩ := hx.two
    rw [h1.int_inv, h2.int_inv] at r
    exact call_max2 hc pins s σ H _ us Q I r ⟨_, _, rfl, q _ _ _ (Ext.refl sG) (.int _)⟩
  · cases e
    obtain ⟨v, w, rfl, h1, h2⟩ := hx.two
    rw [h1.int_inv, h2.int_inv] at r
    exact call_min2 hc pins s σ H _ us Q I r ⟨_, _, rfl, q _ _ _ (Ext.refl sG) (.int _)⟩
  · obtain ⟨v, rfl, h1⟩ := hx.one
    rename_i l
    cases en : asInts l with
    | none =>
      rw [en] at e
      simp only at e
      split at e
      · split at e
        · rename_i hb
          cases e
          exact call_maxD hc hu pins s σ H _ us Q I r ⟨G, _, _, v, sG, rfl, h1, hb, fun v r => q v G H (Ext.refl sG) r⟩
        · cases e
      · cases e
    | some ns =>
      rw [en] at e
      obtain ⟨a, rfl, h2⟩ := h1.lint en
      cases ns with
      | nil => cases e
      | cons x r' =>
        cases e
        obtain ⟨m1, m2⟩ := foldl_max r' x
        refine cr_max hc pins s σ H _ us Q I r ⟨a, x :: r', rfl, SqL.of (sG _ _ h2), by simp, fun m h3 h4 => ?_⟩
        have em : m = r'.foldl max x := Int.le_antisymm (m2 m h3) (h4 _ m1)
        rw [em]
        exact q _ _ _ (Ext.refl sG) (.int _)
  · obtain ⟨v, rfl, h1⟩ := hx.one
    rename_i l
    cases en : asInts l with
    | none =>
      rw [en] at e
      simp only at e
      split at e
      · split at e
        · rename_i hb
          cases e
          exact call_minD hc hu pins s σ H _ us Q I r ⟨G, _, _, v, sG, rfl, h1, hb, fun v r => q v G H (Ext.refl sG) r⟩
        · cases e
      · cases e
    | some ns =>
      rw [en] at e
      obtain ⟨a, rfl, h2⟩ := h1.lint en
      cases ns with
      | nil => cases e
      | cons x r' =>
        cases e
        obtain ⟨m1, m2⟩ := foldl_min r' x
        refine cr_min hc pins s σ H _ us Q I r ⟨a, x :: r', rfl, SqL.of (sG _ _ h2), by simp, fun m h3 h4 => ?_⟩
        have em : m = r'.foldl min x := Int.le_antisymm (h4 _ m1) (m2 m h3)
        rw [em]
        exact q _ _ _ (Ext.refl sG) (.int _)
  · obtain ⟨v, rfl, h1⟩ := hx.one
    rename_i l
    cases en : asInts l with
    | none => rw [en] at e; cases e
    | some ns =>
      rw [en] at e
      cases e
      obtain ⟨a, rfl, h2⟩ := h1.lint en
      exact cr_sum hc pins s σ H _ us Q I r ⟨a, ns, rfl, SqL.of (sG _ _ h2), q _ _ _ (Ext.refl sG) (.int _)⟩
  · obtain ⟨v, rfl, h1⟩ := hx.one
    rename_i l
    cases en : asInts l with
    | none => rw [en] at e; cases e
    | some ns =>
      rw [en] at e
      cases e
      obtain ⟨a, rfl, h2⟩ := h1.tint en
      exact cr_sumT hc pins s σ H _ us Q I r ⟨a, ns, rfl, SqT.mono sG h2, q _ _ _ (Ext.refl sG) (.int _)⟩
  · obtain ⟨v, rfl, h1⟩ := hx.one
    rename_i l
    cases en : asBools l with
    | none => rw [en] at e; cases e
    | some ns =>
      rw [en] at e
      cases e
      obtain ⟨a, rfl, h2⟩ := h1.lbool en
      exact cr_all hc pins s σ H _ us Q I r ⟨a, ns, rfl, SqL.of (sG _ _ h2), q _ _ _ (Ext.refl sG) (.bl _)⟩
  · obtain ⟨v, rfl, h1⟩ := hx.one
    rename_i l
    cases en : asBools l with
    | none => rw [en] at e; cases e
    | some ns =>
      rw [en] at e
      cases e
      obtain ⟨a, rfl, h2⟩ := h1.lbool en
      exact cr_any hc pins s σ H _ us Q I r ⟨a, ns, rfl, SqL.of (sG _ _ h2), q _ _ _ (Ext.refl sG) (.bl _)⟩
  · obtain ⟨v, rfl, h1⟩ := hx.one
    rename_i l
    cases en : asInts l with
    | none =>
      rw [en] at e
      simp only at e
      split at e
      · rename_i hb
        cases e
        exact call_sortD hu pins s σ H _ us Q I r ⟨G, _, v, sG, rfl, h1, hb, fun v G' H' ex r => q v G' H' ex r⟩
      · cases e
    | some ns =>
      rw [en] at e
      cases e
      obtain ⟨a, rfl, h2⟩ := h1.lint en
      refine cr_sortedI pins s σ H _ us Q I r ⟨a, ns, rfl, SqL.of (sG _ _ h2), fun ns' p hp hs n => ?_⟩
      rw [sorted_uniq hs (sortI_sorted ns) (hp.trans (sortI_perm ns).symm)]
      exact q _ _ _ (Ext.new sG n) (Rp.lnew (sG.free n) (Rps.of_ints _))
  · cases e
    obtain ⟨v, rfl, h1⟩ := hx.one
    obtain ⟨a, vs, rfl, h2, a2⟩ := h1.list_inv
    exact call_tuple_of pins s σ H _ us Q I r ⟨a, vs, rfl, .inl ⟨SqL.of (sG _ _ h2), fun p n => q _ _ _ (Ext.new sG n) (Rp.tnew (sG.free n) a2)⟩⟩
  · cases e
    obtain ⟨v, rfl, h1⟩ := hx.one
    obtain ⟨a, vs, rfl, h2, a2⟩ := h1.tuple_inv
    exact call_tuple_of pins s σ H _ us Q I r ⟨a, vs, rfl, .inr ⟨SqT.mono sG h2, q _ _ _ (Ext.refl sG) h1⟩⟩
  · split at e <;> cases e
    obtain ⟨v, rfl, h1⟩ := hx.one
    obtain ⟨a, vs, rfl, h2, a2⟩ := h1.list_inv
    exact call_list_of pins s σ H _ us Q I r ⟨a, vs, rfl, .inl (SqL.of (sG _ _ h2)), fun p n => q _ _ _ (Ext.new sG n) (Rp.lnew (sG.free n) a2)⟩
  · split at e <;> cases e
    obtain ⟨v, rfl, h1⟩ := hx.one
    obtain ⟨a, vs, rfl, h2, a2⟩ := h1.tuple_inv
    exact call_list_of pins s σ H _ us Q I r ⟨a, vs, rfl, .inr (SqT.mono sG h2), fun p n => q _ _ _ (Ext.new sG n) (Rp.lnew (sG.free n) a2)⟩
  · cases e
    obtain ⟨v, rfl, h1⟩ := hx.one
    rw [h1.int_inv] at r
    exact call_int1 pins s σ H _ us Q I r (.inl ⟨_, rfl, q _ _ _ (Ext.refl sG) (.int _)⟩)
  · cases e
    obtain ⟨v, rfl, h1⟩ := hx.one
    rw [h1.bool_inv] at r
    exact call_int1 pins s σ H _ us Q I r (.inr ⟨_, rfl, q _ _ _ (Ext.refl sG) (.int _)⟩)
  · cases e
    obtain ⟨v, w, rfl, h1, h2⟩ := hx.two
    rw [h1.int_inv, h2.int_inv] at r
    exact cr_gcd pins s σ H _ us Q I r ⟨_, _, rfl, q _ _ _ (Ext.refl sG) (.int _)⟩
  · cases e
end
end WM
namespace WM
open PySem PySem.Spec PyProof.Rows L2
mutual
inductive Tg where
  | v (i : Nat)
  | t (ts : Tgs)
inductive Tgs where
  | nil
  | cons (t : Tg) (ts : Tgs)
end
mutual
inductive E where
  | lit (d : D)
  | var (i : Nat)
  | raw (i : Nat)
  | bin (op : Operator) (a b : E)
  | neg (a : E)
  | not (a : E)
  | cmp (op : CmpOp) (a b : E)
  | cmp2 (o1 o2 : CmpOp) (a b c : E)
  | cmp3 (o1 o2 o3 : CmpOp) (a b c d : E)
  | and (a b : E)
  | or (a b : E)
  | ite (c a b : E)
  | tup (es : Es)
  | lst (es : Es)
  | ix (a b : E)
  | sl (a : E) (lo hi : Oe)
  | rev (a : E)
  | call (f : Nat) (es : Es)
  | blt (b : B) (es : Es)
  | isi (a : E) (t : Ty)
  | lset (a : E)
  | new (a : E)
  | comp (tg : Tg) (it : I) (c : Oe) (own : List Nat) (elt : E)
inductive Es where
  | nil
  | cons (e : E) (es : Es)
inductive Oe where
  | none
  | some (e : E)
inductive I where
  | val (e : E)
  | rng1 (a : E)
  | rng2 (a b : E)
  | zip (a b : E)
  | zip3 (a b c : E)
  | enum (a : E)
end
mutual
inductive S where
  | set (i : Nat) (e : E)
  | setC (i : Nat) (e : E)
  | unp (tg : Tgs) (e : E)
  | par (is : List Nat) (es : Es)
  | put (i : Nat) (k e : E)
  | app (i : Nat) (e : E)
  | expr (e : E)
  | ite (c : E) (a b : Ss)
  | for (tg : Tg) (it : I) (b : Ss)
  | whl (c : E) (b : Ss)
  | ret (e : E)
  | retN
  | nev
  | brk
  | ctn
  | pas
inductive Ss where
  | nil
  | cons (s : S) (ss : Ss)
end
/-- the same, but the kernel can't open it -/
noncomputable def lock {α : Type} (a : α) : α := (Classical.choice (⟨⟨a, rfl⟩⟩ : Nonempty {x : α // x = a})).1
theorem lock_eq {α : Type} (a : α) : lock a = a := (Classical.choice (⟨⟨a, rfl⟩⟩ : Nonempty {x : α // x = a})).2
abbrev Fn := Nat → List W → Store → Option (W × Store)
def andW {β : Type} (r : Option (W × Store)) (f : W → Store → Option β) : Option β := match r with
  | some (w, st) => f w st
  | none => none
def andD {β : Type} (r : Option (W × Store)) (f : D → Store → Option β) : Option β := match r with
  | some (.d x, st) => f x st
  | _ => none
def okD (d : Option D) (st : Store) : Option (W × Store) := match d with
  | some d => some (.d d, st)
  | none => none
def okB (b : Option Bool) (st : Store) : Option (W × Store) := match b with
  | some b => some (.d (.bool b), st)
  | none => none
def freeze (j : Nat) (st : Store) : Option (W × Store) := match st[j]? with
  | some (.lst _ ds) => some (.d (.list ds), st.set j (.lst true ds))
  | none => none
def rdVar (sl : Sl) (i : Nat) (st : Store) : Option (W × Store) := match sl[i]? with
  | some (some (.d x)) => some (.d x, st)
  | some (some (.m j)) => freeze j st
  | _ => none
def rdRaw (sl : Sl) (i : Nat) (st : Store) : Option (W × Store) := match sl[i]? with
  | some (some w) => some (w, st)
  | _ => none
/-- x[i], x perhaps a cell -/
def ixW (w : W) (y : D) (st : Store) : Option D := match w with
  | .d x => ixD x y
  | .m j => (match st[j]? with
    | some (.lst _ ds) => ixD (.list ds) y
    | none => none)
def bltW (b : B) (ws : List W) (st : Store) : Option D := match allD ws with
  | some ds => bltD b ds
  | none => (match b, ws with
    | .len, [.m j] => (match st[j]? with
      | some (.lst _ ds) => bltD .len [.list ds]
      | none => none)
    | _, _ => none)
@[simp] def mkTup (r : Option (List W × Store)) : Option (W × Store) := match r with
  | some (ws, st) => (match allD ws with
    | some ds => if ds.length ≤ sizeLine then some (.d (.tuple ds), st) else none
    | none => none)
  | none => none
@[simp] def mkLst (r : Option (List W × Store)) : Option (W × Store) := match r with
  | some (ws, st) => (match allD ws with
    | some ds => if ds.length ≤ sizeLine then some (.d (.list ds), st) else none
    | none => none)
  | none => none
@[simp] def revD : D → Option D
  | .tuple xs => some (.tuple xs.reverse)
  | .list xs => some (.list xs.reverse)
  | _ => none
@[simp] def wipeS (sl : Sl) : List Nat → Sl
  | [] => sl
  | v :: vs => (wipeS sl vs).set v none
mutual
@[simp] def stTg : Tg → GM
  | .v i, d, sl => some (sl.set i (some (.d d)))
  | .t ts, d, sl => (match d with
    | .tuple ds => stTgs ts ds sl
    | _ => none)
@[simp] def stTgs : Tgs → List D → Sl → Option Sl
  | .nil, [], sl => some sl
  | .cons t ts, d :: ds, sl => (match stTg t d sl with
    | some sl' => stTgs ts ds sl'
    | none => none)
  | _, _, _ => none
end
/-- a comprehension's turns -/
def compL (g : D → Option Sl) (c : EM) (elt : EM) : List D → Store → Option (List D × Store)
  | [], st => some ([], st)
  | d :: ds, st => (match g d with
    | none => none
    | some sl => andW (c sl st) fun w st1 => (match truW w with
      | none => none
      | some false => compL g c elt ds st1
      | some true => andD (elt sl st1) fun x st2 => (match compL g c elt ds st2 with
        | none => none
        | some (xs, st3) => some (x :: xs, st3))))
noncomputable def compK (g : D → Option Sl) (c : EM) (elt : EM) (ds : List D) (st : Store) : Option (List D × Store) := lock (compL g c elt ds st)
@[simp] theorem compK_eq (g : D → Option Sl) (c : EM) (elt : EM) (ds : List D) (st : Store) : compK g c elt ds st = compL g c elt ds st := lock_eq _
noncomputable def callK (Φ : Fn) (f : Nat) (ws : List W) (st : Store) : Option (W × Store) := lock (Φ f ws st)
@[simp] theorem callK_eq (Φ : Fn) (f : Nat) (ws : List W) (st : Store) : callK Φ f ws st = Φ f ws st := lock_eq _
@[simp] def zipD : List D → List D → List D
  | x :: xs, y :: ys => .tuple [x, y] :: zipD xs ys
  | _, _ => []
@[simp] def enumD : Nat → List D → List D
  | _, [] => []
  | i, x :: xs => .tuple [.int (i : Int), x] :: enumD (i + 1) xs
def rngD (lo : Int) : Nat → List D
  | 0 => []
  | n + 1 => .int lo :: rngD (lo + 1) n
@[simp] def valI : D → Option (List D)
  | .list xs => some xs
  | .tuple xs => some xs
  | _ => none
def okL (l : Option (List D)) (st : Store) : Option (List D × Store) := match l with
  | some l => some (l, st)
  | none => none
@[simp] def zipI (x y : D) : Option (List D) := match x, y with
  | .list xs, .list ys => some (zipD xs ys)
  | .tuple xs, .tuple ys => some (zipD xs ys)
  | _, _ => none
@[simp] def zip3D : List D → List D → List D → List D
  | x :: xs, y :: ys, z :: zs => .tuple [x, y, z] :: zip3D xs ys zs
  | _, _, _ => []
@[simp] def zip3I (x y z : D) : Option (List D) := match x, y, z with
  | .tuple xs, .tuple ys, .tuple zs => some (zip3D xs ys zs)
  | _, _, _ => none
@[simp] def enumI (x : D) : Option (List D) := match x with
  | .list xs => some (enumD 0 xs)
  | .tuple xs => some (enumD 0 xs)
  | _ => none
@[simp] def rngI (x y : D) : Option (List D) := match x, y with
  | .int i, .int j => if -(2 ^ 62) ≤ i ∧ i < 2 ^ 62 ∧ -(2 ^ 62) ≤ j ∧ j < 2 ^ 62 then some (rngD i (j - i).toNat) else none
  | _, _ => none
@[simp] def okC (own : List Nat) (r : Option (List D × Store)) : Option (W × Store) := match r with
  | some (ds, st) => if ds.length ≤ sizeLine then some (.d (.list ds), st) else none
  | none => none
/-- len(set(xs)), xs ints -/
def setL (ns : List Int) : List Int := firstMet (fun i => ns.getD i 0) ns.length
def lsetD : D → Option D
  | .list xs => (match asInts xs with
    | some ns => if ns.length < 4000 then some (.int (setL ns).length) else none
    | none => none)
  | _ => none
/-- a new list, as a cell -/
@[simp] def newE (r : Option (W × Store)) : Option (W × Store) := match r with
  | some (.d (.list ds), st) => some (.m st.length, st ++ [.lst false ds])
  | _ => none
noncomputable def binK (op : Operator) (x y : D) : Option D := lock (binD op x y)
@[simp] theorem binK_eq (op : Operator) (x y : D) : binK op x y = binD op x y := lock_eq _
noncomputable def rngK (x y : D) : Option (List D) := lock (rngI x y)
@[simp] theorem rngK_eq (x y : D) : rngK x y = rngI x y := lock_eq _
@[simp] def asPart (r : D) : Option Int := match r with
  | .int i => some i
  | _ => none
mutual
@[simp] noncomputable def runE (Φ : Fn) : E → Sl → Store → Option (W × Store)
  | .lit d, _, st => some (.d d, st)
  | .var i, sl, st => rdVar sl i st
  | .raw i, sl, st => rdRaw sl i st
  | .bin op a b, sl, st => andD (runE Φ a sl st) fun x st1 => andD (runE Φ b sl st1) fun y st2 => okD (binK op x y) st2
  | .neg a, sl, st => andD (runE Φ a sl st) fun x st1 => okD (negD x) st1
  | .not a, sl, st => andW (runE Φ a sl st) fun w st1 => okB ((truW w).map (! ·)) st1
  | .cmp op a b, sl, st => andD (runE Φ a sl st) fun x st1 => andD (runE Φ b sl st1) fun y st2 => okB (cmpD op x y) st2
  | .cmp2 o1 o2 a b c, sl, st => andD (runE Φ a sl st) fun x st1 => andD (runE Φ b sl st1) fun y st2 => (match cmpD o1 x y with
    | none => none
    | some false => some (.d (.bool false), st2)
    | some true => andD (runE Φ c sl st2) fun z st3 => okB (cmpD o2 y z) st3)
  | .cmp3 o1 o2 o3 a b c e, sl, st => andD (runE Φ a sl st) fun x st1 => andD (runE Φ b sl st1) fun y st2 => (match cmpD o1 x y with
    | none => none
    | some false => some (.d (.bool false), st2)
    | some true => andD (runE Φ c sl st2) fun z st3 => (match cmpD o2 y z with
      | none => none
      | some false => some (.d (.bool false), st3)
      | some true => andD (runE Φ e sl st3) fun u st4 => okB (cmpD o3 z u) st4))
  | .and a b, sl, st => andW (runE Φ a sl st) fun w st1 => (match truW w with
    | none => none
    | some false => some (w, st1)
    | some true => runE Φ b sl st1)
  | .or a b, sl, st => andW (runE Φ a sl st) fun w st1 => (match truW w with
    | none => none
    | some true => some (w, st1)
    | some false => runE Φ b sl st1)
  | .ite c a b, sl, st => andW (runE Φ c sl st) fun w st1 => (match truW w with
    | none => none
    | some true => runE Φ a sl st1
    | some false => runE Φ b sl st1)
  | .tup es, sl, st => mkTup (runEs Φ es sl st)
  | .lst es, sl, st => mkLst (runEs Φ es sl st)
  | .ix a b, sl, st => andW (runE Φ a sl st) fun w st1 => andD (runE Φ b sl st1) fun y st2 => okD (ixW w y st2) st2
  | .sl a lo hi, sl, st => andD (runE Φ a sl st) fun x st1 => (match runO Φ lo sl st1 with
    | none => none
    | some (l, st2) => (match runO Φ hi sl st2 with
      | none => none
      | some (h, st3) => okD (slD x l h) st3))
  | .rev a, sl, st => andD (runE Φ a sl st) fun x st1 => okD (revD x) st1
  | .call f es, sl, st => (match runEs Φ es sl st with
    | none => none
    | some (ws, st1) => callK Φ f ws st1)
  | .blt b es, sl, st => (match runEs Φ es sl st with
    | none => none
    | some (ws, st1) => okD (bltW b ws st1) st1)
  | .isi a t, sl, st => andD (runE Φ a sl st) fun x st1 => okB (isiD x t) st1
  | .new a, sl, st => newE (runE Φ a sl st)
  | .lset a, sl, st => andD (runE Φ a sl st) fun x st1 => okD (lsetD x) st1
  | .comp tg it c own elt, sl, st => (match runI Φ it sl st with
    | none => none
    | some (ds, st1) => okC own (compK (fun d => stTg tg d (wipeS sl own)) (fun sl1 st2 => runC Φ c sl1 st2) (fun sl1 st2 => runE Φ elt sl1 st2) ds st1))
@[simp] noncomputable def runEs (Φ : Fn) : Es → Sl → Store → Option (List W × Store)
  | .nil, _, st => some ([], st)
  | .cons e es, sl, st => andW (runE Φ e sl st) fun w st1 => (match runEs Φ es sl st1 with
    | none => none
    | some (ws, st2) => some (w :: ws, st2))
@[simp] noncomputable def runO (Φ : Fn) : Oe → Sl → Store → Option (Option Int × Store)
  | .none, _, st => some (none, st)
  | .some e, sl, st => andD (runE Φ e sl st) fun x st1 => (match asPart x with
    | none => none
    | some i => some (some i, st1))
/-- a comprehension's test -/
@[simp] noncomputable def runC (Φ : Fn) : Oe → Sl → Store → Option (W × Store)
  | .none, _, st => some (.d (.bool true), st)
  | .some e, sl, st => runE Φ e sl st
@[simp] noncomputable def runI (Φ : Fn) : I → Sl → Store → Option (List D × Store)
  | .val e, sl, st => andD (runE Φ e sl st) fun x st1 => okL (valI x) st1
  | .rng1 a, sl, st => andD (runE Φ a sl st) fun x st1 => okL (rngK (.int 0) x) st1
  | .rng2 a b, sl, st => andD (runE Φ a sl st) fun x st1 => andD (runE Φ b sl st1) fun y st2 => okL (rngK x y) st2
  | .zip a b, sl, st => andD (runE Φ a sl st) fun x st1 => andD (runE Φ b sl st1) fun y st2 => okL (zipI x y) st2
  | .zip3 a b c, sl, st => andD (runE Φ a sl st) fun x st1 => andD (runE Φ b sl st1) fun y st2 => andD (runE Φ c sl st2) fun z st3 => okL (zip3I x y z) st3
  | .enum a, sl, st => andD (runE Φ a sl st) fun x st1 => okL (enumI x) st1
end
@[simp] def setAll : List Nat → List W → Sl → Option Sl
  | [], [], sl => some sl
  | i :: is, w :: ws, sl => setAll is ws (sl.set i (some w))
  | _, _, _ => none
@[simp] def okN (sl : Option Sl) (st : Store) : Option (Fl × Sl × Store) := match sl with
  | some sl => some (.nx, sl, st)
  | none => none
/-- a for loop's turns -/
def forL (g : D → Sl → Option Sl) (b : SM) : List D → SM
  | [], sl, st => some (.nx, sl, st)
  | d :: ds, sl, st => (match g d sl with
    | none => none
    | some sl1 => (match b sl1 st with
      | none => none
      | some (.nx, sl2, st2) => forL g b ds sl2 st2
      | some (.ct, sl2, st2) => forL g b ds sl2 st2
      | some (.bk, sl2, st2) => some (.nx, sl2, st2)
      | some (.ret w, sl2, st2) => some (.ret w, sl2, st2)))
/-- a while loop, at most n turns -/
def whlN (c : EM) (b : SM) : Nat → SM
  | 0, _, _ => none
  | n + 1, sl, st => andW (c sl st) fun w st1 => (match truW w with
    | none => none
    | some false => some (.nx, sl, st1)
    | some true => (match b sl st1 with
      | none => none
      | some (.nx, sl2, st2) => whlN c b n sl2 st2
      | some (.ct, sl2, st2) => whlN c b n sl2 st2
      | some (.bk, sl2, st2) => some (.nx, sl2, st2)
      | some (.ret w, sl2, st2) => some (.ret w, sl2, st2)))
/-- so many turns are tried first -/
def FUEL : Nat := 100000
open Classical in
/-- a while loop that ends -/
noncomputable def whlW (c : EM) (b : SM) : SM := fun sl st => match whlN c b FUEL sl st with
  | some r => some r
  | none => if h : ∃ n r, whlN c b n sl st = some r then some (h.choose_spec.choose) else none
noncomputable def forK (g : D → Sl → Option Sl) (b : SM) (ds : List D) (sl : Sl) (st : Store) : Option (Fl × Sl × Store) := lock (forL g b ds sl st)
@[simp] theorem forK_eq (g : D → Sl → Option Sl) (b : SM) (ds : List D) (sl : Sl) (st : Store) : forK g b ds sl st = forL g b ds sl st := lock_eq _
noncomputable def whlK (c : EM) (b : SM) (sl : Sl) (st : Store) : Option (Fl × Sl × Store) := lock (whlW c b sl st)
@[simp] theorem whlK_eq (c : EM) (b : SM) (sl : Sl) (st : Store) : whlK c b sl st = whlW c b sl st := lock_eq _
/-- a list that is new, as a cell -/
@[simp] def newC (i : Nat) (sl : Sl) (r : Option (W × Store)) : Option (Fl × Sl × Store) := match r with
  | some (.d (.list ds), st) => some (.nx, sl.set i (some (.m st.length)), st ++ [.lst false ds])
  | _ => none
@[simp] def putC (i : Nat) (sl : Sl) (k x : D) (st : Store) : Option (Fl × Sl × Store) := match sl[i]? with
  | some (some (.m j)) => (match st[j]?, k with
    | some (.lst false ds), .int q => (match ixN ds.length q with
      | some n => some (.nx, sl, st.set j (.lst false (ds.set n x)))
      | none => none)
    | _, _ => none)
  | _ => none
@[simp] def appC (i : Nat) (sl : Sl) (x : D) (st : Store) : Option (Fl × Sl × Store) := match sl[i]? with
  | some (some (.m j)) => (match st[j]? with
    | some (.lst false ds) => if ds.length < sizeLine then some (.nx, sl, st.set j (.lst false (ds ++ [x]))) else none
    | _ => none)
  | _ => none
mutual
@[simp] noncomputable def runS (Φ : Fn) : S → Sl → Store → Option (Fl × Sl × Store)
  | .set i e, sl, st => andW (runE Φ e sl st) fun w st1 => some (.nx, sl.set i (some w), st1)
  | .setC i e, sl, st => newC i sl (runE Φ e sl st)
  | .unp ts e, sl, st => andD (runE Φ e sl st) fun x st1 => okN (stTg (.t ts) x sl) st1
  | .par is es, sl, st => (match runEs Φ es sl st with
    | none => none
    | some (ws, st1) => okN (setAll is.reverse ws.reverse sl) st1)
  | .put i k e, sl, st => andD (runE Φ e sl st) fun x st1 => andD (runE Φ k sl st1) fun q st2 => putC i sl q x st2
  | .app i e, sl, st => andD (runE Φ e sl st) fun x st1 => appC i sl x st1
  | .expr e, sl, st => andW (runE Φ e sl st) fun _ st1 => some (.nx, sl, st1)
  | .ite c a b, sl, st => andW (runE Φ c sl st) fun w st1 => (match truW w with
    | none => none
    | some true => runSs Φ a sl st1
    | some false => runSs Φ b sl st1)
  | .for tg it b, sl, st => (match runI Φ it sl st with
    | none => none
    | some (ds, st1) => forK (fun d sl => stTg tg d sl) (fun sl st => runSs Φ b sl st) ds sl st1)
  | .whl c b, sl, st => whlK (fun sl st => runE Φ c sl st) (fun sl st => runSs Φ b sl st) sl st
  | .ret e, sl, st => andW (runE Φ e sl st) fun w st1 => some (.ret w, sl, st1)
  | .retN, sl, st => some (.ret (.d .none), sl, st)
  | .nev, _, _ => none
  | .brk, sl, st => some (.bk, sl, st)
  | .ctn, sl, st => some (.ct, sl, st)
  | .pas, sl, st => some (.nx, sl, st)
noncomputable def runSs (Φ : Fn) : Ss → Sl → Store → Option (Fl × Sl × Store)
  | .nil, sl, st => some (.nx, sl, st)
  | .cons s ss, sl, st => (match runS Φ s sl st with
    | none => none
    | some (.nx, sl1, st1) => runSs Φ ss sl1 st1
    | some r => some r)
end
/-- rows by rows; no rfl, so that the kernel has nothing to open -/
@[simp] theorem runSs_nil (Φ : Fn) (sl : Sl) (st : Store) : runSs Φ .nil sl st = some (.nx, sl, st) := (Eq.refl _).trans rfl
@[simp] theorem runSs_cons (Φ : Fn) (s : S) (ss : Ss) (sl : Sl) (st : Store) : runSs Φ (.cons s ss) sl st = (match runS Φ s sl st with
    | none => none
    | some (.nx, sl1, st1) => runSs Φ ss sl1 st1
    | some r => some r) := (Eq.refl _).trans rfl
/-- what a def hands back; n cells were there at its call -/
def fin (n : Nat) : Option (Fl × Sl × Store) → Option (W × Store)
  | some (.ret (.d x), _, st) => some (.d x, st.take n)
  | some (.ret (.m j), _, st) => if j < n then some (.m j, st.take n) else (match st[j]? with
    | some (.lst _ ds) => some (.d (.list ds), st.take n)
    | none => none)
  | some (.nx, _, st) => some (.d .none, st.take n)
  | _ => none
/-- a def: the parameters, all names, the body -/
structure Fd where
  ps : Nat
  n : Nat
  body : Ss
/-- the slots at a def's start -/
def slots (n : Nat) (ws : List W) : Sl := ws.map some ++ List.replicate (n - ws.length) none
noncomputable def runF (Φ : Fn) (f : Fd) (ws : List W) (st : Store) : Option (W × Store) :=
  if ws.length = f.ps then fin st.length (runSs Φ f.body (slots f.n ws) st) else none
/-- a list of the callee's own, handed back as it is -/
def finN (n : Nat) : Option (Fl × Sl × Store) → Option (W × Store)
  | some (.ret (.m j), _, st) => if j < n then none else (match st[j]? with
    | some (.lst false ds) => some (.d (.list ds), st.take n)
    | _ => none)
  | _ => none
noncomputable def runFN (Φ : Fn) (f : Fd) (ws : List W) (st : Store) : Option (W × Store) :=
  if ws.length = f.ps then finN st.length (runSs Φ f.body (slots f.n ws) st) else none
/-- from here on: the same defs, their lists handed back anew -/
def NEWB : Nat := 100000
/-- the defs of a table, called at most k deep -/
noncomputable def fns (T : List Fd) : Nat → Fn
  | 0 => fun _ _ _ => none
  | k + 1 => fun f ws st => if f < NEWB then (match T[f]? with
    | some fd => runF (fns T k) fd ws st
    | none => none) else (match T[f - NEWB]? with
    | some fd => runFN (fns T k) fd ws st
    | none => none)
end WM
namespace WM
open PySem PySem.Spec PyProof.Rows L2
/-- what a global name stands for -/
inductive GV where
  | fn (i n : Nat)
  | con (d : D)
  | bi (b : B)
  | ty (t : Ty)
  | isi
  | set
  | rng
  | zip
  | enum
structure CE where
  N : List Str
  sc : Scope
  own : List Str
  gl : List (Str × GV)
  cells : List Str
def visB (sc : Scope) (x : Str) : Bool := match sc.names.lookup x with
  | some .local => true
  | some .cell => true
  | some .free => true
  | _ => false
def glB (sc : Scope) (x : Str) : Bool := match sc.names.lookup x with
  | some .globalImplicit => true
  | _ => false
def slotOf (C : CE) (x : Str) : Option Nat := match C.N.findIdx? (fun y => decide (y = x)) with
  | some i => if visB C.sc x then some i else none
  | none => none
def stOf (C : CE) (x : Str) : Option Nat := match C.N.findIdx? (fun y => decide (y = x)) with
  | some i => if decide (x ∈ C.own) then some i else none
  | none => none
def globOf (C : CE) (x : Str) : Option GV := if glB C.sc x then C.gl.lookup x else none
def constD : Const → Option D
  | .int i => some (.int i)
  | .bool b => some (.bool b)
  | .none => some .none
  | .str s => some (.str s)
  | _ => none
def tyOf : GV → Option Ty
  | .bi .int => some .int
  | .bi .tuple => some .tuple
  | .bi .list => some .list
  | .ty t => some t
  | _ => none
def okBin : Operator → Bool
  | .Add | .Sub | .Mult | .FloorDiv | .Mod | .Pow | .LShift | .RShift | .BitAnd | .BitOr => true
  | _ => false
mutual
def tgSlots : Tg → List Nat
  | .v i => [i]
  | .t ts => tgsSlots ts
def tgsSlots : Tgs → List Nat
  | .nil => []
  | .cons t ts => tgSlots t ++ tgsSlots ts
end
def tgsLen : Tgs → Nat
  | .nil => 0
  | .cons _ ts => tgsLen ts + 1
mutual
def cmpT : Nat → CE → Expr → Option Tg
  | 0, _, _ => none
  | n + 1, C, e => (match e with
    | .Name x _ => (stOf C x).map .v
    | .Tuple es _ _ => (cmpTs n C es).map .t
    | _ => none)
def cmpTs : Nat → CE → List Expr → Option Tgs
  | 0, _, _ => none
  | n + 1, C, es => (match es with
    | [] => some .nil
    | e :: es => (match cmpT n C e, cmpTs n C es with
      | some t, some ts => some (.cons t ts)
      | _, _ => none))
end
/-- the comprehension's own names, by place -/
def ownOf (C : CE) (scope : Scope) : List (Str × Nat) := scope.names.filterMap fun y => match y.2 with
  | .local => (C.N.findIdx? (fun z => decide (z = y.1))).map fun i => (y.1, i)
  | .cell => (C.N.findIdx? (fun z => decide (z = y.1))).map fun i => (y.1, i)
  | _ => none
def blkE (C : CE) (scope : Scope) : CE := { C with sc := relS scope C.sc, own := scope.names.filterMap fun y => match y.2 with
  | .local => if scope.names.lookup y.1 = some .local then some y.1 else none
  | .cell => if scope.names.lookup y.1 = some .cell then some y.1 else none
  | _ => none }
def isNone1 : Expr → Bool
  | .UnaryOp .USub (.Constant (.int 1) _ _) _ => true
  | _ => false
/-- the xs of len(set(xs)) -/
def setArg (C : CE) (b : B) : List Expr → Option Expr
  | [.Call (.Name s _) [a] [] _] => (match globOf C s with
    | some .set => if b = .len ∧ s = ("set" : Str) then some a else none
    | _ => none)
  | _ => none
mutual
def cmpE : Nat → CE → Expr → Option E
  | 0, _, _ => none
  | n + 1, C, e => (match e with
    | .Constant c _ _ => (constD c).map .lit
    | .Name x _ => (match slotOf C x with
      | some i => some (.var i)
      | none => (match globOf C x with
        | some (.con d) => some (.lit d)
        | _ => none))
    | .BinOp a op b _ => (match cmpE n C a, cmpE n C b with
      | some a', some b' => if okBin op then some (.bin op a' b') else none
      | _, _ => none)
    | .UnaryOp .USub a _ => (cmpE n C a).map .neg
    | .UnaryOp .Not a _ => (cmpE n C a).map .not
    | .BoolOp op [a] _ => cmpE n C a
    | .BoolOp .And (a :: b :: r) pos => (match cmpE n C a, cmpE n C (.BoolOp .And (b :: r) pos) with
      | some a', some b' => some (.and a' b')
      | _, _ => none)
    | .BoolOp .Or (a :: b :: r) pos => (match cmpE n C a, cmpE n C (.BoolOp .Or (b :: r) pos) with
      | some a', some b' => some (.or a' b')
      | _, _ => none)
    | .Compare a [op] [b] _ => (match cmpE n C a, cmpE n C b with
      | some a', some b' => if behindInMarks op b then none else some (.cmp op a' b')
      | _, _ => none)
    | .Compare a [o1, o2] [b, c] _ => (match cmpE n C a, cmpE n C b, cmpE n C c with
      | some a', some b', some c' => if lastMarks [o1, o2] [b, c] then none else some (.cmp2 o1 o2 a' b' c')
      | _, _, _ => none)
    | .Compare a [o1, o2, o3] [b, c, d] _ => (match cmpE n C a, cmpE n C b, cmpE n C c, cmpE n C d with
      | some a', some b', some c', some d' => if lastMarks [o1, o2, o3] [b, c, d] then none else some (.cmp3 o1 o2 o3 a' b' c' d')
      | _, _, _, _ => none)
    | .IfExp c a b _ => (match cmpE n C c, cmpE n C a, cmpE n C b with
      | some c', some a', some b' => some (.ite c' a' b')
      | _, _, _ => none)
    | .Tuple es _ _ => (cmpEs n C es).map .tup
    | .List es _ => (cmpEs n C es).map .lst
    | .Subscript a (.Slice lo hi none _) _ => (match cmpE n C a, cmpO n C lo, cmpO n C hi with
      | some a', some l, some h => some (.sl a' l h)
      | _, _, _ => none)
    | .Subscript a (.Slice none none (some (.UnaryOp .USub (.Constant (.int 1) _ _) _)) _) _ => (cmpE n C a).map .rev
    | .Subscript a b _ => (match cmpR n C a, cmpE n C b with
      | some a', some b' => some (.ix a' b')
      | _, _ => none)
    | .Call (.Name x _) (a :: as) [] _ => (match globOf C x with
      | some (.fn i k) => (match cmpRs n C (a :: as) with
        | some es => if (a :: as).length = k then some (.call i es) else none
        | none => none)
      | some (.bi b) => (match setArg C b (a :: as) with
        | some a1 => if x = ("len" : Str) then (cmpE n C a1).map .lset else none
        | none => (match b with
          | .len => (cmpRs n C (a :: as)).map (.blt b)
          | _ => (cmpEs n C (a :: as)).map (.blt b)))
      | some .isi => (match as with
        | [.Name t _] => (match cmpE n C a, (globOf C t).bind tyOf with
          | some a', some t' => some (.isi a' t')
          | _, _ => none)
        | _ => none)
      | _ => none)
    | .ListComp elt [⟨tg, iter, ifs, 0⟩] scope _ => (match cmpI n C tg iter, cmpT n (blkE C scope) tg, cmpC n (blkE C scope) ifs, cmpE n (blkE C scope) elt with
      | some it, some t, some c, some e' => if blkC C.N C.sc scope (ownOf C scope) && decide (∀ i ∈ tgSlots t, i ∈ (ownOf C scope).map (·.2)) then some (.comp t it c ((ownOf C scope).map (·.2)) e') else none
      | _, _, _, _ => none)
    | _ => none)
/-- a cell as it is -/
def cmpR : Nat → CE → Expr → Option E
  | 0, _, _ => none
  | n + 1, C, e => (match e with
    | .Name x _ => (match slotOf C x with
      | some i => some (.raw i)
      | none => cmpE n C e)
    | _ => cmpE n C e)
def cmpEs : Nat → CE → List Expr → Option Es
  | 0, _, _ => none
  | n + 1, C, es => (match es with
    | [] => some .nil
    | e :: es => (match cmpE n C e, cmpEs n C es with
      | some a, some b => some (.cons a b)
      | _, _ => none))
def cmpRs : Nat → CE → List Expr → Option Es
  | 0, _, _ => none
  | n + 1, C, es => (match es with
    | [] => some .nil
    | e :: es => (match cmpR n C e, cmpRs n C es with
      | some a, some b => some (.cons a b)
      | _, _ => none))
def cmpO : Nat → CE → Option Expr → Option Oe
  | 0, _, _ => none
  | n + 1, C, e => (match e with
    | none => some .none
    | some e => (cmpE n C e).map .some)
def cmpC : Nat → CE → List Expr → Option Oe
  | 0, _, _ => none
  | n + 1, C, es => (match es with
    | [] => some .none
    | [e] => (cmpE n C e).map .some
    | _ => none)
def cmpI : Nat → CE → Expr → Expr → Option I
  | 0, _, _, _ => none
  | n + 1, C, tg, e => (match e with
    | .Call (.Name x _) [a] [] _ => (match globOf C x with
      | some .rng => (cmpE n C a).map .rng1
      | some .enum => (match tg with
        | .Tuple _ _ _ => (cmpE n C a).map .enum
        | _ => none)
      | _ => (cmpE n C e).map .val)
    | .Call (.Name x _) [a, b] [] _ => (match globOf C x with
      | some .rng => (match cmpE n C a, cmpE n C b with
        | some a', some b' => some (.rng2 a' b')
        | _, _ => none)
      | some .zip => (match tg, cmpE n C a, cmpE n C b with
        | .Tuple _ _ _, some a', some b' => some (.zip a' b')
        | _, _, _ => none)
      | _ => (cmpE n C e).map .val)
    | .Call (.Name x _) [a, b, c] [] _ => (match globOf C x with
      | some .zip => (match tg, cmpE n C a, cmpE n C b, cmpE n C c with
        | .Tuple _ _ _, some a', some b', some c' => some (.zip3 a' b' c')
        | _, _, _, _ => none)
      | _ => (cmpE n C e).map .val)
    | _ => (cmpE n C e).map .val)
end
/-- how the names of a row of targets are stored: from the right (some names), or by unpacking (none); none at all: not served -/
def swapB (C : CE) (ts vs : List Expr) : Option (Option (List Str)) :=
  if !(ts.length == 2 || ts.length == 3) || vs.length != ts.length then some none
  else if vs.any fun | .Starred .. => true | _ => false then none
  else
    let line := (ts.head?.map (·.pos.line)).getD 0
    let names := ts.filterMap fun
      | .Name id pos => if C.sc.names.lookup id == some .local && pos.line == line then some id else none
      | _ => none
    if names.length != ts.length || names.eraseDups.length != names.length then some none
    else if vs.all (foldedForSure 8) then some none
    else if vs.all (constantsAlone 8) then none
    else some (some names)
/-- x = [..] on one line, x a local: the comprehension lays the list into x itself -/
def swapsB (C : CE) (x : Str) (line vline : Nat) (scope : Scope) : Bool :=
  decide (C.sc.names.lookup x = some .local) && (line == vline) && !(scope.names.any fun (n, k) => n == x && (k == .local || k == .cell))
def isLC : Expr → Bool
  | .ListComp .. => true
  | .SetComp .. => true
  | .DictComp .. => true
  | _ => false
/-- a list that is new -/
def cmpN : Nat → CE → Expr → Option E
  | 0, _, _ => none
  | n + 1, C, e => (match e with
    | .List es _ => (cmpEs n C es).map .lst
    | .BinOp (.List es _) .Mult b _ => (match cmpEs n C es, cmpE n C b with
      | some es', some b' => some (.bin .Mult (.lst es') b')
      | _, _ => none)
    | .BinOp a .Add (.List es _) _ => (match cmpE n C a, cmpEs n C es with
      | some a', some es' => some (.bin .Add a' (.lst es'))
      | _, _ => none)
    | .Subscript a (.Slice lo hi none _) _ => (match cmpE n C a, cmpO n C lo, cmpO n C hi with
      | some a', some l, some h => some (.bin .Add (.sl a' l h) (.lst .nil))
      | _, _, _ => none)
    | .Call (.Name x _) (a :: as) [] _ => (match globOf C x with
      | some (.fn i k) => (match cmpRs n C (a :: as) with
        | some es => if (a :: as).length = k then some (.call (NEWB + i) es) else none
        | none => none)
      | some (.bi .list) => (match as with
        | [] => (cmpE n C a).map fun a' => .blt .list (.cons a' .nil)
        | _ => none)
      | _ => none)
    | _ => none)
/-- values for names, new lists for cells -/
def cmpPs : Nat → CE → List Str → List Expr → Option Es
  | 0, _, _, _ => none
  | n + 1, C, xs, es => (match xs, es with
    | [], [] => some .nil
    | x :: xs, e :: es => (match (if decide (x ∈ C.cells) then (cmpN n C e).map E.new else cmpE n C e), cmpPs n C xs es with
      | some a, some b => some (.cons a b)
      | _, _ => none)
    | _, _ => none)
def stsOf (C : CE) : List Str → Option (List Nat)
  | [] => some []
  | x :: xs => (match stOf C x, stsOf C xs with
    | some i, some is => some (i :: is)
    | _, _ => none)
mutual
def cmpS : Nat → CE → Stmt → Option S
  | 0, _, _ => none
  | n + 1, C, s => (match s with
    | .Assign [.Name x _] e _ => if decide (x ∈ C.cells) then (match stOf C x, cmpN n C e with
        | some i, some e' => some (.setC i e')
        | _, _ => none)
      else (match stOf C x, cmpE n C e with
        | some i, some e' => some (.set i e')
        | _, _ => none)
    | .Assign [.Tuple ts _ _] e pos => (match e with
      | .Tuple vs _ _ => (match swapB C ts vs with
        | some (some xs) => (match stsOf C xs, cmpPs n C xs vs with
          | some is, some es => some (.par is es)
          | _, _ => none)
        | some none => (match cmpTs n C ts, cmpE n C e with
          | some tg, some e' => some (.unp tg e')
          | _, _ => none)
        | none => none)
      | _ => (match cmpTs n C ts, cmpE n C e with
        | some tg, some e' => if isLC e then none else some (.unp tg e')
        | _, _ => none))
    | .Assign [.Subscript (.Name x _) k _] e _ => (match slotOf C x, cmpE n C k, cmpE n C e with
      | some i, some k', some e' => if isLC e then none else some (.put i k' e')
      | _, _, _ => none)
    | .Expr (.Call (.Attribute (.Name x _) a apos) [e] [] cpos) _ => (match slotOf C x, cmpE n C e with
      | some i, some e' => if decide (a = "append") && (apos.endLine == cpos.line) then some (.app i e') else none
      | _, _ => none)
    | .Expr (.Call f as [] p) _ => (cmpE n C (.Call f as [] p)).map .expr
    | .If c a b _ => (match cmpE n C c, cmpSs n C a, cmpSs n C b with
      | some c', some a', some b' => some (.ite c' a' b')
      | _, _, _ => none)
    | .For tg it b [] _ => (match cmpI n C tg it, cmpT n C tg, cmpSs n C b with
      | some i, some t, some b' => some (.for t i b')
      | _, _, _ => none)
    | .While c b [] _ => (match cmpE n C c, cmpSs n C b with
      | some c', some b' => some (.whl c' b')
      | _, _ => none)
    | .Return (some e) _ => (cmpR n C e).map .ret
    | .Return none _ => some .retN
    | .Raise _ _ _ => some .nev
    | .Pass _ => some .pas
    | .Break _ => some .brk
    | .Continue _ => some .ctn
    | _ => none)
def cmpSs : Nat → CE → List Stmt → Option Ss
  | 0, _, _ => none
  | n + 1, C, ss => (match ss with
    | [] => some .nil
    | s :: ss => (match cmpS n C s, cmpSs n C ss with
      | some a, some b => some (.cons a b)
      | _, _ => none))
end
end WM
namespace WM
open PySem PySem.Spec PyProof.Rows L2
theorem andW_some {β : Type} {r : Option (W × Store)} {f : W → Store → Option β} {z : β} (h : andW r f = some z) : ∃ w st, r = some (w, st) ∧ f w st = some z := by
  unfold andW at h
  split at h
  · exact ⟨_, _, rfl, h⟩
  · cases h
theorem andD_some {β : Type} {r : Option (W × Store)} {f : D → Store → Option β} {z : β} (h : andD r f = some z) : ∃ x st, r = some (.d x, st) ∧ f x st = some z := by
  unfold andD at h
  split at h
  · exact ⟨_, _, rfl, h⟩
  · cases h
theorem okD_some {d : Option D} {st : Store} {z : W × Store} (h : okD d st = some z) : ∃ x, d = some x ∧ z = (.d x, st) := by
  unfold okD at h
  split at h
  · cases h; exact ⟨_, rfl, rfl⟩
  · cases h
theorem okB_some {d : Option Bool} {st : Store} {z : W × Store} (h : okB d st = some z) : ∃ x, d = some x ∧ z = (.d (.bool x), st) := by
  unfold okB at h
  split at h
  · cases h; exact ⟨_, rfl, rfl⟩
  · cases h
theorem okL_some {d : Option (List D)} {st : Store} {z : List D × Store} (h : okL d st = some z) : ∃ x, d = some x ∧ z = (x, st) := by
  unfold okL at h
  split at h
  · cases h; exact ⟨_, rfl, rfl⟩
  · cases h
/-- a def's promise: it hands back what g says -/
def spD (K : PySem.W.Frag) (g : List W → Store → Option (W × Store)) (n : Nat) : Sp := fun vs H Q _ => vs.length = n ∧ ∃ P ca G st ws w st', HM K P ca G H st ∧ RWs K ca G vs ws ∧ g ws st = some (w, st') ∧
  ∀ v G' H', Same G G' → HM K P ca G' H' st' → RW K ca G' v w → Q v H'
/-- .. a list that is new -/
def spN (K : PySem.W.Frag) (g : List W → Store → Option (W × Store)) (n : Nat) : Sp := fun vs H Q _ => vs.length = n ∧ ∃ P ca G st ws w st', HM K P ca G H st ∧ RWs K ca G vs ws ∧ g ws st = some (w, st') ∧
  ∀ p xs ds G' H', w = .d (.list ds) → Same G G' → HM K P ca G' H' st' → H' p = some (.lst xs) → G' p = none → p ∉ ca → P p = none → Rps K G' xs ds → xs.length ≤ sizeLine → Q (.ref p) H'
def GOk (Φ : Fn) (k : Nat) (X : Cx) (x : Str) : GV → Prop
  | .fn i n => ∃ f fd ps, X.mg x = some (.ref f) ∧ PySem.W.keepIn X.K (.ref f) = true ∧ Binds X.K fd ps [] ∧ ps.length = n ∧ FnOk X.prog X.w X.K X.mg X.base CX0 k f fd ps (spD X.K (Φ i) n) ∧ FnOk X.prog X.w X.K X.mg X.base CX0 k f fd ps (spN X.K (Φ (NEWB + i)) n)
  | .con d => ∃ v u, X.mg x = some u ∧ RelV v u ∧ ∀ G, Rp X.K G v d
  | .bi b => (b ≠ .gcd ∧ X.mg x = none ∧ bootBuiltins x = some b.val) ∨ (b = .gcd ∧ X.mg x = some b.val)
  | .ty t => X.mg x = none ∧ bootBuiltins x = some (.type t.nm)
  | .isi => X.mg x = none ∧ bootBuiltins x = some (.builtin "isinstance")
  | .set => X.mg x = none
  | .rng => X.mg x = none ∧ x = "range"
  | .zip => X.mg x = none ∧ x = "zip"
  | .enum => X.mg x = none ∧ x = "enumerate"
structure XOk (Φ : Fn) (k : Nat) (X : Cx) (C : CE) : Prop where
  hN : X.N = C.N
  hsc : X.env.scope = C.sc
  kd : C.sc.kind = .function
  nd : C.N.Nodup
  calm : X.calm = true
  dbg : ∀ x ∈ C.N, (x == ("__debug__" : Str)) = false ∧ (x == ("__classdict__" : Str)) = false
  own : ∀ x ∈ C.own, Loc C.sc x ∧ (X.fn x = true ∨ C.sc.names.lookup x = some .local)
  gdbg : ∀ x g, C.gl.lookup x = some g → (x == ("__debug__" : Str)) = false ∧ x ≠ ("__name__" : Str)
  gl : ∀ x g, C.gl.lookup x = some g → GOk Φ k X x g
  room : Room k X.A
  xe : X.xe = fun _ _ => False
section
variable {Φ : Fn} {k : Nat} {X : Cx} {C : CE}
theorem XOk.pass (x : XOk Φ k X C) : PassesOwn (model X.prog X.w) X.A X.env X.xe := by
  rw [x.xe]
  exact PassesOwn.never
theorem XOk.u65 (x : XOk Φ k X C) : X.A.units + 65 < cLine := by
  have := x.room.un
  omega
theorem XOk.u64 (x : XOk Φ k X C) : X.A.units + 64 < cLine := x.room.units
theorem findIdx_ok {N : List Str} {x : Str} {i : Nat} (h : N.findIdx? (fun y => decide (y = x)) = some i) : N[i]? = some x := by
  obtain ⟨h1, h2, h3⟩ := List.findIdx?_eq_some_iff_getElem.mp h
  have e : N[i] = x := of_decide_eq_true h2
  rw [List.getElem?_eq_getElem h1, e]
theorem slotOf_ok (x : XOk Φ k X C) {y : Str} {i : Nat} (h : slotOf C y = some i) : X.N[i]? = some y ∧ Vis X.env.scope y ∧ (y == ("__debug__" : Str)) = false ∧ (y == ("__classdict__" : Str)) = false := by
  unfold slotOf at h
  split at h
  · rename_i j hj
    split at h
    · rename_i hv
      cases h
      have e := findIdx_ok hj
      have d := x.dbg y (List.mem_of_getElem? e)
      refine ⟨by rw [x.hN]; exact e, ?_, d.1, d.2⟩
      rw [x.hsc]
      unfold visB at hv
      unfold Vis
      split at hv <;> simp_all
    · cases h
  · cases h
theorem stOf_ok (x : XOk Φ k X C) {y : Str} {i : Nat} (h : stOf C y = some i) : X.N[i]? = some y ∧ Loc X.env.scope y ∧ (X.fn y = true ∨ X.env.scope.names.lookup y = some .local) := by
  unfold stOf at h
  split at h
  · rename_i j hj
    split at h
    · rename_i hv
      cases h
      have e := findIdx_ok hj
      have d := x.own y (of_decide_eq_true hv)
      refine ⟨by rw [x.hN]; exact e, ?_, ?_⟩
      · rw [x.hsc]; exact d.1
      · rw [x.hsc]; exact d.2
    · cases h
  · cases h
theorem globOf_ok (x : XOk Φ k X C) {y : Str} {g : GV} (h : globOf C y = some g) : Gl X y ∧ GOk Φ k X y g ∧ (y == ("__debug__" : Str)) = false ∧ y ≠ ("__name__" : Str) := by
  unfold globOf at h
  split at h
  · rename_i hg
    refine ⟨?_, x.gl y g h, x.gdbg y g h⟩
    show X.env.scope.names.lookup y = some .globalImplicit
    rw [x.hsc]
    unfold glB at hg
    split at hg
    · assumption
    · cases hg
  · cases h
variable {e a b c d : Expr} {fa fb fc fd : EM} {pos : Pos}
theorem se_lit {t : D} {v : V} (h : PE X e (tC v)) (r : ∀ G, Rp X.K G v t) : PE X e (tE X.K fun _ st => some (.d t, st)) :=
  h.weak fun σ H Q ⟨P, ca, G, sl, st, w, st', hm, hs, e, q⟩ => by
    cases e
    exact q v ca G H Nxt.refl hm (r G)
theorem freeze_ok {K : PySem.W.Frag} {ca : List Addr} {G H : Hp} {st st' : Store} {j : Nat} {w : W} {a : Addr} (hm : HM K P ca G H st) (ha : ca[j]? = some a) (h : freeze j st = some (w, st')) :
    ∃ G', Nxt ca G ca G' ∧ HM K P ca G' H st' ∧ RW K ca G' (.ref a) w := by
  unfold freeze at h
  split at h
  · rename_i fz ds hj
    cases h
    obtain ⟨xs, h1, h2, hz, h3⟩ := hm.cell j a _ ha hj
    cases fz with
    | true =>
      have h3 : G a = some (.lst xs) := h3
      have es : st.set j (.lst true ds) = st := by
        refine List.ext_getElem? fun i => ?_
        by_cases hi : j = i
        · subst hi
          rw [List.getElem?_set_self (List.getElem?_eq_some_iff.mp hj).1, hj]
        · rw [List.getElem?_set_ne hi]
      rw [es]
      exact ⟨G, Nxt.refl, hm, .lst h3 h2⟩
    | false =>
      have h3 : G a = none := h3
      refine ⟨upd G a (.lst xs), Nxt.of (same_upd h3), ⟨fun b o e => ?_, by rw [List.length_set]; exact hm.len, hm.nd, fun i b c e1 e2 => ?_, hm.prot, hm.pdis, fun b u q => by
        rw [upd_ne (fun z => by subst z; rw [hm.pdis b (List.mem_of_getElem? ha)] at q; cases q)]
        exact hm.pg b u q⟩, .lst upd_same (Rps.mono (same_upd h3) h2)⟩
      · by_cases hb : b = a
        · subst hb
          rw [upd_same] at e
          rw [← e]
          exact h1
        · rw [upd_ne hb] at e
          exact hm.sub _ _ e
      · by_cases hi : j = i
        · subst hi
          rw [ha] at e1
          cases e1
          rw [List.getElem?_set_self (List.getElem?_eq_some_iff.mp hj).1] at e2
          cases e2
          exact ⟨xs, h1, Rps.mono (same_upd h3) h2, hz, upd_same⟩
        · rw [List.getElem?_set_ne hi] at e2
          have hne : b ≠ a := fun z => by
            subst z
            obtain ⟨l1, e1'⟩ := List.getElem?_eq_some_iff.mp e1
            obtain ⟨l2, e2'⟩ := List.getElem?_eq_some_iff.mp ha
            exact hi ((List.getElem_inj hm.nd).mp (e2'.trans e1'.symm))
          cases c with
          | lst fz' ds' =>
            obtain ⟨ys, g1, g2, gz, g3⟩ := hm.cell i b _ e1 e2
            refine ⟨ys, g1, Rps.mono (same_upd h3) g2, gz, ?_⟩
            cases fz' with
            | true =>
              show upd G a (.lst xs) b = _
              rw [upd_ne hne]
              exact g3
            | false =>
              show upd G a (.lst xs) b = _
              rw [upd_ne hne]
              exact g3
  · cases h
theorem se_var {i : Nat} (h : PE X e (tVar i)) : PE X e (tE X.K fun sl st => rdVar sl i st) :=
  h.weak fun σ H Q ⟨P, ca, G, sl, st, w, st', hm, hs, e, q⟩ => by
    replace e : rdVar sl i st = _ := e
    unfold rdVar at e
    split at e
    · rename_i x hx
      cases e
      obtain ⟨v, e1, r⟩ := hs.at_ i _ hx
      exact ⟨v, e1, q v ca G H Nxt.refl hm r⟩
    · rename_i j hx
      obtain ⟨v, e1, a, ha, ev⟩ := hs.at_ i _ hx
      subst ev
      obtain ⟨G', n, hm', r⟩ := freeze_ok hm ha e
      exact ⟨_, e1, q _ ca G' H n hm' r⟩
    · cases e
theorem se_raw {i : Nat} (h : PE X e (tVar i)) : PE X e (tE X.K fun sl st => rdRaw sl i st) :=
  h.weak fun σ H Q ⟨P, ca, G, sl, st, w, st', hm, hs, e, q⟩ => by
    replace e : rdRaw sl i st = _ := e
    unfold rdRaw at e
    split at e
    · rename_i x hx
      cases e
      obtain ⟨v, e1, r⟩ := hs.at_ i _ hx
      exact ⟨v, e1, q v ca G H Nxt.refl hm r⟩
    · cases e
/-- two values, then an operation on data -/
theorem te_two {K : PySem.W.Frag} {g : D → D → Store → Option (W × Store)} {r : R2} (hr : ∀ P ca G H st x y dx dy w st' Q, HM K P ca G H st → Rp K G x dx → Rp K G y dy → g dx dy st = some (w, st') →
      (∀ v ca' G' H', Nxt ca G ca' G' → HM K P ca' G' H' st' → RW K ca' G' v w → Q v H') → r x y H Q) {σ : L2.St} {H : Hp} {Q : VK}
    (h : tE K (fun sl st => andD (fa sl st) fun x st1 => andD (fb sl st1) fun y st2 => g x y st2) σ H Q) : tOp r (tE K fa) (tE K fb) σ H Q := by
  obtain ⟨P, ca, G, sl, st, w, st', hm, hs, e, q⟩ := h
  obtain ⟨x, st1, e1, e⟩ := andD_some e
  obtain ⟨y, st2, e2, e⟩ := andD_some e
  refine ⟨P, ca, G, sl, st, _, _, hm, hs, e1, fun v1 ca1 G1 H1 n1 hm1 r1 => ?_⟩
  refine ⟨P, ca1, G1, sl, st1, _, _, hm1, hs.mono n1, e2, fun v2 ca2 G2 H2 n2 hm2 r2 => ?_⟩
  exact hr P ca2 G2 H2 st2 v1 v2 x y w st' Q hm2 (Rp.mono n2.s r1) r2 e fun v ca' G' H' n3 hm3 r3 => q v ca' G' H' ((n1.trans n2).trans n3) hm3 r3
theorem se_bin {op : Operator} (ha : PE X a (tE X.K fa)) (hb : PE X b (tE X.K fb)) : PE X (.BinOp a op b pos) (tE X.K fun sl st => andD (fa sl st) fun x st1 => andD (fb sl st1) fun y st2 => okD (binK op x y) st2) :=
  (pe_op (op_binD op) ha hb).weak fun σ H Q h => te_two (fun P ca G H st x y dx dy w st' Q hm rx ry e q => by
    obtain ⟨d, e1, e2⟩ := okD_some e
    cases e2
    exact ⟨G, dx, dy, d, hm.sub, rx, ry, binK_eq op dx dy ▸ e1, fun v G' H' ex r => q v ca G' H' (Nxt.of ex.g) (hm.ext ex) r⟩) h
theorem se_cmp {op : CmpOp} (x : XOk Φ k X C) (ha : PE X a (tE X.K fa)) (hb : PE X b (tE X.K fb)) (hk : behindInMarks op b = false) : PE X (.Compare a [op] [b] pos) (tE X.K fun sl st => andD (fa sl st) fun x st1 => andD (fb sl st1) fun y st2 => okB (cmpD op x y) st2) :=
  (pe_cmpR (op_cmpD x.u65 op) ha hb hk).weak fun σ H Q h => te_two (fun P ca G H st x y dx dy w st' Q hm rx ry e q => by
    obtain ⟨d, e1, e2⟩ := okB_some e
    cases e2
    exact ⟨G, dx, dy, d, hm.sub, rx, ry, e1, q _ ca G H Nxt.refl hm (.bl _)⟩) h
/-- a test from a value -/
theorem tt_of {K : PySem.W.Frag} {f : EM} {t : TT} {σ : L2.St} {H : Hp} {Q : Bool → Hp → Prop} (h : tT K f σ H Q)
    (w : ∀ P ca G sl st w st' b, HM K P ca G H st → SlOk K ca G σ sl → f sl st = some (w, st') → truW w = some b → (∀ ca' G' H', Nxt ca G ca' G' → HM K P ca' G' H' st' → Q b H') → t σ H Q) : t σ H Q := by
  obtain ⟨P, ca, G, sl, st, w', st', b, hm, hs, e, et, q⟩ := h
  exact w P ca G sl st w' st' b hm hs e et q
theorem st_cmp {op : CmpOp} (x : XOk Φ k X C) (ha : PE X a (tE X.K fa)) (hb : PE X b (tE X.K fb)) (hk : behindInMarks op b = false) : PT X (.Compare a [op] [b] pos) (tT X.K fun sl st => andD (fa sl st) fun x st1 => andD (fb sl st1) fun y st2 => okB (cmpD op x y) st2) :=
  (pt_cmpR (op_cmpD x.u65 op) ha hb hk).weak fun σ H Q h => by
    obtain ⟨P, ca, G, sl, st, w', st', t, hm, hs, e, et, q⟩ := h
    refine te_two (r := rC X.K (cmpD op)) (fun P ca G H st x y dx dy w st' Q hm rx ry e q => ?_) ⟨P, ca, G, sl, st, w', st', hm, hs, e, fun v ca' G' H' n hm' r => ?_⟩
    · obtain ⟨d, e1, e2⟩ := okB_some e
      cases e2
      exact ⟨G, dx, dy, d, hm.sub, rx, ry, e1, q _ ca G H Nxt.refl hm (.bl _)⟩
    · obtain ⟨x1, st1, e1, e⟩ := andD_some e
      obtain ⟨y1, st2, e2, e⟩ := andD_some e
      obtain ⟨d, e3, e4⟩ := okB_some e
      cases e4
      cases et
      cases r
      exact ⟨_, rfl, q ca' G' H' n hm'⟩
theorem TruV_of {K : PySem.W.Frag} {G H : Hp} {v : V} {d : D} {t : Bool} (s : Same G H) (r : Rp K G v d) (e : truD d = some t) : TruV K v H t := by
  cases r with
  | non => cases e; rfl
  | bl b => cases e; rfl
  | int i => cases e; rfl
  | str x =>
    unfold truD at e
    simp only at e
    split at e
    · rename_i hz
      cases e
      exact ⟨hz, rfl⟩
    · cases e
  | @lst a xs ds h al =>
    cases e
    refine .inl ⟨xs, SqL.of (s _ _ h), ?_⟩
    cases al <;> rfl
  | @tup a xs ds h al =>
    cases e
    refine .inr (.inl ⟨xs, SqT.mono s h, ?_⟩)
    cases al <;> rfl
theorem TruV_w {K : PySem.W.Frag} {ca : List Addr} {G H : Hp} {v : V} {w : W} {t : Bool} (s : Same G H) (r : RW K ca G v w) (e : truW w = some t) : TruV K v H t := by
  cases w with
  | d x => exact TruV_of s r e
  | m i => cases e
/-- any value as a test -/
theorem st_val (h : PE X e (tE X.K fa)) (he : ∀ whole, isTrue e X.env whole = (do let v ← whole; standAt e.pos; holding [v] (truthy v))) : PT X e (tT X.K fa) :=
  (pt_truth h he).weak fun σ H Q ⟨P, ca, G, sl, st, w', st', t, hm, hs, e, et, q⟩ =>
    ⟨P, ca, G, sl, st, w', st', hm, hs, e, fun v ca' G' H' n hm' r => ⟨t, TruV_w hm'.sub r et, q ca' G' H' n hm'⟩⟩
theorem se_neg (ha : PE X a (tE X.K fa)) : PE X (.UnaryOp .USub a pos) (tE X.K fun sl st => andD (fa sl st) fun x st1 => okD (negD x) st1) :=
  (pe_un un_negD ha).weak fun σ H Q ⟨P, ca, G, sl, st, w, st', hm, hs, e, q⟩ => by
    obtain ⟨x, st1, e1, e⟩ := andD_some e
    obtain ⟨d, e2, e3⟩ := okD_some e
    cases e3
    exact ⟨P, ca, G, sl, st, _, _, hm, hs, e1, fun v1 ca1 G1 H1 n1 hm1 r1 => ⟨G1, x, d, hm1.sub, r1, e2, fun v G' H' ex r => q v ca1 G' H' (n1.trans (Nxt.of ex.g)) (hm1.ext ex) r⟩⟩
theorem se_not (ha : PE X a (tE X.K fa)) : PE X (.UnaryOp .Not a pos) (tE X.K fun sl st => andW (fa sl st) fun w st1 => okB ((truW w).map (! ·)) st1) :=
  (pe_notT ha).weak fun σ H Q ⟨P, ca, G, sl, st, w, st', hm, hs, e, q⟩ => by
    obtain ⟨x, st1, e1, e⟩ := andW_some e
    obtain ⟨d, e2, e3⟩ := okB_some e
    cases e3
    cases et : truW x with
    | none => rw [et] at e2; cases e2
    | some t =>
      rw [et] at e2
      cases e2
      exact ⟨P, ca, G, sl, st, _, _, hm, hs, e1, fun v1 ca1 G1 H1 n1 hm1 r1 => ⟨t, TruV_w hm1.sub r1 et, q _ ca1 G1 H1 n1 hm1 (.bl _)⟩⟩
theorem st_not (ha : PT X a (tT X.K fa)) : PT X (.UnaryOp .Not a pos) (tT X.K fun sl st => andW (fa sl st) fun w st1 => okB ((truW w).map (! ·)) st1) :=
  (pt_not ha).weak fun σ H Q ⟨P, ca, G, sl, st, w, st', t, hm, hs, e, et, q⟩ => by
    obtain ⟨x, st1, e1, e⟩ := andW_some e
    obtain ⟨d, e2, e3⟩ := okB_some e
    cases e3
    cases et
    cases ex : truW x with
    | none => rw [ex] at e2; cases e2
    | some t =>
      rw [ex] at e2
      cases e2
      exact ⟨P, ca, G, sl, st, _, _, t, hm, hs, e1, ex, fun ca1 G1 H1 n1 hm1 => q ca1 G1 H1 n1 hm1⟩
def andM (fa fb : EM) : EM := fun sl st => andW (fa sl st) fun w st1 => (match truW w with
    | none => none
    | some false => some (w, st1)
    | some true => fb sl st1)
def orM (fa fb : EM) : EM := fun sl st => andW (fa sl st) fun w st1 => (match truW w with
    | none => none
    | some true => some (w, st1)
    | some false => fb sl st1)
def iteM (fc fa fb : EM) : EM := fun sl st => andW (fc sl st) fun w st1 => (match truW w with
    | none => none
    | some true => fa sl st1
    | some false => fb sl st1)
theorem se_and {r : List Expr} (ha : PE X a (tE X.K fa)) (hb : PE X (.BoolOp .And (b :: r) pos) (tE X.K fb)) : PE X (.BoolOp .And (a :: b :: r) pos) (tE X.K (andM fa fb)) :=
  (pe_andT ha hb).weak fun σ H Q ⟨P, ca, G, sl, st, w, st', hm, hs, e, q⟩ => by
    obtain ⟨x, st1, e1, e⟩ := andW_some e
    refine ⟨P, ca, G, sl, st, _, _, hm, hs, e1, fun v1 ca1 G1 H1 n1 hm1 r1 => ?_⟩
    split at e
    · cases e
    · rename_i et
      cases e
      exact ⟨false, TruV_w hm1.sub r1 et, iteF (q _ ca1 G1 H1 n1 hm1 r1)⟩
    · rename_i et
      exact ⟨true, TruV_w hm1.sub r1 et, iteT (⟨P, ca1, G1, sl, st1, _, _, hm1, hs.mono n1, e, fun v2 ca2 G2 H2 n2 hm2 r2 => q _ _ _ _ (n1.trans n2) hm2 r2⟩)⟩
theorem se_or {r : List Expr} (ha : PE X a (tE X.K fa)) (hb : PE X (.BoolOp .Or (b :: r) pos) (tE X.K fb)) : PE X (.BoolOp .Or (a :: b :: r) pos) (tE X.K (orM fa fb)) :=
  (pe_orT ha hb).weak fun σ H Q ⟨P, ca, G, sl, st, w, st', hm, hs, e, q⟩ => by
    obtain ⟨x, st1, e1, e⟩ := andW_some e
    refine ⟨P, ca, G, sl, st, _, _, hm, hs, e1, fun v1 ca1 G1 H1 n1 hm1 r1 => ?_⟩
    split at e
    · cases e
    · rename_i et
      cases e
      exact ⟨true, TruV_w hm1.sub r1 et, iteT (q _ ca1 G1 H1 n1 hm1 r1)⟩
    · rename_i et
      exact ⟨false, TruV_w hm1.sub r1 et, iteF (⟨P, ca1, G1, sl, st1, _, _, hm1, hs.mono n1, e, fun v2 ca2 G2 H2 n2 hm2 r2 => q _ _ _ _ (n1.trans n2) hm2 r2⟩)⟩
theorem st_and {r : List Expr} (ha : PT X a (tT X.K fa)) (hb : PW X (.BoolOp .And (b :: r) pos) (tT X.K fb)) : PW X (.BoolOp .And (a :: b :: r) pos) (tT X.K (andM fa fb)) :=
  (pw_and ha hb).weak fun σ H Q ⟨P, ca, G, sl, st, w, st', t, hm, hs, e, et, q⟩ => by
    obtain ⟨x, st1, e1, e⟩ := andW_some e
    split at e
    · cases e
    · rename_i ex
      cases e
      rw [ex] at et
      cases et
      exact ⟨P, ca, G, sl, st, _, _, _, hm, hs, e1, ex, fun ca1 G1 H1 n1 hm1 => iteF (q ca1 G1 H1 n1 hm1)⟩
    · rename_i ex
      exact ⟨P, ca, G, sl, st, _, _, _, hm, hs, e1, ex, fun ca1 G1 H1 n1 hm1 => iteT (⟨P, ca1, G1, sl, st1, _, _, _, hm1, hs.mono n1, e, et, fun ca2 G2 H2 n2 hm2 => q _ _ _ (n1.trans n2) hm2⟩)⟩
theorem st_or {r : List Expr} (ha : PT X a (tT X.K fa)) (hb : PW X (.BoolOp .Or (b :: r) pos) (tT X.K fb)) : PW X (.BoolOp .Or (a :: b :: r) pos) (tT X.K (orM fa fb)) :=
  (pw_or ha hb).weak fun σ H Q ⟨P, ca, G, sl, st, w, st', t, hm, hs, e, et, q⟩ => by
    obtain ⟨x, st1, e1, e⟩ := andW_some e
    split at e
    · cases e
    · rename_i ex
      cases e
      rw [ex] at et
      cases et
      exact ⟨P, ca, G, sl, st, _, _, _, hm, hs, e1, ex, fun ca1 G1 H1 n1 hm1 => iteT (q ca1 G1 H1 n1 hm1)⟩
    · rename_i ex
      exact ⟨P, ca, G, sl, st, _, _, _, hm, hs, e1, ex, fun ca1 G1 H1 n1 hm1 => iteF (⟨P, ca1, G1, sl, st1, _, _, _, hm1, hs.mono n1, e, et, fun ca2 G2 H2 n2 hm2 => q _ _ _ (n1.trans n2) hm2⟩)⟩
theorem st_and1 (ha : PT X a (tT X.K fa)) : PW X (.BoolOp .And [a] pos) (tT X.K fa) := pw_and1 ha
theorem st_or1 (ha : PT X a (tT X.K fa)) : PW X (.BoolOp .Or [a] pos) (tT X.K fa) := pw_or1 ha
theorem se_ite (hc : PT X c (tT X.K fc)) (ha : PE X a (tE X.K fa)) (hb : PE X b (tE X.K fb)) : PE X (.IfExp c a b pos) (tE X.K (iteM fc fa fb)) :=
  (pe_ifExp hc ha hb).weak fun σ H Q ⟨P, ca, G, sl, st, w, st', hm, hs, e, q⟩ => by
    obtain ⟨x, st1, e1, e⟩ := andW_some e
    split at e
    · cases e
    · rename_i ex
      exact ⟨P, ca, G, sl, st, _, _, _, hm, hs, e1, ex, fun ca1 G1 H1 n1 hm1 => iteT (⟨P, ca1, G1, sl, st1, _, _, hm1, hs.mono n1, e, fun v2 ca2 G2 H2 n2 hm2 r2 => q _ _ _ _ (n1.trans n2) hm2 r2⟩)⟩
    · rename_i ex
      exact ⟨P, ca, G, sl, st, _, _, _, hm, hs, e1, ex, fun ca1 G1 H1 n1 hm1 => iteF (⟨P, ca1, G1, sl, st1, _, _, hm1, hs.mono n1, e, fun v2 ca2 G2 H2 n2 hm2 r2 => q _ _ _ _ (n1.trans n2) hm2 r2⟩)⟩
def tIfT (t ta tb : TT) : TT := fun σ H Q => t σ H fun c H1 => if c = true then ta σ H1 Q else tb σ H1 Q
theorem pt_ifExp {tc ta tb : TT} (hc : PT X c tc) (ha : PT X a ta) (hb : PT X b tb) : PT X (.IfExp c a b pos) (tIfT tc ta tb) := by
  refine ⟨fun pins s σ H Q I h => ?_⟩
  show wpAny _ _ (do if ← isTrue c X.env (eval c X.env) then isTrue a X.env (eval a X.env) else isTrue b X.env (eval b X.env)) _ _ s
  refine wpAny_bind (thn (hc.run pins s σ H _ I h) fun d s1 ⟨H1, I1, q1⟩ => ?_)
  cases d with
  | true => exact ha.run pins s1 σ H1 Q I1 q1
  | false => exact hb.run pins s1 σ H1 Q I1 q1
theorem st_ite (hc : PT X c (tT X.K fc)) (ha : PT X a (tT X.K fa)) (hb : PT X b (tT X.K fb)) : PT X (.IfExp c a b pos) (tT X.K (iteM fc fa fb)) :=
  (pt_ifExp hc ha hb).weak fun σ H Q ⟨P, ca, G, sl, st, w, st', t, hm, hs, e, et, q⟩ => by
    obtain ⟨x, st1, e1, e⟩ := andW_some e
    split at e
    · cases e
    · rename_i ex
      exact ⟨P, ca, G, sl, st, _, _, _, hm, hs, e1, ex, fun ca1 G1 H1 n1 hm1 => iteT (⟨P, ca1, G1, sl, st1, _, _, _, hm1, hs.mono n1, e, et, fun ca2 G2 H2 n2 hm2 => q _ _ _ (n1.trans n2) hm2⟩)⟩
    · rename_i ex
      exact ⟨P, ca, G, sl, st, _, _, _, hm, hs, e1, ex, fun ca1 G1 H1 n1 hm1 => iteF (⟨P, ca1, G1, sl, st1, _, _, _, hm1, hs.mono n1, e, et, fun ca2 G2 H2 n2 hm2 => q _ _ _ (n1.trans n2) hm2⟩)⟩
end
end WM
namespace WM
open PySem PySem.Spec PyProof.Rows L2
section
variable {Φ : Fn} {k : Nat} {X : Cx} {C : CE}
variable {e a b c d : Expr} {fa fb fc fd : EM} {pos : Pos}
def tChain3 (r r' r'' : R2) (ta tb tc td : TE) : TE := fun σ H Q => ta σ H fun x H1 => tb σ H1 fun y H2 => r x y H2 fun z H3 => ∃ k, z = .bl k ∧
  (if k = true then tc σ H3 fun w' H4 => r' y w' H4 fun z2 H5 => ∃ k2, z2 = .bl k2 ∧ (if k2 = true then td σ H5 fun u H6 => r'' w' u H6 Q else Q (.bl false) H5) else Q (.bl false) H3)
theorem pe_chain3 {op op' op'' : CmpOp} {r r' r'' : R2} {ta tb tc td : TE} (ho : OpR X (compareOp op) r) (ho' : OpR X (compareOp op') r') (ho'' : OpR X (compareOp op'') r'') (ha : PE X a ta) (hb : PE X b tb) (hc : PE X c tc) (hd : PE X d td)
    (hm : lastMarks [op, op', op''] [b, c, d] = false) : PE X (.Compare a [op, op', op''] [b, c, d] pos) (tChain3 r r' r'' ta tb tc td) := by
  refine ⟨fun pins s σ H Q I h => ?_⟩
  refine Compare_chain (thn (ha.run pins s σ H _ I h) fun v s1 ⟨x, H1, I1, r1, q1⟩ => chain_link (thn (hb.run pins s1 σ H1 _ I1 q1) fun u s2 ⟨y, H2, I2, r2, q2⟩ =>
    thn (ho pins s2 σ H2 x y v u _ I2 r1 r2 q2) fun d s3 ⟨z, H3, I3, r3, k, e, q3⟩ => ?_)) hm
  subst e
  cases r3
  refine wpAny_truthy_bool ?_
  cases k with
  | false => exact ite_ff ⟨.bl false, H3, I3, rfl, q3⟩
  | true =>
    refine ite_tt (chain_link (thn (hc.run pins s3 σ H3 _ I3 q3) fun w' s4 ⟨z', H4, I4, r4, q4⟩ => thn (ho' pins s4 σ H4 y z' u w' _ I4 r2 r4 q4) fun d2 s5 ⟨z2, H5, I5, r5, k2, e2, q5⟩ => ?_))
    subst e2
    cases r5
    refine wpAny_truthy_bool ?_
    cases k2 with
    | false => exact ite_ff ⟨.bl false, H5, I5, rfl, q5⟩
    | true => exact ite_tt (chain_last (thn (hd.run pins s5 σ H5 _ I5 q5) fun w2 s6 ⟨z3, H6, I6, r6, q6⟩ => ho'' pins s6 σ H6 z' z3 w' w2 Q I6 r4 r6 q6))
theorem pt_chain3 {op op' op'' : CmpOp} {r r' r'' : R2} {ta tb tc td : TE} (ho : OpR X (compareOp op) r) (ho' : OpR X (compareOp op') r') (ho'' : OpR X (compareOp op'') r'') (ha : PE X a ta) (hb : PE X b tb) (hc : PE X c tc) (hd : PE X d td)
    (hm : lastMarks [op, op', op''] [b, c, d] = false) : PT X (.Compare a [op, op', op''] [b, c, d] pos) (tTest (tChain3 r r' r'' ta tb tc td)) := by
  refine ⟨fun pins s σ H Q I h => ?_⟩
  refine isTrue_chain (thn (ha.run pins s σ H _ I h) fun v s1 ⟨x, H1, I1, r1, q1⟩ => test_link (thn (hb.run pins s1 σ H1 _ I1 q1) fun u s2 ⟨y, H2, I2, r2, q2⟩ =>
    thn (ho pins s2 σ H2 x y v u _ I2 r1 r2 q2) fun d s3 ⟨z, H3, I3, r3, k, e, q3⟩ => ?_)) hm
  subst e
  cases r3
  refine wpAny_truthy_bool ?_
  cases k with
  | false =>
    obtain ⟨k', e', q'⟩ := q3
    cases e'
    exact ite_ff ⟨H3, I3, q'⟩
  | true =>
    refine ite_tt (test_link (thn (hc.run pins s3 σ H3 _ I3 q3) fun w' s4 ⟨z', H4, I4, r4, q4⟩ => thn (ho' pins s4 σ H4 y z' u w' _ I4 r2 r4 q4) fun d2 s5 ⟨z2, H5, I5, r5, k2, e2, q5⟩ => ?_))
    subst e2
    cases r5
    refine wpAny_truthy_bool ?_
    cases k2 with
    | false =>
      obtain ⟨k', e', q'⟩ := q5
      cases e'
      exact ite_ff ⟨H5, I5, q'⟩
    | true =>
      refine ite_tt (test_last (thn (hd.run pins s5 σ H5 _ I5 q5) fun w2 s6 ⟨z3, H6, I6, r6, q6⟩ => thn (ho'' pins s6 σ H6 z' z3 w' w2 _ I6 r4 r6 q6) fun d3 s7 ⟨z4, H7, I7, r7, k3, e3, q7⟩ => ?_))
      subst e3
      cases r7
      exact wpAny_truthy_bool ⟨H7, I7, q7⟩
def cmp2M (o1 o2 : CmpOp) (fa fb fc : EM) : EM := fun sl st => andD (fa sl st) fun x st1 => andD (fb sl st1) fun y st2 => (match cmpD o1 x y with
    | none => none
    | some false => some (.d (.bool false), st2)
    | some true => andD (fc sl st2) fun z st3 => okB (cmpD o2 y z) st3)
def cmp3M (o1 o2 o3 : CmpOp) (fa fb fc fd : EM) : EM := fun sl st => andD (fa sl st) fun x st1 => andD (fb sl st1) fun y st2 => (match cmpD o1 x y with
    | none => none
    | some false => some (.d (.bool false), st2)
    | some true => andD (fc sl st2) fun z st3 => (match cmpD o2 y z with
      | none => none
      | some false => some (.d (.bool false), st3)
      | some true => andD (fd sl st3) fun u st4 => okB (cmpD o3 z u) st4))
theorem tc_two {o1 o2 : CmpOp} {σ : L2.St} {H : Hp} {Q : VK} (h : tE X.K (cmp2M o1 o2 fa fb fc) σ H Q) : tChain (rC X.K (cmpD o1)) (rC X.K (cmpD o2)) (tE X.K fa) (tE X.K fb) (tE X.K fc) σ H Q := by
  obtain ⟨P, ca, G, sl, st, w, st', hm, hs, e, q⟩ := h
  obtain ⟨x, st1, e1, e⟩ := andD_some e
  obtain ⟨y, st2, e2, e⟩ := andD_some e
  refine ⟨P, ca, G, sl, st, _, _, hm, hs, e1, fun v1 ca1 G1 H1 n1 hm1 r1 => ?_⟩
  refine ⟨P, ca1, G1, sl, st1, _, _, hm1, hs.mono n1, e2, fun v2 ca2 G2 H2 n2 hm2 r2 => ?_⟩
  have n12 := n1.trans n2
  split at e
  · cases e
  · rename_i e3
    cases e
    exact ⟨G2, x, y, false, hm2.sub, Rp.mono n2.s r1, r2, e3, false, rfl, iteF (q _ _ _ _ n12 hm2 (.bl _))⟩
  · rename_i e3
    obtain ⟨z, st3, e4, e⟩ := andD_some e
    obtain ⟨t, e5, e6⟩ := okB_some e
    cases e6
    refine ⟨G2, x, y, true, hm2.sub, Rp.mono n2.s r1, r2, e3, true, rfl, iteT ?_⟩
    exact ⟨P, ca2, G2, sl, st2, _, _, hm2, hs.mono n12, e4, fun v3 ca3 G3 H3 n3 hm3 r3 => ⟨G3, y, z, t, hm3.sub, Rp.mono n3.s r2, r3, e5, q _ _ _ _ (n12.trans n3) hm3 (.bl _)⟩⟩
theorem tc_three {o1 o2 o3 : CmpOp} {σ : L2.St} {H : Hp} {Q : VK} (h : tE X.K (cmp3M o1 o2 o3 fa fb fc fd) σ H Q) : tChain3 (rC X.K (cmpD o1)) (rC X.K (cmpD o2)) (rC X.K (cmpD o3)) (tE X.K fa) (tE X.K fb) (tE X.K fc) (tE X.K fd) σ H Q := by
  obtain ⟨P, ca, G, sl, st, w, st', hm, hs, e, q⟩ := h
  obtain ⟨x, st1, e1, e⟩ := andD_some e
  obtain ⟨y, st2, e2, e⟩ := andD_some e
  refine ⟨P, ca, G, sl, st, _, _, hm, hs, e1, fun v1 ca1 G1 H1 n1 hm1 r1 => ?_⟩
  refine ⟨P, ca1, G1, sl, st1, _, _, hm1, hs.mono n1, e2, fun v2 ca2 G2 H2 n2 hm2 r2 => ?_⟩
  have n12 := n1.trans n2
  split at e
  · cases e
  · rename_i e3
    cases e
    exact ⟨G2, x, y, false, hm2.sub, Rp.mono n2.s r1, r2, e3, false, rfl, iteF (q _ _ _ _ n12 hm2 (.bl _))⟩
  · rename_i e3
    obtain ⟨z, st3, e4, e⟩ := andD_some e
    refine ⟨G2, x, y, true, hm2.sub, Rp.mono n2.s r1, r2, e3, true, rfl, iteT ?_⟩
    refine ⟨P, ca2, G2, sl, st2, _, _, hm2, hs.mono n12, e4, fun v3 ca3 G3 H3 n3 hm3 r3 => ?_⟩
    have n13 := n12.trans n3
    split at e
    · cases e
    · rename_i e5
      cases e
      exact ⟨G3, y, z, false, hm3.sub, Rp.mono n3.s r2, r3, e5, false, rfl, iteF (q _ _ _ _ n13 hm3 (.bl _))⟩
    · rename_i e5
      obtain ⟨u, st4, e6, e⟩ := andD_some e
      obtain ⟨t, e7, e8⟩ := okB_some e
      cases e8
      refine ⟨G3, y, z, true, hm3.sub, Rp.mono n3.s r2, r3, e5, true, rfl, iteT ?_⟩
      exact ⟨P, ca3, G3, sl, st3, _, _, hm3, hs.mono n13, e6, fun v4 ca4 G4 H4 n4 hm4 r4 => ⟨G4, z, u, t, hm4.sub, Rp.mono n4.s r3, r4, e7, q _ _ _ _ (n13.trans n4) hm4 (.bl _)⟩⟩
/-- a test whose value is a bool -/
theorem te_bl {K : PySem.W.Frag} {f : EM} {σ : L2.St} {H : Hp} {Q : Bool → Hp → Prop} (hb : ∀ sl st w st', f sl st = some (w, st') → ∃ t, w = .d (.bool t)) (h : tT K f σ H Q) : tE K f σ H fun x H' => ∃ k, x = .bl k ∧ Q k H' := by
  obtain ⟨P, ca, G, sl, st, w, st', t, hm, hs, e, et, q⟩ := h
  obtain ⟨t', rfl⟩ := hb _ _ _ _ e
  cases et
  exact ⟨P, ca, G, sl, st, _, st', hm, hs, e, fun v ca' G' H' n hm' r => ⟨_, Rp.bool_inv r, q ca' G' H' n hm'⟩⟩
theorem cmp2_bool {o1 o2 : CmpOp} {sl : Sl} {st : Store} {w : W} {st' : Store} (e : cmp2M o1 o2 fa fb fc sl st = some (w, st')) : ∃ t, w = .d (.bool t) := by
  obtain ⟨x, st1, e1, e⟩ := andD_some e
  obtain ⟨y, st2, e2, e⟩ := andD_some e
  split at e
  · cases e
  · cases e; exact ⟨_, rfl⟩
  · obtain ⟨z, st3, e4, e⟩ := andD_some e
    obtain ⟨t, e5, e6⟩ := okB_some e
    cases e6; exact ⟨_, rfl⟩
theorem cmp3_bool {o1 o2 o3 : CmpOp} {sl : Sl} {st : Store} {w : W} {st' : Store} (e : cmp3M o1 o2 o3 fa fb fc fd sl st = some (w, st')) : ∃ t, w = .d (.bool t) := by
  obtain ⟨x, st1, e1, e⟩ := andD_some e
  obtain ⟨y, st2, e2, e⟩ := andD_some e
  split at e
  · cases e
  · cases e; exact ⟨_, rfl⟩
  · obtain ⟨z, st3, e4, e⟩ := andD_some e
    split at e
    · cases e
    · cases e; exact ⟨_, rfl⟩
    · obtain ⟨u, st4, e6, e⟩ := andD_some e
      obtain ⟨t, e7, e8⟩ := okB_some e
      cases e8; exact ⟨_, rfl⟩
theorem se_cmp2 {o1 o2 : CmpOp} (x : XOk Φ k X C) (ha : PE X a (tE X.K fa)) (hb : PE X b (tE X.K fb)) (hc : PE X c (tE X.K fc)) (hk : lastMarks [o1, o2] [b, c] = false) : PE X (.Compare a [o1, o2] [b, c] pos) (tE X.K (cmp2M o1 o2 fa fb fc)) :=
  (pe_chain (op_cmpD x.u65 o1) (op_cmpD x.u65 o2) ha hb hc hk).weak fun σ H Q h => tc_two h
theorem st_cmp2 {o1 o2 : CmpOp} (x : XOk Φ k X C) (ha : PE X a (tE X.K fa)) (hb : PE X b (tE X.K fb)) (hc : PE X c (tE X.K fc)) (hk : lastMarks [o1, o2] [b, c] = false) : PT X (.Compare a [o1, o2] [b, c] pos) (tT X.K (cmp2M o1 o2 fa fb fc)) :=
  (pt_chain (op_cmpD x.u65 o1) (op_cmpD x.u65 o2) ha hb hc hk).weak fun σ H Q h => tc_two (te_bl (fun _ _ _ _ => cmp2_bool) h)
theorem se_cmp3 {o1 o2 o3 : CmpOp} (x : XOk Φ k X C) (ha : PE X a (tE X.K fa)) (hb : PE X b (tE X.K fb)) (hc : PE X c (tE X.K fc)) (hd : PE X d (tE X.K fd)) (hk : lastMarks [o1, o2, o3] [b, c, d] = false) : PE X (.Compare a [o1, o2, o3] [b, c, d] pos) (tE X.K (cmp3M o1 o2 o3 fa fb fc fd)) :=
  (pe_chain3 (op_cmpD x.u65 o1) (op_cmpD x.u65 o2) (op_cmpD x.u65 o3) ha hb hc hd hk).weak fun σ H Q h => tc_three h
theorem st_cmp3 {o1 o2 o3 : CmpOp} (x : XOk Φ k X C) (ha : PE X a (tE X.K fa)) (hb : PE X b (tE X.K fb)) (hc : PE X c (tE X.K fc)) (hd : PE X d (tE X.K fd)) (hk : lastMarks [o1, o2, o3] [b, c, d] = false) : PT X (.Compare a [o1, o2, o3] [b, c, d] pos) (tT X.K (cmp3M o1 o2 o3 fa fb fc fd)) :=
  (pt_chain3 (op_cmpD x.u65 o1) (op_cmpD x.u65 o2) (op_cmpD x.u65 o3) ha hb hc hd hk).weak fun σ H Q h => tc_three (te_bl (fun _ _ _ _ => cmp3_bool) h)
variable {es : List Expr} {fs : AM}
theorem sa_nil : PA X [] (tA X.K fun _ st => some ([], st)) :=
  pa_nil.weak fun σ H Q ⟨P, ca, G, sl, st, w, st', hm, hs, e, q⟩ => by
    cases e
    exact q [] ca G H Nxt.refl hm .nil
def consM (fa : EM) (fs : AM) : AM := fun sl st => andW (fa sl st) fun w st1 => (match fs sl st1 with
    | none => none
    | some (ws, st2) => some (w :: ws, st2))
theorem sa_cons (ha : PE X a (tE X.K fa)) (hr : PA X es (tA X.K fs)) (hs : starEach (a :: es) X.env = (false, eval a X.env) :: starEach es X.env) : PA X (a :: es) (tA X.K (consM fa fs)) :=
  (pa_cons ha hr hs).weak fun σ H Q ⟨P, ca, G, sl, st, w, st', hm, hs, e, q⟩ => by
    obtain ⟨x, st1, e1, e⟩ := andW_some e
    split at e
    · cases e
    · rename_i ws st2 e2
      cases e
      exact ⟨P, ca, G, sl, st, _, _, hm, hs, e1, fun v1 ca1 G1 H1 n1 hm1 r1 => ⟨P, ca1, G1, sl, st1, _, _, hm1, hs.mono n1, e2, fun vs ca2 G2 H2 n2 hm2 r2 => q _ _ _ _ (n1.trans n2) hm2 (.cons (RW.mono n2 r1) r2)⟩⟩
theorem se_tup {x1 : Nat} (h : PA X es (tA X.K fs)) : PE X (.Tuple es x1 pos) (tE X.K fun sl st => mkTup (fs sl st)) :=
  (pe_tup h).weak fun σ H Q ⟨P, ca, G, sl, st, w, st', hm, hs, e, q⟩ => by
    replace e : mkTup (fs sl st) = some (w, st') := e
    unfold mkTup at e
    split at e
    · rename_i ws st1 e1
      split at e
      · rename_i ds ed
        split at e
        · rename_i hz
          cases e
          refine ⟨P, ca, G, sl, st, _, _, hm, hs, e1, fun vs ca1 G1 H1 n1 hm1 r1 => ?_⟩
          have rd := r1.dps ed
          exact ⟨by rw [rd.length]; exact hz, fun p n => q _ _ _ _ (n1.trans (Nxt.of (Ext.new hm1.sub n).g)) (hm1.ext (Ext.new hm1.sub n)) (Rp.tnew (hm1.sub.free n) rd)⟩
        · cases e
      · cases e
    · cases e
/-- a new list -/
def tN (K : PySem.W.Frag) (f : EM) : TE := fun σ H Q => ∃ P ca G sl st w st', HM K P ca G H st ∧ SlOk K ca G σ sl ∧ f sl st = some (w, st') ∧
  ∀ p xs ds ca' G' H', Nxt ca G ca' G' → w = .d (.list ds) → HM K P ca' G' H' st' → H' p = some (.lst xs) → G' p = none → p ∉ ca' → P p = none → Rps K G' xs ds → xs.length ≤ sizeLine → Q (.ref p) H'
theorem HM.fresh {K : PySem.W.Frag} {ca : List Addr} {G H : Hp} {st : Store} {p : Addr} (hm : HM K P ca G H st) (n : H p = none) : p ∉ ca := fun hp => by
  obtain ⟨i, hi, e⟩ := List.mem_iff_getElem.mp hp
  have hl : i < st.length := by rw [← hm.len]; exact hi
  have := hm.cell i p st[i] (by rw [List.getElem?_eq_getElem hi, e]) (List.getElem?_eq_getElem hl)
  cases hc : st[i] with
  | lst fz ds =>
    rw [hc] at this
    obtain ⟨xs, h1, _⟩ := this
    rw [n] at h1
    cases h1
/-- .. read as data -/
theorem HM.froze {K : PySem.W.Frag} {ca : List Addr} {G H : Hp} {st : Store} {p : Addr} {xs : List V} (hm : HM K P ca G H st) (h : H p = some (.lst xs)) (n : G p = none) (hp : p ∉ ca) (pP : P p = none) : Same G (upd G p (.lst xs)) ∧ HM K P ca (upd G p (.lst xs)) H st := by
  refine ⟨same_upd n, ⟨fun b o e => ?_, hm.len, hm.nd, fun i b c e1 e2 => ?_, hm.prot, hm.pdis, fun b u q => by
    rw [upd_ne (fun z => by subst z; rw [pP] at q; cases q)]
    exact hm.pg b u q⟩⟩
  · by_cases hb : b = p
    · subst hb
      rw [upd_same] at e
      rw [← e]
      exact h
    · rw [upd_ne hb] at e
      exact hm.sub _ _ e
  · have hne : b ≠ p := fun z => by
      subst z
      exact hp (List.mem_of_getElem? e1)
    cases c with
    | lst fz ds =>
      obtain ⟨ys, g1, g2, gz, g3⟩ := hm.cell i b _ e1 e2
      refine ⟨ys, g1, Rps.mono (same_upd n) g2, gz, ?_⟩
      cases fz with
      | true =>
        show upd G p (.lst xs) b = _
        rw [upd_ne hne]
        exact g3
      | false =>
        show upd G p (.lst xs) b = _
        rw [upd_ne hne]
        exact g3
theorem tN_of {K : PySem.W.Frag} {f : EM} (hf : ∀ sl st w st', f sl st = some (w, st') → ∃ ds, w = .d (.list ds)) {σ : L2.St} {H : Hp} {Q : VK} (h : tE K f σ H Q) : tN K f σ H Q := by
  obtain ⟨P, ca, G, sl, st, w, st', hm, hs, e, q⟩ := h
  refine ⟨P, ca, G, sl, st, w, st', hm, hs, e, fun p xs ds ca' G' H' n ew hm' h1 h2 h3 h4 r hz => ?_⟩
  subst ew
  obtain ⟨g1, g2⟩ := hm'.froze h1 h2 h3 h4
  exact q _ ca' _ H' (n.trans (Nxt.of g1)) g2 (.lst upd_same (Rps.mono g1 r))
theorem mkLst_list {r : Option (List W × Store)} {w : W} {st' : Store} (e : mkLst r = some (w, st')) : ∃ ds, w = .d (.list ds) := by
  unfold mkLst at e
  split at e
  · split at e
    · split at e
      · cases e; exact ⟨_, rfl⟩
      · cases e
    · cases e
  · cases e
theorem sn_lst (h : PA X es (tA X.K fs)) : PE X (.List es pos) (tN X.K fun sl st => mkLst (fs sl st)) :=
  (pe_lst h).weak fun σ H Q ⟨P, ca, G, sl, st, w, st', hm, hs, e, q⟩ => by
    replace e : mkLst (fs sl st) = some (w, st') := e
    unfold mkLst at e
    split at e
    · rename_i ws st1 e1
      split at e
      · rename_i ds ed
        split at e
        · rename_i hz
          cases e
          refine ⟨P, ca, G, sl, st, _, _, hm, hs, e1, fun vs ca1 G1 H1 n1 hm1 r1 => ?_⟩
          have rd := r1.dps ed
          refine ⟨by rw [rd.length]; exact hz, fun p n => ?_⟩
          have ex := Ext.junk (o := .lst vs) hm1.sub n
          exact q p vs ds ca1 G1 _ n1 rfl (hm1.ext ex) upd_same (hm1.sub.free n) (hm1.fresh n) (hm1.prot.free n) rd (by rw [rd.length]; exact hz)
        · cases e
      · cases e
    · cases e
theorem se_lst (h : PA X es (tA X.K fs)) : PE X (.List es pos) (tE X.K fun sl st => mkLst (fs sl st)) :=
  (sn_lst h).weak fun σ H Q h => tN_of (fun _ _ _ _ e => mkLst_list e) h
theorem cell_read {K : PySem.W.Frag} {ca : List Addr} {G H : Hp} {st : Store} {j : Nat} {a : Addr} {fz : Bool} {ds : List D} (hm : HM K P ca G H st) (ha : ca[j]? = some a) (hj : st[j]? = some (.lst fz ds)) : ∃ xs, H a = some (.lst xs) ∧ Rps K G xs ds ∧ xs.length ≤ sizeLine := by
  obtain ⟨xs, h1, h2, hz, _⟩ := hm.cell j a _ ha hj
  exact ⟨xs, h1, h2, hz⟩
def rIxW (K : PySem.W.Frag) : R2 := fun x y H Q => rD2 K ixD x y H Q ∨ ∃ p xs i v, x = .ref p ∧ y = .int i ∧ SqL K H p xs ∧ L2.atI xs i = some v ∧ Q v H
theorem ix_W : IxR X (rIxW X.K) := ix_D.or ix_list
theorem se_ix (ha : PE X a (tE X.K fa)) (hb : PE X b (tE X.K fb)) (hp : PlainIx b) : PE X (.Subscript a b pos) (tE X.K fun sl st => andW (fa sl st) fun w st1 => andD (fb sl st1) fun y st2 => okD (ixW w y st2) st2) :=
  (pe_ix ix_W ha hb hp).weak fun σ H Q ⟨P, ca, G, sl, st, w, st', hm, hs, e, q⟩ => by
    obtain ⟨x, st1, e1, e⟩ := andW_some e
    obtain ⟨y, st2, e2, e⟩ := andD_some e
    obtain ⟨d, e3, e4⟩ := okD_some e
    cases e4
    refine ⟨P, ca, G, sl, st, _, _, hm, hs, e1, fun v1 ca1 G1 H1 n1 hm1 r1 => ⟨P, ca1, G1, sl, st1, _, _, hm1, hs.mono n1, e2, fun v2 ca2 G2 H2 n2 hm2 r2 => ?_⟩⟩
    cases x with
    | d x => exact .inl ⟨G2, x, y, d, hm2.sub, Rp.mono n2.s r1, r2, e3, fun v G' H' ex r => q v ca2 G' H' ((n1.trans n2).trans (Nxt.of ex.g)) (hm2.ext ex) r⟩
    | m j =>
      obtain ⟨p, hp, ev⟩ := RW.mono (w := .m j) n2 r1
      subst ev
      unfold ixW at e3
      simp only at e3
      split at e3
      · rename_i fz ds hj
        obtain ⟨xs, h1, h2, _⟩ := cell_read hm2 hp hj
        unfold ixD at e3
        cases y with
        | int i =>
          obtain ⟨z, e5, r5⟩ := Rps.atI h2 e3
          exact .inr ⟨p, xs, i, z, rfl, Rp.int_inv r2, SqL.of h1, e5, q _ _ _ _ (n1.trans n2) hm2 r5⟩
        | _ => cases e3
      · cases e3
/-- a part of a slice -/
def tO (K : PySem.W.Frag) (f : Sl → Store → Option (Option Int × Store)) : TO := fun σ H Q => ∃ P ca G sl st o st', HM K P ca G H st ∧ SlOk K ca G σ sl ∧ f sl st = some (o, st') ∧
  ∀ ca' G' H', Nxt ca G ca' G' → HM K P ca' G' H' st' → Q o H'
variable {lo hi : Option Expr} {fl fh : Sl → Store → Option (Option Int × Store)}
theorem so_none : PO X none (tO X.K fun _ st => some (none, st)) :=
  ⟨fun pins s σ H Q I ⟨P, ca, G, sl, st, o, st', hm, hs, e, q⟩ => po_none.run pins s σ H Q I (by cases e; exact q ca G H Nxt.refl hm)⟩
def someM (fa : EM) : Sl → Store → Option (Option Int × Store) := fun sl st => andD (fa sl st) fun x st1 => (match asPart x with
    | none => none
    | some i => some (some i, st1))
theorem so_some (ha : PE X a (tE X.K fa)) : PO X (some a) (tO X.K (someM fa)) :=
  ⟨fun pins s σ H Q I ⟨P, ca, G, sl, st, o, st', hm, hs, e, q⟩ => (po_some ha).run pins s σ H Q I (by
    obtain ⟨x, st1, e1, e⟩ := andD_some e
    split at e
    · cases e
    · rename_i i ei
      cases e
      cases x with
      | int j =>
        cases ei
        exact ⟨P, ca, G, sl, st, _, _, hm, hs, e1, fun v1 ca1 G1 H1 n1 hm1 r1 => ⟨_, Rp.int_inv r1, q _ _ _ n1 hm1⟩⟩
      | _ => cases ei)⟩
theorem se_sl {p2 : Pos} (ha : PE X a (tE X.K fa)) (hl : PO X lo (tO X.K fl)) (hh : PO X hi (tO X.K fh)) : PE X (.Subscript a (.Slice lo hi none p2) pos) (tE X.K fun sl st => andD (fa sl st) fun x st1 => (match fl sl st1 with
    | none => none
    | some (l, st2) => (match fh sl st2 with
      | none => none
      | some (h, st3) => okD (slD x l h) st3))) :=
  (pe_slice sl_D ha hl hh).weak fun σ H Q ⟨P, ca, G, sl, st, w, st', hm, hs, e, q⟩ => by
    obtain ⟨x, st1, e1, e⟩ := andD_some e
    split at e
    · cases e
    · rename_i l st2 e2
      split at e
      · cases e
      · rename_i h st3 e3
        obtain ⟨d, e4, e5⟩ := okD_some e
        cases e5
        refine ⟨P, ca, G, sl, st, _, _, hm, hs, e1, fun v1 ca1 G1 H1 n1 hm1 r1 => ⟨P, ca1, G1, sl, st1, _, _, hm1, hs.mono n1, e2, fun ca2 G2 H2 n2 hm2 => ⟨P, ca2, G2, sl, st2, _, _, hm2, hs.mono (n1.trans n2), e3, fun ca3 G3 H3 n3 hm3 => ?_⟩⟩⟩
        exact ⟨G3, x, d, hm3.sub, Rp.mono (n2.trans n3).s r1, e4, fun v G' H' ex r => q v ca3 G' H' (((n1.trans n2).trans n3).trans (Nxt.of ex.g)) (hm3.ext ex) r⟩
end
end WM
namespace WM
open PySem PySem.Spec PyProof.Rows L2
/-- as Ite, over a tuple -/
def IteT (K : PySem.W.Frag) (t : Addr) : It where
  go := fun j H => ∃ (ys : List V) (y : V), SqT K H t ys ∧ ys[j]? = some y
  yld := fun j H v H' => ∃ q y, v = .ref q ∧ H q = none ∧ H' = upd H q (.tup [.int (j : Nat), y]) ∧ ∀ ys, SqT K H t ys → ys[j]? = some y
  stop := fun j H => ∃ ys : List V, SqT K H t ys ∧ ys.length ≤ j
section
variable {prog : Program} {w : World} {A : Around} {E : Value → Shared → Prop} {s : Shared}
theorem next_enumT_end {en it t : Addr} {j : Nat} {its : Array Value} {old : Value} {Q : Option Value → Shared → Prop} (free : A.handled = none)
    (x1 : IsEnum s.heap en it j old) (x2 : s.heap.IsTupleIter it t j) (x3 : s.heap.IsTuple t its) (x4 : its[j]? = none)
    (q : ∀ h', Heap.ExtBut it s.heap h' → Q none { s with heap := h' }) : wpAny (model prog w) A (pyNext (.ref en)) Q E s := by
  have ty : s.TypeIs (.ref en) "enumerate" := ⟨_, x1, rfl⟩
  unfold pyNext
  apply wpAny_bind
  apply wpAny_attempt
  refine wpAny_callSpecial?_slot (name := Str.ofString "__next__") ty F.slot_enumerate_next ?_
  refine wpAny_call_entry F.slot_enumerate_next ty F.entry_enumerate_next ?_ (F.args_enumerate_next_1 _)
  show wpAny _ _ (field (.ref en) 2 >>= _) _ _ _
  apply wpAny_bind
  refine wpAny_field x1 rfl (x := .ref it) rfl ?_
  apply wpAny_bind
  refine wpAny_nextOf_tuple_end free x2 x3 x4 fun h' er eb ⟨ob, g1, g2⟩ => ?_
  apply wpAny_bind
  exact wpAny_isInstance (T := "StopIteration") (b := true) ⟨ob, g1, g2⟩ isSubtype_stop (wpAny_pure (q _ eb))
theorem ne_by_cls {h : Heap} {a b : Addr} {c d : String} {o1 o2 : Obj} (h1 : h.get? a = some o1) (h2 : h.get? b = some o2) (c1 : o1.cls = .type c) (c2 : o2.cls = .type d) (n : c ≠ d) : a ≠ b := fun z => by
  rw [z, h2] at h1
  cases h1
  rw [c2] at c1
  injection c1 with c1
  exact n c1.symm
theorem turn_enumT {P : Program} {w : World} {K : PySem.W.Frag} {elts : List Expr} {kk : Nat} {tpos : Pos} (t en it : Addr) :
    Turn P w K (.Tuple elts kk tpos) (IteT K t) [en, it] en (fun j h => (∃ old, IsEnum h en it ((j : Nat) : Int) old) ∧ h.IsTupleIter it t j ∧ en ≠ it) where
  mem := by simp
  obj := fun j h ⟨⟨old, x1⟩, ⟨o, x2, _, x3⟩, _⟩ b hb => by
    rcases (show b = en ∨ b = it by simpa using hb) with rfl | rfl
    · exact ⟨_, x1, fun v z => nomatch z⟩
    · exact ⟨o, x2, fun v z => by rw [x3] at z; cases z⟩
  keep := fun j h h' ⟨⟨old, x1⟩, x2, x3⟩ k => ⟨⟨old, k en (by simp) _ x1⟩, x2.at fun o z => k it (by simp) o z, x3⟩
  item := by
    intro X hP hw hK hc j pins s σ H E I hf st hg
    subst hP hw hK
    obtain ⟨⟨old, x1⟩, x2, x3⟩ := st
    obtain ⟨ys, y, hq, hy⟩ := hg
    obtain ⟨us, rv, p, hz⟩ := I.tuple hq
    obtain ⟨u, hu, ru⟩ := rv.get hy
    have l1 : en < s.heap.objs.size := Heap.lt_size x1
    have l2 : it < s.heap.objs.size := let ⟨_, z, _⟩ := x2; Heap.lt_size z
    obtain ⟨ot, p1, p2, p3⟩ := p
    obtain ⟨oi, i1, i2, i3⟩ := x2
    have n1 : t ≠ it := ne_by_cls p1 i1 p2 i2 (by decide)
    have n2 : en ≠ t := ne_by_cls x1 p1 rfl p2 (by decide)
    have hjl : j < us.toArray.size := by
      have := (List.getElem?_eq_some_iff.mp hu).1
      simpa using this
    refine wpAny_pyNext_enum_itemD (Draws.tuple (A := X.A.in1) (I.ok.hd hc) it t n1 us.toArray) x1 ⟨⟨oi, i1, i2, i3⟩, ⟨ot, p1, p2, p3⟩⟩ hjl x3 (by simp [x3, n2]) fun u' h' tk hP' ho hit' hT hsz hk => ?_
    have eu : u' = u := by
      have : us.toArray[j]? = some u := by simpa using hu
      rw [this] at hP'
      exact (Option.some.inj hP').symm
    subst eu
    refine ⟨_, rfl, wpAny_letOwnedTupleGo_enum (s := { s with heap := h', toks := tk + 1 }) ho fun h2 he2 sb => ?_⟩
    have hT2 : h2.get? s.heap.objs.size = some { cls := .type "tuple", data := .seq #[.int j tk, u'] } := (sb.2 _ (Nat.ne_of_gt l1)).trans hT
    have fresh : H s.heap.objs.size = none := I.hok.fresh (Nat.le_refl _)
    have new : ObjOk X.prog X.w (upd H s.heap.objs.size (.tup [.int (j : Nat), y])) h2 s.heap.objs.size (.tup [.int (j : Nat), y]) :=
      ⟨by show 2 ≤ sizeLine; decide, [.int j tk, u'], .cons ⟨_, rfl⟩ (.cons ru .nil), ⟨_, hT2, rfl, _, rfl⟩⟩
    have I1 : Inv X pins σ (upd H s.heap.objs.size (.tup [.int (j : Nat), y])) { s with heap := h2, toks := tk + 1 } := by
      refine I.turnedNew (ch := [en, it]) (fun b ob hb q => ?_) hf (Nat.le_refl _) new
      have b1 : b ≠ en := fun z => hb (by simp [z])
      have b2 : b ≠ it := fun z => hb (by simp [z])
      exact (sb.2 b b1).trans (hk b ob b1 b2 q)
    refine ⟨.ref s.heap.objs.size, _, I1, rfl, ⟨_, y, rfl, fresh, rfl, fun zs hzs => by rw [I.tuple_inj hzs hq]; exact hy⟩, ⟨⟨u', ?_⟩, hit'.1.at fun o q => (sb.2 it (Ne.symm x3)).trans q, x3⟩, fun b hb => ?_⟩
    · have e1 : ((j + 1 : Nat) : Int) = (j : Int) + 1 := by omega
      rw [e1]
      exact he2
    · have hbl : b < s.heap.objs.size := by
        rcases (show b = en ∨ b = it by simpa using hb) with rfl | rfl
        · exact l1
        · exact l2
      rw [upd_ne (Nat.ne_of_lt hbl)]
      exact (hf b hb).1
  done := by
    intro X hP hw hK hc j pins s σ H E I hf st hg
    subst hP hw hK
    obtain ⟨⟨old, x1⟩, x2, x3⟩ := st
    obtain ⟨ys, hq, hy⟩ := hg
    obtain ⟨us, rv, p, hz⟩ := I.tuple hq
    obtain ⟨f0, f1, f2, f3, f4, f5⟩ := hf it (by simp)
    have hl := rv.length
    exact next_enumT_end (I.ok.hd hc) x1 x2 p (by simp; omega) fun h' eb => ⟨rfl, I.turned (t' := s.toks) (fun b o hb q => eb b o hb q) f0 f1 f3 f4 f5⟩
  self := fun A j s Q E st q => let ⟨⟨_, x1⟩, _⟩ := st; wpAny_pyIter_enum x1 q
end
section
variable {prog : Program} {w : World} {A : Around} {E : Value → Shared → Prop} {s : Shared}
open AutoSeq1 (wpAny_loadPart')
theorem new_enumT (t : Addr) (its : Array Value) (n : Nat) (dct : Option Addr) (sl : Array (Option Value)) :
    Meets (Builtin.«enumerate.__new__» ⟨[.type "enumerate", .ref t], []⟩) (fun _ R s => s.heap.get? t = some { cls := .type "tuple", dict := dct, data := .seq its n, slots := sl } ∧
      R (.ok (.ret (.ref (s.heap.push { cls := .type "tuple_iterator", data := .fields #[.ref t, .int 0 0] }).objs.size)))
        { s with heap := (s.heap.push { cls := .type "tuple_iterator", data := .fields #[.ref t, .int 0 0] }).push { cls := .type "enumerate", data := .fields #[.none, .bool false, .ref s.heap.objs.size, rawInt 0, .none, .none] } }) := by
  refine .of_wp fun prog w A R s ⟨ht, q⟩ => ?_
  obtain ⟨hp, g, d, tk, os⟩ := s
  have hsub := sub_enumerate
  have hT : Heap.IsTuple (Shared.heap ⟨hp, g, d, tk, os⟩) t its := ⟨_, ht, rfl, n, rfl⟩
  wp_walk using wpAny_loadPart' ht
  refine wpAny_stack_any fun st => wpAny_pure ?_
  split
  · rename_i c _ _ _ _ _
    cases (c == Value.type "enumerate") <;> (wp_walk using wpAny_loadPart' ht, wpAny_pyIter_tuple hT; exact ⟨_, rfl, q⟩)
  · wp_walk using wpAny_loadPart' ht, wpAny_pyIter_tuple hT
    exact ⟨_, rfl, q⟩
theorem call_enumT {t : Addr} {its : Array Value} {Q : Value → Shared → Prop} (ht : s.heap.IsTuple t its)
    (q : ∀ h', IsEnum h' (s.heap.objs.size + 1) s.heap.objs.size 0 .none → h'.IsTupleIter s.heap.objs.size t 0 → h'.objs.size = s.heap.objs.size + 2 →
      (∀ b o, s.heap.get? b = some o → h'.get? b = some o) → Q (.ref (s.heap.objs.size + 1)) { s with heap := h' }) :
    wpAny (model prog w) A (call (.type "enumerate") [.ref t]) Q E s := by
  obtain ⟨⟨c, dct, dt, sl⟩, h1, h2, n, h3⟩ := ht
  have h2 : c = .type "tuple" := h2
  have h3 : dt = .seq its n := h3
  subst h2 h3
  refine callType_new F.called_enumerate (by decide) (F.typeCall_enumerate_1 _) (F.newCall_enumerate_1 _) (fun obj => F.args_object_init_2 obj _) F.entry_enumerate_new
    (new_enumT t its n dct sl) ⟨h1, ?_⟩
  have hz : (s.heap.push { cls := .type "tuple_iterator", data := .fields #[.ref t, .int 0 0] }).objs.size = s.heap.objs.size + 1 := Heap.size_push ..
  show _ ∧ _
  rw [hz]
  have he := Heap.get?_push_size (s.heap.push { cls := .type "tuple_iterator", data := .fields #[.ref t, .int 0 0] }) (o := { cls := .type "enumerate", data := .fields #[.none, .bool false, .ref s.heap.objs.size, rawInt 0, .none, .none] }) rfl
  rw [hz] at he
  refine ⟨⟨_, he, rfl⟩, q _ he ⟨_, Heap.get?_push_of_some _ (Heap.get?_push_size _ rfl), rfl, rfl⟩ (by rw [Heap.size_push, hz]) fun b o z => Heap.get?_push_of_some _ (Heap.get?_push_of_some _ z)⟩
end
def iEnumA (K : PySem.W.Frag) (ta : TA) : TI := fun σ H R => ta σ H fun vs H1 => ∃ a xs, vs = [.ref a] ∧ ((SqL K H1 a xs ∧ R (Ite K a) H1) ∨ (SqT K H1 a xs ∧ R (IteT K a) H1))
theorem pi_enumA {X : Cx} {e : Expr} {ta : TA} {p pos tpos : Pos} {elts : List Expr} {kk : Nat} (hg : Gl X "enumerate") (hm : X.mg "enumerate" = none) (ha : PA X [e] ta) (hs : starEach [e] X.env = [(false, eval e X.env)]) :
    PI X (.Tuple elts kk tpos) (.Call (.Name "enumerate" p) [e] [] pos) (iEnumA X.K ta) := by
  refine ⟨fun pins s σ H R I h => ?_⟩
  refine Call_ (ld_blt I hg hm boot_enumerate (PyProof.Rows.callWith_type1 (thn (ha.run pos pins s σ H _ I h) fun us s1 ⟨vs, H1, I1, r1, q1⟩ => ?_) hs rfl))
  obtain ⟨a, xs, ex, q1⟩ := q1
  subst ex
  cases r1 with
  | cons r rr =>
    cases rr
    cases r
    have fp : ∀ b ∈ [s1.heap.objs.size + 1, s1.heap.objs.size], FpOk X pins H1 b := fun b hb => by
      have hle : s1.heap.objs.size ≤ b := by
        rcases (show b = s1.heap.objs.size + 1 ∨ b = s1.heap.objs.size by simpa using hb) with z | z <;> omega
      exact I1.fpOk hle (I1.hok.fresh hle)
    rcases q1 with ⟨hq, q⟩ | ⟨hq, q⟩
    · obtain ⟨its, rv, p', hz⟩ := I1.list hq
      refine call_enumerate_list p'.isList fun h' he hit hsz hk => wpAny_pyIter_enum he ?_
      have I2 : Inv X pins σ H1 { s1 with heap := h' } := I1.kept (t' := s1.toks) hk
      exact ⟨s1.heap.objs.size + 1, [s1.heap.objs.size + 1, s1.heap.objs.size], _, _, H1, rfl, I2, turn_enum a (s1.heap.objs.size + 1) s1.heap.objs.size, ⟨⟨.none, he⟩, hit, Nat.succ_ne_self _⟩, fp, q⟩
    · obtain ⟨its, rv, p', hz⟩ := I1.tuple hq
      refine call_enumT p' fun h' he hit hsz hk => wpAny_pyIter_enum he ?_
      have I2 : Inv X pins σ H1 { s1 with heap := h' } := I1.kept (t' := s1.toks) hk
      exact ⟨s1.heap.objs.size + 1, [s1.heap.objs.size + 1, s1.heap.objs.size], _, _, H1, rfl, I2, turn_enumT a (s1.heap.objs.size + 1) s1.heap.objs.size, ⟨⟨.none, he⟩, hit, Nat.succ_ne_self _⟩, fp, q⟩
end WM
namespace WM
open PySem PySem.Spec PyProof.Rows L2
/-- the tuples at a, b and c as they stand at each turn, the items in new triples -/
def Itz3 (K : PySem.W.Frag) (a b c : Addr) (xs ys zs : List V) : It :=
  ⟨fun i H => ∃ (x y z : V), SqT K H a xs ∧ SqT K H b ys ∧ SqT K H c zs ∧ xs[i]? = some x ∧ ys[i]? = some y ∧ zs[i]? = some z,
    fun i H v H' => ∃ T x y z, v = .ref T ∧ H T = none ∧ H' = upd H T (.tup [x, y, z]) ∧ xs[i]? = some x ∧ ys[i]? = some y ∧ zs[i]? = some z,
    fun i H => SqT K H a xs ∧ SqT K H b ys ∧ SqT K H c zs ∧ (xs.length ≤ i ∨ ys.length ≤ i ∨ zs.length ≤ i)⟩
structure Sep3 (z TI TO i1 i2 i3 a b c : Addr) : Prop where
  S : ZipSep3 z TI TO i1 i2 i3 [i1, a] [i2, b] [i3, c]
  a1 : a ≠ i1
  b2 : b ≠ i2
  c3 : c ≠ i3
theorem turn_zip3 {P : Program} {w : World} {K : PySem.W.Frag} {elts : List Expr} {kk : Nat} {tpos : Pos} {a b c z TI TO i1 i2 i3 : Addr} {xs ys zs : List V} (D : Sep3 z TI TO i1 i2 i3 a b c) :
    Turn P w K (.Tuple elts kk tpos) (Itz3 K a b c xs ys zs) [z, TI, TO, i1, i2, i3] z (fun i h => (i ≤ xs.length ∧ i ≤ ys.length ∧ i ≤ zs.length) ∧ IsZip h z TI TO .none ∧ IsTupOf3 h TI (.ref i1) (.ref i2) (.ref i3) ∧ (∃ x y u, IsTupOf3 h TO x y u) ∧ h.IsTupleIter i1 a i ∧ h.IsTupleIter i2 b i ∧ h.IsTupleIter i3 c i) where
  mem := by simp
  obj := fun i h st d hd => by
    obtain ⟨_, hz, hTI, ⟨x, y, u, hTO⟩, ⟨o1, e1, _, d1⟩, ⟨o2, e2, _, d2⟩, ⟨o3, e3, _, d3⟩⟩ := st
    have e' : d = z ∨ d = TI ∨ d = TO ∨ d = i1 ∨ d = i2 ∨ d = i3 := by simpa using hd
    rcases e' with q | q | q | q | q | q
    · rw [q]; exact ⟨_, hz, fun v q => nomatch q⟩
    · rw [q]; exact ⟨_, hTI, fun v q => nomatch q⟩
    · rw [q]; exact ⟨_, hTO, fun v q => nomatch q⟩
    · rw [q]; exact ⟨o1, e1, fun v q => by rw [d1] at q; cases q⟩
    · rw [q]; exact ⟨o2, e2, fun v q => by rw [d2] at q; cases q⟩
    · rw [q]; exact ⟨o3, e3, fun v q => by rw [d3] at q; cases q⟩
  keep := fun i h h' st k => by
    obtain ⟨hl, hz, hTI, ⟨x, y, u, hTO⟩, h1, h2, h3⟩ := st
    exact ⟨hl, k z (by simp) _ hz, k TI (by simp) _ hTI, ⟨x, y, u, k TO (by simp) _ hTO⟩, h1.at fun o q => k i1 (by simp) o q, h2.at fun o q => k i2 (by simp) o q, h3.at fun o q => k i3 (by simp) o q⟩
  item := by
    intro X hP hw hK hc i pins s σ H E I hf st hg
    subst hP hw hK
    obtain ⟨hlen, hz, hTI, ⟨x0, y0, u0, hTO⟩, h1, h2, h3⟩ := st
    obtain ⟨x, y, t, hqx, hqy, hqz, hx, hy, ht⟩ := hg
    obtain ⟨its, rv, p, _⟩ := I.tuple hqx
    obtain ⟨its2, rv2, p2, _⟩ := I.tuple hqy
    obtain ⟨its3, rv3, p3, _⟩ := I.tuple hqz
    obtain ⟨u, hu, ru⟩ := rv.get hx
    obtain ⟨u2, hu2, ru2⟩ := rv2.get hy
    obtain ⟨u3, hu3, ru3⟩ := rv3.get ht
    have hzl : z < s.heap.objs.size := Heap.lt_size hz
    have l1 : i < its.toArray.size := by simpa using (List.getElem?_eq_some_iff.mp hu).1
    have l2 : i < its2.toArray.size := by simpa using (List.getElem?_eq_some_iff.mp hu2).1
    have l3 : i < its3.toArray.size := by simpa using (List.getElem?_eq_some_iff.mp hu3).1
    have hh := I.ok.hd hc
    have free : X.A.in1.handled = none := hh
    refine wpAny_pyNext_zipD3_item D.S (Draws.tuple free i1 a D.a1 its.toArray) (Draws.tuple free i2 b D.b2 its2.toArray) (Draws.tuple free i3 c D.c3 its3.toArray) hz hTI hTO ⟨h1, p⟩ ⟨h2, p2⟩ ⟨h3, p3⟩ l1 l2 l3 fun w1 w2 w3 h' tk q1 q2 q3 z' TO' h1' h2' h3' hT hsz hk => ?_
    have ew1 : w1 = u := by
      have : its.toArray[i]? = some u := by simpa using hu
      rw [this] at q1
      exact (Option.some.inj q1).symm
    have ew2 : w2 = u2 := by
      have : its2.toArray[i]? = some u2 := by simpa using hu2
      rw [this] at q2
      exact (Option.some.inj q2).symm
    have ew3 : w3 = u3 := by
      have : its3.toArray[i]? = some u3 := by simpa using hu3
      rw [this] at q3
      exact (Option.some.inj q3).symm
    subst ew1 ew2 ew3
    refine ⟨_, rfl, wpAny_letOwnedTupleGo_zip (s := { s with heap := h', toks := tk }) z' fun h'' z'' sb => ?_⟩
    have hT2 : h''.get? s.heap.objs.size = some { cls := .type "tuple", data := .seq #[w1, w2, w3] } := (sb.2 _ (Nat.ne_of_gt hzl)).trans hT
    have new : ObjOk X.prog X.w (upd H s.heap.objs.size (.tup [x, y, t])) h'' s.heap.objs.size (.tup [x, y, t]) :=
      ⟨by show 3 ≤ sizeLine; decide, [w1, w2, w3], .cons ru (.cons ru2 (.cons ru3 .nil)), ⟨_, hT2, rfl, _, rfl⟩⟩
    have I1 : Inv X pins σ (upd H s.heap.objs.size (.tup [x, y, t])) { s with heap := h'', toks := tk } :=
      I.turnedNew (t' := tk) (ch := [z, TI, TO, i1, i2, i3]) (fun d o hb q => (sb.2 d (fun q' => hb (by simp [q']))).trans (hk d o (fun q' => hb (by simp [q'])) (fun q' => hb (by simp [q'])) (fun q' => hb (by simp [q'])) (fun q' => hb (by simp [q'])) (fun q' => hb (by simp [q'])) q)) hf (Nat.le_refl _) new
    refine ⟨.ref s.heap.objs.size, _, I1, rfl, ⟨_, x, y, t, rfl, I.hok.fresh (Nat.le_refl _), rfl, hx, hy, ht⟩, ⟨⟨(List.getElem?_eq_some_iff.mp hx).1, (List.getElem?_eq_some_iff.mp hy).1, (List.getElem?_eq_some_iff.mp ht).1⟩, z'', ?_, ⟨w1, w2, w3, ?_⟩, ?_, ?_, ?_⟩, fun d hdm => ?_⟩
    · exact (sb.2 _ D.S.TIz).trans (hk _ _ D.S.TIz D.S.TITO D.S.TIi1 D.S.TIi2 D.S.TIi3 hTI)
    · exact (sb.2 _ D.S.TOz).trans TO'
    · exact h1'.1.at fun o q => (sb.2 _ (Ne.symm D.S.zi1)).trans q
    · exact h2'.1.at fun o q => (sb.2 _ (Ne.symm D.S.zi2)).trans q
    · exact h3'.1.at fun o q => (sb.2 _ (Ne.symm D.S.zi3)).trans q
    · have hlt : d < s.heap.objs.size := by
        have e' : d = z ∨ d = TI ∨ d = TO ∨ d = i1 ∨ d = i2 ∨ d = i3 := by simpa using hdm
        rcases e' with q | q | q | q | q | q
        · rw [q]; exact hzl
        · rw [q]; exact Heap.lt_size hTI
        · rw [q]; exact Heap.lt_size hTO
        · rw [q]; obtain ⟨_, e1, _⟩ := h1; exact Heap.lt_size e1
        · rw [q]; obtain ⟨_, e2, _⟩ := h2; exact Heap.lt_size e2
        · rw [q]; obtain ⟨_, e3, _⟩ := h3; exact Heap.lt_size e3
      rw [upd_ne (Nat.ne_of_lt hlt)]
      exact (hf d hdm).1
  done := by
    intro X hP hw hK hc i pins s σ H E I hf st hg
    subst hP hw hK
    obtain ⟨hlen, hz, hTI, ⟨x0, y0, u0, hTO⟩, h1, h2, h3⟩ := st
    obtain ⟨hqx, hqy, hqz, hend⟩ := hg
    obtain ⟨its, rv, p, _⟩ := I.tuple hqx
    obtain ⟨its2, rv2, p2, _⟩ := I.tuple hqy
    obtain ⟨its3, rv3, p3, _⟩ := I.tuple hqz
    have l1 := rv.length
    have l2 := rv2.length
    have l3 := rv3.length
    have free : X.A.in1.handled = none := I.ok.hd hc
    have z1 : its.toArray.size = xs.length := by simp [l1]
    have z2 : its2.toArray.size = ys.length := by simp [l2]
    have z3 : its3.toArray.size = zs.length := by simp [l3]
    exact wpAny_pyNext_zipD3_end D.S (Draws.tuple free i1 a D.a1 its.toArray) (Draws.tuple free i2 b D.b2 its2.toArray) (Draws.tuple free i3 c D.c3 its3.toArray) hz hTI hTO ⟨h1, p⟩ ⟨h2, p2⟩ ⟨h3, p3⟩ (by omega) (by omega) (by omega) (by omega) fun h' tk hk => ⟨rfl, I.turnedL (t' := tk) (ch := [z, TI, TO, i1, i2, i3]) (fun d o hb q =>
      hk d o (fun q' => hb (by simp [q'])) (fun q' => hb (by simp [q'])) (fun q' => hb (by simp [q'])) (fun q' => hb (by simp [q'])) (fun q' => hb (by simp [q'])) q) hf⟩
  self := fun A i s Q E st h => wpAny_pyIter_zip st.2.1 h
def iZip3 (K : PySem.W.Frag) (ta : TA) : TI := fun σ H R => ta σ H fun vs H1 => ∃ a b c xs ys zs, vs = [.ref a, .ref b, .ref c] ∧ SqT K H1 a xs ∧ SqT K H1 b ys ∧ SqT K H1 c zs ∧ R (Itz3 K a b c xs ys zs) H1
theorem pi_zip3 {X : Cx} {e e2 e3 : Expr} {ta : TA} {p pos tpos : Pos} {elts : List Expr} {kk : Nat} (hg : Gl X "zip") (hm : X.mg "zip" = none) (ha : PA X [e, e2, e3] ta)
    (hs : starEach [e, e2, e3] X.env = (false, eval e X.env) :: starEach [e2, e3] X.env := by rfl) (hpl : (backTo pos (starEach [e2, e3] X.env)).any (·.1) = false := by rfl) :
    PI X (.Tuple elts kk tpos) (.Call (.Name "zip" p) [e, e2, e3] [] pos) (iZip3 X.K ta) := by
  refine ⟨fun pins s σ H R I h => ?_⟩
  refine Call_ (ld_blt I hg hm PyProof.Rows.boot_zip (PyProof.Rows.callWith_type1 (thn (ha.run pos pins s σ H _ I h) fun us s1 ⟨vs, H1, I1, r1, q1⟩ => ?_) hs hpl))
  obtain ⟨a, b, c, xs, ys, zs, ex, hqx, hqy, hqz, q⟩ := q1
  subst ex
  cases r1 with
  | cons r rr =>
    cases rr with
    | cons r' rr =>
      cases rr with
      | cons r'' rr =>
        cases rr
        cases r
        cases r'
        cases r''
        have fresh6 : ∀ d, d ∈ [s1.heap.objs.size + 5, s1.heap.objs.size + 3, s1.heap.objs.size + 4, s1.heap.objs.size, s1.heap.objs.size + 1, s1.heap.objs.size + 2] → FpOk X pins H1 d := fun d hdm => by
          have hle : s1.heap.objs.size ≤ d := by
            have e' : d = s1.heap.objs.size + 5 ∨ d = s1.heap.objs.size + 3 ∨ d = s1.heap.objs.size + 4 ∨ d = s1.heap.objs.size ∨ d = s1.heap.objs.size + 1 ∨ d = s1.heap.objs.size + 2 := by simpa using hdm
            rcases e' with z | z | z | z | z | z
            · rw [z]; exact Nat.le_add_right _ _
            · rw [z]; exact Nat.le_add_right _ _
            · rw [z]; exact Nat.le_add_right _ _
            · rw [z]; exact Nat.le_refl _
            · rw [z]; exact Nat.le_add_right _ _
            · rw [z]; exact Nat.le_add_right _ _
          exact I1.fpOk hle (I1.hok.fresh hle)
        obtain ⟨its, rv, p1, _⟩ := I1.tuple hqx
        obtain ⟨its2, rv2, p2, _⟩ := I1.tuple hqy
        obtain ⟨its3, rv3, p3, _⟩ := I1.tuple hqz
        have la : a < s1.heap.objs.size := by obtain ⟨o1, ho1, _⟩ := id p1; exact Heap.lt_size ho1
        have lb : b < s1.heap.objs.size := by obtain ⟨o1, ho1, _⟩ := id p2; exact Heap.lt_size ho1
        have lc : c < s1.heap.objs.size := by obtain ⟨o1, ho1, _⟩ := id p3; exact Heap.lt_size ho1
        refine zip_begins3 (begins_tuple a its.toArray) (begins_tuple b its2.toArray) (begins_tuple c its3.toArray) p1 p2 p3 fun h' hz hTI hTO h1 h2 h3 hsz hk => wpAny_pyIter_zip hz ?_
        have I2 : Inv X pins σ H1 { s1 with heap := h' } := I1.kept (t' := s1.toks) hk
        exact ⟨s1.heap.objs.size + 5, [s1.heap.objs.size + 5, s1.heap.objs.size + 3, s1.heap.objs.size + 4, s1.heap.objs.size, s1.heap.objs.size + 1, s1.heap.objs.size + 2], _, _, H1, rfl, I2,
          turn_zip3 ⟨zip_sep3 (fp1 := [a]) (fp2 := [b]) (fp3 := [c]) (fun d hd => by simp at hd; rw [hd]; exact la) (fun d hd => by simp at hd; rw [hd]; exact lb) (fun d hd => by simp at hd; rw [hd]; exact lc), Nat.ne_of_lt la, Nat.ne_of_lt (Nat.lt_of_lt_of_le lb (Nat.le_add_right _ _)), Nat.ne_of_lt (Nat.lt_of_lt_of_le lc (Nat.le_add_right _ _))⟩,
          ⟨⟨Nat.zero_le _, Nat.zero_le _, Nat.zero_le _⟩, hz, hTI, ⟨_, _, _, hTO⟩, ⟨_, h1, rfl, rfl⟩, ⟨_, h2, rfl, rfl⟩, ⟨_, h3, rfl, rfl⟩⟩, fresh6, q⟩
end WM
namespace WM
open PySem PySem.Spec PyProof.Rows L2
theorem adjust_rev (n : Nat) : Builtin.Slice.sliceAdjust none none (-1) (n : Int) = ((n : Int) - 1, -1) := by
  unfold Builtin.Slice.sliceAdjust
  simp
theorem places_rev (n : Nat) : Builtin.Slice.slicePlaces ((n : Int) - 1) (-1) (-1) = n := by
  unfold Builtin.Slice.slicePlaces
  simp
  omega
section
variable {prog : Program} {w : World} {A : Around} {E : Value → Shared → Prop} {s : Shared}
theorem sliceApplied_rev {sl : Addr} {n : Nat} {vs : Value} {Q : Int × Int × Nat → Shared → Prop} (hs : s.heap.IsSliceOf sl .none .none vs) (ps : IsPart vs (some (-1)))
    (h : Q ((n : Int) - 1, -1, n) s) : wpAny (model prog w) A (Builtin.Slice.sliceApplied (.ref sl) (pure (n : Int))) Q E s := by
  obtain ⟨os, hos, hcs, hds⟩ := id hs
  unfold Builtin.Slice.sliceApplied Builtin.Slice.sliceFields
  refine wpAny_bind (wpAny_bind (wpAny_field hos hds (x := .none) rfl (wpAny_bind (wpAny_field hos hds (x := .none) rfl (wpAny_bind (wpAny_field hos hds (x := vs) rfl (wpAny_pure ?_)))))))
  refine wpAny_bind (HT.slicePart_ ps ?_)
  show wpAny _ _ (if ((-1 : Int) == 0) = true then _ else _) _ _ s
  rw [if_neg (by decide)]
  refine wpAny_bind (HT.slicePart_ .none (wpAny_bind (HT.slicePart_ .none (wpAny_bind (wpAny_pure ?_)))))
  show wpAny _ _ (match Builtin.Slice.sliceAdjust none none (-1) (n : Int) with | (lo, hi) => pure (lo, (-1 : Int), Builtin.Slice.slicePlaces lo hi (-1))) _ _ s
  rw [adjust_rev n]
  show wpAny _ _ (pure ((n : Int) - 1, (-1 : Int), Builtin.Slice.slicePlaces ((n : Int) - 1) (-1) (-1))) _ _ s
  rw [places_rev]
  exact wpAny_pure h
theorem pick_rev (xs : Array Value) : ((List.range xs.size).filterMap fun (m : Nat) => xs[(((xs.size : Int) - 1) + (m : Int) * (-1)).toNat]?).toArray = xs.toList.reverse.toArray := by
  have e : ∀ l : List Nat, (∀ m ∈ l, m < xs.size) → l.filterMap (fun (m : Nat) => xs[(((xs.size : Int) - 1) + (m : Int) * (-1)).toNat]?) = l.filterMap (fun (m : Nat) => xs.toList.reverse.toArray[m]?) := by
    intro l
    induction l with
    | nil => intro _; rfl
    | cons m l ih =>
      intro h
      have hm := h m (List.mem_cons_self ..)
      have e1 : (((xs.size : Int) - 1) + (m : Int) * (-1)).toNat = xs.size - 1 - m := by omega
      have e2 : xs[(((xs.size : Int) - 1) + (m : Int) * (-1)).toNat]? = xs.toList.reverse.toArray[m]? := by
        have e3 : xs.toList.reverse.toArray[m]? = xs.toList.reverse[m]? := List.getElem?_toArray
        have e4 : xs.toList.reverse[m]? = xs.toList[xs.toList.length - 1 - m]? := List.getElem?_reverse hm
        rw [e1, e3, e4, Array.length_toList, Array.getElem?_toList]
      rw [List.filterMap_cons, List.filterMap_cons, e2, ih fun m hm => h m (List.mem_cons_of_mem _ hm)]
  rw [e _ fun m hm => List.mem_range.mp hm]
  have := PySem.W.krv_all xs.toList.reverse.toArray
  rw [List.size_toArray, List.length_reverse, Array.length_toList] at this
  rw [this]
theorem getItem_tuple_rev {t sl : Addr} {items : Array Value} {vs : Value} {Q : Value → Shared → Prop} (ht : IsTup s.heap t items) (hs : s.heap.IsSliceOf sl .none .none vs) (ps : IsPart vs (some (-1)))
    (h : Q (.ref s.heap.objs.size) { s with heap := s.heap.push { cls := .type "tuple", data := .seq items.toList.reverse.toArray } })
    (hsz : items.size ≤ sizeLine) : wpAny (model prog w) A (getItem (.ref t) (.ref sl)) Q E s := by
  have htake : sizeOk (.seq items.toList.reverse.toArray) := by
    show items.toList.reverse.toArray.size ≤ sizeLine
    rw [List.size_toArray, List.length_reverse, Array.length_toList]
    omega
  obtain ⟨os, hos, hcs, hds⟩ := id hs
  have hTs : s.TypeIs (.ref sl) "slice" := ⟨os, hos, hcs⟩
  unfold getItem
  try with_reducible refine wpAny_holding ?_
  first | refine wpAny_bind (wpAny_pure ?_) | skip
  refine wpAny_bind (wpAny_sequenceKey ht.typeIs (by decide) ?_)
  refine wpAny_bind (wpAny_callSpecial?_slot (name := Str.ofString "__getitem__") ht.typeIs PyProof.Rows.slot_tuple_getitem
    (wpAny_call_entry PyProof.Rows.slot_tuple_getitem ht.typeIs entry_tuple_getitem ?_ (args_tuple_getitem _ _)))
  show wpAny _ _ (Builtin.Tuple.tupleItemsOf (.ref t) >>= _) _ _ s
  refine wpAny_bind (tupleItemsOf_ ht ?_)
  refine wpAny_bind (wpAny_typeOf hTs ?_)
  rw [if_pos (by decide)]
  refine wpAny_bind (sliceApplied_rev hs ps ?_)
  have hno : ¬ ((((items.size : Int) - 1) == 0 && (-1 : Int) == 1 && items.size == items.size) = true) := by
    intro q
    rw [Bool.and_eq_true, Bool.and_eq_true] at q
    exact absurd q.1.2 (by decide)
  show wpAny _ _ (if (((items.size : Int) - 1) == 0 && (-1 : Int) == 1 && items.size == items.size) = true then _ else _) _ _ s
  rw [if_neg hno, pick_rev]
  first
    | exact wpAny_bind (m := Builtin.Tuple.tupleExact _) (wpAny_newObj_type (wpAny_pure ⟨_, rfl, wpAny_pure h⟩) htake)
    | exact wpAny_bind (m := Builtin.Tuple.tupleExact _) (wpAny_newObj_type (wpAny_bind (wpAny_pure (wpAny_pure ⟨_, rfl, wpAny_pure h⟩))) htake)
    | exact wpAny_bind (wpAny_bind (m := Builtin.Tuple.tupleExact _) (wpAny_newObj_type (wpAny_pure (wpAny_pure ⟨_, rfl, wpAny_pure h⟩)) htake))
    | exact wpAny_bind (wpAny_bind (m := Builtin.Tuple.tupleExact _) (wpAny_newObj_type (wpAny_pure ⟨_, rfl, wpAny_pure h⟩) htake))
end
def tRev (K : PySem.W.Frag) (te : TE) : TE := fun σ H Q => te σ H fun x H1 => ∃ a xs, x = .ref a ∧ ((SqL K H1 a xs ∧ ∀ p, H1 p = none → Q (.ref p) (upd H1 p (.lst xs.reverse))) ∨ (SqT K H1 a xs ∧ ∀ p, H1 p = none → Q (.ref p) (upd H1 p (.tup xs.reverse))))
section
variable {X : Cx}
theorem pe_rev {e : Expr} {te : TE} {k : Nat} {p1 p2 p3 pos : Pos} (he : PE X e te) : PE X (.Subscript e (.Slice none none (some (.UnaryOp .USub (.Constant (.int 1) k p1) p2)) p3) pos) (tRev X.K te) := by
  refine ⟨fun pins s σ H Q I h => ?_⟩
  refine Subscript_ (thn (he.run pins s σ H _ I h) fun v s1 ⟨x, H1, I1, r1, q1⟩ => ?_)
  obtain ⟨a, xs, ex, q1⟩ := q1
  subst ex
  cases r1
  have hst : PO X (some (.UnaryOp .USub (.Constant (.int 1) k p1) p2)) (tPart (tUn (rU fun i => .int (-i)) (tC (.int 1)))) := po_some (pe_un un_neg pe_int)
  refine wpAny_Slice (thn (po_none.run pins s1 σ H1 (fun o H2 => o = none ∧ H2 = H1) I1 ⟨rfl, rfl⟩) fun vl s2 ⟨l, H2, I2, pl, el, e2⟩ => ?_)
  subst el e2
  refine thn (po_none.run pins s2 σ H2 (fun o H3 => o = none ∧ H3 = H2) I2 ⟨rfl, rfl⟩) fun vu s3 ⟨u, H3, I3, pu, eu, e3⟩ => ?_
  subst eu e3
  refine thn (hst.run pins s3 σ H3 (fun o H4 => o = some (-1) ∧ H4 = H3) I3 ⟨1, rfl, -1, rfl, rfl, rfl⟩) fun vs s4 ⟨o, H4, I4, ps, eo, e4⟩ => ?_
  subst eo e4
  cases pl
  cases pu
  have I5 : Inv X pins σ H4 { s4 with heap := s4.heap.push { cls := .type "slice", data := .fields #[.none, .none, vs] } } := I4.kept (t' := s4.toks) fun b ob q => Heap.get?_push_of_some _ q
  show wpAny (model X.prog X.w) X.A (subscriptTail e (.Slice none none (some (.UnaryOp .USub (.Constant (.int 1) k p1) p2)) p3) (.ref a) (.ref s4.heap.objs.size)) (EP X pins σ Q) X.xe { s4 with heap := s4.heap.push { cls := .type "slice", data := .fields #[.none, .none, vs] } }
  rcases q1 with ⟨hx, q⟩ | ⟨hx, q⟩
  · obtain ⟨its, r, ht, hz⟩ := I5.list hx
    have hlen := r.length
    refine tail_any (ops := [.ref a, .ref s4.heap.objs.size]) ht.isList.typeIs (PySem.slot_list_getitem.lookup) ?_ (by with_unfolding_all rfl)
    refine wpAny_getItem_list_slice ht.isList (Heap.IsSliceOf.new _ .none .none vs) .none .none ps (by decide) ?_ (by rw [List.size_toArray]; omega)
    rw [PySem.W.krv_pick]
    refine ⟨.ref _, _, I5.laid (t' := s4.toks) (o := .lst xs.reverse) (fun b ob q => Heap.get?_push_of_some _ q) (Nat.le_refl _) ?_, rfl, q _ (I5.hok.fresh (Nat.le_refl _))⟩
    exact ⟨by rw [List.length_reverse]; exact hz, _, 0, r.reverse, Heap.get?_push_size _ rfl⟩
  · obtain ⟨its, r, ht, hz⟩ := I5.tuple hx
    have hlen := r.length
    refine tail_any (ops := [.ref a, .ref s4.heap.objs.size]) ht.typeIs (PyProof.Rows.slot_tuple_getitem.lookup) ?_ (by with_unfolding_all rfl)
    refine getItem_tuple_rev ht (Heap.IsSliceOf.new _ .none .none vs) ps ?_ (by rw [List.size_toArray]; omega)
    refine ⟨.ref _, _, I5.laid (t' := s4.toks) (o := .tup xs.reverse) (fun b ob q => Heap.get?_push_of_some _ q) (Nat.le_refl _) ?_, rfl, q _ (I5.hok.fresh (Nat.le_refl _))⟩
    exact ⟨by rw [List.length_reverse]; exact hz, _, r.reverse, IsTup.new _ _⟩
variable {a : Expr} {fa : EM} {pos : Pos}
theorem se_rev {k : Nat} {p1 p2 p3 : Pos} (ha : PE X a (tE X.K fa)) : PE X (.Subscript a (.Slice none none (some (.UnaryOp .USub (.Constant (.int 1) k p1) p2)) p3) pos) (tE X.K fun sl st => andD (fa sl st) fun x st1 => okD (revD x) st1) :=
  (pe_rev ha).weak fun σ H Q ⟨P, ca, G, sl, st, w, st', hm, hs, e, q⟩ => by
    obtain ⟨x, st1, e1, e⟩ := andD_some e
    obtain ⟨d, e2, e3⟩ := okD_some e
    cases e3
    refine ⟨P, ca, G, sl, st, _, _, hm, hs, e1, fun v1 ca1 G1 H1 n1 hm1 r1 => ?_⟩
    cases x with
    | list xs =>
      cases e2
      obtain ⟨b, vs, rfl, h1, a1⟩ := Rp.list_inv r1
      refine ⟨b, vs, rfl, .inl ⟨SqL.of (hm1.sub _ _ h1), fun p hp => ?_⟩⟩
      have ex : Ext G1 H1 (upd G1 p (.lst vs.reverse)) (upd H1 p (.lst vs.reverse)) := Ext.new hm1.sub hp
      exact q _ ca1 _ _ (n1.trans (Nxt.of ex.g)) (hm1.ext ex) (.lst upd_same (Rps.mono ex.g a1.reverse))
    | tuple xs =>
      cases e2
      obtain ⟨b, vs, rfl, h1, a1⟩ := Rp.tuple_inv r1
      refine ⟨b, vs, rfl, .inr ⟨SqT.mono hm1.sub h1, fun p hp => ?_⟩⟩
      have ex : Ext G1 H1 (upd G1 p (.tup vs.reverse)) (upd H1 p (.tup vs.reverse)) := Ext.new hm1.sub hp
      exact q _ ca1 _ _ (n1.trans (Nxt.of ex.g)) (hm1.ext ex) (.tup (SqT.of upd_same) (Rps.mono ex.g a1.reverse))
    | _ => cases e2
end
end WM
namespace WM
open PySem PySem.Spec PyProof.Rows L2
section
variable {Φ : Fn} {k : Nat} {X : Cx} {C : CE}
variable {e a b c d : Expr} {fa fb fc fd : EM} {pos p : Pos} {es : List Expr} {fs : AM}
noncomputable def callM (Φ : Fn) (i : Nat) (fs : AM) : EM := fun sl st => (match fs sl st with
    | none => none
    | some (ws, st1) => callK Φ i ws st1)
theorem se_call {i n : Nat} {x : Str} (xo : XOk Φ k X C) (hg : globOf C x = some (.fn i n)) (ha : PA X (a :: es) (tA X.K fs)) (hn : (a :: es).length = n) (hw : ∀ sl st ws st', fs sl st = some (ws, st') → ws.length = n)
    (he : starEach (a :: es) X.env = (false, eval a X.env) :: starEach es X.env) (hpl : (backTo pos (starEach es X.env)).any (·.1) = false) :
    PE X (.Call (.Name x p) (a :: es) [] pos) (tE X.K (callM Φ i fs)) := by
  obtain ⟨gl, ⟨f, fd, ps, hm, hk, hb, hps, F, _⟩, d1, d2⟩ := globOf_ok xo hg
  refine (pe_call F xo.room gl hm hk hb .nil pass0 ha d1 he hpl).weak fun σ H Q ⟨P, ca, G, sl, st, w, st', hm, hs, e, q⟩ => ?_
  replace e : (match fs sl st with
    | none => none
    | some (ws, st1) => callK Φ i ws st1) = some (w, st') := e
  split at e
  · cases e
  · rename_i ws st1 e1
    rw [callK_eq] at e
    refine ⟨P, ca, G, sl, st, _, _, hm, hs, e1, fun vs ca1 G1 H1 n1 hm1 r1 => ?_⟩
    show spD X.K (Φ i) n (vs ++ []) H1 Q E0
    rw [List.append_nil]
    exact ⟨by rw [r1.length]; exact hw _ _ _ _ e1, P, ca1, G1, st1, ws, w, st', hm1, r1, e, fun v G' H' s hm' r => q v ca1 G' H' (n1.trans (Nxt.of s)) hm' r⟩
theorem sn_call {i n : Nat} {x : Str} (xo : XOk Φ k X C) (hg : globOf C x = some (.fn i n)) (ha : PA X (a :: es) (tA X.K fs)) (hn : (a :: es).length = n) (hw : ∀ sl st ws st', fs sl st = some (ws, st') → ws.length = n)
    (he : starEach (a :: es) X.env = (false, eval a X.env) :: starEach es X.env) (hpl : (backTo pos (starEach es X.env)).any (·.1) = false) :
    PE X (.Call (.Name x p) (a :: es) [] pos) (tN X.K (callM Φ (NEWB + i) fs)) := by
  obtain ⟨gl, ⟨f, fd, ps, hm, hk, hb, hps, _, F⟩, d1, d2⟩ := globOf_ok xo hg
  refine (pe_call F xo.room gl hm hk hb .nil pass0 ha d1 he hpl).weak fun σ H Q ⟨P, ca, G, sl, st, w, st', hm, hs, e, q⟩ => ?_
  replace e : (match fs sl st with
    | none => none
    | some (ws, st1) => callK Φ (NEWB + i) ws st1) = some (w, st') := e
  split at e
  · cases e
  · rename_i ws st1 e1
    rw [callK_eq] at e
    refine ⟨P, ca, G, sl, st, _, _, hm, hs, e1, fun vs ca1 G1 H1 n1 hm1 r1 => ?_⟩
    show spN X.K (Φ (NEWB + i)) n (vs ++ []) H1 Q E0
    rw [List.append_nil]
    exact ⟨by rw [r1.length]; exact hw _ _ _ _ e1, P, ca1, G1, st1, ws, w, st', hm1, r1, e, fun p xs ds G' H' ew s hm' h1 h2 h3 h4 r hz => q p xs ds ca1 G' H' (n1.trans (Nxt.of s)) ew hm' h1 h2 h3 h4 r hz⟩
/-- built-in functions, the length of a cell among them -/
def rBW (K : PySem.W.Frag) (b : B) : List V → Hp → VK → Prop := fun xs H Q => ∃ P ca G st ws d, HM K P ca G H st ∧ RWs K ca G xs ws ∧ bltW b ws st = some d ∧ ∀ v G' H', Ext G H G' H' → Rp K G' v d → Q v H'
theorem allD_one {w : W} {d : D} (h : allD [w] = some [d]) : w = .d d := by
  cases w with
  | d x => cases h; rfl
  | m i => cases h
theorem call_bW (hc : X.calm = true) (hu : X.A.units + 65 < cLine) (b : B) : CallR X b.val (rBW X.K b) := by
  intro pins s σ H xs us Q I r h
  obtain ⟨P, ca, G, st, ws, d, hm, hr, e, q⟩ := h
  unfold bltW at e
  split at e
  · rename_i ds ed
    exact call_blt hc hu b pins s σ H xs us Q I r ⟨G, ds, d, hm.sub, hr.dps ed, e, q⟩
  · split at e
    · rename_i b' ws' j _
      split at e
      · rename_i fz ds hj
        cases e
        cases hr with
        | cons h1 h2 =>
          cases h2
          obtain ⟨p, hp, rfl⟩ := h1
          obtain ⟨ys, h3, h4, _⟩ := cell_read hm hp hj
          exact call_len_seq pins s σ H _ us Q I r ⟨p, ys, rfl, .inl (SqL.of h3), q _ _ _ (Ext.refl hm.sub) (by rw [h4.length]; exact .int _)⟩
      · cases e
    · cases e
def bltM (b : B) (fs : AM) : EM := fun sl st => (match fs sl st with
    | none => none
    | some (ws, st1) => okD (bltW b ws st1) st1)
theorem tb_of {K : PySem.W.Frag} {b : B} {σ : L2.St} {H : Hp} {Q : VK} (h : tE K (bltM b fs) σ H Q) : tCB (rBW K b) (tA K fs) σ H Q := by
  obtain ⟨P, ca, G, sl, st, w, st', hm, hs, e, q⟩ := h
  replace e : (match fs sl st with
    | none => none
    | some (ws, st1) => okD (bltW b ws st1) st1) = some (w, st') := e
  split at e
  · cases e
  · rename_i ws st1 e1
    obtain ⟨d, e2, e3⟩ := okD_some e
    cases e3
    exact ⟨P, ca, G, sl, st, _, _, hm, hs, e1, fun vs ca1 G1 H1 n1 hm1 r1 => ⟨P, ca1, G1, _, ws, d, hm1, r1, e2, fun v G' H' ex r => q v ca1 G' H' (n1.trans (Nxt.of ex.g)) (hm1.ext ex) r⟩⟩
theorem se_blt {b : B} {x : Str} (xo : XOk Φ k X C) (hg : globOf C x = some (.bi b)) (ha : PA X (a :: es) (tA X.K fs))
    (he : starEach (a :: es) X.env = (false, eval a X.env) :: starEach es X.env) (hpl : (backTo pos (starEach es X.env)).any (·.1) = false) :
    PE X (.Call (.Name x p) (a :: es) [] pos) (tE X.K (bltM b fs)) := by
  obtain ⟨gl, ok, d1, d2⟩ := globOf_ok xo hg
  have hb : ∀ (id : String), b.val = .builtin id → X.mg x = none → bootBuiltins x = some b.val → PE X (.Call (.Name x p) (a :: es) [] pos) (tE X.K (bltM b fs)) := fun id e1 h1 h2 => by
    rw [e1] at h2
    exact (pe_callB (e1 ▸ call_bW xo.calm xo.u65 b) gl h1 h2 ha d2 d1 he hpl).weak fun σ H Q h => tb_of h
  have ht : ∀ (id : String), b.val = .type id → X.mg x = none → bootBuiltins x = some b.val → PE X (.Call (.Name x p) (a :: es) [] pos) (tE X.K (bltM b fs)) := fun id e1 h1 h2 => by
    rw [e1] at h2
    exact (pe_callTy (e1 ▸ call_bW xo.calm xo.u65 b) gl h1 h2 ha d2 d1 he hpl).weak fun σ H Q h => tb_of h
  rcases ok with ⟨ne, h1, h2⟩ | ⟨rfl, h1⟩
  · cases b <;> first | exact hb _ rfl h1 h2 | exact ht _ rfl h1 h2
  · exact (pe_callBfun (call_bW xo.calm xo.u65 B.gcd) gl h1 ha d1 he hpl).weak fun σ H Q h => tb_of h
theorem se_isi {t : Ty} {x y : Str} {g : GV} {p2 : Pos} (xo : XOk Φ k X C) (hg : globOf C x = some .isi) (hy : globOf C y = some g) (ht : tyOf g = some t) (ha : PE X a (tE X.K fa))
    (he : starEach (a :: [.Name y p2]) X.env = (false, eval a X.env) :: starEach [.Name y p2] X.env) :
    PE X (.Call (.Name x p) [a, .Name y p2] [] pos) (tE X.K fun sl st => andD (fa sl st) fun x st1 => okB (isiD x t) st1) := by
  obtain ⟨gl, ⟨m1, m2⟩, d1, d2⟩ := globOf_ok xo hg
  obtain ⟨gl2, ok2, d3, d4⟩ := globOf_ok xo hy
  have hv : X.mg y = none ∧ bootBuiltins y = some (.type t.nm) := by
    cases g with
    | bi b =>
      rcases ok2 with ⟨ne, h1, h2⟩ | ⟨rfl, h1⟩
      · cases b <;> first | (cases ht; exact ⟨h1, h2⟩) | cases ht
      · cases ht
    | ty t' =>
      cases ht
      exact ok2
    | _ => cases ht
  refine (pe_callB call_isi gl m1 m2 (pa_cons ha (pa_cons (pe_bltn gl2 hv.1 hv.2 (v := .ty t.nm) rfl d4 d3) pa_nil) he) d2 d1 he rfl).weak fun σ H Q ⟨P, ca, G, sl, st, w, st', hm, hs, e, q⟩ => ?_
  obtain ⟨z, st1, e1, e⟩ := andD_some e
  obtain ⟨r, e2, e3⟩ := okB_some e
  cases e3
  exact ⟨P, ca, G, sl, st, _, _, hm, hs, e1, fun v ca1 G1 H1 n1 hm1 r1 => ⟨v, .ty t.nm, _, _, r, rfl, .ty _, (Rp.mono hm1.sub r1).ty, kit_isi e2, q _ ca1 G1 H1 n1 hm1 (.bl _)⟩⟩
def tLset (K : PySem.W.Frag) (ta : TE) : TE := fun σ H Q => ta σ H fun x H1 => ∃ (l : Addr) (ns : List Int), x = V.ref l ∧ SqL K H1 l (ns.map V.int) ∧ ns.length < 4000 ∧ Q (.int (setL ns).length) H1
theorem pe_lset {a : Expr} {ta : TE} {p p2 q pos : Pos} (hc : X.calm = true) (hg : Gl X "len") (hm : X.mg "len" = none) (hg2 : Gl X "set") (hm2 : X.mg "set" = none) (ha : PE X a ta)
    (na : starEach [a] X.env = (false, eval a X.env) :: starEach [] X.env) : PE X (.Call (.Name "len" p) [.Call (.Name "set" p2) [a] [] q] [] pos) (tLset X.K ta) := by
  refine ⟨fun pins s σ H Q I h => ?_⟩
  refine Call_ (ld_blt I hg hm PySem.boot_len ?_)
  refine PyProof.Rows.callWith_builtin1 (PyProof.Rows.args_cons ?_ rfl) rfl rfl
  refine Call_ (ld_blt I hg2 hm2 PyProof.Rows.boot_set ?_)
  refine PyProof.Rows.callWith_type1 (PyProof.Rows.args_cons (thn (ha.run pins s σ H _ I h) fun v s1 ⟨x, H1, I1, r1, q1⟩ => PyProof.Rows.args_nil ?_) na) na rfl
  obtain ⟨l, ns, rfl, hq, h1, q1⟩ := q1
  cases r1
  obtain ⟨its, r, pl, hz⟩ := I1.list hq
  have hl : its.toArray.size = ns.length := by rw [List.size_toArray, ← r.length, List.length_map]
  refine call_set_list (I1.ok.hd hc) pl.isList (ns := ns) (by simpa using r.ints) (by unfold scanBound; omega) fun h' tk hS hk => ?_
  rw [hl] at hS
  refine PyProof.Rows.args_nil ?_
  obtain ⟨o, es, ep, t, ho, hex, hd, _, _, _, hf, hn⟩ := hS
  have I2 : Inv X pins σ H1 { s1 with heap := h', toks := tk } := I1.kept fun b o e => hk b o (Heap.lt_size e) e
  have hle := firstMet_length_le (fun i => ns.getD i 0) ns.length
  refine call_len_set ho hex hd hf (by rw [hn]; omega) ⟨.int (setL ns).length, H1, I2.tok _, ⟨_, by rw [hn]; rfl⟩, q1⟩
theorem se_lset {p2 q : Pos} (xo : XOk Φ k X C) {gb : B} (hb : gb.val = .builtin "len") (hg : globOf C ("len" : Str) = some (.bi gb)) (hy : globOf C ("set" : Str) = some .set) (ha : PE X a (tE X.K fa))
    (na : starEach [a] X.env = (false, eval a X.env) :: starEach [] X.env) :
    PE X (.Call (.Name "len" p) [.Call (.Name "set" p2) [a] [] q] [] pos) (tE X.K fun sl st => andD (fa sl st) fun x st1 => okD (lsetD x) st1) := by
  obtain ⟨gl, ok, d1, d2⟩ := globOf_ok xo hg
  obtain ⟨gl2, ok2, d3, d4⟩ := globOf_ok xo hy
  have hm : X.mg "len" = none := by
    rcases ok with ⟨_, h1, _⟩ | ⟨rfl, _⟩
    · exact h1
    · unfold B.val at hb
      injection hb with hb
      exact absurd hb (by decide)
  refine (pe_lset xo.calm gl hm gl2 ok2 ha na).weak fun σ H Q ⟨P, ca, G, sl, st, w, st', hm, hs, e, q⟩ => ?_
  obtain ⟨z, st1, e1, e⟩ := andD_some e
  obtain ⟨r, e2, e3⟩ := okD_some e
  cases e3
  refine ⟨P, ca, G, sl, st, _, _, hm, hs, e1, fun v ca1 G1 H1 n1 hm1 r1 => ?_⟩
  cases z with
  | list xs =>
    unfold lsetD at e2
    simp only at e2
    split at e2
    · rename_i ns en
      split at e2
      · rename_i hl
        cases e2
        obtain ⟨l, e4, hG⟩ := Rp.lint r1 en
        exact ⟨l, ns, e4, SqL.of (hm1.sub _ _ hG), hl, q _ ca1 G1 H1 n1 hm1 (.int _)⟩
      · cases e2
    · cases e2
  | _ => cases e2
variable {tg iter : Expr}
theorem JOk.list {K : PySem.W.Frag} {G : Hp} {a : Addr} {xs : List V} {ds : List D} (h : G a = some (.lst xs)) (r : Rps K G xs ds) : JOk K (Itl K a) G ds := by
  intro i P ca Gc H st s hm
  have hH : H a = some (.lst xs) := hm.sub _ _ (s _ _ h)
  refine ⟨fun d hd => ?_, fun hl => ⟨xs, SqL.of hH, by rw [r.length]; exact hl⟩⟩
  obtain ⟨v, hv, rv⟩ := r.get hd
  refine ⟨⟨xs, v, SqL.of hH, hv⟩, fun x H' y => ?_⟩
  obtain ⟨rfl, y⟩ := y
  have e := y xs (SqL.of hH)
  rw [hv] at e
  cases e
  exact ⟨Gc, Ext.refl hm.sub, Rp.mono s rv⟩
theorem JOk.tuple {K : PySem.W.Frag} {G : Hp} {a : Addr} {xs : List V} {ds : List D} (h : SqT K G a xs) (r : Rps K G xs ds) : JOk K (Itt K a) G ds := by
  intro i P ca Gc H st s hm
  have hH : SqT K H a xs := SqT.mono hm.sub (SqT.mono s h)
  refine ⟨fun d hd => ?_, fun hl => ⟨xs, hH, by rw [r.length]; exact hl⟩⟩
  obtain ⟨v, hv, rv⟩ := r.get hd
  refine ⟨⟨xs, v, hH, hv⟩, fun x H' y => ?_⟩
  obtain ⟨rfl, y⟩ := y
  have e := y xs hH
  rw [hv] at e
  cases e
  exact ⟨Gc, Ext.refl hm.sub, Rp.mono s rv⟩
theorem rngD_len : ∀ (n : Nat) (lo : Int), (rngD lo n).length = n
  | 0, _ => rfl
  | n + 1, lo => by
    show (rngD (lo + 1) n).length + 1 = n + 1
    rw [rngD_len n]
theorem rngD_get : ∀ (n : Nat) (lo : Int) (i : Nat), i < n → (rngD lo n)[i]? = some (.int (lo + i))
  | 0, _, _, h => absurd h (Nat.not_lt_zero _)
  | n + 1, lo, 0, _ => by
    show some (PyData.int lo) = _
    simp
  | n + 1, lo, i + 1, h => by
    show (rngD (lo + 1) n)[i]? = _
    rw [rngD_get n (lo + 1) i (by omega)]
    congr 2
    omega
theorem JOk.range {K : PySem.W.Frag} {G : Hp} (lo : Int) (n : Nat) : JOk K (Itr lo n) G (rngD lo n) := by
  intro i P ca Gc H st s hm
  refine ⟨fun d hd => ?_, fun hl => ?_⟩
  · have hi : i < n := by
      have := (List.getElem?_eq_some_iff.mp hd).1
      rw [rngD_len] at this
      exact this
    rw [rngD_get n lo i hi] at hd
    cases hd
    refine ⟨hi, fun x H' y => ?_⟩
    obtain ⟨rfl, rfl⟩ := y
    exact ⟨Gc, Ext.refl hm.sub, .int _⟩
  · show n ≤ i
    rw [rngD_len] at hl
    exact hl
theorem enumD_len : ∀ (xs : List D) (j : Nat), (enumD j xs).length = xs.length
  | [], _ => rfl
  | _ :: xs, j => by
    show (enumD (j + 1) xs).length + 1 = xs.length + 1
    rw [enumD_len xs]
theorem enumD_get : ∀ (xs : List D) (j i : Nat) (d : D), (enumD j xs)[i]? = some d → ∃ x, xs[i]? = some x ∧ d = .tuple [.int ((j + i : Nat) : Int), x]
  | [], _, _, _, h => by cases h
  | x :: xs, j, 0, d, h => by
    cases h
    exact ⟨x, rfl, rfl⟩
  | x :: xs, j, i + 1, d, h => by
    obtain ⟨y, h1, h2⟩ := enumD_get xs (j + 1) i d h
    refine ⟨y, h1, ?_⟩
    rw [h2]
    congr 4
    omega
theorem Rps.two' {K : PySem.W.Frag} {G : Hp} {v w : V} {d e : D} (h1 : Rp K G v d) (h2 : Rp K G w e) : Rps K G [v, w] [d, e] := .cons h1 (.cons h2 .nil)
theorem JOk.enum {K : PySem.W.Frag} {G : Hp} {a : Addr} {xs : List V} {ds : List D} (h : G a = some (.lst xs)) (r : Rps K G xs ds) : JOk K (Ite K a) G (enumD 0 ds) := by
  intro i P ca Gc H st s hm
  have hH : H a = some (.lst xs) := hm.sub _ _ (s _ _ h)
  refine ⟨fun d hd => ?_, fun hl => ⟨xs, SqL.of hH, by rw [r.length, ← enumD_len ds 0]; exact hl⟩⟩
  obtain ⟨y, hy, rfl⟩ := enumD_get ds 0 i d hd
  obtain ⟨v, hv, rv⟩ := r.get hy
  refine ⟨⟨xs, v, SqL.of hH, hv⟩, fun x H' yy => ?_⟩
  obtain ⟨T, z, rfl, nT, rfl, yy⟩ := yy
  have e := yy xs (SqL.of hH)
  rw [hv] at e
  cases e
  refine ⟨_, Ext.new hm.sub nT, Rp.tnew (hm.sub.free nT) ?_⟩
  rw [Nat.zero_add]
  exact Rps.two' (.int _) (Rp.mono s rv)
theorem JOk.enumT {K : PySem.W.Frag} {G : Hp} {a : Addr} {xs : List V} {ds : List D} (h : SqT K G a xs) (r : Rps K G xs ds) : JOk K (IteT K a) G (enumD 0 ds) := by
  intro i P ca Gc H st s hm
  have hH : SqT K H a xs := SqT.mono hm.sub (SqT.mono s h)
  refine ⟨fun d hd => ?_, fun hl => ⟨xs, hH, by rw [r.length, ← enumD_len ds 0]; exact hl⟩⟩
  obtain ⟨y, hy, rfl⟩ := enumD_get ds 0 i d hd
  obtain ⟨v, hv, rv⟩ := r.get hy
  refine ⟨⟨xs, v, hH, hv⟩, fun x H' yy => ?_⟩
  obtain ⟨q, z, rfl, nT, rfl, yy⟩ := yy
  have e := yy xs hH
  rw [hv] at e
  cases e
  refine ⟨_, Ext.new hm.sub nT, Rp.tnew (hm.sub.free nT) ?_⟩
  rw [Nat.zero_add]
  exact Rps.two' (.int _) (Rp.mono s rv)
theorem zipD_get : ∀ (xs ys : List D) (i : Nat) (d : D), (zipD xs ys)[i]? = some d → ∃ x y, xs[i]? = some x ∧ ys[i]? = some y ∧ d = .tuple [x, y]
  | [], _, _, _, h => by
    cases h
  | _ :: _, [], _, _, h => by cases h
  | x :: xs, y :: ys, 0, d, h => by
    cases h
    exact ⟨x, y, rfl, rfl, rfl⟩
  | x :: xs, y :: ys, i + 1, d, h => zipD_get xs ys i d h
theorem zipD_end : ∀ (xs ys : List D) (i : Nat), (zipD xs ys).length ≤ i → xs.length ≤ i ∨ ys.length ≤ i
  | [], _, _, _ => .inl (Nat.zero_le _)
  | _ :: _, [], _, _ => .inr (Nat.zero_le _)
  | x :: xs, y :: ys, 0, h => absurd h (by show ¬ (zipD xs ys).length + 1 ≤ 0; omega)
  | x :: xs, y :: ys, i + 1, h => by
    have h' : (zipD xs ys).length + 1 ≤ i + 1 := h
    rcases zipD_end xs ys i (by omega) with q | q
    · exact .inl (Nat.succ_le_succ q)
    · exact .inr (Nat.succ_le_succ q)
theorem JOk.zip {K : PySem.W.Frag} {G : Hp} {a b : Addr} {xs ys : List V} {ds es : List D} (h : G a = some (.lst xs)) (r : Rps K G xs ds) (h2 : G b = some (.lst ys)) (r2 : Rps K G ys es) : JOk K (Itz K a b) G (zipD ds es) := by
  intro i P ca Gc H st s hm
  have hH : H a = some (.lst xs) := hm.sub _ _ (s _ _ h)
  have hH2 : H b = some (.lst ys) := hm.sub _ _ (s _ _ h2)
  refine ⟨fun d hd => ?_, fun hl => ⟨xs, ys, SqL.of hH, SqL.of hH2, by rw [r.length, r2.length]; exact zipD_end _ _ _ hl⟩⟩
  obtain ⟨y1, y2, hy1, hy2, rfl⟩ := zipD_get ds es i d hd
  obtain ⟨v, hv, rv⟩ := r.get hy1
  obtain ⟨v2, hv2, rv2⟩ := r2.get hy2
  refine ⟨⟨xs, ys, v, v2, SqL.of hH, SqL.of hH2, hv, hv2⟩, fun x H' yy => ?_⟩
  obtain ⟨T, z, z2, rfl, nT, rfl, yy, yy2⟩ := yy
  have e := yy xs (SqL.of hH)
  rw [hv] at e
  cases e
  have e2 := yy2 ys (SqL.of hH2)
  rw [hv2] at e2
  cases e2
  exact ⟨_, Ext.new hm.sub nT, Rp.tnew (hm.sub.free nT) (Rps.two' (Rp.mono s rv) (Rp.mono s rv2))⟩
theorem JOk.zipT {K : PySem.W.Frag} {G : Hp} {a b : Addr} {xs ys : List V} {ds es : List D} (h : SqT K G a xs) (r : Rps K G xs ds) (h2 : SqT K G b ys) (r2 : Rps K G ys es) : JOk K (RZ.ItzT K a b) G (zipD ds es) := by
  intro i P ca Gc H st s hm
  have hH : SqT K H a xs := SqT.mono hm.sub (SqT.mono s h)
  have hH2 : SqT K H b ys := SqT.mono hm.sub (SqT.mono s h2)
  refine ⟨fun d hd => ?_, fun hl => ⟨xs, ys, hH, hH2, by rw [r.length, r2.length]; exact zipD_end _ _ _ hl⟩⟩
  obtain ⟨y1, y2, hy1, hy2, rfl⟩ := zipD_get ds es i d hd
  obtain ⟨v, hv, rv⟩ := r.get hy1
  obtain ⟨v2, hv2, rv2⟩ := r2.get hy2
  refine ⟨⟨xs, ys, v, v2, hH, hH2, hv, hv2⟩, fun x H' yy => ?_⟩
  obtain ⟨T, z, z2, rfl, nT, rfl, yy, yy2⟩ := yy
  have e := yy xs hH
  rw [hv] at e
  cases e
  have e2 := yy2 ys hH2
  rw [hv2] at e2
  cases e2
  exact ⟨_, Ext.new hm.sub nT, Rp.tnew (hm.sub.free nT) (Rps.two' (Rp.mono s rv) (Rp.mono s rv2))⟩
/-- a list or a tuple -/
theorem pi_val (h : PE X e (tE X.K fa)) : PI X tg e (tI X.K fun sl st => andD (fa sl st) fun x st1 => okL (valI x) st1) := by
  refine ⟨fun pins s σ H R I ⟨P, ca, G, sl, st, ds, st', hm, hs, e, q⟩ => ?_⟩
  obtain ⟨x, st1, e1, e⟩ := andD_some e
  obtain ⟨l, e2, e3⟩ := okL_some e
  cases e3
  cases x with
  | list xs =>
    cases e2
    refine (pi_list h).run pins s σ H R I ⟨P, ca, G, sl, st, _, _, hm, hs, e1, fun v ca1 G1 H1 n1 hm1 r1 => ?_⟩
    obtain ⟨a, vs, rfl, h1, a1⟩ := Rp.list_inv r1
    exact ⟨a, rfl, ⟨vs, SqL.of (hm1.sub _ _ h1)⟩, q _ ca1 G1 H1 n1 hm1 (JOk.list h1 a1)⟩
  | tuple xs =>
    cases e2
    refine (pi_tup h).run pins s σ H R I ⟨P, ca, G, sl, st, _, _, hm, hs, e1, fun v ca1 G1 H1 n1 hm1 r1 => ?_⟩
    obtain ⟨a, vs, rfl, h1, a1⟩ := Rp.tuple_inv r1
    exact ⟨a, rfl, ⟨vs, SqT.mono hm1.sub h1⟩, q _ ca1 G1 H1 n1 hm1 (JOk.tuple h1 a1)⟩
  | _ => cases e2
theorem pi_rng1 {x : Str} (xo : XOk Φ k X C) (hg : globOf C x = some .rng) (ha : PE X a (tE X.K fa)) (hs : starEach [a] X.env = [(false, eval a X.env)]) :
    PI X tg (.Call (.Name x p) [a] [] pos) (tI X.K fun sl st => andD (fa sl st) fun x st1 => okL (rngK (.int 0) x) st1) := by
  obtain ⟨gl, ⟨m1, rfl⟩, d1, d2⟩ := globOf_ok xo hg
  refine (pi_range1 gl m1 (pa_cons ha pa_nil hs) hs).weak fun σ H R ⟨P, ca, G, sl, st, ds, st', hm, hs, e, q⟩ => ?_
  obtain ⟨x, st1, e1, e⟩ := andD_some e
  obtain ⟨l, e2, e3⟩ := okL_some e
  cases e3
  refine ⟨P, ca, G, sl, st, _, _, hm, hs, e1, fun v ca1 G1 H1 n1 hm1 r1 => ?_⟩
  rw [rngK_eq] at e2
  cases x with
  | int j =>
    unfold rngI at e2
    simp only at e2
    split at e2
    · rename_i hz
      cases e2
      refine ⟨j, by rw [Rp.int_inv r1], hz.2.2.1, hz.2.2.2, ?_⟩
      refine q _ ca1 G1 H1 n1 hm1 ?_
      have : (j - 0).toNat = j.toNat := by rw [Int.sub_zero]
      rw [this]
      exact JOk.range 0 j.toNat
    · cases e2
  | _ => cases e2
theorem pi_rng2 {x : Str} (xo : XOk Φ k X C) (hg : globOf C x = some .rng) (ha : PE X a (tE X.K fa)) (hb : PE X b (tE X.K fb)) (hs : starEach [a, b] X.env = [(false, eval a X.env), (false, eval b X.env)]) (hs2 : starEach [b] X.env = [(false, eval b X.env)]) :
    PI X tg (.Call (.Name x p) [a, b] [] pos) (tI X.K fun sl st => andD (fa sl st) fun x st1 => andD (fb sl st1) fun y st2 => okL (rngK x y) st2) := by
  obtain ⟨gl, ⟨m1, rfl⟩, d1, d2⟩ := globOf_ok xo hg
  refine (pi_range2 gl m1 (pa_cons ha (pa_cons hb pa_nil hs2) (by rw [hs, hs2])) hs hs2).weak fun σ H R ⟨P, ca, G, sl, st, ds, st', hm, hs, e, q⟩ => ?_
  obtain ⟨x, st1, e1, e⟩ := andD_some e
  obtain ⟨y, st2, e2, e⟩ := andD_some e
  obtain ⟨l, e3, e4⟩ := okL_some e
  cases e4
  refine ⟨P, ca, G, sl, st, _, _, hm, hs, e1, fun v ca1 G1 H1 n1 hm1 r1 => ⟨P, ca1, G1, sl, st1, _, _, hm1, hs.mono n1, e2, fun v2 ca2 G2 H2 n2 hm2 r2 => ?_⟩⟩
  rw [rngK_eq] at e3
  unfold rngI at e3
  split at e3
  · split at e3
    · rename_i hz
      cases e3
      have rv := Rp.int_inv (Rp.mono n2.s r1)
      exact ⟨_, _, by rw [rv, Rp.int_inv r2], hz, q _ ca2 G2 H2 (n1.trans n2) hm2 (JOk.range _ _)⟩
    · cases e3
  · cases e3
theorem pi_enumD {x : Str} {elts : List Expr} {kk : Nat} {tpos : Pos} (xo : XOk Φ k X C) (hg : globOf C x = some .enum) (ha : PE X a (tE X.K fa)) (hs : starEach [a] X.env = [(false, eval a X.env)]) :
    PI X (.Tuple elts kk tpos) (.Call (.Name x p) [a] [] pos) (tI X.K fun sl st => andD (fa sl st) fun x st1 => okL (enumI x) st1) := by
  obtain ⟨gl, ⟨m1, rfl⟩, d1, d2⟩ := globOf_ok xo hg
  refine (pi_enumA gl m1 (pa_cons ha pa_nil hs) hs).weak fun σ H R ⟨P, ca, G, sl, st, ds, st', hm, hs, e, q⟩ => ?_
  obtain ⟨x, st1, e1, e⟩ := andD_some e
  obtain ⟨l, e2, e3⟩ := okL_some e
  cases e3
  refine ⟨P, ca, G, sl, st, _, _, hm, hs, e1, fun v ca1 G1 H1 n1 hm1 r1 => ?_⟩
  cases x with
  | list xs =>
    cases e2
    obtain ⟨a, vs, rfl, h1, a1⟩ := Rp.list_inv r1
    exact ⟨a, vs, rfl, .inl ⟨SqL.of (hm1.sub _ _ h1), q _ ca1 G1 H1 n1 hm1 (JOk.enum h1 a1)⟩⟩
  | tuple xs =>
    cases e2
    obtain ⟨a, vs, rfl, h1, a1⟩ := Rp.tuple_inv r1
    exact ⟨a, vs, rfl, .inr ⟨SqT.mono hm1.sub h1, q _ ca1 G1 H1 n1 hm1 (JOk.enumT h1 a1)⟩⟩
  | _ => cases e2
theorem pi_zipD {x : Str} {elts : List Expr} {kk : Nat} {tpos : Pos} (xo : XOk Φ k X C) (hg : globOf C x = some .zip) (ha : PE X a (tE X.K fa)) (hb : PE X b (tE X.K fb)) (hs : starEach [a, b] X.env = (false, eval a X.env) :: starEach [b] X.env) (hs2 : starEach [b] X.env = [(false, eval b X.env)]) :
    PI X (.Tuple elts kk tpos) (.Call (.Name x p) [a, b] [] pos) (tI X.K fun sl st => andD (fa sl st) fun x st1 => andD (fb sl st1) fun y st2 => okL (zipI x y) st2) := by
  obtain ⟨gl, ⟨m1, rfl⟩, d1, d2⟩ := globOf_ok xo hg
  refine (RZ.pi_zipA gl m1 (pa_cons ha (pa_cons hb pa_nil hs2) hs) hs (by rw [hs2] <;> rfl)).weak fun σ H R ⟨P, ca, G, sl, st, ds, st', hm, hs, e, q⟩ => ?_
  obtain ⟨x, st1, e1, e⟩ := andD_some e
  obtain ⟨y, st2, e2, e⟩ := andD_some e
  obtain ⟨l, e3, e4⟩ := okL_some e
  cases e4
  refine ⟨P, ca, G, sl, st, _, _, hm, hs, e1, fun v ca1 G1 H1 n1 hm1 r1 => ⟨P, ca1, G1, sl, st1, _, _, hm1, hs.mono n1, e2, fun v2 ca2 G2 H2 n2 hm2 r2 => ?_⟩⟩
  unfold zipI at e3
  split at e3
  · cases e3
    obtain ⟨a, vs, rfl, h1, a1⟩ := Rp.list_inv (Rp.mono n2.s r1)
    obtain ⟨b, ws, rfl, h2, a2⟩ := Rp.list_inv r2
    exact ⟨a, b, vs, ws, rfl, .inl ⟨SqL.of (hm2.sub _ _ h1), SqL.of (hm2.sub _ _ h2), q _ ca2 G2 H2 (n1.trans n2) hm2 (JOk.zip h1 a1 h2 a2)⟩⟩
  · cases e3
    obtain ⟨a, vs, rfl, h1, a1⟩ := Rp.tuple_inv (Rp.mono n2.s r1)
    obtain ⟨b, ws, rfl, h2, a2⟩ := Rp.tuple_inv r2
    exact ⟨a, b, vs, ws, rfl, .inr ⟨SqT.mono hm2.sub h1, SqT.mono hm2.sub h2, q _ ca2 G2 H2 (n1.trans n2) hm2 (JOk.zipT h1 a1 h2 a2)⟩⟩
  · cases e3
theorem zip3D_get : ∀ (xs ys zs : List D) (i : Nat) (d : D), (zip3D xs ys zs)[i]? = some d → ∃ x y z, xs[i]? = some x ∧ ys[i]? = some y ∧ zs[i]? = some z ∧ d = .tuple [x, y, z]
  | [], _, _, _, _, h => by cases h
  | _ :: _, [], _, _, _, h => by cases h
  | _ :: _, _ :: _, [], _, _, h => by cases h
  | x :: xs, y :: ys, z :: zs, 0, d, h => by
    cases h
    exact ⟨x, y, z, rfl, rfl, rfl, rfl⟩
  | x :: xs, y :: ys, z :: zs, i + 1, d, h => zip3D_get xs ys zs i d h
theorem zip3D_end : ∀ (xs ys zs : List D) (i : Nat), (zip3D xs ys zs).length ≤ i → xs.length ≤ i ∨ ys.length ≤ i ∨ zs.length ≤ i
  | [], _, _, _, _ => .inl (Nat.zero_le _)
  | _ :: _, [], _, _, _ => .inr (.inl (Nat.zero_le _))
  | _ :: _, _ :: _, [], _, _ => .inr (.inr (Nat.zero_le _))
  | x :: xs, y :: ys, z :: zs, 0, h => absurd h (by show ¬ (zip3D xs ys zs).length + 1 ≤ 0; omega)
  | x :: xs, y :: ys, z :: zs, i + 1, h => by
    have h' : (zip3D xs ys zs).length + 1 ≤ i + 1 := h
    rcases zip3D_end xs ys zs i (by omega) with q | q | q
    · exact .inl (Nat.succ_le_succ q)
    · exact .inr (.inl (Nat.succ_le_succ q))
    · exact .inr (.inr (Nat.succ_le_succ q))
theorem JOk.zip3 {K : PySem.W.Frag} {G : Hp} {a b c : Addr} {xs ys zs : List V} {ds es fs : List D} (h : SqT K G a xs) (r : Rps K G xs ds) (h2 : SqT K G b ys) (r2 : Rps K G ys es) (h3 : SqT K G c zs) (r3 : Rps K G zs fs) : JOk K (Itz3 K a b c xs ys zs) G (zip3D ds es fs) := by
  intro i P ca Gc H st s hm
  have hH : SqT K H a xs := SqT.mono hm.sub (SqT.mono s h)
  have hH2 : SqT K H b ys := SqT.mono hm.sub (SqT.mono s h2)
  have hH3 : SqT K H c zs := SqT.mono hm.sub (SqT.mono s h3)
  refine ⟨fun d hd => ?_, fun hl => ⟨hH, hH2, hH3, by rw [r.length, r2.length, r3.length]; exact zip3D_end _ _ _ _ hl⟩⟩
  obtain ⟨y1, y2, y3, hy1, hy2, hy3, rfl⟩ := zip3D_get ds es fs i d hd
  obtain ⟨v, hv, rv⟩ := r.get hy1
  obtain ⟨v2, hv2, rv2⟩ := r2.get hy2
  obtain ⟨v3, hv3, rv3⟩ := r3.get hy3
  refine ⟨⟨v, v2, v3, hH, hH2, hH3, hv, hv2, hv3⟩, fun x H' yy => ?_⟩
  obtain ⟨T, z, z2, z3, rfl, nT, rfl, e, e2, e3⟩ := yy
  rw [hv] at e
  cases e
  rw [hv2] at e2
  cases e2
  rw [hv3] at e3
  cases e3
  exact ⟨_, Ext.new hm.sub nT, Rp.tnew (hm.sub.free nT) (.cons (Rp.mono s rv) (.cons (Rp.mono s rv2) (.cons (Rp.mono s rv3) .nil)))⟩
theorem pi_zip3D {x : Str} {elts : List Expr} {kk : Nat} {tpos : Pos} (xo : XOk Φ k X C) (hg : globOf C x = some .zip) (ha : PE X a (tE X.K fa)) (hb : PE X b (tE X.K fb)) (hc : PE X c (tE X.K fc)) (hs : starEach [a, b, c] X.env = (false, eval a X.env) :: starEach [b, c] X.env) (hs2 : starEach [b, c] X.env = (false, eval b X.env) :: starEach [c] X.env) (hs3 : starEach [c] X.env = [(false, eval c X.env)]) :
    PI X (.Tuple elts kk tpos) (.Call (.Name x p) [a, b, c] [] pos) (tI X.K fun sl st => andD (fa sl st) fun x st1 => andD (fb sl st1) fun y st2 => andD (fc sl st2) fun z st3 => okL (zip3I x y z) st3) := by
  obtain ⟨gl, ⟨m1, rfl⟩, d1, d2⟩ := globOf_ok xo hg
  refine (pi_zip3 gl m1 (pa_cons ha (pa_cons hb (pa_cons hc pa_nil hs3) hs2) hs) hs (by rw [hs2, hs3] <;> rfl)).weak fun σ H R ⟨P, ca, G, sl, st, ds, st', hm, hs, e, q⟩ => ?_
  obtain ⟨x, st1, e1, e⟩ := andD_some e
  obtain ⟨y, st2, e2, e⟩ := andD_some e
  obtain ⟨z, st3, e3, e⟩ := andD_some e
  obtain ⟨l, e4, e5⟩ := okL_some e
  cases e5
  refine ⟨P, ca, G, sl, st, _, _, hm, hs, e1, fun v ca1 G1 H1 n1 hm1 r1 => ⟨P, ca1, G1, sl, st1, _, _, hm1, hs.mono n1, e2, fun v2 ca2 G2 H2 n2 hm2 r2 => ⟨P, ca2, G2, sl, st2, _, _, hm2, hs.mono (n1.trans n2), e3, fun v3 ca3 G3 H3 n3 hm3 r3 => ?_⟩⟩⟩
  unfold zip3I at e4
  split at e4
  · cases e4
    obtain ⟨a, vs, rfl, h1, a1⟩ := Rp.tuple_inv (Rp.mono (n2.trans n3).s r1)
    obtain ⟨b, ws, rfl, h2, a2⟩ := Rp.tuple_inv (Rp.mono n3.s r2)
    obtain ⟨c, us, rfl, h3, a3⟩ := Rp.tuple_inv r3
    exact ⟨a, b, c, vs, ws, us, rfl, SqT.mono hm3.sub h1, SqT.mono hm3.sub h2, SqT.mono hm3.sub h3, q _ ca3 G3 H3 ((n1.trans n2).trans n3) hm3 (JOk.zip3 h1 a1 h2 a2 h3 a3)⟩
  · cases e4
end
end WM
namespace WM
open PySem PySem.Spec PyProof.Rows L2
section
variable {Φ : Fn} {k : Nat} {X : Cx} {C : CE}
theorem sg_v {x : Str} {i : Nat} {pos : Pos} (xo : XOk Φ k X C) (h : stOf C x = some i) : PG X (.Name x pos) (tG X.K (stTg (.v i)) [i]) := by
  obtain ⟨h1, h2, h3⟩ := stOf_ok xo h
  refine (pg_name (by rw [xo.hN]; exact xo.nd) h1 h2 h3).weak fun v σ H Q ⟨P, ca, G, sl, st, d, sl', hm, hs, r, e, q⟩ => ?_
  cases e
  refine q _ (hs.set (w := .d d) i r) (List.length_set ..) fun j hj => ?_
  rw [List.getElem?_set_ne]
  intro z
  exact hj (by rw [z]; exact List.mem_cons_self)
theorem sgs_nil : PGs X [] (tGs X.K (stTgs .nil) []) :=
  pgs_nil.weak fun vs σ H Q ⟨P, ca, G, sl, st, ds, sl', hm, hs, r, e, q⟩ => by
    cases r with
    | nil =>
      cases e
      exact ⟨rfl, q _ hs rfl fun _ _ => rfl⟩
    | cons _ _ => cases e
theorem sgs_cons {e : Expr} {es : List Expr} {t : Tg} {ts : Tgs} (h1 : PG X e (tG X.K (stTg t) (tgSlots t))) (h2 : PGs X es (tGs X.K (stTgs ts) (tgsSlots ts)))
    (hs : (assignEach (e :: es) X.env).map (·.2) = assign e X.env :: (assignEach es X.env).map (·.2)) : PGs X (e :: es) (tGs X.K (stTgs (.cons t ts)) (tgsSlots (.cons t ts))) :=
  (pgs_cons h1 h2 hs).weak fun vs σ H Q ⟨P, ca, G, sl, st, ds, sl', hm, hs, r, e, q⟩ => by
    cases r with
    | nil => cases e
    | @cons v vs d ds r rr =>
      have e : (match stTg t d sl with
        | some sl' => stTgs ts ds sl'
        | none => none) = some sl' := e
      split at e
      · rename_i sl1 e1
        refine ⟨v, vs, rfl, P, ca, G, sl, st, d, sl1, hm, hs, r, e1, fun σ1 hs1 l1 u1 => ⟨P, ca, G, sl1, st, ds, sl', hm, hs1, rr, e, fun σ2 hs2 l2 u2 => ?_⟩⟩
        refine q σ2 hs2 (l2.trans l1) fun j hj => ?_
        have hj' : j ∉ tgSlots t ++ tgsSlots ts := hj
        rw [List.mem_append, not_or] at hj'
        rw [u2 j hj'.2, u1 j hj'.1]
      · cases e
theorem tgs_len : ∀ {ts : Tgs} {ds : List D} {sl sl' : Sl}, stTgs ts ds sl = some sl' → ds.length = tgsLen ts
  | .nil, [], _, _, _ => rfl
  | .nil, _ :: _, _, _, h => by cases h
  | .cons t ts, [], _, _, h => by cases h
  | .cons t ts, d :: ds, sl, sl', h => by
    have e : (match stTg t d sl with
        | some sl' => stTgs ts ds sl'
        | none => none) = some sl' := h
    split at e
    · show ds.length + 1 = tgsLen ts + 1
      rw [tgs_len e]
    · cases e
theorem sg_t {es : List Expr} {ts : Tgs} {kk : Nat} {pos : Pos} (xo : XOk Φ k X C) (h : PGs X es (tGs X.K (stTgs ts) (tgsSlots ts))) (hn : (assignEach es X.env).length = tgsLen ts) (hst : (assignEach es X.env).findIdx? (·.1) = none) :
    PG X (.Tuple es kk pos) (tG X.K (stTg (.t ts)) (tgSlots (.t ts))) :=
  (pg_tup xo.calm h hn hst).weak fun v σ H Q ⟨P, ca, G, sl, st, d, sl', hm, hs, r, e, q⟩ => by
    cases d with
    | tuple ds =>
      have e : stTgs ts ds sl = some sl' := e
      obtain ⟨a, vs, rfl, h1, a1⟩ := r.tuple_inv
      exact ⟨a, vs, rfl, SqT.mono hm.sub h1, by rw [a1.length]; exact tgs_len e, P, ca, G, sl, st, ds, sl', hm, hs, a1, e, q⟩
    | _ => cases e
theorem cmpT_form {n : Nat} {e : Expr} {t : Tg} (h : cmpT n C e = some t) : (∃ x p, e = .Name x p) ∨ ∃ es kk p, e = .Tuple es kk p := by
  cases n with
  | zero => cases h
  | succ n =>
    unfold cmpT at h
    split at h
    · exact .inl ⟨_, _, rfl⟩
    · exact .inr ⟨_, _, _, rfl⟩
    · cases h
theorem cmpTs_each : ∀ {n : Nat} {es : List Expr} {ts : Tgs} {env : Env}, cmpTs n C es = some ts → (assignEach es env).length = tgsLen ts ∧ (assignEach es env).findIdx? (·.1) = none
  | 0, _, _, _, h => by cases h
  | n + 1, es, ts, env, h => by
    unfold cmpTs at h
    cases es with
    | nil => cases h; exact ⟨rfl, rfl⟩
    | cons e es =>
      simp only at h
      split at h
      · rename_i t ts' h1 h2
        cases h
        obtain ⟨q1, q2⟩ := cmpTs_each (env := env) h2
        rcases cmpT_form h1 with ⟨x, p, rfl⟩ | ⟨es', kk, p, rfl⟩
        · refine ⟨?_, ?_⟩
          · show (assignEach es env).length + 1 = _
            rw [q1] <;> rfl
          · show List.findIdx? (·.1) ((false, _) :: assignEach es env) = none
            rw [List.findIdx?_cons]
            simp [q2]
        · refine ⟨?_, ?_⟩
          · show (assignEach es env).length + 1 = _
            rw [q1] <;> rfl
          · show List.findIdx? (·.1) ((false, _) :: assignEach es env) = none
            rw [List.findIdx?_cons]
            simp [q2]
      · cases h
theorem snd_t (xo : XOk Φ k X C) : ∀ n : Nat, (∀ e t, cmpT n C e = some t → PG X e (tG X.K (stTg t) (tgSlots t))) ∧ ∀ es ts, cmpTs n C es = some ts → PGs X es (tGs X.K (stTgs ts) (tgsSlots ts))
  | 0 => ⟨fun _ _ h => absurd h (fun z => by cases z), fun _ _ h => absurd h (fun z => by cases z)⟩
  | n + 1 => by
    obtain ⟨i1, i2⟩ := snd_t xo n
    refine ⟨fun e t h => ?_, fun es ts h => ?_⟩
    · unfold cmpT at h
      split at h
      · rename_i x p
        cases e1 : stOf C x with
        | none => rw [e1] at h; cases h
        | some i =>
          rw [e1] at h
          cases h
          exact sg_v xo e1
      · rename_i es kk p
        cases e1 : cmpTs n C es with
        | none => rw [e1] at h; cases h
        | some ts =>
          rw [e1] at h
          cases h
          obtain ⟨q1, q2⟩ := cmpTs_each (env := X.env) e1
          exact sg_t xo (i2 _ _ e1) q1 q2
      · cases h
    · unfold cmpTs at h
      cases es with
      | nil => cases h; exact sgs_nil
      | cons e es =>
        simp only at h
        split at h
        · rename_i t ts' h1 h2
          cases h
          refine sgs_cons (i1 _ _ h1) (i2 _ _ h2) ?_
          rcases cmpT_form h1 with ⟨x, p, rfl⟩ | ⟨es', kk, p, rfl⟩ <;> rfl
        · cases h
theorem findB_lookup {x : Str} {k : NameKind} {l : List (Str × NameKind)} (h : l.lookup x = some k) (hk : k ≠ .free) {sc : Scope} :
    (l.map fun (n, k) => if (k == NameKind.free && sc.kind == .function && sc.names.lookup n == some .cell) then (n, NameKind.cell) else (n, k)).lookup x = some k := lookup_relS_keep hk h
theorem blkE_ok {scope : Scope} (xo : XOk Φ k X C) (ok : BlkOk X.N X.env.scope scope (ownOf C scope)) (s : Shared) (H : Hp) (Ca : Addr) (cl : List (Str × Addr)) (fp : List Addr) :
    XOk Φ k (X.blk s H scope (compEnvC scope cl Ca X.env) fp) (blkE C scope) where
  hN := xo.hN
  hsc := by
    show relS scope X.env.scope = relS scope C.sc
    rw [xo.hsc]
  kd := by
    show (relS scope C.sc).kind = .function
    exact ok.kind
  nd := xo.nd
  calm := xo.calm
  dbg := xo.dbg
  own := fun x hx => by
    obtain ⟨y, hy, e⟩ := List.mem_filterMap.mp hx
    have key : ∀ kd, kd ≠ NameKind.free → scope.names.lookup x = some kd → (relS scope C.sc).names.lookup x = some kd := fun kd h1 h2 => lookup_relS_keep h1 h2
    show Loc (relS scope C.sc) x ∧ ((scope.names.lookup x == some .cell) = true ∨ (relS scope C.sc).names.lookup x = some .local)
    split at e
    · split at e
      · rename_i h1
        cases e
        have := key .local (by decide) h1
        exact ⟨.inl this, .inr this⟩
      · cases e
    · split at e
      · rename_i h1
        cases e
        have := key .cell (by decide) h1
        exact ⟨.inr this, .inl (by rw [h1]; rfl)⟩
      · cases e
    · cases e
  gdbg := xo.gdbg
  gl := fun x g h => by
    have q := xo.gl x g h
    cases g with
    | fn i n => exact q
    | con d => exact q
    | bi b => exact q
    | ty t => exact q
    | isi => exact q
    | set => exact q
    | rng => exact q
    | zip => exact q
    | enum => exact q
  room := xo.room
  xe := rfl
theorem wipe_ext {σ σ' : L2.St} : ∀ (vs : List Nat), σ'.length = σ.length → (∀ j, j ∉ vs → σ'[j]? = σ[j]?) → wipe σ' vs = wipe σ vs := fun vs hl h => by
  refine List.ext_getElem? fun j => ?_
  by_cases hj : j ∈ vs
  · have key : ∀ (τ : L2.St) (vs : List Nat), j ∈ vs → (wipe τ vs)[j]? = if j < τ.length then some none else none := by
      intro τ vs
      induction vs with
      | nil => intro h; cases h
      | cons v vs ih =>
        intro hm
        show ((wipe τ vs).set v none)[j]? = _
        by_cases hv : v = j
        · subst hv
          by_cases hl : v < τ.length
          · rw [List.getElem?_set_self (by rw [wipe_length]; exact hl), if_pos hl]
          · rw [List.getElem?_eq_none (by rw [List.length_set, wipe_length]; omega), if_neg hl]
        · rw [List.getElem?_set_ne hv]
          exact ih ((List.mem_cons.mp hm).resolve_left fun z => hv z.symm)
    rw [key σ' vs hj, key σ vs hj, hl]
  · rw [wipe_out hj, wipe_out hj]
    exact h j hj
theorem wipe_idem {σ : L2.St} (vs : List Nat) : wipe (wipe σ vs) vs = wipe σ vs := by
  refine wipe_ext vs (by rw [wipe_length]) fun j hj => ?_
  rw [wipe_out hj]
theorem wipeS_len (sl : Sl) : ∀ vs, (wipeS sl vs).length = sl.length
  | [] => rfl
  | v :: vs => by
    show ((wipeS sl vs).set v none).length = _
    rw [List.length_set, wipeS_len sl vs]
theorem SlOk.wipe {K : PySem.W.Frag} {ca : List Addr} {G : Hp} {σ : L2.St} {sl : Sl} (h : SlOk K ca G σ sl) : ∀ vs : List Nat, SlOk K ca G (L2.wipe σ vs) (wipeS sl vs)
  | [] => h
  | v :: vs => by
    have ih := SlOk.wipe h vs
    refine ⟨by show ((L2.wipe σ vs).set v none).length = ((wipeS sl vs).set v none).length; rw [List.length_set, List.length_set, ih.len], fun i w e => ?_⟩
    have e : ((wipeS sl vs).set v none)[i]? = some (some w) := e
    by_cases hv : v = i
    · subst hv
      have hl : v < (wipeS sl vs).length := by
        have := (List.getElem?_eq_some_iff.mp e).1
        simpa using this
      rw [List.getElem?_set_self hl] at e
      cases e
    · rw [List.getElem?_set_ne hv] at e
      obtain ⟨x, e1, r⟩ := ih.at_ i w e
      refine ⟨x, ?_, r⟩
      show ((L2.wipe σ vs).set v none)[i]? = _
      rw [List.getElem?_set_ne hv]
      exact e1
/-- a thing that is no data and no cell is changed -/
theorem HM.other {K : PySem.W.Frag} {P : Hp} {ca : List Addr} {G H : Hp} {st : Store} {p : Addr} {o : HO} (h : HM K P ca G H st) (n : G p = none) (hp : p ∉ ca) (hP : P p = none) : HM K P ca G (upd H p o) st := by
  have key : ∀ b u, G b = some u → b ≠ p := fun b u e z => by subst z; rw [n] at e; cases e
  refine ⟨fun b u e => by rw [upd_ne (key b u e)]; exact h.sub _ _ e, h.len, h.nd, fun i b c e1 e2 => ?_, fun b u e => ?_, h.pdis, h.pg⟩
  · have hne : b ≠ p := fun z => by
      subst z
      exact hp (List.mem_of_getElem? e1)
    have q := h.cell i b c e1 e2
    cases c with
    | lst fz ds =>
      obtain ⟨ys, g1, g2, gz, g3⟩ := q
      exact ⟨ys, by rw [upd_ne hne]; exact g1, g2, gz, g3⟩
  · have hne : b ≠ p := fun z => by subst z; rw [hP] at e; cases e
    rw [upd_ne hne]
    exact h.prot _ _ e
/-- .. kept from here on -/
theorem HM.guard {K : PySem.W.Frag} {P : Hp} {ca : List Addr} {G H : Hp} {st : Store} {p : Addr} {o : HO} (h : HM K P ca G H st) (e : H p = some o) (hp : p ∉ ca) (g : G p = none) : HM K (upd P p o) ca G H st :=
  ⟨h.sub, h.len, h.nd, h.cell, fun b u q => by
    by_cases hb : b = p
    · subst hb
      rw [upd_same] at q
      rw [← q]
      exact e
    · rw [upd_ne hb] at q
      exact h.prot _ _ q, fun a ha => by
    rw [upd_ne (fun z => by subst z; exact hp ha)]
    exact h.pdis a ha, fun b u q => by
    by_cases hb : b = p
    · subst hb
      exact g
    · rw [upd_ne hb] at q
      exact h.pg b u q⟩
theorem HM.unguard {K : PySem.W.Frag} {P P' : Hp} {ca : List Addr} {G H : Hp} {st : Store} (h : HM K P' ca G H st) (s : Same P P') : HM K P ca G H st :=
  ⟨h.sub, h.len, h.nd, h.cell, s.trans h.prot, fun a ha => s.free (h.pdis a ha), fun a u q => h.pg a u (s _ _ q)⟩
noncomputable def compM (g : GM) (own : List Nat) (fi : DM) (fc fe : EM) : EM := fun sl st => (match fi sl st with
    | none => none
    | some (ds, st1) => okC own (compK (fun d => g d (wipeS sl own)) fc fe ds st1))
theorem compM_list {g : GM} {own : List Nat} {fi : DM} {fc fe : EM} {sl : Sl} {st : Store} {w : W} {st' : Store} (e : compM g own fi fc fe sl st = some (w, st')) : ∃ ds, w = .d (.list ds) := by
  unfold compM at e
  split at e
  · cases e
  · unfold okC at e
    split at e
    · split at e
      · cases e; exact ⟨_, rfl⟩
      · cases e
    · cases e
theorem compL_len {g : D → Option Sl} {c elt : EM} : ∀ {ds : List D} {st : Store} {xs : List D} {st' : Store}, compL g c elt ds st = some (xs, st') → True := fun _ => trivial
/-- the reading of a comprehension -/
theorem tc_comp {t : Tg} {own : List Nat} {wi : DM} {fc fe : EM} (hown : ∀ i ∈ tgSlots t, i ∈ own) {σ : L2.St} {H : Hp} {Q : VK} (h : tN X.K (compM (stTg t) own wi fc fe) σ H Q) :
    tLc (tI X.K wi) (tG X.K (stTg t) (tgSlots t)) (tT X.K fc) (tE X.K fe) own σ H Q := by
  obtain ⟨P, ca, G, sl, st, w, st', hm, hs, e, q⟩ := h
  unfold compM at e
  split at e
  · cases e
  · rename_i ds st1 e1
    rw [compK_eq] at e
    unfold okC at e
    split at e
    · rename_i outD st2 e2
      split at e
      · rename_i hz
        cases e
        refine ⟨P, ca, G, sl, st, ds, st1, hm, hs, e1, fun J ca1 G1 H1 n1 hm1 jo Dd nD => ?_⟩
        -- the invariant: what is made so far, what is left
        refine ⟨fun i m H' => i + m = ds.length ∧ ∃ ca' G' st'' acc accD rest, Nxt ca1 G1 ca' G' ∧ HM X.K P ca' G' H' st'' ∧ H' Dd = some (.lst acc) ∧ G' Dd = none ∧ Dd ∉ ca' ∧ P Dd = none ∧ Rps X.K G' acc accD ∧
            compL (fun d => stTg t d (wipeS sl own)) fc fe (ds.drop i) st'' = some (rest, st') ∧ accD ++ rest = outD, ⟨ds.length, by omega, ca1, G1, st1, [], [], outD, Nxt.refl, hm1.ext (Ext.junk hm1.sub nD), upd_same, hm1.sub.free nD, hm1.fresh nD, hm1.prot.free nD, .nil, by rw [List.drop_zero]; exact e2, rfl⟩, ?_⟩
        rintro i m H' ⟨him, ca', G', st'', acc, accD, rest, n', hm', hD, gD, cD, pD, ra, ec, eo⟩
        obtain ⟨jg, js⟩ := jo i P ca' G' H' st'' n'.s hm'
        by_cases hi : i < ds.length
        · -- a turn
          have hd : ds[i]? = some ds[i] := List.getElem?_eq_getElem hi
          obtain ⟨g1, g2⟩ := jg _ hd
          rw [List.drop_eq_getElem_cons hi] at ec
          unfold compL at ec
          split at ec
          · cases ec
          · rename_i sl1 es
            obtain ⟨wt, st3, e3, ec⟩ := andW_some ec
            refine .inr ⟨g1, fun H'' => ∃ ca2 G2 st4 acc accD rest, Nxt ca1 G1 ca2 G2 ∧ HM X.K P ca2 G2 H'' st4 ∧ H'' Dd = some (.lst acc) ∧ G2 Dd = none ∧ Dd ∉ ca2 ∧ P Dd = none ∧ Rps X.K G2 acc accD ∧
                compL (fun d => stTg t d (wipeS sl own)) fc fe (ds.drop (i + 1)) st4 = some (rest, st') ∧ accD ++ rest = outD, fun H'' hN => ⟨m - 1, by omega, by omega, hN⟩, fun x Hy y => ?_⟩
            obtain ⟨Gy, ex, rx⟩ := g2 x Hy y
            have hmy := hm'.ext ex
            have hDy : Hy Dd = some (.lst acc) := ex.h _ _ hD
            have gDy : Gy Dd = none := (ex.o _ _ hD).trans gD
            have hsy : SlOk X.K ca' Gy (wipe σ own) (wipeS sl own) := ((hs.mono n1).mono (n'.trans (Nxt.of ex.g))).wipe own
            refine ⟨P, ca', Gy, wipeS sl own, st'', ds[i], sl1, hmy, hsy, rx, es, fun σ2 hs2 l2 u2 => ⟨?_, ?_⟩⟩
            · rw [wipe_ext (σ := wipe σ own) own l2 fun j hj => u2 j fun z => hj (hown j z)]
              exact wipe_idem own
            · -- the test
              have hmg := hmy.guard hDy cD gDy
              split at ec
              · cases ec
              · rename_i et
                refine ⟨_, ca', Gy, sl1, st'', wt, st3, false, hmg, hs2, e3, et, fun ca2 G2 H2 n2 hm2 => ?_⟩
                refine iteF ?_
                have hD2 : H2 Dd = some (.lst acc) := hm2.prot _ _ upd_same
                have c2 : Dd ∉ ca2 := fun z => by
                  have := hm2.pdis _ z
                  rw [upd_same] at this
                  cases this
                have hm2' := hm2.unguard (same_upd pD)
                have g2 : G2 Dd = none := hm2.pg _ _ upd_same
                exact ⟨ca2, G2, st3, acc, accD, rest, (n'.trans (Nxt.of ex.g)).trans n2, hm2', hD2, g2, c2, pD, Rps.mono n2.s (Rps.mono ex.g ra), ec, eo⟩
              · rename_i et
                obtain ⟨z, st4, e4, ec⟩ := andD_some ec
                split at ec
                · cases ec
                · rename_i xs st5 e5
                  cases ec
                  refine ⟨_, ca', Gy, sl1, st'', wt, st3, true, hmg, hs2, e3, et, fun ca2 G2 H2 n2 hm2 => ?_⟩
                  refine iteT ?_
                  refine ⟨_, ca2, G2, sl1, st3, .d z, st4, hm2, hs2.mono n2, e4, fun v ca3 G3 H3 n3 hm3 r3 => ?_⟩
                  have hD3 : H3 Dd = some (.lst acc) := hm3.prot _ _ upd_same
                  have c3 : Dd ∉ ca3 := fun z => by
                    have := hm3.pdis _ z
                    rw [upd_same] at this
                    cases this
                  have hm3' := hm3.unguard (same_upd pD)
                  have g3 : G3 Dd = none := hm3.pg _ _ upd_same
                  have ra3 := Rps.mono (n2.trans n3).s (Rps.mono ex.g ra)
                  refine ⟨acc, hD3, ?_, ca3, G3, st4, acc ++ [v], accD ++ [z], xs, ((n'.trans (Nxt.of ex.g)).trans n2).trans n3, hm3'.other g3 c3 pD, upd_same, g3, c3, pD, Rps.append ra3 (.cons r3 .nil), e5, by rw [List.append_assoc]; exact eo⟩
                  rw [ra3.length]
                  rw [← eo] at hz
                  simp only [List.length_append, List.length_cons] at hz
                  omega
        · have ei : i = ds.length := by omega
          have ed : ds.drop i = [] := List.drop_of_length_le (by omega)
          rw [ed] at ec
          cases ec
          rw [List.append_nil] at eo
          subst eo
          exact .inl ⟨js (by omega), q Dd acc accD ca' G' H' (n1.trans n') rfl hm' hD gD cD pD ra (by rw [ra.length]; exact hz)⟩
      · cases e
    · cases e
end
end WM
namespace WM
open PySem PySem.Spec PyProof.Rows L2
section
variable {Φ : Fn} {k : Nat} {X : Cx} {C : CE}
theorem noStar {n : Nat} {e x : Expr} {p : Pos} {e' : E} (h : cmpE n C e = some e') (z : e = .Starred x p) : False := by
  subst z
  cases n with
  | zero => cases h
  | succ n => simp [cmpE] at h
theorem noSlice {n : Nat} {e : Expr} {a b c : Option Expr} {p : Pos} {e' : E} (h : cmpE n C e = some e') (z : e = .Slice a b c p) : False := by
  subst z
  cases n with
  | zero => cases h
  | succ n => simp [cmpE] at h
theorem noSet {n : Nat} {e : Expr} {a : List Expr} {k : Nat} {p : Pos} {e' : E} (h : cmpE n C e = some e') (z : e = .Set a k p) : False := by
  subst z
  cases n with
  | zero => cases h
  | succ n => simp [cmpE] at h
theorem star_ne {e : Expr} {es : List Expr} {env : Env} (h : ∀ x p, e ≠ .Starred x p) : starEach (e :: es) env = (false, eval e env) :: starEach es env := by
  cases e <;> first | rfl | exact absurd rfl (h _ _)
theorem star_of {n : Nat} {e : Expr} {es : List Expr} {env : Env} {e' : E} (h : cmpE n C e = some e') : starEach (e :: es) env = (false, eval e env) :: starEach es env := star_ne fun x p z => noStar h z
theorem cmpR_noStar {n : Nat} {e x : Expr} {p : Pos} {e' : E} (h : cmpR n C e = some e') (z : e = .Starred x p) : False := by
  subst z
  cases n with
  | zero => cases h
  | succ n =>
    unfold cmpR at h
    exact noStar h rfl
theorem star_ofR {n : Nat} {e : Expr} {es : List Expr} {env : Env} {e' : E} (h : cmpR n C e = some e') : starEach (e :: es) env = (false, eval e env) :: starEach es env := star_ne fun x p z => cmpR_noStar h z
theorem plainIx_of {n : Nat} {b : Expr} {e' : E} (h : cmpE n C b = some e') : PlainIx b := by
  intro o i
  cases b <;> first | rfl | exact (noSlice h rfl).elim
theorem plain_es : ∀ {n : Nat} {es : List Expr} {es' : Es} {env : Env} {pos : Pos}, cmpEs n C es = some es' → (backTo pos (starEach es env)).any (·.1) = false
  | 0, _, _, _, _, h => by cases h
  | n + 1, [], _, _, _, _ => rfl
  | n + 1, e :: es, es', env, pos, h => by
    unfold cmpEs at h
    simp only at h
    split at h
    · rename_i a b h1 h2
      rw [star_of h1]
      show (false || (backTo pos (starEach es env)).any (·.1)) = false
      rw [plain_es h2] <;> rfl
    · cases h
theorem plain_rs : ∀ {n : Nat} {es : List Expr} {es' : Es} {env : Env} {pos : Pos}, cmpRs n C es = some es' → (backTo pos (starEach es env)).any (·.1) = false
  | 0, _, _, _, _, h => by cases h
  | n + 1, [], _, _, _, _ => rfl
  | n + 1, e :: es, es', env, pos, h => by
    unfold cmpRs at h
    simp only at h
    split at h
    · rename_i a b h1 h2
      rw [star_ofR h1]
      show (false || (backTo pos (starEach es env)).any (·.1)) = false
      rw [plain_rs h2] <;> rfl
    · cases h
theorem runEs_len : ∀ {es : Es} {sl : Sl} {st : Store} {ws : List W} {st' : Store}, runEs Φ es sl st = some (ws, st') → ∀ {n : Nat} {xs : List Expr}, cmpRs n C xs = some es → ws.length = xs.length
  | .nil, _, _, _, _, h, n, xs, hc => by
    cases h
    cases n with
    | zero => cases hc
    | succ n =>
      unfold cmpRs at hc
      cases xs with
      | nil => rfl
      | cons x xs =>
        simp only at hc
        split at hc <;> cases hc
  | .cons e es, sl, st, ws, st', h, n, xs, hc => by
    obtain ⟨w, st1, e1, h⟩ := andW_some (show andW (runE Φ e sl st) (fun w st1 => (match runEs Φ es sl st1 with
      | none => none
      | some (ws, st2) => some (w :: ws, st2))) = some (ws, st') from h)
    split at h
    · cases h
    · rename_i ws2 st2 e2
      cases h
      cases n with
      | zero => cases hc
      | succ n =>
        unfold cmpRs at hc
        cases xs with
        | nil => cases hc
        | cons x xs =>
          simp only at hc
          split at hc
          · rename_i a b h1 h2
            cases hc
            rw [List.length_cons, List.length_cons, runEs_len e2 h2]
          · cases hc
structure SndE (Φ : Fn) (k n : Nat) : Prop where
  e : ∀ X C, XOk Φ k X C → ∀ e e', cmpE n C e = some e' → PE X e (tE X.K (runE Φ e'))
  t : ∀ X C, XOk Φ k X C → ∀ e e', cmpE n C e = some e' → PT X e (tT X.K (runE Φ e'))
  w : ∀ X C, XOk Φ k X C → ∀ op vs pos e', cmpE n C (.BoolOp op vs pos) = some e' → PW X (.BoolOp op vs pos) (tT X.K (runE Φ e'))
  r : ∀ X C, XOk Φ k X C → ∀ e e', cmpR n C e = some e' → PE X e (tE X.K (runE Φ e'))
  es : ∀ X C, XOk Φ k X C → ∀ e e', cmpEs n C e = some e' → PA X e (tA X.K (runEs Φ e'))
  rs : ∀ X C, XOk Φ k X C → ∀ e e', cmpRs n C e = some e' → PA X e (tA X.K (runEs Φ e'))
  o : ∀ X C, XOk Φ k X C → ∀ e e', cmpO n C e = some e' → PO X e (tO X.K (runO Φ e'))
  c : ∀ X C, XOk Φ k X C → ∀ e e', cmpC n C e = some e' → PTs X e (tT X.K (runC Φ e'))
  i : ∀ X C, XOk Φ k X C → ∀ tg e e', cmpI n C tg e = some e' → PI X tg e (tI X.K (runI Φ e'))
theorem constD_ok {c : Const} {d : D} {j : Nat} {pos : Pos} (h : constD c = some d) : PE X (.Constant c j pos) (tE X.K fun _ st => some (.d d, st)) := by
  cases c with
  | none => cases h; exact se_lit pe_non fun _ => .non
  | bool b => cases h; exact se_lit pe_bl fun _ => .bl b
  | int i => cases h; exact se_lit pe_int fun _ => .int i
  | str s => cases h; exact se_lit pe_str fun _ => .str s
  | _ => cases h
theorem st_pair {e : Expr} {f : EM} (he : ∀ whole, isTrue e X.env whole = (do let v ← whole; standAt e.pos; holding [v] (truthy v))) (h : PE X e (tE X.K f)) : PE X e (tE X.K f) ∧ PT X e (tT X.K f) := ⟨h, st_val h he⟩
theorem snd_e0 : SndE Φ k 0 :=
  ⟨fun _ _ _ _ _ h => absurd h (fun z => by cases z), fun _ _ _ _ _ h => absurd h (fun z => by cases z), fun _ _ _ _ _ _ _ h => absurd h (fun z => by cases z), fun _ _ _ _ _ h => absurd h (fun z => by cases z), fun _ _ _ _ _ h => absurd h (fun z => by cases z), fun _ _ _ _ _ h => absurd h (fun z => by cases z), fun _ _ _ _ _ h => absurd h (fun z => by cases z), fun _ _ _ _ _ h => absurd h (fun z => by cases z), fun _ _ _ _ _ _ h => absurd h (fun z => by cases z)⟩
/-- a value and a test at once -/
theorem snd_et {n : Nat} (ih : SndE Φ k n) (xo : XOk Φ k X C) (e : Expr) (e' : E) (h : cmpE (n + 1) C e = some e') : PE X e (tE X.K (runE Φ e')) ∧ PT X e (tT X.K (runE Φ e')) := by
  unfold cmpE at h
  split at h
  · -- Constant
    rename_i c j pos
    cases e1 : constD c with
    | none => rw [e1] at h; cases h
    | some d =>
      rw [e1] at h
      cases h
      exact st_pair (fun _ => rfl) (constD_ok e1)
  · -- Name
    rename_i x pos
    split at h
    · rename_i i e1
      cases h
      obtain ⟨q1, q2, q3, q4⟩ := slotOf_ok xo e1
      exact st_pair (fun _ => rfl) (se_var (pe_var q1 q2 q3 q4))
    · split at h
      · rename_i d e1
        cases h
        obtain ⟨gl, ⟨v, u, m1, rv, rd⟩, d1, d2⟩ := globOf_ok xo e1
        exact st_pair (fun _ => rfl) (se_lit (pe_glob gl m1 rv d1) rd)
      · cases h
  · -- BinOp
    split at h
    · rename_i a' b' h1 h2
      split at h
      · cases h
        exact st_pair (fun _ => rfl) (se_bin (ih.e X C xo _ _ h1) (ih.e X C xo _ _ h2))
      · cases h
    · cases h
  · -- neg
    rename_i a pos
    cases e1 : cmpE n C a with
    | none => rw [e1] at h; cases h
    | some a' =>
      rw [e1] at h
      cases h
      exact st_pair (fun _ => rfl) (se_neg (ih.e X C xo _ _ e1))
  · -- not
    rename_i a pos
    cases e1 : cmpE n C a with
    | none => rw [e1] at h; cases h
    | some a' =>
      rw [e1] at h
      cases h
      exact ⟨se_not (ih.e X C xo _ _ e1), st_not (ih.t X C xo _ _ e1)⟩
  · -- one
    rename_i op a pos
    refine ⟨pe_one (ih.e X C xo _ _ h), ?_⟩
    cases op with
    | And => exact (st_and1 (ih.t X C xo _ _ h)).pt
    | Or => exact (st_or1 (ih.t X C xo _ _ h)).pt
  · -- and
    split at h
    · rename_i a' b' h1 h2
      cases h
      exact ⟨se_and (ih.e X C xo _ _ h1) (ih.e X C xo _ _ h2), (st_and (ih.t X C xo _ _ h1) (ih.w X C xo _ _ _ _ h2)).pt⟩
    · cases h
  · -- or
    split at h
    · rename_i a' b' h1 h2
      cases h
      exact ⟨se_or (ih.e X C xo _ _ h1) (ih.e X C xo _ _ h2), (st_or (ih.t X C xo _ _ h1) (ih.w X C xo _ _ _ _ h2)).pt⟩
    · cases h
  · -- compare
    split at h
    · rename_i a' b' h1 h2
      split at h
      · cases h
      · rename_i hk
        cases h
        have hk := Bool.not_eq_true _ ▸ hk
        exact ⟨se_cmp xo (ih.e X C xo _ _ h1) (ih.e X C xo _ _ h2) hk, st_cmp xo (ih.e X C xo _ _ h1) (ih.e X C xo _ _ h2) hk⟩
    · cases h
  · split at h
    · rename_i a' b' c' h1 h2 h3
      split at h
      · cases h
      · rename_i hk
        cases h
        have hk := Bool.not_eq_true _ ▸ hk
        exact ⟨se_cmp2 xo (ih.e X C xo _ _ h1) (ih.e X C xo _ _ h2) (ih.e X C xo _ _ h3) hk, st_cmp2 xo (ih.e X C xo _ _ h1) (ih.e X C xo _ _ h2) (ih.e X C xo _ _ h3) hk⟩
    · cases h
  · split at h
    · rename_i a' b' c' d' h1 h2 h3 h4
      split at h
      · cases h
      · rename_i hk
        cases h
        have hk := Bool.not_eq_true _ ▸ hk
        exact ⟨se_cmp3 xo (ih.e X C xo _ _ h1) (ih.e X C xo _ _ h2) (ih.e X C xo _ _ h3) (ih.e X C xo _ _ h4) hk, st_cmp3 xo (ih.e X C xo _ _ h1) (ih.e X C xo _ _ h2) (ih.e X C xo _ _ h3) (ih.e X C xo _ _ h4) hk⟩
    · cases h
  · -- ifexp
    split at h
    · rename_i c' a' b' h1 h2 h3
      cases h
      exact ⟨se_ite (ih.t X C xo _ _ h1) (ih.e X C xo _ _ h2) (ih.e X C xo _ _ h3), st_ite (ih.t X C xo _ _ h1) (ih.t X C xo _ _ h2) (ih.t X C xo _ _ h3)⟩
    · cases h
  · -- tuple
    rename_i es j pos
    cases e1 : cmpEs n C es with
    | none => rw [e1] at h; cases h
    | some es' =>
      rw [e1] at h
      cases h
      exact st_pair (fun _ => rfl) (se_tup (ih.es X C xo _ _ e1))
  · -- list
    rename_i es pos
    cases e1 : cmpEs n C es with
    | none => rw [e1] at h; cases h
    | some es' =>
      rw [e1] at h
      cases h
      exact st_pair (fun _ => rfl) (se_lst (ih.es X C xo _ _ e1))
  · -- slice
    split at h
    · rename_i a' l' h' h1 h2 h3
      cases h
      exact st_pair (fun _ => rfl) (se_sl (ih.e X C xo _ _ h1) (ih.o X C xo _ _ h2) (ih.o X C xo _ _ h3))
    · cases h
  · -- reversed
    rename_i a k p1 p2 p3 pos
    cases e1 : cmpE n C a with
    | none => rw [e1] at h; cases h
    | some a' =>
      rw [e1] at h
      cases h
      exact st_pair (fun _ => rfl) (se_rev (ih.e X C xo _ _ e1))
  · -- item
    split at h
    · rename_i a' b' h1 h2
      cases h
      exact st_pair (fun _ => rfl) (se_ix (ih.r X C xo _ _ h1) (ih.e X C xo _ _ h2) (plainIx_of h2))
    · cases h
  · -- call
    rename_i x p a as pos
    split at h
    · rename_i i j hg
      split at h
      · rename_i es' e1
        split at h
        · rename_i hl
          cases h
          have e0 := e1
          cases n with
          | zero => cases e1
          | succ n =>
            unfold cmpRs at e1
            simp only at e1
            split at e1
            · rename_i a1 b1 h1 h2
              exact st_pair (fun _ => rfl) (se_call xo hg (ih.rs X C xo _ _ e0) hl (fun sl st ws st' q => by rw [runEs_len q e0]; exact hl) (star_ofR h1) (plain_rs h2))
            · cases e1
        · cases h
      · cases h
    · rename_i b hg
      have go : ∀ {es' : Es}, cmpEs n C (a :: as) = some es' → PE X (.Call (.Name x p) (a :: as) [] pos) (tE X.K (runE Φ (.blt b es'))) := by
        intro es' e1
        have e0 := e1
        cases n with
        | zero => cases e1
        | succ n =>
          unfold cmpEs at e1
          simp only at e1
          split at e1
          · rename_i a1 b1 h1 h2
            exact se_blt xo hg (ih.es X C xo _ _ e0) (star_of h1) (plain_es h2)
          · cases e1
      have goR : ∀ {es' : Es}, cmpRs n C (a :: as) = some es' → PE X (.Call (.Name x p) (a :: as) [] pos) (tE X.K (runE Φ (.blt b es'))) := by
        intro es' e1
        have e0 := e1
        cases n with
        | zero => cases e1
        | succ n =>
          unfold cmpRs at e1
          simp only at e1
          split at e1
          · rename_i a1 b1 h1 h2
            exact se_blt xo hg (ih.rs X C xo _ _ e0) (star_ofR h1) (plain_rs h2)
          · cases e1
      split at h
      · rename_i a1 hs
        split at h
        · rename_i hx
          subst hx
          cases e1 : cmpE n C a1 with
          | none => rw [e1] at h; cases h
          | some a' =>
            rw [e1] at h
            cases h
            unfold setArg at hs
            split at hs
            · rename_i s p2 a2 q he
              split at hs
              · rename_i hset
                split at hs
                · rename_i hbs
                  obtain ⟨rfl, rfl⟩ := hbs
                  cases hs
                  cases he
                  exact st_pair (fun _ => rfl) (se_lset xo rfl hg hset (ih.e X C xo _ _ e1) (star_of e1))
                · cases hs
              · cases hs
            · cases hs
        · cases h
      split at h
      · cases e1 : cmpRs n C (a :: as) with
        | none => rw [e1] at h; cases h
        | some es' =>
          rw [e1] at h
          cases h
          exact st_pair (fun _ => rfl) (goR e1)
      · cases e1 : cmpEs n C (a :: as) with
        | none => rw [e1] at h; cases h
        | some es' =>
          rw [e1] at h
          cases h
          exact st_pair (fun _ => rfl) (go e1)
    · rename_i hg
      split at h
      · rename_i y p2
        split at h
        · rename_i a' t' h1 h2
          cases h
          cases hy : globOf C y with
          | none => rw [hy] at h2; cases h2
          | some g =>
            rw [hy] at h2
            exact st_pair (fun _ => rfl) (se_isi xo hg hy h2 (ih.e X C xo _ _ h1) (star_of h1))
        · cases h
      · cases h
    · cases h
  · -- comprehension
    rename_i elt tg iter ifs scope pos
    split at h
    · rename_i it t c e1 h1 h2 h3 h4
      split at h
      · rename_i hk
        cases h
        rw [Bool.and_eq_true] at hk
        have ok : BlkOk X.N X.env.scope scope (ownOf C scope) := by
          rw [xo.hN, xo.hsc]
          exact blkOk_by hk.1
        have hown := of_decide_eq_true hk.2
        have hit : ∀ x, foldedSetIterable iter X.env x = pure x := by
          intro x
          cases n with
          | zero => cases h1
          | succ n =>
            cases iter <;> first | rfl | (exfalso; unfold cmpI at h1; simp only at h1; cases n <;> simp [cmpE] at h1)
        refine st_pair (fun _ => rfl) ?_
        refine (pe_lc xo.calm (by rw [xo.hN]; exact xo.nd) (ih.i X C xo _ _ _ h1) ok (fun s H Ca cl fp => ?_) (fun s H Ca cl fp => ?_) (fun s H Ca cl fp => ?_) hit).weak fun σ H Q hh => tc_comp (wi := runI Φ it) (fc := runC Φ c) (fe := runE Φ e1) hown (tN_of (fun _ _ _ _ q => compM_list q) hh)
        · exact (snd_t (blkE_ok xo ok s H Ca cl fp) n).1 _ _ h2
        · exact ih.c _ _ (blkE_ok xo ok s H Ca cl fp) _ _ h3
        · exact ih.e _ _ (blkE_ok xo ok s H Ca cl fp) _ _ h4
      · cases h
    · cases h
  · cases h
theorem snd_step {n : Nat} (ih : SndE Φ k n) : SndE Φ k (n + 1) where
  e := fun X C xo e e' h => (snd_et ih xo e e' h).1
  t := fun X C xo e e' h => (snd_et ih xo e e' h).2
  w := fun X C xo op vs pos e' h => by
    match vs, h with
    | [], h => cases op <;> (unfold cmpE at h; cases h)
    | [a], h =>
      have h : cmpE n C a = some e' := h
      cases op with
      | And => exact st_and1 (ih.t X C xo _ _ h)
      | Or => exact st_or1 (ih.t X C xo _ _ h)
    | a :: b :: r, h =>
      cases op with
      | And =>
        have h : (match cmpE n C a, cmpE n C (.BoolOp .And (b :: r) pos) with
          | some a', some b' => some (E.and a' b')
          | _, _ => none) = some e' := h
        split at h
        · rename_i a' b' h1 h2
          cases h
          exact st_and (ih.t X C xo _ _ h1) (ih.w X C xo _ _ _ _ h2)
        · cases h
      | Or =>
        have h : (match cmpE n C a, cmpE n C (.BoolOp .Or (b :: r) pos) with
          | some a', some b' => some (E.or a' b')
          | _, _ => none) = some e' := h
        split at h
        · rename_i a' b' h1 h2
          cases h
          exact st_or (ih.t X C xo _ _ h1) (ih.w X C xo _ _ _ _ h2)
        · cases h
  r := fun X C xo e e' h => by
    unfold cmpR at h
    split at h
    · split at h
      · rename_i x pos _ i e1
        cases h
        obtain ⟨q1, q2, q3, q4⟩ := slotOf_ok xo e1
        exact se_raw (pe_var q1 q2 q3 q4)
      · exact ih.e X C xo _ _ h
    · exact ih.e X C xo _ _ h
  es := fun X C xo es es' h => by
    unfold cmpEs at h
    cases es with
    | nil => cases h; exact sa_nil
    | cons e es =>
      simp only at h
      split at h
      · rename_i a b h1 h2
        cases h
        exact sa_cons (ih.e X C xo _ _ h1) (ih.es X C xo _ _ h2) (star_of h1)
      · cases h
  rs := fun X C xo es es' h => by
    unfold cmpRs at h
    cases es with
    | nil => cases h; exact sa_nil
    | cons e es =>
      simp only at h
      split at h
      · rename_i a b h1 h2
        cases h
        exact sa_cons (ih.r X C xo _ _ h1) (ih.rs X C xo _ _ h2) (star_ofR h1)
      · cases h
  o := fun X C xo e e' h => by
    unfold cmpO at h
    cases e with
    | none => cases h; exact so_none
    | some e =>
      simp only at h
      cases e1 : cmpE n C e with
      | none => rw [e1] at h; cases h
      | some a =>
        rw [e1] at h
        cases h
        exact so_some (ih.e X C xo _ _ e1)
  c := fun X C xo es e' h => by
    unfold cmpC at h
    split at h
    · cases h
      refine ⟨fun pins s σ H Q I ⟨P, ca, G, sl, st, w, st', t, hm, hs, e, et, q⟩ => pts_nil.run pins s σ H Q I ?_⟩
      cases e
      cases et
      exact q ca G H Nxt.refl hm
    · rename_i e
      cases e1 : cmpE n C e with
      | none => rw [e1] at h; cases h
      | some a =>
        rw [e1] at h
        cases h
        exact pts_one (ih.t X C xo _ _ e1)
    · cases h
  i := fun X C xo tg e e' h => by
    have val : ∀ {e : Expr} {e' : I}, (cmpE n C e).map .val = some e' → PI X tg e (tI X.K (runI Φ e')) := by
      intro e e' h
      cases e1 : cmpE n C e with
      | none => rw [e1] at h; cases h
      | some a =>
        rw [e1] at h
        cases h
        exact pi_val (ih.e X C xo _ _ e1)
    unfold cmpI at h
    split at h
    · rename_i x p a pos
      split at h
      · rename_i hg
        cases e1 : cmpE n C a with
        | none => rw [e1] at h; cases h
        | some a' =>
          rw [e1] at h
          cases h
          exact pi_rng1 xo hg (ih.e X C xo _ _ e1) (star_of e1)
      · rename_i hg
        split at h
        · cases e1 : cmpE n C a with
          | none => rw [e1] at h; cases h
          | some a' =>
            rw [e1] at h
            cases h
            exact pi_enumD xo hg (ih.e X C xo _ _ e1) (star_of e1)
        · cases h
      · exact val h
    · rename_i x p a b pos
      split at h
      · rename_i hg
        split at h
        · rename_i a' b' h1 h2
          cases h
          exact pi_rng2 xo hg (ih.e X C xo _ _ h1) (ih.e X C xo _ _ h2) (by rw [star_of h1, star_of h2] <;> rfl) (star_of h2)
        · cases h
      · rename_i hg
        split at h
        · rename_i h1 h2
          cases h
          exact pi_zipD xo hg (ih.e X C xo _ _ h1) (ih.e X C xo _ _ h2) (star_of h1) (star_of h2)
        · cases h
      · exact val h
    · rename_i x p a b c pos
      split at h
      · rename_i hg
        split at h
        · rename_i h1 h2 h3
          cases h
          exact pi_zip3D xo hg (ih.e X C xo _ _ h1) (ih.e X C xo _ _ h2) (ih.e X C xo _ _ h3) (star_of h1) (star_of h2) (star_of h3)
        · cases h
      · exact val h
    · exact val h
theorem snd_e : ∀ n : Nat, SndE Φ k n
  | 0 => snd_e0
  | n + 1 => snd_step (snd_e n)
end
end WM
namespace WM
open PySem PySem.Spec PyProof.Rows L2
section
variable {Φ : Fn} {k : Nat} {X : Cx} {C : CE}
variable {e a b c : Expr} {fa fb fc : EM} {pos : Pos}
theorem EndOk.mono {K : PySem.W.Frag} {P : Hp} {D : Ends} {ca ca1 : List Addr} {G G1 : Hp} {sl' : Sl} {st' : Store} (n : Nxt ca G ca1 G1) : ∀ {fl : Fl}, EndOk K P D ca G sl' st' fl → EndOk K P D ca1 G1 sl' st' fl
  | .nx, h => fun σ' ca' G' H' n' => h σ' ca' G' H' (n.trans n')
  | .bk, h => fun σ' ca' G' H' n' => h σ' ca' G' H' (n.trans n')
  | .ct, h => fun σ' ca' G' H' n' => h σ' ca' G' H' (n.trans n')
  | .ret w, h => fun v ca' G' H' n' => h v ca' G' H' (n.trans n')
def setM (i : Nat) (fa : EM) : SM := fun sl st => andW (fa sl st) fun w st1 => some (.nx, sl.set i (some w), st1)
/-- a value, then the name -/
theorem ts_set {i : Nat} {D : Ends} {σ : L2.St} {H : Hp} (h : tS X.K (setM i fa) D σ H) : tAsg (tE X.K fa) (gName i) D σ H := by
  obtain ⟨P, ca, G, sl, st, fl, sl', st', hm, hs, e, q⟩ := h
  obtain ⟨w, st1, e1, e⟩ := andW_some e
  cases e
  exact ⟨P, ca, G, sl, st, w, _, hm, hs, e1, fun v ca1 G1 H1 n1 hm1 r1 => q _ ca1 G1 H1 n1 hm1 ((hs.mono n1).set i r1)⟩
theorem ss_set {x : Str} {i : Nat} {px : Pos} (xo : XOk Φ k X C) (hi : stOf C x = some i) (he : PE X e (tE X.K fa)) (hs : swapsWith e (some (.Name x px)) pos.line X.env = pure false) : PS X (.Assign [.Name x px] e pos) (tS X.K (setM i fa)) := by
  obtain ⟨h1, h2, h3⟩ := stOf_ok xo hi
  exact (ps_set (by rw [xo.hN]; exact xo.nd) h1 h2 he hs h3).weak fun D σ H h => ts_set h
/-- a new list, as a cell -/
theorem HM.newcell {K : PySem.W.Frag} {P : Hp} {ca : List Addr} {G H : Hp} {st : Store} {p : Addr} {xs : List V} {ds : List D} (h : HM K P ca G H st) (h1 : H p = some (.lst xs)) (g : G p = none) (hp : p ∉ ca) (pP : P p = none) (r : Rps K G xs ds) (hz : xs.length ≤ sizeLine) :
    HM K P (ca ++ [p]) G H (st ++ [.lst false ds]) := by
  refine ⟨h.sub, by rw [List.length_append, List.length_append, h.len]; rfl, ?_, fun i a c e1 e2 => ?_, h.prot, fun a ha => ?_, h.pg⟩
  · rw [List.nodup_append]
    refine ⟨h.nd, by simp, fun a ha b hb z => ?_⟩
    rw [List.mem_singleton] at hb
    subst hb
    subst z
    exact hp ha
  · by_cases hi : i < ca.length
    · rw [List.getElem?_append_left hi] at e1
      rw [List.getElem?_append_left (by rw [← h.len]; exact hi)] at e2
      exact h.cell i a c e1 e2
    · have hl : i = ca.length := by
        have := (List.getElem?_eq_some_iff.mp e1).1
        rw [List.length_append, List.length_singleton] at this
        omega
      subst hl
      rw [List.getElem?_append_right (Nat.le_refl _), Nat.sub_self] at e1
      rw [List.getElem?_append_right (by rw [h.len]; exact Nat.le_refl _), h.len, Nat.sub_self] at e2
      cases e1
      cases e2
      exact ⟨xs, h1, r, hz, g⟩
  · rcases List.mem_append.mp ha with ha | ha
    · exact h.pdis a ha
    · rw [List.mem_singleton] at ha
      subst ha
      exact pP
theorem ss_setC {x : Str} {i : Nat} {px : Pos} (xo : XOk Φ k X C) (hi : stOf C x = some i) (he : PE X e (tN X.K fa)) (hs : swapsWith e (some (.Name x px)) pos.line X.env = pure false) : PS X (.Assign [.Name x px] e pos) (tS X.K fun sl st => newC i sl (fa sl st)) := by
  obtain ⟨h1, h2, h3⟩ := stOf_ok xo hi
  refine (ps_set (by rw [xo.hN]; exact xo.nd) h1 h2 he hs h3).weak fun D σ H ⟨P, ca, G, sl, st, fl, sl', st', hm, hs, e, q⟩ => ?_
  replace e : newC i sl (fa sl st) = some (fl, sl', st') := e
  unfold newC at e
  split at e
  · rename_i ds st1 e1
    cases e
    refine ⟨P, ca, G, sl, st, _, st1, hm, hs, e1, fun p xs ds' ca1 G1 H1 n1 ew hm1 hH hG hc hP r hz => ?_⟩
    cases ew
    have hm2 := hm1.newcell hH hG hc hP r hz
    have n2 : Nxt ca G (ca1 ++ [p]) G1 := ⟨n1.s, n1.p.trans (List.prefix_append _ _)⟩
    refine q _ (ca1 ++ [p]) G1 H1 n2 hm2 ((hs.mono n2).set i ⟨p, ?_, rfl⟩)
    rw [← hm1.len, List.getElem?_append_right (Nat.le_refl _), Nat.sub_self] <;> rfl
  · cases e
/-- new lists -/
theorem sn_rep {es : List Expr} {fs : AM} {p1 : Pos} (hs : PA X es (tA X.K fs)) (hb : PE X b (tE X.K fb)) : PE X (.BinOp (.List es p1) .Mult b pos) (tN X.K fun sl st => andD (mkLst (fs sl st)) fun x st1 => andD (fb sl st1) fun y st2 => okD (binK .Mult x y) st2) :=
  (pe_op op_rep (se_lst hs) hb).weak fun σ H Q ⟨P, ca, G, sl, st, w, st', hm, hs, e, q⟩ => by
    obtain ⟨x, st1, e1, e⟩ := andD_some e
    obtain ⟨y, st2, e2, e⟩ := andD_some e
    obtain ⟨d, e3, e4⟩ := okD_some e
    cases e4
    obtain ⟨ds, ed⟩ := mkLst_list e1
    cases ed
    refine ⟨P, ca, G, sl, st, _, _, hm, hs, e1, fun v1 ca1 G1 H1 n1 hm1 r1 => ⟨P, ca1, G1, sl, st1, _, _, hm1, hs.mono n1, e2, fun v2 ca2 G2 H2 n2 hm2 r2 => ?_⟩⟩
    rw [binK_eq] at e3
    unfold binD at e3
    simp only at e3
    cases y with
    | int k =>
      simp only at e3
      split at e3
      · rename_i hz
        cases e3
        obtain ⟨a, vs, rfl, h1, a1⟩ := Rp.list_inv (Rp.mono n2.s r1)
        refine ⟨a, k, vs, rfl, Rp.int_inv r2, hm2.sub _ _ h1, by omega, by omega, by rw [a1.length]; exact hz.2.2, fun p n => ?_⟩
        refine q p _ _ ca2 G2 _ (n1.trans n2) rfl (hm2.ext (Ext.junk hm2.sub n)) upd_same (hm2.sub.free n) (hm2.fresh n) (hm2.prot.free n) (a1.flat _) ?_
        have := (a1.flat k.toNat).length
        rw [this]
        have h2 : ∀ n : Nat, (flatten' n ds).length = ds.length * n := fun n => by
          unfold flatten'
          induction n with
          | zero => rfl
          | succ n ih => rw [List.replicate_succ, List.flatten_cons, List.length_append, ih, Nat.mul_succ, Nat.add_comm]
        rw [h2]
        exact hz.2.2
      · cases e3
    | _ => cases e3
theorem sn_cat {a : Expr} {es : List Expr} {fa : EM} {fs : AM} {p1 : Pos} (ha : PE X a (tE X.K fa)) (hs : PA X es (tA X.K fs)) : PE X (.BinOp a .Add (.List es p1) pos) (tN X.K fun sl st => andD (fa sl st) fun x st1 => andD (mkLst (fs sl st1)) fun y st2 => okD (binK .Add x y) st2) :=
  (pe_op op_cat ha (se_lst hs)).weak fun σ H Q ⟨P, ca, G, sl, st, w, st', hm, hs, e, q⟩ => by
    obtain ⟨x, st1, e1, e⟩ := andD_some e
    obtain ⟨y, st2, e2, e⟩ := andD_some e
    obtain ⟨d, e3, e4⟩ := okD_some e
    cases e4
    obtain ⟨ds, ed⟩ := mkLst_list e2
    cases ed
    refine ⟨P, ca, G, sl, st, _, _, hm, hs, e1, fun v1 ca1 G1 H1 n1 hm1 r1 => ⟨P, ca1, G1, sl, st1, _, _, hm1, hs.mono n1, e2, fun v2 ca2 G2 H2 n2 hm2 r2 => ?_⟩⟩
    rw [binK_eq] at e3
    unfold binD at e3
    simp only at e3
    cases x with
    | list xs =>
      simp only at e3
      split at e3
      · rename_i hz
        cases e3
        obtain ⟨a, vs, rfl, h1, a1⟩ := Rp.list_inv (Rp.mono n2.s r1)
        obtain ⟨b, ws, rfl, h2, a2⟩ := Rp.list_inv r2
        refine ⟨a, b, vs, ws, rfl, rfl, hm2.sub _ _ h1, hm2.sub _ _ h2, ?_, fun p n => ?_⟩
        · rw [a1.length, a2.length]
          exact hz
        · refine q p _ _ ca2 G2 _ (n1.trans n2) rfl (hm2.ext (Ext.junk hm2.sub n)) upd_same (hm2.sub.free n) (hm2.fresh n) (hm2.prot.free n) (Rps.append a1 a2) ?_
          rw [List.length_append, a1.length, a2.length]
          exact hz
      · cases e3
    | _ => cases e3
theorem sn_sl {p2 : Pos} {lo hi : Option Expr} {fl fh : Sl → Store → Option (Option Int × Store)} (ha : PE X a (tE X.K fa)) (hl : PO X lo (tO X.K fl)) (hh : PO X hi (tO X.K fh)) : PE X (.Subscript a (.Slice lo hi none p2) pos) (tN X.K (fun sl st => andD (andD (fa sl st) fun x st1 => (match fl sl st1 with
    | none => none
    | some (l, st2) => (match fh sl st2 with
      | none => none
      | some (h, st3) => okD (slD x l h) st3))) fun x st1 => andD (mkLst (some ([], st1))) fun y st2 => okD (binK .Add x y) st2)) :=
  (pe_slice sl_list ha hl hh).weak fun σ H Q ⟨P, ca, G, sl, st, w, st', hm, hs, e, q⟩ => by
    obtain ⟨x0, st0, e0, e⟩ := andD_some e
    obtain ⟨y, sty, ey, e⟩ := andD_some e
    have ey' : some (W.d (.list []), st0) = some (W.d y, sty) := ey
    cases ey'
    obtain ⟨d, e7, e8⟩ := okD_some e
    cases e8
    obtain ⟨x, st1, e1, e4⟩ := andD_some e0
    split at e4
    · cases e4
    · rename_i l st2 e2
      split at e4
      · cases e4
      · rename_i h st3 e3
        obtain ⟨d2, e5, e6⟩ := okD_some e4
        cases e6
        refine ⟨P, ca, G, sl, st, _, _, hm, hs, e1, fun v1 ca1 G1 H1 n1 hm1 r1 => ⟨P, ca1, G1, sl, st1, _, _, hm1, hs.mono n1, e2, fun ca2 G2 H2 n2 hm2 => ⟨P, ca2, G2, sl, st2, _, _, hm2, hs.mono (n1.trans n2), e3, fun ca3 G3 H3 n3 hm3 => ?_⟩⟩⟩
        have r3 := Rp.mono (n2.trans n3).s r1
        rw [binK_eq] at e7
        cases x with
        | list xs =>
          have e5 : some (PyData.list (cutD xs l h)) = some x0 := e5
          cases e5
          obtain ⟨a, vs, rfl, h1, a1⟩ := Rp.list_inv r3
          have a2 := Rps.cut a1 l h
          replace e7 : (if (cutD xs l h).length + ([] : List D).length ≤ sizeLine then some (PyData.list (cutD xs l h ++ [])) else none) = some d := e7
          split at e7
          rotate_left
          · cases e7
          rename_i hz
          cases e7
          rw [List.append_nil] at q
          rw [← a2.length, List.length_nil, Nat.add_zero] at hz
          exact ⟨a, vs, rfl, SqL.of (hm3.sub _ _ h1), fun p n => q p _ _ ca3 G3 _ ((n1.trans n2).trans n3) rfl (hm3.ext (Ext.junk hm3.sub n)) upd_same (hm3.sub.free n) (hm3.fresh n) (hm3.prot.free n) a2 hz⟩
        | tuple xs =>
          have e5 : some (PyData.tuple (cutD xs l h)) = some x0 := e5
          cases e5
          cases e7
        | _ => cases e5
theorem sn_list {x : Str} {p : Pos} (xo : XOk Φ k X C) (hg : globOf C x = some (.bi .list)) (ha : PE X a (tE X.K fa)) (he : starEach [a] X.env = (false, eval a X.env) :: starEach [] X.env) :
    PE X (.Call (.Name x p) [a] [] pos) (tN X.K (bltM .list (consM fa fun _ st => some ([], st)))) := by
  obtain ⟨gl, ok, d1, d2⟩ := globOf_ok xo hg
  rcases ok with ⟨ne, h1, h2⟩ | ⟨z, _⟩
  · refine (pe_callTy call_list_of gl h1 h2 (pa_cons ha pa_nil he) d2 d1 he rfl).weak fun σ H Q ⟨P, ca, G, sl, st, w, st', hm, hs, e, q⟩ => ?_
    replace e : (match consM fa (fun _ st => some ([], st)) sl st with
      | none => none
      | some (ws, st1) => okD (bltW .list ws st1) st1) = some (w, st') := e
    split at e
    · cases e
    · rename_i ws st1 e1
      obtain ⟨d, e2, e3⟩ := okD_some e
      cases e3
      obtain ⟨w1, st2, e4, e5⟩ := andW_some e1
      cases e5
      refine ⟨P, ca, G, sl, st, _, _, hm, hs, e4, fun v1 ca1 G1 H1 n1 hm1 r1 => ?_⟩
      cases w1 with
      | m j => cases e2
      | d x =>
        have e2 : bltD .list [x] = some d := e2
        cases x with
        | list xs =>
          replace e2 : (if xs.length ≤ sizeLine then some (PyData.list xs) else none) = some d := e2
          split at e2
          rotate_left
          · cases e2
          rename_i hz
          cases e2
          obtain ⟨a, vs, rfl, h3, a1⟩ := Rp.list_inv r1
          rw [← a1.length] at hz
          exact ⟨a, vs, rfl, .inl (SqL.of (hm1.sub _ _ h3)), fun p n => q p vs xs ca1 G1 _ n1 rfl (hm1.ext (Ext.junk hm1.sub n)) upd_same (hm1.sub.free n) (hm1.fresh n) (hm1.prot.free n) a1 hz⟩
        | tuple xs =>
          replace e2 : (if xs.length ≤ sizeLine then some (PyData.list xs) else none) = some d := e2
          split at e2
          rotate_left
          · cases e2
          rename_i hz
          cases e2
          obtain ⟨a, vs, rfl, h3, a1⟩ := Rp.tuple_inv r1
          rw [← a1.length] at hz
          exact ⟨a, vs, rfl, .inr (SqT.mono hm1.sub h3), fun p n => q p vs xs ca1 G1 _ n1 rfl (hm1.ext (Ext.junk hm1.sub n)) upd_same (hm1.sub.free n) (hm1.fresh n) (hm1.prot.free n) a1 hz⟩
        | _ => cases e2
  · cases z
end
end WM
namespace WM
open PySem PySem.Spec PyProof.Rows L2
section
variable {Φ : Fn} {k : Nat} {X : Cx} {C : CE}
variable {e a b c : Expr} {fa fb fc : EM} {pos : Pos}
theorem ss_unp {es : List Expr} {kk : Nat} {tp : Pos} {ts : Tgs} (hg : PG X (.Tuple es kk tp) (tG X.K (stTg (.t ts)) (tgSlots (.t ts)))) (he : PE X e (tE X.K fa)) (hw : swappedStores [.Tuple es kk tp] e X.env = pure none) :
    PS X (.Assign [.Tuple es kk tp] e pos) (tS X.K fun sl st => andD (fa sl st) fun x st1 => okN (stTg (.t ts) x sl) st1) := by
  have hs : swapsWithSole [.Tuple es kk tp] e pos.line X.env = pure false := by
    cases e <;> rfl
  refine (ps_asg he hg hs hw rfl).weak fun D σ H ⟨P, ca, G, sl, st, fl, sl', st', hm, hs, e, q⟩ => ?_
  obtain ⟨x, st1, e1, e⟩ := andD_some e
  unfold okN at e
  split at e
  · rename_i sl1 e2
    cases e
    exact ⟨P, ca, G, sl, st, _, _, hm, hs, e1, fun v ca1 G1 H1 n1 hm1 r1 => ⟨P, ca1, G1, sl, _, x, _, hm1, hs.mono n1, r1, e2, fun σ' hs' _ _ => q σ' ca1 G1 H1 n1 hm1 hs'⟩⟩
  · cases e
theorem swap_other {es : List Expr} {kk : Nat} {tp : Pos} (h : ∀ vs j p, e ≠ .Tuple vs j p) : swappedStores [.Tuple es kk tp] e X.env = pure none := by
  cases e <;> first | rfl | exact absurd rfl (h _ _ _)
theorem blockKind_ok (xo : XOk Φ k X C) : X.env.blockKind = .function := by
  unfold Env.blockKind
  have : X.env.scope.kind = .function := by rw [xo.hsc]; exact xo.kd
  rw [this]
  rfl
theorem swap_ok (xo : XOk Φ k X C) {ts vs : List Expr} {kk j : Nat} {tp vp : Pos} {r : Option (List Str)} (h : swapB C ts vs = some r) : swappedStores [.Tuple ts kk tp] (.Tuple vs j vp) X.env = pure r := by
  have hk : X.env.kindOf = fun x => C.sc.names.lookup x := funext fun x => by
    unfold Env.kindOf
    rw [xo.hsc]
  unfold swappedStores
  rw [blockKind_ok xo, hk]
  unfold swapB at h
  split at h
  · rename_i c1
    cases h
    exact (if_pos (by rw [c1]; rfl)).trans rfl
  · rename_i c1
    rw [Bool.not_eq_true] at c1
    refine (if_neg (by rw [c1]; decide)).trans ?_
    split at h
    · cases h
    · rename_i c2
      refine (if_neg c2).trans ?_
      simp only at h
      split at h
      · rename_i c3
        cases h
        exact (if_pos c3).trans rfl
      · rename_i c3
        refine (if_neg c3).trans ?_
        split at h
        · rename_i c4
          cases h
          exact (if_pos c4).trans rfl
        · rename_i c4
          refine (if_neg c4).trans ?_
          split at h
          · cases h
          · rename_i c5
            cases h
            exact (if_neg c5).trans rfl
/-- stores from the right -/
theorem store_row (xo : XOk Φ k X C) {ca : List Addr} {G H : Hp} {pins : List (Addr × Obj)} : ∀ {xs : List Str} {is : List Nat} {ws : List W} {vs : List V} {us : List Value} {sl sl' : Sl} {σ : L2.St} {s : Shared} {Q : L2.St → Prop},
    stsOf C xs = some is → RWs X.K ca G vs ws → Vals vs us → setAll is ws sl = some sl' → L2.Inv X pins σ H s → SlOk X.K ca G σ sl → (∀ σ', SlOk X.K ca G σ' sl' → Q σ') →
    wpAny (model X.prog X.w) X.A (assignInOrder (xs.map fun n => bindName X.env n) us) (fun _ s' => ∃ σ', L2.Inv X pins σ' H s' ∧ Q σ') X.xe s
  | [], is, ws, vs, us, sl, sl', σ, s, Q, h, r, rv, e, I, hs, q => by
    cases h
    cases ws with
    | nil =>
      cases e
      exact assignInOrder_nil ⟨σ, I, q σ hs⟩
    | cons _ _ => cases e
  | x :: xs, is, ws, vs, us, sl, sl', σ, s, Q, h, r, rv, e, I, hs, q => by
    have h : (match stOf C x, stsOf C xs with
      | some i, some is => some (i :: is)
      | _, _ => none) = some is := h
    split at h
    · rename_i i is' h1 h2
      cases h
      cases r with
      | nil => cases e
      | @cons v w vs ws rw' rr =>
        cases rv with
        | @cons _ u _ us ru rru =>
          have e : setAll is' ws (sl.set i (some w)) = some sl' := e
          obtain ⟨q1, q2, q3⟩ := stOf_ok xo h1
          refine assignInOrder_cons (wpAny_bindName (store_ok I (by rw [xo.hN]; exact xo.nd) q1 q2 ru (fun s2 I2 => ?_) q3))
          exact store_row xo h2 rr rru e I2 (hs.set i rw') q
    · cases h
theorem sts_append {x : Str} {i : Nat} : ∀ {xs : List Str} {is : List Nat}, stsOf C xs = some is → stOf C x = some i → stsOf C (xs ++ [x]) = some (is ++ [i])
  | [], _, h, h2 => by
    cases h
    show (match stOf C x, some [] with
      | some i, some is => some (i :: is)
      | _, _ => none) = _
    rw [h2]
    rfl
  | y :: ys, is, h, h2 => by
    have h : (match stOf C y, stsOf C ys with
      | some i, some is => some (i :: is)
      | _, _ => none) = some is := h
    split at h
    · rename_i j js e1 e2
      cases h
      show (match stOf C y, stsOf C (ys ++ [x]) with
      | some i, some is => some (i :: is)
      | _, _ => none) = _
      rw [e1, sts_append e2 h2]
      rfl
    · cases h
theorem sts_reverse : ∀ {xs : List Str} {is : List Nat}, stsOf C xs = some is → stsOf C xs.reverse = some is.reverse
  | [], _, h => by cases h; rfl
  | y :: ys, is, h => by
    have h : (match stOf C y, stsOf C ys with
      | some i, some is => some (i :: is)
      | _, _ => none) = some is := h
    split at h
    · rename_i j js e1 e2
      cases h
      rw [List.reverse_cons, List.reverse_cons]
      exact sts_append (sts_reverse e2) e1
    · cases h
theorem RWs.append {K : PySem.W.Frag} {ca : List Addr} {G : Hp} : ∀ {vs vs' : List V} {ws ws' : List W}, RWs K ca G vs ws → RWs K ca G vs' ws' → RWs K ca G (vs ++ vs') (ws ++ ws')
  | _, _, _, _, .nil, b => b
  | _, _, _, _, .cons h a, b => .cons h (RWs.append a b)
theorem RWs.reverse {K : PySem.W.Frag} {ca : List Addr} {G : Hp} : ∀ {vs : List V} {ws : List W}, RWs K ca G vs ws → RWs K ca G vs.reverse ws.reverse
  | _, _, .nil => .nil
  | _, _, .cons h a => by
    rw [List.reverse_cons, List.reverse_cons]
    exact RWs.append (RWs.reverse a) (.cons h .nil)
theorem Vals.rev : ∀ {xs : List V} {us : List Value}, Vals xs us → Vals xs.reverse us.reverse
  | _, _, .nil => .nil
  | _, _, .cons r t => by
    rw [List.reverse_cons, List.reverse_cons]
    exact L2.Vals.append (Vals.rev t) (.cons r .nil)
theorem setAll_len : ∀ {is : List Nat} {ws : List W} {sl sl' : Sl}, setAll is ws sl = some sl' → ws.length = is.length
  | [], [], _, _, _ => rfl
  | [], _ :: _, _, _, h => by cases h
  | _ :: _, [], _, _, h => by cases h
  | i :: is, w :: ws, sl, sl', h => by
    have h : setAll is ws (sl.set i (some w)) = some sl' := h
    rw [List.length_cons, List.length_cons, setAll_len h]
theorem sts_len : ∀ {xs : List Str} {is : List Nat}, stsOf C xs = some is → xs.length = is.length
  | [], _, h => by cases h; rfl
  | y :: ys, is, h => by
    have h : (match stOf C y, stsOf C ys with
      | some i, some is => some (i :: is)
      | _, _ => none) = some is := h
    split at h
    · rename_i j js e1 e2
      cases h
      rw [List.length_cons, List.length_cons, sts_len e2]
    · cases h
def parM (is : List Nat) (fs : AM) : SM := fun sl st => (match fs sl st with
    | none => none
    | some (ws, st1) => okN (setAll is.reverse ws.reverse sl) st1)
theorem ss_par {ts vs : List Expr} {xs : List Str} {is : List Nat} {kk k2 : Nat} {tp pt2 : Pos} {fs : AM} (xo : XOk Φ k X C) (hx : stsOf C xs = some is) (hl : xs.length ≤ 3) (ha : PA X vs (tA X.K fs))
    (hw : swappedStores [.Tuple ts kk tp] (.Tuple vs k2 pt2) X.env = pure (some xs)) : PS X (.Assign [.Tuple ts kk tp] (.Tuple vs k2 pt2) pos) (tS X.K (parM is fs)) := by
  refine ⟨fun pins s σ H D I h => ?_⟩
  rw [exec_Assign_arm]
  refine wpAny_bind (wpAny_standAt ?_)
  have hs : swapsWithSole [.Tuple ts kk tp] (.Tuple vs k2 pt2) pos.line X.env = pure false := rfl
  rw [hs]
  refine wpAny_bind (wpAny_pure ?_)
  rw [if_neg (by decide)]
  obtain ⟨P, ca, G, sl, st, fl, sl', st', hm, hsl, e, q⟩ := h
  replace e : (match fs sl st with
    | none => none
    | some (ws, st1) => okN (setAll is.reverse ws.reverse sl) st1) = some (fl, sl', st') := e
  split at e
  · cases e
  · rename_i ws st1 e1
    unfold okN at e
    split at e
    · rename_i sl1 e2
      cases e
      refine wpAny_bind (Tuple_ (thn (ha.run _ pins s σ H (fun vs H1 => ∃ ca1 G1, Nxt ca G ca1 G1 ∧ HM X.K P ca1 G1 H1 st' ∧ RWs X.K ca1 G1 vs ws) I ⟨P, ca, G, sl, st, ws, st', hm, hsl, e1, fun vs ca1 G1 H1 n1 hm1 r1 => ⟨ca1, G1, n1, hm1, r1⟩⟩) fun us s1 ⟨vs1, H1, I1, rv, ca1, G1, n1, hm1, r1⟩ => ?_))
      have lw : ws.length = is.length := by
        have := setAll_len e2
        rw [List.length_reverse, List.length_reverse] at this
        exact this
      have lu : us.length = xs.length := by rw [← rv.length, r1.length, lw, sts_len hx]
      refine wpAny_newObj_type ?_ (by show us.toArray.size ≤ sizeLine; rw [List.size_toArray, lu]; exact Nat.le_trans hl (by decide))
      have I2 : L2.Inv X pins σ H1 { s1 with heap := s1.heap.push { cls := .type "tuple", data := .seq us.toArray } } := I1.kept (t' := s1.toks) fun b o e => Heap.get?_push_of_some _ e
      rw [hw]
      refine wpAny_bind (wpAny_pure ?_)
      show wpAny (model X.prog X.w) X.A (do rule "assign.swapped-stores"; let items ← unpackItems (.ref s1.heap.objs.size) xs.length none; assignInOrder (xs.reverse.map fun n => bindName X.env n) items.reverse; pure Flow.next) _ _ _
      have hsz : us.toArray.size = xs.length := by rw [List.size_toArray]; exact lu
      rw [← hsz]
      refine wpAny_bind (wpAny_rule (wpAny_bind (unpackItems_tuple (items := us.toArray) (I.ok.hd xo.calm) (IsTup.new s1.heap _) fun h' hx' => ?_)))
      have I3 := I2.kept (h' := h') (t' := s1.toks) fun b o e => hx' b o (Nat.ne_of_lt (Heap.lt_size e)) e
      refine wpAny_bind (thn (store_row xo (sts_reverse hx) r1.reverse (by simpa using Vals.rev rv) e2 I3 (hsl.mono n1) (Q := fun σ' => SlOk X.K ca1 G1 σ' sl') fun σ' h => h) fun _ s3 ⟨σ', I4, hs4⟩ => wpAny_pure ?_)
      exact ⟨σ', H1, I4, q σ' ca1 G1 H1 n1 hm1 hs4⟩
    · cases e
theorem HM.setcell {K : PySem.W.Frag} {P : Hp} {ca : List Addr} {G H : Hp} {st : Store} {j : Nat} {a : Addr} {ds es : List D} {ys : List V} (h : HM K P ca G H st) (ha : ca[j]? = some a) (hj : st[j]? = some (.lst false ds)) (r : Rps K G ys es) (hz : ys.length ≤ sizeLine) :
    HM K P ca G (upd H a (.lst ys)) (st.set j (.lst false es)) := by
  obtain ⟨xs, h1, h2, _, h3⟩ := h.cell j a _ ha hj
  have h3 : G a = none := h3
  have hP : P a = none := h.pdis a (List.mem_of_getElem? ha)
  refine ⟨fun b u e => by rw [upd_ne (fun z => by subst z; rw [h3] at e; cases e)]; exact h.sub _ _ e, by rw [List.length_set]; exact h.len, h.nd, fun i b c e1 e2 => ?_, fun b u e => by rw [upd_ne (fun z => by subst z; rw [hP] at e; cases e)]; exact h.prot _ _ e, h.pdis, h.pg⟩
  by_cases hi : j = i
  · subst hi
    rw [ha] at e1
    cases e1
    rw [List.getElem?_set_self (List.getElem?_eq_some_iff.mp hj).1] at e2
    cases e2
    exact ⟨ys, upd_same, r, hz, h3⟩
  · rw [List.getElem?_set_ne hi] at e2
    have hne : b ≠ a := fun z => by
      subst z
      obtain ⟨l1, e1'⟩ := List.getElem?_eq_some_iff.mp e1
      obtain ⟨l2, e2'⟩ := List.getElem?_eq_some_iff.mp ha
      exact hi ((List.getElem_inj h.nd).mp (e2'.trans e1'.symm))
    cases c with
    | lst fz ds' =>
      obtain ⟨zs, g1, g2, gz, g3⟩ := h.cell i b _ e1 e2
      exact ⟨zs, by rw [upd_ne hne]; exact g1, g2, gz, g3⟩
theorem ss_put {x : Str} {i : Nat} {px tp : Pos} (xo : XOk Φ k X C) (hi : slotOf C x = some i) (hk : PE X b (tE X.K fb)) (he : PE X e (tE X.K fa)) (ha : ∀ v, assign (.Subscript (.Name x px) b tp) X.env v = (do
      let ov ← holding [v] (eval (.Name x px) X.env)
      let iv ← holding [v, ov] (eval b X.env)
      standAt tp
      holding [v, ov, iv] (setItem ov iv v)
      release [v, ov, iv] [])) :
    PS X (.Assign [.Subscript (.Name x px) b tp] e pos) (tS X.K fun sl st => andD (fa sl st) fun x st1 => andD (fb sl st1) fun q st2 => putC i sl q x st2) := by
  obtain ⟨q1, q2, q3, q4⟩ := slotOf_ok xo hi
  have hs : swapsWithSole [.Subscript (.Name x px) b tp] e pos.line X.env = pure false := by cases e <;> rfl
  have hw : swappedStores [.Subscript (.Name x px) b tp] e X.env = pure none := by cases e <;> rfl
  refine (ps_asg he (pg_sub (pe_var q1 q2 q3 q4) hk set_list ha) hs hw rfl).weak fun D σ H ⟨P, ca, G, sl, st, fl, sl', st', hm, hs, e, q⟩ => ?_
  obtain ⟨x, st1, e1, e⟩ := andD_some e
  obtain ⟨y, st2, e2, e⟩ := andD_some e
  unfold putC at e
  split at e
  · rename_i j hj
    split at e
    · rename_i ds z hc
      split at e
      · rename_i n hn
        cases e
        refine ⟨P, ca, G, sl, st, _, _, hm, hs, e1, fun v1 ca1 G1 H1 n1 hm1 r1 => ?_⟩
        obtain ⟨v0, hv0, a, hca, rfl⟩ := (hs.mono n1).at_ i _ hj
        refine ⟨_, hv0, P, ca1, G1, sl, st1, _, _, hm1, hs.mono n1, e2, fun v2 ca2 G2 H2 n2 hm2 r2 => ?_⟩
        have hca2 := prefix_get n2.p hca
        obtain ⟨xs, h1, h2, hz⟩ := cell_read hm2 hca2 hc
        have r1' := Rp.mono n2.s r1
        refine ⟨a, xs, z, n, rfl, Rp.int_inv r2, h1, by rw [h2.length]; exact hn, ?_⟩
        exact q σ ca2 G2 _ (n1.trans n2) (hm2.setcell hca2 hc (Rps.set r1' n h2) (by rw [List.length_set]; exact hz)) (hs.mono (n1.trans n2))
      · cases e
    · cases e
  · cases e
theorem ss_app {x : Str} {i : Nat} {px apos cpos : Pos} (xo : XOk Φ k X C) (hi : slotOf C x = some i) (he : PE X e (tE X.K fa)) (hst : starEach [e] X.env = (false, eval e X.env) :: starEach [] X.env) (hline : (apos.endLine == cpos.line) = true) :
    PS X (.Expr (.Call (.Attribute (.Name x px) "append" apos) [e] [] cpos) pos) (tS X.K fun sl st => andD (fa sl st) fun x st1 => appC i sl x st1) := by
  obtain ⟨q1, q2, q3, q4⟩ := slotOf_ok xo hi
  have hfew : ((backTo cpos (starEach [e] X.env)).all (fun x => !x.1) && (backToKw cpos (keywordEach [] X.env)).all (fun x => x.1.isSome)
      && decide ([e].length + ([] : List Keyword).length + (if ([] : List Keyword).isEmpty then 0 else 1) < 30)) = true := by
    rw [hst]
    rfl
  refine (ps_expr (pe_bm PySem.F.plainAttrs_list PySem.F.slot_list_append PySem.F.type_list_append mt_append (pe_var q1 q2 q3 q4) (pa_cons he pa_nil hst) rfl hfew hline hst rfl)).weak fun D σ H ⟨P, ca, G, sl, st, fl, sl', st', hm, hs, e, q⟩ => ?_
  obtain ⟨x, st1, e1, e⟩ := andD_some e
  unfold appC at e
  split at e
  · rename_i j hj
    split at e
    · rename_i ds hc
      split at e
      · rename_i hz
        cases e
        obtain ⟨v0, hv0, a, hca, rfl⟩ := hs.at_ i _ hj
        have hlen : j < ca.length := (List.getElem?_eq_some_iff.mp hca).1
        have hjl : j < st.length := by rw [← hm.len]; exact hlen
        obtain ⟨ys, g1, _, _⟩ : ∃ ys, H a = some (.lst ys) ∧ True ∧ True := by
          have := hm.cell j a st[j] hca (List.getElem?_eq_getElem hjl)
          cases hcj : st[j] with
          | lst fz dd =>
            rw [hcj] at this
            obtain ⟨ys, g1, _⟩ := this
            exact ⟨ys, g1, trivial, trivial⟩
        refine ⟨.ref a, hv0, .inl ⟨rfl, ys, SqL.of g1⟩, P, ca, G, sl, st, _, _, hm, hs, e1, fun v1 ca1 G1 H1 n1 hm1 r1 => ?_⟩
        have hca1 := prefix_get n1.p hca
        obtain ⟨xs, h1, h2, hz'⟩ := cell_read hm1 hca1 hc
        refine ⟨a, xs, v1, rfl, rfl, h1, by rw [h2.length]; exact hz, ?_⟩
        exact q σ ca1 G1 _ n1 (hm1.setcell hca1 hc (Rps.append h2 (.cons r1 .nil)) (by rw [List.length_append, h2.length]; exact hz)) (hs.mono n1)
      · cases e
    · cases e
  · cases e
end
end WM
namespace WM
open PySem PySem.Spec PyProof.Rows L2
section
variable {Φ : Fn} {k : Nat} {X : Cx} {C : CE}
variable {e a b c : Expr} {fa fb fc : EM} {pos : Pos}
theorem ss_expr (he : PE X e (tE X.K fa)) (hs : swapsWith e none pos.line X.env = pure false) : PS X (.Expr e pos) (tS X.K fun sl st => andW (fa sl st) fun _ st1 => some (.nx, sl, st1)) :=
  (ps_expr he hs).weak fun D σ H ⟨P, ca, G, sl, st, fl, sl', st', hm, hs, e, q⟩ => by
    obtain ⟨w, st1, e1, e⟩ := andW_some e
    cases e
    exact ⟨P, ca, G, sl, st, w, _, hm, hs, e1, fun v ca1 G1 H1 n1 hm1 r1 => q σ ca1 G1 H1 n1 hm1 (hs.mono n1)⟩
theorem ss_ret (he : PE X e (tE X.K fa)) : PS X (.Return (some e) pos) (tS X.K fun sl st => andW (fa sl st) fun w st1 => some (.ret w, sl, st1)) :=
  (ps_ret he).weak fun D σ H ⟨P, ca, G, sl, st, fl, sl', st', hm, hs, e, q⟩ => by
    obtain ⟨w, st1, e1, e⟩ := andW_some e
    cases e
    exact ⟨P, ca, G, sl, st, w, _, hm, hs, e1, fun v ca1 G1 H1 n1 hm1 r1 => q v ca1 G1 H1 n1 hm1 r1⟩
theorem ss_retN : PS X (.Return none pos) (tS X.K fun sl st => some (.ret (.d .none), sl, st)) :=
  ps_retN.weak fun D σ H ⟨P, ca, G, sl, st, fl, sl', st', hm, hs, e, q⟩ => by
    cases e
    exact q _ ca G H Nxt.refl hm .non
theorem ss_pass : PS X (.Pass pos) (tS X.K fun sl st => some (.nx, sl, st)) :=
  ps_pass.weak fun D σ H ⟨P, ca, G, sl, st, fl, sl', st', hm, hs, e, q⟩ => by
    cases e
    exact q σ ca G H Nxt.refl hm hs
theorem ss_break : PS X (.Break pos) (tS X.K fun sl st => some (.bk, sl, st)) :=
  ps_break.weak fun D σ H ⟨P, ca, G, sl, st, fl, sl', st', hm, hs, e, q⟩ => by
    cases e
    exact q σ ca G H Nxt.refl hm hs
theorem ss_continue : PS X (.Continue pos) (tS X.K fun sl st => some (.ct, sl, st)) :=
  ps_continue.weak fun D σ H ⟨P, ca, G, sl, st, fl, sl', st', hm, hs, e, q⟩ => by
    cases e
    exact q σ ca G H Nxt.refl hm hs
theorem ss_never {s : Stmt} : PS X s (tS X.K fun _ _ => none) :=
  ps_never.weak fun D σ H ⟨P, ca, G, sl, st, fl, sl', st', hm, hs, e, q⟩ => by cases e
def iteSM (fc : EM) (ga gb : SM) : SM := fun sl st => andW (fc sl st) fun w st1 => (match truW w with
    | none => none
    | some true => ga sl st1
    | some false => gb sl st1)
theorem ss_ite {as bs : List Stmt} {ga gb : SM} (hc : PT X c (tT X.K fc)) (ha : PSs X as (tS X.K ga)) (hb : PSs X bs (tS X.K gb)) : PS X (.If c as bs pos) (tS X.K (iteSM fc ga gb)) :=
  (ps_if hc ha hb).weak fun D σ H ⟨P, ca, G, sl, st, fl, sl', st', hm, hs, e, q⟩ => by
    obtain ⟨w, st1, e1, e⟩ := andW_some e
    split at e
    · cases e
    · rename_i et
      exact ⟨P, ca, G, sl, st, w, st1, true, hm, hs, e1, et, fun ca1 G1 H1 n1 hm1 => iteT ⟨P, ca1, G1, sl, st1, fl, sl', st', hm1, hs.mono n1, e, q.mono n1⟩⟩
    · rename_i et
      exact ⟨P, ca, G, sl, st, w, st1, false, hm, hs, e1, et, fun ca1 G1 H1 n1 hm1 => iteF ⟨P, ca1, G1, sl, st1, fl, sl', st', hm1, hs.mono n1, e, q.mono n1⟩⟩
def seqM (g h : SM) : SM := fun sl st => (match g sl st with
    | none => none
    | some (.nx, sl1, st1) => h sl1 st1
    | some r => some r)
theorem sss_nil : PSs X [] (tS X.K fun sl st => some (.nx, sl, st)) :=
  pss_nil.weak fun D σ H ⟨P, ca, G, sl, st, fl, sl', st', hm, hs, e, q⟩ => by
    cases e
    exact q σ ca G H Nxt.refl hm hs
theorem sss_cons {s : Stmt} {ss : List Stmt} {g h : SM} (h1 : PS X s (tS X.K g)) (h2 : PSs X ss (tS X.K h)) : PSs X (s :: ss) (tS X.K (seqM g h)) :=
  (pss_cons h1 h2).weak fun D σ H ⟨P, ca, G, sl, st, fl, sl', st', hm, hs, e, q⟩ => by
    unfold seqM at e
    split at e
    · cases e
    · rename_i sl1 st1 e1
      exact ⟨P, ca, G, sl, st, .nx, sl1, st1, hm, hs, e1, fun σ' ca' G' H' n' hm' hs' => ⟨P, ca', G', sl1, st1, fl, sl', st', hm', hs', e, q.mono n'⟩⟩
    · rename_i r hr e1
      cases e
      refine ⟨P, ca, G, sl, st, fl, sl', st', hm, hs, e1, ?_⟩
      cases fl with
      | nx => exact absurd rfl (hr _ _)
      | bk => exact q
      | ct => exact q
      | ret w => exact q
theorem ss_for {tg iter : Expr} {body : List Stmt} {t : Tg} {fi : DM} {gb : SM} (xo : XOk Φ k X C) (hi : PI X tg iter (tI X.K fi)) (hg : PG X tg (tG X.K (stTg t) (tgSlots t))) (hb : PSs X body (tS X.K gb)) (hs : ∀ x, foldedSetIterable iter X.env x = pure x) :
    PS X (.For tg iter body [] pos) (tS X.K fun sl st => (match fi sl st with
    | none => none
    | some (ds, st1) => forK (stTg t) gb ds sl st1)) := by
  refine (ps_for xo.pass xo.calm hi hg hb hs).weak fun D σ H ⟨P, ca, G, sl, st, fl, sl', st', hm, hs, e, q⟩ => ?_
  replace e : (match fi sl st with
    | none => none
    | some (ds, st1) => forK (stTg t) gb ds sl st1) = some (fl, sl', st') := e
  split at e
  · cases e
  · rename_i ds st1 e1
    rw [forK_eq] at e
    refine ⟨P, ca, G, sl, st, ds, st1, hm, hs, e1, fun J ca1 G1 H1 n1 hm1 jo => ?_⟩
    refine ⟨fun i m σ' H' => i + m = ds.length ∧ ∃ ca' G' sl2 st2, Nxt ca1 G1 ca' G' ∧ HM X.K P ca' G' H' st2 ∧ SlOk X.K ca' G' σ' sl2 ∧ forL (stTg t) gb (ds.drop i) sl2 st2 = some (fl, sl', st'),
      ⟨ds.length, by omega, ca1, G1, sl, st1, Nxt.refl, hm1, hs.mono n1, by rw [List.drop_zero]; exact e⟩, ?_⟩
    rintro i m σ' H' ⟨him, ca', G', sl2, st2, n', hm', hs', ef⟩
    obtain ⟨jg, js⟩ := jo i P ca' G' H' st2 n'.s hm'
    by_cases hi : i < ds.length
    · have hd : ds[i]? = some ds[i] := List.getElem?_eq_getElem hi
      obtain ⟨g1, g2⟩ := jg _ hd
      rw [List.drop_eq_getElem_cons hi] at ef
      unfold forL at ef
      split at ef
      · cases ef
      · rename_i sl3 e3
        refine .inr ⟨g1, fun σ'' H'' => ∃ ca2 G2 sl4 st4, Nxt ca1 G1 ca2 G2 ∧ HM X.K P ca2 G2 H'' st4 ∧ SlOk X.K ca2 G2 σ'' sl4 ∧ forL (stTg t) gb (ds.drop (i + 1)) sl4 st4 = some (fl, sl', st'), fun σ'' H'' hN => ⟨m - 1, by omega, by omega, hN⟩, fun x Hy y => ?_⟩
        obtain ⟨Gy, ex, rx⟩ := g2 x Hy y
        have hmy := hm'.ext ex
        have ny := n'.trans (Nxt.of (ca := ca') ex.g)
        refine ⟨P, ca', Gy, sl2, st2, ds[i], sl3, hmy, hs'.mono (Nxt.of ex.g), rx, e3, fun σ2 hs2 _ _ => ?_⟩
        split at ef
        · cases ef
        · rename_i sl4 st4 e4
          exact ⟨P, ca', Gy, sl3, st2, .nx, sl4, st4, hmy, hs2, e4, fun σ3 ca3 G3 H3 n3 hm3 hs3 => ⟨ca3, G3, sl4, st4, ny.trans n3, hm3, hs3, ef⟩⟩
        · rename_i sl4 st4 e4
          exact ⟨P, ca', Gy, sl3, st2, .ct, sl4, st4, hmy, hs2, e4, fun σ3 ca3 G3 H3 n3 hm3 hs3 => ⟨ca3, G3, sl4, st4, ny.trans n3, hm3, hs3, ef⟩⟩
        · rename_i sl4 st4 e4
          cases ef
          exact ⟨P, ca', Gy, sl3, st2, .bk, sl', st', hmy, hs2, e4, fun σ3 ca3 G3 H3 n3 hm3 hs3 => q σ3 ca3 G3 H3 ((n1.trans ny).trans n3) hm3 hs3⟩
        · rename_i w sl4 st4 e4
          cases ef
          exact ⟨P, ca', Gy, sl3, st2, .ret w, sl', st', hmy, hs2, e4, fun v ca3 G3 H3 n3 hm3 r3 => q v ca3 G3 H3 ((n1.trans ny).trans n3) hm3 r3⟩
    · have ei : i = ds.length := by omega
      have ed : ds.drop i = [] := List.drop_of_length_le (by omega)
      rw [ed] at ef
      cases ef
      exact .inl ⟨js (by omega), q σ' ca' G' H' (n1.trans n') hm' hs'⟩
theorem whlW_some {c : EM} {b : SM} {sl : Sl} {st : Store} {r : Fl × Sl × Store} (h : whlW c b sl st = some r) : ∃ n, whlN c b n sl st = some r := by
  unfold whlW at h
  split at h
  · rename_i e
    cases h
    exact ⟨_, e⟩
  · split at h
    · rename_i hx
      have e := Option.some.inj h
      have p := hx.choose_spec.choose_spec
      rw [e] at p
      exact ⟨_, p⟩
    · cases h
theorem ss_whl {body : List Stmt} {gb : SM} (xo : XOk Φ k X C) (hc : PT X c (tT X.K fc)) (hb : PSs X body (tS X.K gb)) : PS X (.While c body [] pos) (tS X.K fun sl st => whlK fc gb sl st) := by
  refine (ps_while xo.pass hc hb).weak fun D σ H ⟨P, ca, G, sl, st, fl, sl', st', hm, hs, e, q⟩ => ?_
  replace e : whlK fc gb sl st = some (fl, sl', st') := e
  rw [whlK_eq] at e
  obtain ⟨n, en⟩ := whlW_some e
  refine ⟨fun m σ' H' => ∃ ca' G' sl2 st2, Nxt ca G ca' G' ∧ HM X.K P ca' G' H' st2 ∧ SlOk X.K ca' G' σ' sl2 ∧ whlN fc gb m sl2 st2 = some (fl, sl', st'), ⟨n, ca, G, sl, st, Nxt.refl, hm, hs, en⟩, ?_⟩
  rintro m σ' H' ⟨ca', G', sl2, st2, n', hm', hs', ew⟩
  cases m with
  | zero => cases ew
  | succ m =>
    obtain ⟨w, st3, e3, ew⟩ := andW_some ew
    split at ew
    · cases ew
    · rename_i et
      cases ew
      exact ⟨P, ca', G', _, st2, w, _, false, hm', hs', e3, et, fun ca3 G3 H3 n3 hm3 => iteF (q σ' ca3 G3 H3 (n'.trans n3) hm3 (hs'.mono n3))⟩
    · rename_i et
      refine ⟨P, ca', G', sl2, st2, w, st3, true, hm', hs', e3, et, fun ca3 G3 H3 n3 hm3 => iteT ?_⟩
      refine ⟨fun σ'' H'' => ∃ ca2 G2 sl4 st4, Nxt ca G ca2 G2 ∧ HM X.K P ca2 G2 H'' st4 ∧ SlOk X.K ca2 G2 σ'' sl4 ∧ whlN fc gb m sl4 st4 = some (fl, sl', st'), fun σ'' H'' hN => ⟨m, Nat.lt_succ_self _, hN⟩, ?_⟩
      have n13 := n'.trans n3
      split at ew
      · cases ew
      · rename_i sl4 st4 e4
        exact ⟨P, ca3, G3, sl2, st3, .nx, sl4, st4, hm3, hs'.mono n3, e4, fun σ3 ca4 G4 H4 n4 hm4 hs4 => ⟨ca4, G4, sl4, st4, n13.trans n4, hm4, hs4, ew⟩⟩
      · rename_i sl4 st4 e4
        exact ⟨P, ca3, G3, sl2, st3, .ct, sl4, st4, hm3, hs'.mono n3, e4, fun σ3 ca4 G4 H4 n4 hm4 hs4 => ⟨ca4, G4, sl4, st4, n13.trans n4, hm4, hs4, ew⟩⟩
      · rename_i sl4 st4 e4
        cases ew
        exact ⟨P, ca3, G3, sl2, st3, .bk, sl', st', hm3, hs'.mono n3, e4, fun σ3 ca4 G4 H4 n4 hm4 hs4 => q σ3 ca4 G4 H4 (n13.trans n4) hm4 hs4⟩
      · rename_i w2 sl4 st4 e4
        cases ew
        exact ⟨P, ca3, G3, sl2, st3, .ret w2, sl', st', hm3, hs'.mono n3, e4, fun v ca4 G4 H4 n4 hm4 r4 => q v ca4 G4 H4 (n13.trans n4) hm4 r4⟩
theorem swaps_plain {x : Str} {px : Pos} {l : Nat} (h : isLC e = false) : swapsWith e (some (.Name x px)) l X.env = pure false := by
  cases e <;> first | rfl | cases h
theorem hit_of {n : Nat} {tg iter : Expr} {it : I} (h1 : cmpI n C tg iter = some it) : ∀ x, foldedSetIterable iter X.env x = pure x := by
  intro x
  cases n with
  | zero => cases h1
  | succ n =>
    cases iter <;> first | rfl | (exfalso; unfold cmpI at h1; simp only at h1; cases n <;> simp [cmpE] at h1)
theorem noLC {n : Nat} {e' : E} (h : cmpE n C e = some e') : isLC e = false ∨ ∃ elt tg iter ifs scope p, e = .ListComp elt [⟨tg, iter, ifs, 0⟩] scope p := by
  cases n with
  | zero => cases h
  | succ n =>
    cases e with
    | ListComp elt gs scope p =>
      unfold cmpE at h
      split at h <;> first | (rename_i heq; cases heq; done) | skip
      all_goals first | (rename_i heq; cases heq; exact .inr ⟨_, _, _, _, _, _, rfl⟩) | cases h
    | SetComp elt gs scope p => simp [cmpE] at h
    | DictComp a b gs scope p => simp [cmpE] at h
    | _ => exact .inl rfl
structure SndS (Φ : Fn) (k n : Nat) : Prop where
  s : ∀ X C, XOk Φ k X C → ∀ e e', cmpS n C e = some e' → PS X e (tS X.K (runS Φ e'))
  ss : ∀ X C, XOk Φ k X C → ∀ e e', cmpSs n C e = some e' → PSs X e (tS X.K (runSs Φ e'))
end
end WM
namespace WM
open PySem PySem.Spec PyProof.Rows L2
section
variable {Φ : Fn} {k : Nat} {X : Cx} {C : CE}
variable {e a b c : Expr} {fa fb fc : EM} {pos : Pos}
theorem hit_of' {n : Nat} {tg iter : Expr} {it : I} (h1 : cmpI n C tg iter = some it) : ∀ x, foldedSetIterable iter X.env x = pure x := hit_of h1
/-- name = [..], the list laid into the name itself -/
theorem ss_lc {n : Nat} {x : Str} {i : Nat} {px lp : Pos} {elt tg iter : Expr} {ifs : List Expr} {scope : Scope} {e' : E} (xo : XOk Φ k X C) (hi : stOf C x = some i) (hl : X.env.scope.names.lookup x = some .local)
    (hsw : swapsWith (.ListComp elt [⟨tg, iter, ifs, 0⟩] scope lp) (some (.Name x px)) pos.line X.env = pure true) (h : cmpE n C (.ListComp elt [⟨tg, iter, ifs, 0⟩] scope lp) = some e') :
    PS X (.Assign [.Name x px] (.ListComp elt [⟨tg, iter, ifs, 0⟩] scope lp) pos) (tS X.K (setM i (runE Φ e'))) := by
  cases n with
  | zero => cases h
  | succ n =>
    obtain ⟨q1, q2, q3⟩ := stOf_ok xo hi
    have ih : SndE Φ k n := snd_e n
    unfold cmpE at h
    simp only at h
    split at h
    · rename_i it t c e1 h1 h2 h3 h4
      split at h
      · rename_i hk
        cases h
        rw [Bool.and_eq_true] at hk
        have ok : BlkOk X.N X.env.scope scope (ownOf C scope) := by
          rw [xo.hN, xo.hsc]
          exact blkOk_by hk.1
        have hown := of_decide_eq_true hk.2
        refine (ps_setLc xo.calm (by rw [xo.hN]; exact xo.nd) q1 hl hsw (ih.i X C xo _ _ _ h1) ok (fun s H Ca cl fp => ?_) (fun s H Ca cl fp => ?_) (fun s H Ca cl fp => ?_) (hit_of h1)).weak fun D σ H hh => tc_comp (wi := runI Φ it) (fc := runC Φ c) (fe := runE Φ e1) hown (tN_of (fun _ _ _ _ q => compM_list q) (ts_set hh))
        · exact (snd_t (blkE_ok xo ok s H Ca cl fp) n).1 _ _ h2
        · exact ih.c _ _ (blkE_ok xo ok s H Ca cl fp) _ _ h3
        · exact ih.e _ _ (blkE_ok xo ok s H Ca cl fp) _ _ h4
      · cases h
    · cases h
theorem swaps_lc {elt : Expr} {gs : List Comprehension} {scope : Scope} {lp px : Pos} {x : Str} {l : Nat} :
    swapsWith (.ListComp elt gs scope lp) (some (.Name x px)) l X.env = pure false ∨ (swapsWith (.ListComp elt gs scope lp) (some (.Name x px)) l X.env = pure true ∧ X.env.scope.names.lookup x = some .local) := by
  cases hb : (X.env.blockKind == .function && X.env.kindOf x == some .local && px.line == (Expr.ListComp elt gs scope lp).pos.line && !(scope.names.any fun (n, k) => n == x && (k == .local || k == .cell))) with
  | false => exact .inl (congrArg pure hb)
  | true =>
    refine .inr ⟨congrArg pure hb, ?_⟩
    rw [Bool.and_eq_true, Bool.and_eq_true, Bool.and_eq_true] at hb
    exact eq_of_beq hb.1.1.2
theorem cmpE_call_swap {f : Expr} {as : List Expr} {p : Pos} {o : Option Expr} {l : Nat} : swapsWith (.Call f as [] p) o l X.env = pure false := rfl
theorem cmpN_ok {n : Nat} {e' : E} (xo : XOk Φ k X C) (h : cmpN n C e = some e') : PE X e (tN X.K (runE Φ e')) ∧ isLC e = false := by
  cases n with
  | zero => cases h
  | succ n =>
    have ih : SndE Φ k n := snd_e n
    unfold cmpN at h
    simp only at h
    split at h
    · rename_i es p
      cases e1 : cmpEs n C es with
      | none => rw [e1] at h; cases h
      | some es' =>
        rw [e1] at h
        cases h
        exact ⟨sn_lst (ih.es X C xo _ _ e1), rfl⟩
    · split at h
      · rename_i es' b' h1 h2
        cases h
        exact ⟨sn_rep (ih.es X C xo _ _ h1) (ih.e X C xo _ _ h2), rfl⟩
      · cases h
    · split at h
      · rename_i a' es' h1 h2
        cases h
        exact ⟨sn_cat (ih.e X C xo _ _ h1) (ih.es X C xo _ _ h2), rfl⟩
      · cases h
    · split at h
      · rename_i a' l' h' h1 h2 h3
        cases h
        exact ⟨sn_sl (ih.e X C xo _ _ h1) (ih.o X C xo _ _ h2) (ih.o X C xo _ _ h3), rfl⟩
      · cases h
    · split at h
      · rename_i i kk hg
        split at h
        · rename_i es' h1
          split at h
          · rename_i hl
            cases h
            cases n with
            | zero => cases h1
            | succ m =>
              have h1' := h1
              unfold cmpRs at h1
              simp only at h1
              split at h1
              · rename_i a1 b1 q1 q2
                cases h1
                exact ⟨sn_call xo hg (ih.rs X C xo _ _ h1') hl (fun sl st ws st' e => (runEs_len e h1').trans hl) (star_ofR q1) (plain_rs q2), rfl⟩
              · cases h1
          · cases h
        · cases h
      · rename_i hg
        split at h
        · rename_i as'
          cases e1 : cmpE n C _ with
          | none => rw [e1] at h; cases h
          | some a' =>
            rw [e1] at h
            cases h
            exact ⟨sn_list xo hg (ih.e X C xo _ _ e1) (star_of e1), rfl⟩
        · cases h
      · cases h
    · cases h
theorem se_new (he : PE X e (tN X.K fa)) : PE X e (tE X.K fun sl st => newE (fa sl st)) :=
  he.weak fun σ H Q ⟨P, ca, G, sl, st, w, st', hm, hs, e, q⟩ => by
    replace e : newE (fa sl st) = some (w, st') := e
    unfold newE at e
    split at e
    · rename_i ds st1 e1
      cases e
      refine ⟨P, ca, G, sl, st, _, st1, hm, hs, e1, fun p xs ds' ca1 G1 H1 n1 ew hm1 hH hG hc hP r hz => ?_⟩
      cases ew
      have hm2 := hm1.newcell hH hG hc hP r hz
      have n2 : Nxt ca G (ca1 ++ [p]) G1 := ⟨n1.s, n1.p.trans (List.prefix_append _ _)⟩
      refine q _ (ca1 ++ [p]) G1 H1 n2 hm2 ⟨p, ?_, rfl⟩
      rw [← hm1.len, List.getElem?_append_right (Nat.le_refl _), Nat.sub_self] <;> rfl
    · cases e
theorem cmpN_noStar {n : Nat} {e x : Expr} {p : Pos} {e' : E} (h : cmpN n C e = some e') (z : e = .Starred x p) : False := by
  subst z
  cases n with
  | zero => cases h
  | succ n => simp [cmpN] at h
theorem cmpPs_ok : ∀ {n : Nat} {xs : List Str} {es : List Expr} {es' : Es}, XOk Φ k X C → cmpPs n C xs es = some es' → PA X es (tA X.K (runEs Φ es'))
  | 0, _, _, _, _, h => by cases h
  | n + 1, [], [], _, xo, h => by
    cases h
    exact sa_nil
  | n + 1, [], _ :: _, _, _, h => by cases h
  | n + 1, _ :: _, [], _, _, h => by cases h
  | n + 1, x :: xs, e :: es, es', xo, h => by
    unfold cmpPs at h
    simp only at h
    split at h
    · rename_i a b h1 h2
      cases h
      split at h1
      · cases e1 : cmpN n C e with
        | none => rw [e1] at h1; cases h1
        | some a' =>
          rw [e1] at h1
          cases h1
          exact sa_cons (se_new (cmpN_ok xo e1).1) (cmpPs_ok xo h2) (star_ne fun x p z => cmpN_noStar e1 z)
      · exact sa_cons ((snd_e n).e X C xo _ _ h1) (cmpPs_ok xo h2) (star_of h1)
    · cases h
end
end WM
namespace WM
open PySem PySem.Spec PyProof.Rows L2
section
variable {Φ : Fn} {k : Nat} {X : Cx} {C : CE}
variable {e a b c : Expr} {fa fb fc : EM} {pos : Pos}
theorem snd_s0 : SndS Φ k 0 where
  s := fun X C xo e e' h => by cases h
  ss := fun X C xo e e' h => by cases h
theorem put_plain {n : Nat} {x : Str} {px tp : Pos} {k' : E} (h : cmpE n C b = some k') (v : Value) : assign (.Subscript (.Name x px) b tp) X.env v = (do
      let ov ← holding [v] (eval (.Name x px) X.env)
      let iv ← holding [v, ov] (eval b X.env)
      standAt tp
      holding [v, ov, iv] (setItem ov iv v)
      release [v, ov, iv] []) := by
  rw [assign]
  cases n with
  | zero => cases h
  | succ n =>
    cases b <;> first | rfl | (simp [cmpE] at h; done)
theorem swapB_len {ts vs : List Expr} {xs : List Str} (h : swapB C ts vs = some (some xs)) : xs.length ≤ 3 := by
  unfold swapB at h
  split at h
  · cases h
  · rename_i c1
    split at h
    · cases h
    · simp only at h
      split at h
      · cases h
      · rename_i c3
        split at h
        · cases h
        · split at h
          · cases h
          · cases h
            simp only [Bool.or_eq_true, not_or, bne_iff_ne, ne_eq, Decidable.not_not] at c3
            simp only [Bool.or_eq_true, not_or, Bool.not_eq_true', Bool.not_eq_false, beq_iff_eq] at c1
            rw [c3.1]
            have := c1.1
            omega
theorem snd_asg {n : Nat} {x : Str} {px : Pos} {s' : S} (xo : XOk Φ k X C) (h : (if decide (x ∈ C.cells) then (match stOf C x, cmpN n C e with
        | some i, some e' => some (S.setC i e')
        | _, _ => none)
      else (match stOf C x, cmpE n C e with
        | some i, some e' => some (S.set i e')
        | _, _ => none)) = some s') : PS X (.Assign [.Name x px] e pos) (tS X.K (runS Φ s')) := by
  split at h
  · split at h
    · rename_i i e' h1 h2
      cases h
      obtain ⟨q, ql⟩ := cmpN_ok xo h2
      exact ss_setC xo h1 q (swaps_plain ql)
    · cases h
  · split at h
    · rename_i i e' h1 h2
      cases h
      rcases noLC h2 with q | ⟨elt, tg, iter, ifs, scope, p, rfl⟩
      · exact ss_set xo h1 ((snd_e n).e X C xo _ _ h2) (swaps_plain q)
      · rcases swaps_lc (X := X) (elt := elt) (gs := [⟨tg, iter, ifs, 0⟩]) (scope := scope) (lp := p) (px := px) (x := x) (l := pos.line) with q | ⟨q, ql⟩
        · exact ss_set xo h1 ((snd_e n).e X C xo _ _ h2) q
        · exact ss_lc xo h1 ql q h2
    · cases h
theorem snd_unp {n : Nat} {ts : List Expr} {kk : Nat} {tp : Pos} {tg : Tgs} {e' : E} (xo : XOk Φ k X C) (h1 : cmpTs n C ts = some tg) (h2 : cmpE n C e = some e') (hw : swappedStores [.Tuple ts kk tp] e X.env = pure none) :
    PS X (.Assign [.Tuple ts kk tp] e pos) (tS X.K (runS Φ (.unp tg e'))) := by
  refine ss_unp ?_ ((snd_e n).e X C xo _ _ h2) hw
  refine (snd_t xo (n + 1)).1 _ (.t tg) ?_
  unfold cmpT
  simp only
  rw [h1]
  rfl
theorem snd_ss {n : Nat} (ih : SndS Φ k n) : SndS Φ k (n + 1) where
  s := fun X C xo s s' h => by
    have ie : SndE Φ k n := snd_e n
    unfold cmpS at h
    simp only at h
    split at h
    · exact snd_asg xo h
    · split at h
      · split at h
        · rename_i hs
          split at h
          · rename_i h1 h2
            cases h
            exact ss_par xo h1 (swapB_len hs) (cmpPs_ok xo h2) (swap_ok xo hs)
          · cases h
        · rename_i hs
          split at h
          · rename_i h1 h2
            cases h
            exact snd_unp xo h1 h2 (swap_ok xo hs)
          · cases h
        · cases h
      · rename_i hne
        split at h
        · rename_i h1 h2
          split at h
          · cases h
          · cases h
            exact snd_unp xo h1 h2 (swap_other fun vs j p z => hne _ _ _ z)
        · cases h
    · split at h
      · rename_i h1 h2 h3
        split at h
        · cases h
        · cases h
          exact ss_put xo h1 (ie.e X C xo _ _ h2) (ie.e X C xo _ _ h3) (put_plain h2)
      · cases h
    · split at h
      · rename_i h1 h2
        split at h
        · rename_i hk
          cases h
          rw [Bool.and_eq_true] at hk
          have ha := of_decide_eq_true hk.1
          subst ha
          exact ss_app xo h1 (ie.e X C xo _ _ h2) (star_of h2) hk.2
        · cases h
      · cases h
    · rename_i f as p pos _
      cases e1 : cmpE n C (.Call f as [] p) with
      | none => rw [e1] at h; cases h
      | some e' =>
        rw [e1] at h
        cases h
        exact ss_expr (ie.e X C xo _ _ e1) rfl
    · split at h
      · rename_i h1 h2 h3
        cases h
        exact ss_ite (ie.t X C xo _ _ h1) (ih.ss X C xo _ _ h2) (ih.ss X C xo _ _ h3)
      · cases h
    · split at h
      · rename_i h1 h2 h3
        cases h
        exact ss_for xo (ie.i X C xo _ _ _ h1) ((snd_t xo n).1 _ _ h2) (ih.ss X C xo _ _ h3) (hit_of h1)
      · cases h
    · split at h
      · rename_i h1 h2
        cases h
        exact ss_whl xo (ie.t X C xo _ _ h1) (ih.ss X C xo _ _ h2)
      · cases h
    · rename_i e pos
      cases e1 : cmpR n C e with
      | none => rw [e1] at h; cases h
      | some e' =>
        rw [e1] at h
        cases h
        exact ss_ret (ie.r X C xo _ _ e1)
    · cases h; exact ss_retN
    · cases h; exact ss_never
    · cases h; exact ss_pass
    · cases h; exact ss_break
    · cases h; exact ss_continue
    · cases h
  ss := fun X C xo ss s' h => by
    unfold cmpSs at h
    cases ss with
    | nil => cases h; exact sss_nil
    | cons s ss =>
      simp only at h
      split at h
      · rename_i h1 h2
        cases h
        exact sss_cons (ih.s X C xo _ _ h1) (ih.ss X C xo _ _ h2)
      · cases h
theorem snd_s : ∀ n : Nat, SndS Φ k n
  | 0 => snd_s0
  | n + 1 => snd_ss (snd_s n)
end
end WM
namespace WM
open PySem PySem.Spec PyProof.Rows L2
theorem RWs.slotsOk {K : PySem.W.Frag} {ca : List Addr} {G : Hp} {vs : List V} {ws : List W} (r : RWs K ca G vs ws) (N : List Str) : SlOk K ca G (L2.start N vs) (slots N.length ws) := by
  refine ⟨?_, fun i w e => ?_⟩
  · unfold L2.start slots
    rw [List.length_append, List.length_append, List.length_map, List.length_map, List.length_replicate, List.length_replicate, r.length]
  · unfold slots at e
    by_cases hi : i < ws.length
    · rw [List.getElem?_append_left (by simpa using hi), List.getElem?_map] at e
      cases e1 : ws[i]? with
      | none => rw [e1] at e; cases e
      | some w' =>
        rw [e1] at e
        cases e
        obtain ⟨v, h1, h2⟩ := r.get e1
        refine ⟨v, ?_, h2⟩
        unfold L2.start
        rw [List.getElem?_append_left (by rw [List.length_map, r.length]; exact hi), List.getElem?_map, h1]
        rfl
    · rw [List.getElem?_append_right (by simpa using hi), List.getElem?_replicate] at e
      split at e <;> cases e
theorem HM.back {K : PySem.W.Frag} {P : Hp} {ca ca' : List Addr} {G' H' : Hp} {st' : Store} (h : HM K P ca' G' H' st') (p : ca <+: ca') : HM K P ca G' H' (st'.take ca.length) := by
  obtain ⟨t, rfl⟩ := p
  have hl := h.len
  rw [List.length_append] at hl
  refine ⟨h.sub, by rw [List.length_take]; omega, (List.nodup_append.mp h.nd).1, fun i a c e1 e2 => ?_, h.prot, fun a ha => h.pdis a (List.mem_append_left _ ha), h.pg⟩
  have hi : i < ca.length := (List.getElem?_eq_some_iff.mp e1).1
  rw [List.getElem?_take_of_lt hi] at e2
  exact h.cell i a c (by rw [List.getElem?_append_left hi]; exact e1) e2
/-- a callee's cell, handed back as data -/
theorem HM.give {K : PySem.W.Frag} {P : Hp} {ca ca' : List Addr} {G' H' : Hp} {st' : Store} {j : Nat} {a : Addr} {fz : Bool} {ds : List D} (h : HM K P ca' G' H' st') (p : ca <+: ca') (hj : ca.length ≤ j) (ha : ca'[j]? = some a) (hc : st'[j]? = some (.lst fz ds)) :
    ∃ G2, Same G' G2 ∧ HM K P ca G2 H' (st'.take ca.length) ∧ Rp K G2 (.ref a) (.list ds) := by
  obtain ⟨xs, h1, h2, hz, h3⟩ := h.cell j a _ ha hc
  have hb := h.back p
  cases fz with
  | true =>
    have h3 : G' a = some (.lst xs) := h3
    exact ⟨G', Same.refl _, hb, .lst h3 h2⟩
  | false =>
    have h3 : G' a = none := h3
    have hna : a ∉ ca := fun z => by
      obtain ⟨i, hi, e⟩ := List.mem_iff_getElem.mp z
      have e1 : ca'[i]? = some a := prefix_get p (by rw [List.getElem?_eq_getElem hi, e])
      obtain ⟨l1, e1'⟩ := List.getElem?_eq_some_iff.mp e1
      obtain ⟨l2, e2'⟩ := List.getElem?_eq_some_iff.mp ha
      have := (List.getElem_inj h.nd).mp (e1'.trans e2'.symm)
      omega
    have sm : Same G' (upd G' a (.lst xs)) := same_upd h3
    refine ⟨upd G' a (.lst xs), sm, ⟨fun b u e => ?_, hb.len, hb.nd, fun i b c e1 e2 => ?_, hb.prot, hb.pdis, fun b u e => ?_⟩, .lst upd_same (Rps.mono sm h2)⟩
    · by_cases q : b = a
      · subst q
        rw [upd_same] at e
        cases e
        exact h1
      · rw [upd_ne q] at e
        exact hb.sub _ _ e
    · have hne : b ≠ a := fun z => hna (z ▸ List.mem_of_getElem? e1)
      have q := hb.cell i b c e1 e2
      cases c with
      | lst f2 ds2 =>
        obtain ⟨ys, q1, q2, q3, q4⟩ := q
        refine ⟨ys, q1, Rps.mono sm q2, q3, ?_⟩
        cases f2 <;> (show upd G' a (.lst xs) b = _; rw [upd_ne hne]; exact q4)
    · have hne : b ≠ a := fun z => by
        subst z
        rw [h.pdis b (List.mem_of_getElem? ha)] at e
        cases e
      rw [upd_ne hne]
      exact h.pg b u e
/-- what a def of the text is, once its text is read -/
structure FdOk (gl : List (Str × GV)) (cells : List Str) (ps N : List Str) (scope : Scope) (body : List Stmt) (fd : Fd) : Prop where
  S : FnScope N ps scope
  n : fd.n = N.length
  ps : fd.ps = ps.length
  dbg : ∀ x ∈ N, (x == ("__debug__" : Str)) = false ∧ (x == ("__classdict__" : Str)) = false
  gdbg : ∀ x g, gl.lookup x = some g → (x == ("__debug__" : Str)) = false ∧ x ≠ ("__name__" : Str)
  own : ∃ own fuel, (∀ x ∈ own, Loc scope x) ∧ cmpSs fuel ⟨N, scope, own, gl, cells⟩ body = some fd.body
section
variable {P : Program} {w : World} {K : PySem.W.Frag} {mg : Str → Option Value} {base : Heap}
/-- a global name, at the module's heap -/
def GlOk (Φ : Fn) (k : Nat) (P : Program) (w : World) (K : PySem.W.Frag) (mg : Str → Option Value) (base : Heap) (x : Str) : GV → Prop
  | .fn i n => ∃ f fd ps, mg x = some (.ref f) ∧ PySem.W.keepIn K (.ref f) = true ∧ Binds K fd ps [] ∧ ps.length = n ∧ FnOk P w K mg base CX0 k f fd ps (spD K (Φ i) n) ∧ FnOk P w K mg base CX0 k f fd ps (spN K (Φ (NEWB + i)) n)
  | .con d => ∃ v u, mg x = some u ∧ RelV v u ∧ ∀ G, Rp K G v d
  | .bi b => (b ≠ .gcd ∧ mg x = none ∧ bootBuiltins x = some b.val) ∨ (b = .gcd ∧ mg x = some b.val)
  | .ty t => mg x = none ∧ bootBuiltins x = some (.type t.nm)
  | .isi => mg x = none ∧ bootBuiltins x = some (.builtin "isinstance")
  | .set => mg x = none
  | .rng => mg x = none ∧ x = "range"
  | .zip => mg x = none ∧ x = "zip"
  | .enum => mg x = none ∧ x = "enumerate"
theorem GlOk.at {Φ : Fn} {k : Nat} {X : Cx} {x : Str} {g : GV} (h : GlOk Φ k X.prog X.w X.K X.mg X.base x g) : GOk Φ k X x g := by
  cases g <;> exact h
theorem fd_ok {Φ : Fn} {k : Nat} {gl : List (Str × GV)} {cells ps N : List Str} {scope : Scope} {body : List Stmt} {fd : Fd} {x qual : Str} {params : Arguments} {f : Addr} {fdd : FuncData}
    (F : FunD K x qual params body scope [] [] f fdd) (o : FdOk gl cells ps N scope body fd) (g : ∀ x g, gl.lookup x = some g → GlOk Φ k P w K mg base x g) :
    FnOk P w K mg base CX0 (k + 1) f fdd ps (spD K (runF Φ fd) ps.length) := by
  obtain ⟨own, fuel, hown, hc⟩ := o.own
  refine F.ok o.S (fun vs H Q E h => h.1) fun cdv A outer s H vs Q E hr ⟨hl, P0, ca, G, st, ws, r, st', hm, hw, e, q⟩ => ?_
  have xo : XOk Φ k (cxOf CX0 P w K mg base N qual scope f cdv A outer s H E).nox ⟨N, scope, own, gl, cells⟩ :=
    ⟨rfl, rfl, o.S.kind, o.S.nd, rfl, o.dbg, fun x hx => ⟨hown x hx, .inl rfl⟩, o.gdbg, fun x gg h => GlOk.at (g x gg h), hr, rfl⟩
  refine ⟨_, ((snd_s fuel).ss _ _ xo _ _ hc).nox, ?_⟩
  unfold runF at e
  split at e
  rotate_left
  · cases e
  have hs : SlOk K ca G (L2.start N vs) (slots fd.n ws) := by
    rw [o.n]
    exact hw.slotsOk N
  cases er : runSs Φ fd.body (slots fd.n ws) st with
  | none => rw [er] at e; cases e
  | some z =>
    obtain ⟨fl, sl', st''⟩ := z
    rw [er] at e
    have hn := hm.len
    cases fl with
    | nx =>
      cases e
      refine ⟨P0, ca, G, _, st, .nx, sl', st'', hm, hs, er, fun σ' ca' G' H' n' hm' hs' => q _ G' H' n'.s ?_ .non⟩
      rw [← hn]
      exact hm'.back n'.p
    | bk => cases e
    | ct => cases e
    | ret rw0 =>
      cases rw0 with
      | d x =>
        cases e
        refine ⟨P0, ca, G, _, st, .ret _, sl', st'', hm, hs, er, fun v ca' G' H' n' hm' r' => q v G' H' n'.s ?_ r'⟩
        rw [← hn]
        exact hm'.back n'.p
      | m j =>
        refine ⟨P0, ca, G, _, st, .ret _, sl', st'', hm, hs, er, fun v ca' G' H' n' hm' r' => ?_⟩
        obtain ⟨a, ha, rfl⟩ := r'
        have e : (if j < st.length then some (W.m j, st''.take st.length) else (match st''[j]? with
    | some (.lst _ ds) => some (.d (.list ds), st''.take st.length)
    | none => none)) = some (r, st') := e
        split at e
        · rename_i hj
          cases e
          refine q _ G' H' n'.s (by rw [← hn]; exact hm'.back n'.p) ⟨a, ?_, rfl⟩
          obtain ⟨t, et⟩ := n'.p
          rw [← et, List.getElem?_append_left (by rw [hn]; exact hj)] at ha
          exact ha
        · rename_i hj
          split at e
          · rename_i fz ds hcell
            cases e
            obtain ⟨G2, s2, hm2, r2⟩ := hm'.give n'.p (by rw [hn]; omega) ha hcell
            rw [hn] at hm2
            exact q _ G2 H' (n'.s.trans s2) hm2 r2
          · cases e
theorem fd_okN {Φ : Fn} {k : Nat} {gl : List (Str × GV)} {cells ps N : List Str} {scope : Scope} {body : List Stmt} {fd : Fd} {x qual : Str} {params : Arguments} {f : Addr} {fdd : FuncData}
    (F : FunD K x qual params body scope [] [] f fdd) (o : FdOk gl cells ps N scope body fd) (g : ∀ x g, gl.lookup x = some g → GlOk Φ k P w K mg base x g) :
    FnOk P w K mg base CX0 (k + 1) f fdd ps (spN K (runFN Φ fd) ps.length) := by
  obtain ⟨own, fuel, hown, hc⟩ := o.own
  refine F.ok o.S (fun vs H Q E h => h.1) fun cdv A outer s H vs Q E hr ⟨hl, P0, ca, G, st, ws, r, st', hm, hw, e, q⟩ => ?_
  have xo : XOk Φ k (cxOf CX0 P w K mg base N qual scope f cdv A outer s H E).nox ⟨N, scope, own, gl, cells⟩ :=
    ⟨rfl, rfl, o.S.kind, o.S.nd, rfl, o.dbg, fun x hx => ⟨hown x hx, .inl rfl⟩, o.gdbg, fun x gg h => GlOk.at (g x gg h), hr, rfl⟩
  refine ⟨_, ((snd_s fuel).ss _ _ xo _ _ hc).nox, ?_⟩
  unfold runFN at e
  split at e
  rotate_left
  · cases e
  have hs : SlOk K ca G (L2.start N vs) (slots fd.n ws) := by
    rw [o.n]
    exact hw.slotsOk N
  cases er : runSs Φ fd.body (slots fd.n ws) st with
  | none => rw [er] at e; cases e
  | some z =>
    obtain ⟨fl, sl', st''⟩ := z
    rw [er] at e
    have hn := hm.len
    cases fl with
    | nx => cases e
    | bk => cases e
    | ct => cases e
    | ret rw0 =>
      cases rw0 with
      | d x => cases e
      | m j =>
        refine ⟨P0, ca, G, _, st, .ret _, sl', st'', hm, hs, er, fun v ca' G' H' n' hm' r' => ?_⟩
        obtain ⟨a, ha, rfl⟩ := r'
        have e : (if j < st.length then none else (match st''[j]? with
    | some (.lst false ds) => some (W.d (.list ds), st''.take st.length)
    | _ => none)) = some (r, st') := e
        split at e
        · cases e
        · rename_i hj
          split at e
          · rename_i ds hcell
            cases e
            obtain ⟨xs, h1, h2, hz, h3⟩ := hm'.cell j a _ ha hcell
            have hb := hm'.back n'.p
            rw [hn] at hb
            have hna : a ∉ ca := fun z => by
              obtain ⟨i, hi, e⟩ := List.mem_iff_getElem.mp z
              have e1 : ca'[i]? = some a := prefix_get n'.p (by rw [List.getElem?_eq_getElem hi, e])
              obtain ⟨l1, e1'⟩ := List.getElem?_eq_some_iff.mp e1
              obtain ⟨l2, e2'⟩ := List.getElem?_eq_some_iff.mp ha
              have := (List.getElem_inj hm'.nd).mp (e1'.trans e2'.symm)
              omega
            exact q a xs ds G' H' rfl n'.s hb h1 h3 hna (hm'.pdis a (List.mem_of_getElem? ha)) h2 hz
          · cases e
end
end WM
namespace WM
open PySem PySem.Spec PyProof.Rows L2
@[simp] theorem andW_s {β : Type} (w : W) (st : Store) (f : W → Store → Option β) : andW (some (w, st)) f = f w st := rfl
@[simp] theorem andD_s {β : Type} (x : D) (st : Store) (f : D → Store → Option β) : andD (some (.d x, st)) f = f x st := rfl
@[simp] theorem okD_s (x : D) (st : Store) : okD (some x) st = some (.d x, st) := rfl
@[simp] theorem okB_s (b : Bool) (st : Store) : okB (some b) st = some (.d (.bool b), st) := rfl
@[simp] theorem okL_s (l : List D) (st : Store) : okL (some l) st = some (l, st) := rfl
@[simp] theorem truW_b (b : Bool) : truW (.d (.bool b)) = some b := rfl
@[simp] theorem allD_nil : allD [] = some [] := rfl
@[simp] theorem allD_d (x : D) (ws : List W) : allD (.d x :: ws) = (allD ws).map (x :: ·) := rfl
@[simp] theorem allD_m (i : Nat) (ws : List W) : allD (.m i :: ws) = none := rfl
@[simp] theorem add_i (i j : Int) : binD .Add (.int i) (.int j) = some (.int (i + j)) := rfl
@[simp] theorem sub_i (i j : Int) : binD .Sub (.int i) (.int j) = some (.int (i - j)) := rfl
theorem mul_i {i j : Int} (h : mulOk i j = true) : binD .Mult (.int i) (.int j) = some (.int (i * j)) := if_pos h
@[simp] theorem neg_i (i : Int) : negD (.int i) = some (.int (-i)) := rfl
theorem div_i {i j : Int} (h : 0 < j) (hb : j.natAbs < BIG) : binD .FloorDiv (.int i) (.int j) = some (.int (i / j)) := by
  have e : divOk j = true := by
    unfold divOk
    rw [Bool.and_eq_true]
    exact ⟨decide_eq_true (by omega), decide_eq_true hb⟩
  show (if divOk j then some (PyData.int (i.fdiv j)) else none) = _
  rw [if_pos e, Int.fdiv_eq_ediv_of_nonneg _ (by omega)] <;> rfl
theorem mod_i {i j : Int} (h : 0 < j) : binD .Mod (.int i) (.int j) = some (.int (i % j)) := by
  show (if j = 0 then none else some (PyData.int (i.fmod j))) = _
  rw [if_neg (by omega), Int.fmod_eq_emod_of_nonneg _ (by omega)] <;> rfl
theorem pow_i {i j : Int} (h : 0 ≤ j) (h1 : j ≤ 1000000) (h2 : i.natAbs < 2 ^ 64) : binD .Pow (.int i) (.int j) = some (.int (i ^ j.toNat)) := if_pos ⟨h, h1, h2⟩
@[simp] theorem lt_i (i j : Int) : cmpD .Lt (.int i) (.int j) = some (decide (i < j)) := rfl
@[simp] theorem le_i (i j : Int) : cmpD .LtE (.int i) (.int j) = some (decide (i ≤ j)) := rfl
@[simp] theorem gt_i (i j : Int) : cmpD .Gt (.int i) (.int j) = some (decide (j < i)) := rfl
@[simp] theorem ge_i (i j : Int) : cmpD .GtE (.int i) (.int j) = some (decide (j ≤ i)) := rfl
theorem lt_big {i : Nat} (h : i < 2 ^ 4000) : i < BIG := Nat.lt_trans h (by decide +kernel)
theorem mulOk_l {i j : Int} (h : i.natAbs < 2 ^ 64) : mulOk i j = true := by
  unfold mulOk
  rw [decide_eq_true h, Bool.true_or]
theorem mulOk_r {i j : Int} (h : j.natAbs < 2 ^ 64) : mulOk i j = true := by
  unfold mulOk
  rw [decide_eq_true h, Bool.true_or, Bool.or_true]
theorem mulOk_b {i j : Int} (h1 : i.natAbs < BIG) (h2 : j.natAbs < BIG) : mulOk i j = true := by
  unfold mulOk
  rw [decide_eq_true h1, decide_eq_true h2]
  simp
theorem small_big {i : Int} (h : i.natAbs < 2 ^ 64) : i.natAbs < BIG := lt_big (Nat.lt_trans h (by decide +kernel))
end WM
namespace WM
open PySem PySem.Spec PyProof.Rows L2
/-- a def of the text -/
structure DI where
  x : Str
  ps : List Str
  args : Arguments
  scope : Scope
  body : List Stmt
  N : List Str
  cells : List Str
section
variable {P : Program} {w : World} {K : PySem.W.Frag} {mg : Str → Option Value} {base : Heap}
/-- a table of defs, as text -/
structure TabT (gl : List (Str × GV)) (ds : List DI) (T : List Fd) : Prop where
  len : T.length = ds.length
  big : ds.length < NEWB
  ok : ∀ (i : Nat) (d : DI) (fd : Fd), ds[i]? = some d → T[i]? = some fd → FdOk gl d.cells d.ps d.N d.scope d.body fd
/-- a table of defs, as the heap bears it -/
structure Tab (P : Program) (w : World) (K : PySem.W.Frag) (mg : Str → Option Value) (base : Heap) (gl : List (Str × GV)) (ds : List DI) : Prop where
  fun_ : ∀ (i : Nat) (d : DI), ds[i]? = some d → ∃ f fdd, mg d.x = some (.ref f) ∧ FunD K d.x d.x d.args d.body d.scope [] [] f fdd ∧ Binds K fdd d.ps []
  gl : ∀ x g, gl.lookup x = some g → (∃ i d, g = .fn i d.ps.length ∧ ds[i]? = some d ∧ d.x = x) ∨ ∀ Φ k, GlOk Φ k P w K mg base x g
def FnAt (P : Program) (w : World) (K : PySem.W.Frag) (mg : Str → Option Value) (base : Heap) (T : List Fd) (k i : Nat) (d : DI) : Prop :=
  ∃ f fdd, mg d.x = some (.ref f) ∧ PySem.W.keepIn K (.ref f) = true ∧ Binds K fdd d.ps [] ∧ FnOk P w K mg base CX0 k f fdd d.ps (spD K (fns T k i) d.ps.length) ∧ FnOk P w K mg base CX0 k f fdd d.ps (spN K (fns T k (NEWB + i)) d.ps.length)
theorem tab_gl {gl : List (Str × GV)} {ds : List DI} {T : List Fd} {k : Nat} (h : Tab P w K mg base gl ds) (a : ∀ i d, ds[i]? = some d → FnAt P w K mg base T k i d) : ∀ x g, gl.lookup x = some g → GlOk (fns T k) k P w K mg base x g := by
  intro x g e
  rcases h.gl x g e with ⟨i, d, rfl, hd, rfl⟩ | q
  · obtain ⟨f, fdd, h1, h2, h3, h4, h5⟩ := a i d hd
    exact ⟨f, fdd, d.ps, h1, h2, h3, rfl, h4, h5⟩
  · exact q _ _
theorem tab_ok {gl : List (Str × GV)} {ds : List DI} {T : List Fd} (ht : TabT gl ds T) (h : Tab P w K mg base gl ds) : ∀ (k i : Nat) (d : DI), ds[i]? = some d → FnAt P w K mg base T k i d
  | 0, i, d, hd => by
    obtain ⟨f, fdd, h1, h2, h3⟩ := h.fun_ i d hd
    refine ⟨f, fdd, h1, h2.kp, h3, ⟨fun vs H Q E q => q.1, fun A outer s H args us vs Q E _ _ _ _ q => ?_⟩, ⟨fun vs H Q E q => q.1, fun A outer s H args us vs Q E _ _ _ _ q => ?_⟩⟩
    · obtain ⟨_, _, _, _, _, _, _, _, _, _, e, _⟩ := q
      cases e
    · obtain ⟨_, _, _, _, _, _, _, _, _, _, e, _⟩ := q
      cases e
  | k + 1, i, d, hd => by
    obtain ⟨f, fdd, h1, h2, h3⟩ := h.fun_ i d hd
    have hi : i < T.length := by
      rw [ht.len]
      exact (List.getElem?_eq_some_iff.mp hd).1
    have ef : T[i]? = some T[i] := List.getElem?_eq_getElem hi
    have q := fd_ok (P := P) (w := w) (mg := mg) (base := base) h2 (ht.ok i d _ hd ef) (tab_gl h (tab_ok ht h k))
    have q2 := fd_okN (P := P) (w := w) (mg := mg) (base := base) h2 (ht.ok i d _ hd ef) (tab_gl h (tab_ok ht h k))
    have hb : i < NEWB := Nat.lt_trans (ht.len ▸ hi) ht.big
    refine ⟨f, fdd, h1, h2.kp, h3, ?_, ?_⟩
    · have e : fns T (k + 1) i = runF (fns T k) T[i] := by
        funext ws st
        show (if i < NEWB then (match T[i]? with
          | some fd => runF (fns T k) fd ws st
          | none => none) else _) = _
        rw [if_pos hb, ef]
      rw [e]
      exact q
    · have e : fns T (k + 1) (NEWB + i) = runFN (fns T k) T[i] := by
        funext ws st
        show (if NEWB + i < NEWB then _ else (match T[NEWB + i - NEWB]? with
          | some fd => runFN (fns T k) fd ws st
          | none => none)) = _
        rw [if_neg (by omega), Nat.add_sub_cancel_left, ef]
      rw [e]
      exact q2
/-- any script; true at the end -/
def spLaw (K : PySem.W.Frag) : Sp := fun vs H Q _ => ∃ (a : Addr) (ns : List Int), ns.length ≤ 63 ∧ vs = [.ref a] ∧ SqL K H a (ns.map V.int) ∧ ∀ H', Q (.bl true) H'
/-- the cup, from any script -/
def spCup (K : PySem.W.Frag) : Sp := fun vs H Q _ => ∃ (a : Addr) (ns : List Int), ns.length ≤ 63 ∧ vs = [.ref a] ∧ SqL K H a (ns.map V.int) ∧
  ∀ (p : Addr) (c0 c1 : Int) (H' : Hp), 0 ≤ c0 → 229 ≤ c1 → H' p = some (.lst [.int c0, .int c1]) → Q (.ref p) H'
def cupE (p2 p3 p4 p5 p6 p7 p8 p9 p10 p11 : Pos) (j j2 : Nat) : Expr :=
  .Call (.Name "abs" p2) [.Subscript (.BinOp (.Call (.Name "list" p3) [.Name "script" p4] [] p5) .Add (.List [.Constant (.int 0) j p6] p7) p8) (.Constant (.int 0) j2 p9) p10] [] p11
def cupR : S := .ret (.lst (.cons (.ite (.cmp .GtE (.var 1) (.bin .Pow (.lit (.int 10)) (.lit (.int 18)))) (.bin .FloorDiv (.var 1) (.lit (.int 127))) (.lit (.int 0))) (.cons (.bin .Add (.bin .Mod (.blt .int (.cons (.bin .Add (.bin .Mult (.var 1) (.lit (.int 373))) (.lit (.int 5407))) .nil)) (.lit (.int 1974129427))) (.lit (.int 229))) .nil)))
theorem hm0 {H : Hp} : HM K (fun _ => none) [] (fun _ => none) H [] where
  sub := fun _ _ e => by cases e
  len := rfl
  nd := List.nodup_nil
  cell := fun i a c e => by simp at e
  prot := fun _ _ e => by cases e
  pdis := fun a ha => by simp at ha
  pg := fun _ _ _ => rfl
theorem cupR_run (Φ : Fn) (sl : Sl) (m : Int) (hm : 0 ≤ m) (h1 : sl[1]? = some (some (.d (.int m)))) : ∃ c0 c1 : Int, 0 ≤ c0 ∧ 229 ≤ c1 ∧ runS Φ cupR sl [] = some (.ret (.d (.list [.int c0, .int c1])), sl, []) := by
  refine ⟨if m ≥ 10 ^ 18 then m / 127 else 0, (m * 373 + 5407) % 1974129427 + 229, ?_, ?_, ?_⟩
  · split <;> omega
  · omega
  · have e1 : binD .Mult (.int m) (.int 373) = some (.int (m * 373)) := mul_i (mulOk_r (by decide))
    have e2 : binD .Mod (.int (m * 373 + 5407)) (.int 1974129427) = _ := mod_i (by omega)
    have e3 : binD .FloorDiv (.int m) (.int 127) = some (.int (m / 127)) := div_i (by omega) (small_big (by decide))
    have e4 : binD .Pow (.int 10) (.int 18) = some (.int (10 ^ 18)) := pow_i (by decide) (by decide) (by decide)
    unfold cupR
    by_cases c : m ≥ 10 ^ 18
    · have hd : decide (10 ^ 18 ≤ m) = true := decide_eq_true c
      simp only [runS, runE, runEs, binK_eq, rdVar, h1, andD_s, andW_s, e1, e2, e3, e4, ge_i, hd, okB_s, okD_s, truW_b, bltW, allD_d, allD_nil, Option.map, bltD, add_i, mkLst, if_pos c]
      rfl
    · have hd : decide (10 ^ 18 ≤ m) = false := decide_eq_false c
      simp only [runS, runE, runEs, binK_eq, rdVar, h1, andD_s, andW_s, e1, e2, e3, e4, ge_i, hd, okB_s, okD_s, truW_b, bltW, allD_d, allD_nil, Option.map, bltD, add_i, mkLst, if_neg c]
      rfl
theorem dbg2 : ∀ x ∈ (["script", "cell"] : List Str), (x == ("__debug__" : Str)) = false ∧ (x == ("__classdict__" : Str)) = false := by decide +kernel
/-- _law_cup's text -/
structure CupT (gl : List (Str × GV)) (scope : Scope) (body : List Stmt) : Prop where
  S : FnScope ["script", "cell"] ["script"] scope
  v0 : Vis scope "script"
  l1 : scope.names.lookup ("cell" : Str) = some .local
  ga : scope.names.lookup ("abs" : Str) = some .globalImplicit
  gli : scope.names.lookup ("list" : Str) = some .globalImplicit
  gdbg : ∀ x g, gl.lookup x = some g → (x == ("__debug__" : Str)) = false ∧ x ≠ ("__name__" : Str)
  b : ∃ p1 p2 p3 p4 p5 p6 p7 p8 p9 p10 p11 p12 j j2 s2 own fuel, body = [.Assign [.Name "cell" p1] (cupE p2 p3 p4 p5 p6 p7 p8 p9 p10 p11 j j2) p12, s2] ∧ (∀ x ∈ own, Loc scope x) ∧ cmpS fuel ⟨["script", "cell"], scope, own, gl, []⟩ s2 = some cupR
theorem cup_ok {Φ : Fn} {k : Nat} {gl : List (Str × GV)} {scope : Scope} {body : List Stmt} {x qual : Str} {params : Arguments} {f : Addr} {fdd : FuncData}
    (F : FunD K x qual params body scope [] [] f fdd) (o : CupT gl scope body) (g : ∀ x g, gl.lookup x = some g → GlOk Φ k P w K mg base x g) (ma : mg "abs" = none) (ml : mg "list" = none) :
    FnOk P w K mg base CX0 (k + 1) f fdd ["script"] (spCup K) := by
  obtain ⟨p1, p2, p3, p4, p5, p6, p7, p8, p9, p10, p11, p12, j, j2, s2, own, fuel, eb, hown, hc⟩ := o.b
  refine F.ok o.S (fun vs H Q E h => by obtain ⟨a, ns, _, rfl, _⟩ := h; rfl) fun cdv A outer s H vs Q E hr ⟨a, ns, hn, ev, hs, q⟩ => ?_
  subst ev
  have xo : XOk Φ k (cxOf CX0 P w K mg base ["script", "cell"] qual scope f cdv A outer s H E).nox ⟨["script", "cell"], scope, own, gl, []⟩ :=
    ⟨rfl, rfl, o.S.kind, o.S.nd, rfl, dbg2, fun x hx => ⟨hown x hx, .inl rfl⟩, o.gdbg, fun x gg h => GlOk.at (g x gg h), hr, rfl⟩
  have v0 : Vis (cxOf CX0 P w K mg base ["script", "cell"] qual scope f cdv A outer s H E).nox.env.scope "script" := o.v0
  have st1 := ps_set (X := (cxOf CX0 P w K mg base ["script", "cell"] qual scope f cdv A outer s H E).nox) (i := 1) (x := "cell") (pos := p12) (pos' := p1) o.S.nd rfl (Or.inl o.l1)
    (pe_callB (p := p2) (pos := p11) call_abs o.ga ma (by kernel_rfl) (pa_cons (pe_ix (pos := p10) ix_list (pe_op (pos := p8) op_cat (pe_callTy (p := p3) (pos := p5) call_list_of o.gli ml (by kernel_rfl) (pa_cons (pe_var (i := 0) (x := "script") (pos := p4) rfl v0) pa_nil)) (pe_lst (pos := p7) (pa_cons (pe_int (i := 0) (j := j) (pos := p6)) pa_nil))) (pe_int (i := 0) (j := j2) (pos := p9)) (fun _ _ => rfl)) pa_nil))
  have st2 := (snd_s (Φ := Φ) (k := k) fuel).s _ _ xo _ _ hc
  refine ⟨_, PSs.nox (eb ▸ pss_cons st1 (pss_one st2)), ?_⟩
  refine ⟨.ref a, rfl, a, ns.map V.int, rfl, .inl hs, fun p hp => ?_⟩
  refine ⟨by decide, fun p' hp' => ?_⟩
  have hne : p' ≠ p := fun z => by
    subst z
    rw [upd_same] at hp'
    cases hp'
  refine ⟨p, p', ns.map V.int, [.int 0], rfl, rfl, ?_, upd_same, ?_, fun p3 hp3 => ?_⟩
  · rw [upd_ne (Ne.symm hne)]
    exact upd_same
  · rw [List.length_map, List.length_singleton]
    have : (64 : Nat) ≤ sizeLine := by decide
    omega
  obtain ⟨m, em⟩ : ∃ m : Int, L2.atI (ns.map V.int ++ [.int 0]) 0 = some (.int m) := by
    cases ns with
    | nil => exact ⟨0, rfl⟩
    | cons n ns => exact ⟨n, by
        have e : L2.ixN (List.map V.int (n :: ns) ++ [V.int 0]).length 0 = some 0 := by
          unfold L2.ixN
          rw [if_pos (by omega), if_pos (by simp; omega)]
          rfl
        unfold L2.atI
        rw [e]
        rfl⟩
  refine ⟨p3, _, 0, .int m, rfl, rfl, SqL.of upd_same, em, m, rfl, ?_⟩
  obtain ⟨c0, c1, h0, h1, er⟩ := cupR_run Φ [none, some (.d (.int (if m < 0 then -m else m)))] (if m < 0 then -m else m) (by split <;> omega) rfl
  refine ⟨fun _ => none, [], fun _ => none, [none, some (.d (.int (if m < 0 then -m else m)))], [], _, _, _, hm0, ⟨rfl, fun i w e => ?_⟩, er, fun v ca' G' H' n' hm' r' => ?_⟩
  · match i, e with
    | 0, e => cases e
    | 1, e => cases e; exact ⟨_, rfl, .int _⟩
    | n + 2, e => simp at e
  · obtain ⟨pp, vs, rfl, hp1, hp2⟩ := Rp.list_inv r'
    have : vs = [V.int c0, V.int c1] := Rps.ints (ns := [c0, c1]) hp2
    subst this
    exact q pp c0 c1 H' h0 h1 (hm'.sub _ _ hp1)
/-- the law's text: cup = _law_cup(script), then the rest b -/
structure LawT (gl : List (Str × GV)) (cells N : List Str) (scope : Scope) (body : List Stmt) (b : Ss) : Prop where
  S : FnScope N ["script"] scope
  n1 : N[0]? = some ("script" : Str)
  n2 : N[1]? = some ("cup" : Str)
  dbg : ∀ x ∈ N, (x == ("__debug__" : Str)) = false ∧ (x == ("__classdict__" : Str)) = false
  v0 : Vis scope "script"
  l1 : scope.names.lookup ("cup" : Str) = some .local
  gc : scope.names.lookup ("_law_cup" : Str) = some .globalImplicit
  gdbg : ∀ x g, gl.lookup x = some g → (x == ("__debug__" : Str)) = false ∧ x ≠ ("__name__" : Str)
  b : ∃ p1 p2 p3 p4 p5 rest own fuel, body = .Assign [.Name "cup" p1] (.Call (.Name "_law_cup" p2) [.Name "script" p3] [] p4) p5 :: rest ∧ (∀ x ∈ own, Loc scope x) ∧ cmpSs fuel ⟨N, scope, own, gl, cells⟩ rest = some b
/-- what the law starts with -/
def slot1 (n : Nat) : Sl := none :: some (.m 0) :: List.replicate (n - 2) none
theorem law_ok {Φ : Fn} {k : Nat} {gl : List (Str × GV)} {cells N : List Str} {scope : Scope} {body : List Stmt} {b : Ss} {x qual : Str} {params : Arguments} {f fc : Addr} {fdd fdc : FuncData}
    (F : FunD K x qual params body scope [] [] f fdd) (o : LawT gl cells N scope body b) (g : ∀ x g, gl.lookup x = some g → GlOk Φ k P w K mg base x g)
    (mc : mg "_law_cup" = some (.ref fc)) (kc : PySem.W.keepIn K (.ref fc) = true) (bc : Binds K fdc ["script"] []) (hc : FnOk P w K mg base CX0 k fc fdc ["script"] (spCup K))
    (pure : ∀ c0 c1 : Int, 0 ≤ c0 → 229 ≤ c1 → ∃ sl' st', runSs Φ b (slot1 N.length) [.lst false [.int c0, .int c1]] = some (.ret (.d (.bool true)), sl', st')) :
    FnOk P w K mg base CX0 (k + 1) f fdd ["script"] (spLaw K) := by
  obtain ⟨p1, p2, p3, p4, p5, rest, own, fuel, eb, hown, hcs⟩ := o.b
  refine F.ok o.S (fun vs H Q E h => by obtain ⟨a, ns, _, rfl, _⟩ := h; rfl) fun cdv A outer s H vs Q E hr ⟨a, ns, hn, ev, hs, q⟩ => ?_
  subst ev
  have xo : XOk Φ k (cxOf CX0 P w K mg base N qual scope f cdv A outer s H E).nox ⟨N, scope, own, gl, cells⟩ :=
    ⟨rfl, rfl, o.S.kind, o.S.nd, rfl, o.dbg, fun x hx => ⟨hown x hx, .inl rfl⟩, o.gdbg, fun x gg h => GlOk.at (g x gg h), hr, rfl⟩
  have v0 : Vis (cxOf CX0 P w K mg base N qual scope f cdv A outer s H E).nox.env.scope "script" := o.v0
  have st1 := ps_set (X := (cxOf CX0 P w K mg base N qual scope f cdv A outer s H E).nox) (i := 1) (x := "cup") (pos := p5) (pos' := p1) o.S.nd o.n2 (Or.inl o.l1)
    (pe_call (p := p2) (pos := p4) (dvs := []) hc hr o.gc mc kc bc .nil pass0 (pa_cons (pe_var (i := 0) (x := "script") (pos := p3) o.n1 v0) pa_nil))
  have st2 := (snd_s (Φ := Φ) (k := k) fuel).ss _ _ xo _ _ hcs
  refine ⟨_, PSs.nox (eb ▸ pss_cons st1 st2), ?_⟩
  have hN2 : 2 ≤ N.length := by
    have := (List.getElem?_eq_some_iff.mp o.n2).1
    omega
  have e0 : (L2.start N [.ref a])[0]? = some (some (V.ref a)) := rfl
  refine ⟨.ref a, e0, ?_⟩
  refine ⟨a, ns, hn, rfl, hs, fun p c0 c1 H' h0 h1 hp => ?_⟩
  obtain ⟨sl', st', er⟩ := pure c0 c1 h0 h1
  refine ⟨fun _ => none, [p], fun _ => none, slot1 N.length, [.lst false [.int c0, .int c1]], _, _, _, ?_, ?_, er, fun v ca' G' H2 n' hm' r' => ?_⟩
  · exact (hm0 (K := K) (H := H')).newcell hp rfl (by simp) rfl (Rps.of_ints [c0, c1]) (show 2 ≤ sizeLine by decide)
  · refine ⟨?_, fun i w e => ?_⟩
    · rw [List.length_set]
      unfold L2.start slot1
      simp
      omega
    · match i, e with
      | 0, e => cases e
      | 1, e =>
        cases e
        refine ⟨.ref p, ?_, p, rfl, rfl⟩
        rw [List.getElem?_set_self]
        unfold L2.start
        simp
        omega
      | n + 2, e =>
        have e : (List.replicate (N.length - 2) (none : Option W))[n]? = some (some w) := e
        rw [List.getElem?_replicate] at e
        split at e <;> cases e
  · cases r'
    exact q H2
end
end WM
namespace WM
open PySem PySem.Spec PyProof.Rows L2
mutual
def datB (K : PySem.W.Frag) : D → Value → Bool
  | .none, .none => true
  | .bool b, .bool c => decide (b = c)
  | .int i, .int j _ => decide (i = j)
  | .str x, .str y _ => decide (x = y)
  | .tuple ds, .ref a => (match K.lookup a with
    | some ⟨.type c, _, .seq its _, _⟩ => decide (c = "tuple") && (decide (its.size ≤ sizeLine) && datsB K ds its.toList)
    | _ => false)
  | _, _ => false
def datsB (K : PySem.W.Frag) : List D → List Value → Bool
  | [], [] => true
  | d :: ds, u :: us => datB K d u && datsB K ds us
  | _, _ => false
end
mutual
theorem datB_ok {K : PySem.W.Frag} : ∀ {d : D} {u : Value}, datB K d u = true → ∃ v, RelV v u ∧ ∀ G, Rp K G v d
  | .none, .none, _ => ⟨.non, rfl, fun _ => .non⟩
  | .bool b, .bool c, h => by
    unfold datB at h
    cases of_decide_eq_true h
    exact ⟨.bl b, rfl, fun _ => .bl b⟩
  | .int i, .int j t, h => by
    unfold datB at h
    cases of_decide_eq_true h
    exact ⟨.int i, ⟨t, rfl⟩, fun _ => .int i⟩
  | .str x, .str y t, h => by
    unfold datB at h
    cases of_decide_eq_true h
    exact ⟨.str x, ⟨t, rfl⟩, fun _ => .str x⟩
  | .tuple ds, .ref a, h => by
    unfold datB at h
    split at h
    · rename_i c od its n sl e
      rw [Bool.and_eq_true, Bool.and_eq_true] at h
      obtain ⟨h1, h2, h3⟩ := h
      cases of_decide_eq_true h1
      obtain ⟨vs, r1, r2⟩ := datsB_ok h3
      exact ⟨.ref a, rfl, fun G => .tup (.inr ⟨_, its, n, e, rfl, rfl, of_decide_eq_true h2, r1⟩) (r2 G)⟩
    · cases h
theorem datsB_ok {K : PySem.W.Frag} : ∀ {ds : List D} {us : List Value}, datsB K ds us = true → ∃ vs, Vals vs us ∧ ∀ G, Rps K G vs ds
  | [], [], _ => ⟨[], .nil, fun _ => .nil⟩
  | d :: ds, u :: us, h => by
    unfold datsB at h
    rw [Bool.and_eq_true] at h
    obtain ⟨v, a1, a2⟩ := datB_ok h.1
    obtain ⟨vs, b1, b2⟩ := datsB_ok h.2
    exact ⟨v :: vs, .cons a1 b1, fun G => .cons (a2 G) (b2 G)⟩
end
def freeB (K : PySem.W.Frag) (x : Str) : Bool := He.eqO (PySem.W.nsIn K mainGlobals x) (some none)
/-- a global name that is no def of the text -/
def gvB (K : PySem.W.Frag) (x : Str) : GV → Bool
  | .fn _ _ => true
  | .con d => (match PySem.W.nsIn K mainGlobals x with
    | some (some u) => datB K d u
    | _ => false)
  | .bi b => if b = .gcd then He.eqO (PySem.W.nsIn K mainGlobals x) (some (some (.builtin "math.gcd"))) else freeB K x && decide (bootBuiltins x = some b.val)
  | .ty t => freeB K x && decide (bootBuiltins x = some (.type t.nm))
  | .isi => freeB K x && decide (bootBuiltins x = some (.builtin "isinstance"))
  | .set => freeB K x
  | .rng => freeB K x && decide (x = "range")
  | .zip => freeB K x && decide (x = "zip")
  | .enum => freeB K x && decide (x = "enumerate")
def glsB (K : PySem.W.Frag) (gl : List (Str × GV)) : Bool := gl.all fun q => gvB K q.1 q.2
section
variable {P : Program} {w : World} {K : PySem.W.Frag} {mg : Str → Option Value} {base h : Heap}
theorem gvB_ok {x : Str} {g : GV} (X : K.In h) (G : h.Ns mainGlobals mg) (c : gvB K x g = true) (hf : ∀ i n, g ≠ .fn i n) : ∀ Φ k, GlOk Φ k P w K mg base x g := by
  intro Φ k
  have free : freeB K x = true → mg x = none := fun c => PySem.W.mg_none_of X G (He.eqO_ok c)
  cases g with
  | fn i n => exact absurd rfl (hf i n)
  | con d =>
    unfold gvB at c
    simp only at c
    split at c
    · rename_i u e
      obtain ⟨v, r1, r2⟩ := datB_ok c
      exact ⟨v, u, PySem.W.mg_of X G e, r1, r2⟩
    · cases c
  | bi b =>
    unfold gvB at c
    simp only at c
    split at c
    · rename_i hb
      subst hb
      exact .inr ⟨rfl, PySem.W.mg_of X G (He.eqO_ok c)⟩
    · rename_i hb
      rw [Bool.and_eq_true] at c
      exact .inl ⟨hb, free c.1, of_decide_eq_true c.2⟩
  | ty t =>
    unfold gvB at c
    simp only [Bool.and_eq_true] at c
    exact ⟨free c.1, of_decide_eq_true c.2⟩
  | isi =>
    unfold gvB at c
    simp only [Bool.and_eq_true] at c
    exact ⟨free c.1, of_decide_eq_true c.2⟩
  | set =>
    unfold gvB at c
    exact free c
  | rng =>
    unfold gvB at c
    simp only [Bool.and_eq_true] at c
    exact ⟨free c.1, of_decide_eq_true c.2⟩
  | zip =>
    unfold gvB at c
    simp only [Bool.and_eq_true] at c
    exact ⟨free c.1, of_decide_eq_true c.2⟩
  | enum =>
    unfold gvB at c
    simp only [Bool.and_eq_true] at c
    exact ⟨free c.1, of_decide_eq_true c.2⟩
end
abbrev AlW : Type := Bool × (Bool × (List He.FnW))
def obsK (fa : List He.Fa) (fn : List He.DefD) (gl : List (Str × GV)) (K : PySem.W.Frag) : AlW := (glsB K gl, He.obsD fa fn K)
def refA : Value → List Addr
  | .ref a => [a]
  | _ => []
/-- what one object leads to that is wanted here: a dict's values, a def's code, a tuple's items -/
def stepA (g : Addr → Option Obj) (a : Addr) : List Addr := match g a with
  | some ⟨_, _, .dict es _, _⟩ => es.toList.flatMap fun e => refA e.val
  | some ⟨_, _, .func fd, _⟩ => refA fd.code
  | some ⟨_, _, .seq its _, _⟩ => its.toList.flatMap refA
  | _ => []
def growA (g : Addr → Option Obj) : Nat → List Addr → List Addr
  | 0, _ => []
  | n + 1, as => as ++ growA g n (as.flatMap (stepA g))
def asV (g : Addr → Option Obj) (n : Nat) : List Addr := growA g n [mainGlobals]
def obsW (n : Nat) (fa : List He.Fa) (fn : List He.DefD) (gl : List (Str × GV)) (g : Addr → Option Obj) : AlW := obsK fa fn gl (He.frG g (asV g n))
def valW (fn : List He.DefD) : AlW := (true, He.valD fn)
def hookW (n : Nat) (fa : List He.Fa) (fn : List He.DefD) (gl : List (Str × GV)) : PySem.W.Hook where
  α := AlW
  obs := fun s => obsW n fa fn gl s.heap.get?
  val := fun _ => valW fn
  says := fun _ h => ∃ K : PySem.W.Frag, K.In h ∧ obsK fa fn gl K = valW fn
  of := fun _ _ e => ⟨_, He.frG_in, e⟩
  keeps := fun _ _ _ ⟨K, hK, c⟩ k => ⟨K, PySem.W.Frag.In.keeps hK k, c⟩
theorem obsW_eq {n : Nat} {fa : List He.Fa} {fn : List He.DefD} {gl : List (Str × GV)} {g : Addr → Option Obj} {s : Shared} (h : ∀ a, g a = s.heap.get? a) : obsW n fa fn gl g = (hookW n fa fn gl).obs s := by
  have e : g = s.heap.get? := funext h
  rw [e] <;> rfl
def mkD (d : DI) : He.DefD := ⟨(d.x, none), d.x, d.x, d.args, d.body, d.scope, [], []⟩
/-- its parameters are bound one by one -/
def ArgsT (d : DI) : Prop := ∀ (kV doc pm : Value) (an : Option Addr) (cdv ct : Value) (us : List Value), us.length = d.ps.length → bindArgs (PySem.W.fnOf d.x d.x d.args d.body d.scope .none kV doc pm an cdv ct) ⟨us, []⟩ = pure (d.ps.zip us)
section
variable {P : Program} {w : World} {K : PySem.W.Frag} {mg : Str → Option Value} {h base : Heap}
/-- all of it: the table, as the heap bears it -/
theorem tab_of {gl : List (Str × GV)} {ds : List DI} (X : K.In h) (G : h.Ns mainGlobals mg) (c : obsK (ds.map fun d => He.Fa.glo d.x) (ds.map mkD) gl K = valW (ds.map mkD)) (ha : ∀ (i : Nat) (d : DI), ds[i]? = some d → ArgsT d)
    (hg : ∀ x g, gl.lookup x = some g → (∃ (i : Nat) (d : DI), g = .fn i d.ps.length ∧ ds[i]? = some d ∧ d.x = x) ∨ ∀ i n, g ≠ .fn i n) : Tab P w K mg base gl ds := by
  have c1 : glsB K gl = true := congrArg (fun z : AlW => z.1) c
  have c2 : He.SaysD (ds.map fun d => He.Fa.glo d.x) (ds.map mkD) K := congrArg (fun z : AlW => z.2) c
  refine ⟨fun i d hd => ?_, fun x g e => ?_⟩
  · have hm : d ∈ ds := List.mem_of_getElem? hd
    obtain ⟨fdd, F⟩ := He.SaysD.defs c2 (d := mkD d) (List.mem_map.mpr ⟨d, hm, rfl⟩)
    have F : FunD K d.x d.x d.args d.body d.scope [] [] (He.ga K d.x) fdd := F
    have f1 := He.SaysD.facts c2 (f := .glo d.x) (List.mem_map.mpr ⟨d, hm, rfl⟩)
    exact ⟨He.ga K d.x, fdd, He.glo_ok X G f1, F, F.bindsN (ps := d.ps) (ha i d hd)⟩
  · rcases hg x g e with q | q
    · exact .inl q
    · have cq := List.all_eq_true.mp c1 (x, g) (PySem.mem_of_lookup e)
      exact .inr (gvB_ok X G cq q)
end
end WM
namespace WM
open PySem PySem.Spec PyProof.Rows L2
section
variable {P : Program} {w : World} {K : PySem.W.Frag} {mg : Str → Option Value} {h : Heap}
structure LawAll (gl : List (Str × GV)) (ds : List DI) (T : List Fd) (dc dl : DI) (b : Ss) : Prop where
  tab : TabT gl ds T
  args : ∀ (i : Nat) (d : DI), ds[i]? = some d → ArgsT d
  gls : ∀ x g, gl.lookup x = some g → (∃ (i : Nat) (d : DI), g = .fn i d.ps.length ∧ ds[i]? = some d ∧ d.x = x) ∨ ∀ i n, g ≠ .fn i n
  hc : ∃ i : Nat, ds[i]? = some dc
  xc : dc.x = "_law_cup"
  pc : dc.ps = ([("script" : Str)] : List Str)
  hl : ∃ i : Nat, ds[i]? = some dl
  xl : dl.x = "law"
  pl : dl.ps = ([("script" : Str)] : List Str)
  ga : gl.lookup ("abs" : Str) = some (GV.bi .abs)
  gi : gl.lookup ("list" : Str) = some (GV.bi .list)
  cup : CupT gl dc.scope dc.body
  law : LawT gl dl.cells dl.N dl.scope dl.body b
theorem facts_of {gl : List (Str × GV)} {ds : List DI} {T : List Fd} {dc dl : DI} {b : Ss} {k : Nat} {fa : Addr} (L : LawAll gl ds T dc dl b) (X : K.In h) (G : h.Ns mainGlobals mg)
    (c : obsK (ds.map fun d => He.Fa.glo d.x) (ds.map mkD) gl K = valW (ds.map mkD)) (hfa : mg ("law" : Str) = some (.ref fa))
    (pure : ∀ c0 c1 : Int, 0 ≤ c0 → 229 ≤ c1 → ∃ sl' st', runSs (fns T (k + 1)) b (slot1 dl.N.length) [.lst false [.int c0, .int c1]] = some (.ret (.d (.bool true)), sl', st')) :
    ∃ fd : FuncData, (∀ (s : Shared) (v : Value), BindsTo s fd ⟨[v], []⟩ [("script", v)]) ∧ ∀ base : Heap, K.In base → base.Ns mainGlobals mg → FnOk P w K mg base CX0 (k + 2) fa fd ["script"] (spLaw K) := by
  have c2 : He.SaysD (ds.map fun d => He.Fa.glo d.x) (ds.map mkD) K := congrArg (fun z : AlW => z.2) c
  obtain ⟨il, hil⟩ := L.hl
  obtain ⟨ic, hic⟩ := L.hc
  have hml : dl ∈ ds := List.mem_of_getElem? hil
  obtain ⟨fdd, F⟩ := He.SaysD.defs c2 (d := mkD dl) (List.mem_map.mpr ⟨dl, hml, rfl⟩)
  have F : FunD K dl.x dl.x dl.args dl.body dl.scope [] [] (He.ga K dl.x) fdd := F
  have f1 := He.glo_ok X G (He.SaysD.facts c2 (f := .glo dl.x) (List.mem_map.mpr ⟨dl, hml, rfl⟩))
  have al := L.args il dl hil
  unfold ArgsT at al
  rw [L.pl] at al
  rw [L.xl] at F f1 al
  have e := hfa.symm.trans f1
  have e : fa = He.ga K "law" := by
    have := Option.some.inj e
    exact Value.ref.inj this
  rw [← e] at F f1
  have bl := F.bindsA (ps := ["script"]) al
  refine ⟨fdd, fun s v => bl s [v] rfl, fun base hb hns => ?_⟩
  have tab : Tab P w K mg base gl ds := tab_of X G c L.args L.gls
  have ok := tab_ok (P := P) (w := w) (base := base) L.tab tab
  obtain ⟨fc, fdc, Fc⟩ : ∃ fc fdc, mg dc.x = some (.ref fc) ∧ FunD K dc.x dc.x dc.args dc.body dc.scope [] [] fc fdc ∧ L2.Binds K fdc dc.ps [] := tab.fun_ ic dc hic
  obtain ⟨mc, Fc, bc⟩ := Fc
  rw [L.xc] at mc
  rw [L.pc] at bc
  have gA := tab_gl tab (ok 0) "abs" _ L.ga
  have gL := tab_gl tab (ok 0) "list" _ L.gi
  have ma : mg "abs" = none := by
    rcases gA with ⟨_, q, _⟩ | ⟨q, _⟩
    · exact q
    · cases q
  have ml : mg "list" = none := by
    rcases gL with ⟨_, q, _⟩ | ⟨q, _⟩
    · exact q
    · cases q
  have hcup := cup_ok (P := P) (w := w) (base := base) Fc L.cup (tab_gl tab (ok k)) ma ml
  exact law_ok F L.law (tab_gl tab (ok (k + 1))) mc Fc.kp bc hcup pure
end
end WM
namespace WM
open PySem PySem.Spec PyProof.Rows L2
def locB (sc : Scope) (x : Str) : Bool := decide (sc.names.lookup x = some .local) || decide (sc.names.lookup x = some .cell)
def ownL (N : List Str) (sc : Scope) : List Str := N.filter (locB sc)
theorem locB_ok {sc : Scope} {x : Str} (h : locB sc x = true) : L2.Loc sc x := by
  unfold locB at h
  rw [Bool.or_eq_true] at h
  exact h.elim (fun h => .inl (of_decide_eq_true h)) fun h => .inr (of_decide_eq_true h)
theorem ownL_ok {N : List Str} {sc : Scope} : ∀ x ∈ ownL N sc, L2.Loc sc x := fun x hx => locB_ok (List.mem_filter.mp hx).2
def nodupB : List Str → Bool
  | [] => true
  | x :: xs => !xs.contains x && nodupB xs
theorem nodupB_ok : ∀ {xs : List Str}, nodupB xs = true → xs.Nodup
  | [], _ => List.nodup_nil
  | x :: xs, h => by
    unfold nodupB at h
    rw [Bool.and_eq_true] at h
    refine List.nodup_cons.mpr ⟨fun z => ?_, nodupB_ok h.2⟩
    have : xs.contains x = true := List.contains_iff_mem.mpr z
    rw [this] at h
    cases h.1
def plainB (x : Str) : Bool := !(x == ("__debug__" : Str)) && !(x == ("__classdict__" : Str))
def scB (N ps : List Str) (sc : Scope) : Bool :=
  decide (sc.kind = .function) && (!sc.isCoroutine && (!sc.isGenerator && (nodupB N && (decide (N.take ps.length = ps) && (ps.all (locB sc) && (sc.names.all (fun y => !decide (y.2 = .free)) && N.all plainB))))))
theorem scB_ok {N ps : List Str} {sc : Scope} (h : scB N ps sc = true) : FnScope N ps sc ∧ ∀ x ∈ N, (x == ("__debug__" : Str)) = false ∧ (x == ("__classdict__" : Str)) = false := by
  unfold scB at h
  simp only [Bool.and_eq_true, Bool.not_eq_true', List.all_eq_true] at h
  obtain ⟨h1, h2, h3, h4, h5, h6, h7, h8⟩ := h
  refine ⟨⟨of_decide_eq_true h1, h2, h3, nodupB_ok h4, of_decide_eq_true h5, fun x hx => locB_ok (h6 x hx), fun y hy => of_decide_eq_false (h7 y hy)⟩, fun x hx => ?_⟩
  have := h8 x hx
  unfold plainB at this
  simp only [Bool.and_eq_true, Bool.not_eq_true'] at this
  exact this
def gnB (gl : List (Str × GV)) : Bool := gl.all fun q => !(q.1 == ("__debug__" : Str)) && !decide (q.1 = ("__name__" : Str))
theorem gnB_ok {gl : List (Str × GV)} (h : gnB gl = true) : ∀ x g, gl.lookup x = some g → (x == ("__debug__" : Str)) = false ∧ x ≠ ("__name__" : Str) := fun x g e => by
  have := List.all_eq_true.mp h (x, g) (PySem.mem_of_lookup e)
  simp only [Bool.and_eq_true, Bool.not_eq_true'] at this
  exact ⟨this.1, of_decide_eq_false this.2⟩
theorem fdOk_of {gl : List (Str × GV)} {d : DI} {fd : Fd} (g : gnB gl = true) (s : scB d.N d.ps d.scope = true) (hn : fd.n = d.N.length) (hp : fd.ps = d.ps.length) (c : cmpSs 200 ⟨d.N, d.scope, ownL d.N d.scope, gl, d.cells⟩ d.body = some fd.body) :
    FdOk gl d.cells d.ps d.N d.scope d.body fd :=
  ⟨(scB_ok s).1, hn, hp, (scB_ok s).2, gnB_ok g, ownL d.N d.scope, 200, ownL_ok, c⟩
def OkAll (gl : List (Str × GV)) : List DI → List Fd → Prop
  | [], [] => True
  | d :: ds, f :: T => (FdOk gl d.cells d.ps d.N d.scope d.body f ∧ ArgsT d) ∧ OkAll gl ds T
  | _, _ => False
theorem OkAll.len {gl : List (Str × GV)} : ∀ {ds : List DI} {T : List Fd}, OkAll gl ds T → T.length = ds.length
  | [], [], _ => rfl
  | [], _ :: _, h => h.elim
  | _ :: _, [], h => h.elim
  | _ :: _, _ :: _, h => by rw [List.length_cons, List.length_cons, OkAll.len h.2]
theorem OkAll.get {gl : List (Str × GV)} : ∀ {ds : List DI} {T : List Fd}, OkAll gl ds T → ∀ (i : Nat) (d : DI) (f : Fd), ds[i]? = some d → T[i]? = some f → FdOk gl d.cells d.ps d.N d.scope d.body f ∧ ArgsT d
  | [], _, _, i, _, _, e, _ => by cases i <;> cases e
  | _ :: _, [], h, _, _, _, _, _ => h.elim
  | _ :: _, _ :: _, h, 0, d, f, e1, e2 => by cases e1; cases e2; exact h.1
  | _ :: _, _ :: _, h, i + 1, d, f, e1, e2 => OkAll.get h.2 i d f e1 e2
theorem OkAll.append {gl : List (Str × GV)} : ∀ {ds es : List DI} {T U : List Fd}, OkAll gl ds T → OkAll gl es U → OkAll gl (ds ++ es) (T ++ U)
  | [], _, [], _, _, b => b
  | [], _, _ :: _, _, h, _ => h.elim
  | _ :: _, _, [], _, h, _ => h.elim
  | _ :: _, _, _ :: _, _, h, b => ⟨h.1, OkAll.append h.2 b⟩
theorem OkAll.tab {gl : List (Str × GV)} {ds : List DI} {T : List Fd} (h : OkAll gl ds T) (hb : ds.length < NEWB) : TabT gl ds T := ⟨h.len, hb, fun i d f e1 e2 => (h.get i d f e1 e2).1⟩
theorem OkAll.args {gl : List (Str × GV)} {ds : List DI} {T : List Fd} (h : OkAll gl ds T) : ∀ (i : Nat) (d : DI), ds[i]? = some d → ArgsT d := fun i d e => by
  have hi : i < T.length := by
    rw [h.len]
    exact (List.getElem?_eq_some_iff.mp e).1
  exact (h.get i d _ e (List.getElem?_eq_getElem hi)).2
def glsB' (ds : List DI) (gl : List (Str × GV)) : Bool := gl.all fun q => match q.2 with
  | .fn i n => (match ds[i]? with
    | some d => decide (d.ps.length = n) && decide (d.x = q.1)
    | none => false)
  | _ => true
theorem glsB'_ok {ds : List DI} {gl : List (Str × GV)} (h : glsB' ds gl = true) : ∀ x g, gl.lookup x = some g → (∃ (i : Nat) (d : DI), g = .fn i d.ps.length ∧ ds[i]? = some d ∧ d.x = x) ∨ ∀ i n, g ≠ .fn i n := fun x g e => by
  have := List.all_eq_true.mp h (x, g) (PySem.mem_of_lookup e)
  simp only at this
  cases g with
  | fn i n =>
    simp only at this
    split at this
    · rename_i d hd
      rw [Bool.and_eq_true] at this
      have h1 := of_decide_eq_true this.1
      subst h1
      exact .inl ⟨i, d, rfl, hd, of_decide_eq_true this.2⟩
    · cases this
  | _ => exact .inr fun _ _ z => by cases z
def cupGet : List Stmt → Option Stmt
  | [.Assign [.Name c _] (.Call (.Name a _) [.Subscript (.BinOp (.Call (.Name l _) [.Name s _] [] _) .Add (.List [.Constant (.int 0) _ _] _) _) (.Constant (.int 0) _ _) _] [] _) _, s2] =>
    if c = ("cell" : Str) ∧ a = ("abs" : Str) ∧ l = ("list" : Str) ∧ s = ("script" : Str) then some s2 else none
  | _ => none
theorem cupGet_ok {body : List Stmt} {s2 : Stmt} (h : cupGet body = some s2) : ∃ p1 p2 p3 p4 p5 p6 p7 p8 p9 p10 p11 p12 j j2, body = [.Assign [.Name "cell" p1] (cupE p2 p3 p4 p5 p6 p7 p8 p9 p10 p11 j j2) p12, s2] := by
  unfold cupGet at h
  split at h
  · split at h
    · rename_i q
      obtain ⟨rfl, rfl, rfl, rfl⟩ := q
      cases h
      exact ⟨_, _, _, _, _, _, _, _, _, _, _, _, _, _, rfl⟩
    · cases h
  · cases h
def cupB (gl : List (Str × GV)) (sc : Scope) (body : List Stmt) : Option S := match cupGet body with
  | some s2 => cmpS 200 ⟨["script", "cell"], sc, ownL ["script", "cell"] sc, gl, []⟩ s2
  | none => none
def lkB (sc : Scope) (x : Str) (k : NameKind) : Bool := decide (sc.names.lookup x = some k)
theorem cupT_of {gl : List (Str × GV)} {sc : Scope} {body : List Stmt} (g : gnB gl = true) (s : scB ["script", "cell"] ["script"] sc = true) (h0 : lkB sc "script" .local = true) (h1 : lkB sc "cell" .local = true) (h2 : lkB sc "abs" .globalImplicit = true) (h3 : lkB sc "list" .globalImplicit = true) (h : cupB gl sc body = some cupR) : CupT gl sc body := by
  refine ⟨(scB_ok s).1, .inl (of_decide_eq_true h0), of_decide_eq_true h1, of_decide_eq_true h2, of_decide_eq_true h3, gnB_ok g, ?_⟩
  unfold cupB at h
  split at h
  · rename_i s2 e
    obtain ⟨p1, p2, p3, p4, p5, p6, p7, p8, p9, p10, p11, p12, j, j2, rfl⟩ := cupGet_ok e
    exact ⟨p1, p2, p3, p4, p5, p6, p7, p8, p9, p10, p11, p12, j, j2, s2, _, 200, rfl, ownL_ok, h⟩
  · cases h
def lawGet : List Stmt → Option (List Stmt)
  | .Assign [.Name c _] (.Call (.Name a _) [.Name s _] [] _) _ :: rest => if c = ("cup" : Str) ∧ a = ("_law_cup" : Str) ∧ s = ("script" : Str) then some rest else none
  | _ => none
theorem lawGet_ok {body rest : List Stmt} (h : lawGet body = some rest) : ∃ p1 p2 p3 p4 p5, body = .Assign [.Name "cup" p1] (.Call (.Name "_law_cup" p2) [.Name "script" p3] [] p4) p5 :: rest := by
  unfold lawGet at h
  split at h
  · split at h
    · rename_i q
      obtain ⟨rfl, rfl, rfl⟩ := q
      cases h
      exact ⟨_, _, _, _, _, rfl⟩
    · cases h
  · cases h
def lawB (gl : List (Str × GV)) (cells N : List Str) (sc : Scope) (body : List Stmt) : Option Ss := match lawGet body with
  | some r => cmpSs 200 ⟨N, sc, ownL N sc, gl, cells⟩ r
  | none => none
theorem lawT_of {gl : List (Str × GV)} {cells N : List Str} {sc : Scope} {body : List Stmt} {b : Ss} (g : gnB gl = true) (s : scB N ["script"] sc = true) (n1 : N[0]? = some ("script" : Str)) (n2 : N[1]? = some ("cup" : Str)) (h0 : lkB sc "script" .local = true) (h1 : lkB sc "cup" .local = true) (h2 : lkB sc "_law_cup" .globalImplicit = true)
    (h : lawB gl cells N sc body = some b) : LawT gl cells N sc body b := by
  refine ⟨(scB_ok s).1, n1, n2, (scB_ok s).2, .inl (of_decide_eq_true h0), of_decide_eq_true h1, of_decide_eq_true h2, gnB_ok g, ?_⟩
  unfold lawB at h
  split at h
  · rename_i r e
    obtain ⟨p1, p2, p3, p4, p5, rfl⟩ := lawGet_ok e
    exact ⟨p1, p2, p3, p4, p5, r, _, 200, rfl, ownL_ok, h⟩
  · cases h
end WM
namespace WM
open PySem PySem.Spec PySem.W PySem.Calls PyProof.Rows L2
abbrev KX (x : PySem.W.SharedT) : PySem.W.Frag := He.frG (HandSHeadRun.getT x) (asV (HandSHeadRun.getT x) 4)
def obD (ds : List DI) (x : PySem.W.SharedT) : Bool × List He.FnW := He.obsD (ds.map fun d => He.Fa.glo d.x) (ds.map mkD) (KX x)
def vaD (ds : List DI) : Bool × List He.FnW := He.valD (ds.map mkD)
theorem vaD_app (a b : List DI) : vaD (a ++ b) = (true, (vaD a).2 ++ (vaD b).2) := by
  unfold vaD He.valD
  simp
theorem obD_app (a b : List DI) (x : PySem.W.SharedT) (h1 : obD a x = vaD a) (h2 : obD b x = vaD b) : obD (a ++ b) x = vaD (a ++ b) := by
  rw [vaD_app, ← h1, ← h2]
  have e1 : (obD a x).1 = true := by rw [h1]; rfl
  have e2 : (obD b x).1 = true := by rw [h2]; rfl
  unfold obD He.obsD at *
  simp only [List.map_append, List.all_append, Bool.and_eq_true] at e1 e2 ⊢
  rw [e1.1, e1.2, e2.1, e2.2] <;> rfl
def AtR {α β : Type} (r : Option α) (f : α → β) (v : β) : Prop := r.map f = some v
theorem AtR.ex {α β : Type} {r : Option α} {f : α → β} {v : β} (h : AtR r f v) : ∃ x, r = some x ∧ f x = v := by
  unfold AtR at h
  cases r with
  | none => cases h
  | some x => exact ⟨x, rfl, Option.some.inj h⟩
theorem AtR.app {r : Option (Shared × PySem.W.SharedT)} {a b : List DI} (h1 : AtR r (fun x => obD a x.2) (vaD a)) (h2 : AtR r (fun x => obD b x.2) (vaD b)) : AtR r (fun x => obD (a ++ b) x.2) (vaD (a ++ b)) := by
  obtain ⟨x, rfl, e1⟩ := h1.ex
  obtain ⟨y, e, e2⟩ := h2.ex
  cases e
  exact congrArg some (obD_app a b _ e1 e2)
theorem AtR.pair {α β γ : Type} {r : Option α} {f : α → β} {g : α → γ} {v : β} {u : γ} (h1 : AtR r f v) (h2 : AtR r g u) : AtR r (fun x => (f x, g x)) (v, u) := by
  obtain ⟨x, rfl, e1⟩ := h1.ex
  obtain ⟨y, e, e2⟩ := h2.ex
  cases e
  exact congrArg some (Prod.ext e1 e2)
/-- the run's parts put together (a program with an import at its head) -/
theorem runI_of {r : PySem.W.OpenRow} {q : Program} {M : Nat} {loose : List Str} {w : World} {ds : List DI} {gl : List (Str × GV)}
    (h1 : AtR (HandSHeadRun.wholeF (fun p => HandSHeadRun.stepQ (HandSHeadRun.denQ HandSHeadRun.tabQ) p w) HandSHeadRun.fenceQ M r.prog) (fun x => (HandSHeadRun.looksF r.prog x.1.heap x.2.abs, (HandSHeadRun.seenQ q loose (importedModules r.prog.main.body) (fun s => PySem.W.xlAt q [] s && PySem.W.recOk r.toRowW.records s) x.2.abs, glsB (KX x.2) gl))) (true, (PySem.W.openGood q loose, true)))
    (h2 : AtR (HandSHeadRun.wholeF (fun p => HandSHeadRun.stepQ (HandSHeadRun.denQ HandSHeadRun.tabQ) p w) HandSHeadRun.fenceQ M r.prog) (fun x => obD ds x.2) (vaD ds)) :
    HandSHeadRun.RunEqI r q (hookW 4 (ds.map fun d => He.Fa.glo d.x) (ds.map mkD) gl) (fun s => obsW 4 (ds.map fun d => He.Fa.glo d.x) (ds.map mkD) gl (HandSHeadRun.getT s)) M loose w := by
  unfold HandSHeadRun.RunEqI
  obtain ⟨x, e, e1⟩ := h1.ex
  obtain ⟨y, e', e2⟩ := h2.ex
  rw [e] at e' ⊢
  cases e'
  injection e1 with a1 a2
  injection a2 with a2 a3
  show some (_, _, _) = some (_, _, _)
  rw [a1, a2]
  refine congrArg some (congrArg (Prod.mk true) (congrArg (Prod.mk _) ?_))
  show (glsB (KX x.2) gl, obD ds x.2) = (true, vaD ds)
  rw [a3, e2]
/-- the same of a program without imports -/
theorem run_of {r : PySem.W.OpenRow} {q : Program} {M : Nat} {loose : List Str} {w : World} {ds : List DI} {gl : List (Str × GV)}
    (h1 : ∀ os, AtR (HandSHeadRun.endF (HandSHeadRun.stepQ (HandSHeadRun.denQ HandSHeadRun.tabQ) r.prog w) M r.prog w os) (fun s => (HandSHeadRun.looksF r.prog (boot_heap w.params) s.abs, (HandSHeadRun.seenQ q loose (importedModules r.prog.main.body) (fun s => PySem.W.xlAt q [] s && PySem.W.recOk r.toRowW.records s) s.abs, glsB (KX s) gl))) (true, (PySem.W.openGood q loose, true)))
    (h2 : ∀ os, AtR (HandSHeadRun.endF (HandSHeadRun.stepQ (HandSHeadRun.denQ HandSHeadRun.tabQ) r.prog w) M r.prog w os) (fun x => obD ds x) (vaD ds)) :
    HandSHeadRun.RunEq r q (hookW 4 (ds.map fun d => He.Fa.glo d.x) (ds.map mkD) gl) (fun s => obsW 4 (ds.map fun d => He.Fa.glo d.x) (ds.map mkD) gl (HandSHeadRun.getT s)) M loose w := by
  intro os
  obtain ⟨x, e, e1⟩ := (h1 os).ex
  obtain ⟨y, e', e2⟩ := (h2 os).ex
  rw [e] at e' ⊢
  cases e'
  injection e1 with a1 a2
  injection a2 with a2 a3
  show some (_, _, _) = some (_, _, _)
  rw [a1, a2]
  refine congrArg some (congrArg (Prod.mk true) (congrArg (Prod.mk _) ?_))
  show (glsB (KX x) gl, obD ds x) = (true, vaD ds)
  rw [a3, e2]
end WM
namespace WM
open PySem PySem.Spec PySem.W PySem.Calls PyProof.Rows L2
theorem AtR.app1 {r : Option PySem.W.SharedT} {a b : List DI} (h1 : AtR r (fun x => obD a x) (vaD a)) (h2 : AtR r (fun x => obD b x) (vaD b)) : AtR r (fun x => obD (a ++ b) x) (vaD (a ++ b)) := by
  obtain ⟨x, rfl, e1⟩ := h1.ex
  obtain ⟨y, e, e2⟩ := h2.ex
  cases e
  exact congrArg some (obD_app a b _ e1 e2)
end WM
namespace WM
open PySem PySem.Spec PySem.W PySem.Calls PyProof.Rows L2
theorem AtR.left {α β γ : Type} {r : Option α} {f : α → β} {g : α → γ} {v : β} {u : γ} (h : AtR r (fun x => (f x, g x)) (v, u)) : AtR r f v := by
  obtain ⟨x, rfl, e⟩ := h.ex
  exact congrArg some (congrArg Prod.fst e)
theorem AtR.right {α β γ : Type} {r : Option α} {f : α → β} {g : α → γ} {v : β} {u : γ} (h : AtR r (fun x => (f x, g x)) (v, u)) : AtR r g u := by
  obtain ⟨x, rfl, e⟩ := h.ex
  exact congrArg some (congrArg Prod.snd e)
theorem runI_of2 {r : PySem.W.OpenRow} {q : Program} {M : Nat} {loose : List Str} {w : World} {ds : List DI} {gl : List (Str × GV)}
    (h1 : AtR (HandSHeadRun.wholeF (fun p => HandSHeadRun.stepQ (HandSHeadRun.denQ HandSHeadRun.tabQ) p w) HandSHeadRun.fenceQ M r.prog) (fun x => HandSHeadRun.looksF r.prog x.1.heap x.2.abs) true)
    (h2 : AtR (HandSHeadRun.wholeF (fun p => HandSHeadRun.stepQ (HandSHeadRun.denQ HandSHeadRun.tabQ) p w) HandSHeadRun.fenceQ M r.prog) (fun x => (HandSHeadRun.seenQ q loose (importedModules r.prog.main.body) (fun s => PySem.W.xlAt q [] s && PySem.W.recOk r.toRowW.records s) x.2.abs, (glsB (KX x.2) gl, obD ds x.2))) (PySem.W.openGood q loose, (true, vaD ds))) :
    HandSHeadRun.RunEqI r q (hookW 4 (ds.map fun d => He.Fa.glo d.x) (ds.map mkD) gl) (fun s => obsW 4 (ds.map fun d => He.Fa.glo d.x) (ds.map mkD) gl (HandSHeadRun.getT s)) M loose w :=
  runI_of (AtR.pair h1 (AtR.pair h2.left h2.right.left)) h2.right.right
theorem run_of2 {r : PySem.W.OpenRow} {q : Program} {M : Nat} {loose : List Str} {w : World} {ds : List DI} {gl : List (Str × GV)}
    (h1 : ∀ os, AtR (HandSHeadRun.endF (HandSHeadRun.stepQ (HandSHeadRun.denQ HandSHeadRun.tabQ) r.prog w) M r.prog w os) (fun s => HandSHeadRun.looksF r.prog (boot_heap w.params) s.abs) true)
    (h2 : ∀ os, AtR (HandSHeadRun.endF (HandSHeadRun.stepQ (HandSHeadRun.denQ HandSHeadRun.tabQ) r.prog w) M r.prog w os) (fun s => (HandSHeadRun.seenQ q loose (importedModules r.prog.main.body) (fun s => PySem.W.xlAt q [] s && PySem.W.recOk r.toRowW.records s) s.abs, (glsB (KX s) gl, obD ds s))) (PySem.W.openGood q loose, (true, vaD ds))) :
    HandSHeadRun.RunEq r q (hookW 4 (ds.map fun d => He.Fa.glo d.x) (ds.map mkD) gl) (fun s => obsW 4 (ds.map fun d => He.Fa.glo d.x) (ds.map mkD) gl (HandSHeadRun.getT s)) M loose w :=
  run_of (fun os => AtR.pair (h1 os) (AtR.pair (h2 os).left (h2 os).right.left)) fun os => (h2 os).right.right
end WM
namespace RT
theorem int_uniq {x : Rat} {n m : Int} (h : (n : Rat) ≤ x) (h1 : x < (n : Rat) + 1) (h2 : (m : Rat) ≤ x) (h3 : x < (m : Rat) + 1) : n = m := by
  have a : (n : Rat) < ((m + 1 : Int) : Rat) := by
    rw [Rat.intCast_add]
    grind
  have b : (m : Rat) < ((n + 1 : Int) : Rat) := by
    rw [Rat.intCast_add]
    grind
  have a := Rat.intCast_lt_intCast.mp a
  have b := Rat.intCast_lt_intCast.mp b
  omega
def fr (q : Rat) : Rat := q - (q.floor : Rat)
theorem fr_nn (q : Rat) : 0 ≤ fr q := by
  have := Rat.floor_le q
  unfold fr
  grind
theorem fr_lt (q : Rat) : fr q < 1 := by
  have := Rat.lt_floor_add_one q
  rw [Rat.intCast_add] at this
  unfold fr
  grind
theorem fr_ex (q : Rat) : ∃ n : Int, fr q = q + (n : Rat) := ⟨-q.floor, by unfold fr; rw [Rat.intCast_neg]; grind⟩
theorem fr_of {q : Rat} (h0 : 0 ≤ q) (h1 : q < 1) : fr q = q := by
  have e : q.floor = 0 := int_uniq (x := q) (Rat.floor_le q) (by have := Rat.lt_floor_add_one q; rw [Rat.intCast_add] at this; exact this) (by simpa using h0) (by rw [Rat.intCast_zero]; grind)
  unfold fr
  rw [e]
  grind
theorem fr_add (q : Rat) (n : Int) : fr (q + (n : Rat)) = fr q := by
  have e : (q + (n : Rat)).floor = q.floor + n := by
    refine int_uniq (x := q + n) (Rat.floor_le _) (by have := Rat.lt_floor_add_one (q + n); rw [Rat.intCast_add] at this; exact this) ?_ ?_
    · have := Rat.floor_le q
      rw [Rat.intCast_add]
      grind
    · have := Rat.lt_floor_add_one q
      rw [Rat.intCast_add] at this ⊢
      grind
  unfold fr
  rw [e, Rat.intCast_add]
  grind
theorem fr_congr {a b : Rat} {n : Int} (h : a = b + (n : Rat)) : fr a = fr b := by rw [h, fr_add]
theorem fr_eq {a b : Rat} (h : fr a = fr b) : ∃ n : Int, a = b + (n : Rat) := by
  obtain ⟨n, hn⟩ := fr_ex a
  obtain ⟨m, hm⟩ := fr_ex b
  refine ⟨m - n, ?_⟩
  rw [Rat.intCast_sub]
  grind
theorem fr_zero {a : Rat} (h : fr a = 0) : ∃ n : Int, a = (n : Rat) := ⟨a.floor, by unfold fr at h; grind⟩
theorem fr_int (n : Int) : fr (n : Rat) = 0 := by
  have := fr_add 0 n
  rw [Rat.zero_add] at this
  rw [this]
  exact fr_of (by grind) (by grind)
def wy (q : Rat) : Rat := if fr q < 1 / 2 then fr q else fr q - 1
theorem wy_lo (q : Rat) : -(1 / 2) ≤ wy q := by
  have := fr_nn q
  unfold wy
  split <;> grind
theorem wy_hi (q : Rat) : wy q < 1 / 2 := by
  have := fr_lt q
  unfold wy
  split <;> grind
theorem wy_ex (q : Rat) : ∃ n : Int, wy q = q + (n : Rat) := by
  obtain ⟨n, hn⟩ := fr_ex q
  unfold wy
  split
  · exact ⟨n, hn⟩
  · refine ⟨n - 1, ?_⟩
    rw [Rat.intCast_sub]
    grind
theorem wy_add (q : Rat) (n : Int) : wy (q + (n : Rat)) = wy q := by
  unfold wy
  rw [fr_add]
theorem wy_congr {a b : Rat} {n : Int} (h : a = b + (n : Rat)) : wy a = wy b := by rw [h, wy_add]
theorem wy_of {q : Rat} (h0 : -(1 / 2) ≤ q) (h1 : q < 1 / 2) : wy q = q := by
  by_cases c : 0 ≤ q
  · have e := fr_of c (by grind)
    unfold wy
    rw [e, if_pos h1]
  · have e : fr q = q + 1 := by
      have := fr_add q 1
      rw [← this]
      exact fr_of (by grind) (by grind)
    unfold wy
    rw [e, if_neg (by grind)]
    grind
def ab (q : Rat) : Rat := if q < 0 then -q else q
theorem ab_neg (q : Rat) : ab (-q) = ab q := by
  unfold ab
  split <;> split <;> grind
theorem ab_nn (q : Rat) : 0 ≤ ab q := by
  unfold ab
  split <;> grind
theorem ab_zero {q : Rat} : ab q = 0 ↔ q = 0 := by
  unfold ab
  split <;> grind
/-- the way is the shorter of the two parts -/
theorem ab_wy (q : Rat) : ab (wy q) = if fr q ≤ 1 - fr q then fr q else 1 - fr q := by
  have a := fr_nn q
  have b := fr_lt q
  unfold ab wy
  split <;> split <;> split <;> grind
theorem wy_zero {q : Rat} : wy q = 0 ↔ fr q = 0 := by
  have a := fr_nn q
  have b := fr_lt q
  unfold wy
  split <;> grind
theorem cut_num (t b : Int) (hb : 0 < b) : (Rat.divInt t b).num = t / (Int.gcd t b : Int) := by
  rw [Rat.num_divInt, Int.sign_eq_one_of_pos hb, Int.one_mul, Int.gcd_comm]
theorem cut_den (t b : Int) (hb : 0 < b) : ((Rat.divInt t b).den : Int) = b / (Int.gcd t b : Int) := by
  rw [Rat.den_divInt, if_neg (by omega), Int.gcd_comm]
  have : (b.natAbs : Int) = b := by omega
  rw [Int.natCast_ediv, this]
theorem cast_ne {b : Int} (hb : b ≠ 0) : (b : Rat) ≠ 0 := fun h => hb (Rat.intCast_inj.mp (by rw [h, Rat.intCast_zero]))
theorem den_ne (q : Rat) : ((q.den : Int) : Rat) ≠ 0 := cast_ne (by have := q.den_pos; omega)
theorem eq_div (q : Rat) : q = (q.num : Rat) / ((q.den : Int) : Rat) := by
  have := Rat.num_divInt_den q
  rw [Rat.divInt_eq_div] at this
  exact this.symm
theorem add_div (p q : Rat) : Rat.divInt (p.num * q.den + q.num * p.den) (p.den * q.den) = p + q := by
  rw [← Rat.divInt_add_divInt _ _ (by have := p.den_pos; omega) (by have := q.den_pos; omega), Rat.num_divInt_den, Rat.num_divInt_den]
theorem mul_div (p q : Rat) : Rat.divInt (p.num * q.num) (p.den * q.den) = p * q := by
  rw [← Rat.divInt_mul_divInt, Rat.num_divInt_den, Rat.num_divInt_den]
theorem muli_div (p : Rat) (n : Int) : Rat.divInt (p.num * n) p.den = p * (n : Rat) := by
  rw [Rat.divInt_eq_div, Rat.intCast_mul]
  have := eq_div p
  have := den_ne p
  grind
theorem side_le (p q : Rat) : 0 ≤ p.num * q.den - q.num * p.den ↔ q ≤ p := by
  rw [Rat.le_iff]
  omega
theorem fr_div (q : Rat) : Rat.divInt (q.num % q.den) q.den = fr q := by
  unfold fr
  rw [Rat.floor_def, Rat.divInt_eq_div]
  have e : q.num % (q.den : Int) = q.num - q.den * (q.num / q.den) := Int.emod_def _ _
  rw [e, Rat.intCast_sub, Rat.intCast_mul]
  have := eq_div q
  have := den_ne q
  grind
theorem num_neg (q : Rat) : (-q).num = -q.num := rfl
theorem den_neg (q : Rat) : (-q).den = q.den := rfl
theorem ab_num (q : Rat) : (ab q).num = if q.num < 0 then -q.num else q.num := by
  have : q.num < 0 ↔ q < 0 := by
    have := Rat.num_nonneg (q := q)
    constructor
    · intro h
      exact Rat.not_le.mp fun z => by have := this.mpr z; omega
    · intro h
      have : ¬ 0 ≤ q.num := fun z => absurd (this.mp z) (Rat.not_le.mpr h)
      omega
  unfold ab
  by_cases h : q < 0
  · rw [if_pos h, if_pos (this.mpr h), num_neg]
  · rw [if_neg h, if_neg (fun z => h (this.mp z))]
theorem ab_den (q : Rat) : (ab q).den = q.den := by
  unfold ab
  split <;> rfl
theorem divInt_den_le {t b : Int} (hb : 0 < b) : ((Rat.divInt t b).den : Int) ≤ b := by
  rw [cut_den t b hb]
  exact Int.ediv_le_self _ (by omega)
theorem divInt_num_le {t b : Int} (hb : 0 < b) : (Rat.divInt t b).num.natAbs ≤ t.natAbs := by
  rw [cut_num t b hb]
  exact Int.natAbs_ediv_le_natAbs t _
theorem divInt_eq {t b : Int} (hb : 0 < b) : Rat.divInt t b = (t : Rat) / (b : Rat) := Rat.divInt_eq_div t b
theorem fr_divInt {t b : Int} (hb : 0 < b) : fr (Rat.divInt t b) = Rat.divInt (t % b) b := by
  have hbr := cast_ne (b := b) (by omega)
  have e : Rat.divInt t b = Rat.divInt (t % b) b + ((t / b : Int) : Rat) := by
    rw [Rat.divInt_eq_div, Rat.divInt_eq_div]
    have e2 := congrArg (fun z : Int => (z : Rat)) (Int.emod_add_mul_ediv t b)
    simp only [Rat.intCast_add, Rat.intCast_mul] at e2
    grind
  rw [fr_congr e]
  have a1 := Int.emod_nonneg t (show b ≠ 0 by omega)
  have a2 := Int.emod_lt_of_pos t hb
  have hbp : (0 : Rat) < (b : Rat) := by
    have := Rat.intCast_lt_intCast.mpr hb
    rw [Rat.intCast_zero] at this
    exact this
  have c1 : (0 : Rat) ≤ ((t % b : Int) : Rat) := by
    have := Rat.intCast_le_intCast.mpr a1
    rw [Rat.intCast_zero] at this
    exact this
  have c2 := Rat.intCast_lt_intCast.mpr a2
  refine fr_of ?_ ?_
  · rw [Rat.divInt_eq_div]
    refine Rat.not_lt.mp fun z => ?_
    have z := (Rat.div_lt_iff hbp).mp z
    rw [Rat.zero_mul] at z
    exact absurd z (Rat.not_lt.mpr c1)
  · rw [Rat.divInt_eq_div]
    exact (Rat.div_lt_iff hbp).mpr (by rw [Rat.one_mul]; exact c2)
theorem divInt_zero {t b : Int} (hb : 0 < b) : Rat.divInt t b = 0 ↔ t = 0 := by
  constructor
  · intro h
    rw [Rat.divInt_eq_div] at h
    have hbr := cast_ne (b := b) (by omega)
    have : (t : Rat) = 0 := by grind
    rw [← Rat.intCast_zero] at this
    exact Rat.intCast_inj.mp this
  · intro h
    subst h
    exact Rat.zero_divInt b
theorem fr_mul_zero {q : Rat} {c : Int} : fr (q * (c : Rat)) = 0 ↔ (q.num * c) % q.den = 0 := by
  rw [← muli_div, fr_divInt (by have := q.den_pos; omega), divInt_zero (by have := q.den_pos; omega)]
theorem fr_muli (q : Rat) (c : Int) : fr (q * (c : Rat)) = Rat.divInt ((q.num * c) % q.den) q.den := by
  rw [← muli_div, fr_divInt (by have := q.den_pos; omega)]
end RT
namespace WM
open PySem PySem.Spec PyProof.Rows L2
@[simp] theorem ix2_0 (a b : D) : ixD (.tuple [a, b]) (.int 0) = some a := rfl
@[simp] theorem ix2_1 (a b : D) : ixD (.tuple [a, b]) (.int 1) = some b := rfl
@[simp] theorem ix3_0 (a b c : D) : ixD (.tuple [a, b, c]) (.int 0) = some a := rfl
@[simp] theorem ix3_1 (a b c : D) : ixD (.tuple [a, b, c]) (.int 1) = some b := rfl
@[simp] theorem ix3_2 (a b c : D) : ixD (.tuple [a, b, c]) (.int 2) = some c := rfl
@[simp] theorem ixL2_0 (a b : D) : ixD (.list [a, b]) (.int 0) = some a := rfl
@[simp] theorem ixL2_1 (a b : D) : ixD (.list [a, b]) (.int 1) = some b := rfl
@[simp] theorem ixW_d (x y : D) (st : Store) : ixW (.d x) y st = ixD x y := rfl
@[simp] theorem shp_int (i : Int) : shp (.int i) = true := by simp [shp, SeqAt.shaped, PyData.canLay0, PyData.depth]
@[simp] theorem shp_bool (i : Bool) : shp (.bool i) = true := by simp [shp, SeqAt.shaped, PyData.canLay0, PyData.depth]
@[simp] theorem shp_none : shp .none = true := by simp [shp, SeqAt.shaped, PyData.canLay0, PyData.depth]
@[simp] theorem shp_i2 (i j : Int) : shp (.tuple [.int i, .int j]) = true := by simp [shp, SeqAt.shaped, PyData.canLay0, PyData.canLayAll0, PyData.depth, PyData.depthAll]
theorem eq_d {x y : D} (h1 : shp x = true) (h2 : shp y = true) : cmpD .Eq x y = some (PyData.eqv x y) := by
  show (if shp x && shp y then some (PyData.eqv x y) else none) = _
  rw [h1, h2]
  rfl
theorem ne_d {x y : D} (h1 : shp x = true) (h2 : shp y = true) : cmpD .NotEq x y = some (!PyData.eqv x y) := by
  show (if shp x && shp y then some (!PyData.eqv x y) else none) = _
  rw [h1, h2]
  rfl
@[simp] theorem eqv_int (i j : Int) : PyData.eqv (.int i) (.int j) = decide (i = j) := by
  simp only [PyData.eqv]
  rw [Bool.eq_iff_iff]
  simp
@[simp] theorem eq_i (i j : Int) : cmpD .Eq (.int i) (.int j) = some (decide (i = j)) := by rw [eq_d (by simp) (by simp), eqv_int]
@[simp] theorem ne_i (i j : Int) : cmpD .NotEq (.int i) (.int j) = some (!decide (i = j)) := by rw [ne_d (by simp) (by simp), eqv_int]
@[simp] theorem eqv_bool (i j : Bool) : PyData.eqv (.bool i) (.bool j) = decide (i = j) := by
  simp only [PyData.eqv]
  rw [Bool.eq_iff_iff]
  simp
@[simp] theorem eq_b (i j : Bool) : cmpD .Eq (.bool i) (.bool j) = some (decide (i = j)) := by rw [eq_d (by simp) (by simp), eqv_bool]
@[simp] theorem ne_b (i j : Bool) : cmpD .NotEq (.bool i) (.bool j) = some (!decide (i = j)) := by rw [ne_d (by simp) (by simp), eqv_bool]
/-- a fraction -/
def pr (q : Rat) : D := .tuple [.int q.num, .int q.den]
@[simp] theorem shp_pr (q : Rat) : shp (pr q) = true := shp_i2 _ _
theorem rat_eq (p q : Rat) : (p.num = q.num ∧ (p.den : Int) = q.den) ↔ p = q := ⟨fun h => Rat.ext h.1 (by have := h.2; omega), fun h => by subst h; exact ⟨rfl, rfl⟩⟩
@[simp] theorem eqv_pr (p q : Rat) : PyData.eqv (pr p) (pr q) = decide (p = q) := by
  unfold pr
  simp only [PyData.eqv, PyData.eqvAll, ← rat_eq]
  rw [Bool.eq_iff_iff]
  simp
@[simp] theorem eq_pr (p q : Rat) : cmpD .Eq (pr p) (pr q) = some (decide (p = q)) := by rw [eq_d (by simp) (by simp), eqv_pr]
@[simp] theorem ne_pr (p q : Rat) : cmpD .NotEq (pr p) (pr q) = some (!decide (p = q)) := by rw [ne_d (by simp) (by simp), eqv_pr]
@[simp] theorem ixpr_0 (q : Rat) : ixD (pr q) (.int 0) = some (.int q.num) := rfl
@[simp] theorem ixpr_1 (q : Rat) : ixD (pr q) (.int 1) = some (.int q.den) := rfl
@[simp] theorem gcd_b (i j : Int) : bltD .gcd [.int i, .int j] = some (.int (Int.gcd i j)) := rfl
@[simp] theorem int_b (i : Int) : bltD .int [.int i] = some (.int i) := rfl
@[simp] theorem len_t (xs : List D) : bltD .len [.tuple xs] = some (.int xs.length) := rfl
@[simp] theorem len_l (xs : List D) : bltD .len [.list xs] = some (.int xs.length) := rfl
@[simp] theorem tup_l (xs : List D) : bltD .tuple [.list xs] = some (.tuple xs) := rfl
theorem abs_b (i : Int) : bltD .abs [.int i] = some (.int (if i < 0 then -i else i)) := rfl
@[simp] theorem isn_n : cmpD .Is .none .none = some true := rfl
@[simp] theorem isn_i (i : Int) : cmpD .Is (.int i) .none = some false := rfl
@[simp] theorem isn_t (xs : List D) : cmpD .Is (.tuple xs) .none = some false := rfl
@[simp] theorem isn_p (q : Rat) : cmpD .Is (pr q) .none = some false := rfl
@[simp] theorem isnn_n : cmpD .IsNot .none .none = some false := rfl
@[simp] theorem isnn_i (i : Int) : cmpD .IsNot (.int i) .none = some true := rfl
@[simp] theorem isnn_t (xs : List D) : cmpD .IsNot (.tuple xs) .none = some true := rfl
@[simp] theorem isnn_p (q : Rat) : cmpD .IsNot (pr q) .none = some true := rfl
@[simp] theorem isb (a b : Bool) : cmpD .Is (.bool a) (.bool b) = some (a == b) := rfl
@[simp] theorem isnb (a b : Bool) : cmpD .IsNot (.bool a) (.bool b) = some !(a == b) := rfl
theorem whlN_mono {c : EM} {b : SM} {r : Fl × Sl × Store} : ∀ {n : Nat} {sl : Sl} {st : Store}, whlN c b n sl st = some r → whlN c b (n + 1) sl st = some r
  | 0, _, _, h => by cases h
  | n + 1, sl, st, h => by
    unfold whlN at h
    obtain ⟨w, st1, e1, h⟩ := andW_some h
    unfold whlN
    rw [e1]
    simp only [andW_s]
    cases et : truW w with
    | none => rw [et] at h; cases h
    | some t =>
      rw [et] at h
      cases t with
      | false => exact h
      | true =>
        simp only at h ⊢
        cases e2 : b sl st1 with
        | none => rw [e2] at h; cases h
        | some z =>
          obtain ⟨fl, sl2, st2⟩ := z
          rw [e2] at h
          cases fl with
          | nx => exact whlN_mono h
          | ct => exact whlN_mono h
          | bk => exact h
          | ret w2 => exact h
theorem whlN_le {c : EM} {b : SM} {r : Fl × Sl × Store} {n m : Nat} {sl : Sl} {st : Store} (h : whlN c b n sl st = some r) (hm : n ≤ m) : whlN c b m sl st = some r := by
  induction hm with
  | refl => exact h
  | step _ ih => exact whlN_mono ih
theorem whlW_of {c : EM} {b : SM} {r : Fl × Sl × Store} {n : Nat} {sl : Sl} {st : Store} (h : whlN c b n sl st = some r) : whlW c b sl st = some r := by
  unfold whlW
  have uniq : ∀ {m : Nat} {q : Fl × Sl × Store}, whlN c b m sl st = some q → q = r := fun {m q} e => by
    rcases Nat.le_total n m with l | l
    · have := whlN_le h l
      rw [e] at this
      exact Option.some.inj this
    · have := whlN_le e l
      rw [h] at this
      exact (Option.some.inj this).symm
  split
  · rename_i q e
    rw [uniq e]
  · have hx : ∃ n r, whlN c b n sl st = some r := ⟨n, r, h⟩
    rw [dif_pos hx, uniq hx.choose_spec.choose_spec]
end WM
namespace WM
open PySem PySem.Spec PyProof.Rows L2 RT
structure Bd (q : Rat) (N D : Nat) : Prop where
  n : q.num.natAbs ≤ N
  d : q.den ≤ D
theorem Bd.mono {q : Rat} {N D N' D' : Nat} (h : Bd q N D) (h1 : N ≤ N') (h2 : D ≤ D') : Bd q N' D' := ⟨Nat.le_trans h.n h1, Nat.le_trans h.d h2⟩
theorem Bd.of_divInt {t b : Int} {N D : Nat} (hb : 0 < b) (h1 : t.natAbs ≤ N) (h2 : b.natAbs ≤ D) : Bd (Rat.divInt t b) N D :=
  ⟨Nat.le_trans (divInt_num_le hb) h1, by have := divInt_den_le (t := t) hb; omega⟩
theorem den_pos' (q : Rat) : (0 : Int) < q.den := by have := q.den_pos; omega
theorem Bd.add {p q : Rat} {N D M E : Nat} (h1 : Bd p N D) (h2 : Bd q M E) : Bd (p + q) (N * E + M * D) (D * E) := by
  rw [← add_div]
  refine Bd.of_divInt (Int.mul_pos (den_pos' p) (den_pos' q)) ?_ ?_
  · refine Nat.le_trans (Int.natAbs_add_le _ _) ?_
    rw [Int.natAbs_mul, Int.natAbs_mul]
    exact Nat.add_le_add (Nat.mul_le_mul h1.n (by simpa using h2.d)) (Nat.mul_le_mul h2.n (by simpa using h1.d))
  · rw [Int.natAbs_mul]
    exact Nat.mul_le_mul (by simpa using h1.d) (by simpa using h2.d)
theorem Bd.mul {p q : Rat} {N D M E : Nat} (h1 : Bd p N D) (h2 : Bd q M E) : Bd (p * q) (N * M) (D * E) := by
  rw [← mul_div]
  refine Bd.of_divInt (Int.mul_pos (den_pos' p) (den_pos' q)) ?_ ?_
  · rw [Int.natAbs_mul]
    exact Nat.mul_le_mul h1.n h2.n
  · rw [Int.natAbs_mul]
    exact Nat.mul_le_mul (by simpa using h1.d) (by simpa using h2.d)
theorem Bd.muli {p : Rat} {N D M : Nat} {n : Int} (h1 : Bd p N D) (h2 : n.natAbs ≤ M) : Bd (p * (n : Rat)) (N * M) D := by
  rw [← muli_div]
  refine Bd.of_divInt (den_pos' p) ?_ (by simpa using h1.d)
  rw [Int.natAbs_mul]
  exact Nat.mul_le_mul h1.n h2
theorem Bd.neg {p : Rat} {N D : Nat} (h1 : Bd p N D) : Bd (-p) N D := ⟨by rw [num_neg, Int.natAbs_neg]; exact h1.n, h1.d⟩
theorem Bd.ab {p : Rat} {N D : Nat} (h1 : Bd p N D) : Bd (ab p) N D := by
  unfold RT.ab
  split
  · exact h1.neg
  · exact h1
theorem Bd.fr {p : Rat} {N D : Nat} (h1 : Bd p N D) : Bd (fr p) D D := by
  rw [← fr_div]
  refine Bd.of_divInt (den_pos' p) ?_ (by simpa using h1.d)
  have a := Int.emod_nonneg p.num (Int.ne_of_gt (den_pos' p))
  have b := Int.emod_lt_of_pos p.num (den_pos' p)
  have := h1.d
  omega
theorem Bd.int (i : Int) : Bd (i : Rat) i.natAbs 1 := ⟨by rw [Rat.num_intCast]; exact Nat.le_refl _, by simp⟩
theorem Bd.wy {p : Rat} {N D : Nat} (h1 : Bd p N D) : Bd (wy p) (2 * D) D := by
  unfold RT.wy
  split
  · exact h1.fr.mono (by omega) (Nat.le_refl _)
  · have := (h1.fr).add (Bd.int (-1))
    have e : RT.fr p - 1 = RT.fr p + ((-1 : Int) : Rat) := by
      rw [Rat.intCast_neg, Rat.intCast_one]
      grind
    rw [e]
    refine this.mono ?_ ?_
    · simp
      omega
    · omega
/-- small: any product of two stays within what the machine's ints are allowed here -/
structure Sm (q : Rat) : Prop where
  n : q.num.natAbs < 2 ^ 1000
  d : q.den < 2 ^ 1000
theorem Bd.sm {q : Rat} {N D : Nat} (h : Bd q N D) (h1 : N < 2 ^ 1000 := by decide) (h2 : D < 2 ^ 1000 := by decide) : Sm q := ⟨Nat.lt_of_le_of_lt h.n h1, Nat.lt_of_le_of_lt h.d h2⟩
theorem big1 {n : Nat} (h : n < 2 ^ 1000) : n < BIG := lt_big (Nat.lt_trans h (by decide +kernel))
theorem Sm.mul_ok {i j : Int} (h1 : i.natAbs < 2 ^ 1000) (h2 : j.natAbs < 2 ^ 1000) : binD .Mult (.int i) (.int j) = some (.int (i * j)) := mul_i (mulOk_b (big1 h1) (big1 h2))
theorem Sm.dd {p q : Rat} (h1 : Sm p) (h2 : Sm q) : ((p.den : Int) * q.den).natAbs < BIG := by
  rw [Int.natAbs_mul]
  refine lt_big (Nat.lt_of_le_of_lt (Nat.mul_le_mul (show (p.den : Int).natAbs ≤ 2 ^ 1000 by have := h1.d; simpa using Nat.le_of_lt this) (show (q.den : Int).natAbs ≤ 2 ^ 1000 by have := h2.d; simpa using Nat.le_of_lt this)) ?_)
  rw [← Nat.pow_add]
  exact Nat.pow_lt_pow_right (by omega) (by omega)
theorem Sm.d' {p : Rat} (h : Sm p) : ((p.den : Int)).natAbs < 2 ^ 1000 := by simpa using h.d
end WM
namespace WM
open PySem PySem.Spec PyProof.Rows L2 RT
abbrev P (q : Rat) : W := .d (pr q)
abbrev Z (i : Int) : W := .d (.int i)
abbrev Bl (b : Bool) : W := .d (.bool b)
abbrev Tu (xs : List D) : W := .d (.tuple xs)
abbrev Li (xs : List D) : W := .d (.list xs)
abbrev No : W := .d .none
theorem comp_fil {g : D → Option Sl} {c e : EM} {p : D → Bool} {f : D → D} {st : Store} : ∀ {ds : List D}, (∀ x ∈ ds, ∃ sl, g x = some sl ∧ c sl st = some (.d (.bool (p x)), st) ∧ (p x = true → e sl st = some (.d (f x), st))) → compL g c e ds st = some ((ds.filter p).map f, st)
  | [], _ => rfl
  | d :: ds, h => by
    obtain ⟨sl, h1, h2, h3⟩ := h d (List.mem_cons_self ..)
    have ih := comp_fil (p := p) (f := f) (ds := ds) fun x hx => h x (List.mem_cons_of_mem _ hx)
    unfold compL
    cases hp : p d with
    | false =>
      rw [hp] at h2
      simp only [h1, h2, andW_s, truW_b, List.filter_cons_of_neg (p := p) (a := d) (l := ds) (by rw [hp]; decide)]
      exact ih
    | true =>
      rw [hp] at h2
      simp only [h1, h2, h3 hp, andW_s, andD_s, truW_b, List.filter_cons_of_pos (p := p) (a := d) (l := ds) hp, ih]
      rfl
/-- over any list of things -/
theorem comp_map {α : Type} {g : D → Option Sl} {e : EM} (x : α → D) (f : α → D) {st : Store} : ∀ {l : List α}, (∀ a ∈ l, ∃ sl, g (x a) = some sl ∧ e sl st = some (.d (f a), st)) → compL g (fun _ st => some (.d (.bool true), st)) e (l.map x) st = some (l.map f, st)
  | [], _ => rfl
  | a :: l, h => by
    obtain ⟨sl, h1, h2⟩ := h a (List.mem_cons_self ..)
    have ih := comp_map (g := g) (e := e) x f (st := st) (l := l) fun b hb => h b (List.mem_cons_of_mem _ hb)
    rw [List.map_cons]
    unfold compL
    simp only [h1, h2, andW_s, andD_s, truW_b, ih]
    rfl
/-- the elements turn the store -/
theorem comp_st {α : Type} {g : D → Option Sl} {e : EM} (x : α → D) (J : Store → Prop) (R : α → D → Prop) : ∀ {l : List α} {st : Store}, (∀ a ∈ l, ∀ st, J st → ∃ sl d st', g (x a) = some sl ∧ e sl st = some (.d d, st') ∧ J st' ∧ R a d) → J st →
    ∃ (ds : List D) (st' : Store), compL g (fun _ st => some (.d (.bool true), st)) e (l.map x) st = some (ds, st') ∧ J st' ∧ ds.length = l.length ∧ ∀ (i : Nat) (a : α) (d : D), l[i]? = some a → ds[i]? = some d → R a d
  | [], st, _, j => ⟨[], st, rfl, j, rfl, fun i a d e _ => by cases i <;> cases e⟩
  | a :: l, st, h, j => by
    obtain ⟨sl, d, st1, h1, h2, j1, r⟩ := h a (List.mem_cons_self ..) st j
    obtain ⟨ds, st2, e2, j2, l2, r2⟩ := comp_st (l := l) (g := g) (e := e) x J R (fun b hb => h b (List.mem_cons_of_mem _ hb)) j1
    refine ⟨d :: ds, st2, ?_, j2, by simp [l2], fun i b d' e1 e3 => ?_⟩
    · rw [List.map_cons]
      unfold compL
      simp only [h1, h2, andW_s, andD_s, truW_b, e2]
    · cases i with
      | zero => cases e1; cases e3; exact r
      | succ i => exact r2 i b d' (by simpa using e1) (by simpa using e3)
theorem comp_fm {α : Type} {g : D → Option Sl} {c e : EM} (x : α → D) (p : α → Bool) (f : α → D) {st : Store} : ∀ {l : List α}, (∀ a ∈ l, ∃ sl, g (x a) = some sl ∧ c sl st = some (.d (.bool (p a)), st) ∧ (p a = true → e sl st = some (.d (f a), st))) → compL g c e (l.map x) st = some ((l.filter p).map f, st)
  | [], _ => rfl
  | a :: l, h => by
    obtain ⟨sl, h1, h2, h3⟩ := h a (List.mem_cons_self ..)
    have ih := comp_fm (g := g) (c := c) (e := e) x p f (st := st) (l := l) fun b hb => h b (List.mem_cons_of_mem _ hb)
    rw [List.map_cons]
    unfold compL
    cases hp : p a with
    | false =>
      rw [hp] at h2
      simp only [h1, h2, andW_s, truW_b, List.filter_cons_of_neg (p := p) (a := a) (l := l) (by rw [hp]; decide)]
      exact ih
    | true =>
      rw [hp] at h2
      simp only [h1, h2, h3 hp, andW_s, andD_s, truW_b, List.filter_cons_of_pos (p := p) (a := a) (l := l) hp, ih]
      rfl
theorem comp_none {g : D → Option Sl} {c e : EM} {st : Store} : ∀ {ds : List D}, (∀ d ∈ ds, ∃ sl, g d = some sl ∧ c sl st = some (.d (.bool false), st)) → compL g c e ds st = some ([], st)
  | [], _ => rfl
  | d :: ds, h => by
    obtain ⟨sl, h1, h2⟩ := h d (List.mem_cons_self ..)
    unfold compL
    simp only [h1, h2, andW_s, truW_b]
    exact comp_none fun d hd => h d (List.mem_cons_of_mem _ hd)
theorem for_inv {g : D → Sl → Option Sl} {b : SM} (J : Sl → Store → Prop) : ∀ {ds : List D} {sl : Sl} {st : Store}, (∀ x ∈ ds, ∀ sl st, J sl st → ∃ sl1 sl2 st2, g x sl = some sl1 ∧ b sl1 st = some (.nx, sl2, st2) ∧ J sl2 st2) → J sl st → ∃ sl' st', forL g b ds sl st = some (.nx, sl', st') ∧ J sl' st'
  | [], sl, st, _, j => ⟨sl, st, rfl, j⟩
  | d :: ds, sl, st, h, j => by
    obtain ⟨sl1, sl2, st2, h1, h2, j2⟩ := h d (List.mem_cons_self ..) sl st j
    obtain ⟨sl', st', e, j'⟩ := for_inv J (ds := ds) (fun x hx => h x (List.mem_cons_of_mem _ hx)) j2
    refine ⟨sl', st', ?_, j'⟩
    unfold forL
    simp only [h1, h2]
    exact e
/-- a loop that runs through; a what it makes, h what it leaves behind -/
theorem for_fold {α β γ : Type} {g : D → Sl → Option Sl} {b : SM} (x : γ → D) (F : α → β → Sl) (S : α → Store) (f : α → γ → α) (J : α → Prop) : ∀ {l : List γ} {a : α} {h : β},
    (∀ c ∈ l, ∀ a h, J a → ∃ sl h', g (x c) (F a h) = some sl ∧ b sl (S a) = some (.nx, F (f a c) h', S (f a c)) ∧ J (f a c)) → J a → ∃ h', forL g b (l.map x) (F a h) (S a) = some (.nx, F (l.foldl f a) h', S (l.foldl f a)) ∧ J (l.foldl f a)
  | [], a, h, _, j => ⟨h, rfl, j⟩
  | c :: l, a, h, hh, j => by
    obtain ⟨sl, h1, e1, e2, j1⟩ := hh c (List.mem_cons_self ..) a h j
    obtain ⟨h2, e3, j2⟩ := for_fold (l := l) (a := f a c) (h := h1) x F S f J (fun d hd => hh d (List.mem_cons_of_mem _ hd)) j1
    refine ⟨h2, ?_, j2⟩
    rw [List.map_cons]
    unfold forL
    simp only [e1, e2]
    exact e3
/-- with what is still to come in sight: J (done) -/
theorem for_done {β γ : Type} {g : D → Sl → Option Sl} {b : SM} (x : γ → D) (F : List γ → β → Sl) (S : List γ → Store) : ∀ {l done : List γ} {h : β},
    (∀ (d : List γ) (c : γ) (r : List γ) (h : β), done ++ l = d ++ c :: r → ∃ sl h', g (x c) (F d h) = some sl ∧ b sl (S d) = some (.nx, F (d ++ [c]) h', S (d ++ [c]))) → ∃ h', forL g b (l.map x) (F done h) (S done) = some (.nx, F (done ++ l) h', S (done ++ l))
  | [], done, h, _ => ⟨h, by rw [List.append_nil]; rfl⟩
  | c :: l, done, h, hh => by
    obtain ⟨sl, h1, e1, e2⟩ := hh done c l h rfl
    obtain ⟨h2, e3⟩ := for_done (l := l) (done := done ++ [c]) (h := h1) x F S fun d c' r h0 e => hh d c' r h0 (by rw [← e]; simp)
    refine ⟨h2, ?_⟩
    rw [List.map_cons]
    unfold forL
    simp only [e1, e2]
    rw [e3]
    simp
/-- a loop that runs through, all turns leave nothing behind but h -/
theorem for_holes {β γ : Type} {g : D → Sl → Option Sl} {b : SM} (x : γ → D) (F : β → Sl) (st : Store) : ∀ {l : List γ} {h : β},
    (∀ c ∈ l, ∀ h, ∃ sl h', g (x c) (F h) = some sl ∧ b sl st = some (.nx, F h', st)) → ∃ h', forL g b (l.map x) (F h) st = some (.nx, F h', st)
  | [], h, _ => ⟨h, rfl⟩
  | c :: l, h, hh => by
    obtain ⟨sl, h1, e1, e2⟩ := hh c (List.mem_cons_self ..) h
    obtain ⟨h2, e3⟩ := for_holes (l := l) (h := h1) x F st fun d hd => hh d (List.mem_cons_of_mem _ hd)
    refine ⟨h2, ?_⟩
    rw [List.map_cons]
    unfold forL
    simp only [e1, e2]
    exact e3
/-- a loop that hands back at the first thing found -/
theorem for_find {β γ : Type} {g : D → Sl → Option Sl} {b : SM} (x : γ → D) (F : β → Sl) (st : Store) (p : γ → Bool) (w : γ → W) : ∀ {l : List γ} {h : β},
    (∀ c ∈ l, ∀ h, ∃ sl h', g (x c) (F h) = some sl ∧ b sl st = (if p c = true then some (.ret (w c), F h', st) else some (.nx, F h', st))) →
    ∃ h', forL g b (l.map x) (F h) st = (match l.find? p with
      | some c => some (.ret (w c), F h', st)
      | none => some (.nx, F h', st))
  | [], h, _ => ⟨h, rfl⟩
  | c :: l, h, hh => by
    obtain ⟨sl, h1, e1, e2⟩ := hh c (List.mem_cons_self ..) h
    by_cases hp : p c = true
    · refine ⟨h1, ?_⟩
      rw [if_pos hp] at e2
      rw [List.map_cons, List.find?_cons_of_pos hp]
      unfold forL
      simp only [e1, e2]
    · rw [if_neg hp] at e2
      obtain ⟨h2, e3⟩ := for_find (l := l) (h := h1) x F st p w fun d hd => hh d (List.mem_cons_of_mem _ hd)
      refine ⟨h2, ?_⟩
      rw [List.map_cons, List.find?_cons_of_neg (by simpa using hp)]
      unfold forL
      simp only [e1, e2]
      exact e3
def iv (lo : Int) (n : Nat) : List Int := (List.range n).map fun (i : Nat) => lo + (i : Int)
theorem rng_eq (lo : Int) : ∀ n : Nat, rngD lo n = (iv lo n).map PyData.int
  | 0 => rfl
  | n + 1 => by
    have ih := rng_eq (lo + 1) n
    unfold rngD
    rw [ih]
    unfold iv
    rw [List.range_succ_eq_map]
    simp only [List.map_cons, List.map_map]
    congr 1
    · congr 1
      omega
    · apply List.map_congr_left
      intro i _
      simp only [Function.comp]
      congr 1
      omega
theorem iv_len (lo : Int) (n : Nat) : (iv lo n).length = n := by simp [iv]
theorem mem_iv {lo x : Int} {n : Nat} : x ∈ iv lo n ↔ lo ≤ x ∧ x < lo + n := by
  unfold iv
  rw [List.mem_map]
  constructor
  · rintro ⟨i, hi, rfl⟩
    rw [List.mem_range] at hi
    omega
  · intro h
    exact ⟨(x - lo).toNat, by rw [List.mem_range]; omega, by omega⟩
theorem iv_get {lo : Int} {n i : Nat} (h : i < n) : (iv lo n)[i]? = some (lo + i) := by
  unfold iv
  rw [List.getElem?_map, List.getElem?_range h]
  rfl
theorem iv_succ (lo : Int) (n : Nat) : iv lo (n + 1) = iv lo n ++ [lo + n] := by
  unfold iv
  rw [List.range_succ]
  simp
theorem iv_cons (lo : Int) (n : Nat) : iv lo (n + 1) = lo :: iv (lo + 1) n := by
  unfold iv
  rw [List.range_succ_eq_map]
  simp only [List.map_cons, List.map_map]
  congr 1
  · omega
  · apply List.map_congr_left
    intro i _
    simp only [Function.comp]
    omega
theorem iv_pw (lo : Int) (n : Nat) : (iv lo n).Pairwise (· < ·) := by
  unfold iv
  rw [List.pairwise_map]
  exact List.pairwise_lt_range.imp fun h => by omega
theorem iv_zero (lo : Int) : iv lo 0 = [] := rfl
theorem rngI_ok {i j : Int} (h1 : -(2 ^ 62) ≤ i) (h2 : i < 2 ^ 62) (h3 : -(2 ^ 62) ≤ j) (h4 : j < 2 ^ 62) : rngI (.int i) (.int j) = some ((iv i (j - i).toNat).map PyData.int) := by
  have e : rngI (.int i) (.int j) = if -(2 ^ 62) ≤ i ∧ i < 2 ^ 62 ∧ -(2 ^ 62) ≤ j ∧ j < 2 ^ 62 then some (rngD i (j - i).toNat) else none := rfl
  rw [e, if_pos ⟨h1, h2, h3, h4⟩, rng_eq]
theorem asInts_i (ns : List Int) : asInts (ns.map PyData.int) = some ns := asInts_map ns
theorem all_b {α : Type} (l : List α) (p : α → Bool) : bltD .all [.list (l.map fun a => .bool (p a))] = some (.bool (l.all p)) := by
  have e : (l.map fun a => PyData.bool (p a)) = (l.map p).map PyData.bool := by simp
  rw [e]
  show (asBools ((l.map p).map PyData.bool)).map (fun bs => PyData.bool (bs.all id)) = _
  rw [asBools_map]
  simp [List.all_map, Function.comp_def]
theorem any_b {α : Type} (l : List α) (p : α → Bool) : bltD .any [.list (l.map fun a => .bool (p a))] = some (.bool (l.any p)) := by
  have e : (l.map fun a => PyData.bool (p a)) = (l.map p).map PyData.bool := by simp
  rw [e]
  show (asBools ((l.map p).map PyData.bool)).map (fun bs => PyData.bool (bs.any id)) = _
  rw [asBools_map]
  simp [List.any_map, Function.comp_def]
theorem run_comp_map {Φ : Fn} {tg : Tg} {it : I} {own : List Nat} {elt : E} {sl : Sl} {st : Store} {α : Type} (l : List α) (x f : α → D) (hi : runI Φ it sl st = some (l.map x, st)) (hl : l.length ≤ sizeLine)
    (h : ∀ a ∈ l, ∃ sl', stTg tg (x a) (wipeS sl own) = some sl' ∧ runE Φ elt sl' st = some (.d (f a), st)) : runE Φ (.comp tg it .none own elt) sl st = some (Li (l.map f), st) := by
  rw [runE, hi]
  have e : compL (fun d => stTg tg d (wipeS sl own)) (fun sl1 st2 => runC Φ .none sl1 st2) (fun sl1 st2 => runE Φ elt sl1 st2) (l.map x) st = some (l.map f, st) := comp_map x f h
  simp only [compK_eq, e, okC]
  rw [if_pos (by simpa using hl)]
theorem run_comp_fm {Φ : Fn} {tg : Tg} {it : I} {own : List Nat} {c elt : E} {sl : Sl} {st : Store} {α : Type} (l : List α) (x : α → D) (p : α → Bool) (f : α → D) (hi : runI Φ it sl st = some (l.map x, st)) (hl : l.length ≤ sizeLine)
    (h : ∀ a ∈ l, ∃ sl', stTg tg (x a) (wipeS sl own) = some sl' ∧ runE Φ c sl' st = some (Bl (p a), st) ∧ (p a = true → runE Φ elt sl' st = some (.d (f a), st))) : runE Φ (.comp tg it (.some c) own elt) sl st = some (Li ((l.filter p).map f), st) := by
  rw [runE, hi]
  have e : compL (fun d => stTg tg d (wipeS sl own)) (fun sl1 st2 => runC Φ (.some c) sl1 st2) (fun sl1 st2 => runE Φ elt sl1 st2) (l.map x) st = some ((l.filter p).map f, st) := comp_fm x p f h
  simp only [compK_eq, e, okC]
  rw [if_pos]
  have := List.length_filter_le p l
  simp
  omega
theorem run_comp_st {Φ : Fn} {tg : Tg} {it : I} {own : List Nat} {elt : E} {sl : Sl} {st : Store} {α : Type} (l : List α) (x : α → D) (J : Store → Prop) (R : α → D → Prop) (hi : runI Φ it sl st = some (l.map x, st)) (hl : l.length ≤ sizeLine)
    (h : ∀ a ∈ l, ∀ st, J st → ∃ sl' d st', stTg tg (x a) (wipeS sl own) = some sl' ∧ runE Φ elt sl' st = some (.d d, st') ∧ J st' ∧ R a d) (j : J st) :
    ∃ ds st', runE Φ (.comp tg it .none own elt) sl st = some (Li ds, st') ∧ J st' ∧ ds.length = l.length ∧ ∀ (i : Nat) (a : α) (d : D), l[i]? = some a → ds[i]? = some d → R a d := by
  obtain ⟨ds, st', e, j', hl', r⟩ := comp_st (g := fun d => stTg tg d (wipeS sl own)) (e := fun sl1 st2 => runE Φ elt sl1 st2) x J R (l := l) (st := st) h j
  refine ⟨ds, st', ?_, j', hl', r⟩
  rw [runE, hi]
  have e : compL (fun d => stTg tg d (wipeS sl own)) (fun sl1 st2 => runC Φ .none sl1 st2) (fun sl1 st2 => runE Φ elt sl1 st2) (l.map x) st = some (ds, st') := e
  simp only [compK_eq, e, okC]
  rw [if_pos (by rw [hl']; exact hl)]
theorem run_for_of {Φ : Fn} {tg : Tg} {it : I} {b : Ss} {sl : Sl} {st st1 : Store} {ds : List D} {r : Option (Fl × Sl × Store)} (hi : runI Φ it sl st = some (ds, st1)) (h : forL (fun d sl => stTg tg d sl) (fun sl st => runSs Φ b sl st) ds sl st1 = r) : runS Φ (.for tg it b) sl st = r := by
  rw [runS, hi]
  simp only [forK_eq]
  exact h
theorem run_whl_of {Φ : Fn} {c : E} {b : Ss} {sl : Sl} {st : Store} {n : Nat} {r : Fl × Sl × Store} (h : whlN (fun sl st => runE Φ c sl st) (fun sl st => runSs Φ b sl st) n sl st = some r) : runS Φ (.whl c b) sl st = some r := by
  rw [runS, whlK_eq]
  exact whlW_of h
theorem runI_val {Φ : Fn} {e : E} {sl : Sl} {st st1 : Store} {x : D} {l : List D} (h : runE Φ e sl st = some (.d x, st1)) (hv : valI x = some l) : runI Φ (.val e) sl st = some (l, st1) := by
  rw [runI, h]
  simp only [andD_s, hv, okL_s]
theorem runI_rng1 {Φ : Fn} {e : E} {sl : Sl} {st st1 : Store} {j : Int} (h : runE Φ e sl st = some (Z j, st1)) (h1 : -(2 ^ 62) ≤ j) (h2 : j < 2 ^ 62) : runI Φ (.rng1 e) sl st = some ((iv 0 j.toNat).map PyData.int, st1) := by
  rw [runI, h]
  simp only [andD_s, rngK_eq]
  rw [rngI_ok (by decide) (by decide) h1 h2, Int.sub_zero]
  rfl
theorem runI_rng2 {Φ : Fn} {e e2 : E} {sl : Sl} {st st1 st2 : Store} {i j : Int} (h : runE Φ e sl st = some (Z i, st1)) (h' : runE Φ e2 sl st1 = some (Z j, st2)) (h1 : -(2 ^ 62) ≤ i) (h2 : i < 2 ^ 62) (h3 : -(2 ^ 62) ≤ j) (h4 : j < 2 ^ 62) : runI Φ (.rng2 e e2) sl st = some ((iv i (j - i).toNat).map PyData.int, st2) := by
  rw [runI, h]
  simp only [andD_s, h', rngK_eq]
  rw [rngI_ok h1 h2 h3 h4]
  rfl
theorem runI_enum {Φ : Fn} {e : E} {sl : Sl} {st st1 : Store} {x : D} {xs : List D} (h : runE Φ e sl st = some (.d x, st1)) (hx : x = .list xs ∨ x = .tuple xs) : runI Φ (.enum e) sl st = some (enumD 0 xs, st1) := by
  rw [runI, h]
  rcases hx with rfl | rfl <;> rfl
/-- the places and the things of a list -/
def enl {α : Type} : Nat → List α → List (Nat × α)
  | _, [] => []
  | i, a :: l => (i, a) :: enl (i + 1) l
def enx {α : Type} (x : α → D) (p : Nat × α) : D := .tuple [.int (p.1 : Int), x p.2]
theorem enumD_map {α : Type} (x : α → D) : ∀ (l : List α) (i : Nat), enumD i (l.map x) = (enl i l).map (enx x)
  | [], _ => rfl
  | a :: l, i => by
    show PyData.tuple [.int (i : Int), x a] :: enumD (i + 1) (l.map x) = enx x (i, a) :: (enl (i + 1) l).map (enx x)
    rw [enumD_map x l (i + 1)]
    rfl
theorem enl_len {α : Type} : ∀ (l : List α) (i : Nat), (enl i l).length = l.length
  | [], _ => rfl
  | a :: l, i => by
    show (enl (i + 1) l).length + 1 = l.length + 1
    rw [enl_len l]
theorem enl_mem {α : Type} : ∀ {l : List α} {i : Nat} {p : Nat × α}, p ∈ enl i l → i ≤ p.1 ∧ p.1 < i + l.length ∧ l[p.1 - i]? = some p.2
  | [], _, _, h => by cases h
  | a :: l, i, p, h => by
    rcases List.mem_cons.mp h with rfl | h
    · simp
    · obtain ⟨h1, h2, h3⟩ := enl_mem h
      refine ⟨by omega, by simp; omega, ?_⟩
      have e : p.1 - i = (p.1 - (i + 1)) + 1 := by omega
      rw [e, List.getElem?_cons_succ]
      exact h3
theorem enl_append {α : Type} : ∀ (l m : List α) (i : Nat), enl i (l ++ m) = enl i l ++ enl (i + l.length) m
  | [], _, _ => rfl
  | a :: l, m, i => by
    show (i, a) :: enl (i + 1) (l ++ m) = (i, a) :: (enl (i + 1) l ++ _)
    rw [enl_append l m (i + 1)]
    congr 3
    simp
    omega
theorem cat_l (xs ys : List D) (h : xs.length + ys.length ≤ sizeLine) : binD .Add (.list xs) (.list ys) = some (.list (xs ++ ys)) := if_pos h
theorem cat_t (xs ys : List D) (h : xs.length + ys.length ≤ sizeLine) : binD .Add (.tuple xs) (.tuple ys) = some (.tuple (xs ++ ys)) := if_pos h
theorem rep_l (xs : List D) (k : Int) (h : k < 2 ^ 62 ∧ -(2 ^ 62) ≤ k ∧ xs.length * k.toNat ≤ sizeLine) : binD .Mult (.list xs) (.int k) = some (.list (flatten' k.toNat xs)) := if_pos h
theorem rep_1 (x : D) (n : Nat) (h : n ≤ 16777216) : binD .Mult (.list [x]) (.int n) = some (.list (List.replicate n x)) := by
  have hs : sizeLine = 16777216 := sizeLine_eq
  rw [rep_l [x] n ⟨by omega, by omega, by rw [List.length_singleton, hs]; omega⟩]
  have : ((n : Int)).toNat = n := by omega
  rw [this]
  unfold flatten'
  congr 2
  clear h this
  induction n with
  | zero => rfl
  | succ n ih => rw [List.replicate_succ, List.flatten_cons, ih]; rfl
end WM
namespace WM
open PySem PySem.Spec PyProof.Rows L2
/-- the sum of f 0 .. f (n - 1) -/
def sm (f : Nat → Int) : Nat → Int
  | 0 => 0
  | n + 1 => sm f n + f n
theorem sm_congr {f g : Nat → Int} : ∀ {n : Nat}, (∀ i, i < n → f i = g i) → sm f n = sm g n
  | 0, _ => rfl
  | n + 1, h => by
    unfold sm
    rw [sm_congr fun i hi => h i (by omega), h n (by omega)]
theorem sm_add (f g : Nat → Int) : ∀ n, sm (fun i => f i + g i) n = sm f n + sm g n
  | 0 => rfl
  | n + 1 => by
    unfold sm
    rw [sm_add f g n]
    omega
theorem sm_mul (c : Int) (f : Nat → Int) : ∀ n, sm (fun i => c * f i) n = c * sm f n
  | 0 => by simp [sm]
  | n + 1 => by
    unfold sm
    rw [sm_mul c f n, Int.mul_add]
theorem sm_zero : ∀ n, sm (fun _ => 0) n = 0
  | 0 => rfl
  | n + 1 => by
    unfold sm
    rw [sm_zero n] <;> rfl
theorem sm_const (c : Int) : ∀ n, sm (fun _ => c) n = n * c
  | 0 => by simp [sm]
  | n + 1 => by
    unfold sm
    rw [sm_const c n]
    grind
theorem sm_swap (f : Nat → Nat → Int) (m : Nat) : ∀ n, sm (fun i => sm (fun j => f i j) m) n = sm (fun j => sm (fun i => f i j) n) m
  | 0 => by
    show (0 : Int) = sm (fun j => 0) m
    rw [sm_zero]
  | n + 1 => by
    show sm (fun i => sm (fun j => f i j) m) n + sm (fun j => f n j) m = _
    rw [sm_swap f m n, ← sm_add]
    exact sm_congr fun i _ => rfl
theorem sm_shift (f : Nat → Int) : ∀ n, sm f (n + 1) = f 0 + sm (fun i => f (i + 1)) n
  | 0 => by simp [sm]
  | n + 1 => by
    rw [sm, sm_shift f n]
    show f 0 + _ + f (n + 1) = f 0 + (_ + f (n + 1))
    omega
theorem sm_split (f : Nat → Int) (m : Nat) : ∀ n, sm f (m + n) = sm f m + sm (fun i => f (m + i)) n
  | 0 => by simp [sm]
  | n + 1 => by
    show sm f (m + n) + f (m + n) = _
    rw [sm_split f m n]
    show _ = sm f m + (_ + f (m + n))
    omega
theorem sm_nn {f : Nat → Int} : ∀ {n : Nat}, (∀ i, i < n → 0 ≤ f i) → 0 ≤ sm f n
  | 0, _ => by simp [sm]
  | n + 1, h => by
    have := sm_nn (f := f) (n := n) fun i hi => h i (by omega)
    have := h n (by omega)
    unfold sm
    omega
theorem sm_le {f g : Nat → Int} : ∀ {n : Nat}, (∀ i, i < n → f i ≤ g i) → sm f n ≤ sm g n
  | 0, _ => by simp [sm]
  | n + 1, h => by
    have := sm_le (f := f) (g := g) (n := n) fun i hi => h i (by omega)
    have := h n (by omega)
    unfold sm
    omega
/-- 1 or 0 -/
def b1 (p : Bool) : Int := if p then 1 else 0
theorem b1_t : b1 true = 1 := rfl
theorem b1_f : b1 false = 0 := rfl
theorem b1_nn (p : Bool) : 0 ≤ b1 p := by cases p <;> decide
theorem b1_le (p : Bool) : b1 p ≤ 1 := by cases p <;> decide
theorem b1_not (p : Bool) : b1 (!p) = 1 - b1 p := by cases p <;> decide
def ch : Nat → Nat → Int
  | _, 0 => 1
  | 0, _ + 1 => 0
  | n + 1, k + 1 => ch n k + ch n (k + 1)
theorem ch_zero (n : Nat) : ch n 0 = 1 := by cases n <;> rfl
theorem ch_big : ∀ {n k : Nat}, n < k → ch n k = 0
  | _, 0, h => absurd h (Nat.not_lt_zero _)
  | 0, k + 1, _ => rfl
  | n + 1, k + 1, h => by
    unfold ch
    rw [ch_big (by omega), ch_big (by omega)] <;> rfl
theorem ch_self : ∀ n, ch n n = 1
  | 0 => rfl
  | n + 1 => by
    unfold ch
    rw [ch_self n, ch_big (by omega)] <;> rfl
/-- the next one is told by the one ahead -/
theorem ch_next : ∀ (n k : Nat), ch n (k + 1) * ((k : Int) + 1) = ch n k * ((n : Int) - k)
  | 0, 0 => rfl
  | 0, k + 1 => by
    show 0 * _ = 0 * _
    rw [Int.zero_mul, Int.zero_mul]
  | n + 1, 0 => by
    have := ch_next n 0
    unfold ch
    rw [ch_zero] at *
    push_cast at *
    grind
  | n + 1, k + 1 => by
    have h1 := ch_next n k
    have h2 := ch_next n (k + 1)
    show (ch n (k + 1) + ch n (k + 1 + 1)) * _ = (ch n k + ch n (k + 1)) * _
    push_cast at *
    grind
def sg (s m : Nat) : Int := if (s + m) % 2 = 0 then 1 else -1
theorem sg_next (s m : Nat) : sg s (m + 1) = -sg s m := by
  unfold sg
  split <;> split <;> omega
theorem sg_next' (s m : Nat) : sg (s + 1) m = -sg s m := by
  unfold sg
  split <;> split <;> omega
theorem sg_both (s m : Nat) : sg (s + 1) (m + 1) = sg s m := by rw [sg_next, sg_next', Int.neg_neg]
/-- in and out: only what is taken just m times stays -/
theorem in_out (N : Nat) : ∀ (k m : Nat), k ≤ N → sm (fun s => sg s m * ch s m * ch k s) (N + 1) = if k = m then 1 else 0
  | 0, m, _ => by
    rw [sm_shift]
    have e : sm (fun i => sg (i + 1) m * ch (i + 1) m * ch 0 (i + 1)) N = 0 := by
      rw [sm_congr (g := fun _ => 0) fun i _ => by show _ * 0 = _; rw [Int.mul_zero], sm_zero]
    rw [e]
    cases m with
    | zero => rfl
    | succ m =>
      show sg 0 (m + 1) * 0 * ch 0 0 + 0 = _
      rw [if_neg (by omega)]
      simp
  | k + 1, 0, h => by
    have ih := in_out N k 0 (by omega)
    rw [if_neg (by omega)]
    rw [sm_shift] at ih ⊢
    have hN : ∃ M, N = M + 1 := ⟨N - 1, by omega⟩
    obtain ⟨M, rfl⟩ := hN
    have e : sm (fun i => sg (i + 1) 0 * ch (i + 1) 0 * ch (k + 1) (i + 1)) (M + 1) = sm (fun i => sg (i + 1) 0 * ch (i + 1) 0 * ch k i) (M + 1) + sm (fun i => sg (i + 1) 0 * ch (i + 1) 0 * ch k (i + 1)) (M + 1) := by
      rw [← sm_add]
      apply sm_congr
      intro i _
      show _ * (ch k i + ch k (i + 1)) = _
      rw [Int.mul_add]
    have e2 : sm (fun i => sg (i + 1) 0 * ch (i + 1) 0 * ch k i) (M + 1) = -(sm (fun i => sg i 0 * ch i 0 * ch k i) (M + 1)) := by
      have := sm_mul (-1) (fun i => sg i 0 * ch i 0 * ch k i) (M + 1)
      rw [Int.neg_mul, Int.one_mul] at this
      rw [← this]
      apply sm_congr
      intro i _
      rw [sg_next', ch_zero, ch_zero]
      grind
    have e3 : sm (fun i => sg i 0 * ch i 0 * ch k i) (M + 1 + 1) = sm (fun i => sg i 0 * ch i 0 * ch k i) (M + 1) := by
      rw [sm, ch_big (n := k) (k := M + 1) (by omega), Int.mul_zero, Int.add_zero]
    rw [← sm_shift (fun i => sg i 0 * ch i 0 * ch k i), e3] at ih
    have e4 := sm_shift (fun i => sg i 0 * ch i 0 * ch k i) (M + 1)
    rw [e3] at e4
    rw [e, e2]
    simp only [ch_zero] at *
    omega
  | k + 1, m + 1, h => by
    have ih1 := in_out N k m (by omega)
    have ih2 := in_out N k (m + 1) (by omega)
    have hN : ∃ M, N = M + 1 := ⟨N - 1, by omega⟩
    obtain ⟨M, rfl⟩ := hN
    have z : ∀ j, sm (fun s => sg s j * ch s j * ch k s) (M + 1 + 1) = sm (fun s => sg s j * ch s j * ch k s) (M + 1) := fun j => by
      rw [sm, ch_big (n := k) (k := M + 1) (by omega), Int.mul_zero, Int.add_zero]
    have s2 := sm_shift (fun s => sg s (m + 1) * ch s (m + 1) * ch k s) (M + 1)
    rw [ih2] at s2
    rw [sm_shift]
    have e : sm (fun i => sg (i + 1) (m + 1) * ch (i + 1) (m + 1) * ch (k + 1) (i + 1)) (M + 1) = sm (fun i => sg (i + 1) (m + 1) * ch (i + 1) (m + 1) * ch k i) (M + 1) + sm (fun i => sg (i + 1) (m + 1) * ch (i + 1) (m + 1) * ch k (i + 1)) (M + 1) := by
      rw [← sm_add]
      apply sm_congr
      intro i _
      show _ * (ch k i + ch k (i + 1)) = _
      rw [Int.mul_add]
    have e2 : sm (fun i => sg (i + 1) (m + 1) * ch (i + 1) (m + 1) * ch k i) (M + 1) = sm (fun i => sg i m * ch i m * ch k i) (M + 1) + sm (fun i => -1 * (sg i (m + 1) * ch i (m + 1) * ch k i)) (M + 1) := by
      rw [← sm_add]
      apply sm_congr
      intro i _
      rw [sg_both, sg_next]
      show sg i m * (ch i m + ch i (m + 1)) * ch k i = _
      grind
    rw [sm_mul] at e2
    have y1 := z m
    have y2 := z (m + 1)
    rw [ih1] at y1
    rw [ih2] at y2
    rw [e, e2, ← y1, ← y2]
    have c0 : sg 0 (m + 1) * ch 0 (m + 1) * ch (k + 1) 0 = 0 := by
      show _ * 0 * _ = _
      simp
    have c1 : sg 0 (m + 1) * ch 0 (m + 1) * ch k 0 = 0 := by
      show _ * 0 * _ = _
      simp
    rw [c1] at s2
    rw [c0]
    have fin : (if k + 1 = m + 1 then (1 : Int) else 0) = if k = m then 1 else 0 := by
      by_cases q : k = m
      · rw [if_pos q, if_pos (by omega)]
      · rw [if_neg q, if_neg (by omega)]
    rw [fin]
    omega
end WM
namespace WM
open PySem PySem.Spec PyProof.Rows L2
def H1 : Nat := 2 ^ 1000
theorem mul_h {i j : Int} (h1 : i.natAbs ≤ H1) (h2 : j.natAbs ≤ H1) : binD .Mult (.int i) (.int j) = some (.int (i * j)) :=
  mul_i (mulOk_b (lt_big (Nat.lt_of_le_of_lt h1 (by decide +kernel))) (lt_big (Nat.lt_of_le_of_lt h2 (by decide +kernel))))
theorem div_h {i j : Int} (h : 0 < j) (h2 : j.natAbs ≤ H1) : binD .FloorDiv (.int i) (.int j) = some (.int (i / j)) := div_i h (lt_big (Nat.lt_of_le_of_lt h2 (by decide +kernel)))
theorem h1_pos : 2 ^ 64 < H1 := by decide +kernel
def bz : Nat → Int → Int → Int → Int → Int → Int → Int × Int × Int
  | 0, a, s, t, _, _, _ => (a, s, t)
  | n + 1, a, s, t, b, u, v => if b = 0 then (a, s, t) else bz n b u v (a - a / b * b) (s - a / b * u) (t - a / b * v)
structure BzI (A B : Int) (M : Nat) (a s t b u v : Int) : Prop where
  a0 : 0 ≤ a
  b0 : 0 ≤ b
  aM : a.natAbs ≤ M
  bM : b.natAbs ≤ M
  ea : a = s * A + t * B
  eb : b = u * A + v * B
  det : s * v - t * u = 1 ∨ s * v - t * u = -1
  su : (0 ≤ s ∧ u ≤ 0) ∨ (s ≤ 0 ∧ 0 ≤ u)
  tv : (0 ≤ t ∧ v ≤ 0) ∨ (t ≤ 0 ∧ 0 ≤ v)
  sM : s.natAbs ≤ M
  tM : t.natAbs ≤ M
  uM : u.natAbs ≤ M
  vM : v.natAbs ≤ M
theorem sgn_bd {x y a b B : Int} {M : Nat} (h1 : 1 ≤ a) (h2 : 0 ≤ b) (h3 : (0 ≤ x ∧ y ≤ 0) ∨ (x ≤ 0 ∧ 0 ≤ y)) (h4 : a * y - b * x = B ∨ a * y - b * x = -B) (hB : B.natAbs ≤ M) : y.natAbs ≤ M := by
  rcases h3 with ⟨h5, h6⟩ | ⟨h5, h6⟩
  · have e1 : 0 ≤ b * x := Int.mul_nonneg h2 h5
    have e2 : a * y ≤ 1 * y := Int.mul_le_mul_of_nonpos_right h1 h6
    omega
  · have e1 : b * x ≤ 0 := Int.mul_nonpos_of_nonneg_of_nonpos h2 h5
    have e2 : 1 * y ≤ a * y := Int.mul_le_mul_of_nonneg_right h1 h6
    omega
theorem BzI.step {A B : Int} {M : Nat} {a s t b u v : Int} (hA : A.natAbs ≤ M) (hB : B.natAbs ≤ M) (h : BzI A B M a s t b u v) (hb : b ≠ 0) : BzI A B M b u v (a - a / b * b) (s - a / b * u) (t - a / b * v) := by
  have hb0 := h.b0
  have hbp : 0 < b := by omega
  have e0 : a - a / b * b = a % b := by
    have := Int.emod_add_mul_ediv a b
    rw [Int.mul_comm] at this
    omega
  have q0 : 0 ≤ a / b := Int.ediv_nonneg h.a0 h.b0
  have r0 := Int.emod_nonneg a hb
  have r1 := Int.emod_lt_of_pos a hbp
  have b1 := h.bM
  have su' : (0 ≤ u ∧ s - a / b * u ≤ 0) ∨ (u ≤ 0 ∧ 0 ≤ s - a / b * u) := by
    rcases h.su with ⟨x1, x2⟩ | ⟨x1, x2⟩
    · have := Int.mul_nonpos_of_nonneg_of_nonpos q0 x2
      exact .inr ⟨x2, by omega⟩
    · have := Int.mul_nonneg q0 x2
      exact .inl ⟨x2, by omega⟩
  have tv' : (0 ≤ v ∧ t - a / b * v ≤ 0) ∨ (v ≤ 0 ∧ 0 ≤ t - a / b * v) := by
    rcases h.tv with ⟨x1, x2⟩ | ⟨x1, x2⟩
    · have := Int.mul_nonpos_of_nonneg_of_nonpos q0 x2
      exact .inr ⟨x2, by omega⟩
    · have := Int.mul_nonneg q0 x2
      exact .inl ⟨x2, by omega⟩
  have ea := h.ea
  have eb := h.eb
  generalize hq : a / b = q at *
  have d1 : b * (s - q * u) - (a - q * b) * u = B * -(s * v - t * u) * -1 ∨ True := .inr trivial
  have key1 : b * (s - q * u) - (a - q * b) * u = (s * v - t * u) * B := by
    rw [ea, eb]
    grind
  have key2 : b * (t - q * v) - (a - q * b) * v = -((s * v - t * u) * A) := by
    rw [ea, eb]
    grind
  have det' : u * (t - q * v) - v * (s - q * u) = -(s * v - t * u) := by grind
  refine ⟨h.b0, by omega, h.bM, by omega, eb, by rw [ea, eb]; grind, ?_, su', tv', h.uM, h.vM, ?_, ?_⟩
  · rw [det']
    rcases h.det with z | z <;> omega
  · refine sgn_bd (a := b) (b := a - q * b) (B := B) (x := u) (by omega) (by omega) su' ?_ hB
    rw [key1]
    rcases h.det with z | z <;> rw [z] <;> omega
  · refine sgn_bd (a := b) (b := a - q * b) (B := A) (x := v) (by omega) (by omega) tv' ?_ hA
    rw [key2]
    rcases h.det with z | z <;> rw [z] <;> omega
theorem bz_ok {A B : Int} {M : Nat} (hA : A.natAbs ≤ M) (hB : B.natAbs ≤ M) : ∀ (n : Nat) (a s t b u v : Int), b.toNat ≤ n → BzI A B M a s t b u v →
    (bz n a s t b u v).1 = Int.gcd a b ∧ (bz n a s t b u v).1 = (bz n a s t b u v).2.1 * A + (bz n a s t b u v).2.2 * B ∧ (bz n a s t b u v).2.1.natAbs ≤ M ∧ (bz n a s t b u v).2.2.natAbs ≤ M
  | 0, a, s, t, b, u, v, hn, h => by
    have hb : b = 0 := by have := h.b0; omega
    subst hb
    have := h.a0
    refine ⟨?_, h.ea, h.sM, h.tM⟩
    show a = _
    rw [Int.gcd_zero_right]
    omega
  | n + 1, a, s, t, b, u, v, hn, h => by
    unfold bz
    by_cases hb : b = 0
    · subst hb
      have := h.a0
      rw [if_pos rfl]
      refine ⟨?_, h.ea, h.sM, h.tM⟩
      show a = _
      rw [Int.gcd_zero_right]
      omega
    · rw [if_neg hb]
      have hb0 := h.b0
      have e0 : a - a / b * b = a % b := by
        have := Int.emod_add_mul_ediv a b
        rw [Int.mul_comm] at this
        omega
      have r0 := Int.emod_nonneg a hb
      have r1 := Int.emod_lt_of_pos a (show 0 < b by omega)
      obtain ⟨g1, g2, g3, g4⟩ := bz_ok hA hB n b u v (a - a / b * b) (s - a / b * u) (t - a / b * v) (by omega) (h.step hA hB hb)
      refine ⟨?_, g2, g3, g4⟩
      rw [g1, Int.gcd_comm]
      simp
/-- the multipliers -/
def bS (A B : Int) : Int := (bz B.toNat A 1 0 B 0 1).2.1
def bT (A B : Int) : Int := (bz B.toNat A 1 0 B 0 1).2.2
theorem bzI0 {A B : Int} {M : Nat} (h0 : 0 ≤ A) (h1 : 0 ≤ B) (h2 : A.natAbs ≤ M) (h3 : B.natAbs ≤ M) (hM : 1 ≤ M) : BzI A B M A 1 0 B 0 1 :=
  ⟨h0, h1, h2, h3, by omega, by omega, .inl (by omega), .inl ⟨by omega, by omega⟩, .inr ⟨by omega, by omega⟩, by omega, by omega, by omega, by omega⟩
theorem bez {A B : Int} (h0 : 0 ≤ A) (h1 : 0 ≤ B) : (Int.gcd A B : Int) = bS A B * A + bT A B * B := by
  obtain ⟨g1, g2, _, _⟩ := bz_ok (A := A) (B := B) (M := A.natAbs + B.natAbs + 1) (by omega) (by omega) B.toNat A 1 0 B 0 1 (Nat.le_refl _) (bzI0 h0 h1 (by omega) (by omega) (by omega))
  rw [← g1]
  exact g2
theorem bez_bd {A B : Int} {M : Nat} (h0 : 0 ≤ A) (h1 : 0 ≤ B) (h2 : A.natAbs ≤ M) (h3 : B.natAbs ≤ M) (hM : 1 ≤ M) : (bS A B).natAbs ≤ M ∧ (bT A B).natAbs ≤ M :=
  (bz_ok (A := A) (B := B) h2 h3 B.toNat A 1 0 B 0 1 (Nat.le_refl _) (bzI0 h0 h1 h2 h3 hM)).2.2
theorem gcd_pos {t b : Int} (hb : b ≠ 0) : 0 < (Int.gcd t b : Int) := by
  have := Int.gcd_pos_of_ne_zero_right t hb
  omega
theorem gcd_pos' {t b : Int} (hb : t ≠ 0) : 0 < (Int.gcd t b : Int) := by
  have := Int.gcd_pos_of_ne_zero_left b hb
  omega
theorem gcd_le {t b : Int} (hb : b ≠ 0) : Int.gcd t b ≤ b.natAbs := Nat.le_of_dvd (by omega) (Int.gcd_dvd_natAbs_right t b)
theorem gcd_le' {t b : Int} (hb : t ≠ 0) : Int.gcd t b ≤ t.natAbs := Nat.le_of_dvd (by omega) (Int.gcd_dvd_natAbs_left t b)
/-- a pair of ints -/
def cy (e r : Int) : D := .tuple [.int e, .int r]
def lcmI (a b : Int) : Int := a / (Int.gcd a b : Int) * b
def metR (e1 r1 e2 r2 : Int) : Int := (r1 + (r2 - r1) / (Int.gcd e1 e2 : Int) * bS e1 e2 * e1) % lcmI e1 e2
def metD (e1 r1 e2 r2 : Int) : D := if (r2 - r1) % (Int.gcd e1 e2 : Int) = 0 then cy (lcmI e1 e2) (metR e1 r1 e2 r2) else .none
theorem lcmI_pos {a b : Int} (h : 0 < a) (h2 : 0 < b) : 0 < lcmI a b := by
  have g0 := gcd_pos (t := a) (b := b) (by omega)
  have gl := gcd_le' (t := a) (b := b) (by omega)
  have := Int.le_ediv_of_mul_le g0 (show 1 * (Int.gcd a b : Int) ≤ a by omega)
  unfold lcmI
  exact Int.mul_pos (by omega) h2
/-- the rest by the common multiple is told by both rests -/
theorem lcmI_dvd {a b x : Int} (h : 0 < a) (h2 : 0 < b) : lcmI a b ∣ x ↔ a ∣ x ∧ b ∣ x := by
  have g0 := gcd_pos (t := a) (b := b) (by omega)
  obtain ⟨a', ea⟩ := Int.gcd_dvd_left a b
  obtain ⟨b', eb⟩ := Int.gcd_dvd_right a b
  have bz := bez (A := a) (B := b) (by omega) (by omega)
  unfold lcmI
  generalize hg : ((Int.gcd a b : Nat) : Int) = g at *
  have e1 : a / g = a' := by
    rw [ea]
    exact Int.mul_ediv_cancel_left _ (by omega)
  rw [e1]
  generalize bS a b = s at *
  generalize bT a b = t at *
  have one : 1 = s * a' + t * b' := by
    have : g * 1 = g * (s * a' + t * b') := by
      rw [ea, eb] at bz
      grind
    exact Int.eq_of_mul_eq_mul_left (by omega) this
  constructor
  · rintro ⟨c, hc⟩
    exact ⟨⟨b' * c, by rw [hc, ea, eb]; grind⟩, ⟨a' * c, by rw [hc]; grind⟩⟩
  · rintro ⟨⟨c, hc⟩, ⟨d, hd⟩⟩
    -- x = a c = b d; x = (s a' + t b') x
    refine ⟨s * d + t * c, ?_⟩
    have e2 : x = (s * a' + t * b') * x := by rw [← one]; grind
    have e3 : s * a' * x = s * a' * (b * d) := by rw [← hd]
    have e4 : t * b' * x = t * b' * (a * c) := by rw [← hc]
    have e5 : t * b' * (a * c) = t * c * (a' * b) := by rw [ea, eb]; grind
    grind
theorem emod_eq_iff {x e r : Int} (h : 0 < e) (r0 : 0 ≤ r) (r1 : r < e) : x % e = r ↔ e ∣ x - r := by
  constructor
  · intro h1
    exact ⟨x / e, by have := Int.emod_add_mul_ediv x e; omega⟩
  · rintro ⟨c, hc⟩
    have : x = r + e * c := by omega
    rw [this, Int.add_mul_emod_self_left, Int.emod_eq_of_lt r0 r1]
/-- what a met cycle says -/
theorem met_some {e1 r1 e2 r2 : Int} (a0 : 0 < e1) (b0 : 0 < e2) (c0 : 0 ≤ r1) (c1 : r1 < e1) (d0 : 0 ≤ r2) (d1 : r2 < e2) (h : (r2 - r1) % (Int.gcd e1 e2 : Int) = 0) (x : Int) : x % lcmI e1 e2 = metR e1 r1 e2 r2 ↔ x % e1 = r1 ∧ x % e2 = r2 := by
  have lp := lcmI_pos a0 b0
  have g0 := gcd_pos (t := e1) (b := e2) (by omega)
  have bz := bez (A := e1) (B := e2) (by omega) (by omega)
  have m0 := Int.emod_nonneg (r1 + (r2 - r1) / (Int.gcd e1 e2 : Int) * bS e1 e2 * e1) (show lcmI e1 e2 ≠ 0 by omega)
  have m1 := Int.emod_lt_of_pos (r1 + (r2 - r1) / (Int.gcd e1 e2 : Int) * bS e1 e2 * e1) lp
  have em := Int.emod_add_mul_ediv (r1 + (r2 - r1) / (Int.gcd e1 e2 : Int) * bS e1 e2 * e1) (lcmI e1 e2)
  obtain ⟨w, hw⟩ := Int.dvd_of_emod_eq_zero h
  have dl := (lcmI_dvd (x := lcmI e1 e2) a0 b0).mp ⟨1, by omega⟩
  have eq0 : (r2 - r1) / (Int.gcd e1 e2 : Int) = w := by
    rw [hw]
    exact Int.mul_ediv_cancel_left _ (by omega)
  unfold metR
  rw [emod_eq_iff lp m0 m1, lcmI_dvd a0 b0, emod_eq_iff a0 c0 c1, emod_eq_iff b0 d0 d1]
  rw [eq0] at em ⊢
  generalize (r1 + w * bS e1 e2 * e1) % lcmI e1 e2 = m at *
  generalize hq : (r1 + w * bS e1 e2 * e1) / lcmI e1 e2 = q at *
  obtain ⟨⟨l1, hl1⟩, ⟨l2, hl2⟩⟩ := dl
  have k1 : e1 ∣ m - r1 := ⟨w * bS e1 e2 - l1 * q, by rw [hl1] at em; grind⟩
  have k2 : e2 ∣ m - r2 := ⟨-(w * bT e1 e2) - l2 * q, by rw [hl2] at em; rw [bz] at hw; grind⟩
  constructor
  · rintro ⟨h1, h2⟩
    exact ⟨by have := Int.dvd_add h1 k1; rw [show x - r1 = x - m + (m - r1) by omega]; exact this, by have := Int.dvd_add h2 k2; rw [show x - r2 = x - m + (m - r2) by omega]; exact this⟩
  · rintro ⟨h1, h2⟩
    exact ⟨by have := Int.dvd_sub h1 k1; rw [show x - m = x - r1 - (m - r1) by omega]; exact this, by have := Int.dvd_sub h2 k2; rw [show x - m = x - r2 - (m - r2) by omega]; exact this⟩
theorem met_none {e1 r1 e2 r2 : Int} (h : ¬ (r2 - r1) % (Int.gcd e1 e2 : Int) = 0) (x : Int) : ¬ (x % e1 = r1 ∧ x % e2 = r2) := by
  rintro ⟨h1, h2⟩
  apply h
  apply Int.emod_eq_zero_of_dvd
  have d1 : e1 ∣ x - r1 := ⟨x / e1, by have := Int.emod_add_mul_ediv x e1; omega⟩
  have d2 : e2 ∣ x - r2 := ⟨x / e2, by have := Int.emod_add_mul_ediv x e2; omega⟩
  have g1 := Int.dvd_trans (Int.gcd_dvd_left e1 e2) d1
  have g2 := Int.dvd_trans (Int.gcd_dvd_right e1 e2) d2
  have := Int.dvd_sub g1 g2
  rw [show x - r1 - (x - r2) = r2 - r1 by omega] at this
  exact this
end WM
namespace WM
open PySem PySem.Spec PyProof.Rows L2
abbrev Cyc := Int × Int
def cyD (c : Cyc) : D := cy c.1 c.2
def opD : Option Cyc → D
  | none => .none
  | some c => cyD c
def hit (c : Cyc) (x : Int) : Bool := decide (x % c.1 = c.2)
def hitO : Option Cyc → Int → Bool
  | none, _ => false
  | some c, x => hit c x
/-- a cycle of days -/
structure CyOk (c : Cyc) : Prop where
  e0 : 0 < c.1
  r0 : 0 ≤ c.2
  r1 : c.2 < c.1
def OpOk (o : Option Cyc) : Prop := ∀ c, o = some c → CyOk c
def metO (o : Option Cyc) (c : Cyc) : Option Cyc := match o with
  | none => none
  | some p => if (c.2 - p.2) % (Int.gcd p.1 c.1 : Int) = 0 then some (lcmI p.1 c.1, metR p.1 p.2 c.1 c.2) else none
theorem metO_D (p c : Cyc) : metD p.1 p.2 c.1 c.2 = opD (metO (some p) c) := by
  unfold metD metO
  simp only
  split <;> rfl
theorem metR_bd {e1 r1 e2 r2 : Int} (a0 : 0 < e1) (b0 : 0 < e2) : 0 ≤ metR e1 r1 e2 r2 ∧ metR e1 r1 e2 r2 < lcmI e1 e2 := by
  have lp := lcmI_pos a0 b0
  unfold metR
  exact ⟨Int.emod_nonneg _ (by omega), Int.emod_lt_of_pos _ lp⟩
theorem metO_ok {o : Option Cyc} {c : Cyc} (h : OpOk o) (hc : CyOk c) : OpOk (metO o c) := by
  intro q e
  cases o with
  | none => cases e
  | some p =>
    have hp := h p rfl
    unfold metO at e
    simp only at e
    split at e
    · cases e
      have := metR_bd (r1 := p.2) (r2 := c.2) hp.e0 hc.e0
      exact ⟨lcmI_pos hp.e0 hc.e0, this.1, this.2⟩
    · cases e
theorem metO_hit {o : Option Cyc} {c : Cyc} (h : OpOk o) (hc : CyOk c) (x : Int) : hitO (metO o c) x = (hitO o x && hit c x) := by
  cases o with
  | none => rfl
  | some p =>
    have hp := h p rfl
    unfold metO
    simp only
    split
    · rename_i z
      have := met_some hp.e0 hc.e0 hp.r0 hp.r1 hc.r0 hc.r1 z x
      show decide _ = (decide _ && decide _)
      rw [Bool.eq_iff_iff]
      simp only [decide_eq_true_eq, Bool.and_eq_true]
      exact this
    · rename_i z
      have := met_none (e1 := p.1) (e2 := c.1) z x
      show false = (decide _ && decide _)
      rw [Bool.eq_iff_iff]
      simp only [decide_eq_true_eq, Bool.and_eq_true]
      constructor
      · intro w; cases w
      · intro w; exact absurd w this
abbrev QE := Nat × Option Cyc
def qStep (q : List QE) (c : Cyc) : List QE := q ++ q.map fun e => (e.1 + 1, metO e.2 c)
def Qs (cs : List Cyc) : List QE := cs.foldl qStep [(0, some (1, 0))]
def hits (cs : List Cyc) (x : Int) : Nat := (cs.filter fun c => hit c x).length
theorem hits_le (cs : List Cyc) (x : Int) : hits cs x ≤ cs.length := List.length_filter_le _ _
theorem hits_snoc (cs : List Cyc) (c : Cyc) (x : Int) : hits (cs ++ [c]) x = hits cs x + (if hit c x then 1 else 0) := by
  unfold hits
  rw [List.filter_append, List.length_append]
  congr 1
  rw [List.filter_cons]
  split <;> rfl
theorem Qs_snoc (cs : List Cyc) (c : Cyc) : Qs (cs ++ [c]) = qStep (Qs cs) c := by
  unfold Qs
  rw [List.foldl_append]
  rfl
theorem snoc_ind {α : Type} {P : List α → Prop} (h0 : P []) (h1 : ∀ l a, P l → P (l ++ [a])) : ∀ l, P l := by
  intro l
  have : ∀ n, ∀ l : List α, l.length = n → P l := by
    intro n
    induction n with
    | zero =>
      intro l hl
      rw [List.length_eq_zero_iff.mp hl]
      exact h0
    | succ n ih =>
      intro l hl
      have hne : l ≠ [] := fun z => by rw [z] at hl; cases hl
      rw [← List.dropLast_concat_getLast hne]
      exact h1 _ _ (ih _ (by rw [List.length_dropLast, hl]; rfl))
  exact this _ l rfl
theorem Qs_len (cs : List Cyc) : (Qs cs).length = 2 ^ cs.length := by
  refine snoc_ind (P := fun cs => (Qs cs).length = 2 ^ cs.length) rfl (fun cs c ih => ?_) cs
  rw [Qs_snoc]
  unfold qStep
  rw [List.length_append, List.length_map, ih, List.length_append, List.length_singleton, Nat.pow_succ]
  omega
theorem Qs_ok {cs : List Cyc} (h : ∀ c ∈ cs, CyOk c) : ∀ e ∈ Qs cs, OpOk e.2 := by
  refine snoc_ind (P := fun cs => (∀ c ∈ cs, CyOk c) → ∀ e ∈ Qs cs, OpOk e.2) (fun _ e he => ?_) (fun cs c ih hc => ?_) cs h
  · have : e = (0, some (1, 0)) := by simpa [Qs] using he
    subst this
    intro q z
    cases z
    exact ⟨by decide, by decide, by decide⟩
  · rw [Qs_snoc]
    unfold qStep
    intro e he
    have ih := ih fun c hc' => hc c (by simp [hc'])
    rcases List.mem_append.mp he with he | he
    · exact ih e he
    · obtain ⟨e', h1, rfl⟩ := List.mem_map.mp he
      exact metO_ok (ih e' h1) (hc c (by simp))
/-- the product of all everies -/
def prodE (cs : List Cyc) : Int := cs.foldl (fun a c => a * c.1) 1
theorem prodE_snoc (cs : List Cyc) (c : Cyc) : prodE (cs ++ [c]) = prodE cs * c.1 := by
  unfold prodE
  rw [List.foldl_append]
  rfl
theorem lcmI_dvd_mul {a b : Int} (h : 0 < a) (h2 : 0 < b) : lcmI a b ∣ a * b := (lcmI_dvd h h2).mpr ⟨⟨b, rfl⟩, ⟨a, by grind⟩⟩
theorem prodE_pos {cs : List Cyc} (h : ∀ c ∈ cs, CyOk c) : 0 < prodE cs := by
  refine snoc_ind (P := fun cs => (∀ c ∈ cs, CyOk c) → 0 < prodE cs) (fun _ => by decide) (fun cs c ih hc => ?_) cs h
  rw [prodE_snoc]
  exact Int.mul_pos (ih fun c hc' => hc c (by simp [hc'])) (hc c (by simp)).e0
theorem Qs_dvd {cs : List Cyc} (h : ∀ c ∈ cs, CyOk c) : ∀ e ∈ Qs cs, ∀ c, e.2 = some c → c.1 ∣ prodE cs := by
  refine snoc_ind (P := fun cs => (∀ c ∈ cs, CyOk c) → ∀ e ∈ Qs cs, ∀ c, e.2 = some c → c.1 ∣ prodE cs) (fun _ e he => ?_) (fun cs c ih hc => ?_) cs h
  · have : e = (0, some (1, 0)) := by simpa [Qs] using he
    subst this
    intro c z
    cases z
    exact ⟨1, rfl⟩
  · rw [Qs_snoc, prodE_snoc]
    unfold qStep
    intro e he q hq
    have hcs : ∀ c ∈ cs, CyOk c := fun c hc' => hc c (by simp [hc'])
    have ih := ih hcs
    rcases List.mem_append.mp he with he | he
    · exact Int.dvd_trans (ih e he q hq) ⟨c.1, rfl⟩
    · obtain ⟨e', h1, rfl⟩ := List.mem_map.mp he
      cases e2 : e'.2 with
      | none => rw [e2] at hq; cases hq
      | some p =>
        rw [e2] at hq
        have hp := Qs_ok hcs e' h1 p e2
        unfold metO at hq
        simp only at hq
        split at hq
        · cases hq
          refine Int.dvd_trans (lcmI_dvd_mul hp.e0 (hc c (by simp)).e0) ?_
          exact Int.mul_dvd_mul (ih e' h1 p e2) ⟨1, by omega⟩
        · cases hq
/-- a sum over a list -/
def ls {α : Type} (f : α → Int) (l : List α) : Int := (l.map f).sum
theorem ls_nil {α : Type} (f : α → Int) : ls f [] = 0 := rfl
theorem ls_cons {α : Type} (f : α → Int) (a : α) (l : List α) : ls f (a :: l) = f a + ls f l := by simp [ls]
theorem ls_append {α : Type} (f : α → Int) (l m : List α) : ls f (l ++ m) = ls f l + ls f m := by simp [ls, List.sum_append]
theorem ls_map {α β : Type} (f : β → Int) (g : α → β) (l : List α) : ls f (l.map g) = ls (fun a => f (g a)) l := by simp [ls, List.map_map, Function.comp_def]
theorem ls_congr {α : Type} {f g : α → Int} : ∀ {l : List α}, (∀ a ∈ l, f a = g a) → ls f l = ls g l
  | [], _ => rfl
  | a :: l, h => by rw [ls_cons, ls_cons, h a (List.mem_cons_self ..), ls_congr fun b hb => h b (List.mem_cons_of_mem _ hb)]
theorem ls_mul {α : Type} (c : Int) (f : α → Int) : ∀ l : List α, ls (fun a => c * f a) l = c * ls f l
  | [] => by simp [ls]
  | a :: l => by rw [ls_cons, ls_cons, ls_mul c f l, Int.mul_add]
theorem ls_add {α : Type} (f g : α → Int) : ∀ l : List α, ls (fun a => f a + g a) l = ls f l + ls g l
  | [] => by simp [ls]
  | a :: l => by rw [ls_cons, ls_cons, ls_cons, ls_add f g l]; omega
theorem ls_sm {α : Type} (f : α → Nat → Int) (n : Nat) : ∀ l : List α, ls (fun a => sm (f a) n) l = sm (fun i => ls (fun a => f a i) l) n
  | [] => by
    show (0 : Int) = sm (fun _ => 0) n
    rw [sm_zero]
  | a :: l => by
    rw [ls_cons, ls_sm f n l, ← sm_add]
    apply sm_congr
    intro i _
    rw [ls_cons]
theorem ls_foldl {α : Type} (f : α → Int) : ∀ (l : List α) (a : Int), l.foldl (fun s x => s + f x) a = a + ls f l
  | [], a => by simp [ls]
  | x :: l, a => by rw [List.foldl_cons, ls_foldl f l, ls_cons]; omega
theorem ls_iv (f : Int → Int) (lo : Int) : ∀ n, ls f (iv lo n) = sm (fun i => f (lo + (i : Int))) n
  | 0 => rfl
  | n + 1 => by rw [iv_succ, ls_append, ls_iv f lo n, ls_cons, ls_nil, Int.add_zero]; rfl
/-- how many sets of so many cycles strike all on a day -/
theorem Qs_count {cs : List Cyc} (h : ∀ c ∈ cs, CyOk c) (x : Int) : ∀ s : Nat, ls (fun e : QE => if e.1 = s then b1 (hitO e.2 x) else 0) (Qs cs) = ch (hits cs x) s := by
  refine snoc_ind (P := fun cs => (∀ c ∈ cs, CyOk c) → ∀ s : Nat, ls (fun e : QE => if e.1 = s then b1 (hitO e.2 x) else 0) (Qs cs) = ch (hits cs x) s) (fun _ s => ?_) (fun cs c ih hc s => ?_) cs h
  · show ls _ [(0, some (1, 0))] = ch 0 s
    rw [ls_cons, ls_nil]
    have : hitO (some (1, 0)) x = true := by
      show decide _ = true
      exact decide_eq_true (Int.emod_one x)
    simp only [this]
    cases s with
    | zero => rfl
    | succ s => rfl
  · have hcs : ∀ c ∈ cs, CyOk c := fun c hc' => hc c (by simp [hc'])
    have ih := ih hcs
    rw [Qs_snoc, hits_snoc]
    unfold qStep
    rw [ls_append, ih s, ls_map]
    have e1 : ls (fun a : QE => if a.1 + 1 = s then b1 (hitO (metO a.2 c) x) else 0) (Qs cs) = ls (fun a : QE => b1 (hit c x) * (if a.1 + 1 = s then b1 (hitO a.2 x) else 0)) (Qs cs) := by
      apply ls_congr
      intro e he
      rw [metO_hit (Qs_ok hcs e he) (hc c (by simp)) x]
      split
      · cases hitO e.2 x <;> cases hit c x <;> rfl
      · rw [Int.mul_zero]
    show _ + ls (fun a : QE => if a.1 + 1 = s then b1 (hitO (metO a.2 c) x) else 0) (Qs cs) = _
    rw [e1, ls_mul]
    cases hb : hit c x with
    | false =>
      rw [if_neg (by decide)]
      show _ + 0 * _ = _
      rw [Int.zero_mul, Int.add_zero, Nat.add_zero]
    | true =>
      rw [if_pos rfl]
      show _ + 1 * _ = _
      rw [Int.one_mul]
      cases s with
      | zero =>
        have : ls (fun a : QE => if a.1 + 1 = 0 then b1 (hitO a.2 x) else 0) (Qs cs) = 0 := by
          rw [ls_congr (g := fun _ => 0 * 0) fun a _ => by rw [if_neg (by omega)]; rfl, ls_mul, Int.zero_mul]
        rw [this, ch_zero, ch_zero] <;> rfl
      | succ s =>
        have : ls (fun a : QE => if a.1 + 1 = s + 1 then b1 (hitO a.2 x) else 0) (Qs cs) = ls (fun a : QE => if a.1 = s then b1 (hitO a.2 x) else 0) (Qs cs) := by
          apply ls_congr
          intro a _
          by_cases q : a.1 = s
          · rw [if_pos q, if_pos (by omega)]
          · rw [if_neg q, if_neg (by omega)]
        rw [this, ih s]
        show _ = ch (hits cs x) s + ch (hits cs x) (s + 1)
        omega
/-- on how many of n days from low on -/
def cntO (o : Option Cyc) (low : Int) (n : Nat) : Int := sm (fun i => b1 (hitO o (low + (i : Int)))) n
def cntW (cs : List Cyc) (m : Nat) (low : Int) (n : Nat) : Int := sm (fun i => if hits cs (low + (i : Int)) = m then 1 else 0) n
theorem sums_eq {cs : List Cyc} (h : ∀ c ∈ cs, CyOk c) (low : Int) (n s : Nat) : ls (fun e : QE => if e.1 = s then cntO e.2 low n else 0) (Qs cs) = sm (fun i => ch (hits cs (low + (i : Int))) s) n := by
  have e1 : ls (fun e : QE => if e.1 = s then cntO e.2 low n else 0) (Qs cs) = ls (fun e : QE => sm (fun i => if e.1 = s then b1 (hitO e.2 (low + (i : Int))) else 0) n) (Qs cs) := by
    apply ls_congr
    intro e _
    by_cases q : e.1 = s
    · rw [if_pos q]
      exact sm_congr fun i _ => by rw [if_pos q]
    · rw [if_neg q, sm_congr (g := fun _ => 0) fun i _ => by rw [if_neg q], sm_zero]
  rw [e1, ls_sm]
  exact sm_congr fun i _ => Qs_count h _ s
theorem just_eq {cs : List Cyc} (h : ∀ c ∈ cs, CyOk c) (low : Int) (n m : Nat) : sm (fun s => sg s m * ch s m * ls (fun e : QE => if e.1 = s then cntO e.2 low n else 0) (Qs cs)) (cs.length + 1) = cntW cs m low n := by
  have e1 : sm (fun s => sg s m * ch s m * ls (fun e : QE => if e.1 = s then cntO e.2 low n else 0) (Qs cs)) (cs.length + 1) = sm (fun s => sm (fun i => sg s m * ch s m * ch (hits cs (low + (i : Int))) s) n) (cs.length + 1) := by
    apply sm_congr
    intro s _
    rw [sums_eq h, sm_mul]
  rw [e1, sm_swap]
  exact sm_congr fun i _ => in_out cs.length _ m (hits_le _ _)
theorem ediv_of {e q s x : Int} (h : 0 < e) (hx : x = e * q + s) (h0 : 0 ≤ s) (h1 : s < e) : x / e = q := by
  rw [hx, Int.add_comm, Int.add_mul_ediv_left _ _ (by omega), Int.ediv_eq_zero_of_lt h0 h1, Int.zero_add]
theorem emod_of {e q s x : Int} (hx : x = e * q + s) (h0 : 0 ≤ s) (h1 : s < e) : x % e = s := by
  rw [hx, Int.add_comm, Int.add_mul_emod_self_left, Int.emod_eq_of_lt h0 h1]
/-- a cycle's days by two quotients -/
theorem cnt_div {e r : Int} (h : 0 < e) (r0 : 0 ≤ r) (r1 : r < e) (low : Int) : ∀ n : Nat, (low + (n : Int) - 1 - r) / e - (low - 1 - r) / e = cntO (some (e, r)) low n
  | 0 => by
    show _ = (0 : Int)
    simp
  | n + 1 => by
    have ih := cnt_div h r0 r1 low n
    show _ = cntO (some (e, r)) low n + b1 (decide ((low + (n : Int)) % e = r))
    rw [← ih]
    have key : (low + (n : Int) - r) / e = (low + (n : Int) - 1 - r) / e + b1 (decide ((low + (n : Int)) % e = r)) := by
      generalize low + (n : Int) = y
      have a1 := Int.emod_add_mul_ediv (y - 1 - r) e
      have a2 := Int.emod_nonneg (y - 1 - r) (show e ≠ 0 by omega)
      have a3 := Int.emod_lt_of_pos (y - 1 - r) h
      by_cases c : y % e = r
      · rw [decide_eq_true c, b1_t]
        obtain ⟨w, hw⟩ := (emod_eq_iff h r0 r1).mp c
        rw [ediv_of (q := w) (s := 0) h (by omega) (by omega) h, ediv_of (q := w - 1) (s := e - 1) h (by rw [Int.mul_sub]; omega) (by omega) (by omega)]
        omega
      · rw [decide_eq_false c, b1_f, Int.add_zero]
        have hne : (y - 1 - r) % e ≠ e - 1 := fun z => c ((emod_eq_iff h r0 r1).mpr ⟨(y - 1 - r) / e + 1, by rw [Int.mul_add]; omega⟩)
        exact ediv_of (q := (y - 1 - r) / e) (s := (y - 1 - r) % e + 1) h (by omega) (by omega) (by omega)
    have : low + ((n + 1 : Nat) : Int) - 1 - r = low + (n : Int) - r := by omega
    rw [this, key]
    omega
end WM
namespace WM
open PySem PySem.Spec PyProof.Rows L2
theorem shp_iff (d : D) : shp d = true ↔ d.canLay0 = true ∧ d.depth ≤ 64 := by
  unfold shp SeqAt.shaped
  rw [Bool.and_eq_true, decide_eq_true_eq]
/-- laid, and so deep -/
def Shp (n : Nat) (d : D) : Prop := d.canLay0 = true ∧ d.depth ≤ n
theorem Shp.shp {n : Nat} {d : D} (h : Shp n d) (hn : n ≤ 64 := by decide) : shp d = true := (shp_iff d).mpr ⟨h.1, Nat.le_trans h.2 hn⟩
theorem Shp.mono {n m : Nat} {d : D} (h : Shp n d) (hn : n ≤ m) : Shp m d := ⟨h.1, Nat.le_trans h.2 hn⟩
theorem Shp.int (i : Int) : Shp 0 (.int i) := ⟨by simp [PyData.canLay0], by simp [PyData.depth]⟩
theorem Shp.bool (i : Bool) : Shp 0 (.bool i) := ⟨by simp [PyData.canLay0], by simp [PyData.depth]⟩
theorem Shp.none : Shp 0 .none := ⟨by simp [PyData.canLay0], by simp [PyData.depth]⟩
theorem Shp.all {n : Nat} : ∀ {xs : List D}, (∀ x ∈ xs, Shp n x) → PyData.canLayAll0 xs = true ∧ PyData.depthAll xs ≤ n
  | [], _ => ⟨by simp [PyData.canLayAll0], by simp [PyData.depthAll]⟩
  | x :: xs, h => by
    have h1 := h x (List.mem_cons_self ..)
    have h2 := Shp.all (xs := xs) fun y hy => h y (List.mem_cons_of_mem _ hy)
    refine ⟨by simp [PyData.canLayAll0, h1.1, h2.1], ?_⟩
    have a := h1.2
    have b := h2.2
    simp only [PyData.depthAll]
    omega
theorem Shp.tuple {n : Nat} {xs : List D} (h : ∀ x ∈ xs, Shp n x) : Shp (n + 1) (.tuple xs) := by
  have := Shp.all h
  refine ⟨by simp [PyData.canLay0, this.1], ?_⟩
  have := this.2
  simp only [PyData.depth]
  omega
theorem Shp.list {n : Nat} {xs : List D} (h : ∀ x ∈ xs, Shp n x) : Shp (n + 1) (.list xs) := by
  have := Shp.all h
  refine ⟨by simp [PyData.canLay0, this.1], ?_⟩
  have := this.2
  simp only [PyData.depth]
  omega
theorem Shp.cy (e r : Int) : Shp 1 (cy e r) := Shp.tuple fun x hx => by
  simp only [List.mem_cons, List.not_mem_nil, or_false] at hx
  rcases hx with rfl | rfl <;> exact Shp.int _
theorem Shp.ints (ns : List Int) : Shp 1 (.list (ns.map PyData.int)) := Shp.list fun x hx => by
  obtain ⟨i, _, rfl⟩ := List.mem_map.mp hx
  exact Shp.int i
theorem Shp.intsT (ns : List Int) : Shp 1 (.tuple (ns.map PyData.int)) := Shp.tuple fun x hx => by
  obtain ⟨i, _, rfl⟩ := List.mem_map.mp hx
  exact Shp.int i
theorem eqvAll_int : ∀ (a b : List Int), PyData.eqvAll (a.map PyData.int) (b.map PyData.int) = decide (a = b)
  | [], [] => by simp [PyData.eqvAll]
  | [], _ :: _ => by simp [PyData.eqvAll]
  | _ :: _, [] => by simp [PyData.eqvAll]
  | x :: a, y :: b => by
    simp only [List.map_cons, PyData.eqvAll, eqv_int, eqvAll_int a b]
    rw [Bool.eq_iff_iff]
    simp
/-- lists of ints -/
theorem eq_ints (a b : List Int) : cmpD .Eq (.list (a.map PyData.int)) (.list (b.map PyData.int)) = some (decide (a = b)) := by
  rw [eq_d (Shp.ints a).shp (Shp.ints b).shp]
  show some (PyData.eqvAll _ _) = _
  rw [eqvAll_int]
theorem ne_ints (a b : List Int) : cmpD .NotEq (.list (a.map PyData.int)) (.list (b.map PyData.int)) = some (!decide (a = b)) := by
  rw [ne_d (Shp.ints a).shp (Shp.ints b).shp]
  show some (!PyData.eqvAll _ _) = _
  rw [eqvAll_int]
theorem eq_intsT (a b : List Int) : cmpD .Eq (.tuple (a.map PyData.int)) (.tuple (b.map PyData.int)) = some (decide (a = b)) := by
  rw [eq_d (Shp.intsT a).shp (Shp.intsT b).shp]
  show some (PyData.eqvAll _ _) = _
  rw [eqvAll_int]
theorem ne_intsT (a b : List Int) : cmpD .NotEq (.tuple (a.map PyData.int)) (.tuple (b.map PyData.int)) = some (!decide (a = b)) := by
  rw [ne_d (Shp.intsT a).shp (Shp.intsT b).shp]
  show some (!PyData.eqvAll _ _) = _
  rw [eqvAll_int]
/-- x != () -/
theorem ne_nilT {n : Nat} {xs : List D} (h : ∀ x ∈ xs, Shp n x) (hn : n ≤ 63 := by decide) : cmpD .NotEq (.tuple xs) (.tuple []) = some (!xs.isEmpty) := by
  rw [ne_d ((Shp.tuple h).mono (m := 64) (by omega)).shp (show shp (.tuple []) = true from (Shp.intsT []).shp)]
  show some (!PyData.eqvAll xs []) = _
  cases xs <;> simp [PyData.eqvAll]
theorem ne_nilL {n : Nat} {xs : List D} (h : ∀ x ∈ xs, Shp n x) (hn : n ≤ 63 := by decide) : cmpD .NotEq (.list xs) (.list []) = some (!xs.isEmpty) := by
  rw [ne_d ((Shp.list h).mono (m := 64) (by omega)).shp (show shp (.list []) = true from (Shp.ints []).shp)]
  show some (!PyData.eqvAll xs []) = _
  cases xs <;> simp [PyData.eqvAll]
theorem eq_nilL {n : Nat} {xs : List D} (h : ∀ x ∈ xs, Shp n x) (hn : n ≤ 63 := by decide) : cmpD .Eq (.list xs) (.list []) = some (xs.isEmpty) := by
  rw [eq_d ((Shp.list h).mono (m := 64) (by omega)).shp (show shp (.list []) = true from (Shp.ints []).shp)]
  show some (PyData.eqvAll xs []) = _
  cases xs <;> simp [PyData.eqvAll]
theorem in_ints (i : Int) (ns : List Int) : cmpD .In (.int i) (.list (ns.map PyData.int)) = some (decide (i ∈ ns)) := by
  show (if shp (.int i) && shp (.list (ns.map PyData.int)) then some ((ns.map PyData.int).any fun z => PyData.eqv z (.int i)) else Option.none) = _
  rw [shp_int, (Shp.ints ns).shp]
  show some _ = _
  rw [List.any_map]
  congr 1
  rw [Bool.eq_iff_iff]
  simp [Function.comp_def]
theorem notin_ints (i : Int) (ns : List Int) : cmpD .NotIn (.int i) (.list (ns.map PyData.int)) = some (!decide (i ∈ ns)) := by
  show (if shp (.int i) && shp (.list (ns.map PyData.int)) then some (!(ns.map PyData.int).any fun z => PyData.eqv z (.int i)) else Option.none) = _
  rw [shp_int, (Shp.ints ns).shp]
  show some _ = _
  rw [List.any_map]
  congr 2
  rw [Bool.eq_iff_iff]
  simp [Function.comp_def]
def minI (ns : List Int) : Int := (minL ns).getD 0
def maxI (ns : List Int) : Int := (maxL ns).getD 0
theorem minI_mem {ns : List Int} (h : ns ≠ []) : minI ns ∈ ns := by
  cases ns with
  | nil => exact absurd rfl h
  | cons x r => exact (foldl_min r x).1
theorem minI_le {ns : List Int} {y : Int} (h : y ∈ ns) : minI ns ≤ y := by
  cases ns with
  | nil => cases h
  | cons x r => exact (foldl_min r x).2 y h
theorem maxI_mem {ns : List Int} (h : ns ≠ []) : maxI ns ∈ ns := by
  cases ns with
  | nil => exact absurd rfl h
  | cons x r => exact (foldl_max r x).1
theorem le_maxI {ns : List Int} {y : Int} (h : y ∈ ns) : y ≤ maxI ns := by
  cases ns with
  | nil => cases h
  | cons x r => exact (foldl_max r x).2 y h
theorem mn_ints {ns : List Int} (h : ns ≠ []) : bltD .mn [.list (ns.map PyData.int)] = some (.int (minI ns)) := by
  show (match asInts (ns.map PyData.int) with
    | some ns => (minL ns).map PyData.int
    | none => (match ns.map PyData.int with
      | x :: r => if mdB (x :: r) then some (PySem.W.minD x r) else none
      | [] => none)) = _
  rw [asInts_map]
  cases ns with
  | nil => exact absurd rfl h
  | cons x r => rfl
theorem mx_ints {ns : List Int} (h : ns ≠ []) : bltD .mx [.list (ns.map PyData.int)] = some (.int (maxI ns)) := by
  show (match asInts (ns.map PyData.int) with
    | some ns => (maxL ns).map PyData.int
    | none => (match ns.map PyData.int with
      | x :: r => if mdB (x :: r) then some (PySem.W.maxD x r) else none
      | [] => none)) = _
  rw [asInts_map]
  cases ns with
  | nil => exact absurd rfl h
  | cons x r => rfl
theorem sum_ints (ns : List Int) : bltD .sum [.list (ns.map PyData.int)] = some (.int ns.sum) := by
  show (asInts (ns.map PyData.int)).map (fun ns => PyData.int ns.sum) = _
  rw [asInts_map]
  rfl
theorem sorted_ints (ns : List Int) : bltD .sorted [.list (ns.map PyData.int)] = some (.list ((sortI ns).map PyData.int)) := by
  show (match asInts (ns.map PyData.int) with
    | some ns => some (PyData.list ((sortI ns).map .int))
    | none => if sdB (ns.map PyData.int) then some (.list (srtD (ns.map PyData.int))) else none) = _
  rw [asInts_map]
/-- what is sorted already -/
theorem sortI_of {l m : List Int} (h : m.Pairwise (· ≤ ·)) (p : l.Perm m) : sortI l = m := sorted_uniq (sortI_sorted l) h ((sortI_perm l).trans p)
/-- two ascending lists with the same members -/
theorem asc_ext : ∀ {l m : List Int}, l.Pairwise (· < ·) → m.Pairwise (· < ·) → (∀ x, x ∈ l ↔ x ∈ m) → l = m
  | [], [], _, _, _ => rfl
  | [], y :: m, _, _, h => by have := (h y).mpr (List.mem_cons_self ..); cases this
  | x :: l, [], _, _, h => by have := (h x).mp (List.mem_cons_self ..); cases this
  | x :: l, y :: m, h1, h2, h => by
    obtain ⟨a1, a2⟩ := List.pairwise_cons.mp h1
    obtain ⟨b1, b2⟩ := List.pairwise_cons.mp h2
    have e : x = y := by
      have p := (h x).mp (List.mem_cons_self ..)
      have q := (h y).mpr (List.mem_cons_self ..)
      rcases List.mem_cons.mp p with p | p
      · exact p
      · rcases List.mem_cons.mp q with q | q
        · exact q.symm
        · have := a1 y q
          have := b1 x p
          omega
    subst e
    congr 1
    refine asc_ext a2 b2 fun z => ?_
    have := h z
    simp only [List.mem_cons] at this
    constructor
    · intro hz
      rcases this.mp (.inr hz) with rfl | q
      · have := a1 z hz; omega
      · exact q
    · intro hz
      rcases this.mpr (.inr hz) with rfl | q
      · have := b1 z hz; omega
      · exact q
def pc (i : Nat) : Nat := ((List.range 12).filter fun a => i.testBit a).length
theorem pc_zero : pc 0 = 0 := by decide +kernel
theorem pc_add {k i : Nat} (hk : k < 12) (hi : i < 2 ^ k) : pc (2 ^ k + i) = pc i + 1 := by
  unfold pc
  have key : ∀ (l : List Nat), l.Nodup → (l.filter fun a => (2 ^ k + i).testBit a).length = (l.filter fun a => i.testBit a).length + (if k ∈ l then 1 else 0) := by
    intro l
    induction l with
    | nil => intro _; rfl
    | cons a l ih =>
      intro hn
      obtain ⟨h1, h2⟩ := List.nodup_cons.mp hn
      have ih := ih h2
      rw [List.filter_cons, List.filter_cons]
      by_cases q : a = k
      · subst q
        rw [if_neg h1] at ih
        have e1 : (2 ^ a + i).testBit a = !i.testBit a := Nat.testBit_two_pow_add_eq i a
        have e2 : i.testBit a = false := Nat.testBit_lt_two_pow hi
        rw [e1, e2]
        simp [ih]
      · have e1 : (2 ^ k + i).testBit a = i.testBit a := by
          rcases Nat.lt_or_ge a k with q | q
          · exact Nat.testBit_two_pow_add_gt q i
          · have e3 : i.testBit a = false := Nat.testBit_lt_two_pow (Nat.lt_of_lt_of_le hi (Nat.pow_le_pow_right (by omega) q))
            rw [e3]
            refine Nat.testBit_lt_two_pow (Nat.lt_of_lt_of_le (m := 2 ^ (k + 1)) ?_ (Nat.pow_le_pow_right (by omega) (by omega)))
            rw [Nat.pow_succ]
            omega
        rw [e1]
        have hm : (k ∈ a :: l) ↔ k ∈ l := by simp [Ne.symm q]
        split
        · rw [List.length_cons, List.length_cons, ih]
          by_cases w : k ∈ l
          · rw [if_pos w, if_pos (hm.mpr w)]
          · rw [if_neg w, if_neg (fun z => w (hm.mp z))]
        · rw [ih]
          by_cases w : k ∈ l
          · rw [if_pos w, if_pos (hm.mpr w)]
          · rw [if_neg w, if_neg (fun z => w (hm.mp z))]
  rw [key _ List.nodup_range, if_pos (List.mem_range.mpr hk)]
theorem Qs_pc {cs : List Cyc} (h : cs.length ≤ 12) : ∀ (i : Nat) (e : QE), (Qs cs)[i]? = some e → e.1 = pc i := by
  refine snoc_ind (P := fun cs => cs.length ≤ 12 → ∀ (i : Nat) (e : QE), (Qs cs)[i]? = some e → e.1 = pc i) (fun _ i e he => ?_) (fun cs c ih hl i e he => ?_) cs h
  · have : i = 0 := by
      have := (List.getElem?_eq_some_iff.mp he).1
      have : (Qs []).length = 1 := rfl
      omega
    subst this
    cases he
    exact pc_zero.symm
  · rw [List.length_append, List.length_singleton] at hl
    have ih := ih (by omega)
    rw [Qs_snoc] at he
    unfold qStep at he
    rcases Nat.lt_or_ge i (Qs cs).length with q | q
    · rw [List.getElem?_append_left q] at he
      exact ih i e he
    · rw [List.getElem?_append_right q, List.getElem?_map] at he
      cases e2 : (Qs cs)[i - (Qs cs).length]? with
      | none => rw [e2] at he; cases he
      | some e' =>
        rw [e2] at he
        cases he
        have := ih _ _ e2
        show e'.1 + 1 = _
        have hj := (List.getElem?_eq_some_iff.mp e2).1
        rw [Qs_len] at hj q this
        have e3 : i = 2 ^ cs.length + (i - 2 ^ cs.length) := by omega
        rw [e3, pc_add (by omega) hj, this]
/-- the digit at a place -/
theorem shr_and (i : Nat) (a : Nat) : Builtin.bitAnd ((i : Int) / 2 ^ a) 1 = if i.testBit a then 1 else 0 := by
  rw [PyProof.Rows.bitAnd_m1]
  have e : ((i : Int) / 2 ^ a) % 2 = ((i / 2 ^ a % 2 : Nat) : Int) := by push_cast; rfl
  rw [e, Nat.testBit_eq_decide_div_mod_eq]
  by_cases q : i / 2 ^ a % 2 = 1
  · simp [q]
  · have : i / 2 ^ a % 2 = 0 := by omega
    simp [this]
end WM
namespace WM
open PySem PySem.Spec PyProof.Rows L2
/-- a row's numbers -/
structure RowOk (a n b : Int) : Prop where
  n0 : 1 ≤ n
  n1 : n ≤ 1000
  a0 : 0 ≤ a
  a1 : a ≤ n
  b0 : 0 ≤ b
  b1 : b < n
def cb (a n b y : Int) : Int := (a * y + b) / n
def lt1 (a n b y : Int) : Bool := decide (n - a ≤ (a * y + b) % n)
theorem cb_next {a n b : Int} (h : RowOk a n b) (y : Int) : cb a n b (y + 1) - cb a n b y = b1 (lt1 a n b y) := by
  have h0 := h.n0
  have h2 := h.a0
  have h3 := h.a1
  unfold cb lt1
  have e : a * (y + 1) + b = a * y + b + a := by rw [Int.mul_add]; omega
  rw [e]
  generalize a * y + b = x
  have d1 := Int.emod_add_mul_ediv x n
  have d2 := Int.emod_nonneg x (show n ≠ 0 by omega)
  have d3 := Int.emod_lt_of_pos x (show 0 < n by omega)
  by_cases c : n - a ≤ x % n
  · rw [decide_eq_true c, b1_t, ediv_of (e := n) (q := x / n + 1) (s := x % n + a - n) (by omega) (by rw [Int.mul_add]; omega) (by omega) (by omega)]
    omega
  · rw [decide_eq_false c, b1_f, ediv_of (e := n) (q := x / n) (s := x % n + a) (by omega) (by omega) (by omega) (by omega)]
    omega
theorem cb_zero {a n b : Int} (h : RowOk a n b) : cb a n b 0 = 0 := by
  unfold cb
  rw [Int.mul_zero, Int.zero_add]
  exact Int.ediv_eq_zero_of_lt h.b0 h.b1
theorem cb_turn {a n b : Int} (h : RowOk a n b) (y t : Int) : cb a n b (y + n * t) = cb a n b y + a * t := by
  have h0 := h.n0
  unfold cb
  have e : a * (y + n * t) + b = (a * y + b) + n * (a * t) := by grind
  rw [e, Int.add_mul_ediv_left _ _ (by omega)]
theorem lt1_turn {a n b : Int} (y t : Int) : lt1 a n b (y + n * t) = lt1 a n b y := by
  unfold lt1
  have e : a * (y + n * t) + b = (a * y + b) + n * (a * t) := by grind
  rw [e, Int.add_mul_emod_self_left]
/-- how many from a year on -/
theorem cb_sum {a n b : Int} (h : RowOk a n b) (lo : Int) : ∀ m : Nat, sm (fun i => b1 (lt1 a n b (lo + (i : Int)))) m = cb a n b (lo + m) - cb a n b lo
  | 0 => by simp [sm]
  | m + 1 => by
    have := cb_next h (lo + m)
    show sm _ m + _ = _
    rw [cb_sum h lo m]
    push_cast
    rw [← Int.add_assoc]
    omega
theorem cb_mono {a n b : Int} (h : RowOk a n b) {x y : Int} (hxy : x ≤ y) : cb a n b x ≤ cb a n b y := by
  unfold cb
  refine Int.ediv_le_ediv (by have := h.n0; omega) ?_
  have := Int.mul_le_mul_of_nonneg_left hxy h.a0
  omega
/-- a leap year with an index -/
def LpY (a n b y k : Int) : Prop := lt1 a n b y = true ∧ cb a n b y = k
theorem LpY.uniq {a n b x y k : Int} (h : RowOk a n b) (h1 : LpY a n b x k) (h2 : LpY a n b y k) : x = y := by
  have key : ∀ {x y : Int}, LpY a n b x k → LpY a n b y k → ¬ x < y := fun {x y} h1 h2 c => by
    have e1 := cb_next h x
    rw [h1.1, b1_t] at e1
    have := cb_mono h (show x + 1 ≤ y by omega)
    have := h1.2
    have := h2.2
    omega
  have := key h1 h2
  have := key h2 h1
  omega
def lyr (a n b k : Int) : Int := -((b - n * (k + 1)) / a) - 1
theorem lyr_ok {a n b : Int} (h : RowOk a n b) (ha : 1 ≤ a) (k : Int) : LpY a n b (lyr a n b k) k := by
  have h0 := h.n0
  have d1 := Int.emod_add_mul_ediv (b - n * (k + 1)) a
  have d2 := Int.emod_nonneg (b - n * (k + 1)) (show a ≠ 0 by omega)
  have d3 := Int.emod_lt_of_pos (b - n * (k + 1)) (show 0 < a by omega)
  unfold lyr
  generalize (b - n * (k + 1)) / a = t at *
  have e1 : a * (-t - 1) = -(a * t) - a := by grind
  have e2 : n * (k + 1) = n * k + n := by grind
  have lo : cb a n b (-t - 1) ≤ k := by
    unfold cb
    have : (a * (-t - 1) + b) / n < k + 1 := Int.ediv_lt_of_lt_mul (by omega) (by rw [e1, Int.mul_comm (k + 1) n, e2]; omega)
    omega
  have hi : k + 1 ≤ cb a n b (-t - 1 + 1) := by
    unfold cb
    refine Int.le_ediv_of_mul_le (by omega) ?_
    have e3 : -t - 1 + 1 = -t := by omega
    have e4 : a * -t = -(a * t) := by grind
    rw [e3, e4, Int.mul_comm (k + 1) n, e2]
    omega
  have nx := cb_next h (-t - 1)
  unfold LpY
  cases c : lt1 a n b (-t - 1) with
  | true =>
    rw [c, b1_t] at nx
    exact ⟨rfl, by omega⟩
  | false =>
    rw [c, b1_f] at nx
    omega
/-- the leap years from 0 to n -/
def yrs (a n b : Int) : List Int := (iv 0 n.toNat).filter fun y => lt1 a n b y
theorem mem_yrs {a n b y : Int} (h : RowOk a n b) : y ∈ yrs a n b ↔ 0 ≤ y ∧ y < n ∧ lt1 a n b y = true := by
  have := h.n0
  unfold yrs
  rw [List.mem_filter, mem_iv]
  constructor
  · rintro ⟨⟨h1, h2⟩, h3⟩
    exact ⟨h1, by omega, h3⟩
  · rintro ⟨h1, h2, h3⟩
    exact ⟨⟨h1, by omega⟩, h3⟩
theorem yrs_asc (a n b : Int) : (yrs a n b).Pairwise (· < ·) := (iv_pw 0 _).filter _
theorem filter_len (p : Int → Bool) (lo : Int) : ∀ m : Nat, (((iv lo m).filter p).length : Int) = sm (fun i => b1 (p (lo + (i : Int)))) m
  | 0 => rfl
  | m + 1 => by
    rw [iv_succ, List.filter_append, List.length_append]
    show _ = sm _ m + b1 (p (lo + (m : Int)))
    rw [← filter_len p lo m, List.filter_cons]
    push_cast
    congr 1
    cases p (lo + (m : Int)) <;> rfl
theorem yrs_len {a n b : Int} (h : RowOk a n b) : ((yrs a n b).length : Int) = a := by
  have h0 := h.n0
  unfold yrs
  rw [filter_len, cb_sum h]
  have e : ((0 : Int) + ((n.toNat : Nat) : Int)) = 0 + n * 1 := by omega
  rw [e, cb_turn h, cb_zero h]
  omega
theorem filter_at (p : Int → Bool) (lo : Int) : ∀ (m j : Nat) (y : Int), ((iv lo m).filter p)[j]? = some y → lo ≤ y ∧ y < lo + m ∧ p y = true ∧ sm (fun i => b1 (p (lo + (i : Int)))) (y - lo).toNat = j
  | 0, j, y, h => by
    have : ((iv lo 0).filter p)[j]? = none := by
      show ([] : List Int)[j]? = none
      simp
    rw [this] at h
    cases h
  | m + 1, j, y, h => by
    rw [iv_succ, List.filter_append] at h
    rcases Nat.lt_or_ge j ((iv lo m).filter p).length with q | q
    · rw [List.getElem?_append_left q] at h
      obtain ⟨h1, h2, h3, h4⟩ := filter_at p lo m j y h
      exact ⟨h1, by omega, h3, h4⟩
    · rw [List.getElem?_append_right q, List.filter_cons] at h
      cases c : p (lo + (m : Int)) with
      | false =>
        rw [c] at h
        simp at h
      | true =>
        rw [c] at h
        have hj : j = ((iv lo m).filter p).length := by
          have := (List.getElem?_eq_some_iff.mp h).1
          simp at this
          omega
        subst hj
        simp at h
        subst h
        have e : (lo + (m : Int) - lo).toNat = m := by omega
        refine ⟨by omega, by omega, c, ?_⟩
        rw [e, ← filter_len]
theorem yrs_at {a n b : Int} (h : RowOk a n b) {j : Nat} {y : Int} (hy : (yrs a n b)[j]? = some y) : 0 ≤ y ∧ y < n ∧ LpY a n b y j := by
  have h0 := h.n0
  obtain ⟨h1, h2, h3, h4⟩ := filter_at _ _ _ _ _ hy
  rw [cb_sum h] at h4
  have e : (0 : Int) + ((y - 0).toNat : Int) = y := by omega
  rw [e, cb_zero h] at h4
  exact ⟨h1, by omega, h3, by omega⟩
theorem LpY.turn {a n b y k : Int} (h : RowOk a n b) (t : Int) (h1 : LpY a n b y k) : LpY a n b (y + n * t) (k + a * t) := ⟨by rw [lt1_turn]; exact h1.1, by rw [cb_turn h, h1.2]⟩
/-- the leap year of any index, by the first n years -/
theorem lyr_eq {a n b : Int} (h : RowOk a n b) (ha : 1 ≤ a) (k : Int) {y : Int} (hy : (yrs a n b)[(k % a).toNat]? = some y) : lyr a n b k = k / a * n + y := by
  obtain ⟨_, _, h3⟩ := yrs_at h hy
  have h4 := h3.turn h (k / a)
  have d1 := Int.emod_add_mul_ediv k a
  have d2 := Int.emod_nonneg k (show a ≠ 0 by omega)
  have e : (((k % a).toNat : Nat) : Int) + a * (k / a) = k := by omega
  rw [e] at h4
  have := (lyr_ok h ha k).uniq h h4
  rw [this, Int.mul_comm n]
  omega
theorem oth_ok {a n b : Int} (h : RowOk a n b) : RowOk (n - a) n (n - 1 - b) := by
  obtain ⟨h1, h2, h3, h4, h5, h6⟩ := h
  exact ⟨h1, h2, by omega, by omega, by omega, by omega⟩
theorem lt1_oth {a n b : Int} (h : RowOk a n b) (y : Int) : lt1 (n - a) n (n - 1 - b) y = !lt1 a n b y := by
  have h0 := h.n0
  unfold lt1
  have e : (n - a) * y + (n - 1 - b) = n * (y + 1) - 1 - (a * y + b) := by grind
  rw [e]
  generalize a * y + b = x
  have d1 := Int.emod_add_mul_ediv x n
  have d2 := Int.emod_nonneg x (show n ≠ 0 by omega)
  have d3 := Int.emod_lt_of_pos x (show 0 < n by omega)
  have e2 : (n * (y + 1) - 1 - x) % n = n - 1 - x % n := emod_of (q := y - x / n) (by rw [Int.mul_sub, Int.mul_add]; omega) (by omega) (by omega)
  rw [e2]
  by_cases c : n - a ≤ x % n
  · rw [decide_eq_true c, decide_eq_false (by omega)]
    rfl
  · rw [decide_eq_false c, decide_eq_true (by omega)]
    rfl
theorem near_eq {a n b : Int} (h : RowOk a n b) (ha : 1 ≤ a) (y : Int) : decide ((a * y + b - (n - a) % n) % n < a) = lt1 a n b y := by
  have h0 := h.n0
  have h1 := h.a1
  unfold lt1
  generalize a * y + b = x
  have d1 := Int.emod_add_mul_ediv x n
  have d2 := Int.emod_nonneg x (show n ≠ 0 by omega)
  have d3 := Int.emod_lt_of_pos x (show 0 < n by omega)
  by_cases c0 : a = n
  · have e : (n - a) % n = 0 := by rw [c0, Int.sub_self, Int.zero_emod]
    rw [e, Int.sub_zero, decide_eq_true (by omega), decide_eq_true (by omega)]
  · have e : (n - a) % n = n - a := Int.emod_eq_of_lt (by omega) (by omega)
    rw [e]
    by_cases c : n - a ≤ x % n
    · rw [decide_eq_true c, emod_of (e := n) (q := x / n) (s := x % n - (n - a)) (by omega) (by omega) (by omega), decide_eq_true (by omega)]
    · rw [decide_eq_false c, emod_of (e := n) (q := x / n - 1) (s := x % n + a) (by rw [Int.mul_sub]; omega) (by omega) (by omega), decide_eq_false (by omega)]
theorem sortI_asc {l m : List Int} (hn : l.Nodup) (hm : m.Pairwise (· < ·)) (h : ∀ x, x ∈ l ↔ x ∈ m) : sortI l = m := by
  have p := sortI_perm l
  have s := sortI_sorted l
  have nd : (sortI l).Nodup := p.nodup_iff.mpr hn
  have s2 : (sortI l).Pairwise (· < ·) := by
    have := s.and nd
    exact this.imp fun ⟨h1, h2⟩ => by omega
  exact asc_ext s2 hm fun x => by rw [p.mem_iff]; exact h x
/-- the turning number makes the leap years of the greatest rests -/
theorem turn_years {a n b t z : Int} (h : RowOk a n b) (ht : t * a = 1 + n * z) : sortI ((iv (n - a) a.toNat).map fun r => t * (r - b) % n) = yrs a n b := by
  have h0 := h.n0
  have h1 := h.a0
  have h2 := h.a1
  have back : ∀ r, n - a ≤ r → r < n → (a * (t * (r - b) % n) + b) % n = r := fun r r0 r1 => by
    have d := Int.emod_add_mul_ediv (t * (r - b)) n
    refine emod_of (q := z * (r - b) - a * (t * (r - b) / n)) ?_ (by omega) r1
    have e1 : t * (r - b) % n = t * (r - b) - n * (t * (r - b) / n) := by omega
    rw [e1]
    have e2 : a * (t * (r - b)) = (1 + n * z) * (r - b) := by rw [← ht]; grind
    grind
  refine sortI_asc ?_ (yrs_asc a n b) fun y => ?_
  · refine (List.pairwise_map.mpr ?_ : ((iv (n - a) a.toNat).map fun r => t * (r - b) % n).Pairwise (· ≠ ·))
    refine (iv_pw (n - a) a.toNat).imp_of_mem fun {x y} hx hy hxy e => ?_
    obtain ⟨x0, x1⟩ := mem_iv.mp hx
    obtain ⟨y0, y1⟩ := mem_iv.mp hy
    have ex := back x x0 (by omega)
    have ey := back y y0 (by omega)
    rw [e] at ex
    omega
  · rw [mem_yrs h, List.mem_map]
    constructor
    · rintro ⟨r, hr, rfl⟩
      obtain ⟨r0, r1⟩ := mem_iv.mp hr
      refine ⟨Int.emod_nonneg _ (by omega), Int.emod_lt_of_pos _ (by omega), ?_⟩
      unfold lt1
      rw [back r r0 (by omega)]
      exact decide_eq_true r0
    · rintro ⟨y0, y1, y2⟩
      unfold lt1 at y2
      have y2 := of_decide_eq_true y2
      have d := Int.emod_add_mul_ediv (a * y + b) n
      have d1 := Int.emod_lt_of_pos (a * y + b) (show 0 < n by omega)
      refine ⟨(a * y + b) % n, mem_iv.mpr ⟨y2, by omega⟩, ?_⟩
      refine emod_of (q := z * y - t * ((a * y + b) / n)) ?_ y0 y1
      have e1 : (a * y + b) % n = a * y + b - n * ((a * y + b) / n) := by omega
      rw [e1]
      have e2 : t * (a * y) = (1 + n * z) * y := by rw [← ht]; grind
      grind
end WM
namespace WM
open PySem PySem.Spec PyProof.Rows L2 RT
/-- a loop, with what is done in sight -/
theorem for_J {γ : Type} {g : D → Sl → Option Sl} {b : SM} (x : γ → D) (J : List γ → Sl → Store → Prop) : ∀ {l done : List γ} {sl : Sl} {st : Store},
    (∀ (d : List γ) (c : γ) (r : List γ) (sl : Sl) (st : Store), done ++ l = d ++ c :: r → J d sl st → ∃ sl1 sl2 st2, g (x c) sl = some sl1 ∧ b sl1 st = some (.nx, sl2, st2) ∧ J (d ++ [c]) sl2 st2) → J done sl st → ∃ sl' st', forL g b (l.map x) sl st = some (.nx, sl', st') ∧ J (done ++ l) sl' st'
  | [], done, sl, st, _, j => ⟨sl, st, rfl, by rw [List.append_nil]; exact j⟩
  | c :: l, done, sl, st, hh, j => by
    obtain ⟨sl1, sl2, st2, e1, e2, j2⟩ := hh done c l sl st rfl j
    obtain ⟨sl', st', e3, j3⟩ := for_J (l := l) (done := done ++ [c]) x J (fun d c' r sl st e => hh d c' r sl st (by rw [← e]; simp)) j2
    refine ⟨sl', st', ?_, by rw [List.append_assoc] at j3; exact j3⟩
    rw [List.map_cons]
    unfold forL
    simp only [e1, e2]
    exact e3
/-- a loop that hands something back at the first thing with p -/
theorem for_or {γ : Type} {g : D → Sl → Option Sl} {b : SM} (x : γ → D) (J : Sl → Prop) (st : Store) (p : γ → Prop) (R : W → Prop) : ∀ {l : List γ} {sl : Sl}, J sl →
    (∀ c ∈ l, ∀ sl, J sl → ∃ sl1, g (x c) sl = some sl1 ∧ ((p c ∧ ∃ w sl2, b sl1 st = some (.ret w, sl2, st) ∧ R w) ∨ (¬ p c ∧ ∃ sl2, b sl1 st = some (.nx, sl2, st) ∧ J sl2))) →
    ((∃ c ∈ l, p c) ∧ ∃ w sl', forL g b (l.map x) sl st = some (.ret w, sl', st) ∧ R w) ∨ ((∀ c ∈ l, ¬ p c) ∧ ∃ sl', forL g b (l.map x) sl st = some (.nx, sl', st) ∧ J sl')
  | [], sl, j, _ => .inr ⟨fun c hc => absurd hc (by simp), sl, rfl, j⟩
  | c :: l, sl, j, h => by
    obtain ⟨sl1, e1, h2⟩ := h c (List.mem_cons_self ..) sl j
    rw [List.map_cons]
    unfold forL
    simp only [e1]
    rcases h2 with ⟨hp, w, sl2, e2, r⟩ | ⟨hp, sl2, e2, j2⟩
    · refine .inl ⟨⟨c, List.mem_cons_self .., hp⟩, w, sl2, ?_, r⟩
      simp only [e2]
    · simp only [e2]
      rcases for_or (l := l) x J st p R j2 (fun d hd => h d (List.mem_cons_of_mem _ hd)) with ⟨⟨d, hd, q⟩, w, sl', e3, r⟩ | ⟨q, sl', e3, j3⟩
      · exact .inl ⟨⟨d, List.mem_cons_of_mem _ hd, q⟩, w, sl', e3, r⟩
      · refine .inr ⟨fun d hd => ?_, sl', e3, j3⟩
        rcases List.mem_cons.mp hd with rfl | hd
        · exact hp
        · exact q d hd
def Bal (s : Nat → Int) (L : Nat) : Prop := ∀ i j m : Nat, i + m ≤ L → j + m ≤ L → s (i + m) - s i ≤ s (j + m) - s j + 1
def Sep (s : Nat → Int) (L : Nat) : Prop := ∀ i m j n : Nat, 0 < m → 0 < n → i + m ≤ L → j + n ≤ L → (s (i + m) - s i - 1) * n < (s (j + n) - s j + 1) * m
theorem bal_sep {s : Nat → Int} {L : Nat} (h : Bal s L) : ∀ (t m n i j : Nat), m + n ≤ t → 0 < m → 0 < n → i + m ≤ L → j + n ≤ L → (s (i + m) - s i - 1) * n < (s (j + n) - s j + 1) * m
  | 0, m, n, i, j, ht, hm, hn, _, _ => by omega
  | t + 1, m, n, i, j, ht, hm, hn, h1, h2 => by
    rcases Nat.lt_trichotomy m n with c | c | c
    · obtain ⟨n', rfl⟩ : ∃ n', n = m + n' := ⟨n - m, by omega⟩
      have ih := bal_sep h t m n' i (j + m) (by omega) hm (by omega) h1 (by omega)
      have b := h i j m h1 (by omega)
      have e : j + (m + n') = j + m + n' := by omega
      rw [e]
      have hm' : (0 : Int) ≤ m := by omega
      have b2 := Int.mul_le_mul_of_nonneg_right (show s (i + m) - s i - 1 ≤ s (j + m) - s j by omega) hm'
      have c1 : ((m + n' : Nat) : Int) = m + n' := by omega
      rw [c1]
      grind
    · subst c
      have b := h i j m h1 h2
      exact Int.mul_lt_mul_of_pos_right (by omega) (by omega)
    · obtain ⟨m', rfl⟩ : ∃ m', m = n + m' := ⟨m - n, by omega⟩
      have ih := bal_sep h t m' n (i + n) j (by omega) (by omega) hn (by omega) h2
      have b := h i j n (by omega) h2
      have e : i + (n + m') = i + n + m' := by omega
      rw [e]
      have hn' : (0 : Int) ≤ n := by omega
      have b2 := Int.mul_le_mul_of_nonneg_right (show s (i + n) - s i ≤ s (j + n) - s j + 1 by omega) hn'
      have c1 : ((n + m' : Nat) : Int) = n + m' := by omega
      rw [c1]
      grind
theorem sep_bal {s : Nat → Int} {L : Nat} (h : Sep s L) : Bal s L := fun i j m h1 h2 => by
  by_cases c : m = 0
  · subst c
    simp
  · have q := h i m j m (by omega) (by omega) h1 h2
    have := Int.lt_of_mul_lt_mul_right q (show (0 : Int) ≤ m by omega)
    omega
/-- the greatest of all (s e - s b - 1) / (e - b) -/
structure IsLow (s : Nat → Int) (L : Nat) (p q : Int) : Prop where
  q0 : 0 < q
  g : Int.gcd p q = 1
  le : ∀ b e : Nat, b < e → e ≤ L → (s e - s b - 1) * q ≤ p * ((e : Int) - b)
  at_ : ∃ b e : Nat, b < e ∧ e ≤ L ∧ (s e - s b - 1) * q = p * ((e : Int) - b)
/-- the least of all (s e - s b + 1) / (e - b) -/
structure IsHigh (s : Nat → Int) (L : Nat) (p q : Int) : Prop where
  q0 : 0 < q
  g : Int.gcd p q = 1
  le : ∀ b e : Nat, b < e → e ≤ L → p * ((e : Int) - b) ≤ (s e - s b + 1) * q
  at_ : ∃ b e : Nat, b < e ∧ e ≤ L ∧ (s e - s b + 1) * q = p * ((e : Int) - b)
theorem sep_iff {s : Nat → Int} {L : Nat} {p q r t : Int} (h1 : IsLow s L p q) (h2 : IsHigh s L r t) : Sep s L ↔ p * t < r * q := by
  have q0 := h1.q0
  have t0 := h2.q0
  constructor
  · intro h
    obtain ⟨b, e, hb, he, e1⟩ := h1.at_
    obtain ⟨b2, e2, hb2, he2, e3⟩ := h2.at_
    have := h b (e - b) b2 (e2 - b2) (by omega) (by omega) (by omega) (by omega)
    have w1 : b + (e - b) = e := by omega
    have w2 : b2 + (e2 - b2) = e2 := by omega
    rw [w1, w2] at this
    have c1 : ((e - b : Nat) : Int) = (e : Int) - b := by omega
    have c2 : ((e2 - b2 : Nat) : Int) = (e2 : Int) - b2 := by omega
    rw [c1, c2] at this
    have k1 : (0 : Int) < (e : Int) - b := by omega
    have k2 : (0 : Int) < (e2 : Int) - b2 := by omega
    generalize (e : Int) - b = m at *
    generalize (e2 : Int) - b2 = n at *
    generalize s e - s b - 1 = u at *
    generalize s e2 - s b2 + 1 = v at *
    -- u q = p m, v t = r n, u n < v m
    have k : u * n * (q * t) < v * m * (q * t) := Int.mul_lt_mul_of_pos_right this (Int.mul_pos q0 t0)
    have k' : p * t * (m * n) < r * q * (m * n) := by
      have x1 : u * n * (q * t) = p * t * (m * n) := by
        have : u * n * (q * t) = (u * q) * (n * t) := by grind
        rw [this, e1]; grind
      have x2 : v * m * (q * t) = r * q * (m * n) := by
        have : v * m * (q * t) = (v * t) * (m * q) := by grind
        rw [this, e3]; grind
      rw [← x1, ← x2]; exact k
    exact Int.lt_of_mul_lt_mul_right k' (Int.le_of_lt (Int.mul_pos k1 k2))
  · intro h i m j n hm hn hi hj
    have a1 := h1.le i (i + m) (by omega) hi
    have a2 := h2.le j (j + n) (by omega) hj
    have c1 : ((i + m : Nat) : Int) - i = m := by omega
    have c2 : ((j + n : Nat) : Int) - j = n := by omega
    rw [c1] at a1
    rw [c2] at a2
    have k1 : (0 : Int) < m := by omega
    have k2 : (0 : Int) < n := by omega
    generalize (m : Int) = m at *
    generalize (n : Int) = n at *
    generalize s (i + _) - s i - 1 = u at *
    generalize s (j + _) - s j + 1 = v at *
    -- u q <= p m, r n <= v t, p t < r q
    have k3 : u * q * (n * t) ≤ p * m * (n * t) := Int.mul_le_mul_of_nonneg_right a1 (Int.le_of_lt (Int.mul_pos k2 t0))
    have k4 : p * t * (m * n) < r * q * (m * n) := Int.mul_lt_mul_of_pos_right h (Int.mul_pos k1 k2)
    have k5 : r * n * (m * q) ≤ v * t * (m * q) := Int.mul_le_mul_of_nonneg_right a2 (Int.le_of_lt (Int.mul_pos k1 q0))
    have k6 : u * n * (q * t) < v * m * (q * t) := by grind
    exact Int.lt_of_mul_lt_mul_right k6 (Int.le_of_lt (Int.mul_pos q0 t0))
theorem dvd_of_cop {q p t : Int} (g : Int.gcd p q = 1) (h : q ∣ p * t) : q ∣ t := by
  have h' := Int.natAbs_dvd_natAbs.mpr h
  rw [Int.natAbs_mul] at h'
  exact Int.natAbs_dvd_natAbs.mp (Nat.Coprime.dvd_of_dvd_mul_left (show Nat.gcd q.natAbs p.natAbs = 1 by rw [Nat.gcd_comm]; exact g) h')
theorem frac_uniq {p q r t : Int} (q0 : 0 < q) (t0 : 0 < t) (g1 : Int.gcd p q = 1) (g2 : Int.gcd r t = 1) (h : p * t = r * q) : p = r ∧ q = t := by
  have d1 : q ∣ t := by
    have : q ∣ p * t := ⟨r, by rw [h]; grind⟩
    exact dvd_of_cop g1 this
  have d2 : t ∣ q := by
    have : t ∣ r * q := ⟨p, by rw [← h]; grind⟩
    exact dvd_of_cop g2 this
  have e : q = t := Int.dvd_antisymm (by omega) (by omega) d1 d2
  subst e
  exact ⟨Int.eq_of_mul_eq_mul_right (by omega) h, rfl⟩
theorem IsLow.uniq {s : Nat → Int} {L : Nat} {p q r t : Int} (h1 : IsLow s L p q) (h2 : IsLow s L r t) : p = r ∧ q = t := by
  have q0 := h1.q0
  have t0 := h2.q0
  refine frac_uniq q0 t0 h1.g h2.g ?_
  obtain ⟨b, e, hb, he, e1⟩ := h1.at_
  obtain ⟨b2, e2, hb2, he2, e3⟩ := h2.at_
  have a1 := h2.le b e hb he
  have a2 := h1.le b2 e2 hb2 he2
  have k1 : (0 : Int) < (e : Int) - b := by omega
  have k2 : (0 : Int) < (e2 : Int) - b2 := by omega
  generalize (e : Int) - b = m at *
  generalize (e2 : Int) - b2 = n at *
  generalize s e - s b - 1 = u at *
  generalize s e2 - s b2 - 1 = v at *
  -- u q = p m, u t <= r m ; v t = r n, v q <= p n
  have x1 : p * t * m ≤ r * q * m := by
    have := Int.mul_le_mul_of_nonneg_right a1 (Int.le_of_lt q0)
    have y : u * t * q = p * t * m := by
      have : u * t * q = (u * q) * t := by grind
      rw [this, e1]; grind
    grind
  have x2 : r * q * n ≤ p * t * n := by
    have := Int.mul_le_mul_of_nonneg_right a2 (Int.le_of_lt t0)
    have y : v * q * t = r * q * n := by
      have : v * q * t = (v * t) * q := by grind
      rw [this, e3]; grind
    grind
  have y1 := Int.le_of_mul_le_mul_right x1 k1
  have y2 := Int.le_of_mul_le_mul_right x2 k2
  omega
theorem IsHigh.uniq {s : Nat → Int} {L : Nat} {p q r t : Int} (h1 : IsHigh s L p q) (h2 : IsHigh s L r t) : p = r ∧ q = t := by
  have q0 := h1.q0
  have t0 := h2.q0
  refine frac_uniq q0 t0 h1.g h2.g ?_
  obtain ⟨b, e, hb, he, e1⟩ := h1.at_
  obtain ⟨b2, e2, hb2, he2, e3⟩ := h2.at_
  have a1 := h2.le b e hb he
  have a2 := h1.le b2 e2 hb2 he2
  have k1 : (0 : Int) < (e : Int) - b := by omega
  have k2 : (0 : Int) < (e2 : Int) - b2 := by omega
  generalize (e : Int) - b = m at *
  generalize (e2 : Int) - b2 = n at *
  generalize s e - s b + 1 = u at *
  generalize s e2 - s b2 + 1 = v at *
  have x1 : r * q * m ≤ p * t * m := by
    have := Int.mul_le_mul_of_nonneg_right a1 (Int.le_of_lt q0)
    have y : u * t * q = p * t * m := by
      have : u * t * q = (u * q) * t := by grind
      rw [this, e1]; grind
    grind
  have x2 : p * t * n ≤ r * q * n := by
    have := Int.mul_le_mul_of_nonneg_right a2 (Int.le_of_lt t0)
    have y : v * q * t = r * q * n := by
      have : v * q * t = (v * t) * q := by grind
      rw [this, e3]; grind
    grind
  have y1 := Int.le_of_mul_le_mul_right x1 k1
  have y2 := Int.le_of_mul_le_mul_right x2 k2
  omega
/-- a row of a of n from b on has the word -/
def HasAt (s : Nat → Int) (L : Nat) (a n b : Int) : Prop := ∀ i : Nat, i ≤ L → (a * i + b) / n = s i
theorem max_at (f : Nat → Int) : ∀ L : Nat, ∃ i, i ≤ L ∧ ∀ j, j ≤ L → f j ≤ f i
  | 0 => ⟨0, Nat.le_refl _, fun j hj => by rw [show j = 0 by omega]; exact Int.le_refl _⟩
  | L + 1 => by
    obtain ⟨i, hi, h⟩ := max_at f L
    by_cases c : f i ≤ f (L + 1)
    · refine ⟨L + 1, Nat.le_refl _, fun j hj => ?_⟩
      by_cases e : j = L + 1
      · subst e; exact Int.le_refl _
      · exact Int.le_trans (h j (by omega)) c
    · refine ⟨i, by omega, fun j hj => ?_⟩
      by_cases e : j = L + 1
      · subst e; omega
      · exact h j (by omega)
theorem div_at {x n v : Int} (hn : 0 < n) : x / n = v ↔ n * v ≤ x ∧ x < n * v + n := by
  constructor
  · intro h
    subst h
    have h1 := Int.mul_ediv_add_emod x n
    have h2 := Int.emod_nonneg x (show n ≠ 0 by omega)
    have h3 := Int.emod_lt_of_pos x hn
    omega
  · rintro ⟨h1, h2⟩
    have h3 := Int.mul_ediv_add_emod x n
    have h4 := Int.emod_nonneg x (show n ≠ 0 by omega)
    have h5 := Int.emod_lt_of_pos x hn
    have k1 : n * v < n * (x / n + 1) := by rw [Int.mul_add, Int.mul_one]; omega
    have k2 : n * (x / n) < n * (v + 1) := by rw [Int.mul_add, Int.mul_one]; omega
    have := Int.lt_of_mul_lt_mul_left k1 (by omega)
    have := Int.lt_of_mul_lt_mul_left k2 (by omega)
    omega
theorem has_bounds {s : Nat → Int} {L : Nat} {p q r t a n b : Int} (h1 : IsLow s L p q) (h2 : IsHigh s L r t) (hn : 0 < n) (h : HasAt s L a n b) : p * n < a * q ∧ a * t < r * n := by
  have q0 := h1.q0
  have t0 := h2.q0
  constructor
  · obtain ⟨b1, e, hb, he, e1⟩ := h1.at_
    have x1 := (div_at hn).mp (h b1 (by omega))
    have x2 := (div_at hn).mp (h e he)
    have k1 : (0 : Int) < (e : Int) - b1 := by omega
    have x3 : n * (s e - s b1 - 1) < a * ((e : Int) - b1) := by grind
    generalize (e : Int) - b1 = m at *
    generalize s e - s b1 - 1 = u at *
    have x4 := Int.mul_lt_mul_of_pos_right x3 q0
    have x5 : n * u * q = p * n * m := by
      have : n * u * q = n * (u * q) := by grind
      rw [this, e1]; grind
    have x6 : p * n * m < a * q * m := by grind
    exact Int.lt_of_mul_lt_mul_right x6 (Int.le_of_lt k1)
  · obtain ⟨b1, e, hb, he, e1⟩ := h2.at_
    have x1 := (div_at hn).mp (h b1 (by omega))
    have x2 := (div_at hn).mp (h e he)
    have k1 : (0 : Int) < (e : Int) - b1 := by omega
    have x3 : a * ((e : Int) - b1) < n * (s e - s b1 + 1) := by grind
    generalize (e : Int) - b1 = m at *
    generalize s e - s b1 + 1 = u at *
    have x4 := Int.mul_lt_mul_of_pos_right x3 t0
    have x5 : n * u * t = r * n * m := by
      have : n * u * t = n * (u * t) := by grind
      rw [this, e1]; grind
    have x6 : a * t * m < r * n * m := by grind
    exact Int.lt_of_mul_lt_mul_right x6 (Int.le_of_lt k1)
theorem bounds_has {s : Nat → Int} {L : Nat} {p q r t a n : Int} (h0 : s 0 = 0) (h1 : IsLow s L p q) (h2 : IsHigh s L r t) (hn : 0 < n) (k1 : p * n < a * q) (k2 : a * t < r * n) : ∃ b, 0 ≤ b ∧ b < n ∧ HasAt s L a n b := by
  have q0 := h1.q0
  have t0 := h2.q0
  obtain ⟨i, hi, hm⟩ := max_at (fun i => n * s i - a * i) L
  have key : ∀ j, j ≤ L → n * s i - a * i < n + (n * s j - a * j) := by
    intro j hj
    rcases Nat.lt_trichotomy i j with c | c | c
    · -- i < j : n (s j - s i + 1) > a (j - i)
      have x := h2.le i j c hj
      have k3 : (0 : Int) < (j : Int) - i := by omega
      have g : a * ((j : Int) - i) < n * (s j - s i + 1) := by
        generalize s j - s i + 1 = u at *
        generalize (j : Int) - i = m at *
        have y1 := Int.mul_lt_mul_of_pos_right k2 k3
        have y2 := Int.mul_le_mul_of_nonneg_left x (Int.le_of_lt hn)
        have y3 : a * m * t < n * u * t := by grind
        exact Int.lt_of_mul_lt_mul_right y3 (Int.le_of_lt t0)
      grind
    · subst c; omega
    · have x := h1.le j i c hi
      have k3 : (0 : Int) < (i : Int) - j := by omega
      have g : n * (s i - s j - 1) < a * ((i : Int) - j) := by
        generalize s i - s j - 1 = u at *
        generalize (i : Int) - j = m at *
        have y1 := Int.mul_lt_mul_of_pos_right k1 k3
        have y2 := Int.mul_le_mul_of_nonneg_left x (Int.le_of_lt hn)
        have y3 : n * u * q < a * m * q := by grind
        exact Int.lt_of_mul_lt_mul_right y3 (Int.le_of_lt q0)
      grind
  have z0 := hm 0 (Nat.zero_le _)
  have z1 := key 0 (Nat.zero_le _)
  simp only [h0] at z0 z1
  refine ⟨n * s i - a * i, by simpa using z0, by simpa using z1, fun j hj => ?_⟩
  rw [div_at hn]
  have z2 := hm j hj
  have z3 := key j hj
  omega
/-- a / b below c / d (none: without end), from 0 on; the simplest one between -/
inductive Sp : Nat → Int → Int → Option (Int × Int) → Int × Int → Prop
  | none (a b : Int) : Sp 0 a b none (a / b + 1, 1)
  | stop (a b c d : Int) : (a / b + 1) * d < c → Sp 0 a b (some (c, d)) (a / b + 1, 1)
  | step (n : Nat) (a b c d : Int) (f : Int × Int) : c ≤ (a / b + 1) * d → Sp n d (c - a / b * d) (if a - a / b * b = 0 then none else some (b, a - a / b * b)) f → Sp (n + 1) a b (some (c, d)) (a / b * f.1 + f.2, f.1)
def belowO (x y : Int) : Option (Int × Int) → Prop
  | none => True
  | some (c, d) => x * d < c * y
theorem div_facts {a b : Int} (ha : 0 ≤ a) (hb : 0 < b) : 0 ≤ a / b ∧ 0 ≤ a - a / b * b ∧ a - a / b * b < b := by
  have h1 := Int.emod_add_mul_ediv a b
  have h2 := Int.emod_nonneg a (show b ≠ 0 by omega)
  have h3 := Int.emod_lt_of_pos a hb
  have h4 := Int.ediv_nonneg ha (show 0 ≤ b by omega)
  rw [Int.mul_comm] at h1
  omega
theorem Sp.ex : ∀ (N : Nat) (a b c d : Int), 0 ≤ a → 0 < b → 0 < c → 0 < d → a * d < c * b → (2 * (a + b + c + d) + (if a < b then 1 else 0)).toNat ≤ N → ∃ f n, n ≤ N ∧ Sp n a b (some (c, d)) f
  | 0, a, b, c, d, ha, hb, hc, hd, h, hN => by split at hN <;> omega
  | N + 1, a, b, c, d, ha, hb, hc, hd, h, hN => by
    by_cases q : (a / b + 1) * d < c
    · exact ⟨_, 0, Nat.zero_le _, .stop a b c d q⟩
    · obtain ⟨w0, r0, r1⟩ := div_facts ha hb
      have hw : (a / b) * d < c := by
        have : a / b * b * d ≤ a * d := Int.mul_le_mul_of_nonneg_right (by omega) (by omega)
        have k : (a / b * d) * b < c * b := by grind
        exact Int.lt_of_mul_lt_mul_right k (by omega)
      have hq : c ≤ a / b * d + d := by grind
      by_cases z : a - a / b * b = 0
      · refine ⟨(a / b * (d / (c - a / b * d) + 1) + 1, d / (c - a / b * d) + 1), 1, by omega, .step 0 a b c d (d / (c - a / b * d) + 1, 1) (by grind) ?_⟩
        rw [if_pos z]
        exact .none _ _
      · by_cases hlt : a < b
        · have e : a / b = 0 := Int.ediv_eq_zero_of_lt ha hlt
          rw [e] at hw hq z r0 r1
          obtain ⟨f, m, hm, hf⟩ := Sp.ex N d (c - 0 * d) b (a - 0 * b) (by omega) (by omega) (by omega) (by omega) (by grind) (by
            rw [if_pos hlt] at hN
            rw [if_neg (by omega)]
            omega)
          refine ⟨_, m + 1, by omega, .step m a b c d f (by omega) ?_⟩
          rw [e, if_neg z]
          exact hf
        · have e : 1 ≤ a / b := Int.le_ediv_of_mul_le hb (by omega)
          have k1 : d ≤ a / b * d := by
            have := Int.mul_le_mul_of_nonneg_right e (show 0 ≤ d by omega)
            omega
          have k2 : b ≤ a / b * b := by
            have := Int.mul_le_mul_of_nonneg_right e (show 0 ≤ b by omega)
            omega
          generalize hw' : a / b = w at *
          obtain ⟨f, m, hm, hf⟩ := Sp.ex N d (c - w * d) b (a - w * b) (by omega) (by omega) (by omega) (by omega) (by grind) (by
            rw [if_neg hlt] at hN
            split <;> omega)
          refine ⟨_, m + 1, by omega, .step m a b c d f (by rw [hw']; omega) ?_⟩
          rw [hw', if_neg z]
          exact hf
/-- it is between, and no other one has a lesser bottom or top -/
theorem Sp.best {N : Nat} {a b : Int} {hi : Option (Int × Int)} {f : Int × Int} (h : Sp N a b hi f) : 0 ≤ a → 0 < b → (∀ c d, hi = some (c, d) → 0 < d ∧ 0 < c ∧ a * d < c * b) →
    0 < f.1 ∧ 0 < f.2 ∧ a * f.2 < f.1 * b ∧ belowO f.1 f.2 hi ∧ Int.gcd f.1 f.2 = 1 ∧ ∀ x y : Int, 0 < y → a * y < x * b → belowO x y hi → f.2 ≤ y ∧ f.1 ≤ x := by
  have top : ∀ a b x y : Int, 0 ≤ a → 0 < b → 0 < y → a * y < x * b → a / b + 1 ≤ x := by
    intro a b x y ha hb hy h
    obtain ⟨w0, r0, r1⟩ := div_facts ha hb
    have k : a / b * b * y ≤ a * y := Int.mul_le_mul_of_nonneg_right (by omega) (by omega)
    have k2 : (a / b * y) * b < x * b := by grind
    have k3 := Int.lt_of_mul_lt_mul_right k2 (by omega)
    have k4 : a / b * 1 ≤ a / b * y := Int.mul_le_mul_of_nonneg_left (by omega) w0
    omega
  have bel : ∀ a b : Int, 0 ≤ a → 0 < b → a * 1 < (a / b + 1) * b := by
    intro a b ha hb
    obtain ⟨w0, r0, r1⟩ := div_facts ha hb
    grind
  induction h with
  | none a b =>
    intro ha hb _
    obtain ⟨w0, r0, r1⟩ := div_facts ha hb
    exact ⟨by omega, Int.one_pos, bel a b ha hb, trivial, by simp, fun x y hy h1 _ => ⟨by omega, top a b x y ha hb hy h1⟩⟩
  | stop a b c d h =>
    intro ha hb _
    obtain ⟨w0, r0, r1⟩ := div_facts ha hb
    exact ⟨by omega, Int.one_pos, bel a b ha hb, by show (a / b + 1) * d < c * 1; omega, by simp, fun x y hy h1 _ => ⟨by omega, top a b x y ha hb hy h1⟩⟩
  | step _ a b c d f hc _ ih =>
    intro ha hb hh
    obtain ⟨hd, hc0, hlt⟩ := hh c d rfl
    obtain ⟨w0, r0, r1⟩ := div_facts ha hb
    have hw : (a / b) * d < c := by
      have : a / b * b * d ≤ a * d := Int.mul_le_mul_of_nonneg_right (by omega) (by omega)
      have k : (a / b * d) * b < c * b := by grind
      exact Int.lt_of_mul_lt_mul_right k (by omega)
    generalize a / b = w at *
    obtain ⟨i1, i2, i3, i4, i5, i6⟩ := ih (by omega) (by omega) fun c' d' e => by
      split at e
      · cases e
      · cases e
        refine ⟨by omega, hb, ?_⟩
        grind
    have h4 : a * f.1 < (w * f.1 + f.2) * b := by
      by_cases z : a - w * b = 0
      · have : a = w * b := by omega
        have : 0 < f.2 * b := Int.mul_pos i2 hb
        grind
      · rw [if_neg z] at i4
        have i4 : f.1 * (a - w * b) < b * f.2 := i4
        grind
    refine ⟨?_, i1, h4, ?_, ?_, fun x y hy h1 h2 => ?_⟩
    · have : 0 ≤ w * f.1 := Int.mul_nonneg w0 (by omega)
      show 0 < w * f.1 + f.2
      omega
    · show (w * f.1 + f.2) * d < c * f.1
      grind
    · show Int.gcd (w * f.1 + f.2) f.1 = 1
      rw [Int.add_comm, Int.gcd_add_mul_right_left, Int.gcd_comm]
      exact i5
    · have h2 : x * d < c * y := h2
      have hx : 0 < x - w * y := by
        have k : w * b * y ≤ a * y := Int.mul_le_mul_of_nonneg_right (by omega) (by omega)
        have k2 : (w * y) * b < x * b := by grind
        have := Int.lt_of_mul_lt_mul_right k2 (by omega)
        omega
      obtain ⟨j1, j2⟩ := i6 y (x - w * y) hx (by grind) (by
        split
        · trivial
        · show y * (a - w * b) < b * (x - w * y)
          grind)
      refine ⟨j2, ?_⟩
      show w * f.1 + f.2 ≤ x
      have : w * f.1 ≤ w * y := Int.mul_le_mul_of_nonneg_left j2 w0
      omega
/-- the whole parts of a fraction -/
def pt : Nat → Int → Int → List Int
  | 0, _, _ => []
  | n + 1, a, b => if b = 0 then [] else a / b :: pt n b (a % b)
/-- the steps of a way: right, left, right .. -/
def stp : Int → List Int → List Int
  | _, [] => []
  | e, s :: r => List.replicate s.toNat e ++ stp (1 - e) r
/-- the last one less one, then no 0 at the end -/
def decL : List Int → List Int
  | [] => []
  | [s] => [s - 1]
  | s :: r => s :: decL r
/-- the steps to a fraction -/
def ew (n : Nat) (e a b : Int) : List Int := stp e (decL (pt n a b))
theorem stp_zero (e : Int) : stp e [0] = [] := rfl
theorem pt_ne {n : Nat} {a b : Int} (h : b ≠ 0) : pt (n + 1) a b ≠ [] := by
  unfold pt
  rw [if_neg h]
  exact List.cons_ne_nil _ _
theorem decL_cons {s : Int} {r : List Int} (h : r ≠ []) : decL (s :: r) = s :: decL r := by
  cases r with
  | nil => exact absurd rfl h
  | cons x r => rfl
theorem ew_step {n : Nat} {e a b : Int} (hb : 0 < b) (h : a % b ≠ 0) : ew (n + 2) e a b = List.replicate (a / b).toNat e ++ ew (n + 1) (1 - e) b (a % b) := by
  unfold ew
  show stp e (decL (if b = 0 then [] else a / b :: pt (n + 1) b (a % b))) = _
  rw [if_neg (by omega), decL_cons (pt_ne h)]
  rfl
theorem ew_end {n : Nat} {e a b : Int} (hb : 0 < b) (h : a % b = 0) : ew (n + 1) e a b = List.replicate (a / b - 1).toNat e := by
  unfold ew
  show stp e (decL (if b = 0 then [] else a / b :: pt n b (a % b))) = _
  rw [if_neg (by omega), h]
  have : pt n b 0 = [] := by cases n <;> simp [pt]
  rw [this]
  show List.replicate _ _ ++ [] = _
  rw [List.append_nil]
theorem rep_pre {e : Int} {m n : Nat} (h : m ≤ n) : List.replicate m e <+: List.replicate n e := by
  refine ⟨List.replicate (n - m) e, ?_⟩
  rw [List.replicate_append_replicate]
  congr 1
  omega
theorem emod_sub {a b : Int} : a % b = a - a / b * b := by
  have := Int.emod_add_mul_ediv a b
  rw [Int.mul_comm] at this
  omega
theorem quo_at {x y w : Int} (hy : 0 < y) (h1 : w * y ≤ x) (h2 : x < w * y + y) : x / y = w := (div_at hy).mpr ⟨by rw [Int.mul_comm]; exact h1, by rw [Int.mul_comm]; exact h2⟩
/-- all ways to fractions between go on from that to the simplest one -/
theorem Sp.way {N : Nat} {a b : Int} {hi : Option (Int × Int)} {f : Int × Int} (h : Sp N a b hi f) : 0 ≤ a → 0 < b → (∀ c d, hi = some (c, d) → 0 < d ∧ 0 < c ∧ a * d < c * b) →
    ∀ (x y e : Int) (n m : Nat), 0 < x → 0 < y → a * y < x * b → belowO x y hi → f.2.toNat < n → y.toNat < m → ew n e f.1 f.2 <+: ew m e x y := by
  have top : ∀ (a b x y e : Int) (n m : Nat), 0 ≤ a → 0 < b → 0 < x → 0 < y → a * y < x * b → (1 : Int).toNat < n → y.toNat < m → ew n e (a / b + 1) 1 <+: ew m e x y := by
    intro a b x y e n m ha hb hx hy h hn hm
    obtain ⟨w0, r0, r1⟩ := div_facts ha hb
    have hw : a / b * y < x := by
      have k : a / b * b * y ≤ a * y := Int.mul_le_mul_of_nonneg_right (by omega) (by omega)
      have k2 : (a / b * y) * b < x * b := by grind
      exact Int.lt_of_mul_lt_mul_right k2 (by omega)
    obtain ⟨n, rfl⟩ : ∃ k, n = k + 1 := ⟨n - 1, by omega⟩
    obtain ⟨m, rfl⟩ : ∃ k, m = k + 2 := ⟨m - 2, by omega⟩
    rw [ew_end (by decide) (Int.emod_one _), Int.ediv_one]
    generalize a / b = w at *
    have e1 : (w + 1 - 1).toNat = w.toNat := by omega
    rw [e1]
    by_cases z : x % y = 0
    · rw [ew_end hy z]
      apply rep_pre
      rw [emod_sub] at z
      have : w * y < (x / y) * y := by omega
      have := Int.lt_of_mul_lt_mul_right this (by omega)
      omega
    · rw [ew_step hy z]
      refine (rep_pre ?_).trans (List.prefix_append _ _)
      have := Int.le_ediv_of_mul_le hy (show w * y ≤ x by omega)
      omega
  induction h with
  | none a b => exact fun ha hb _ x y e n m hx hy h1 _ hn hm => top a b x y e n m ha hb hx hy h1 hn hm
  | stop a b c d h => exact fun ha hb _ x y e n m hx hy h1 _ hn hm => top a b x y e n m ha hb hx hy h1 hn hm
  | step _ a b c d f hc sp ih =>
    intro ha hb hh x y e n m hx hy h1 h2 hn hm
    obtain ⟨hd, hc0, hlt⟩ := hh c d rfl
    obtain ⟨w0, r0, r1⟩ := div_facts ha hb
    have hw : (a / b) * d < c := by
      have : a / b * b * d ≤ a * d := Int.mul_le_mul_of_nonneg_right (by omega) (by omega)
      have k : (a / b * d) * b < c * b := by grind
      exact Int.lt_of_mul_lt_mul_right k (by omega)
    have h2 : x * d < c * y := h2
    have hyp : ∀ c' d', (if a - a / b * b = 0 then Option.none else Option.some (b, a - a / b * b)) = Option.some (c', d') → 0 < d' ∧ 0 < c' ∧ d * d' < c' * (c - a / b * d) := fun c' d' e => by
      split at e
      · cases e
      · cases e
        refine ⟨by omega, hb, ?_⟩
        generalize a / b = w at *
        grind
    obtain ⟨i1, i2, i3, i4, _, _⟩ := sp.best (by omega) (by omega) hyp
    generalize a / b = w at *
    -- f.2 < f.1, x - w y < y
    have q1 : x - w * y < y := by
      have k : c * y ≤ (w + 1) * d * y := Int.mul_le_mul_of_nonneg_right hc (by omega)
      have k2 : x * d < ((w + 1) * y) * d := by grind
      have := Int.lt_of_mul_lt_mul_right k2 (by omega)
      grind
    have q2 : 0 < x - w * y := by
      have k : w * b * y ≤ a * y := Int.mul_le_mul_of_nonneg_right (by omega) (by omega)
      have k2 : (w * y) * b < x * b := by grind
      have := Int.lt_of_mul_lt_mul_right k2 (by omega)
      omega
    have q3 : f.2 < f.1 := by
      have k : f.2 * d < f.1 * d := by
        have : f.1 * (c - w * d) ≤ f.1 * d := Int.mul_le_mul_of_nonneg_left (by grind) (by omega)
        grind
      exact Int.lt_of_mul_lt_mul_right k (by omega)
    have e1 : x / y = w := quo_at hy (by omega) (by omega)
    have e2 : x % y = x - w * y := by rw [emod_sub, e1]
    have e3 : (w * f.1 + f.2) / f.1 = w := quo_at i1 (by omega) (by omega)
    have e4 : (w * f.1 + f.2) % f.1 = f.2 := by rw [emod_sub, e3]; omega
    have hn : f.1.toNat < n := hn
    obtain ⟨n, rfl⟩ : ∃ k, n = k + 2 := ⟨n - 2, by omega⟩
    obtain ⟨m, rfl⟩ : ∃ k, m = k + 2 := ⟨m - 2, by omega⟩
    show ew (n + 2) e (w * f.1 + f.2) f.1 <+: _
    rw [ew_step i1 (by rw [e4]; omega), ew_step hy (by rw [e2]; omega), e1, e2, e3, e4]
    refine (List.prefix_append_right_inj _).mpr ?_
    refine ih (by omega) (by omega) hyp y (x - w * y) (1 - e) (n + 1) (m + 1) hy q2 ?_ ?_ (by omega) (by omega)
    · grind
    · split
      · trivial
      · show y * (a - w * b) < b * (x - w * y)
        grind
/-- how neighbors are looked for: one and other, and what is left -/
structure NbI (X Y bd : Int) (o1 o2 t1 t2 r s : Int) : Prop where
  x : X = t1 * r + o1 * s
  y : Y = t2 * r + o2 * s
  r0 : 0 ≤ r
  s0 : 0 ≤ s
  det : o1 * t2 - t1 * o2 = 1 ∨ o1 * t2 - t1 * o2 = -1
  o20 : 0 ≤ o2
  t20 : 0 ≤ t2
  t2b : t2 ≤ bd
  o10 : 0 ≤ o1
  t10 : 0 ≤ t1
  o2b : o2 ≤ bd
  rs : 0 < t2 → s ≤ r
  ot : o2 = 0 ∨ 0 < o2
theorem NbI.spos {X Y bd o1 o2 t1 t2 r s : Int} (h : NbI X Y bd o1 o2 t1 t2 r s) (g : Int.gcd X Y = 1) (hY : bd < Y) : 0 < s := by
  by_cases c : s = 0
  · exfalso
    have e1 := h.x
    have e2 := h.y
    rw [c, Int.mul_zero, Int.add_zero] at e1 e2
    have d1 : r ∣ X := ⟨t1, by rw [e1, Int.mul_comm]⟩
    have d2 : r ∣ Y := ⟨t2, by rw [e2, Int.mul_comm]⟩
    have d3 := Int.dvd_coe_gcd d1 d2
    rw [g] at d3
    have d4 : r.natAbs ∣ 1 := Int.natAbs_dvd_natAbs.mpr d3
    have d5 : r.natAbs = 1 := Nat.dvd_one.mp d4
    have d6 : r = 1 := by have := h.r0; omega
    rw [d6, Int.mul_one] at e2
    have := h.t2b
    omega
  · have := h.s0
    omega
theorem NbI.step {X Y bd o1 o2 t1 t2 r s : Int} (h : NbI X Y bd o1 o2 t1 t2 r s) (hs : 0 < s) (hb : o2 + r / s * t2 ≤ bd) : NbI X Y bd t1 t2 (o1 + r / s * t1) (o2 + r / s * t2) s (r - r / s * s) := by
  obtain ⟨w0, r0, r1⟩ := div_facts h.r0 hs
  obtain ⟨hx, hy, a1, a2, a3, a4, a5, a6, a7, a8, a9, a10, a11⟩ := h
  generalize r / s = w at *
  have m1 : 0 ≤ w * t1 := Int.mul_nonneg w0 a8
  have m2 : 0 ≤ w * t2 := Int.mul_nonneg w0 a5
  refine ⟨by rw [hx]; grind, by rw [hy]; grind, by omega, by omega, ?_, a5, by omega, hb, a8, by omega, a6, fun _ => by omega, by omega⟩
  rcases a3 with a3 | a3
  · right; grind
  · left; grind
/-- behind the search -/
structure NbF (X Y bd : Int) (l1 l2 u1 u2 : Int) : Prop where
  l20 : 0 < l2
  u20 : 0 < u2
  l2b : l2 ≤ bd
  u2b : u2 ≤ bd
  lo : l1 * Y < X * l2
  hi : X * u2 < u1 * Y
  det : u1 * l2 - l1 * u2 = 1
  sum : bd < l2 + u2
  l10 : 0 ≤ l1
  u10 : 0 ≤ u1
theorem NbI.last {X Y bd o1 o2 t1 t2 r s : Int} (h : NbI X Y bd o1 o2 t1 t2 r s) (g : Int.gcd X Y = 1) (hY : bd < Y) (ht : 0 < t2) (hb : bd < o2 + r / s * t2) (h1 : 1 ≤ bd) :
    let k := (bd - o2) / t2
    0 ≤ k ∧ (if (o1 + k * t1) * Y - X * (o2 + k * t2) < 0 then NbF X Y bd (o1 + k * t1) (o2 + k * t2) t1 t2 else NbF X Y bd t1 t2 (o1 + k * t1) (o2 + k * t2)) := by
  intro k
  have hs := h.spos g hY
  have k0 : 0 ≤ k := Int.ediv_nonneg (by have := h.o2b; omega) (by omega)
  obtain ⟨w0, r0, r1⟩ := div_facts h.r0 hs
  have kb := div_facts (a := bd - o2) (b := t2) (by have := h.o2b; omega) ht
  have kk : (bd - o2) / t2 = k := rfl
  rw [kk] at kb
  have kr : k < r / s := by
    have : k * t2 < r / s * t2 := by omega
    exact Int.lt_of_mul_lt_mul_right this (by omega)
  have krs : 0 < r - k * s := by
    have : (k + 1) * s ≤ r / s * s := Int.mul_le_mul_of_nonneg_right (by omega) (by omega)
    grind
  have rs := h.rs ht
  have m1 : 0 ≤ k * t1 := Int.mul_nonneg k0 h.t10
  have m2 : 0 ≤ k * t2 := Int.mul_nonneg k0 (by omega)
  have o1' := h.o10
  have o2' := h.o20
  have o2b := h.o2b
  have hx := h.x
  have hy := h.y
  refine ⟨k0, ?_⟩
  clear_value k
  -- the bottom of the last one is above 0
  have l20 : 0 < o2 + k * t2 := by
    by_cases c : o2 = 0
    · have t2b := h.t2b
      have : 1 ≤ k := by
        by_cases z : k = 0
        · rw [z] at kb; omega
        · omega
      have := Int.mul_le_mul_of_nonneg_right this (show 0 ≤ t2 by omega)
      omega
    · omega
  rcases h.det with d | d
  · have e1 : (o1 + k * t1) * Y - X * (o2 + k * t2) = r - k * s := by rw [hx, hy]; grind
    have e2 : t1 * Y - X * t2 = -s := by rw [hx, hy]; grind
    rw [if_neg (by omega)]
    exact ⟨ht, l20, h.t2b, by omega, by omega, by omega, by grind, by omega, h.t10, by omega⟩
  · have e1 : (o1 + k * t1) * Y - X * (o2 + k * t2) = -(r - k * s) := by rw [hx, hy]; grind
    have e2 : t1 * Y - X * t2 = s := by rw [hx, hy]; grind
    rw [if_pos (by omega)]
    exact ⟨l20, ht, by omega, h.t2b, by omega, by omega, by grind, by omega, by omega, h.t10⟩
theorem NbI.init {X Y bd : Int} (hX : 0 ≤ X) (hY : 0 < Y) (hb : 1 ≤ bd) : NbI X Y bd 0 1 1 0 X Y :=
  ⟨by omega, by omega, hX, by omega, .inr (by omega), by omega, by omega, by omega, by omega, by omega, hb, fun h => by omega, .inr (by omega)⟩
end WM
namespace WM
open PySem PySem.Spec PyProof.Rows L2 RT
open PySem.W (dataLt alike minD maxD)
def p2 (p : Int × Int) : D := .tuple [.int p.1, .int p.2]
def plt (p q : Int × Int) : Bool := decide (p.1 < q.1) || (!decide (q.1 < p.1) && decide (p.2 < q.2))
theorem dataLt_p2 (p q : Int × Int) : dataLt (p2 p) (p2 q) = plt p q := by
  unfold p2 plt
  rw [PySem.W.dataLt_tuple]
  simp [PySem.W.keyToksAll, PySem.W.keyToks, PyProof.Rows.lexLt, PyProof.Rows.itemLt]
theorem md_p2 (l : List (Int × Int)) : mdB (l.map p2) = true := by
  unfold mdB alB dpB
  rw [Bool.and_eq_true, Bool.and_eq_true]
  refine ⟨?_, ?_, ?_⟩
  · rw [List.all_map, List.all_eq_true]
    intro x _
    show (l.map p2).all _ = true
    rw [List.all_map, List.all_eq_true]
    intro y _
    simp [p2, PySem.W.alike, PySem.W.alikeAll]
  · rw [List.all_map, List.all_eq_true]
    intro x _
    rfl
  · rw [List.all_map, List.all_eq_true]
    intro x _
    simp [p2, PyData.depth, PyData.depthAll]
theorem ints_p2 (p : Int × Int) (l : List (Int × Int)) : asInts ((p :: l).map p2) = none := rfl
theorem maxD_p2 : ∀ (l : List (Int × Int)) (p : Int × Int), ∃ m, (m = p ∨ m ∈ l) ∧ maxD (p2 p) (l.map p2) = p2 m ∧ p.1 ≤ m.1 ∧ ∀ x ∈ l, x.1 ≤ m.1
  | [], p => ⟨p, .inl rfl, rfl, Int.le_refl _, fun x hx => absurd hx (by simp)⟩
  | q :: l, p => by
    have e : maxD (p2 p) ((q :: l).map p2) = maxD (p2 (if plt p q then q else p)) (l.map p2) := by
      show List.foldl _ (if dataLt (p2 p) (p2 q) then p2 q else p2 p) _ = _
      rw [dataLt_p2]
      cases plt p q <;> rfl
    obtain ⟨m, h1, h2, h3, h4⟩ := maxD_p2 l (if plt p q then q else p)
    refine ⟨m, ?_, e.trans h2, ?_, fun x hx => ?_⟩
    · rcases h1 with h1 | h1
      · cases hp : plt p q with
        | true => rw [hp] at h1; exact .inr (h1 ▸ List.mem_cons_self ..)
        | false => rw [hp] at h1; exact .inl h1
      · exact .inr (List.mem_cons_of_mem _ h1)
    · cases hp : plt p q with
      | true =>
        rw [hp] at h3
        have h3 : q.1 ≤ m.1 := h3
        unfold plt at hp
        simp at hp
        omega
      | false => rw [hp] at h3; exact h3
    · rcases List.mem_cons.mp hx with rfl | hx
      · cases hp : plt p x with
        | true => rw [hp] at h3; exact h3
        | false =>
          rw [hp] at h3
          have h3 : p.1 ≤ m.1 := h3
          unfold plt at hp
          simp at hp
          omega
      · exact h4 x hx
theorem minD_p2 : ∀ (l : List (Int × Int)) (p : Int × Int), ∃ m, (m = p ∨ m ∈ l) ∧ minD (p2 p) (l.map p2) = p2 m ∧ m.1 ≤ p.1 ∧ ∀ x ∈ l, m.1 ≤ x.1
  | [], p => ⟨p, .inl rfl, rfl, Int.le_refl _, fun x hx => absurd hx (by simp)⟩
  | q :: l, p => by
    have e : minD (p2 p) ((q :: l).map p2) = minD (p2 (if plt q p then q else p)) (l.map p2) := by
      show List.foldl _ (if dataLt (p2 q) (p2 p) then p2 q else p2 p) _ = _
      rw [dataLt_p2]
      cases plt q p <;> rfl
    obtain ⟨m, h1, h2, h3, h4⟩ := minD_p2 l (if plt q p then q else p)
    refine ⟨m, ?_, e.trans h2, ?_, fun x hx => ?_⟩
    · rcases h1 with h1 | h1
      · cases hp : plt q p with
        | true => rw [hp] at h1; exact .inr (h1 ▸ List.mem_cons_self ..)
        | false => rw [hp] at h1; exact .inl h1
      · exact .inr (List.mem_cons_of_mem _ h1)
    · cases hp : plt q p with
      | true =>
        rw [hp] at h3
        have h3 : m.1 ≤ q.1 := h3
        unfold plt at hp
        simp at hp
        omega
      | false => rw [hp] at h3; exact h3
    · rcases List.mem_cons.mp hx with rfl | hx
      · cases hp : plt x p with
        | true => rw [hp] at h3; exact h3
        | false =>
          rw [hp] at h3
          have h3 : m.1 ≤ p.1 := h3
          unfold plt at hp
          simp at hp
          omega
      · exact h4 x hx
theorem mx_p2 {l : List (Int × Int)} (h : l ≠ []) : ∃ m ∈ l, bltD .mx [.list (l.map p2)] = some (p2 m) ∧ ∀ x ∈ l, x.1 ≤ m.1 := by
  cases l with
  | nil => exact absurd rfl h
  | cons p l =>
    obtain ⟨m, h1, h2, h3, h4⟩ := maxD_p2 l p
    refine ⟨m, by rcases h1 with rfl | h1; exact List.mem_cons_self ..; exact List.mem_cons_of_mem _ h1, ?_, fun x hx => ?_⟩
    · show (match asInts ((p :: l).map p2) with
        | some ns => (maxL ns).map PyData.int
        | none => (match (p :: l).map p2 with
          | x :: r => if mdB (x :: r) then some (maxD x r) else none
          | [] => none)) = _
      rw [ints_p2]
      show (if mdB ((p :: l).map p2) then some (maxD (p2 p) (l.map p2)) else none) = _
      rw [md_p2, if_pos rfl, h2]
    · rcases List.mem_cons.mp hx with rfl | hx
      · exact h3
      · exact h4 x hx
theorem mn_p2 {l : List (Int × Int)} (h : l ≠ []) : ∃ m ∈ l, bltD .mn [.list (l.map p2)] = some (p2 m) ∧ ∀ x ∈ l, m.1 ≤ x.1 := by
  cases l with
  | nil => exact absurd rfl h
  | cons p l =>
    obtain ⟨m, h1, h2, h3, h4⟩ := minD_p2 l p
    refine ⟨m, by rcases h1 with rfl | h1; exact List.mem_cons_self ..; exact List.mem_cons_of_mem _ h1, ?_, fun x hx => ?_⟩
    · show (match asInts ((p :: l).map p2) with
        | some ns => (minL ns).map PyData.int
        | none => (match (p :: l).map p2 with
          | x :: r => if mdB (x :: r) then some (minD x r) else none
          | [] => none)) = _
      rw [ints_p2]
      show (if mdB ((p :: l).map p2) then some (minD (p2 p) (l.map p2)) else none) = _
      rw [md_p2, if_pos rfl, h2]
    · rcases List.mem_cons.mp hx with rfl | hx
      · exact h3
      · exact h4 x hx
theorem cut_last (xs : List D) (x : D) : cutD (xs ++ [x]) none (some (-1)) = xs := by
  unfold cutD
  have h1 : HT.sIx (xs ++ [x]).length 0 none = 0 := rfl
  have h2 : HT.sIx (xs ++ [x]).length (xs ++ [x]).length (some (-1)) = xs.length := by
    unfold HT.sIx
    simp
    omega
  rw [h1, h2]
  simp
theorem stp_len (e : Int) : ∀ (l : List Int) (e : Int), ((stp e l).length : Int) = ((l.map Int.toNat).sum : Nat)
  | [], e => rfl
  | s :: r, e => by
    have := stp_len e r (1 - e)
    show ((List.replicate s.toNat e ++ stp (1 - e) r).length : Int) = _
    rw [List.length_append, List.length_replicate, List.map_cons, List.sum_cons]
    omega
def bitA (e : Int) (n : Nat) : Int := if n % 2 = 0 then e else 1 - e
theorem bitA_succ (e : Int) (n : Nat) : bitA (1 - e) n = bitA e (n + 1) := by
  unfold bitA
  rcases Nat.mod_two_eq_zero_or_one n with h | h
  · rw [if_pos h, if_neg (by omega)]
  · rw [if_neg (by omega), if_pos (by omega)]
    omega
theorem stp_snoc (s : Int) : ∀ (l : List Int) (e : Int), stp e (l ++ [s]) = stp e l ++ List.replicate s.toNat (bitA e l.length)
  | [], e => by
    show List.replicate s.toNat e ++ [] = [] ++ List.replicate s.toNat (bitA e 0)
    simp [bitA]
  | x :: r, e => by
    show List.replicate x.toNat e ++ stp (1 - e) (r ++ [s]) = (List.replicate x.toNat e ++ stp (1 - e) r) ++ _
    rw [stp_snoc s r (1 - e), bitA_succ, List.length_cons, List.append_assoc]
theorem stp_zero_end (l : List Int) (e : Int) : stp e (l ++ [0]) = stp e l := by
  rw [stp_snoc]
  simp
theorem decL_snoc : ∀ (l : List Int) (s : Int), decL (l ++ [s]) = l ++ [s - 1]
  | [], s => rfl
  | [x], s => rfl
  | x :: y :: r, s => by
    show x :: decL ((y :: r) ++ [s]) = _
    rw [decL_snoc (y :: r) s]
    rfl
theorem snoc_of {l : List Int} (h : l ≠ []) : ∃ m s, l = m ++ [s] := ⟨l.dropLast, l.getLast h, (List.dropLast_concat_getLast h).symm⟩
theorem pt_nn : ∀ (n : Nat) (a b : Int), 0 ≤ a → 0 ≤ b → (∀ q ∈ pt n a b, 0 ≤ q) ∧ (((pt n a b).map Int.toNat).sum : Int) ≤ a + b ∧ (pt n a b).length ≤ n
  | 0, a, b, _, _ => ⟨fun q hq => absurd hq (by simp [pt]), by simp [pt]; omega, by simp [pt]⟩
  | n + 1, a, b, ha, hb => by
    by_cases c : b = 0
    · unfold pt
      rw [if_pos c]
      exact ⟨fun q hq => absurd hq (by simp), by simp; omega, by simp⟩
    · unfold pt
      rw [if_neg c]
      obtain ⟨w0, r0, r1⟩ := div_facts ha (show 0 < b by omega)
      have e := emod_sub (a := a) (b := b)
      obtain ⟨i1, i2, i3⟩ := pt_nn n b (a % b) hb (by omega)
      have k : a / b ≤ a / b * b := by
        have := Int.mul_le_mul_of_nonneg_left (show 1 ≤ b by omega) w0
        omega
      refine ⟨fun q hq => ?_, ?_, by simp; exact i3⟩
      · rcases List.mem_cons.mp hq with rfl | hq
        · exact w0
        · exact i1 q hq
      · rw [List.map_cons, List.sum_cons]
        omega
end WM
namespace WM
open PySem PySem.Spec PyProof.Rows L2 RT
def dst (x n : Int) : Int := min (x % n) (n - x % n)
theorem dst_le {x n : Int} (hn : 0 < n) (y : Int) : dst x n ≤ (x - y * n).natAbs := by
  unfold dst
  have h1 := Int.emod_add_mul_ediv x n
  have h2 := Int.emod_nonneg x (show n ≠ 0 by omega)
  have h3 := Int.emod_lt_of_pos x hn
  generalize x % n = r at *
  generalize x / n = q at *
  have e : x - y * n = r + (q - y) * n := by rw [← h1]; grind
  rw [e]
  rcases Int.lt_trichotomy (q - y) 0 with c | c | c
  · have : (q - y) * n ≤ -1 * n := Int.mul_le_mul_of_nonneg_right (by omega) (by omega)
    omega
  · rw [c]; omega
  · have : 1 * n ≤ (q - y) * n := Int.mul_le_mul_of_nonneg_right (by omega) (by omega)
    omega
theorem dst_at {x n : Int} (hn : 0 < n) : ∃ y, dst x n = (x - y * n).natAbs := by
  unfold dst
  have h1 := Int.emod_add_mul_ediv x n
  have h2 := Int.emod_nonneg x (show n ≠ 0 by omega)
  have h3 := Int.emod_lt_of_pos x hn
  rw [Int.mul_comm] at h1
  by_cases c : x % n ≤ n - x % n
  · refine ⟨x / n, ?_⟩
    have : x - x / n * n = x % n := by omega
    rw [this]; omega
  · refine ⟨x / n + 1, ?_⟩
    have : x - (x / n + 1) * n = x % n - n := by rw [Int.add_mul]; omega
    rw [this]; omega
theorem dst_nn {x n : Int} (hn : 0 < n) : 0 ≤ dst x n := by
  unfold dst
  have h2 := Int.emod_nonneg x (show n ≠ 0 by omega)
  have h3 := Int.emod_lt_of_pos x hn
  omega
theorem dst_half {x n : Int} (hn : 0 < n) : 2 * dst x n ≤ n := by
  unfold dst
  omega
theorem dst_lt {x n : Int} (hn : 0 < n) : dst x n < n := by
  have := dst_half (x := x) hn
  omega
def cvs : Nat → Int → Int → List (Int × Int)
  | 0, _, _ => []
  | n + 1, a, b => if b = 0 then [] else (a / b, 1) :: (cvs n b (a % b)).map fun f => (a / b * f.1 + f.2, f.1)
/-- the same, from the state of the search -/
def cvI : Nat → Int → Int → Int → Int → Int → Int → List (Int × Int)
  | 0, _, _, _, _, _, _ => []
  | n + 1, o1, o2, t1, t2, r, s => if s = 0 then [] else (o1 + r / s * t1, o2 + r / s * t2) :: cvI n t1 t2 (o1 + r / s * t1) (o2 + r / s * t2) s (r % s)
theorem cvI_eq : ∀ (n : Nat) (o1 o2 t1 t2 r s : Int), cvI n o1 o2 t1 t2 r s = (cvs n r s).map fun f => (t1 * f.1 + o1 * f.2, t2 * f.1 + o2 * f.2)
  | 0, _, _, _, _, _, _ => rfl
  | n + 1, o1, o2, t1, t2, r, s => by
    unfold cvI cvs
    by_cases c : s = 0
    · rw [if_pos c, if_pos c]; rfl
    · rw [if_neg c, if_neg c, cvI_eq n, List.map_cons, List.map_map]
      congr 1
      · show (_, _) = (_, _)
        congr 1 <;> grind
      · apply List.map_congr_left
        intro f _
        show (_, _) = (_, _)
        congr 1 <;> grind
theorem cvs_I (n : Nat) (a b : Int) : cvs n a b = cvI n 0 1 1 0 a b := by
  rw [cvI_eq]
  have : (fun f : Int × Int => (1 * f.1 + 0 * f.2, 0 * f.1 + 1 * f.2)) = id := by
    funext f
    show (_, _) = f
    have : f = (f.1, f.2) := rfl
    rw [this]
    congr 1 <;> omega
  rw [this, List.map_id]
/-- the state of the search, without a bound -/
structure CvI (X Y : Int) (o1 o2 t1 t2 r s : Int) : Prop where
  x : X = t1 * r + o1 * s
  y : Y = t2 * r + o2 * s
  s0 : 0 ≤ s
  r0 : 0 ≤ r
  det : o1 * t2 - t1 * o2 = 1 ∨ o1 * t2 - t1 * o2 = -1
  o20 : 0 ≤ o2
  t20 : 0 ≤ t2
  rs : 0 < t2 → s < r
  o10 : 0 ≤ o1
  t10 : 0 ≤ t1
theorem CvI.init {X Y : Int} (hX : 0 ≤ X) (hY : 0 ≤ Y) : CvI X Y 0 1 1 0 X Y :=
  ⟨by omega, by omega, hY, hX, .inr (by omega), by omega, by omega, fun h => by omega, by omega, by omega⟩
theorem CvI.step {X Y o1 o2 t1 t2 r s : Int} (h : CvI X Y o1 o2 t1 t2 r s) (hs : 0 < s) : CvI X Y t1 t2 (o1 + r / s * t1) (o2 + r / s * t2) s (r % s) ∧ 0 < o2 + r / s * t2 ∧ t2 ≤ o2 + r / s * t2 := by
  obtain ⟨w0, r0, r1⟩ := div_facts h.r0 hs
  have em := emod_sub (a := r) (b := s)
  obtain ⟨hx, hy, a1, a2, a3, a4, a5, a6, a7, a8⟩ := h
  have w1 : 0 < t2 → 1 ≤ r / s := fun ht => Int.le_ediv_of_mul_le hs (by have := a6 ht; omega)
  rw [em]
  generalize r / s = w at *
  have m1 : 0 ≤ w * t1 := Int.mul_nonneg w0 a8
  have m2 : 0 ≤ w * t2 := Int.mul_nonneg w0 a5
  have m3 : t2 ≤ o2 + w * t2 := by
    by_cases c : 0 < t2
    · have := Int.mul_le_mul_of_nonneg_right (w1 c) a5
      omega
    · omega
  refine ⟨⟨by rw [hx]; grind, by rw [hy]; grind, by omega, by omega, ?_, a5, by omega, fun _ => by omega, a8, by omega⟩, ?_, m3⟩
  · rcases a3 with a3 | a3
    · right; grind
    · left; grind
  · by_cases c : 0 < t2
    · omega
    · have c0 : t2 = 0 := by omega
      rw [c0] at a3 ⊢
      rw [Int.mul_zero] at a3 ⊢
      by_cases z : o2 = 0
      · rw [z] at a3; omega
      · omega
/-- nothing is nearer ahead of the next bottom -/
theorem CvI.best {X Y o1 o2 t1 t2 r s : Int} (h : CvI X Y o1 o2 t1 t2 r s) (hs : 0 < s) (ht : 0 < t2) {z y : Int} (z1 : 1 ≤ z) (z2 : z < o2 + r / s * t2) : s ≤ (z * X - y * Y).natAbs := by
  obtain ⟨w0, r0, r1⟩ := div_facts h.r0 hs
  obtain ⟨hx, hy, a1, a2, a3, a4, a5, a6, a7, a8⟩ := h
  generalize r / s = w at *
  -- (z, y) = al (t2, t1) + be (n2, n1)
  have key : ∃ al be : Int, z = al * t2 + be * (o2 + w * t2) ∧ y = al * t1 + be * (o1 + w * t1) := by
    rcases a3 with a3 | a3
    · exact ⟨(o1 + w * t1) * z - (o2 + w * t2) * y, t2 * y - t1 * z, by grind, by grind⟩
    · exact ⟨(o2 + w * t2) * y - (o1 + w * t1) * z, t1 * z - t2 * y, by grind, by grind⟩
  obtain ⟨al, be, ez, ey⟩ := key
  have e : z * X - y * Y = (o1 * t2 - t1 * o2) * (al * s - be * (r - w * s)) := by rw [ez, ey, hx, hy]; grind
  have n2 : 0 < o2 + w * t2 := by omega
  have bound : s ≤ (al * s - be * (r - w * s)).natAbs := by
    rcases Int.lt_trichotomy be 0 with c | c | c
    · have k1 : be * (o2 + w * t2) ≤ -1 * (o2 + w * t2) := Int.mul_le_mul_of_nonneg_right (by omega) (by omega)
      have k2 : 0 * t2 < al * t2 := by omega
      have k3 := Int.lt_of_mul_lt_mul_right k2 (by omega)
      have k4 : 1 * s ≤ al * s := Int.mul_le_mul_of_nonneg_right (by omega) (by omega)
      have k5 : be * (r - w * s) ≤ 0 * (r - w * s) := Int.mul_le_mul_of_nonneg_right (by omega) (by omega)
      omega
    · rw [c] at ez
      have k2 : 0 * t2 < al * t2 := by omega
      have k3 := Int.lt_of_mul_lt_mul_right k2 (by omega)
      have k4 : 1 * s ≤ al * s := Int.mul_le_mul_of_nonneg_right (by omega) (by omega)
      rw [c]
      omega
    · have k1 : 1 * (o2 + w * t2) ≤ be * (o2 + w * t2) := Int.mul_le_mul_of_nonneg_right (by omega) (by omega)
      have k2 : al * t2 < 0 * t2 := by omega
      have k3 := Int.lt_of_mul_lt_mul_right k2 (by omega)
      have k4 : al * s ≤ -1 * s := Int.mul_le_mul_of_nonneg_right (by omega) (by omega)
      have k5 : 0 * (r - w * s) ≤ be * (r - w * s) := Int.mul_le_mul_of_nonneg_right (by omega) (by omega)
      omega
  rw [e]
  rcases a3 with a3 | a3
  · rw [a3, Int.one_mul]; exact bound
  · rw [a3, Int.neg_one_mul, Int.natAbs_neg]; exact bound
theorem CvI.off {X Y o1 o2 t1 t2 r s : Int} (h : CvI X Y o1 o2 t1 t2 r s) : ((t2 * X - t1 * Y).natAbs : Int) = s := by
  obtain ⟨hx, hy, a1, a2, a3, a4, a5, a6, a7, a8⟩ := h
  have e : t2 * X - t1 * Y = (o1 * t2 - t1 * o2) * s := by rw [hx, hy]; grind
  rw [e]
  rcases a3 with a3 | a3
  · rw [a3]; omega
  · rw [a3]; omega
/-- whatever is near, a convergent with no greater bottom is as near -/
theorem cvI_first : ∀ (n : Nat) (X Y o1 o2 t1 t2 r s : Int), CvI X Y o1 o2 t1 t2 r s → 0 < s → s.toNat < n → ∀ (m : Nat) (z y : Int), o2 + r / s * t2 ≤ z → (z * X - y * Y).natAbs ≤ m → ∃ f ∈ cvI n o1 o2 t1 t2 r s, f.2 ≤ z ∧ (f.2 * X - f.1 * Y).natAbs ≤ m
  | 0, _, _, _, _, _, _, _, _, _, _, hn, _, _, _, _, _ => by omega
  | n + 1, X, Y, o1, o2, t1, t2, r, s, h, hs, hn, m, z, y, hz, hy => by
    obtain ⟨h', p1, p2⟩ := h.step hs
    have off := h'.off
    unfold cvI
    rw [if_neg (by omega)]
    have r1 := Int.emod_lt_of_pos r hs
    have r0 := Int.emod_nonneg r (show s ≠ 0 by omega)
    generalize r / s = w at *
    generalize r % s = s' at *
    by_cases c : s' = 0
    · exact ⟨_, List.mem_cons_self .., hz, by show (((o2 + w * t2) * X - (o1 + w * t1) * Y).natAbs) ≤ m; omega⟩
    · by_cases c2 : z < t2 + s / s' * (o2 + w * t2)
      · have := h'.best (show 0 < s' by omega) p1 (z := z) (y := y) (by omega) c2
        exact ⟨_, List.mem_cons_self .., hz, by show (((o2 + w * t2) * X - (o1 + w * t1) * Y).natAbs) ≤ m; omega⟩
      · obtain ⟨f, hf, f1, f2⟩ := cvI_first n X Y t1 t2 (o1 + w * t1) (o2 + w * t2) s s' h' (by omega) (by omega) m z y (by omega) hy
        exact ⟨f, List.mem_cons_of_mem _ hf, f1, f2⟩
theorem cvI_pos : ∀ (n : Nat) (X Y o1 o2 t1 t2 r s : Int), CvI X Y o1 o2 t1 t2 r s → ∀ f ∈ cvI n o1 o2 t1 t2 r s, 0 < f.2 ∧ f.2 ≤ Y ∧ 0 ≤ f.1
  | 0, _, _, _, _, _, _, _, _, _, f, hf => by simp [cvI] at hf
  | n + 1, X, Y, o1, o2, t1, t2, r, s, h, f, hf => by
    unfold cvI at hf
    by_cases c : s = 0
    · rw [if_pos c] at hf; cases hf
    · rw [if_neg c] at hf
      have hs : 0 < s := by have := h.s0; omega
      obtain ⟨h', p1, p2⟩ := h.step hs
      rcases List.mem_cons.mp hf with rfl | hf
      · refine ⟨p1, ?_, h'.t10⟩
        show o2 + r / s * t2 ≤ Y
        have hy := h'.y
        have k1 : (o2 + r / s * t2) * 1 ≤ (o2 + r / s * t2) * s := Int.mul_le_mul_of_nonneg_left (by omega) (by omega)
        have k2 : 0 ≤ t2 * (r % s) := Int.mul_nonneg h.t20 h'.s0
        omega
      · exact cvI_pos n X Y _ _ _ _ _ _ h' f hf
/-- one convergent and the next one: nothing is nearer between -/
theorem cvI_next : ∀ (n : Nat) (X Y o1 o2 t1 t2 r s : Int), CvI X Y o1 o2 t1 t2 r s → ∀ (i : Nat) (f g : Int × Int), (cvI n o1 o2 t1 t2 r s)[i]? = some f → (cvI n o1 o2 t1 t2 r s)[i + 1]? = some g → ∀ z y : Int, 1 ≤ z → z < g.2 → (f.2 * X - f.1 * Y).natAbs ≤ (z * X - y * Y).natAbs
  | 0, _, _, _, _, _, _, _, _, _, _, _, _, hf, _, _, _, _, _ => by simp [cvI] at hf
  | n + 1, X, Y, o1, o2, t1, t2, r, s, h, i, f, g, hf, hg, z, y, z1, z2 => by
    unfold cvI at hf hg
    by_cases c : s = 0
    · rw [if_pos c] at hf; cases hf
    · rw [if_neg c] at hf hg
      have hs : 0 < s := by have := h.s0; omega
      obtain ⟨h', p1, p2⟩ := h.step hs
      have off := h'.off
      rw [List.getElem?_cons_succ] at hg
      cases i with
      | succ i =>
        rw [List.getElem?_cons_succ] at hf
        exact cvI_next n X Y _ _ _ _ _ _ h' i f g hf hg z y z1 z2
      | zero =>
        have hf : some (o1 + r / s * t1, o2 + r / s * t2) = some f := hf
        cases hf
        cases n with
        | zero => simp [cvI] at hg
        | succ n =>
          unfold cvI at hg
          by_cases c2 : r % s = 0
          · rw [if_pos c2] at hg; cases hg
          · rw [if_neg c2] at hg
            cases hg
            have hs' : 0 < r % s := by have := h'.s0; omega
            have := h'.best hs' p1 (z := z) (y := y) z1 z2
            show (((o2 + r / s * t2) * X - (o1 + r / s * t1) * Y).natAbs) ≤ _
            omega
/-- the last one is exact -/
theorem cvI_last : ∀ (n : Nat) (X Y o1 o2 t1 t2 r s : Int), CvI X Y o1 o2 t1 t2 r s → 0 < s → s.toNat < n → ∃ f, (cvI n o1 o2 t1 t2 r s).getLast? = some f ∧ f.2 * X = f.1 * Y
  | 0, _, _, _, _, _, _, _, _, _, _, hn => by omega
  | n + 1, X, Y, o1, o2, t1, t2, r, s, h, hs, hn => by
    obtain ⟨h', p1, p2⟩ := h.step hs
    have off := h'.off
    unfold cvI
    rw [if_neg (by omega)]
    have r1 := Int.emod_lt_of_pos r hs
    by_cases c : r % s = 0
    · refine ⟨(o1 + r / s * t1, o2 + r / s * t2), ?_, ?_⟩
      · rw [c]
        have : cvI n t1 t2 (o1 + r / s * t1) (o2 + r / s * t2) s 0 = [] := by cases n <;> simp [cvI]
        rw [this]
        rfl
      · show (o2 + r / s * t2) * X = (o1 + r / s * t1) * Y
        omega
    · obtain ⟨f, e, hf⟩ := cvI_last n X Y _ _ _ _ _ _ h' (by have := h'.s0; omega) (by omega)
      refine ⟨f, ?_, hf⟩
      rw [List.getLast?_cons, e]
      rfl
end WM
namespace WM.K82
open PySem PySem.Spec PyProof.Rows L2
def i_is_whole : Nat := 0
def i_need_whole : Nat := 1
def i_is_tuple_of : Nat := 2
def i_is_ascending : Nat := 3
def i_is_ratio : Nat := 4
def i_cut : Nat := 5
def i_sum_two : Nat := 6
def i_side : Nat := 7
def i_parts_of : Nat := 8
def i_by_parts : Nat := 9
def i_fit_kinds : Nat := 10
def i_need_kinds : Nat := 11
def i_are_pairs : Nat := 12
def i_fits_train : Nat := 13
def i_need_train : Nat := 14
def i_is_from : Nat := 15
def i_need_from : Nat := 16
def i_ratio_in : Nat := 17
def i_train_ratio : Nat := 18
def i_made_of : Nat := 19
def i_convergents_of : Nat := 20
def i_parts_for : Nat := 21
def i_met : Nat := 22
def i_is_hand : Nat := 23
def i_are_hands : Nat := 24
def i_need_hands : Nat := 25
def i_are_marks : Nat := 26
def i_need_marks : Nat := 27
def i_marks_of : Nat := 28
def i_round_for : Nat := 29
def i_cycle_for : Nat := 30
def i_common_for : Nat := 31
def i_marks_at : Nat := 32
def i_round_of : Nat := 33
def i_tell_below : Nat := 34
def i_time_of : Nat := 35
def i_need_errors : Nat := 36
def i_need_time : Nat := 37
def i_distance : Nat := 38
def i_fits : Nat := 39
def i_hides : Nat := 40
def i_first_gap : Nat := 41
def i_fit_at : Nat := 42
def i_blurred_gap : Nat := 43
def i_tell_blurred : Nat := 44
def i_is_part : Nat := 45
def i_need_found : Nat := 46
def i_rest_of : Nat := 47
def i_times : Nat := 48
def i_way_to : Nat := 49
def i_settled : Nat := 50
def i_least_error : Nat := 51
def i_need_both : Nat := 52
def i_neighbors_in : Nat := 53
def i_gap_of : Nat := 54
def i_lower_near : Nat := 55
def i_upper_near : Nat := 56
def i_nearest : Nat := 57
def i_need_vernier : Nat := 58
def i_need_place : Nat := 59
def i_rest_at : Nat := 60
def i_marks_reading : Nat := 61
def i_reads_all : Nat := 62
def i_parts_read : Nat := 63
def i_read_at : Nat := 64
def i_off_at : Nat := 65
def i_best_marks : Nat := 66
def i_greatest_off : Nat := 67
def i__law_cup : Nat := 68
def i__law_roll : Nat := 69
def i__law_some : Nat := 70
def i__law_sort : Nat := 71
def i__law_like : Nat := 72
def i__law_divisor : Nat := 73
def i__law_low : Nat := 74
def i__law_distance : Nat := 75
def i__law_first : Nat := 76
def i__law_hand_right : Nat := 77
def i__law_vernier_right : Nat := 78
def i__law_two_right : Nat := 79
def i__law_great_right : Nat := 80
def i_law : Nat := 81
def c0_is_ascending : E := .comp (.t (.cons (.v 1) (.cons (.v 2) .nil))) (.zip (.var 0) (.sl (.var 0) (.some (.lit (.int 1))) .none)) .none [1, 2] (.cmp .Lt (.var 1) (.var 2))
def t0_parts_of : E := (.cmp .NotEq (.var 1) (.lit (.int 0)))
def b0_parts_of : Ss := (.cons (.app 2 (.bin .FloorDiv (.var 0) (.var 1))) (.cons (.par [0, 1] (.cons (.var 1) (.cons (.bin .Mod (.var 0) (.var 1)) .nil))) .nil))
def l0_parts_of : S := .whl t0_parts_of b0_parts_of
def b0_by_parts : Ss := (.cons (.par [2, 3] (.cons (.bin .Add (.bin .Mult (.var 1) (.var 2)) (.var 3)) (.cons (.var 2) .nil))) .nil)
def l0_by_parts : S := .for (.v 1) (.val (.rev (.var 0))) b0_by_parts
def c0_fit_kinds : E := .comp (.v 1) (.val (.var 0)) .none [1] (.call i_is_whole (.cons (.raw 1) (.cons (.lit (.int 2)) (.cons (.lit (.int 1000)) .nil))))
def c0_are_pairs : E := .comp (.v 3) (.val (.var 0)) .none [3] (.call i_is_tuple_of (.cons (.raw 3) (.cons (.lit (.int 2)) (.cons (.lit (.int 2)) .nil))))
def c1_are_pairs : E := .comp (.t (.cons (.v 1) (.cons (.v 2) .nil))) (.val (.var 0)) .none [1, 2] (.and (.call i_is_whole (.cons (.raw 1) (.cons (.lit (.int 2)) (.cons (.lit (.int 1000)) .nil)))) (.call i_is_whole (.cons (.raw 2) (.cons (.lit (.int 2)) (.cons (.lit (.int 1000)) .nil)))))
def c0_fits_train : E := .comp (.t (.cons (.v 2) (.cons (.v 3) .nil))) (.val (.var 1)) .none [2, 3] (.and (.cmp .In (.var 2) (.var 0)) (.cmp .In (.var 3) (.var 0)))
def b0_ratio_in : Ss := (.cons (.set 1 (.call i_cut (.cons (.bin .Mult (.ix (.raw 1) (.lit (.int 0))) (.var 2)) (.cons (.bin .Mult (.ix (.raw 1) (.lit (.int 1))) (.var 3)) .nil)))) .nil)
def l0_ratio_in : S := .for (.t (.cons (.v 2) (.cons (.v 3) .nil))) (.val (.var 0)) b0_ratio_in
def c0_made_of : E := .comp (.v 1) (.val (.var 0)) .none [1] (.call i_is_whole (.cons (.raw 1) (.cons (.lit (.int 0)) (.cons (.lit (.int 1000)) .nil))))
def c0_convergents_of : E := .comp (.v 2) (.rng2 (.lit (.int 1)) (.bin .Add (.blt .len (.cons (.raw 1) .nil)) (.lit (.int 1)))) .none [2] (.call i_by_parts (.cons (.sl (.var 1) .none (.some (.var 2))) .nil))
def c0_parts_for : E := .comp (.v 5) (.rng1 (.lit (.int 3))) .none [5] (.bin .Sub (.ix (.raw 2) (.var 5)) (.bin .Mult (.var 4) (.ix (.raw 3) (.var 5))))
def t0_parts_for : E := (.cmp .NotEq (.ix (.raw 3) (.lit (.int 0))) (.lit (.int 0)))
def b0_parts_for : Ss := (.cons (.set 4 (.bin .FloorDiv (.ix (.raw 2) (.lit (.int 0))) (.ix (.raw 3) (.lit (.int 0))))) (.cons (.unp (.cons (.v 2) (.cons (.v 3) .nil)) (.tup (.cons (.var 3) (.cons (.blt .tuple (.cons c0_parts_for .nil)) .nil)))) .nil))
def l0_parts_for : S := .whl t0_parts_for b0_parts_for
def c0_are_hands : E := .comp (.v 1) (.val (.var 0)) .none [1] (.call i_is_hand (.cons (.raw 1) .nil))
def c0_are_marks : E := .comp (.t (.cons (.v 3) (.cons (.t (.cons (.v 4) (.cons (.v 5) .nil))) .nil))) (.zip (.var 1) (.var 0)) .none [3, 4, 5] (.call i_is_whole (.cons (.raw 3) (.cons (.lit (.int 0)) (.cons (.bin .Sub (.var 5) (.lit (.int 1))) .nil))))
def c0_marks_of : E := .comp (.t (.cons (.v 2) (.cons (.v 3) .nil))) (.val (.var 0)) .none [2, 3] (.bin .Mod (.bin .Mult (.var 2) (.var 1)) (.var 3))
def b0_round_for : Ss := (.cons (.set 4 (.bin .FloorDiv (.var 3) (.blt .gcd (.cons (.var 2) (.cons (.var 3) .nil))))) (.cons (.set 1 (.bin .Mult (.bin .FloorDiv (.var 1) (.blt .gcd (.cons (.var 1) (.cons (.var 4) .nil)))) (.var 4))) .nil))
def l0_round_for : S := .for (.t (.cons (.v 2) (.cons (.v 3) .nil))) (.val (.var 0)) b0_round_for
def b0_common_for : Ss := (.cons (.set 5 (.call i_cycle_for (.cons (.raw 3) (.cons (.raw 4) .nil)))) (.cons (.set 2 (.ite (.cmp .IsNot (.var 5) (.lit .none)) (.call i_met (.cons (.raw 2) (.cons (.raw 5) .nil))) (.lit .none))) (.cons (.ite (.cmp .Is (.var 2) (.lit .none)) (.cons (.ret (.lit .none)) .nil) .nil) .nil)))
def l0_common_for : S := .for (.t (.cons (.v 3) (.cons (.v 4) .nil))) (.zip (.var 0) (.var 1)) b0_common_for
def c0_need_errors : E := .comp (.v 3) (.val (.var 1)) .none [3] (.call i_is_whole (.cons (.raw 3) (.cons (.lit (.int 0)) (.cons (.lit (.int 500)) .nil))))
def b0_fits : Ss := (.cons (.ite (.cmp .Gt (.call i_distance (.cons (.raw 7) (.cons (.bin .Mult (.var 6) (.var 3)) (.cons (.raw 5) .nil)))) (.var 4)) (.cons (.ret (.lit (.bool false))) .nil) .nil) .nil)
def l0_fits : S := .for (.t (.cons (.t (.cons (.v 6) (.cons (.v 7) .nil))) (.cons (.v 4) (.cons (.v 5) .nil)))) (.zip3 (.var 0) (.var 1) (.var 2)) b0_fits
def c0_hides : E := .comp (.t (.cons (.t (.cons (.v 4) (.cons (.v 5) .nil))) (.cons (.v 3) .nil))) (.zip (.var 0) (.var 1)) .none [4, 5, 3] (.cmp .LtE (.call i_distance (.cons (.raw 5) (.cons (.bin .Mult (.var 4) (.var 2)) (.cons (.lit (.int 0)) .nil)))) (.bin .Mult (.lit (.int 2)) (.var 3)))
def b0_first_gap : Ss := (.cons (.ite (.call i_hides (.cons (.raw 0) (.cons (.raw 1) (.cons (.raw 3) .nil)))) (.cons (.ret (.raw 3)) .nil) .nil) .nil)
def l0_first_gap : S := .for (.v 3) (.rng2 (.lit (.int 1)) (.var 2)) b0_first_gap
def t0_neighbors_in : E := (.cmp .LtE (.bin .Add (.ix (.raw 4) (.lit (.int 1))) (.bin .Mult (.bin .FloorDiv (.var 6) (.var 7)) (.ix (.raw 5) (.lit (.int 1))))) (.var 1))
def b0_neighbors_in : Ss := (.cons (.set 8 (.bin .FloorDiv (.var 6) (.var 7))) (.cons (.par [4, 5] (.cons (.var 5) (.cons (.tup (.cons (.bin .Add (.ix (.raw 4) (.lit (.int 0))) (.bin .Mult (.var 8) (.ix (.raw 5) (.lit (.int 0))))) (.cons (.bin .Add (.ix (.raw 4) (.lit (.int 1))) (.bin .Mult (.var 8) (.ix (.raw 5) (.lit (.int 1))))) .nil))) .nil))) (.cons (.par [6, 7] (.cons (.var 7) (.cons (.bin .Sub (.var 6) (.bin .Mult (.var 8) (.var 7))) .nil))) .nil)))
def l0_neighbors_in : S := .whl t0_neighbors_in b0_neighbors_in
def c0_marks_reading : E := .comp (.v 3) (.rng1 (.var 1)) (.some (.cmp .Eq (.bin .Mod (.bin .Add (.var 2) (.bin .Mult (.var 3) (.var 0))) (.var 1)) (.lit (.int 0)))) [3] (.var 3)
def c0_best_marks : E := .comp (.v 5) (.rng1 (.var 1)) .none [5] (.call i_rest_at (.cons (.raw 0) (.cons (.raw 1) (.cons (.raw 2) (.cons (.raw 5) .nil)))))
def c1_best_marks : E := .comp (.v 5) (.rng1 (.var 1)) (.some (.cmp .Eq (.ix (.raw 3) (.var 5)) (.var 4))) [5] (.var 5)
def c0__law_like : E := .comp (.t (.cons (.v 3) (.cons (.v 4) .nil))) (.zip (.var 0) (.var 1)) (.some (.not (.call i__law_like (.cons (.raw 3) (.cons (.raw 4) .nil))))) [3, 4] (.lit (.int 1))
def b0__law_divisor : Ss := (.cons (.ite (.cmp .Eq (.var 1) (.lit (.int 0))) (.cons (.ret (.raw 0)) .nil) .nil) (.cons (.par [0, 1] (.cons (.var 1) (.cons (.bin .Mod (.blt .int (.cons (.var 0) .nil)) (.var 1)) .nil))) .nil))
def l0__law_divisor : S := .for (.v 2) (.rng1 (.lit (.int 400))) b0__law_divisor
def c0__law_first : E := .comp (.v 4) (.val (.call i_convergents_of (.cons (.call i__law_low (.cons (.raw 0) (.cons (.raw 1) .nil))) .nil))) (.some (.cmp .LtE (.call i__law_distance (.cons (.bin .Mult (.var 0) (.ix (.raw 4) (.lit (.int 1)))) (.cons (.raw 1) .nil))) (.var 2))) [4] (.ix (.raw 4) (.lit (.int 1)))
def b0__law_hand_right : Ss := (.cons (.set 14 (.bin .Add (.lit (.int 1)) (.call i__law_roll (.cons (.raw 0) (.cons (.bin .Sub (.var 3) (.lit (.int 1))) .nil))))) (.cons (.ite (.cmp .LtE (.call i__law_distance (.cons (.bin .Mult (.var 1) (.var 14)) (.cons (.raw 2) .nil))) (.var 9)) (.cons (.ret (.lit (.bool false))) .nil) .nil) .nil))
def l0__law_hand_right : S := .for (.v 10) (.rng1 (.ite (.cmp .Gt (.var 3) (.lit (.int 1))) (.lit (.int 3)) (.lit (.int 0)))) b0__law_hand_right
def c0__law_vernier_right : E := .comp (.v 4) (.val (.call i_convergents_of (.cons (.raw 14) .nil))) (.some (.cmp .Lt (.ix (.raw 4) (.lit (.int 1))) (.var 2))) [4] (.var 4)
def b0__law_vernier_right : Ss := (.cons (.ite (.not (.call i__law_like (.cons (.call i_off_at (.cons (.raw 1) (.cons (.raw 2) (.cons (.raw 15) (.cons (.ix (.raw 4) (.lit (.int 1))) .nil))))) (.cons (.call i__law_low (.cons (.call i__law_distance (.cons (.bin .Mult (.var 1) (.ix (.raw 4) (.lit (.int 1)))) (.cons (.raw 2) .nil))) (.cons (.raw 2) .nil))) .nil)))) (.cons (.ret (.lit (.bool false))) .nil) .nil) .nil)
def l0__law_vernier_right : S := .for (.v 4) (.val (.var 3)) b0__law_vernier_right
def b1__law_vernier_right : Ss := (.cons (.set 16 (.bin .Add (.lit (.int 1)) (.call i__law_roll (.cons (.raw 0) (.cons (.blt .mx (.cons (.bin .Sub (.var 6) (.lit (.int 1))) (.cons (.lit (.int 1)) .nil))) .nil))))) (.cons (.ite (.and (.cmp .Lt (.var 16) (.var 6)) (.cmp .Lt (.call i__law_distance (.cons (.bin .Mult (.var 1) (.var 16)) (.cons (.raw 2) .nil))) (.var 7))) (.cons (.ret (.lit (.bool false))) .nil) .nil) .nil))
def l1__law_vernier_right : S := .for (.v 8) (.rng1 (.lit (.int 3))) b1__law_vernier_right
def c1__law_vernier_right : E := .comp (.v 16) (.val (.var 13)) (.some (.cmp .NotEq (.call i_read_at (.cons (.raw 1) (.cons (.raw 2) (.cons (.raw 16) .nil)))) (.var 12))) [16] (.var 16)
def b0__law_great_right : Ss := (.cons (.set 7 (.call i__law_distance (.cons (.bin .Mult (.ix (.raw 1) (.lit (.int 0))) (.ix (.raw 6) (.lit (.int 1)))) (.cons (.ix (.raw 1) (.lit (.int 1))) .nil)))) (.cons (.ite (.and (.cmp .Gt (.var 5) (.lit (.int 0))) (.and (.cmp .Lt (.var 7) (.call i__law_distance (.cons (.bin .Mult (.ix (.raw 1) (.lit (.int 0))) (.ix (.ix (.raw 2) (.bin .Sub (.var 5) (.lit (.int 1)))) (.lit (.int 1)))) (.cons (.ix (.raw 1) (.lit (.int 1))) .nil)))) (.cmp .Eq (.bin .Mod (.blt .int (.cons (.var 7) .nil)) (.lit (.int 2))) (.lit (.int 0))))) (.cons (.ite (.cmp .NotEq (.call i_blurred_gap (.cons (.tup (.cons (.tup (.cons (.ix (.raw 1) (.lit (.int 0))) (.cons (.ix (.raw 1) (.lit (.int 1))) .nil))) .nil)) (.cons (.tup (.cons (.bin .FloorDiv (.var 7) (.lit (.int 2))) .nil)) (.cons (.lit (.int 5000)) .nil)))) (.call i__law_first (.cons (.ix (.raw 1) (.lit (.int 0))) (.cons (.ix (.raw 1) (.lit (.int 1))) (.cons (.raw 7) .nil))))) (.cons (.ret (.lit (.bool false))) .nil) .nil) .nil) .nil) .nil))
def l0__law_great_right : S := .for (.t (.cons (.v 5) (.cons (.v 6) .nil))) (.enum (.sl (.var 2) .none (.some (.neg (.lit (.int 1)))))) b0__law_great_right
def b0_law : Ss := (.cons (.set 5 (.bin .Add (.lit (.int 1)) (.call i__law_roll (.cons (.raw 1) (.cons (.call i__law_some (.cons (.raw 1) (.cons (.lst (.cons (.lit (.int 9)) (.cons (.lit (.int 60)) (.cons (.lit (.int 1000)) .nil)))) .nil))) .nil))))) (.cons (.ite (.or (.not (.call i__law_hand_right (.cons (.raw 1) (.cons (.call i__law_roll (.cons (.raw 1) (.cons (.raw 5) .nil))) (.cons (.raw 5) .nil))))) (.not (.call i__law_vernier_right (.cons (.raw 1) (.cons (.bin .Add (.lit (.int 1)) (.call i__law_roll (.cons (.raw 1) (.cons (.lit (.int 200)) .nil)))) (.cons (.ite (.cmp .Lt (.var 5) (.lit (.int 1000))) (.bin .Add (.lit (.int 1)) (.var 5)) (.var 5)) .nil)))))) (.cons (.ret (.lit (.bool false))) .nil) .nil) (.cons (.ite (.or (.not (.call i__law_two_right (.cons (.raw 1) .nil))) (.not (.call i__law_great_right (.cons (.raw 1) .nil)))) (.cons (.ret (.lit (.bool false))) .nil) .nil) .nil)))
def l0_law : S := .for (.v 2) (.rng1 (.lit (.int 5))) b0_law
def b_law : Ss := (.cons l0_law (.cons (.set 3 (.tup (.cons (.tup (.cons (.lit (.int 12)) (.cons (.lit (.int 29)) .nil))) .nil))) (.cons (.set 4 (.lst (.cons (.call i_blurred_gap (.cons (.raw 3) (.cons (.tup (.cons (.lit (.int 0)) .nil)) (.cons (.lit (.int 100)) .nil)))) (.cons (.call i_blurred_gap (.cons (.raw 3) (.cons (.tup (.cons (.lit (.int 1)) .nil)) (.cons (.lit (.int 100)) .nil)))) (.cons (.call i_blurred_gap (.cons (.raw 3) (.cons (.tup (.cons (.lit (.int 2)) .nil)) (.cons (.lit (.int 100)) .nil)))) (.cons (.call i_blurred_gap (.cons (.raw 3) (.cons (.tup (.cons (.lit (.int 6)) .nil)) (.cons (.lit (.int 100)) .nil)))) (.cons (.call i_train_ratio (.cons (.tup (.cons (.lit (.int 12)) (.cons (.lit (.int 29)) .nil))) (.cons (.tup (.cons (.tup (.cons (.lit (.int 12)) (.cons (.lit (.int 29)) .nil))) .nil)) .nil))) (.cons (.call i_marks_at (.cons (.raw 3) (.cons (.lit (.int 5)) .nil))) .nil)))))))) (.cons (.ret (.call i__law_like (.cons (.raw 4) (.cons (.lst (.cons (.lit (.int 29)) (.cons (.lit (.int 5)) (.cons (.lit (.int 5)) (.cons (.lit (.int 1)) (.cons (.tup (.cons (.lit (.int 12)) (.cons (.lit (.int 29)) .nil))) (.cons (.tup (.cons (.lit (.int 2)) .nil)) .nil))))))) .nil)))) .nil))))
def f_is_whole : Fd := ⟨3, 3, (.cons (.ret (.and (.isi (.var 0) .int) (.and (.not (.isi (.var 0) .bool)) (.cmp2 .LtE .LtE (.var 1) (.var 0) (.var 2))))) .nil)⟩
def f_need_whole : Fd := ⟨3, 3, (.cons (.ite (.not (.call i_is_whole (.cons (.raw 0) (.cons (.raw 1) (.cons (.raw 2) .nil))))) (.cons .nev .nil) .nil) .nil)⟩
def f_is_tuple_of : Fd := ⟨3, 3, (.cons (.ret (.and (.isi (.var 0) .tuple) (.cmp2 .LtE .LtE (.var 1) (.blt .len (.cons (.raw 0) .nil)) (.var 2)))) .nil)⟩
def f_is_ascending : Fd := ⟨1, 3, (.cons (.ret (.blt .all (.cons c0_is_ascending .nil))) .nil)⟩
def f_is_ratio : Fd := ⟨1, 1, (.cons (.ite (.or (.not (.call i_is_tuple_of (.cons (.raw 0) (.cons (.lit (.int 2)) (.cons (.lit (.int 2)) .nil))))) (.or (.not (.call i_is_whole (.cons (.ix (.raw 0) (.lit (.int 0))) (.cons (.neg (.lit (.int 1000000000000000000000000000000000000000000000000000000000000))) (.cons (.lit (.int 1000000000000000000000000000000000000000000000000000000000000)) .nil))))) (.not (.call i_is_whole (.cons (.ix (.raw 0) (.lit (.int 1))) (.cons (.lit (.int 1)) (.cons (.lit (.int 1000000000000000000000000000000000000000000000000000000000000)) .nil))))))) (.cons (.ret (.lit (.bool false))) .nil) .nil) (.cons (.ret (.cmp .Eq (.blt .gcd (.cons (.ix (.raw 0) (.lit (.int 0))) (.cons (.ix (.raw 0) (.lit (.int 1))) .nil))) (.lit (.int 1)))) .nil))⟩
def f_cut : Fd := ⟨2, 3, (.cons (.set 2 (.blt .gcd (.cons (.var 0) (.cons (.var 1) .nil)))) (.cons (.ret (.ite (.cmp .Lt (.var 1) (.lit (.int 0))) (.tup (.cons (.bin .FloorDiv (.neg (.var 0)) (.var 2)) (.cons (.bin .FloorDiv (.neg (.var 1)) (.var 2)) .nil))) (.tup (.cons (.bin .FloorDiv (.var 0) (.var 2)) (.cons (.bin .FloorDiv (.var 1) (.var 2)) .nil))))) .nil))⟩
def f_sum_two : Fd := ⟨2, 2, (.cons (.ret (.call i_cut (.cons (.bin .Add (.bin .Mult (.ix (.raw 0) (.lit (.int 0))) (.ix (.raw 1) (.lit (.int 1)))) (.bin .Mult (.ix (.raw 1) (.lit (.int 0))) (.ix (.raw 0) (.lit (.int 1))))) (.cons (.bin .Mult (.ix (.raw 0) (.lit (.int 1))) (.ix (.raw 1) (.lit (.int 1)))) .nil)))) .nil)⟩
def f_side : Fd := ⟨2, 2, (.cons (.ret (.bin .Sub (.bin .Mult (.ix (.raw 0) (.lit (.int 0))) (.ix (.raw 1) (.lit (.int 1)))) (.bin .Mult (.ix (.raw 1) (.lit (.int 0))) (.ix (.raw 0) (.lit (.int 1)))))) .nil)⟩
def f_parts_of : Fd := ⟨2, 3, (.cons (.setC 2 (.lst .nil)) (.cons l0_parts_of (.cons (.ret (.raw 2)) .nil)))⟩
def f_by_parts : Fd := ⟨1, 4, (.cons (.unp (.cons (.v 2) (.cons (.v 3) .nil)) (.tup (.cons (.lit (.int 1)) (.cons (.lit (.int 0)) .nil)))) (.cons l0_by_parts (.cons (.ret (.tup (.cons (.var 2) (.cons (.var 3) .nil)))) .nil)))⟩
def f_fit_kinds : Fd := ⟨1, 2, (.cons (.ite (.or (.not (.call i_is_tuple_of (.cons (.raw 0) (.cons (.lit (.int 1)) (.cons (.lit (.int 16)) .nil))))) (.not (.blt .all (.cons c0_fit_kinds .nil)))) (.cons (.ret (.lit (.bool false))) .nil) .nil) (.cons (.ret (.call i_is_ascending (.cons (.raw 0) .nil))) .nil))⟩
def f_need_kinds : Fd := ⟨1, 1, (.cons (.ite (.not (.call i_fit_kinds (.cons (.raw 0) .nil))) (.cons .nev .nil) .nil) .nil)⟩
def f_are_pairs : Fd := ⟨1, 4, (.cons (.ite (.or (.not (.call i_is_tuple_of (.cons (.raw 0) (.cons (.lit (.int 0)) (.cons (.lit (.int 6)) .nil))))) (.not (.blt .all (.cons c0_are_pairs .nil)))) (.cons (.ret (.lit (.bool false))) .nil) .nil) (.cons (.ret (.blt .all (.cons c1_are_pairs .nil))) .nil))⟩
def f_fits_train : Fd := ⟨2, 4, (.cons (.ret (.and (.call i_are_pairs (.cons (.raw 1) .nil)) (.blt .all (.cons c0_fits_train .nil)))) .nil)⟩
def f_need_train : Fd := ⟨2, 2, (.cons (.ite (.not (.call i_fits_train (.cons (.raw 0) (.cons (.raw 1) .nil)))) (.cons .nev .nil) .nil) .nil)⟩
def f_is_from : Fd := ⟨2, 2, (.cons (.ret (.and (.call i_is_ratio (.cons (.raw 0) .nil)) (.and (.cmp2 .LtE .LtE (.var 1) (.ix (.raw 0) (.lit (.int 0))) (.lit (.int 1000000000000000000))) (.cmp .LtE (.ix (.raw 0) (.lit (.int 1))) (.lit (.int 1000000000000000000)))))) .nil)⟩
def f_need_from : Fd := ⟨2, 2, (.cons (.ite (.not (.call i_is_from (.cons (.raw 0) (.cons (.raw 1) .nil)))) (.cons .nev .nil) .nil) .nil)⟩
def f_ratio_in : Fd := ⟨1, 4, (.cons (.set 1 (.tup (.cons (.lit (.int 1)) (.cons (.lit (.int 1)) .nil)))) (.cons l0_ratio_in (.cons (.ret (.raw 1)) .nil)))⟩
def f_train_ratio : Fd := ⟨2, 2, (.cons (.expr (.call i_need_kinds (.cons (.raw 0) .nil))) (.cons (.expr (.call i_need_train (.cons (.raw 0) (.cons (.raw 1) .nil)))) (.cons (.ret (.call i_ratio_in (.cons (.raw 1) .nil))) .nil)))⟩
def f_made_of : Fd := ⟨1, 2, (.cons (.ite (.or (.not (.call i_is_tuple_of (.cons (.raw 0) (.cons (.lit (.int 1)) (.cons (.lit (.int 60)) .nil))))) (.or (.not (.blt .all (.cons c0_made_of .nil))) (.cmp .In (.lit (.int 0)) (.sl (.var 0) (.some (.lit (.int 1))) .none)))) (.cons .nev .nil) .nil) (.cons (.ret (.call i_by_parts (.cons (.blt .list (.cons (.var 0) .nil)) .nil))) .nil))⟩
def f_convergents_of : Fd := ⟨1, 3, (.cons (.expr (.call i_need_from (.cons (.raw 0) (.cons (.lit (.int 0)) .nil)))) (.cons (.set 1 (.call i_parts_of (.cons (.ix (.raw 0) (.lit (.int 0))) (.cons (.ix (.raw 0) (.lit (.int 1))) .nil)))) (.cons (.ret (.blt .tuple (.cons c0_convergents_of .nil))) .nil)))⟩
def f_parts_for : Fd := ⟨2, 6, (.cons (.unp (.cons (.v 2) (.cons (.v 3) .nil)) (.tup (.cons (.tup (.cons (.var 0) (.cons (.lit (.int 1)) (.cons (.lit (.int 0)) .nil)))) (.cons (.tup (.cons (.var 1) (.cons (.lit (.int 0)) (.cons (.lit (.int 1)) .nil)))) .nil)))) (.cons l0_parts_for (.cons (.ret (.raw 2)) .nil)))⟩
def f_met : Fd := ⟨2, 6, (.cons (.unp (.cons (.v 3) (.cons (.v 4) (.cons (.v 5) .nil))) (.call i_parts_for (.cons (.ix (.raw 0) (.lit (.int 0))) (.cons (.ix (.raw 1) (.lit (.int 0))) .nil)))) (.cons (.ite (.cmp .NotEq (.bin .Mod (.bin .Sub (.ix (.raw 1) (.lit (.int 1))) (.ix (.raw 0) (.lit (.int 1)))) (.var 3)) (.lit (.int 0))) (.cons (.ret (.lit .none)) .nil) .nil) (.cons (.set 2 (.bin .Mult (.bin .FloorDiv (.ix (.raw 0) (.lit (.int 0))) (.var 3)) (.ix (.raw 1) (.lit (.int 0))))) (.cons (.ret (.tup (.cons (.var 2) (.cons (.bin .Mod (.bin .Add (.ix (.raw 0) (.lit (.int 1))) (.bin .Mult (.bin .Mult (.bin .FloorDiv (.bin .Sub (.ix (.raw 1) (.lit (.int 1))) (.ix (.raw 0) (.lit (.int 1)))) (.var 3)) (.var 4)) (.ix (.raw 0) (.lit (.int 0))))) (.var 2)) .nil)))) .nil))))⟩
def f_is_hand : Fd := ⟨1, 1, (.cons (.ret (.and (.call i_is_tuple_of (.cons (.raw 0) (.cons (.lit (.int 2)) (.cons (.lit (.int 2)) .nil)))) (.and (.call i_is_whole (.cons (.ix (.raw 0) (.lit (.int 1))) (.cons (.lit (.int 1)) (.cons (.lit (.int 1000)) .nil)))) (.call i_is_whole (.cons (.ix (.raw 0) (.lit (.int 0))) (.cons (.lit (.int 0)) (.cons (.bin .Sub (.ix (.raw 0) (.lit (.int 1))) (.lit (.int 1))) .nil))))))) .nil)⟩
def f_are_hands : Fd := ⟨1, 2, (.cons (.ret (.and (.call i_is_tuple_of (.cons (.raw 0) (.cons (.lit (.int 1)) (.cons (.lit (.int 6)) .nil)))) (.blt .all (.cons c0_are_hands .nil)))) .nil)⟩
def f_need_hands : Fd := ⟨1, 1, (.cons (.ite (.not (.call i_are_hands (.cons (.raw 0) .nil))) (.cons .nev .nil) .nil) .nil)⟩
def f_are_marks : Fd := ⟨2, 6, (.cons (.set 2 (.blt .len (.cons (.raw 0) .nil))) (.cons (.ret (.and (.call i_is_tuple_of (.cons (.raw 1) (.cons (.raw 2) (.cons (.raw 2) .nil)))) (.blt .all (.cons c0_are_marks .nil)))) .nil))⟩
def f_need_marks : Fd := ⟨2, 2, (.cons (.expr (.call i_need_hands (.cons (.raw 0) .nil))) (.cons (.ite (.not (.call i_are_marks (.cons (.raw 0) (.cons (.raw 1) .nil)))) (.cons .nev .nil) .nil) .nil))⟩
def f_marks_of : Fd := ⟨2, 4, (.cons (.ret (.blt .tuple (.cons c0_marks_of .nil))) .nil)⟩
def f_round_for : Fd := ⟨1, 5, (.cons (.set 1 (.lit (.int 1))) (.cons l0_round_for (.cons (.ret (.raw 1)) .nil)))⟩
def f_cycle_for : Fd := ⟨2, 7, (.cons (.unp (.cons (.v 2) (.cons (.v 3) .nil)) (.var 0)) (.cons (.unp (.cons (.v 4) (.cons (.v 5) (.cons (.v 6) .nil))) (.call i_parts_for (.cons (.raw 2) (.cons (.raw 3) .nil)))) (.cons (.ite (.cmp .NotEq (.bin .Mod (.var 1) (.var 4)) (.lit (.int 0))) (.cons (.ret (.lit .none)) .nil) .nil) (.cons (.ret (.tup (.cons (.bin .FloorDiv (.var 3) (.var 4)) (.cons (.bin .Mod (.bin .Mult (.bin .FloorDiv (.var 1) (.var 4)) (.var 5)) (.bin .FloorDiv (.var 3) (.var 4))) .nil)))) .nil))))⟩
def f_common_for : Fd := ⟨2, 6, (.cons (.set 2 (.tup (.cons (.lit (.int 1)) (.cons (.lit (.int 0)) .nil)))) (.cons l0_common_for (.cons (.ret (.raw 2)) .nil)))⟩
def f_marks_at : Fd := ⟨2, 2, (.cons (.expr (.call i_need_hands (.cons (.raw 0) .nil))) (.cons (.ite (.not (.call i_is_whole (.cons (.raw 1) (.cons (.lit (.int 0)) (.cons (.lit (.int 1000000000000000000)) .nil))))) (.cons .nev .nil) .nil) (.cons (.ret (.call i_marks_of (.cons (.raw 0) (.cons (.raw 1) .nil)))) .nil)))⟩
def f_round_of : Fd := ⟨1, 1, (.cons (.expr (.call i_need_hands (.cons (.raw 0) .nil))) (.cons (.ret (.call i_round_for (.cons (.raw 0) .nil))) .nil))⟩
def f_tell_below : Fd := ⟨2, 2, (.cons (.expr (.call i_need_hands (.cons (.raw 0) .nil))) (.cons (.expr (.call i_need_whole (.cons (.raw 1) (.cons (.lit (.int 1)) (.cons (.lit (.int 1000000)) .nil))))) (.cons (.ret (.cmp .LtE (.var 1) (.call i_round_for (.cons (.raw 0) .nil)))) .nil)))⟩
def f_time_of : Fd := ⟨2, 3, (.cons (.expr (.call i_need_marks (.cons (.raw 0) (.cons (.raw 1) .nil)))) (.cons (.set 2 (.call i_common_for (.cons (.raw 0) (.cons (.raw 1) .nil)))) (.cons (.ret (.ite (.cmp .IsNot (.var 2) (.lit .none)) (.ix (.raw 2) (.lit (.int 1))) (.lit .none))) .nil)))⟩
def f_need_errors : Fd := ⟨2, 4, (.cons (.expr (.call i_need_hands (.cons (.raw 0) .nil))) (.cons (.set 2 (.blt .len (.cons (.raw 0) .nil))) (.cons (.ite (.or (.not (.call i_is_tuple_of (.cons (.raw 1) (.cons (.raw 2) (.cons (.raw 2) .nil))))) (.not (.blt .all (.cons c0_need_errors .nil)))) (.cons .nev .nil) .nil) .nil)))⟩
def f_need_time : Fd := ⟨1, 1, (.cons (.ite (.not (.call i_is_whole (.cons (.raw 0) (.cons (.lit (.int 0)) (.cons (.lit (.int 1000000)) .nil))))) (.cons .nev .nil) .nil) .nil)⟩
def f_distance : Fd := ⟨3, 4, (.cons (.set 3 (.bin .Mod (.bin .Sub (.var 1) (.var 2)) (.var 0))) (.cons (.ret (.blt .mn (.cons (.var 3) (.cons (.bin .Sub (.var 0) (.var 3)) .nil)))) .nil))⟩
def f_fits : Fd := ⟨4, 8, (.cons l0_fits (.cons (.ret (.lit (.bool true))) .nil))⟩
def f_hides : Fd := ⟨3, 6, (.cons (.ret (.blt .all (.cons c0_hides .nil))) .nil)⟩
def f_first_gap : Fd := ⟨3, 4, (.cons l0_first_gap (.cons (.ret (.lit .none)) .nil))⟩
def f_fit_at : Fd := ⟨4, 4, (.cons (.expr (.call i_need_errors (.cons (.raw 0) (.cons (.raw 1) .nil)))) (.cons (.expr (.call i_need_marks (.cons (.raw 0) (.cons (.raw 2) .nil)))) (.cons (.expr (.call i_need_time (.cons (.raw 3) .nil))) (.cons (.ret (.call i_fits (.cons (.raw 0) (.cons (.raw 1) (.cons (.raw 2) (.cons (.raw 3) .nil)))))) .nil))))⟩
def f_blurred_gap : Fd := ⟨3, 3, (.cons (.expr (.call i_need_errors (.cons (.raw 0) (.cons (.raw 1) .nil)))) (.cons (.expr (.call i_need_whole (.cons (.raw 2) (.cons (.lit (.int 1)) (.cons (.lit (.int 5000)) .nil))))) (.cons (.ret (.call i_first_gap (.cons (.raw 0) (.cons (.raw 1) (.cons (.raw 2) .nil))))) .nil)))⟩
def f_tell_blurred : Fd := ⟨3, 3, (.cons (.expr (.call i_need_errors (.cons (.raw 0) (.cons (.raw 1) .nil)))) (.cons (.expr (.call i_need_whole (.cons (.raw 2) (.cons (.lit (.int 1)) (.cons (.lit (.int 5000)) .nil))))) (.cons (.ret (.cmp .Is (.call i_first_gap (.cons (.raw 0) (.cons (.raw 1) (.cons (.raw 2) .nil)))) (.lit .none))) .nil)))⟩
def f_is_part : Fd := ⟨2, 2, (.cons (.ret (.and (.call i_is_ratio (.cons (.raw 0) .nil)) (.cmp3 .LtE .Lt .LtE (.lit (.int 0)) (.ix (.raw 0) (.lit (.int 0))) (.ix (.raw 0) (.lit (.int 1))) (.var 1)))) .nil)⟩
def f_need_found : Fd := ⟨4, 4, (.cons (.expr (.call i_need_whole (.cons (.raw 0) (.cons (.lit (.int 1)) (.cons (.lit (.int 1000)) .nil))))) (.cons (.expr (.call i_need_whole (.cons (.raw 1) (.cons (.lit (.int 1)) (.cons (.lit (.int 1000)) .nil))))) (.cons (.ite (.or (.not (.call i_is_part (.cons (.raw 2) (.cons (.lit (.int 1000000)) .nil)))) (.not (.call i_is_part (.cons (.raw 3) (.cons (.lit (.int 1000000)) .nil))))) (.cons .nev .nil) .nil) .nil)))⟩
def f_rest_of : Fd := ⟨1, 1, (.cons (.ret (.call i_cut (.cons (.bin .Mod (.ix (.raw 0) (.lit (.int 0))) (.ix (.raw 0) (.lit (.int 1)))) (.cons (.ix (.raw 0) (.lit (.int 1))) .nil)))) .nil)⟩
def f_times : Fd := ⟨2, 2, (.cons (.ret (.call i_cut (.cons (.bin .Mult (.ix (.raw 0) (.lit (.int 0))) (.var 1)) (.cons (.ix (.raw 0) (.lit (.int 1))) .nil)))) .nil)⟩
def f_way_to : Fd := ⟨2, 3, (.cons (.set 2 (.call i_rest_of (.cons (.call i_sum_two (.cons (.raw 0) (.cons (.call i_times (.cons (.raw 1) (.cons (.neg (.lit (.int 1))) .nil))) .nil))) .nil))) (.cons (.ret (.ite (.cmp .Lt (.bin .Mult (.lit (.int 2)) (.ix (.raw 2) (.lit (.int 0)))) (.ix (.raw 2) (.lit (.int 1)))) (.var 2) (.call i_sum_two (.cons (.raw 2) (.cons (.tup (.cons (.neg (.lit (.int 1))) (.cons (.lit (.int 1)) .nil))) .nil))))) .nil))⟩
def f_settled : Fd := ⟨4, 12, (.cons (.unp (.cons (.v 7) (.cons (.v 8) (.cons (.v 9) .nil))) (.call i_parts_for (.cons (.raw 0) (.cons (.raw 1) .nil)))) (.cons (.par [0, 1] (.cons (.bin .FloorDiv (.var 0) (.var 7)) (.cons (.bin .FloorDiv (.var 1) (.var 7)) .nil))) (.cons (.set 4 (.call i_way_to (.cons (.call i_sum_two (.cons (.call i_times (.cons (.raw 2) (.cons (.raw 1) .nil))) (.cons (.call i_times (.cons (.raw 3) (.cons (.neg (.var 0)) .nil))) .nil))) (.cons (.tup (.cons (.lit (.int 0)) (.cons (.lit (.int 1)) .nil))) .nil)))) (.cons (.set 5 (.call i_cut (.cons (.neg (.ix (.raw 4) (.lit (.int 0)))) (.cons (.bin .Mult (.ix (.raw 4) (.lit (.int 1))) (.bin .Add (.var 0) (.var 1))) .nil)))) (.cons (.par [10, 11] (.cons (.call i_sum_two (.cons (.raw 2) (.cons (.raw 5) .nil))) (.cons (.call i_sum_two (.cons (.raw 3) (.cons (.call i_times (.cons (.raw 5) (.cons (.neg (.lit (.int 1))) .nil))) .nil))) .nil))) (.cons (.set 6 (.call i_rest_of (.cons (.call i_sum_two (.cons (.call i_times (.cons (.raw 10) (.cons (.raw 8) .nil))) (.cons (.call i_times (.cons (.raw 11) (.cons (.raw 9) .nil))) .nil))) .nil))) (.cons (.ret (.tup (.cons (.call i_rest_of (.cons (.call i_cut (.cons (.ix (.raw 6) (.lit (.int 0))) (.cons (.bin .Mult (.ix (.raw 6) (.lit (.int 1))) (.var 7)) .nil))) .nil)) (.cons (.tup (.cons (.blt .abs (.cons (.ix (.raw 5) (.lit (.int 0))) .nil)) (.cons (.ix (.raw 5) (.lit (.int 1))) .nil))) .nil)))) .nil)))))))⟩
def f_least_error : Fd := ⟨4, 4, (.cons (.expr (.call i_need_found (.cons (.raw 0) (.cons (.raw 1) (.cons (.raw 2) (.cons (.raw 3) .nil)))))) (.cons (.ret (.ix (.call i_settled (.cons (.raw 0) (.cons (.raw 1) (.cons (.raw 2) (.cons (.raw 3) .nil))))) (.lit (.int 1)))) .nil))⟩
def f_need_both : Fd := ⟨2, 2, (.cons (.expr (.call i_need_from (.cons (.raw 0) (.cons (.lit (.int 0)) .nil)))) (.cons (.ite (.not (.call i_is_whole (.cons (.raw 1) (.cons (.lit (.int 1)) (.cons (.lit (.int 1000000000000000000)) .nil))))) (.cons .nev .nil) .nil) .nil))⟩
def f_neighbors_in : Fd := ⟨2, 9, (.cons (.ite (.cmp .LtE (.ix (.raw 0) (.lit (.int 1))) (.var 1)) (.cons (.ret (.tup (.cons (.var 0) (.cons (.var 0) .nil)))) .nil) .nil) (.cons (.unp (.cons (.v 4) (.cons (.v 5) (.cons (.v 6) (.cons (.v 7) .nil)))) (.tup (.cons (.tup (.cons (.lit (.int 0)) (.cons (.lit (.int 1)) .nil))) (.cons (.tup (.cons (.lit (.int 1)) (.cons (.lit (.int 0)) .nil))) (.cons (.ix (.raw 0) (.lit (.int 0))) (.cons (.ix (.raw 0) (.lit (.int 1))) .nil)))))) (.cons l0_neighbors_in (.cons (.set 2 (.bin .FloorDiv (.bin .Sub (.var 1) (.ix (.raw 4) (.lit (.int 1)))) (.ix (.raw 5) (.lit (.int 1))))) (.cons (.set 3 (.tup (.cons (.bin .Add (.ix (.raw 4) (.lit (.int 0))) (.bin .Mult (.var 2) (.ix (.raw 5) (.lit (.int 0))))) (.cons (.bin .Add (.ix (.raw 4) (.lit (.int 1))) (.bin .Mult (.var 2) (.ix (.raw 5) (.lit (.int 1))))) .nil)))) (.cons (.ret (.ite (.cmp .Lt (.call i_side (.cons (.raw 3) (.cons (.raw 0) .nil))) (.lit (.int 0))) (.tup (.cons (.var 3) (.cons (.var 5) .nil))) (.tup (.cons (.var 5) (.cons (.var 3) .nil))))) .nil))))))⟩
def f_gap_of : Fd := ⟨2, 2, (.cons (.ret (.tup (.cons (.blt .abs (.cons (.call i_side (.cons (.raw 0) (.cons (.raw 1) .nil))) .nil)) (.cons (.bin .Mult (.ix (.raw 0) (.lit (.int 1))) (.ix (.raw 1) (.lit (.int 1)))) .nil)))) .nil)⟩
def f_lower_near : Fd := ⟨2, 2, (.cons (.expr (.call i_need_both (.cons (.raw 0) (.cons (.raw 1) .nil)))) (.cons (.ret (.ix (.call i_neighbors_in (.cons (.raw 0) (.cons (.raw 1) .nil))) (.lit (.int 0)))) .nil))⟩
def f_upper_near : Fd := ⟨2, 2, (.cons (.expr (.call i_need_both (.cons (.raw 0) (.cons (.raw 1) .nil)))) (.cons (.ret (.ix (.call i_neighbors_in (.cons (.raw 0) (.cons (.raw 1) .nil))) (.lit (.int 1)))) .nil))⟩
def f_nearest : Fd := ⟨2, 5, (.cons (.expr (.call i_need_both (.cons (.raw 0) (.cons (.raw 1) .nil)))) (.cons (.unp (.cons (.v 3) (.cons (.v 4) .nil)) (.call i_neighbors_in (.cons (.raw 0) (.cons (.raw 1) .nil)))) (.cons (.set 2 (.call i_side (.cons (.call i_gap_of (.cons (.raw 3) (.cons (.raw 0) .nil))) (.cons (.call i_gap_of (.cons (.raw 4) (.cons (.raw 0) .nil))) .nil)))) (.cons (.ite (.cmp .Eq (.var 2) (.lit (.int 0))) (.cons (.ret (.ite (.cmp .LtE (.ix (.raw 3) (.lit (.int 1))) (.ix (.raw 4) (.lit (.int 1)))) (.var 3) (.var 4))) .nil) .nil) (.cons (.ret (.ite (.cmp .Lt (.var 2) (.lit (.int 0))) (.var 3) (.var 4))) .nil)))))⟩
def f_need_vernier : Fd := ⟨2, 2, (.cons (.expr (.call i_need_whole (.cons (.raw 0) (.cons (.lit (.int 1)) (.cons (.lit (.int 1000000)) .nil))))) (.cons (.expr (.call i_need_whole (.cons (.raw 1) (.cons (.lit (.int 2)) (.cons (.lit (.int 1000)) .nil))))) .nil))⟩
def f_need_place : Fd := ⟨1, 1, (.cons (.ite (.or (.not (.call i_is_ratio (.cons (.raw 0) .nil))) (.not (.cmp3 .LtE .LtE .LtE (.lit (.int 0)) (.ix (.raw 0) (.lit (.int 0))) (.ix (.raw 0) (.lit (.int 1))) (.lit (.int 1000000))))) (.cons .nev .nil) .nil) .nil)⟩
def f_rest_at : Fd := ⟨4, 6, (.cons (.set 4 (.bin .Mult (.ix (.raw 2) (.lit (.int 1))) (.var 1))) (.cons (.set 5 (.bin .Mod (.bin .Add (.bin .Mult (.ix (.raw 2) (.lit (.int 0))) (.var 1)) (.bin .Mult (.bin .Mult (.var 3) (.var 0)) (.ix (.raw 2) (.lit (.int 1))))) (.var 4))) (.cons (.ret (.blt .mn (.cons (.var 5) (.cons (.bin .Sub (.var 4) (.var 5)) .nil)))) .nil)))⟩
def f_marks_reading : Fd := ⟨3, 4, (.cons (.expr (.call i_need_vernier (.cons (.raw 0) (.cons (.raw 1) .nil)))) (.cons (.expr (.call i_need_whole (.cons (.raw 2) (.cons (.lit (.int 0)) (.cons (.bin .Sub (.var 1) (.lit (.int 1))) .nil))))) (.cons (.ret (.blt .tuple (.cons c0_marks_reading .nil))) .nil)))⟩
def f_reads_all : Fd := ⟨2, 2, (.cons (.expr (.call i_need_vernier (.cons (.raw 0) (.cons (.raw 1) .nil)))) (.cons (.ret (.cmp .Eq (.blt .gcd (.cons (.var 0) (.cons (.var 1) .nil))) (.lit (.int 1)))) .nil))⟩
def f_parts_read : Fd := ⟨2, 2, (.cons (.expr (.call i_need_vernier (.cons (.raw 0) (.cons (.raw 1) .nil)))) (.cons (.ret (.bin .FloorDiv (.var 1) (.blt .gcd (.cons (.var 0) (.cons (.var 1) .nil))))) .nil))⟩
def f_read_at : Fd := ⟨3, 3, (.cons (.expr (.call i_need_vernier (.cons (.raw 0) (.cons (.raw 1) .nil)))) (.cons (.expr (.call i_need_whole (.cons (.raw 2) (.cons (.lit (.int 0)) (.cons (.bin .Sub (.var 1) (.lit (.int 1))) .nil))))) (.cons (.ret (.bin .Mod (.bin .Mult (.neg (.var 2)) (.var 0)) (.var 1))) .nil)))⟩
def f_off_at : Fd := ⟨4, 4, (.cons (.expr (.call i_need_vernier (.cons (.raw 0) (.cons (.raw 1) .nil)))) (.cons (.expr (.call i_need_place (.cons (.raw 2) .nil))) (.cons (.expr (.call i_need_whole (.cons (.raw 3) (.cons (.lit (.int 0)) (.cons (.bin .Sub (.var 1) (.lit (.int 1))) .nil))))) (.cons (.ret (.call i_cut (.cons (.call i_rest_at (.cons (.raw 0) (.cons (.raw 1) (.cons (.raw 2) (.cons (.raw 3) .nil))))) (.cons (.bin .Mult (.ix (.raw 2) (.lit (.int 1))) (.var 1)) .nil)))) .nil))))⟩
def f_best_marks : Fd := ⟨3, 6, (.cons (.expr (.call i_need_vernier (.cons (.raw 0) (.cons (.raw 1) .nil)))) (.cons (.expr (.call i_need_place (.cons (.raw 2) .nil))) (.cons (.set 3 c0_best_marks) (.cons (.set 4 (.blt .mn (.cons (.var 3) .nil))) (.cons (.ret (.blt .tuple (.cons c1_best_marks .nil))) .nil)))))⟩
def f_greatest_off : Fd := ⟨2, 2, (.cons (.expr (.call i_need_vernier (.cons (.raw 0) (.cons (.raw 1) .nil)))) (.cons (.ret (.call i_cut (.cons (.blt .gcd (.cons (.var 0) (.cons (.var 1) .nil))) (.cons (.bin .Mult (.lit (.int 2)) (.var 1)) .nil)))) .nil))⟩
def f__law_cup : Fd := ⟨1, 2, (.cons (.set 1 (.blt .abs (.cons (.ix (.bin .Add (.blt .list (.cons (.var 0) .nil)) (.lst (.cons (.lit (.int 0)) .nil))) (.lit (.int 0))) .nil))) (.cons (.ret (.lst (.cons (.ite (.cmp .GtE (.var 1) (.bin .Pow (.lit (.int 10)) (.lit (.int 18)))) (.bin .FloorDiv (.var 1) (.lit (.int 127))) (.lit (.int 0))) (.cons (.bin .Add (.bin .Mod (.blt .int (.cons (.bin .Add (.bin .Mult (.var 1) (.lit (.int 373))) (.lit (.int 5407))) .nil)) (.lit (.int 1974129427))) (.lit (.int 229))) .nil)))) .nil))⟩
def f__law_roll : Fd := ⟨2, 4, (.cons (.ite (.cmp .Gt (.ix (.raw 0) (.lit (.int 0))) (.lit (.int 0))) (.cons (.set 3 (.bin .Mod (.blt .int (.cons (.ix (.raw 0) (.lit (.int 0))) .nil)) (.var 1))) (.cons (.put 0 (.lit (.int 0)) (.bin .FloorDiv (.ix (.raw 0) (.lit (.int 0))) (.var 1))) (.cons (.ret (.raw 3)) .nil))) .nil) (.cons (.put 0 (.lit (.int 1)) (.bin .Mod (.blt .int (.cons (.bin .Add (.bin .Mult (.ix (.raw 0) (.lit (.int 1))) (.lit (.int 29917))) (.lit (.int 9103))) .nil)) (.lit (.int 2147483543)))) (.cons (.set 2 (.bin .Mod (.blt .int (.cons (.bin .Mult (.ix (.raw 0) (.lit (.int 1))) (.bin .Add (.ix (.raw 0) (.lit (.int 1))) (.lit (.int 307)))) .nil)) (.lit (.int 2147483587)))) (.cons (.ret (.bin .Mod (.blt .int (.cons (.bin .FloorDiv (.var 2) (.lit (.int 887))) .nil)) (.var 1))) .nil))))⟩
def f__law_some : Fd := ⟨2, 2, (.cons (.ret (.ix (.raw 1) (.call i__law_roll (.cons (.raw 0) (.cons (.blt .len (.cons (.raw 1) .nil)) .nil))))) .nil)⟩
def f__law_sort : Fd := ⟨1, 1, (.cons (.ite (.or (.cmp .Is (.var 0) (.lit .none)) (.isi (.var 0) .bool)) (.cons (.ret (.ite (.cmp .Is (.var 0) (.lit .none)) (.lit (.int 0)) (.lit (.int 1)))) .nil) .nil) (.cons (.ite (.or (.isi (.var 0) .int) (.isi (.var 0) .str)) (.cons (.ret (.ite (.isi (.var 0) .int) (.lit (.int 2)) (.lit (.int 3)))) .nil) .nil) (.cons (.ret (.ite (.isi (.var 0) .tuple) (.lit (.int 4)) (.ite (.isi (.var 0) .list) (.lit (.int 5)) (.lit (.int 6))))) .nil)))⟩
def f__law_like : Fd := ⟨2, 5, (.cons (.set 2 (.call i__law_sort (.cons (.raw 1) .nil))) (.cons (.ite (.or (.cmp .NotEq (.call i__law_sort (.cons (.raw 0) .nil)) (.var 2)) (.cmp .Eq (.var 2) (.lit (.int 6)))) (.cons (.ret (.lit (.bool false))) .nil) .nil) (.cons (.ite (.cmp .In (.var 2) (.tup (.cons (.lit (.int 4)) (.cons (.lit (.int 5)) .nil)))) (.cons (.ret (.and (.cmp .Eq (.blt .len (.cons (.raw 0) .nil)) (.blt .len (.cons (.raw 1) .nil))) (.cmp .Eq c0__law_like (.lst .nil)))) .nil) .nil) (.cons (.ret (.cmp .Eq (.var 0) (.var 1))) .nil))))⟩
def f__law_divisor : Fd := ⟨2, 3, (.cons l0__law_divisor (.cons (.ret (.raw 0)) .nil))⟩
def f__law_low : Fd := ⟨2, 3, (.cons (.set 2 (.call i__law_divisor (.cons (.raw 0) (.cons (.raw 1) .nil)))) (.cons (.ret (.tup (.cons (.bin .FloorDiv (.var 0) (.var 2)) (.cons (.bin .FloorDiv (.var 1) (.var 2)) .nil)))) .nil))⟩
def f__law_distance : Fd := ⟨2, 3, (.cons (.set 2 (.bin .Mod (.blt .int (.cons (.var 0) .nil)) (.var 1))) (.cons (.ret (.blt .mn (.cons (.var 2) (.cons (.bin .Sub (.var 1) (.var 2)) .nil)))) .nil))⟩
def f__law_first : Fd := ⟨3, 5, (.cons (.set 3 c0__law_first) (.cons (.ret (.blt .mn (.cons (.var 3) .nil))) .nil))⟩
def f__law_hand_right : Fd := ⟨3, 15, (.cons (.par [11, 12, 13] (.cons (.tup (.cons (.tup (.cons (.var 1) (.cons (.var 2) .nil))) .nil)) (.cons (.call i__law_roll (.cons (.raw 0) (.cons (.call i__law_some (.cons (.raw 0) (.cons (.lst (.cons (.lit (.int 1)) (.cons (.lit (.int 4)) (.cons (.bin .Add (.lit (.int 1)) (.bin .FloorDiv (.var 2) (.lit (.int 4)))) .nil)))) .nil))) .nil))) (.cons (.call i__law_low (.cons (.raw 1) (.cons (.raw 2) .nil))) .nil)))) (.cons (.set 3 (.call i__law_first (.cons (.raw 1) (.cons (.raw 2) (.cons (.bin .Mult (.lit (.int 2)) (.var 12)) .nil))))) (.cons (.set 4 (.call i__law_some (.cons (.raw 0) (.cons (.lst (.cons (.var 3) (.cons (.bin .Add (.var 3) (.lit (.int 1))) (.cons (.bin .Add (.var 3) (.call i__law_roll (.cons (.raw 0) (.cons (.lit (.int 50)) .nil)))) .nil)))) .nil)))) (.cons (.set 5 (.lst (.cons (.call i_blurred_gap (.cons (.raw 11) (.cons (.tup (.cons (.var 12) .nil)) (.cons (.raw 4) .nil)))) (.cons (.call i_tell_blurred (.cons (.raw 11) (.cons (.tup (.cons (.var 12) .nil)) (.cons (.raw 4) .nil)))) (.cons (.call i_round_of (.cons (.raw 11) .nil)) (.cons (.call i_tell_below (.cons (.raw 11) (.cons (.ix (.raw 13) (.lit (.int 1))) .nil))) (.cons (.call i_tell_below (.cons (.raw 11) (.cons (.bin .Add (.ix (.raw 13) (.lit (.int 1))) (.lit (.int 1))) .nil))) .nil))))))) (.cons (.ite (.not (.call i__law_like (.cons (.raw 5) (.cons (.lst (.cons (.ite (.cmp .Lt (.var 3) (.var 4)) (.var 3) (.lit .none)) (.cons (.cmp .GtE (.var 3) (.var 4)) (.cons (.ix (.raw 13) (.lit (.int 1))) (.cons (.lit (.bool true)) (.cons (.lit (.bool false)) .nil)))))) .nil)))) (.cons (.ret (.lit (.bool false))) .nil) .nil) (.cons (.set 6 (.call i_marks_at (.cons (.raw 11) (.cons (.raw 3) .nil)))) (.cons (.set 7 (.ite (.cmp .LtE (.bin .Mult (.lit (.int 2)) (.ix (.raw 6) (.lit (.int 0)))) (.var 2)) (.ix (.raw 6) (.lit (.int 0))) (.bin .Sub (.ix (.raw 6) (.lit (.int 0))) (.var 2)))) (.cons (.set 8 (.bin .Mod (.blt .int (.cons (.bin .FloorDiv (.var 7) (.lit (.int 2))) .nil)) (.var 2))) (.cons (.ite (.or (.cmp .Gt (.blt .mx (.cons (.call i__law_distance (.cons (.raw 8) (.cons (.raw 2) .nil))) (.cons (.call i__law_distance (.cons (.bin .Sub (.ix (.raw 6) (.lit (.int 0))) (.var 8)) (.cons (.raw 2) .nil))) .nil))) (.var 12)) (.or (.not (.call i_fit_at (.cons (.raw 11) (.cons (.tup (.cons (.var 12) .nil)) (.cons (.tup (.cons (.var 8) .nil)) (.cons (.lit (.int 0)) .nil)))))) (.not (.call i_fit_at (.cons (.raw 11) (.cons (.tup (.cons (.var 12) .nil)) (.cons (.tup (.cons (.var 8) .nil)) (.cons (.raw 3) .nil)))))))) (.cons (.ret (.lit (.bool false))) .nil) .nil) (.cons (.ite (.cmp .NotEq (.call i_time_of (.cons (.raw 11) (.cons (.raw 6) .nil))) (.bin .Mod (.blt .int (.cons (.var 3) .nil)) (.ix (.raw 13) (.lit (.int 1))))) (.cons (.ret (.lit (.bool false))) .nil) .nil) (.cons (.set 9 (.call i__law_distance (.cons (.bin .Mult (.var 1) (.var 3)) (.cons (.raw 2) .nil)))) (.cons l0__law_hand_right (.cons (.ret (.lit (.bool true))) .nil)))))))))))))⟩
def f__law_vernier_right : Fd := ⟨3, 21, (.cons (.par [14, 15] (.cons (.call i__law_low (.cons (.raw 1) (.cons (.raw 2) .nil))) (.cons (.tup (.cons (.lit (.int 0)) (.cons (.lit (.int 1)) .nil))) .nil))) (.cons (.set 3 c0__law_vernier_right) (.cons l0__law_vernier_right (.cons (.set 5 (.call i__law_roll (.cons (.raw 0) (.cons (.blt .len (.cons (.raw 3) .nil)) .nil)))) (.cons (.set 6 (.ite (.cmp .Lt (.bin .Add (.var 5) (.lit (.int 1))) (.blt .len (.cons (.raw 3) .nil))) (.ix (.ix (.raw 3) (.bin .Add (.var 5) (.lit (.int 1)))) (.lit (.int 1))) (.blt .mn (.cons (.ix (.raw 14) (.lit (.int 1))) (.cons (.var 2) .nil))))) (.cons (.set 7 (.call i__law_distance (.cons (.bin .Mult (.var 1) (.ix (.ix (.raw 3) (.var 5)) (.lit (.int 1)))) (.cons (.raw 2) .nil)))) (.cons l1__law_vernier_right (.cons (.set 9 (.bin .FloorDiv (.var 2) (.ix (.raw 14) (.lit (.int 1))))) (.cons (.set 10 (.lst (.cons (.call i_reads_all (.cons (.raw 1) (.cons (.raw 2) .nil))) (.cons (.call i_parts_read (.cons (.raw 1) (.cons (.raw 2) .nil))) (.cons (.call i_read_at (.cons (.raw 1) (.cons (.raw 2) (.cons (.lit (.int 0)) .nil)))) (.cons (.call i_greatest_off (.cons (.raw 1) (.cons (.raw 2) .nil))) (.cons (.blt .len (.cons (.call i_marks_reading (.cons (.raw 1) (.cons (.raw 2) (.cons (.lit (.int 0)) .nil)))) .nil)) .nil))))))) (.cons (.set 11 (.lst (.cons (.cmp .Eq (.var 9) (.lit (.int 1))) (.cons (.ix (.raw 14) (.lit (.int 1))) (.cons (.lit (.int 0)) (.cons (.call i__law_low (.cons (.raw 9) (.cons (.bin .Mult (.lit (.int 2)) (.var 2)) .nil))) (.cons (.var 9) .nil))))))) (.cons (.ite (.not (.call i__law_like (.cons (.raw 10) (.cons (.raw 11) .nil)))) (.cons (.ret (.lit (.bool false))) .nil) .nil) (.cons (.ite (.cmp .Lt (.ix (.raw 14) (.lit (.int 1))) (.lit (.int 2))) (.cons (.ret (.lit (.bool true))) .nil) .nil) (.cons (.par [17, 18] (.cons (.call i_lower_near (.cons (.raw 14) (.cons (.bin .Sub (.ix (.raw 14) (.lit (.int 1))) (.lit (.int 1))) .nil))) (.cons (.call i_upper_near (.cons (.raw 14) (.cons (.bin .Sub (.ix (.raw 14) (.lit (.int 1))) (.lit (.int 1))) .nil))) .nil))) (.cons (.par [19, 20] (.cons (.call i_read_at (.cons (.raw 1) (.cons (.raw 2) (.cons (.bin .Mod (.blt .int (.cons (.ix (.raw 18) (.lit (.int 1))) .nil)) (.var 2)) .nil)))) (.cons (.call i_read_at (.cons (.raw 1) (.cons (.raw 2) (.cons (.bin .Mod (.blt .int (.cons (.ix (.raw 17) (.lit (.int 1))) .nil)) (.var 2)) .nil)))) .nil))) (.cons (.ite (.or (.cmp .NotEq (.blt .sorted (.cons (.lst (.cons (.var 19) (.cons (.var 20) .nil))) .nil)) (.blt .sorted (.cons (.lst (.cons (.var 9) (.cons (.bin .Sub (.var 2) (.var 9)) .nil))) .nil))) (.cmp .NotEq (.bin .Add (.ix (.raw 17) (.lit (.int 1))) (.ix (.raw 18) (.lit (.int 1)))) (.ix (.raw 14) (.lit (.int 1))))) (.cons (.ret (.lit (.bool false))) .nil) .nil) (.cons (.set 12 (.bin .Mult (.var 9) (.call i__law_roll (.cons (.raw 0) (.cons (.ix (.raw 14) (.lit (.int 1))) .nil))))) (.cons (.set 13 (.call i_marks_reading (.cons (.raw 1) (.cons (.raw 2) (.cons (.raw 12) .nil))))) (.cons (.ret (.and (.cmp .Eq (.blt .len (.cons (.raw 13) .nil)) (.var 9)) (.and (.cmp .Eq c1__law_vernier_right (.lst .nil)) (.cmp .Eq (.call i_best_marks (.cons (.raw 1) (.cons (.raw 2) (.cons (.call i__law_low (.cons (.raw 12) (.cons (.raw 2) .nil))) .nil)))) (.var 13))))) .nil))))))))))))))))))⟩
def f__law_two_right : Fd := ⟨1, 8, (.cons (.par [4, 5] (.cons (.bin .Add (.lit (.int 1)) (.call i__law_roll (.cons (.raw 0) (.cons (.lit (.int 30)) .nil)))) (.cons (.bin .Add (.lit (.int 1)) (.call i__law_roll (.cons (.raw 0) (.cons (.lit (.int 30)) .nil)))) .nil))) (.cons (.unp (.cons (.v 4) (.cons (.v 5) .nil)) (.call i__law_low (.cons (.raw 4) (.cons (.raw 5) .nil)))) (.cons (.set 1 (.bin .Add (.lit (.int 1)) (.call i__law_roll (.cons (.raw 0) (.cons (.lit (.int 40)) .nil))))) (.cons (.par [6, 7] (.cons (.call i__law_low (.cons (.call i__law_roll (.cons (.raw 0) (.cons (.raw 1) .nil))) (.cons (.raw 1) .nil))) (.cons (.call i__law_low (.cons (.call i__law_roll (.cons (.raw 0) (.cons (.raw 1) .nil))) (.cons (.raw 1) .nil))) .nil))) (.cons (.set 2 (.bin .Sub (.bin .Mult (.bin .Mult (.var 5) (.ix (.raw 6) (.lit (.int 0)))) (.bin .FloorDiv (.var 1) (.ix (.raw 6) (.lit (.int 1))))) (.bin .Mult (.bin .Mult (.var 4) (.ix (.raw 7) (.lit (.int 0)))) (.bin .FloorDiv (.var 1) (.ix (.raw 7) (.lit (.int 1))))))) (.cons (.set 3 (.call i__law_low (.cons (.call i__law_distance (.cons (.raw 2) (.cons (.raw 1) .nil))) (.cons (.bin .Mult (.var 1) (.bin .Add (.var 4) (.var 5))) .nil)))) (.cons (.ret (.call i__law_like (.cons (.call i_least_error (.cons (.raw 4) (.cons (.raw 5) (.cons (.raw 6) (.cons (.raw 7) .nil))))) (.cons (.raw 3) .nil)))) .nil)))))))⟩
def f__law_great_right : Fd := ⟨1, 8, (.cons (.par [3, 4] (.cons (.bin .Add (.lit (.int 1)) (.call i__law_roll (.cons (.raw 0) (.cons (.lit (.int 3)) .nil)))) (.cons (.bin .Add (.lit (.int 3)) (.call i__law_roll (.cons (.raw 0) (.cons (.lit (.int 5)) .nil)))) .nil))) (.cons (.set 1 (.call i_made_of (.cons (.bin .Add (.bin .Add (.tup (.cons (.lit (.int 0)) .nil)) (.bin .Mult (.tup (.cons (.var 3) .nil)) (.var 4))) (.tup (.cons (.lit (.int 2)) .nil))) .nil))) (.cons (.ite (.cmp .Gt (.ix (.raw 1) (.lit (.int 1))) (.lit (.int 1000))) (.cons (.ret (.lit (.bool true))) .nil) .nil) (.cons (.set 2 (.call i_convergents_of (.cons (.raw 1) .nil))) (.cons l0__law_great_right (.cons (.ret (.and (.cmp .Eq (.call i_nearest (.cons (.raw 1) (.cons (.ix (.ix (.raw 2) (.neg (.lit (.int 2)))) (.lit (.int 1))) .nil))) (.ix (.raw 2) (.neg (.lit (.int 2))))) (.cmp .Eq (.call i_round_of (.cons (.tup (.cons (.tup (.cons (.ix (.raw 1) (.lit (.int 0))) (.cons (.ix (.raw 1) (.lit (.int 1))) .nil))) .nil)) .nil)) (.ix (.raw 1) (.lit (.int 1)))))) .nil))))))⟩
def f_law : Fd := ⟨1, 6, .cons (.set 1 (.call 68 (.cons (.raw 0) .nil))) b_law⟩
def T0 : List Fd := [f_is_whole, f_need_whole, f_is_tuple_of, f_is_ascending, f_is_ratio, f_cut, f_sum_two, f_side, f_parts_of, f_by_parts]
def T1 : List Fd := [f_fit_kinds, f_need_kinds, f_are_pairs, f_fits_train, f_need_train, f_is_from, f_need_from, f_ratio_in, f_train_ratio, f_made_of]
def T2 : List Fd := [f_convergents_of, f_parts_for, f_met, f_is_hand, f_are_hands, f_need_hands, f_are_marks, f_need_marks, f_marks_of, f_round_for]
def T3 : List Fd := [f_cycle_for, f_common_for, f_marks_at, f_round_of, f_tell_below, f_time_of, f_need_errors, f_need_time, f_distance, f_fits]
def T4 : List Fd := [f_hides, f_first_gap, f_fit_at, f_blurred_gap, f_tell_blurred, f_is_part, f_need_found, f_rest_of, f_times, f_way_to]
def T5 : List Fd := [f_settled, f_least_error, f_need_both, f_neighbors_in, f_gap_of, f_lower_near, f_upper_near, f_nearest, f_need_vernier, f_need_place]
def T6 : List Fd := [f_rest_at, f_marks_reading, f_reads_all, f_parts_read, f_read_at, f_off_at, f_best_marks, f_greatest_off, f__law_cup, f__law_roll]
def T7 : List Fd := [f__law_some, f__law_sort, f__law_like, f__law_divisor, f__law_low, f__law_distance, f__law_first, f__law_hand_right, f__law_vernier_right, f__law_two_right]
def T8 : List Fd := [f__law_great_right, f_law]
def T : List Fd := T0 ++ T1 ++ T2 ++ T3 ++ T4 ++ T5 ++ T6 ++ T7 ++ T8
theorem s_is_whole (k : Nat) (ws : List W) (st : Store) : fns T (k + 1) i_is_whole ws st = runF (fns T k) f_is_whole ws st := rfl
theorem s_need_whole (k : Nat) (ws : List W) (st : Store) : fns T (k + 1) i_need_whole ws st = runF (fns T k) f_need_whole ws st := rfl
theorem s_is_tuple_of (k : Nat) (ws : List W) (st : Store) : fns T (k + 1) i_is_tuple_of ws st = runF (fns T k) f_is_tuple_of ws st := rfl
theorem s_is_ascending (k : Nat) (ws : List W) (st : Store) : fns T (k + 1) i_is_ascending ws st = runF (fns T k) f_is_ascending ws st := rfl
theorem s_is_ratio (k : Nat) (ws : List W) (st : Store) : fns T (k + 1) i_is_ratio ws st = runF (fns T k) f_is_ratio ws st := rfl
theorem s_cut (k : Nat) (ws : List W) (st : Store) : fns T (k + 1) i_cut ws st = runF (fns T k) f_cut ws st := rfl
theorem s_sum_two (k : Nat) (ws : List W) (st : Store) : fns T (k + 1) i_sum_two ws st = runF (fns T k) f_sum_two ws st := rfl
theorem s_side (k : Nat) (ws : List W) (st : Store) : fns T (k + 1) i_side ws st = runF (fns T k) f_side ws st := rfl
theorem s_parts_of (k : Nat) (ws : List W) (st : Store) : fns T (k + 1) i_parts_of ws st = runF (fns T k) f_parts_of ws st := rfl
theorem s_by_parts (k : Nat) (ws : List W) (st : Store) : fns T (k + 1) i_by_parts ws st = runF (fns T k) f_by_parts ws st := rfl
theorem s_fit_kinds (k : Nat) (ws : List W) (st : Store) : fns T (k + 1) i_fit_kinds ws st = runF (fns T k) f_fit_kinds ws st := rfl
theorem s_need_kinds (k : Nat) (ws : List W) (st : Store) : fns T (k + 1) i_need_kinds ws st = runF (fns T k) f_need_kinds ws st := rfl
theorem s_are_pairs (k : Nat) (ws : List W) (st : Store) : fns T (k + 1) i_are_pairs ws st = runF (fns T k) f_are_pairs ws st := rfl
theorem s_fits_train (k : Nat) (ws : List W) (st : Store) : fns T (k + 1) i_fits_train ws st = runF (fns T k) f_fits_train ws st := rfl
theorem s_need_train (k : Nat) (ws : List W) (st : Store) : fns T (k + 1) i_need_train ws st = runF (fns T k) f_need_train ws st := rfl
theorem s_is_from (k : Nat) (ws : List W) (st : Store) : fns T (k + 1) i_is_from ws st = runF (fns T k) f_is_from ws st := rfl
theorem s_need_from (k : Nat) (ws : List W) (st : Store) : fns T (k + 1) i_need_from ws st = runF (fns T k) f_need_from ws st := rfl
theorem s_ratio_in (k : Nat) (ws : List W) (st : Store) : fns T (k + 1) i_ratio_in ws st = runF (fns T k) f_ratio_in ws st := rfl
theorem s_train_ratio (k : Nat) (ws : List W) (st : Store) : fns T (k + 1) i_train_ratio ws st = runF (fns T k) f_train_ratio ws st := rfl
theorem s_made_of (k : Nat) (ws : List W) (st : Store) : fns T (k + 1) i_made_of ws st = runF (fns T k) f_made_of ws st := rfl
theorem s_convergents_of (k : Nat) (ws : List W) (st : Store) : fns T (k + 1) i_convergents_of ws st = runF (fns T k) f_convergents_of ws st := rfl
theorem s_parts_for (k : Nat) (ws : List W) (st : Store) : fns T (k + 1) i_parts_for ws st = runF (fns T k) f_parts_for ws st := rfl
theorem s_met (k : Nat) (ws : List W) (st : Store) : fns T (k + 1) i_met ws st = runF (fns T k) f_met ws st := rfl
theorem s_is_hand (k : Nat) (ws : List W) (st : Store) : fns T (k + 1) i_is_hand ws st = runF (fns T k) f_is_hand ws st := rfl
theorem s_are_hands (k : Nat) (ws : List W) (st : Store) : fns T (k + 1) i_are_hands ws st = runF (fns T k) f_are_hands ws st := rfl
theorem s_need_hands (k : Nat) (ws : List W) (st : Store) : fns T (k + 1) i_need_hands ws st = runF (fns T k) f_need_hands ws st := rfl
theorem s_are_marks (k : Nat) (ws : List W) (st : Store) : fns T (k + 1) i_are_marks ws st = runF (fns T k) f_are_marks ws st := rfl
theorem s_need_marks (k : Nat) (ws : List W) (st : Store) : fns T (k + 1) i_need_marks ws st = runF (fns T k) f_need_marks ws st := rfl
theorem s_marks_of (k : Nat) (ws : List W) (st : Store) : fns T (k + 1) i_marks_of ws st = runF (fns T k) f_marks_of ws st := rfl
theorem s_round_for (k : Nat) (ws : List W) (st : Store) : fns T (k + 1) i_round_for ws st = runF (fns T k) f_round_for ws st := rfl
theorem s_cycle_for (k : Nat) (ws : List W) (st : Store) : fns T (k + 1) i_cycle_for ws st = runF (fns T k) f_cycle_for ws st := rfl
theorem s_common_for (k : Nat) (ws : List W) (st : Store) : fns T (k + 1) i_common_for ws st = runF (fns T k) f_common_for ws st := rfl
theorem s_marks_at (k : Nat) (ws : List W) (st : Store) : fns T (k + 1) i_marks_at ws st = runF (fns T k) f_marks_at ws st := rfl
theorem s_round_of (k : Nat) (ws : List W) (st : Store) : fns T (k + 1) i_round_of ws st = runF (fns T k) f_round_of ws st := rfl
theorem s_tell_below (k : Nat) (ws : List W) (st : Store) : fns T (k + 1) i_tell_below ws st = runF (fns T k) f_tell_below ws st := rfl
theorem s_time_of (k : Nat) (ws : List W) (st : Store) : fns T (k + 1) i_time_of ws st = runF (fns T k) f_time_of ws st := rfl
theorem s_need_errors (k : Nat) (ws : List W) (st : Store) : fns T (k + 1) i_need_errors ws st = runF (fns T k) f_need_errors ws st := rfl
theorem s_need_time (k : Nat) (ws : List W) (st : Store) : fns T (k + 1) i_need_time ws st = runF (fns T k) f_need_time ws st := rfl
theorem s_distance (k : Nat) (ws : List W) (st : Store) : fns T (k + 1) i_distance ws st = runF (fns T k) f_distance ws st := rfl
theorem s_fits (k : Nat) (ws : List W) (st : Store) : fns T (k + 1) i_fits ws st = runF (fns T k) f_fits ws st := rfl
theorem s_hides (k : Nat) (ws : List W) (st : Store) : fns T (k + 1) i_hides ws st = runF (fns T k) f_hides ws st := rfl
theorem s_first_gap (k : Nat) (ws : List W) (st : Store) : fns T (k + 1) i_first_gap ws st = runF (fns T k) f_first_gap ws st := rfl
theorem s_fit_at (k : Nat) (ws : List W) (st : Store) : fns T (k + 1) i_fit_at ws st = runF (fns T k) f_fit_at ws st := rfl
theorem s_blurred_gap (k : Nat) (ws : List W) (st : Store) : fns T (k + 1) i_blurred_gap ws st = runF (fns T k) f_blurred_gap ws st := rfl
theorem s_tell_blurred (k : Nat) (ws : List W) (st : Store) : fns T (k + 1) i_tell_blurred ws st = runF (fns T k) f_tell_blurred ws st := rfl
theorem s_is_part (k : Nat) (ws : List W) (st : Store) : fns T (k + 1) i_is_part ws st = runF (fns T k) f_is_part ws st := rfl
theorem s_need_found (k : Nat) (ws : List W) (st : Store) : fns T (k + 1) i_need_found ws st = runF (fns T k) f_need_found ws st := rfl
theorem s_rest_of (k : Nat) (ws : List W) (st : Store) : fns T (k + 1) i_rest_of ws st = runF (fns T k) f_rest_of ws st := rfl
theorem s_times (k : Nat) (ws : List W) (st : Store) : fns T (k + 1) i_times ws st = runF (fns T k) f_times ws st := rfl
theorem s_way_to (k : Nat) (ws : List W) (st : Store) : fns T (k + 1) i_way_to ws st = runF (fns T k) f_way_to ws st := rfl
theorem s_settled (k : Nat) (ws : List W) (st : Store) : fns T (k + 1) i_settled ws st = runF (fns T k) f_settled ws st := rfl
theorem s_least_error (k : Nat) (ws : List W) (st : Store) : fns T (k + 1) i_least_error ws st = runF (fns T k) f_least_error ws st := rfl
theorem s_need_both (k : Nat) (ws : List W) (st : Store) : fns T (k + 1) i_need_both ws st = runF (fns T k) f_need_both ws st := rfl
theorem s_neighbors_in (k : Nat) (ws : List W) (st : Store) : fns T (k + 1) i_neighbors_in ws st = runF (fns T k) f_neighbors_in ws st := rfl
theorem s_gap_of (k : Nat) (ws : List W) (st : Store) : fns T (k + 1) i_gap_of ws st = runF (fns T k) f_gap_of ws st := rfl
theorem s_lower_near (k : Nat) (ws : List W) (st : Store) : fns T (k + 1) i_lower_near ws st = runF (fns T k) f_lower_near ws st := rfl
theorem s_upper_near (k : Nat) (ws : List W) (st : Store) : fns T (k + 1) i_upper_near ws st = runF (fns T k) f_upper_near ws st := rfl
theorem s_nearest (k : Nat) (ws : List W) (st : Store) : fns T (k + 1) i_nearest ws st = runF (fns T k) f_nearest ws st := rfl
theorem s_need_vernier (k : Nat) (ws : List W) (st : Store) : fns T (k + 1) i_need_vernier ws st = runF (fns T k) f_need_vernier ws st := rfl
theorem s_need_place (k : Nat) (ws : List W) (st : Store) : fns T (k + 1) i_need_place ws st = runF (fns T k) f_need_place ws st := rfl
theorem s_rest_at (k : Nat) (ws : List W) (st : Store) : fns T (k + 1) i_rest_at ws st = runF (fns T k) f_rest_at ws st := rfl
theorem s_marks_reading (k : Nat) (ws : List W) (st : Store) : fns T (k + 1) i_marks_reading ws st = runF (fns T k) f_marks_reading ws st := rfl
theorem s_reads_all (k : Nat) (ws : List W) (st : Store) : fns T (k + 1) i_reads_all ws st = runF (fns T k) f_reads_all ws st := rfl
theorem s_parts_read (k : Nat) (ws : List W) (st : Store) : fns T (k + 1) i_parts_read ws st = runF (fns T k) f_parts_read ws st := rfl
theorem s_read_at (k : Nat) (ws : List W) (st : Store) : fns T (k + 1) i_read_at ws st = runF (fns T k) f_read_at ws st := rfl
theorem s_off_at (k : Nat) (ws : List W) (st : Store) : fns T (k + 1) i_off_at ws st = runF (fns T k) f_off_at ws st := rfl
theorem s_best_marks (k : Nat) (ws : List W) (st : Store) : fns T (k + 1) i_best_marks ws st = runF (fns T k) f_best_marks ws st := rfl
theorem s_greatest_off (k : Nat) (ws : List W) (st : Store) : fns T (k + 1) i_greatest_off ws st = runF (fns T k) f_greatest_off ws st := rfl
theorem s__law_cup (k : Nat) (ws : List W) (st : Store) : fns T (k + 1) i__law_cup ws st = runF (fns T k) f__law_cup ws st := rfl
theorem s__law_roll (k : Nat) (ws : List W) (st : Store) : fns T (k + 1) i__law_roll ws st = runF (fns T k) f__law_roll ws st := rfl
theorem s__law_some (k : Nat) (ws : List W) (st : Store) : fns T (k + 1) i__law_some ws st = runF (fns T k) f__law_some ws st := rfl
theorem s__law_sort (k : Nat) (ws : List W) (st : Store) : fns T (k + 1) i__law_sort ws st = runF (fns T k) f__law_sort ws st := rfl
theorem s__law_like (k : Nat) (ws : List W) (st : Store) : fns T (k + 1) i__law_like ws st = runF (fns T k) f__law_like ws st := rfl
theorem s__law_divisor (k : Nat) (ws : List W) (st : Store) : fns T (k + 1) i__law_divisor ws st = runF (fns T k) f__law_divisor ws st := rfl
theorem s__law_low (k : Nat) (ws : List W) (st : Store) : fns T (k + 1) i__law_low ws st = runF (fns T k) f__law_low ws st := rfl
theorem s__law_distance (k : Nat) (ws : List W) (st : Store) : fns T (k + 1) i__law_distance ws st = runF (fns T k) f__law_distance ws st := rfl
theorem s__law_first (k : Nat) (ws : List W) (st : Store) : fns T (k + 1) i__law_first ws st = runF (fns T k) f__law_first ws st := rfl
theorem s__law_hand_right (k : Nat) (ws : List W) (st : Store) : fns T (k + 1) i__law_hand_right ws st = runF (fns T k) f__law_hand_right ws st := rfl
theorem s__law_vernier_right (k : Nat) (ws : List W) (st : Store) : fns T (k + 1) i__law_vernier_right ws st = runF (fns T k) f__law_vernier_right ws st := rfl
theorem s__law_two_right (k : Nat) (ws : List W) (st : Store) : fns T (k + 1) i__law_two_right ws st = runF (fns T k) f__law_two_right ws st := rfl
theorem s__law_great_right (k : Nat) (ws : List W) (st : Store) : fns T (k + 1) i__law_great_right ws st = runF (fns T k) f__law_great_right ws st := rfl
theorem s_law (k : Nat) (ws : List W) (st : Store) : fns T (k + 1) i_law ws st = runF (fns T k) f_law ws st := rfl
end WM.K82
namespace WM.K82
open PySem PySem.Spec PyProof.Rows L2
def top (i : Nat) : Stmt := PySem.Challenge.pw_wheelmark_k82_whole_convergents_as_blurr.main.body.getD i (.Pass ⟨0, 0, 0, 0⟩)
def gl0 : List (Str × GV) := [("is_whole", .fn 0 3), ("need_whole", .fn 1 3), ("is_tuple_of", .fn 2 3), ("is_ascending", .fn 3 1), ("is_ratio", .fn 4 1), ("cut", .fn 5 2), ("sum_two", .fn 6 2), ("side", .fn 7 2), ("parts_of", .fn 8 2), ("by_parts", .fn 9 1), ("fit_kinds", .fn 10 1), ("need_kinds", .fn 11 1), ("are_pairs", .fn 12 1), ("fits_train", .fn 13 2), ("need_train", .fn 14 2)]
def gl1 : List (Str × GV) := [("is_from", .fn 15 2), ("need_from", .fn 16 2), ("ratio_in", .fn 17 1), ("train_ratio", .fn 18 2), ("made_of", .fn 19 1), ("convergents_of", .fn 20 1), ("parts_for", .fn 21 2), ("met", .fn 22 2), ("is_hand", .fn 23 1), ("are_hands", .fn 24 1), ("need_hands", .fn 25 1), ("are_marks", .fn 26 2), ("need_marks", .fn 27 2), ("marks_of", .fn 28 2), ("round_for", .fn 29 1)]
def gl2 : List (Str × GV) := [("cycle_for", .fn 30 2), ("common_for", .fn 31 2), ("marks_at", .fn 32 2), ("round_of", .fn 33 1), ("tell_below", .fn 34 2), ("time_of", .fn 35 2), ("need_errors", .fn 36 2), ("need_time", .fn 37 1), ("distance", .fn 38 3), ("fits", .fn 39 4), ("hides", .fn 40 3), ("first_gap", .fn 41 3), ("fit_at", .fn 42 4), ("blurred_gap", .fn 43 3), ("tell_blurred", .fn 44 3)]
def gl3 : List (Str × GV) := [("is_part", .fn 45 2), ("need_found", .fn 46 4), ("rest_of", .fn 47 1), ("times", .fn 48 2), ("way_to", .fn 49 2), ("settled", .fn 50 4), ("least_error", .fn 51 4), ("need_both", .fn 52 2), ("neighbors_in", .fn 53 2), ("gap_of", .fn 54 2), ("lower_near", .fn 55 2), ("upper_near", .fn 56 2), ("nearest", .fn 57 2), ("need_vernier", .fn 58 2), ("need_place", .fn 59 1)]
def gl4 : List (Str × GV) := [("rest_at", .fn 60 4), ("marks_reading", .fn 61 3), ("reads_all", .fn 62 2), ("parts_read", .fn 63 2), ("read_at", .fn 64 3), ("off_at", .fn 65 4), ("best_marks", .fn 66 3), ("greatest_off", .fn 67 2), ("_law_cup", .fn 68 1), ("_law_roll", .fn 69 2), ("_law_some", .fn 70 2), ("_law_sort", .fn 71 1), ("_law_like", .fn 72 2), ("_law_divisor", .fn 73 2), ("_law_low", .fn 74 2)]
def gl5 : List (Str × GV) := [("_law_distance", .fn 75 2), ("_law_first", .fn 76 3), ("_law_hand_right", .fn 77 3), ("_law_vernier_right", .fn 78 3), ("_law_two_right", .fn 79 1), ("_law_great_right", .fn 80 1), ("law", .fn 81 1), ("GREAT_ratios", .con (.int 1000000000000000000000000000000000000000000000000000000000000)), ("KINDS", .con (.int 16)), ("TEETH", .con (.int 1000)), ("PAIRS", .con (.int 6)), ("GREAT_trains", .con (.int 1000000000000000000)), ("LONG", .con (.int 60)), ("PART", .con (.int 1000)), ("HANDS", .con (.int 6))]
def gl6 : List (Str × GV) := [("DIAL", .con (.int 1000)), ("NUMBER_manyhands", .con (.int 1000000)), ("TIME_manyhands", .con (.int 1000000000000000000)), ("ERROR", .con (.int 500)), ("NUMBER_blurredhands", .con (.int 5000)), ("TIME_blurredhands", .con (.int 1000000)), ("ROUNDS", .con (.int 1000)), ("BOTTOM_nearesttimes", .con (.int 1000000)), ("SPACES", .con (.int 1000000)), ("PARTS", .con (.int 1000)), ("BOTTOM_verniers", .con (.int 1000000)), ("abs", .bi .abs), ("all", .bi .all), ("bool", .ty .bool), ("enumerate", .enum)]
def gl7 : List (Str × GV) := [("gcd", .bi .gcd), ("int", .bi .int), ("isinstance", .isi), ("len", .bi .len), ("list", .bi .list), ("max", .bi .mx), ("min", .bi .mn), ("range", .rng), ("sorted", .bi .sorted), ("str", .ty .str), ("tuple", .bi .tuple), ("zip", .zip)]
def gl : List (Str × GV) := gl0 ++ gl1 ++ gl2 ++ gl3 ++ gl4 ++ gl5 ++ gl6 ++ gl7
def di (x : Str) (i : Nat) (ps N cells : List Str) : DI := ⟨x, ps, defArgs (top i), defScope (top i), defBody (top i), N, cells⟩
def d_is_whole : DI := di "is_whole" 13 ["value", "low", "high"] ["value", "low", "high"] []
def d_need_whole : DI := di "need_whole" 14 ["value", "low", "high"] ["value", "low", "high"] []
def d_is_tuple_of : DI := di "is_tuple_of" 15 ["value", "low", "high"] ["value", "low", "high"] []
def d_is_ascending : DI := di "is_ascending" 16 ["values"] ["values", "one", "other"] []
def d_is_ratio : DI := di "is_ratio" 19 ["value"] ["value"] []
def d_cut : DI := di "cut" 20 ["top", "bottom"] ["top", "bottom", "shared"] []
def d_sum_two : DI := di "sum_two" 21 ["one", "other"] ["one", "other"] []
def d_side : DI := di "side" 22 ["one", "other"] ["one", "other"] []
def d_parts_of : DI := di "parts_of" 24 ["top", "bottom"] ["top", "bottom", "found"] ["found"]
def d_by_parts : DI := di "by_parts" 25 ["parts"] ["parts", "part", "top", "bottom"] []
def d_fit_kinds : DI := di "fit_kinds" 31 ["value"] ["value", "teeth"] []
def d_need_kinds : DI := di "need_kinds" 32 ["value"] ["value"] []
def d_are_pairs : DI := di "are_pairs" 33 ["value"] ["value", "one", "other", "pair"] []
def d_fits_train : DI := di "fits_train" 34 ["kinds", "value"] ["kinds", "value", "one", "other"] []
def d_need_train : DI := di "need_train" 35 ["kinds", "value"] ["kinds", "value"] []
def d_is_from : DI := di "is_from" 36 ["value", "least"] ["value", "least"] []
def d_need_from : DI := di "need_from" 37 ["value", "least"] ["value", "least"] []
def d_ratio_in : DI := di "ratio_in" 38 ["train"] ["train", "found", "driver", "driven"] []
def d_train_ratio : DI := di "train_ratio" 39 ["kinds", "train"] ["kinds", "train"] []
def d_made_of : DI := di "made_of" 43 ["parts"] ["parts", "part"] []
def d_convergents_of : DI := di "convergents_of" 44 ["x"] ["x", "parts", "many"] []
def d_parts_for : DI := di "parts_for" 46 ["one", "other"] ["one", "other", "first", "second", "times", "at"] []
def d_met : DI := di "met" 47 ["one", "other"] ["one", "other", "every", "shared", "times", "rest"] []
def d_is_hand : DI := di "is_hand" 53 ["value"] ["value"] []
def d_are_hands : DI := di "are_hands" 54 ["value"] ["value", "hand"] []
def d_need_hands : DI := di "need_hands" 55 ["value"] ["value"] []
def d_are_marks : DI := di "are_marks" 56 ["hands", "value"] ["hands", "value", "many", "mark", "a", "n"] []
def d_need_marks : DI := di "need_marks" 57 ["hands", "marks"] ["hands", "marks"] []
def d_marks_of : DI := di "marks_of" 58 ["hands", "time"] ["hands", "time", "a", "n"] []
def d_round_for : DI := di "round_for" 59 ["hands"] ["hands", "found", "a", "n", "every"] []
def d_cycle_for : DI := di "cycle_for" 60 ["hand", "mark"] ["hand", "mark", "a", "n", "shared", "times", "rest"] []
def d_common_for : DI := di "common_for" 61 ["hands", "marks"] ["hands", "marks", "found", "hand", "mark", "cycle"] []
def d_marks_at : DI := di "marks_at" 62 ["hands", "time"] ["hands", "time"] []
def d_round_of : DI := di "round_of" 63 ["hands"] ["hands"] []
def d_tell_below : DI := di "tell_below" 64 ["hands", "number"] ["hands", "number"] []
def d_time_of : DI := di "time_of" 65 ["hands", "marks"] ["hands", "marks", "found"] []
def d_need_errors : DI := di "need_errors" 70 ["hands", "errors"] ["hands", "errors", "many", "error"] []
def d_need_time : DI := di "need_time" 71 ["value"] ["value"] []
def d_distance : DI := di "distance" 72 ["n", "one", "other"] ["n", "one", "other", "way"] []
def d_fits : DI := di "fits" 73 ["hands", "errors", "marks", "time"] ["hands", "errors", "marks", "time", "error", "mark", "a", "n"] []
def d_hides : DI := di "hides" 74 ["hands", "errors", "gap"] ["hands", "errors", "gap", "error", "a", "n"] []
def d_first_gap : DI := di "first_gap" 75 ["hands", "errors", "number"] ["hands", "errors", "number", "gap"] []
def d_fit_at : DI := di "fit_at" 76 ["hands", "errors", "marks", "time"] ["hands", "errors", "marks", "time"] []
def d_blurred_gap : DI := di "blurred_gap" 77 ["hands", "errors", "number"] ["hands", "errors", "number"] []
def d_tell_blurred : DI := di "tell_blurred" 78 ["hands", "errors", "number"] ["hands", "errors", "number"] []
def d_is_part : DI := di "is_part" 82 ["value", "bottom"] ["value", "bottom"] []
def d_need_found : DI := di "need_found" 83 ["a", "b", "x", "y"] ["a", "b", "x", "y"] []
def d_rest_of : DI := di "rest_of" 84 ["pair"] ["pair"] []
def d_times : DI := di "times" 85 ["pair", "number"] ["pair", "number"] []
def d_way_to : DI := di "way_to" 86 ["one", "other"] ["one", "other", "ahead"] []
def d_settled : DI := di "settled" 87 ["a", "b", "x", "y"] ["a", "b", "x", "y", "way", "wrong", "whole", "shared", "first", "second", "one", "other"] []
def d_least_error : DI := di "least_error" 88 ["a", "b", "x", "y"] ["a", "b", "x", "y"] []
def d_need_both : DI := di "need_both" 90 ["x", "bound"] ["x", "bound"] []
def d_neighbors_in : DI := di "neighbors_in" 91 ["x", "bound"] ["x", "bound", "times", "last", "one", "other", "top", "bottom", "whole"] []
def d_gap_of : DI := di "gap_of" 92 ["one", "other"] ["one", "other"] []
def d_lower_near : DI := di "lower_near" 93 ["x", "bound"] ["x", "bound"] []
def d_upper_near : DI := di "upper_near" 94 ["x", "bound"] ["x", "bound"] []
def d_nearest : DI := di "nearest" 95 ["x", "bound"] ["x", "bound", "gap", "low", "high"] []
def d_need_vernier : DI := di "need_vernier" 100 ["w", "n"] ["w", "n"] []
def d_need_place : DI := di "need_place" 101 ["x"] ["x"] []
def d_rest_at : DI := di "rest_at" 102 ["w", "n", "x", "mark"] ["w", "n", "x", "mark", "whole", "way"] []
def d_marks_reading : DI := di "marks_reading" 103 ["w", "n", "k"] ["w", "n", "k", "mark"] []
def d_reads_all : DI := di "reads_all" 104 ["w", "n"] ["w", "n"] []
def d_parts_read : DI := di "parts_read" 105 ["w", "n"] ["w", "n"] []
def d_read_at : DI := di "read_at" 106 ["w", "n", "j"] ["w", "n", "j"] []
def d_off_at : DI := di "off_at" 107 ["w", "n", "x", "j"] ["w", "n", "x", "j"] []
def d_best_marks : DI := di "best_marks" 108 ["w", "n", "x"] ["w", "n", "x", "rests", "least", "mark"] []
def d_greatest_off : DI := di "greatest_off" 109 ["w", "n"] ["w", "n"] []
def d__law_cup : DI := di "_law_cup" 111 ["script"] ["script", "cell"] []
def d__law_roll : DI := di "_law_roll" 112 ["cup", "many"] ["cup", "many", "deep", "found"] []
def d__law_some : DI := di "_law_some" 113 ["cup", "things"] ["cup", "things"] []
def d__law_sort : DI := di "_law_sort" 114 ["value"] ["value"] []
def d__law_like : DI := di "_law_like" 115 ["one", "other"] ["one", "other", "sort", "first", "second"] []
def d__law_divisor : DI := di "_law_divisor" 116 ["one", "other"] ["one", "other", "turn"] []
def d__law_low : DI := di "_law_low" 117 ["top", "bottom"] ["top", "bottom", "shared"] []
def d__law_distance : DI := di "_law_distance" 118 ["mark", "n"] ["mark", "n", "rest"] []
def d__law_first : DI := di "_law_first" 119 ["a", "n", "most"] ["a", "n", "most", "some", "own"] []
def d__law_hand_right : DI := di "_law_hand_right" 120 ["cup", "a", "n"] ["cup", "a", "n", "first", "number", "told", "mark", "turned", "middle", "near", "turn", "hands", "error", "x", "time"] []
def d__law_vernier_right : DI := di "_law_vernier_right" 121 ["cup", "w", "n"] ["cup", "w", "n", "row", "own", "at", "most", "least", "turn", "shared", "told", "due", "k", "marks", "x", "zero", "j", "low", "high", "up", "down"] []
def d__law_two_right : DI := di "_law_two_right" 122 ["cup"] ["cup", "bottom", "gap", "due", "a", "b", "first", "second"] []
def d__law_great_right : DI := di "_law_great_right" 123 ["cup"] ["cup", "x", "row", "part", "many", "at", "own", "gap"] []
def d_law : DI := di "law" 124 ["script"] ["script", "cup", "turn", "hand", "told", "n"] []
def ds0 : List DI := [d_is_whole, d_need_whole, d_is_tuple_of, d_is_ascending, d_is_ratio, d_cut, d_sum_two, d_side, d_parts_of, d_by_parts]
def ds1 : List DI := [d_fit_kinds, d_need_kinds, d_are_pairs, d_fits_train, d_need_train, d_is_from, d_need_from, d_ratio_in, d_train_ratio, d_made_of]
def ds2 : List DI := [d_convergents_of, d_parts_for, d_met, d_is_hand, d_are_hands, d_need_hands, d_are_marks, d_need_marks, d_marks_of, d_round_for]
def ds3 : List DI := [d_cycle_for, d_common_for, d_marks_at, d_round_of, d_tell_below, d_time_of, d_need_errors, d_need_time, d_distance, d_fits]
def ds4 : List DI := [d_hides, d_first_gap, d_fit_at, d_blurred_gap, d_tell_blurred, d_is_part, d_need_found, d_rest_of, d_times, d_way_to]
def ds5 : List DI := [d_settled, d_least_error, d_need_both, d_neighbors_in, d_gap_of, d_lower_near, d_upper_near, d_nearest, d_need_vernier, d_need_place]
def ds6 : List DI := [d_rest_at, d_marks_reading, d_reads_all, d_parts_read, d_read_at, d_off_at, d_best_marks, d_greatest_off, d__law_cup, d__law_roll]
def ds7 : List DI := [d__law_some, d__law_sort, d__law_like, d__law_divisor, d__law_low, d__law_distance, d__law_first, d__law_hand_right, d__law_vernier_right, d__law_two_right]
def ds8 : List DI := [d__law_great_right, d_law]
def ds : List DI := ds0 ++ ds1 ++ ds2 ++ ds3 ++ ds4 ++ ds5 ++ ds6 ++ ds7 ++ ds8
theorem gn : gnB gl = true := by kernel_rfl
theorem ok_is_whole : FdOk gl d_is_whole.cells d_is_whole.ps d_is_whole.N d_is_whole.scope d_is_whole.body f_is_whole ∧ ArgsT d_is_whole := ⟨fdOk_of gn (by kernel_rfl) rfl rfl (by kernel_rfl), fun _ _ _ _ _ _ us hl => match us, hl with | [_, _, _], _ => rfl⟩
theorem ok_need_whole : FdOk gl d_need_whole.cells d_need_whole.ps d_need_whole.N d_need_whole.scope d_need_whole.body f_need_whole ∧ ArgsT d_need_whole := ⟨fdOk_of gn (by kernel_rfl) rfl rfl (by kernel_rfl), fun _ _ _ _ _ _ us hl => match us, hl with | [_, _, _], _ => rfl⟩
theorem ok_is_tuple_of : FdOk gl d_is_tuple_of.cells d_is_tuple_of.ps d_is_tuple_of.N d_is_tuple_of.scope d_is_tuple_of.body f_is_tuple_of ∧ ArgsT d_is_tuple_of := ⟨fdOk_of gn (by kernel_rfl) rfl rfl (by kernel_rfl), fun _ _ _ _ _ _ us hl => match us, hl with | [_, _, _], _ => rfl⟩
theorem ok_is_ascending : FdOk gl d_is_ascending.cells d_is_ascending.ps d_is_ascending.N d_is_ascending.scope d_is_ascending.body f_is_ascending ∧ ArgsT d_is_ascending := ⟨fdOk_of gn (by kernel_rfl) rfl rfl (by kernel_rfl), fun _ _ _ _ _ _ us hl => match us, hl with | [_], _ => rfl⟩
theorem ok_is_ratio : FdOk gl d_is_ratio.cells d_is_ratio.ps d_is_ratio.N d_is_ratio.scope d_is_ratio.body f_is_ratio ∧ ArgsT d_is_ratio := ⟨fdOk_of gn (by kernel_rfl) rfl rfl (by kernel_rfl), fun _ _ _ _ _ _ us hl => match us, hl with | [_], _ => rfl⟩
theorem ok_cut : FdOk gl d_cut.cells d_cut.ps d_cut.N d_cut.scope d_cut.body f_cut ∧ ArgsT d_cut := ⟨fdOk_of gn (by kernel_rfl) rfl rfl (by kernel_rfl), fun _ _ _ _ _ _ us hl => match us, hl with | [_, _], _ => rfl⟩
theorem ok_sum_two : FdOk gl d_sum_two.cells d_sum_two.ps d_sum_two.N d_sum_two.scope d_sum_two.body f_sum_two ∧ ArgsT d_sum_two := ⟨fdOk_of gn (by kernel_rfl) rfl rfl (by kernel_rfl), fun _ _ _ _ _ _ us hl => match us, hl with | [_, _], _ => rfl⟩
theorem ok_side : FdOk gl d_side.cells d_side.ps d_side.N d_side.scope d_side.body f_side ∧ ArgsT d_side := ⟨fdOk_of gn (by kernel_rfl) rfl rfl (by kernel_rfl), fun _ _ _ _ _ _ us hl => match us, hl with | [_, _], _ => rfl⟩
theorem ok_parts_of : FdOk gl d_parts_of.cells d_parts_of.ps d_parts_of.N d_parts_of.scope d_parts_of.body f_parts_of ∧ ArgsT d_parts_of := ⟨fdOk_of gn (by kernel_rfl) rfl rfl (by kernel_rfl), fun _ _ _ _ _ _ us hl => match us, hl with | [_, _], _ => rfl⟩
theorem ok_by_parts : FdOk gl d_by_parts.cells d_by_parts.ps d_by_parts.N d_by_parts.scope d_by_parts.body f_by_parts ∧ ArgsT d_by_parts := ⟨fdOk_of gn (by kernel_rfl) rfl rfl (by kernel_rfl), fun _ _ _ _ _ _ us hl => match us, hl with | [_], _ => rfl⟩
theorem ok_fit_kinds : FdOk gl d_fit_kinds.cells d_fit_kinds.ps d_fit_kinds.N d_fit_kinds.scope d_fit_kinds.body f_fit_kinds ∧ ArgsT d_fit_kinds := ⟨fdOk_of gn (by kernel_rfl) rfl rfl (by kernel_rfl), fun _ _ _ _ _ _ us hl => match us, hl with | [_], _ => rfl⟩
theorem ok_need_kinds : FdOk gl d_need_kinds.cells d_need_kinds.ps d_need_kinds.N d_need_kinds.scope d_need_kinds.body f_need_kinds ∧ ArgsT d_need_kinds := ⟨fdOk_of gn (by kernel_rfl) rfl rfl (by kernel_rfl), fun _ _ _ _ _ _ us hl => match us, hl with | [_], _ => rfl⟩
theorem ok_are_pairs : FdOk gl d_are_pairs.cells d_are_pairs.ps d_are_pairs.N d_are_pairs.scope d_are_pairs.body f_are_pairs ∧ ArgsT d_are_pairs := ⟨fdOk_of gn (by kernel_rfl) rfl rfl (by kernel_rfl), fun _ _ _ _ _ _ us hl => match us, hl with | [_], _ => rfl⟩
theorem ok_fits_train : FdOk gl d_fits_train.cells d_fits_train.ps d_fits_train.N d_fits_train.scope d_fits_train.body f_fits_train ∧ ArgsT d_fits_train := ⟨fdOk_of gn (by kernel_rfl) rfl rfl (by kernel_rfl), fun _ _ _ _ _ _ us hl => match us, hl with | [_, _], _ => rfl⟩
theorem ok_need_train : FdOk gl d_need_train.cells d_need_train.ps d_need_train.N d_need_train.scope d_need_train.body f_need_train ∧ ArgsT d_need_train := ⟨fdOk_of gn (by kernel_rfl) rfl rfl (by kernel_rfl), fun _ _ _ _ _ _ us hl => match us, hl with | [_, _], _ => rfl⟩
theorem ok_is_from : FdOk gl d_is_from.cells d_is_from.ps d_is_from.N d_is_from.scope d_is_from.body f_is_from ∧ ArgsT d_is_from := ⟨fdOk_of gn (by kernel_rfl) rfl rfl (by kernel_rfl), fun _ _ _ _ _ _ us hl => match us, hl with | [_, _], _ => rfl⟩
theorem ok_need_from : FdOk gl d_need_from.cells d_need_from.ps d_need_from.N d_need_from.scope d_need_from.body f_need_from ∧ ArgsT d_need_from := ⟨fdOk_of gn (by kernel_rfl) rfl rfl (by kernel_rfl), fun _ _ _ _ _ _ us hl => match us, hl with | [_, _], _ => rfl⟩
theorem ok_ratio_in : FdOk gl d_ratio_in.cells d_ratio_in.ps d_ratio_in.N d_ratio_in.scope d_ratio_in.body f_ratio_in ∧ ArgsT d_ratio_in := ⟨fdOk_of gn (by kernel_rfl) rfl rfl (by kernel_rfl), fun _ _ _ _ _ _ us hl => match us, hl with | [_], _ => rfl⟩
theorem ok_train_ratio : FdOk gl d_train_ratio.cells d_train_ratio.ps d_train_ratio.N d_train_ratio.scope d_train_ratio.body f_train_ratio ∧ ArgsT d_train_ratio := ⟨fdOk_of gn (by kernel_rfl) rfl rfl (by kernel_rfl), fun _ _ _ _ _ _ us hl => match us, hl with | [_, _], _ => rfl⟩
theorem ok_made_of : FdOk gl d_made_of.cells d_made_of.ps d_made_of.N d_made_of.scope d_made_of.body f_made_of ∧ ArgsT d_made_of := ⟨fdOk_of gn (by kernel_rfl) rfl rfl (by kernel_rfl), fun _ _ _ _ _ _ us hl => match us, hl with | [_], _ => rfl⟩
theorem ok_convergents_of : FdOk gl d_convergents_of.cells d_convergents_of.ps d_convergents_of.N d_convergents_of.scope d_convergents_of.body f_convergents_of ∧ ArgsT d_convergents_of := ⟨fdOk_of gn (by kernel_rfl) rfl rfl (by kernel_rfl), fun _ _ _ _ _ _ us hl => match us, hl with | [_], _ => rfl⟩
theorem ok_parts_for : FdOk gl d_parts_for.cells d_parts_for.ps d_parts_for.N d_parts_for.scope d_parts_for.body f_parts_for ∧ ArgsT d_parts_for := ⟨fdOk_of gn (by kernel_rfl) rfl rfl (by kernel_rfl), fun _ _ _ _ _ _ us hl => match us, hl with | [_, _], _ => rfl⟩
theorem ok_met : FdOk gl d_met.cells d_met.ps d_met.N d_met.scope d_met.body f_met ∧ ArgsT d_met := ⟨fdOk_of gn (by kernel_rfl) rfl rfl (by kernel_rfl), fun _ _ _ _ _ _ us hl => match us, hl with | [_, _], _ => rfl⟩
theorem ok_is_hand : FdOk gl d_is_hand.cells d_is_hand.ps d_is_hand.N d_is_hand.scope d_is_hand.body f_is_hand ∧ ArgsT d_is_hand := ⟨fdOk_of gn (by kernel_rfl) rfl rfl (by kernel_rfl), fun _ _ _ _ _ _ us hl => match us, hl with | [_], _ => rfl⟩
theorem ok_are_hands : FdOk gl d_are_hands.cells d_are_hands.ps d_are_hands.N d_are_hands.scope d_are_hands.body f_are_hands ∧ ArgsT d_are_hands := ⟨fdOk_of gn (by kernel_rfl) rfl rfl (by kernel_rfl), fun _ _ _ _ _ _ us hl => match us, hl with | [_], _ => rfl⟩
theorem ok_need_hands : FdOk gl d_need_hands.cells d_need_hands.ps d_need_hands.N d_need_hands.scope d_need_hands.body f_need_hands ∧ ArgsT d_need_hands := ⟨fdOk_of gn (by kernel_rfl) rfl rfl (by kernel_rfl), fun _ _ _ _ _ _ us hl => match us, hl with | [_], _ => rfl⟩
theorem ok_are_marks : FdOk gl d_are_marks.cells d_are_marks.ps d_are_marks.N d_are_marks.scope d_are_marks.body f_are_marks ∧ ArgsT d_are_marks := ⟨fdOk_of gn (by kernel_rfl) rfl rfl (by kernel_rfl), fun _ _ _ _ _ _ us hl => match us, hl with | [_, _], _ => rfl⟩
theorem ok_need_marks : FdOk gl d_need_marks.cells d_need_marks.ps d_need_marks.N d_need_marks.scope d_need_marks.body f_need_marks ∧ ArgsT d_need_marks := ⟨fdOk_of gn (by kernel_rfl) rfl rfl (by kernel_rfl), fun _ _ _ _ _ _ us hl => match us, hl with | [_, _], _ => rfl⟩
theorem ok_marks_of : FdOk gl d_marks_of.cells d_marks_of.ps d_marks_of.N d_marks_of.scope d_marks_of.body f_marks_of ∧ ArgsT d_marks_of := ⟨fdOk_of gn (by kernel_rfl) rfl rfl (by kernel_rfl), fun _ _ _ _ _ _ us hl => match us, hl with | [_, _], _ => rfl⟩
theorem ok_round_for : FdOk gl d_round_for.cells d_round_for.ps d_round_for.N d_round_for.scope d_round_for.body f_round_for ∧ ArgsT d_round_for := ⟨fdOk_of gn (by kernel_rfl) rfl rfl (by kernel_rfl), fun _ _ _ _ _ _ us hl => match us, hl with | [_], _ => rfl⟩
theorem ok_cycle_for : FdOk gl d_cycle_for.cells d_cycle_for.ps d_cycle_for.N d_cycle_for.scope d_cycle_for.body f_cycle_for ∧ ArgsT d_cycle_for := ⟨fdOk_of gn (by kernel_rfl) rfl rfl (by kernel_rfl), fun _ _ _ _ _ _ us hl => match us, hl with | [_, _], _ => rfl⟩
theorem ok_common_for : FdOk gl d_common_for.cells d_common_for.ps d_common_for.N d_common_for.scope d_common_for.body f_common_for ∧ ArgsT d_common_for := ⟨fdOk_of gn (by kernel_rfl) rfl rfl (by kernel_rfl), fun _ _ _ _ _ _ us hl => match us, hl with | [_, _], _ => rfl⟩
theorem ok_marks_at : FdOk gl d_marks_at.cells d_marks_at.ps d_marks_at.N d_marks_at.scope d_marks_at.body f_marks_at ∧ ArgsT d_marks_at := ⟨fdOk_of gn (by kernel_rfl) rfl rfl (by kernel_rfl), fun _ _ _ _ _ _ us hl => match us, hl with | [_, _], _ => rfl⟩
theorem ok_round_of : FdOk gl d_round_of.cells d_round_of.ps d_round_of.N d_round_of.scope d_round_of.body f_round_of ∧ ArgsT d_round_of := ⟨fdOk_of gn (by kernel_rfl) rfl rfl (by kernel_rfl), fun _ _ _ _ _ _ us hl => match us, hl with | [_], _ => rfl⟩
theorem ok_tell_below : FdOk gl d_tell_below.cells d_tell_below.ps d_tell_below.N d_tell_below.scope d_tell_below.body f_tell_below ∧ ArgsT d_tell_below := ⟨fdOk_of gn (by kernel_rfl) rfl rfl (by kernel_rfl), fun _ _ _ _ _ _ us hl => match us, hl with | [_, _], _ => rfl⟩
theorem ok_time_of : FdOk gl d_time_of.cells d_time_of.ps d_time_of.N d_time_of.scope d_time_of.body f_time_of ∧ ArgsT d_time_of := ⟨fdOk_of gn (by kernel_rfl) rfl rfl (by kernel_rfl), fun _ _ _ _ _ _ us hl => match us, hl with | [_, _], _ => rfl⟩
theorem ok_need_errors : FdOk gl d_need_errors.cells d_need_errors.ps d_need_errors.N d_need_errors.scope d_need_errors.body f_need_errors ∧ ArgsT d_need_errors := ⟨fdOk_of gn (by kernel_rfl) rfl rfl (by kernel_rfl), fun _ _ _ _ _ _ us hl => match us, hl with | [_, _], _ => rfl⟩
theorem ok_need_time : FdOk gl d_need_time.cells d_need_time.ps d_need_time.N d_need_time.scope d_need_time.body f_need_time ∧ ArgsT d_need_time := ⟨fdOk_of gn (by kernel_rfl) rfl rfl (by kernel_rfl), fun _ _ _ _ _ _ us hl => match us, hl with | [_], _ => rfl⟩
theorem ok_distance : FdOk gl d_distance.cells d_distance.ps d_distance.N d_distance.scope d_distance.body f_distance ∧ ArgsT d_distance := ⟨fdOk_of gn (by kernel_rfl) rfl rfl (by kernel_rfl), fun _ _ _ _ _ _ us hl => match us, hl with | [_, _, _], _ => rfl⟩
theorem ok_fits : FdOk gl d_fits.cells d_fits.ps d_fits.N d_fits.scope d_fits.body f_fits ∧ ArgsT d_fits := ⟨fdOk_of gn (by kernel_rfl) rfl rfl (by kernel_rfl), fun _ _ _ _ _ _ us hl => match us, hl with | [_, _, _, _], _ => rfl⟩
theorem ok_hides : FdOk gl d_hides.cells d_hides.ps d_hides.N d_hides.scope d_hides.body f_hides ∧ ArgsT d_hides := ⟨fdOk_of gn (by kernel_rfl) rfl rfl (by kernel_rfl), fun _ _ _ _ _ _ us hl => match us, hl with | [_, _, _], _ => rfl⟩
theorem ok_first_gap : FdOk gl d_first_gap.cells d_first_gap.ps d_first_gap.N d_first_gap.scope d_first_gap.body f_first_gap ∧ ArgsT d_first_gap := ⟨fdOk_of gn (by kernel_rfl) rfl rfl (by kernel_rfl), fun _ _ _ _ _ _ us hl => match us, hl with | [_, _, _], _ => rfl⟩
theorem ok_fit_at : FdOk gl d_fit_at.cells d_fit_at.ps d_fit_at.N d_fit_at.scope d_fit_at.body f_fit_at ∧ ArgsT d_fit_at := ⟨fdOk_of gn (by kernel_rfl) rfl rfl (by kernel_rfl), fun _ _ _ _ _ _ us hl => match us, hl with | [_, _, _, _], _ => rfl⟩
theorem ok_blurred_gap : FdOk gl d_blurred_gap.cells d_blurred_gap.ps d_blurred_gap.N d_blurred_gap.scope d_blurred_gap.body f_blurred_gap ∧ ArgsT d_blurred_gap := ⟨fdOk_of gn (by kernel_rfl) rfl rfl (by kernel_rfl), fun _ _ _ _ _ _ us hl => match us, hl with | [_, _, _], _ => rfl⟩
theorem ok_tell_blurred : FdOk gl d_tell_blurred.cells d_tell_blurred.ps d_tell_blurred.N d_tell_blurred.scope d_tell_blurred.body f_tell_blurred ∧ ArgsT d_tell_blurred := ⟨fdOk_of gn (by kernel_rfl) rfl rfl (by kernel_rfl), fun _ _ _ _ _ _ us hl => match us, hl with | [_, _, _], _ => rfl⟩
theorem ok_is_part : FdOk gl d_is_part.cells d_is_part.ps d_is_part.N d_is_part.scope d_is_part.body f_is_part ∧ ArgsT d_is_part := ⟨fdOk_of gn (by kernel_rfl) rfl rfl (by kernel_rfl), fun _ _ _ _ _ _ us hl => match us, hl with | [_, _], _ => rfl⟩
theorem ok_need_found : FdOk gl d_need_found.cells d_need_found.ps d_need_found.N d_need_found.scope d_need_found.body f_need_found ∧ ArgsT d_need_found := ⟨fdOk_of gn (by kernel_rfl) rfl rfl (by kernel_rfl), fun _ _ _ _ _ _ us hl => match us, hl with | [_, _, _, _], _ => rfl⟩
theorem ok_rest_of : FdOk gl d_rest_of.cells d_rest_of.ps d_rest_of.N d_rest_of.scope d_rest_of.body f_rest_of ∧ ArgsT d_rest_of := ⟨fdOk_of gn (by kernel_rfl) rfl rfl (by kernel_rfl), fun _ _ _ _ _ _ us hl => match us, hl with | [_], _ => rfl⟩
theorem ok_times : FdOk gl d_times.cells d_times.ps d_times.N d_times.scope d_times.body f_times ∧ ArgsT d_times := ⟨fdOk_of gn (by kernel_rfl) rfl rfl (by kernel_rfl), fun _ _ _ _ _ _ us hl => match us, hl with | [_, _], _ => rfl⟩
theorem ok_way_to : FdOk gl d_way_to.cells d_way_to.ps d_way_to.N d_way_to.scope d_way_to.body f_way_to ∧ ArgsT d_way_to := ⟨fdOk_of gn (by kernel_rfl) rfl rfl (by kernel_rfl), fun _ _ _ _ _ _ us hl => match us, hl with | [_, _], _ => rfl⟩
theorem ok_settled : FdOk gl d_settled.cells d_settled.ps d_settled.N d_settled.scope d_settled.body f_settled ∧ ArgsT d_settled := ⟨fdOk_of gn (by kernel_rfl) rfl rfl (by kernel_rfl), fun _ _ _ _ _ _ us hl => match us, hl with | [_, _, _, _], _ => rfl⟩
theorem ok_least_error : FdOk gl d_least_error.cells d_least_error.ps d_least_error.N d_least_error.scope d_least_error.body f_least_error ∧ ArgsT d_least_error := ⟨fdOk_of gn (by kernel_rfl) rfl rfl (by kernel_rfl), fun _ _ _ _ _ _ us hl => match us, hl with | [_, _, _, _], _ => rfl⟩
theorem ok_need_both : FdOk gl d_need_both.cells d_need_both.ps d_need_both.N d_need_both.scope d_need_both.body f_need_both ∧ ArgsT d_need_both := ⟨fdOk_of gn (by kernel_rfl) rfl rfl (by kernel_rfl), fun _ _ _ _ _ _ us hl => match us, hl with | [_, _], _ => rfl⟩
theorem ok_neighbors_in : FdOk gl d_neighbors_in.cells d_neighbors_in.ps d_neighbors_in.N d_neighbors_in.scope d_neighbors_in.body f_neighbors_in ∧ ArgsT d_neighbors_in := ⟨fdOk_of gn (by kernel_rfl) rfl rfl (by kernel_rfl), fun _ _ _ _ _ _ us hl => match us, hl with | [_, _], _ => rfl⟩
theorem ok_gap_of : FdOk gl d_gap_of.cells d_gap_of.ps d_gap_of.N d_gap_of.scope d_gap_of.body f_gap_of ∧ ArgsT d_gap_of := ⟨fdOk_of gn (by kernel_rfl) rfl rfl (by kernel_rfl), fun _ _ _ _ _ _ us hl => match us, hl with | [_, _], _ => rfl⟩
theorem ok_lower_near : FdOk gl d_lower_near.cells d_lower_near.ps d_lower_near.N d_lower_near.scope d_lower_near.body f_lower_near ∧ ArgsT d_lower_near := ⟨fdOk_of gn (by kernel_rfl) rfl rfl (by kernel_rfl), fun _ _ _ _ _ _ us hl => match us, hl with | [_, _], _ => rfl⟩
theorem ok_upper_near : FdOk gl d_upper_near.cells d_upper_near.ps d_upper_near.N d_upper_near.scope d_upper_near.body f_upper_near ∧ ArgsT d_upper_near := ⟨fdOk_of gn (by kernel_rfl) rfl rfl (by kernel_rfl), fun _ _ _ _ _ _ us hl => match us, hl with | [_, _], _ => rfl⟩
theorem ok_nearest : FdOk gl d_nearest.cells d_nearest.ps d_nearest.N d_nearest.scope d_nearest.body f_nearest ∧ ArgsT d_nearest := ⟨fdOk_of gn (by kernel_rfl) rfl rfl (by kernel_rfl), fun _ _ _ _ _ _ us hl => match us, hl with | [_, _], _ => rfl⟩
theorem ok_need_vernier : FdOk gl d_need_vernier.cells d_need_vernier.ps d_need_vernier.N d_need_vernier.scope d_need_vernier.body f_need_vernier ∧ ArgsT d_need_vernier := ⟨fdOk_of gn (by kernel_rfl) rfl rfl (by kernel_rfl), fun _ _ _ _ _ _ us hl => match us, hl with | [_, _], _ => rfl⟩
theorem ok_need_place : FdOk gl d_need_place.cells d_need_place.ps d_need_place.N d_need_place.scope d_need_place.body f_need_place ∧ ArgsT d_need_place := ⟨fdOk_of gn (by kernel_rfl) rfl rfl (by kernel_rfl), fun _ _ _ _ _ _ us hl => match us, hl with | [_], _ => rfl⟩
theorem ok_rest_at : FdOk gl d_rest_at.cells d_rest_at.ps d_rest_at.N d_rest_at.scope d_rest_at.body f_rest_at ∧ ArgsT d_rest_at := ⟨fdOk_of gn (by kernel_rfl) rfl rfl (by kernel_rfl), fun _ _ _ _ _ _ us hl => match us, hl with | [_, _, _, _], _ => rfl⟩
theorem ok_marks_reading : FdOk gl d_marks_reading.cells d_marks_reading.ps d_marks_reading.N d_marks_reading.scope d_marks_reading.body f_marks_reading ∧ ArgsT d_marks_reading := ⟨fdOk_of gn (by kernel_rfl) rfl rfl (by kernel_rfl), fun _ _ _ _ _ _ us hl => match us, hl with | [_, _, _], _ => rfl⟩
theorem ok_reads_all : FdOk gl d_reads_all.cells d_reads_all.ps d_reads_all.N d_reads_all.scope d_reads_all.body f_reads_all ∧ ArgsT d_reads_all := ⟨fdOk_of gn (by kernel_rfl) rfl rfl (by kernel_rfl), fun _ _ _ _ _ _ us hl => match us, hl with | [_, _], _ => rfl⟩
theorem ok_parts_read : FdOk gl d_parts_read.cells d_parts_read.ps d_parts_read.N d_parts_read.scope d_parts_read.body f_parts_read ∧ ArgsT d_parts_read := ⟨fdOk_of gn (by kernel_rfl) rfl rfl (by kernel_rfl), fun _ _ _ _ _ _ us hl => match us, hl with | [_, _], _ => rfl⟩
theorem ok_read_at : FdOk gl d_read_at.cells d_read_at.ps d_read_at.N d_read_at.scope d_read_at.body f_read_at ∧ ArgsT d_read_at := ⟨fdOk_of gn (by kernel_rfl) rfl rfl (by kernel_rfl), fun _ _ _ _ _ _ us hl => match us, hl with | [_, _, _], _ => rfl⟩
theorem ok_off_at : FdOk gl d_off_at.cells d_off_at.ps d_off_at.N d_off_at.scope d_off_at.body f_off_at ∧ ArgsT d_off_at := ⟨fdOk_of gn (by kernel_rfl) rfl rfl (by kernel_rfl), fun _ _ _ _ _ _ us hl => match us, hl with | [_, _, _, _], _ => rfl⟩
theorem ok_best_marks : FdOk gl d_best_marks.cells d_best_marks.ps d_best_marks.N d_best_marks.scope d_best_marks.body f_best_marks ∧ ArgsT d_best_marks := ⟨fdOk_of gn (by kernel_rfl) rfl rfl (by kernel_rfl), fun _ _ _ _ _ _ us hl => match us, hl with | [_, _, _], _ => rfl⟩
theorem ok_greatest_off : FdOk gl d_greatest_off.cells d_greatest_off.ps d_greatest_off.N d_greatest_off.scope d_greatest_off.body f_greatest_off ∧ ArgsT d_greatest_off := ⟨fdOk_of gn (by kernel_rfl) rfl rfl (by kernel_rfl), fun _ _ _ _ _ _ us hl => match us, hl with | [_, _], _ => rfl⟩
theorem ok__law_cup : FdOk gl d__law_cup.cells d__law_cup.ps d__law_cup.N d__law_cup.scope d__law_cup.body f__law_cup ∧ ArgsT d__law_cup := ⟨fdOk_of gn (by kernel_rfl) rfl rfl (by kernel_rfl), fun _ _ _ _ _ _ us hl => match us, hl with | [_], _ => rfl⟩
theorem ok__law_roll : FdOk gl d__law_roll.cells d__law_roll.ps d__law_roll.N d__law_roll.scope d__law_roll.body f__law_roll ∧ ArgsT d__law_roll := ⟨fdOk_of gn (by kernel_rfl) rfl rfl (by kernel_rfl), fun _ _ _ _ _ _ us hl => match us, hl with | [_, _], _ => rfl⟩
theorem ok__law_some : FdOk gl d__law_some.cells d__law_some.ps d__law_some.N d__law_some.scope d__law_some.body f__law_some ∧ ArgsT d__law_some := ⟨fdOk_of gn (by kernel_rfl) rfl rfl (by kernel_rfl), fun _ _ _ _ _ _ us hl => match us, hl with | [_, _], _ => rfl⟩
theorem ok__law_sort : FdOk gl d__law_sort.cells d__law_sort.ps d__law_sort.N d__law_sort.scope d__law_sort.body f__law_sort ∧ ArgsT d__law_sort := ⟨fdOk_of gn (by kernel_rfl) rfl rfl (by kernel_rfl), fun _ _ _ _ _ _ us hl => match us, hl with | [_], _ => rfl⟩
theorem ok__law_like : FdOk gl d__law_like.cells d__law_like.ps d__law_like.N d__law_like.scope d__law_like.body f__law_like ∧ ArgsT d__law_like := ⟨fdOk_of gn (by kernel_rfl) rfl rfl (by kernel_rfl), fun _ _ _ _ _ _ us hl => match us, hl with | [_, _], _ => rfl⟩
theorem ok__law_divisor : FdOk gl d__law_divisor.cells d__law_divisor.ps d__law_divisor.N d__law_divisor.scope d__law_divisor.body f__law_divisor ∧ ArgsT d__law_divisor := ⟨fdOk_of gn (by kernel_rfl) rfl rfl (by kernel_rfl), fun _ _ _ _ _ _ us hl => match us, hl with | [_, _], _ => rfl⟩
theorem ok__law_low : FdOk gl d__law_low.cells d__law_low.ps d__law_low.N d__law_low.scope d__law_low.body f__law_low ∧ ArgsT d__law_low := ⟨fdOk_of gn (by kernel_rfl) rfl rfl (by kernel_rfl), fun _ _ _ _ _ _ us hl => match us, hl with | [_, _], _ => rfl⟩
theorem ok__law_distance : FdOk gl d__law_distance.cells d__law_distance.ps d__law_distance.N d__law_distance.scope d__law_distance.body f__law_distance ∧ ArgsT d__law_distance := ⟨fdOk_of gn (by kernel_rfl) rfl rfl (by kernel_rfl), fun _ _ _ _ _ _ us hl => match us, hl with | [_, _], _ => rfl⟩
theorem ok__law_first : FdOk gl d__law_first.cells d__law_first.ps d__law_first.N d__law_first.scope d__law_first.body f__law_first ∧ ArgsT d__law_first := ⟨fdOk_of gn (by kernel_rfl) rfl rfl (by kernel_rfl), fun _ _ _ _ _ _ us hl => match us, hl with | [_, _, _], _ => rfl⟩
theorem ok__law_hand_right : FdOk gl d__law_hand_right.cells d__law_hand_right.ps d__law_hand_right.N d__law_hand_right.scope d__law_hand_right.body f__law_hand_right ∧ ArgsT d__law_hand_right := ⟨fdOk_of gn (by kernel_rfl) rfl rfl (by kernel_rfl), fun _ _ _ _ _ _ us hl => match us, hl with | [_, _, _], _ => rfl⟩
theorem ok__law_vernier_right : FdOk gl d__law_vernier_right.cells d__law_vernier_right.ps d__law_vernier_right.N d__law_vernier_right.scope d__law_vernier_right.body f__law_vernier_right ∧ ArgsT d__law_vernier_right := ⟨fdOk_of gn (by kernel_rfl) rfl rfl (by kernel_rfl), fun _ _ _ _ _ _ us hl => match us, hl with | [_, _, _], _ => rfl⟩
theorem ok__law_two_right : FdOk gl d__law_two_right.cells d__law_two_right.ps d__law_two_right.N d__law_two_right.scope d__law_two_right.body f__law_two_right ∧ ArgsT d__law_two_right := ⟨fdOk_of gn (by kernel_rfl) rfl rfl (by kernel_rfl), fun _ _ _ _ _ _ us hl => match us, hl with | [_], _ => rfl⟩
theorem ok__law_great_right : FdOk gl d__law_great_right.cells d__law_great_right.ps d__law_great_right.N d__law_great_right.scope d__law_great_right.body f__law_great_right ∧ ArgsT d__law_great_right := ⟨fdOk_of gn (by kernel_rfl) rfl rfl (by kernel_rfl), fun _ _ _ _ _ _ us hl => match us, hl with | [_], _ => rfl⟩
theorem ok_law : FdOk gl d_law.cells d_law.ps d_law.N d_law.scope d_law.body f_law ∧ ArgsT d_law := ⟨fdOk_of gn (by kernel_rfl) rfl rfl (by kernel_rfl), fun _ _ _ _ _ _ us hl => match us, hl with | [_], _ => rfl⟩
theorem okA0 : OkAll gl ds0 T0 := ⟨ok_is_whole, ok_need_whole, ok_is_tuple_of, ok_is_ascending, ok_is_ratio, ok_cut, ok_sum_two, ok_side, ok_parts_of, ok_by_parts, trivial⟩
theorem okA1 : OkAll gl ds1 T1 := ⟨ok_fit_kinds, ok_need_kinds, ok_are_pairs, ok_fits_train, ok_need_train, ok_is_from, ok_need_from, ok_ratio_in, ok_train_ratio, ok_made_of, trivial⟩
theorem okA2 : OkAll gl ds2 T2 := ⟨ok_convergents_of, ok_parts_for, ok_met, ok_is_hand, ok_are_hands, ok_need_hands, ok_are_marks, ok_need_marks, ok_marks_of, ok_round_for, trivial⟩
theorem okA3 : OkAll gl ds3 T3 := ⟨ok_cycle_for, ok_common_for, ok_marks_at, ok_round_of, ok_tell_below, ok_time_of, ok_need_errors, ok_need_time, ok_distance, ok_fits, trivial⟩
theorem okA4 : OkAll gl ds4 T4 := ⟨ok_hides, ok_first_gap, ok_fit_at, ok_blurred_gap, ok_tell_blurred, ok_is_part, ok_need_found, ok_rest_of, ok_times, ok_way_to, trivial⟩
theorem okA5 : OkAll gl ds5 T5 := ⟨ok_settled, ok_least_error, ok_need_both, ok_neighbors_in, ok_gap_of, ok_lower_near, ok_upper_near, ok_nearest, ok_need_vernier, ok_need_place, trivial⟩
theorem okA6 : OkAll gl ds6 T6 := ⟨ok_rest_at, ok_marks_reading, ok_reads_all, ok_parts_read, ok_read_at, ok_off_at, ok_best_marks, ok_greatest_off, ok__law_cup, ok__law_roll, trivial⟩
theorem okA7 : OkAll gl ds7 T7 := ⟨ok__law_some, ok__law_sort, ok__law_like, ok__law_divisor, ok__law_low, ok__law_distance, ok__law_first, ok__law_hand_right, ok__law_vernier_right, ok__law_two_right, trivial⟩
theorem okA8 : OkAll gl ds8 T8 := ⟨ok__law_great_right, ok_law, trivial⟩
theorem okA : OkAll gl ds T := (OkAll.append (OkAll.append (OkAll.append (OkAll.append (OkAll.append (OkAll.append (OkAll.append (OkAll.append okA0 okA1) okA2) okA3) okA4) okA5) okA6) okA7) okA8)
theorem glsOk : glsB' ds gl = true := by kernel_rfl
theorem cupT : CupT gl d__law_cup.scope d__law_cup.body := cupT_of gn (by kernel_rfl) (by kernel_rfl) (by kernel_rfl) (by kernel_rfl) (by kernel_rfl) (by kernel_rfl)
theorem lawT : LawT gl d_law.cells d_law.N d_law.scope d_law.body b_law := lawT_of gn (by kernel_rfl) (by kernel_rfl) (by kernel_rfl) (by kernel_rfl) (by kernel_rfl) (by kernel_rfl) (by kernel_rfl)
theorem all : LawAll gl ds T d__law_cup d_law b_law := ⟨okA.tab (by decide +kernel), okA.args, glsB'_ok glsOk, ⟨68, rfl⟩, rfl, rfl, ⟨81, rfl⟩, rfl, rfl, by kernel_rfl, by kernel_rfl, cupT, lawT⟩
end WM.K82
namespace WM.K82
open PySem PySem.Spec PyProof.Rows L2
def lo0 : List Str := ["gcd", "ClockError", "InvalidNumber", "InvalidRatio", "InvalidKinds", "InvalidTrain", "InvalidBound", "InvalidHands", "InvalidTime", "InvalidMarks", "InvalidErrors", "is_whole", "need_whole", "is_tuple_of", "is_ascending", "GREAT_ratios", "is_ratio", "cut", "sum_two", "side"]
def lo1 : List Str := ["parts_of", "by_parts", "KINDS", "TEETH", "PAIRS", "GREAT_trains", "fit_kinds", "need_kinds", "are_pairs", "fits_train", "need_train", "is_from", "need_from", "ratio_in", "train_ratio", "LONG", "PART", "made_of", "convergents_of", "parts_for"]
def lo2 : List Str := ["met", "HANDS", "DIAL", "NUMBER_manyhands", "TIME_manyhands", "is_hand", "are_hands", "need_hands", "are_marks", "need_marks", "marks_of", "round_for", "cycle_for", "common_for", "marks_at", "round_of", "tell_below", "time_of", "ERROR", "NUMBER_blurredhands"]
def lo3 : List Str := ["TIME_blurredhands", "need_errors", "need_time", "distance", "fits", "hides", "first_gap", "fit_at", "blurred_gap", "tell_blurred", "ROUNDS", "BOTTOM_nearesttimes", "is_part", "need_found", "rest_of", "times", "way_to", "settled", "least_error", "need_both"]
def lo4 : List Str := ["neighbors_in", "gap_of", "lower_near", "upper_near", "nearest", "SPACES", "PARTS", "BOTTOM_verniers", "need_vernier", "need_place", "rest_at", "marks_reading", "reads_all", "parts_read", "read_at", "off_at", "best_marks", "greatest_off", "_law_cup", "_law_roll"]
def lo5 : List Str := ["_law_some", "_law_sort", "_law_like", "_law_divisor", "_law_low", "_law_distance", "_law_first", "_law_hand_right", "_law_vernier_right", "_law_two_right", "_law_great_right"]
def loose : List Str := lo0 ++ lo1 ++ lo2 ++ lo3 ++ lo4 ++ lo5
abbrev R : PySem.W.OpenRow := PySem.W.OpenLaw.row PySem.Challenge.rw_wheelmark_k82_whole_convergents_as_blurr
abbrev q : Program := PySem.W.view R.prog [0, 124]
abbrev fa : List He.Fa := ds.map fun d => He.Fa.glo d.x
abbrev fn : List He.DefD := ds.map mkD
abbrev hk : PySem.W.Hook := hookW 4 fa fn gl
def ob (s : PySem.W.SharedT) : AlW := obsW 4 fa fn gl (HandSHeadRun.getT s)
theorem ob_eq (s : PySem.W.SharedT) : ob s = hk.obs s.abs := obsW_eq (HandSHeadRun.getT_eq s)
theorem run_l (w : World) : AtR (HandSHeadRun.wholeF (fun p => HandSHeadRun.stepQ (HandSHeadRun.denQ HandSHeadRun.tabQ) p w) HandSHeadRun.fenceQ 20000 R.prog) (fun x => HandSHeadRun.looksF R.prog x.1.heap x.2.abs) true := by
  unfold AtR
  kernel_rfl
theorem run_r (w : World) : AtR (HandSHeadRun.wholeF (fun p => HandSHeadRun.stepQ (HandSHeadRun.denQ HandSHeadRun.tabQ) p w) HandSHeadRun.fenceQ 20000 R.prog) (fun x => (HandSHeadRun.seenQ q loose (importedModules R.prog.main.body) (fun s => PySem.W.xlAt q [] s && PySem.W.recOk R.toRowW.records s) x.2.abs, (glsB (KX x.2) gl, obD ds x.2))) (PySem.W.openGood q loose, (true, vaD ds)) := by
  unfold AtR
  kernel_rfl
theorem run (w : World) : HandSHeadRun.RunEqI R q hk ob 20000 loose w := runI_of2 (run_l w) (run_r w)
end WM.K82
section
open PySem PySem.W PySem.Calls PyProof.Rows
theorem WM.K82.holds (pure : ∀ c0 c1 : Int, 0 ≤ c0 → 229 ≤ c1 → ∃ sl' st', WM.runSs (WM.fns WM.K82.T 40) WM.K82.b_law (WM.slot1 WM.K82.d_law.N.length) [.lst false [.int c0, .int c1]] = some (.ret (.d (.bool true)), sl', st')) : PySem.Challenge.rw_wheelmark_k82_whole_convergents_as_blurr.Holds := by
  w_on; o_law
  refine HandSHeadRun.head_imp (r := OpenLaw.row PySem.Challenge.rw_wheelmark_k82_whole_convergents_as_blurr) (q := view (OpenLaw.row PySem.Challenge.rw_wheelmark_k82_whole_convergents_as_blurr).prog [0, 124]) (H := WM.K82.hk) (ob := WM.K82.ob) (M := 20000) (loose := WM.K82.loose) (d := HandSHeadRun.topDef (OpenLaw.row PySem.Challenge.rw_wheelmark_k82_whole_convergents_as_blurr).prog 124) (kwd := []) WM.K82.ob_eq
    WM.K82.run (by kernel_rfl) (by kernel_rfl) (by kernel_rfl) (by rfl) (by first | assumption | decide +kernel) (by decide +kernel) ⟨rfl, rfl, rfl, rfl, rfl, by decide +kernel⟩ ?hw ?hc
  case hw => w_witness2
  case hc =>
    refine L2.walk_ofE (l := PySem.Challenge.rw_wheelmark_k82_whole_convergents_as_blurr) (n := 63) (k := 41) (x := "script") (CX := L2.CX0) rfl (by decide) (by kernel_rfl) ⟨rfl, by decide, by decide⟩ ?F (fun _ _ _ _ z => z)
    intro w mg fa h Y G hmg0
    obtain ⟨K, KX, c⟩ := Y
    have hmg : mg ("law" : PySem.Str) = some (.ref fa) := by
      have e : (HandSHeadRun.topDef (OpenLaw.row PySem.Challenge.rw_wheelmark_k82_whole_convergents_as_blurr).prog 124).name = ("law" : PySem.Str) := by kernel_rfl
      rw [← e]
      exact hmg0
    obtain ⟨fd, hb, hF⟩ := WM.facts_of (P := (PySem.Challenge.rw_wheelmark_k82_whole_convergents_as_blurr).prog) (w := w) (k := 39) WM.K82.all KX G c hmg pure
    exact ⟨K, fd, WM.spLaw K, KX, hb, fun H a ns hl _ hS => ⟨a, ns, hl, rfl, hS, fun _ => rfl⟩, hF⟩
end
namespace WM.K82
open PySem PySem.Spec PyProof.Rows L2 RT
theorem v_is_whole (k : Nat) (v lo hi : Int) (st : Store) : fns T (k + 1) i_is_whole [Z v, Z lo, Z hi] st = some (Bl (decide (lo ≤ v) && decide (v ≤ hi)), st) := by
  rw [s_is_whole]
  by_cases h : lo ≤ v <;> simp [runF, f_is_whole, slots, rdRaw, rdVar, isiD, truW, truD, fin, h]
theorem w_is_whole (k : Nat) (v lo hi : Int) (st : Store) (h1 : lo ≤ v) (h2 : v ≤ hi) : fns T (k + 1) i_is_whole [Z v, Z lo, Z hi] st = some (Bl true, st) := by
  rw [v_is_whole, decide_eq_true h1, decide_eq_true h2] <;> rfl
theorem v_need_whole (k : Nat) (v lo hi : Int) (st : Store) (h1 : lo ≤ v) (h2 : v ≤ hi) : fns T (k + 2) i_need_whole [Z v, Z lo, Z hi] st = some (No, st) := by
  rw [s_need_whole]
  simp [runF, f_need_whole, slots, rdRaw, w_is_whole, truW, truD, fin, h1, h2]
theorem v_is_tuple_of (k : Nat) (xs : List D) (lo hi : Int) (st : Store) : fns T (k + 1) i_is_tuple_of [Tu xs, Z lo, Z hi] st = some (Bl (decide (lo ≤ xs.length) && decide ((xs.length : Int) ≤ hi)), st) := by
  rw [s_is_tuple_of]
  by_cases h : lo ≤ xs.length <;> simp [runF, f_is_tuple_of, slots, rdRaw, rdVar, rdRaw, isiD, truW, truD, fin, bltW, h]
theorem w_is_tuple_of (k : Nat) (xs : List D) (lo hi : Int) (st : Store) (h1 : lo ≤ xs.length) (h2 : (xs.length : Int) ≤ hi) : fns T (k + 1) i_is_tuple_of [Tu xs, Z lo, Z hi] st = some (Bl true, st) := by
  rw [v_is_tuple_of, decide_eq_true h1, decide_eq_true h2] <;> rfl
theorem w_is_tuple2 (k : Nat) (x y : D) (st : Store) : fns T (k + 1) i_is_tuple_of [Tu [x, y], Z 2, Z 2] st = some (Bl true, st) := w_is_tuple_of k _ _ _ _ (by simp) (by simp)
theorem w_is_tuple3 (k : Nat) (x y z : D) (st : Store) : fns T (k + 1) i_is_tuple_of [Tu [x, y, z], Z 3, Z 3] st = some (Bl true, st) := w_is_tuple_of k _ _ _ _ (by simp) (by simp)
end WM.K82
namespace WM.K82
open PySem PySem.Spec PyProof.Rows L2 RT
def sortD : D → Int
  | .none => 0
  | .bool _ => 1
  | .int _ => 2
  | .str _ => 3
  | .tuple _ => 4
  | .list _ => 5
  | .dict _ => 6
/-- data without dicts or texts, at most so deep -/
def Lk : Nat → D → Prop
  | _, .none => True
  | _, .bool _ => True
  | _, .int _ => True
  | n + 1, .tuple xs => ∀ x ∈ xs, Lk n x
  | n + 1, .list xs => ∀ x ∈ xs, Lk n x
  | _, _ => False
theorem Lk.sort {n : Nat} {x : D} (h : Lk n x) : (∃ xs, x = .tuple xs) ∨ (∃ xs, x = .list xs) ∨ x = .none ∨ (∃ b, x = .bool b) ∨ (∃ i, x = .int i) := by
  cases x with
  | none => exact .inr (.inr (.inl rfl))
  | bool b => exact .inr (.inr (.inr (.inl ⟨b, rfl⟩)))
  | int i => exact .inr (.inr (.inr (.inr ⟨i, rfl⟩)))
  | str s => cases n <;> exact h.elim
  | tuple xs => exact .inl ⟨xs, rfl⟩
  | list xs => exact .inr (.inl ⟨xs, rfl⟩)
  | dict kvs => cases n <;> exact h.elim
theorem v_law_sort (k : Nat) {n : Nat} {x : D} (st : Store) (h : Lk n x) : fns T (k + 1) i__law_sort [.d x] st = some (Z (sortD x), st) := by
  rw [s__law_sort]
  rcases h.sort with ⟨xs, rfl⟩ | ⟨xs, rfl⟩ | rfl | ⟨b, rfl⟩ | ⟨i, rfl⟩
  · simp [runF, f__law_sort, slots, rdRaw, rdVar, fin, isiD, sortD]
  · have : cmpD .Is (.list xs) .none = some false := rfl
    simp [runF, f__law_sort, slots, rdRaw, rdVar, fin, isiD, sortD, this]
  · simp [runF, f__law_sort, slots, rdRaw, rdVar, fin, isiD, sortD]
  · have : cmpD .Is (.bool b) .none = some false := rfl
    simp [runF, f__law_sort, slots, rdRaw, rdVar, fin, isiD, sortD, this]
  · simp [runF, f__law_sort, slots, rdRaw, rdVar, fin, isiD, sortD]
theorem zip_self {xs : List D} : ∀ {d : D}, d ∈ zipD xs xs → ∃ x ∈ xs, d = .tuple [x, x] := by
  induction xs with
  | nil => intro d h; simp at h
  | cons x xs ih =>
    intro d h
    simp only [zipD, List.mem_cons] at h
    rcases h with rfl | h
    · exact ⟨x, List.mem_cons_self .., rfl⟩
    · obtain ⟨y, hy, e⟩ := ih h
      exact ⟨y, List.mem_cons_of_mem _ hy, e⟩
theorem in45 (i : Int) : cmpD .In (.int i) (.tuple [.int 4, .int 5]) = some (decide (4 = i) || decide (5 = i)) := by
  have : cmpD .In (.int i) (.tuple [.int 4, .int 5]) = (if shp (.int i) && shp (.tuple [.int 4, .int 5]) then some ([PyData.int 4, PyData.int 5].any fun z => PyData.eqv z (.int i)) else none) := rfl
  rw [this, shp_int, shp_i2]
  simp
theorem eqnil : cmpD .Eq (.list []) (.list []) = some true := by
  have : shp (.list []) = true := by simp [shp, SeqAt.shaped, PyData.canLay0, PyData.canLayAll0, PyData.depth, PyData.depthAll]
  rw [eq_d this this]
  rfl
theorem lk_body : f__law_like.body = (.cons (.set 2 (.call i__law_sort (.cons (.raw 1) .nil))) (.cons (.ite (.or (.cmp .NotEq (.call i__law_sort (.cons (.raw 0) .nil)) (.var 2)) (.cmp .Eq (.var 2) (.lit (.int 6)))) (.cons (.ret (.lit (.bool false))) .nil) .nil) (.cons (.ite (.cmp .In (.var 2) (.tup (.cons (.lit (.int 4)) (.cons (.lit (.int 5)) .nil)))) (.cons (.ret (.and (.cmp .Eq (.blt .len (.cons (.raw 0) .nil)) (.blt .len (.cons (.raw 1) .nil))) (.cmp .Eq c0__law_like (.lst .nil)))) .nil) .nil) (.cons (.ret (.cmp .Eq (.var 0) (.var 1))) .nil)))) := rfl
theorem lk_comp (Φ : Fn) (x : D) (xs : List D) (i : Int) (st : Store) (hx : x = .tuple xs ∨ x = .list xs) (ih : ∀ y ∈ xs, Φ i__law_like [.d y, .d y] st = some (.d (.bool true), st)) :
    runE Φ c0__law_like [some (.d x), some (.d x), some (Z i), none, none] st = some (.d (.list []), st) := by
  have hc : compL (fun d => stTg (.t (.cons (.v 3) (.cons (.v 4) .nil))) d (wipeS [some (.d x), some (.d x), some (Z i), none, none] [3, 4])) (fun sl1 st2 => runC Φ (.some (.not (.call i__law_like (.cons (.raw 3) (.cons (.raw 4) .nil))))) sl1 st2) (fun sl1 st2 => runE Φ (.lit (.int 1)) sl1 st2) (zipD xs xs) st = some ([], st) := comp_none fun d hd => by
    obtain ⟨y, hy, rfl⟩ := zip_self hd
    refine ⟨[some (.d x), some (.d x), some (Z i), some (.d y), some (.d y)], rfl, ?_⟩
    simp [rdRaw, ih y hy]
  have hi : runI Φ (.zip (.var 0) (.var 1)) [some (.d x), some (.d x), some (Z i), none, none] st = some (zipD xs xs, st) := by
    rcases hx with rfl | rfl <;> simp [rdVar]
  unfold c0__law_like
  rw [runE, hi]
  simp only [compK_eq, hc]
  rfl
theorem v_law_like : ∀ (n k : Nat) (x : D) (st : Store), Lk n x → fns T (k + n + 2) i__law_like [.d x, .d x] st = some (.d (.bool true), st)
  | n, k, x, st, h => by
    rw [s__law_like]
    have es := v_law_sort (k + n) st h
    have e7 : f__law_like.n = 5 := rfl
    have e8 : f__law_like.ps = 2 := rfl
    rcases h.sort with ⟨xs, rfl⟩ | ⟨xs, rfl⟩ | rfl | ⟨b, rfl⟩ | ⟨i, rfl⟩
    · cases n with
      | zero => exact h.elim
      | succ n =>
        have ih : ∀ y ∈ xs, fns T (k + (n + 1) + 1) i__law_like [.d y, .d y] st = some (.d (.bool true), st) := fun y hy => v_law_like n k y st (h y hy)
        have hc := lk_comp (fns T (k + (n + 1) + 1)) _ xs 4 st (.inl rfl) ih
        simp only [sortD] at es
        unfold runF
        rw [lk_body, e7, e8]
        simp [slots, es, in45, rdRaw, rdVar, rdRaw, bltW, hc, eqnil, fin, sizeLine]
    · cases n with
      | zero => exact h.elim
      | succ n =>
        have ih : ∀ y ∈ xs, fns T (k + (n + 1) + 1) i__law_like [.d y, .d y] st = some (.d (.bool true), st) := fun y hy => v_law_like n k y st (h y hy)
        have hc := lk_comp (fns T (k + (n + 1) + 1)) _ xs 5 st (.inr rfl) ih
        simp only [sortD] at es
        unfold runF
        rw [lk_body, e7, e8]
        simp [slots, es, in45, rdRaw, rdVar, rdRaw, bltW, hc, eqnil, fin, sizeLine]
    · have b : cmpD .Eq (.none : D) .none = some true := by
        rw [eq_d (by simp) (by simp)]
        rfl
      simp only [sortD] at es
      unfold runF
      rw [lk_body, e7, e8]
      simp [slots, rdRaw, rdVar, fin, es, in45, b, sizeLine]
    · simp only [sortD] at es
      unfold runF
      rw [lk_body, e7, e8]
      simp [slots, rdRaw, rdVar, fin, es, in45, sizeLine]
    · simp only [sortD] at es
      unfold runF
      rw [lk_body, e7, e8]
      simp [slots, rdRaw, rdVar, fin, es, in45, sizeLine]
def cup (a b : Int) : Cell := .lst false [.int a, .int b]
theorem v_roll (k : Nat) (many a b : Int) (st : Store) (h : 0 < many) (h2 : many < 2 ^ 63) : ∃ r a' b', fns T (k + 1) i__law_roll [.m 0, Z many] (cup a b :: st) = some (Z r, cup a' b' :: st) ∧ 0 ≤ r ∧ r < many := by
  rw [s__law_roll]
  by_cases c : 0 < a
  · refine ⟨a % many, a / many, b, ?_, Int.emod_nonneg _ (by omega), Int.emod_lt_of_pos _ h⟩
    have e1 : binD .Mod (.int a) (.int many) = _ := mod_i h
    have e2 : binD .FloorDiv (.int a) (.int many) = _ := div_i h (small_big (by omega))
    simp [runF, f__law_roll, slots, rdRaw, rdVar, fin, cup, ixW, c, bltW, e1, e2, putC, L2.ixN]
  · let b1 := (b * 29917 + 9103) % 2147483543
    have hb0 : 0 ≤ b1 := Int.emod_nonneg _ (by omega)
    have hb1 : b1 < 2147483543 := Int.emod_lt_of_pos _ (by omega)
    let dp := (b1 * (b1 + 307)) % 2147483587
    refine ⟨(dp / 887) % many, a, b1, ?_, Int.emod_nonneg _ (by omega), Int.emod_lt_of_pos _ h⟩
    have e1 : binD .Mult (.int b) (.int 29917) = some (.int (b * 29917)) := mul_i (mulOk_r (by decide))
    have e2 : binD .Mod (.int (b * 29917 + 9103)) (.int 2147483543) = some (.int b1) := mod_i (by omega)
    have e3 : binD .Mult (.int b1) (.int (b1 + 307)) = some (.int (b1 * (b1 + 307))) := mul_i (mulOk_l (by omega))
    have e4 : binD .Mod (.int (b1 * (b1 + 307))) (.int 2147483587) = some (.int dp) := mod_i (by omega)
    have e5 : binD .FloorDiv (.int dp) (.int 887) = some (.int (dp / 887)) := div_i (by omega) (small_big (by decide))
    have e6 : binD .Mod (.int (dp / 887)) (.int many) = some (.int (dp / 887 % many)) := mod_i h
    have c' : ¬ (0 < a) := c
    simp [runF, f__law_roll, slots, rdRaw, rdVar, fin, cup, ixW, c', bltW, e1, e2, e3, e4, e5, e6, putC, L2.ixN]
theorem atI_of {xs : List D} {r : Int} (h0 : 0 ≤ r) (h1 : r < xs.length) : ∃ x, atI xs r = some x ∧ x ∈ xs ∧ xs[r.toNat]? = some x := by
  have hl : r.toNat < xs.length := by omega
  refine ⟨xs[r.toNat], ?_, List.getElem_mem hl, List.getElem?_eq_getElem hl⟩
  unfold L2.atI L2.ixN
  rw [if_pos h0, if_pos h1]
  exact List.getElem?_eq_getElem hl
theorem v_some (k : Nat) (xs : List D) (a b : Int) (st : Store) (h0 : xs ≠ []) (h1 : xs.length < 2 ^ 60) : ∃ a' b' x, fns T (k + 2) i__law_some [.m 0, Li xs] (cup a b :: st) = some (.d x, cup a' b' :: st) ∧ x ∈ xs := by
  rw [s__law_some]
  have hp : 0 < xs.length := List.length_pos_iff.mpr h0
  obtain ⟨r, a', b', e, h2, h3⟩ := v_roll k (xs.length : Int) a b st (by omega) (by omega)
  obtain ⟨x, e1, e2, _⟩ := atI_of h2 h3
  have e3 : ixD (.list xs) (.int r) = some x := e1
  exact ⟨a', b', x, by simp [runF, f__law_some, slots, rdRaw, rdVar, fin, bltW, e, e3], e2⟩
end WM.K82
namespace WM.K82
open PySem PySem.Spec PyProof.Rows L2 RT
def t3 (a s t : Int) : W := .d (.tuple [.int a, .int s, .int t])
theorem rng3 : rngI (.int 0) (.int 3) = some [.int 0, .int 1, .int 2] := rfl
theorem pf_body (Φ : Fn) (o1 o2 : W) (a s t b u v : Int) (x4 : Option W) (st : Store) (hb : 0 < b) (ha : 0 ≤ a) (ha2 : a.natAbs ≤ H1) (hb2 : b.natAbs ≤ H1) (hu : u.natAbs ≤ H1) (hv : v.natAbs ≤ H1) :
    runSs Φ b0_parts_for [some o1, some o2, some (t3 a s t), some (t3 b u v), x4, none] st = some (.nx, [some o1, some o2, some (t3 b u v), some (t3 (a - a / b * b) (s - a / b * u) (t - a / b * v)), some (.d (.int (a / b))), none], st) := by
  have e1 := div_h (i := a) hb hb2
  have h1 : 0 ≤ a / b := Int.ediv_nonneg ha (by omega)
  have h2 : a / b ≤ a := Int.ediv_le_self _ ha
  have h3 : (a / b).natAbs ≤ H1 := by omega
  have m1 := mul_h h3 hb2
  have m2 := mul_h h3 hu
  have m3 := mul_h h3 hv
  unfold t3
  simp only [b0_parts_for, c0_parts_for, runSs_cons, runSs_nil, compK_eq, rngK_eq, binK_eq, runS, runE, runEs, runI, runC, rdRaw, rdVar, andW_s, andD_s, ixW_d, ix3_0, ix3_1, ix3_2, okD_s, e1, okL_s, rng3, compL, stTg, stTgs, wipeS, m1, m2, m3, sub_i, List.getElem?_cons_zero, List.getElem?_cons_succ, List.set_cons_zero, List.set_cons_succ, truW, truD, mkTup, allD_d, allD_nil, Option.map, bltW, tup_l, okC, okN, List.length]
  simp [e1, rng3, compL, wipeS, m1, m2, m3, truW, truD, bltW, sizeLine, rdRaw, rdVar, rdRaw, ix3_0]
theorem pf_loop (Φ : Fn) (o1 o2 : W) {A B : Int} (hA : A.natAbs ≤ H1) (hB : B.natAbs ≤ H1) (st : Store) : ∀ (n : Nat) (a s t b u v : Int) (x4 : Option W), b.toNat ≤ n → BzI A B H1 a s t b u v →
    ∃ m x3 x4', whlN (fun sl st => runE Φ t0_parts_for sl st) (fun sl st => runSs Φ b0_parts_for sl st) m [some o1, some o2, some (t3 a s t), some (t3 b u v), x4, none] st = some (.nx, [some o1, some o2, some (t3 (bz n a s t b u v).1 (bz n a s t b u v).2.1 (bz n a s t b u v).2.2), some x3, x4', none], st)
  | n, a, s, t, b, u, v, x4, hn, h => by
    by_cases h0 : b = 0
    · subst h0
      refine ⟨1, t3 0 u v, x4, ?_⟩
      have e : bz n a s t 0 u v = (a, s, t) := by
        cases n with
        | zero => rfl
        | succ n => unfold bz; rw [if_pos rfl]
      rw [e]
      simp [whlN, t0_parts_for, rdRaw, t3]
    · have hb0 := h.b0
      match n, hn with
      | 0, hn => omega
      | n + 1, hn =>
        have e0 : a - a / b * b = a % b := by
          have := Int.emod_add_mul_ediv a b
          rw [Int.mul_comm] at this
          omega
        have r1 := Int.emod_lt_of_pos a (show 0 < b by omega)
        obtain ⟨m, x3, x4', e1⟩ := pf_loop Φ o1 o2 hA hB st n b u v (a - a / b * b) (s - a / b * u) (t - a / b * v) (some (.d (.int (a / b)))) (by omega) (h.step hA hB h0)
        refine ⟨m + 1, x3, x4', ?_⟩
        unfold whlN bz
        rw [if_neg h0]
        have hc : runE Φ t0_parts_for [some o1, some o2, some (t3 a s t), some (t3 b u v), x4, none] st = some (.d (.bool true), st) := by
          simp [t0_parts_for, rdRaw, t3, h0]
        simp only [hc, andW_s, truW_b, pf_body Φ o1 o2 a s t b u v x4 st (by omega) h.a0 h.aM h.bM h.uM h.vM]
        exact e1
theorem v_parts_for (k : Nat) (A B : Int) (st : Store) (h0 : 0 ≤ A) (h1 : 0 ≤ B) (h2 : A.natAbs ≤ H1) (h3 : B.natAbs ≤ H1) : fns T (k + 1) i_parts_for [Z A, Z B] st = some (t3 (Int.gcd A B) (bS A B) (bT A B), st) := by
  have hi := bzI0 h0 h1 h2 h3 (Nat.le_trans (by omega) (Nat.le_of_lt h1_pos))
  obtain ⟨m, x3, x4', e1⟩ := pf_loop (fns T k) (.d (.int A)) (.d (.int B)) h2 h3 st B.toNat A 1 0 B 0 1 none (Nat.le_refl _) hi
  have g1 := (bz_ok h2 h3 B.toNat A 1 0 B 0 1 (Nat.le_refl _) hi).1
  rw [s_parts_for, ← g1]
  have e6 : f_parts_for.body = (.cons (.unp (.cons (.v 2) (.cons (.v 3) .nil)) (.tup (.cons (.tup (.cons (.var 0) (.cons (.lit (.int 1)) (.cons (.lit (.int 0)) .nil)))) (.cons (.tup (.cons (.var 1) (.cons (.lit (.int 0)) (.cons (.lit (.int 1)) .nil)))) .nil)))) (.cons l0_parts_for (.cons (.ret (.raw 2)) .nil))) := rfl
  unfold runF
  rw [e6]
  have e7 : f_parts_for.n = 6 := rfl
  have e8 : f_parts_for.ps = 2 := rfl
  unfold t3 at e1
  have e9 : runS (fns T k) l0_parts_for [some (Z A), some (Z B), some (.d (.tuple [.int A, .int 1, .int 0])), some (.d (.tuple [.int B, .int 0, .int 1])), none, none] st = _ := run_whl_of e1
  simp [slots, e7, e8, rdRaw, rdVar, sizeLine, e9, fin, t3, bS, bT]
theorem v_met (k : Nat) (e1 r1 e2 r2 : Int) (st : Store) (a0 : 0 < e1) (b0 : 0 < e2) (c0 : (r2 - r1).natAbs ≤ H1) (a1 : e1.natAbs ≤ H1) (b1 : e2.natAbs ≤ H1) : fns T (k + 2) i_met [.d (cy e1 r1), .d (cy e2 r2)] st = some (.d (metD e1 r1 e2 r2), st) := by
  have p1 := v_parts_for k e1 e2 st (by omega) (by omega) a1 b1
  have hs := (bez_bd (A := e1) (B := e2) (by omega) (by omega) a1 b1 (Nat.le_trans (by omega) (Nat.le_of_lt h1_pos))).1
  rw [s_met]
  have g0 := gcd_pos (t := e1) (b := e2) (by omega)
  have g1 := gcd_le (t := e1) (b := e2) (by omega)
  have hd : 0 < e1 / (Int.gcd e1 e2 : Int) := by
    have gl := gcd_le' (t := e1) (b := e2) (by omega)
    have := Int.le_ediv_of_mul_le g0 (show 1 * (Int.gcd e1 e2 : Int) ≤ e1 by omega)
    omega
  unfold metD metR lcmI
  generalize bS e1 e2 = s at *
  generalize bT e1 e2 = t at *
  generalize (Int.gcd e1 e2 : Nat) = gn at *
  have g2 : (gn : Int).natAbs ≤ H1 := by omega
  generalize hg : (gn : Int) = g at *
  unfold t3 at p1
  have f1 : binD .Mod (.int (r2 - r1)) (.int g) = some (.int ((r2 - r1) % g)) := mod_i g0
  have f2 := div_h (i := e1) g0 g2
  have f3 := div_h (i := r2 - r1) g0 g2
  have q0 : (e1 / g).natAbs ≤ H1 := Nat.le_trans (Int.natAbs_ediv_le_natAbs e1 g) a1
  have q1 : ((r2 - r1) / g).natAbs ≤ H1 := Nat.le_trans (Int.natAbs_ediv_le_natAbs (r2 - r1) g) c0
  have f4 := mul_h q0 b1
  have f5 := mul_h q1 hs
  have f6 : binD .Mult (.int ((r2 - r1) / g * s)) (.int e1) = some (.int ((r2 - r1) / g * s * e1)) := by
    refine mul_i (mulOk_b (i := (r2 - r1) / g * s) (j := e1) (lt_big (Nat.lt_of_le_of_lt (m := H1 * H1) ?_ (by decide +kernel))) (lt_big (Nat.lt_of_le_of_lt a1 (by decide +kernel))))
    rw [Int.natAbs_mul]
    exact Nat.mul_le_mul q1 hs
  have f7 : binD .Mod (.int (r1 + (r2 - r1) / g * s * e1)) (.int (e1 / g * e2)) = some (.int ((r1 + (r2 - r1) / g * s * e1) % (e1 / g * e2))) := mod_i (Int.mul_pos hd b0)
  unfold cy
  generalize hz : (r2 - r1) % g = z at *
  by_cases c : z = 0
  · rw [if_pos c]
    simp [runF, f_met, slots, rdRaw, rdVar, fin, okN, p1, f1, f2, f3, f4, f5, f6, f7, c, sizeLine]
  · rw [if_neg c]
    simp [runF, f_met, slots, rdRaw, rdVar, fin, okN, p1, f1, f2, f3, f4, f5, f6, f7, c, sizeLine]
end WM.K82
namespace WM.K82
open PySem PySem.Spec PyProof.Rows L2 RT
theorem v_cut (k : Nat) (t b : Int) (st : Store) (hb : 0 < b) (hB : b.natAbs < BIG) : fns T (k + 1) i_cut [Z t, Z b] st = some (P (Rat.divInt t b), st) := by
  rw [s_cut]
  have g1 := gcd_le (t := t) (b := b) (by omega)
  have e1 : binD .FloorDiv (.int t) (.int (Int.gcd t b)) = some (.int (t / (Int.gcd t b : Int))) := div_i (gcd_pos (by omega)) (by omega)
  have e2 : binD .FloorDiv (.int b) (.int (Int.gcd t b)) = some (.int (b / (Int.gcd t b : Int))) := div_i (gcd_pos (by omega)) (by omega)
  have h0 : ¬ b < 0 := by omega
  simp [runF, f_cut, slots, rdRaw, rdVar, truW, truD, fin, bltW, e1, e2, h0, pr, RT.cut_num t b hb, RT.cut_den t b hb, sizeLine]
theorem v_sum_two (k : Nat) (p q : Rat) (st : Store) (hp : Sm p) (hq : Sm q) : fns T (k + 2) i_sum_two [P p, P q] st = some (P (p + q), st) := by
  rw [s_sum_two]
  have e1 := Sm.mul_ok hp.n hq.d'
  have e2 := Sm.mul_ok hq.n hp.d'
  have e3 := Sm.mul_ok hp.d' hq.d'
  have e4 := v_cut k (p.num * q.den + q.num * p.den) (p.den * q.den) st (Int.mul_pos (den_pos' p) (den_pos' q)) (Sm.dd hp hq)
  rw [RT.add_div] at e4
  simp [runF, f_sum_two, slots, rdRaw, rdVar, fin, e1, e2, e3, e4]
end WM.K82
namespace WM.K82
open PySem PySem.Spec PyProof.Rows L2 RT
def d2 (p q : Int) : D := .tuple [.int p, .int q]
abbrev F2 (p q : Int) : W := .d (d2 p q)
@[simp] theorem td2 (p q : Int) : PyData.tuple [.int p, .int q] = d2 p q := rfl
@[simp] theorem ixd2_0 (p q : Int) : ixD (d2 p q) (.int 0) = some (.int p) := rfl
@[simp] theorem ixd2_1 (p q : Int) : ixD (d2 p q) (.int 1) = some (.int q) := rfl
@[simp] theorem shp_d2 (p q : Int) : shp (d2 p q) = true := shp_i2 p q
@[simp] theorem eqv_d2 (p q r t : Int) : PyData.eqv (d2 p q) (d2 r t) = (decide (p = r) && decide (q = t)) := by
  unfold d2
  simp only [PyData.eqv, PyData.eqvAll]
  rw [Bool.eq_iff_iff]
  simp
@[simp] theorem eq_d2 (p q r t : Int) : cmpD .Eq (d2 p q) (d2 r t) = some (decide (p = r) && decide (q = t)) := by rw [eq_d (by simp) (by simp), eqv_d2]
@[simp] theorem isn_d2 (p q : Int) : cmpD .Is (d2 p q) .none = some false := rfl
@[simp] theorem isnn_d2 (p q : Int) : cmpD .IsNot (d2 p q) .none = some true := rfl
@[simp] theorem stTgs2 (i j : Nat) (p q : Int) (sl : Sl) : stTg (.t (.cons (.v i) (.cons (.v j) .nil))) (d2 p q) sl = some ((sl.set i (some (Z p))).set j (some (Z q))) := rfl
def G60 : Int := 1000000000000000000000000000000000000000000000000000000000000
theorem v_cutP (k : Nat) (t b : Int) (st : Store) (hb : 0 < b) (hB : b.natAbs < 2 ^ 64) : fns T (k + 1) i_cut [Z t, Z b] st = some (F2 (t / (Int.gcd t b : Int)) (b / (Int.gcd t b : Int)), st) := by
  rw [s_cut]
  have g1 := gcd_le (t := t) (b := b) (by omega)
  have e1 : binD .FloorDiv (.int t) (.int (Int.gcd t b)) = some (.int (t / (Int.gcd t b : Int))) := div_i (gcd_pos (by omega)) (small_big (by omega))
  have e2 : binD .FloorDiv (.int b) (.int (Int.gcd t b)) = some (.int (b / (Int.gcd t b : Int))) := div_i (gcd_pos (by omega)) (small_big (by omega))
  have h0 : ¬ b < 0 := by omega
  simp [runF, f_cut, slots, rdRaw, rdVar, truW, truD, fin, bltW, e1, e2, h0, sizeLine]
/-- a ratio, not great -/
structure Rt (p q : Int) : Prop where
  q0 : 0 < q
  g : Int.gcd p q = 1
  pm : p.natAbs < 2 ^ 60
  qm : q.natAbs < 2 ^ 60
theorem v_is_ratio (k : Nat) (p q : Int) (st : Store) (h : Rt p q) : fns T (k + 2) i_is_ratio [F2 p q] st = some (Bl true, st) := by
  rw [s_is_ratio]
  obtain ⟨h1, h2, h3, h4⟩ := h
  have e1 : fns T (k + 1) i_is_tuple_of [F2 p q, Z 2, Z 2] st = some (Bl true, st) := w_is_tuple2 k (.int p) (.int q) st
  have e2 := w_is_whole k p (-G60) G60 st (by unfold G60; omega) (by unfold G60; omega)
  have e3 := w_is_whole k q 1 G60 st (by omega) (by unfold G60; omega)
  unfold G60 at e2 e3
  simp [runF, f_is_ratio, slots, rdRaw, rdVar, fin, bltW, e1, e2, e3, h2]
theorem v_side (k : Nat) (p q r t : Int) (st : Store) (h1 : p.natAbs < 2 ^ 64) (h2 : r.natAbs < 2 ^ 64) : fns T (k + 1) i_side [F2 p q, F2 r t] st = some (Z (p * t - r * q), st) := by
  rw [s_side]
  have e1 : binD .Mult (.int p) (.int t) = some (.int (p * t)) := mul_i (mulOk_l h1)
  have e2 : binD .Mult (.int r) (.int q) = some (.int (r * q)) := mul_i (mulOk_l h2)
  simp [runF, f_side, slots, rdRaw, fin, e1, e2]
theorem gcd_cut {t b : Int} (hb : 0 < b) : 0 < b / (Int.gcd t b : Int) ∧ Int.gcd (t / (Int.gcd t b : Int)) (b / (Int.gcd t b : Int)) = 1 ∧ t / (Int.gcd t b : Int) * b = t * (b / (Int.gcd t b : Int)) ∧ b / (Int.gcd t b : Int) ≤ b ∧ (t / (Int.gcd t b : Int)).natAbs ≤ t.natAbs := by
  have g0 := gcd_pos (t := t) (b := b) (by omega)
  have g1 := gcd_le (t := t) (b := b) (by omega)
  have d1 : (Int.gcd t b : Int) ∣ t := Int.gcd_dvd_left ..
  have d2 : (Int.gcd t b : Int) ∣ b := Int.gcd_dvd_right ..
  obtain ⟨u, hu⟩ := d1
  obtain ⟨v, hv⟩ := d2
  have e0 : Int.gcd (t / (Int.gcd t b : Int)) (b / (Int.gcd t b : Int)) = 1 := Int.gcd_ediv_gcd_ediv_gcd (by omega)
  generalize (Int.gcd t b : Int) = g at *
  have e1 : t / g = u := by rw [hu, Int.mul_ediv_cancel_left _ (by omega)]
  have e2 : b / g = v := by rw [hv, Int.mul_ediv_cancel_left _ (by omega)]
  refine ⟨?_, e0, ?_, Int.ediv_le_self _ (by omega), Int.natAbs_ediv_le_natAbs t g⟩
  · rw [e2]
    have : 0 < g * v := by omega
    exact Int.lt_of_mul_lt_mul_left (show g * 0 < g * v by omega) (by omega)
  · rw [e1, e2, hu, hv]; grind
end WM.K82
namespace WM.K82
open PySem PySem.Spec PyProof.Rows L2 RT
theorem dv_go (Φ : Fn) (st : Store) {x y lo : Int} (hy : 0 < y) : runSs Φ b0__law_divisor [some (Z x), some (Z y), some (Z lo)] st = some (.nx, [some (Z y), some (Z (x % y)), some (Z lo)], st) := by
  have e1 : binD .Mod (.int x) (.int y) = some (.int (x % y)) := mod_i hy
  have c : ¬ y = 0 := by omega
  simp [b0__law_divisor, rdRaw, rdVar, bltW, e1, c]
theorem dv_end (Φ : Fn) (st : Store) {x lo : Int} : runSs Φ b0__law_divisor [some (Z x), some (Z 0), some (Z lo)] st = some (.ret (Z x), [some (Z x), some (Z 0), some (Z lo)], st) := by
  simp [b0__law_divisor, rdRaw, rdVar, rdRaw, bltW]
theorem gcd_mod (x y : Int) : Int.gcd y (x % y) = Int.gcd x y := by
  have e0 : x % y = x - x / y * y := emod_sub
  rw [e0, Int.gcd_comm]
  simp
theorem dv_turns (Φ : Fn) (st : Store) : ∀ (j m : Nat) (lo x y : Int) (h : Option W), 0 ≤ x → 0 ≤ y → y < 2 ^ j → 2 * j < m → ∃ sl', forL (fun d sl => stTg (.v 2) d sl) (fun sl st => runSs Φ b0__law_divisor sl st) ((iv lo m).map PyData.int) [some (Z x), some (Z y), h] st = some (.ret (Z (Int.gcd x y)), sl', st) := by
  have end0 : ∀ (m : Nat) (lo x : Int) (h : Option W), 0 ≤ x → ∃ sl', forL (fun d sl => stTg (.v 2) d sl) (fun sl st => runSs Φ b0__law_divisor sl st) ((iv lo (m + 1)).map PyData.int) [some (Z x), some (Z 0), h] st = some (.ret (Z (Int.gcd x 0)), sl', st) := by
    intro m lo x h hx
    rw [iv_cons, List.map_cons]
    unfold forL
    have e0 : stTg (.v 2) (.int lo) [some (Z x), some (Z 0), h] = some [some (Z x), some (Z 0), some (Z lo)] := rfl
    have e3 : ((Int.gcd x 0 : Nat) : Int) = x := by rw [Int.gcd_zero_right]; omega
    simp only [e0, dv_end, e3]
    exact ⟨_, rfl⟩
  have go : ∀ (m : Nat) (lo x y : Int) (h : Option W) (r : Option (Fl × Sl × Store)), 0 < y → forL (fun d sl => stTg (.v 2) d sl) (fun sl st => runSs Φ b0__law_divisor sl st) ((iv (lo + 1) m).map PyData.int) [some (Z y), some (Z (x % y)), some (Z lo)] st = r → forL (fun d sl => stTg (.v 2) d sl) (fun sl st => runSs Φ b0__law_divisor sl st) ((iv lo (m + 1)).map PyData.int) [some (Z x), some (Z y), h] st = r := by
    intro m lo x y h r hy e
    rw [iv_cons, List.map_cons]
    unfold forL
    have e0 : stTg (.v 2) (.int lo) [some (Z x), some (Z y), h] = some [some (Z x), some (Z y), some (Z lo)] := rfl
    simp only [e0, dv_go Φ st hy]
    exact e
  intro j
  induction j with
  | zero =>
    intro m lo x y h hx hy h1 hm
    have : y = 0 := by omega
    subst this
    obtain ⟨m, rfl⟩ : ∃ k, m = k + 1 := ⟨m - 1, by omega⟩
    exact end0 m lo x h hx
  | succ j ih =>
    intro m lo x y h hx hy h1 hm
    obtain ⟨m, rfl⟩ : ∃ k, m = k + 2 := ⟨m - 2, by omega⟩
    by_cases c : y = 0
    · subst c
      exact end0 (m + 1) lo x h hx
    · have r0 := Int.emod_nonneg x c
      have r1 := Int.emod_lt_of_pos x (show 0 < y by omega)
      rw [← gcd_mod x y]
      by_cases c2 : x % y = 0
      · obtain ⟨sl', e⟩ := end0 m (lo + 1) y (some (Z lo)) hy
        refine ⟨sl', go (m + 1) lo x y h _ (by omega) ?_⟩
        rw [c2]
        exact e
      · have s0 := Int.emod_nonneg y c2
        have s1 := Int.emod_lt_of_pos y (show 0 < x % y by omega)
        have hq := Int.emod_add_mul_ediv y (x % y)
        have q1 : 1 ≤ y / (x % y) := Int.le_ediv_of_mul_le (by omega) (by omega)
        have q2 := Int.mul_le_mul_of_nonneg_left q1 r0
        have hp : (2 : Int) ^ (j + 1) = 2 * 2 ^ j := by rw [Int.pow_succ]; omega
        have hlt : y % (x % y) < 2 ^ j := by omega
        obtain ⟨sl', e⟩ := ih m (lo + 1 + 1) (x % y) (y % (x % y)) (some (Z (lo + 1))) r0 s0 hlt (by omega)
        rw [gcd_mod] at e
        exact ⟨sl', go (m + 1) lo x y h _ (by omega) (go m (lo + 1) y (x % y) _ _ (by omega) e)⟩
theorem v_law_divisor (k : Nat) (x y : Int) (st : Store) (hx : 0 ≤ x) (hy : 0 ≤ y) (hm : y < 2 ^ 150) : fns T (k + 1) i__law_divisor [Z x, Z y] st = some (Z (Int.gcd x y), st) := by
  rw [s__law_divisor]
  obtain ⟨sl', e⟩ := dv_turns (fns T k) st 150 400 0 x y none hx hy hm (by decide)
  have hi : runI (fns T k) (.rng1 (.lit (.int 400))) [some (Z x), some (Z y), none] st = some ((iv 0 400).map PyData.int, st) := runI_rng1 (j := 400) (by simp) (by decide) (by decide)
  have e2 : runS (fns T k) l0__law_divisor [some (Z x), some (Z y), none] st = some (.ret (Z (Int.gcd x y)), sl', st) := run_for_of hi e
  simp [runF, f__law_divisor, slots, fin, e2]
theorem v_law_low (k : Nat) (x y : Int) (st : Store) (hx : 0 ≤ x) (hy : 0 < y) (hm : y < 2 ^ 60) : fns T (k + 2) i__law_low [Z x, Z y] st = some (F2 (x / (Int.gcd x y : Int)) (y / (Int.gcd x y : Int)), st) := by
  rw [s__law_low]
  have e0 := v_law_divisor k x y st hx (by omega) (by omega)
  have g1 := gcd_le (t := x) (b := y) (by omega)
  have e1 : binD .FloorDiv (.int x) (.int (Int.gcd x y)) = some (.int (x / (Int.gcd x y : Int))) := div_i (gcd_pos (by omega)) (small_big (by omega))
  have e2 : binD .FloorDiv (.int y) (.int (Int.gcd x y)) = some (.int (y / (Int.gcd x y : Int))) := div_i (gcd_pos (by omega)) (small_big (by omega))
  simp [runF, f__law_low, slots, rdRaw, rdVar, fin, e0, e1, e2, sizeLine]
theorem v_law_distance (k : Nat) (x n : Int) (st : Store) (hn : 0 < n) : fns T (k + 1) i__law_distance [Z x, Z n] st = some (Z (dst x n), st) := by
  rw [s__law_distance]
  have e1 : binD .Mod (.int x) (.int n) = some (.int (x % n)) := mod_i hn
  have e2 : bltD .mn [.int (x % n), .int (n - x % n)] = some (.int (dst x n)) := by
    show some (PyData.int (if n - x % n < x % n then n - x % n else x % n)) = _
    unfold dst
    congr 2
    split <;> omega
  simp [runF, f__law_distance, slots, rdRaw, rdVar, fin, bltW, e1, e2]
end WM.K82
namespace WM.K82
open PySem PySem.Spec PyProof.Rows L2 RT
theorem po_loop (Φ : Fn) (st : Store) : ∀ (n : Nat) (a b : Int) (ps : List Int), 0 ≤ b → b < 2 ^ 60 → b.toNat < n → ps.length + b.toNat ≤ 100000 →
    ∃ m a' b', whlN (fun sl st => runE Φ t0_parts_of sl st) (fun sl st => runSs Φ b0_parts_of sl st) m [some (Z a), some (Z b), some (.m st.length)] (st ++ [.lst false (ps.map PyData.int)]) = some (.nx, [some (Z a'), some (Z b'), some (.m st.length)], st ++ [.lst false ((ps ++ pt n a b).map PyData.int)])
  | 0, a, b, ps, _, _, hn, _ => by omega
  | n + 1, a, b, ps, h0, h1, hn, hl => by
    by_cases c : b = 0
    · subst c
      refine ⟨1, a, 0, ?_⟩
      simp [whlN, t0_parts_of, rdVar, pt]
    · have r0 := Int.emod_nonneg a c
      have r1 := Int.emod_lt_of_pos a (show 0 < b by omega)
      obtain ⟨m, a', b', e⟩ := po_loop Φ st n b (a % b) (ps ++ [a / b]) r0 (by omega) (by omega) (by simp; omega)
      refine ⟨m + 1, a', b', ?_⟩
      have m1 : binD .FloorDiv (.int a) (.int b) = some (.int (a / b)) := div_i (by omega) (small_big (by omega))
      have m2 : binD .Mod (.int a) (.int b) = some (.int (a % b)) := mod_i (by omega)
      have hps : ps.length < 16777216 := by omega
      have et : runE Φ t0_parts_of [some (Z a), some (Z b), some (.m st.length)] (st ++ [.lst false (ps.map PyData.int)]) = some (Bl true, st ++ [.lst false (ps.map PyData.int)]) := by
        simp [t0_parts_of, rdVar, c]
      have eb : runSs Φ b0_parts_of [some (Z a), some (Z b), some (.m st.length)] (st ++ [.lst false (ps.map PyData.int)]) = some (.nx, [some (Z b), some (Z (a % b)), some (.m st.length)], st ++ [.lst false ((ps ++ [a / b]).map PyData.int)]) := by
        simp [b0_parts_of, rdVar, m1, m2, hps, sizeLine, okN]
      unfold whlN pt
      rw [if_neg c]
      simp only [et, eb, andW_s, truW_b]
      rw [e]
      simp
theorem v_parts_of (k : Nat) (a b : Int) (n : Nat) (st : Store) (h0 : 0 ≤ b) (h1 : b < 50000) (hn : b.toNat < n) : fns T (k + 1) i_parts_of [Z a, Z b] st = some (Li ((pt n a b).map PyData.int), st) := by
  rw [s_parts_of]
  obtain ⟨m, a', b', e⟩ := po_loop (fns T k) st n a b [] h0 (by omega) hn (by simp; omega)
  have e2 : runS (fns T k) l0_parts_of [some (Z a), some (Z b), some (.m st.length)] (st ++ [.lst false []]) = _ := run_whl_of e
  rw [List.nil_append] at e2
  simp [runF, f_parts_of, slots, rdRaw, fin, e2, sizeLine]
theorem v_is_from (k : Nat) (X Y : Int) (st : Store) (h : Rt X Y) (hX : 0 ≤ X) (x1 : X ≤ 10 ^ 18) (y1 : Y ≤ 10 ^ 18) : fns T (k + 4) i_need_from [F2 X Y, Z 0] st = some (No, st) := by
  have e1 := v_is_ratio k X Y st h
  have c1 : X ≤ 1000000000000000000 := by omega
  have c2 : Y ≤ 1000000000000000000 := by omega
  have e2 : fns T (k + 3) i_is_from [F2 X Y, Z 0] st = some (Bl true, st) := by
    rw [s_is_from]
    simp [runF, f_is_from, slots, rdRaw, rdVar, fin, e1, hX, c1, c2]
  rw [s_need_from]
  simp [runF, f_need_from, slots, rdRaw, rdVar, fin, e2]
def byP (ps : List Int) : Int × Int := ps.foldr (fun c g => (c * g.1 + g.2, g.1)) (1, 0)
theorem by_loop (Φ : Fn) (st : Store) (o : W) : ∀ (ps : List Int) (f : Int × Int) (x1 : Option W), (∀ q ∈ ps, 0 ≤ q ∧ q < 2 ^ 60) →
    ∃ y1, forL (fun d sl => stTg (.v 1) d sl) (fun sl st => runSs Φ b0_by_parts sl st) (ps.map PyData.int) [some o, x1, some (Z f.1), some (Z f.2)] st = some (.nx, [some o, y1, some (Z (ps.foldl (fun g c => (c * g.1 + g.2, g.1)) f).1), some (Z (ps.foldl (fun g c => (c * g.1 + g.2, g.1)) f).2)], st)
  | [], f, x1, _ => ⟨x1, rfl⟩
  | p :: ps, f, x1, h => by
    obtain ⟨y1, e⟩ := by_loop Φ st o ps (p * f.1 + f.2, f.1) (some (Z p)) fun q hq => h q (List.mem_cons_of_mem _ hq)
    obtain ⟨h1, h2⟩ := h p (List.mem_cons_self ..)
    have m1 : binD .Mult (.int p) (.int f.1) = some (.int (p * f.1)) := mul_i (mulOk_l (by omega))
    have e1 : stTg (.v 1) (.int p) [some o, x1, some (Z f.1), some (Z f.2)] = some [some o, some (Z p), some (Z f.1), some (Z f.2)] := rfl
    have e2 : runSs Φ b0_by_parts [some o, some (Z p), some (Z f.1), some (Z f.2)] st = some (.nx, [some o, some (Z p), some (Z (p * f.1 + f.2)), some (Z f.1)], st) := by
      simp [b0_by_parts, rdRaw, rdVar, m1, okN]
    refine ⟨y1, ?_⟩
    rw [List.map_cons, List.foldl_cons]
    unfold forL
    simp only [e1, e2]
    exact e
theorem v_by_parts (k : Nat) (ps : List Int) (st : Store) (h : ∀ q ∈ ps, 0 ≤ q ∧ q < 2 ^ 60) : fns T (k + 1) i_by_parts [Li (ps.map PyData.int)] st = some (F2 (byP ps).1 (byP ps).2, st) := by
  rw [s_by_parts]
  obtain ⟨y1, e⟩ := by_loop (fns T k) st (Li (ps.map PyData.int)) ps.reverse (1, 0) none fun q hq => h q (List.mem_reverse.mp hq)
  have e0 : ps.reverse.foldl (fun (g : Int × Int) c => (c * g.1 + g.2, g.1)) (1, 0) = byP ps := by
    unfold byP
    rw [List.foldl_reverse]
  rw [e0] at e
  have hi : runI (fns T k) (.val (.rev (.var 0))) [some (Li (ps.map PyData.int)), none, some (Z 1), some (Z 0)] st = some (ps.reverse.map PyData.int, st) := by
    simp [rdVar]
  have e2 : runS (fns T k) l0_by_parts [some (Li (ps.map PyData.int)), none, some (Z 1), some (Z 0)] st = _ := run_for_of hi e
  simp [-stTg, runF, f_by_parts, slots, rdRaw, rdVar, fin, okN, e2, sizeLine]
theorem cvs_by : ∀ (n : Nat) (a b : Int), (List.range (pt n a b).length).map (fun i => byP ((pt n a b).take (i + 1))) = cvs n a b
  | 0, a, b => rfl
  | n + 1, a, b => by
    unfold pt cvs
    by_cases c : b = 0
    · rw [if_pos c, if_pos c]; rfl
    · rw [if_neg c, if_neg c, List.length_cons, List.range_succ_eq_map, List.map_cons, List.map_map, ← cvs_by n b (a % b), List.map_map]
      congr 1
      show (a / b * 1 + 0, 1) = _
      congr 1
      omega
theorem sl_takeL (xs : List D) (m : Nat) (h : m ≤ xs.length) : slD (.list xs) none (some (m : Int)) = some (.list (xs.take m)) := by
  show some (PyData.list (cutD _ _ _)) = _
  unfold cutD
  have h1 : ∀ n : Nat, HT.sIx n 0 none = 0 := fun _ => rfl
  have h2 : HT.sIx xs.length xs.length (some (m : Int)) = m := by
    unfold HT.sIx
    simp
    split <;> omega
  rw [h1, h2]
  simp
abbrev p2D (p : Int × Int) : D := d2 p.1 p.2
theorem pt_lt : ∀ (n : Nat) (a b M : Int), 0 ≤ a → 0 ≤ b → a < M → b < M → ∀ q ∈ pt n a b, 0 ≤ q ∧ q < M
  | 0, _, _, _, _, _, _, _, q, hq => by simp [pt] at hq
  | n + 1, a, b, M, ha, hb, h1, h2, q, hq => by
    unfold pt at hq
    by_cases c : b = 0
    · rw [if_pos c] at hq; cases hq
    · rw [if_neg c] at hq
      have r0 := Int.emod_nonneg a c
      have r1 := Int.emod_lt_of_pos a (show 0 < b by omega)
      rcases List.mem_cons.mp hq with rfl | hq
      · exact ⟨Int.ediv_nonneg ha hb, by have := Int.ediv_le_self b ha; omega⟩
      · exact pt_lt n b (a % b) M hb r0 h2 (by omega) q hq
theorem v_convergents_of (k : Nat) (X Y : Int) (st : Store) (h : Rt X Y) (hX : 0 ≤ X) (x1 : X < 2 ^ 50) (y1 : Y ≤ 1000) : fns T (k + 5) i_convergents_of [F2 X Y] st = some (Tu ((cvs 1001 X Y).map p2D), st) := by
  have y0 := h.q0
  rw [s_convergents_of]
  have e1 := v_is_from k X Y st h hX (by omega) (by omega)
  have e2 := v_parts_of (k + 3) X Y 1001 st (by omega) (by omega) (by omega)
  have hs : sizeLine = 16777216 := sizeLine_eq
  obtain ⟨_, _, hlen⟩ := pt_nn 1001 X Y hX (by omega)
  have hlt := pt_lt 1001 X Y (2 ^ 60) hX (by omega) (by omega) (by omega)
  have e3 : runE (fns T (k + 4)) c0_convergents_of [some (F2 X Y), some (Li ((pt 1001 X Y).map PyData.int)), none] st = some (Li ((cvs 1001 X Y).map p2D), st) := by
    rw [← cvs_by]
    generalize pt 1001 X Y = ps at *
    unfold c0_convergents_of
    rw [List.map_map]
    refine run_comp_map (List.range ps.length) (fun i => .int ((i : Int) + 1)) _ ?_ (by rw [List.length_range]; omega) fun i hi => ⟨_, rfl, ?_⟩
    · rw [runI_rng2 (st1 := st) (st2 := st) (i := 1) (j := (ps.length : Int) + 1) (by simp) (by simp [rdRaw, bltW]) (by omega) (by omega) (by omega) (by omega)]
      have : ((ps.length : Int) + 1 - 1).toNat = ps.length := by omega
      rw [this]
      unfold iv
      rw [List.map_map]
      congr 2
      apply List.map_congr_left
      intro i _
      simp only [Function.comp]
      congr 1
      omega
    · rw [List.mem_range] at hi
      have e4 := sl_takeL (ps.map PyData.int) (i + 1) (by simp; omega)
      have e5 := v_by_parts (k + 3) (ps.take (i + 1)) st fun q hq => hlt q (List.mem_of_mem_take hq)
      have c : ((i + 1 : Nat) : Int) = (i : Int) + 1 := by omega
      rw [c] at e4
      simp only [List.map_take] at e5
      simp [rdVar, rdRaw, e4, e5]
  simp [runF, f_convergents_of, slots, rdRaw, rdVar, fin, e1, e2, e3, bltW]
/-- the least time at which a hand is near -/
structure FirstOk (a n most F : Int) : Prop where
  f1 : 1 ≤ F
  near : dst (a * F) n ≤ most
  min : ∀ z : Int, 1 ≤ z → dst (a * z) n ≤ most → F ≤ z
theorem FirstOk.uniq {a n most F G : Int} (h : FirstOk a n most F) (h2 : FirstOk a n most G) : F = G := by
  have := h.min G h2.f1 h2.near
  have := h2.min F h.f1 h.near
  omega
theorem scale {a n g X Y z y : Int} (g0 : 0 < g) (ha : a = g * X) (hn : n = g * Y) : ((a * z - y * n).natAbs : Int) = g * ((z * X - y * Y).natAbs : Int) := by
  have e : a * z - y * n = g * (z * X - y * Y) := by rw [ha, hn]; grind
  rw [e, Int.natAbs_mul]
  have : ((g.natAbs : Nat) : Int) = g := by omega
  rw [Int.natCast_mul, this]
/-- a ratio in lowest terms -/
theorem low_facts {a n : Int} (ha : 0 ≤ a) (hn : 0 < n) : ∃ g X Y : Int, (Int.gcd a n : Int) = g ∧ 0 < g ∧ a = g * X ∧ n = g * Y ∧ 0 ≤ X ∧ 0 < Y ∧ Int.gcd X Y = 1 ∧ a / (Int.gcd a n : Int) = X ∧ n / (Int.gcd a n : Int) = Y := by
  have g0 := gcd_pos (t := a) (b := n) (by omega)
  obtain ⟨c1, c2, c3, c4, c5⟩ := gcd_cut (t := a) hn
  obtain ⟨u, hu⟩ : (Int.gcd a n : Int) ∣ a := Int.gcd_dvd_left ..
  obtain ⟨v, hv⟩ : (Int.gcd a n : Int) ∣ n := Int.gcd_dvd_right ..
  generalize hg : (Int.gcd a n : Int) = g at *
  have e1 : a / g = u := by rw [hu, Int.mul_ediv_cancel_left _ (by omega)]
  have e2 : n / g = v := by rw [hv, Int.mul_ediv_cancel_left _ (by omega)]
  refine ⟨g, u, v, rfl, g0, hu, hv, ?_, by rw [← e2]; exact c1, by rw [← e1, ← e2]; exact c2, e1, e2⟩
  rw [← e1]
  exact Int.ediv_nonneg ha (by omega)
theorem first_of {a n most : Int} (ha : 0 ≤ a) (hn : 0 < n) (hn2 : n ≤ 1000) (hm : 0 ≤ most) : ∀ {g X Y : Int}, 0 < g → a = g * X → n = g * Y → 0 ≤ X → 0 < Y → ((cvs 1001 X Y).filter fun f => decide (dst (a * f.2) n ≤ most)) ≠ [] ∧ FirstOk a n most (minI (((cvs 1001 X Y).filter fun f => decide (dst (a * f.2) n ≤ most)).map (·.2))) := by
  intro g X Y g0 ea en hX hY
  have hI := CvI.init hX (by omega : 0 ≤ Y)
  have Y2 : Y ≤ 1000 := by
    have : 1 * Y ≤ g * Y := Int.mul_le_mul_of_nonneg_right (by omega) (by omega)
    omega
  have ne : ((cvs 1001 X Y).filter fun f => decide (dst (a * f.2) n ≤ most)) ≠ [] := by
    obtain ⟨f, hf, hx⟩ := cvI_last 1001 X Y 0 1 1 0 X Y hI hY (by omega)
    rw [← cvs_I] at hf
    have hm2 : f ∈ cvs 1001 X Y := List.mem_of_getLast? hf
    have hz : dst (a * f.2) n ≤ most := by
      have := dst_le (x := a * f.2) hn f.1
      rw [scale g0 ea en] at this
      have z : (f.2 * X - f.1 * Y).natAbs = 0 := by omega
      rw [z] at this
      simp at this
      omega
    intro e
    have : f ∈ (cvs 1001 X Y).filter fun f => decide (dst (a * f.2) n ≤ most) := List.mem_filter.mpr ⟨hm2, decide_eq_true hz⟩
    rw [e] at this
    cases this
  refine ⟨ne, ?_⟩
  have ne2 : ((cvs 1001 X Y).filter fun f => decide (dst (a * f.2) n ≤ most)).map (·.2) ≠ [] := fun e => ne (List.map_eq_nil_iff.mp e)
  obtain ⟨f, hf, ef⟩ := List.mem_map.mp (minI_mem ne2)
  obtain ⟨f1, f2⟩ := List.mem_filter.mp hf
  have fp := cvI_pos 1001 X Y 0 1 1 0 X Y hI f (by rw [← cvs_I]; exact f1)
  refine ⟨by rw [← ef]; omega, by rw [← ef]; exact of_decide_eq_true f2, fun z z1 hz => ?_⟩
  obtain ⟨y, hy⟩ := dst_at (x := a * z) hn
  obtain ⟨v, hv, v1, v2⟩ := cvI_first 1001 X Y 0 1 1 0 X Y hI hY (by omega) (z * X - y * Y).natAbs z y (by omega) (Nat.le_refl _)
  rw [← cvs_I] at hv
  have hd : dst (a * v.2) n ≤ most := by
    have k1 := dst_le (x := a * v.2) hn v.1
    rw [scale g0 ea en] at k1
    rw [scale g0 ea en] at hy
    have k2 : g * ((v.2 * X - v.1 * Y).natAbs : Int) ≤ g * ((z * X - y * Y).natAbs : Int) := Int.mul_le_mul_of_nonneg_left (by omega) (by omega)
    omega
  have := minI_le (ns := ((cvs 1001 X Y).filter fun f => decide (dst (a * f.2) n ≤ most)).map (·.2)) (List.mem_map.mpr ⟨v, List.mem_filter.mpr ⟨hv, decide_eq_true hd⟩, rfl⟩)
  omega
theorem v_law_first (k : Nat) (a n most F : Int) (st : Store) (ha : 0 ≤ a) (a2 : a < 2 ^ 50) (hn : 0 < n) (hn2 : n ≤ 1000) (hm : 0 ≤ most) (hF : FirstOk a n most F) : fns T (k + 6) i__law_first [Z a, Z n, Z most] st = some (Z F, st) := by
  rw [s__law_first]
  obtain ⟨g, X, Y, eg, g0, ea, en, X0, Y0, gc, eX, eY⟩ := low_facts ha hn
  obtain ⟨ne, ok⟩ := first_of ha hn hn2 hm g0 ea en X0 Y0
  have e0 := hF.uniq ok
  have Y2 : Y ≤ 1000 := by
    have : 1 * Y ≤ g * Y := Int.mul_le_mul_of_nonneg_right (by omega) (by omega)
    omega
  have X2 : X < 2 ^ 50 := by
    have : 1 * X ≤ g * X := Int.mul_le_mul_of_nonneg_right (by omega) (by omega)
    omega
  have e1 := v_law_low (k + 3) a n st ha hn (by omega)
  rw [eX, eY] at e1
  have e2 := v_convergents_of k X Y st ⟨Y0, gc, by omega, by omega⟩ X0 X2 Y2
  have hs : sizeLine = 16777216 := sizeLine_eq
  have e3 : runE (fns T (k + 5)) c0__law_first [some (Z a), some (Z n), some (Z most), none, none] st = some (Li ((((cvs 1001 X Y).filter fun f => decide (dst (a * f.2) n ≤ most)).map (·.2)).map PyData.int), st) := by
    unfold c0__law_first
    rw [List.map_map]
    have hlen : (cvs 1001 X Y).length ≤ 1001 := by
      rw [← cvs_by, List.length_map, List.length_range]
      exact (pt_nn 1001 X Y X0 (by omega)).2.2
    refine run_comp_fm (cvs 1001 X Y) p2D (fun f => decide (dst (a * f.2) n ≤ most)) _ (runI_val (x := .tuple ((cvs 1001 X Y).map p2D)) (by simp [rdRaw, e1, e2]) rfl) (by omega) fun f hf => ⟨_, rfl, ?_, fun _ => by simp [rdRaw]⟩
    have m1 : binD .Mult (.int a) (.int f.2) = some (.int (a * f.2)) := mul_i (mulOk_l (by omega))
    have e4 := v_law_distance (k + 4) (a * f.2) n st hn
    simp [rdRaw, rdVar, m1, e4]
  have ne2 : ((cvs 1001 X Y).filter fun f => decide (dst (a * f.2) n ≤ most)).map (·.2) ≠ [] := fun e => ne (List.map_eq_nil_iff.mp e)
  have e4 := mn_ints ne2
  rw [← e0] at e4
  generalize (((cvs 1001 X Y).filter fun f => decide (dst (a * f.2) n ≤ most)).map (·.2)).map PyData.int = LL at *
  simp [runF, f__law_first, slots, rdRaw, rdVar, fin, bltW, e3, e4]
theorem first_ex {a n most : Int} (ha : 0 ≤ a) (hn : 0 < n) (hn2 : n ≤ 1000) (hm : 0 ≤ most) : ∃ F, FirstOk a n most F := by
  obtain ⟨g, X, Y, eg, g0, ea, en, X0, Y0, gc, eX, eY⟩ := low_facts ha hn
  exact ⟨_, (first_of ha hn hn2 hm g0 ea en X0 Y0).2⟩
theorem FirstOk.le {a n most F g X Y : Int} (h : FirstOk a n most F) (hm : 0 ≤ most) (hn : 0 < n) (g0 : 0 < g) (ea : a = g * X) (en : n = g * Y) (Y0 : 0 < Y) : F ≤ Y := by
  refine h.min Y (by omega) ?_
  have := dst_le (x := a * Y) hn X
  rw [scale g0 ea en] at this
  have z : (Y * X - X * Y).natAbs = 0 := by rw [Int.mul_comm]; omega
  rw [z] at this
  simp at this
  omega
end WM.K82
namespace WM.K82
open PySem PySem.Spec PyProof.Rows L2 RT
theorem comp1 {Φ : Fn} {tg : Tg} {it : I} {own : List Nat} {elt : E} {sl sl' : Sl} {st : Store} {x y : D} (hi : runI Φ it sl st = some ([x], st)) (hg : stTg tg x (wipeS sl own) = some sl') (he : runE Φ elt sl' st = some (.d y, st)) : runE Φ (.comp tg it .none own elt) sl st = some (Li [y], st) :=
  run_comp_map [()] (fun _ => x) (fun _ => y) hi (by decide) fun _ _ => ⟨sl', hg, he⟩
theorem for1 {Φ : Fn} {tg : Tg} {it : I} {b : Ss} {sl sl1 sl2 : Sl} {st st1 st2 : Store} {x : D} (hi : runI Φ it sl st = some ([x], st1)) (hg : stTg tg x sl = some sl1) (hb : runSs Φ b sl1 st1 = some (.nx, sl2, st2)) : runS Φ (.for tg it b) sl st = some (.nx, sl2, st2) := by
  refine run_for_of hi ?_
  unfold forL
  simp only [hg, hb]
  rfl
theorem for1r {Φ : Fn} {tg : Tg} {it : I} {b : Ss} {sl sl1 sl2 : Sl} {st st1 st2 : Store} {x : D} {w : W} (hi : runI Φ it sl st = some ([x], st1)) (hg : stTg tg x sl = some sl1) (hb : runSs Φ b sl1 st1 = some (.ret w, sl2, st2)) : runS Φ (.for tg it b) sl st = some (.ret w, sl2, st2) := by
  refine run_for_of hi ?_
  unfold forL
  simp only [hg, hb]
abbrev hnD (a n : Int) : D := .tuple [d2 a n]
structure Hn (a n : Int) : Prop where
  a0 : 0 ≤ a
  a1 : a < n
  n1 : n ≤ 1000
theorem v_are_hands (k : Nat) (a n : Int) (st : Store) (h : Hn a n) : fns T (k + 3) i_are_hands [.d (hnD a n)] st = some (Bl true, st) := by
  obtain ⟨h1, h2, h3⟩ := h
  rw [s_are_hands]
  have e1 : fns T (k + 1) i_is_tuple_of [F2 a n, Z 2, Z 2] st = some (Bl true, st) := w_is_tuple2 k (.int a) (.int n) st
  have e2 := w_is_whole k n 1 1000 st (by omega) h3
  have e3 := w_is_whole k a 0 (n - 1) st h1 (by omega)
  have e4 : fns T (k + 2) i_is_hand [F2 a n] st = some (Bl true, st) := by
    rw [s_is_hand]
    simp [runF, f_is_hand, slots, rdRaw, rdVar, fin, e1, e2, e3]
  have e5 := w_is_tuple_of (k + 1) [d2 a n] 1 6 st (by simp) (by simp)
  have e6 : runE (fns T (k + 2)) c0_are_hands [some (.d (hnD a n)), none] st = some (Li [.bool true], st) := by
    unfold c0_are_hands
    exact comp1 (sl' := [some (.d (hnD a n)), some (F2 a n)]) (by simp [rdVar]) rfl (by simp [rdRaw, e4])
  have e7 : bltD .all [.list [.bool true]] = some (.bool true) := rfl
  simp [runF, f_are_hands, slots, rdRaw, rdVar, fin, e5, e6, e7, bltW]
theorem v_need_hands (k : Nat) (a n : Int) (st : Store) (h : Hn a n) : fns T (k + 4) i_need_hands [.d (hnD a n)] st = some (No, st) := by
  rw [s_need_hands]
  simp [runF, f_need_hands, slots, rdRaw, fin, v_are_hands k a n st h]
theorem v_need_marks (k : Nat) (a n m : Int) (st : Store) (h : Hn a n) (m0 : 0 ≤ m) (m1 : m < n) : fns T (k + 5) i_need_marks [.d (hnD a n), Tu [.int m]] st = some (No, st) := by
  rw [s_need_marks]
  have e1 := w_is_tuple_of (k + 2) [.int m] 1 1 st (by simp) (by simp)
  have e2 := w_is_whole (k + 2) m 0 (n - 1) st m0 (by omega)
  have e3 : runE (fns T (k + 3)) c0_are_marks [some (.d (hnD a n)), some (Tu [.int m]), some (Z 1), none, none, none] st = some (Li [.bool true], st) := by
    unfold c0_are_marks
    exact comp1 (x := .tuple [.int m, d2 a n]) (sl' := [some (.d (hnD a n)), some (Tu [.int m]), some (Z 1), some (Z m), some (Z a), some (Z n)]) (by simp [rdVar]) rfl (by simp [rdRaw, rdVar, e2])
  have e7 : bltD .all [.list [.bool true]] = some (.bool true) := rfl
  have e4 : fns T (k + 4) i_are_marks [.d (hnD a n), Tu [.int m]] st = some (Bl true, st) := by
    rw [s_are_marks]
    simp [runF, f_are_marks, slots, rdRaw, rdVar, fin, e1, e3, e7, bltW]
  simp [runF, f_need_marks, slots, rdRaw, fin, v_need_hands k a n st h, e4]
theorem v_marks_at (k : Nat) (a n t : Int) (st : Store) (h : Hn a n) (t0 : 0 ≤ t) (t1 : t ≤ 10 ^ 6) : fns T (k + 5) i_marks_at [.d (hnD a n), Z t] st = some (Tu [.int (a * t % n)], st) := by
  rw [s_marks_at]
  have e1 := v_need_hands k a n st h
  have e2 := w_is_whole (k + 3) t 0 1000000000000000000 st t0 (by omega)
  obtain ⟨h1, h2, h3⟩ := h
  have m1 : binD .Mult (.int a) (.int t) = some (.int (a * t)) := mul_i (mulOk_l (by omega))
  have m2 : binD .Mod (.int (a * t)) (.int n) = some (.int (a * t % n)) := mod_i (by omega)
  have e3 : runE (fns T (k + 3)) c0_marks_of [some (.d (hnD a n)), some (Z t), none, none] st = some (Li [.int (a * t % n)], st) := by
    unfold c0_marks_of
    exact comp1 (x := d2 a n) (sl' := [some (.d (hnD a n)), some (Z t), some (Z a), some (Z n)]) (by simp [rdVar]) rfl (by simp [rdRaw, rdVar, m1, m2])
  have e4 : fns T (k + 4) i_marks_of [.d (hnD a n), Z t] st = some (Tu [.int (a * t % n)], st) := by
    rw [s_marks_of]
    simp [runF, f_marks_of, slots, rdRaw, rdVar, fin, e3, bltW]
  simp [runF, f_marks_at, slots, rdRaw, rdVar, fin, e1, e2, e4]
theorem v_round_for (k : Nat) (a n : Int) (st : Store) (h : Hn a n) : fns T (k + 1) i_round_for [.d (hnD a n)] st = some (Z (n / (Int.gcd a n : Int)), st) := by
  rw [s_round_for]
  obtain ⟨h1, h2, h3⟩ := h
  have g0 := gcd_pos (t := a) (b := n) (by omega)
  have g1 := gcd_le (t := a) (b := n) (by omega)
  have m1 : binD .FloorDiv (.int n) (.int (Int.gcd a n)) = some (.int (n / (Int.gcd a n : Int))) := div_i g0 (small_big (by omega))
  obtain ⟨c1, c2, c3, c4, c5⟩ := gcd_cut (t := a) (b := n) (by omega)
  generalize n / (Int.gcd a n : Int) = v at *
  have g2 : Int.gcd 1 v = 1 := by simp
  have m2 : binD .FloorDiv (.int 1) (.int 1) = some (.int 1) := div_i (by decide) (small_big (by decide))
  have m3 : binD .Mult (.int 1) (.int v) = some (.int v) := by rw [mul_i (mulOk_l (by decide)), Int.one_mul]
  have e1 : runS (fns T k) l0_round_for [some (.d (hnD a n)), some (Z 1), none, none, none] st = some (.nx, [some (.d (hnD a n)), some (Z v), some (Z a), some (Z n), some (Z v)], st) := by
    unfold l0_round_for
    refine for1 (st1 := st) (x := d2 a n) (sl1 := [some (.d (hnD a n)), some (Z 1), some (Z a), some (Z n), none]) (by simp [rdVar]) rfl ?_
    simp [b0_round_for, rdRaw, rdVar, bltW, m1, m2, m3, g2]
  simp [runF, f_round_for, slots, rdRaw, rdVar, fin, e1]
theorem v_round_of (k : Nat) (a n : Int) (st : Store) (h : Hn a n) : fns T (k + 5) i_round_of [.d (hnD a n)] st = some (Z (n / (Int.gcd a n : Int)), st) := by
  rw [s_round_of]
  simp [runF, f_round_of, slots, rdRaw, rdVar, fin, v_need_hands k a n st h, v_round_for (k + 3) a n st h]
theorem v_need_whole' (k : Nat) (v lo hi : Int) (st : Store) (h1 : lo ≤ v) (h2 : v ≤ hi) : fns T (k + 2) i_need_whole [Z v, Z lo, Z hi] st = some (No, st) := v_need_whole k v lo hi st h1 h2
theorem v_tell_below (k : Nat) (a n m : Int) (st : Store) (h : Hn a n) (m0 : 1 ≤ m) (m1 : m ≤ 10 ^ 6) : fns T (k + 5) i_tell_below [.d (hnD a n), Z m] st = some (Bl (decide (m ≤ n / (Int.gcd a n : Int))), st) := by
  rw [s_tell_below]
  have e1 := v_need_whole (k + 2) m 1 1000000 st m0 (by omega)
  simp [runF, f_tell_below, slots, rdRaw, rdVar, fin, v_need_hands k a n st h, v_round_for (k + 3) a n st h, e1]
theorem v_distance (k : Nat) (n x y : Int) (st : Store) (hn : 0 < n) : fns T (k + 1) i_distance [Z n, Z x, Z y] st = some (Z (dst (x - y) n), st) := by
  rw [s_distance]
  have e1 : binD .Mod (.int (x - y)) (.int n) = some (.int ((x - y) % n)) := mod_i hn
  have e2 : bltD .mn [.int ((x - y) % n), .int (n - (x - y) % n)] = some (.int (dst (x - y) n)) := by
    show some (PyData.int (if n - (x - y) % n < (x - y) % n then n - (x - y) % n else (x - y) % n)) = _
    unfold dst
    congr 2
    split <;> omega
  simp [runF, f_distance, slots, rdRaw, rdVar, fin, bltW, e1, e2]
theorem v_need_errors (k : Nat) (a n e : Int) (st : Store) (h : Hn a n) (e0 : 0 ≤ e) (e1 : e ≤ 500) : fns T (k + 5) i_need_errors [.d (hnD a n), Tu [.int e]] st = some (No, st) := by
  rw [s_need_errors]
  have f1 := w_is_tuple_of (k + 3) [.int e] 1 1 st (by simp) (by simp)
  have f2 := w_is_whole (k + 3) e 0 500 st e0 e1
  have f3 : runE (fns T (k + 4)) c0_need_errors [some (.d (hnD a n)), some (Tu [.int e]), some (Z 1), none] st = some (Li [.bool true], st) := by
    unfold c0_need_errors
    exact comp1 (x := .int e) (sl' := [some (.d (hnD a n)), some (Tu [.int e]), some (Z 1), some (Z e)]) (by simp [rdVar]) rfl (by simp [rdRaw, rdVar, f2])
  have f7 : bltD .all [.list [.bool true]] = some (.bool true) := rfl
  simp [runF, f_need_errors, slots, rdRaw, rdVar, fin, v_need_hands k a n st h, f1, f3, f7, bltW]
theorem v_hides (k : Nat) (a n e z : Int) (st : Store) (h : Hn a n) (e0 : 0 ≤ e) (e1 : e ≤ 500) : fns T (k + 2) i_hides [.d (hnD a n), Tu [.int e], Z z] st = some (Bl (decide (dst (a * z) n ≤ 2 * e)), st) := by
  rw [s_hides]
  obtain ⟨h1, h2, h3⟩ := h
  have m1 : binD .Mult (.int a) (.int z) = some (.int (a * z)) := mul_i (mulOk_l (by omega))
  have m2 : binD .Mult (.int 2) (.int e) = some (.int (2 * e)) := mul_i (mulOk_l (by decide))
  have f1 := v_distance k n (a * z) 0 st (by omega)
  rw [Int.sub_zero] at f1
  have f3 : runE (fns T (k + 1)) c0_hides [some (.d (hnD a n)), some (Tu [.int e]), some (Z z), none, none, none] st = some (Li [.bool (decide (dst (a * z) n ≤ 2 * e))], st) := by
    unfold c0_hides
    exact comp1 (x := .tuple [d2 a n, .int e]) (sl' := [some (.d (hnD a n)), some (Tu [.int e]), some (Z z), some (Z e), some (Z a), some (Z n)]) (by simp [rdVar]) rfl (by simp [rdRaw, rdVar, m1, m2, f1])
  have f7 : ∀ b : Bool, bltD .all [.list [.bool b]] = some (.bool b) := fun b => by cases b <;> rfl
  simp [runF, f_hides, slots, rdRaw, rdVar, fin, f3, f7, bltW]
/-- the least gap below a number -/
theorem v_first_gap (k : Nat) (a n e m F : Int) (st : Store) (h : Hn a n) (e0 : 0 ≤ e) (e1 : e ≤ 500) (m0 : 1 ≤ m) (m1 : m ≤ 5000) (hF : FirstOk a n (2 * e) F) : fns T (k + 3) i_first_gap [.d (hnD a n), Tu [.int e], Z m] st = some (if F < m then Z F else No, st) := by
  rw [s_first_gap]
  have hi : runI (fns T (k + 2)) (.rng2 (.lit (.int 1)) (.var 2)) [some (.d (hnD a n)), some (Tu [.int e]), some (Z m), none] st = some ((iv 1 (m - 1).toNat).map PyData.int, st) := by
    rw [runI_rng2 (st1 := st) (st2 := st) (i := 1) (j := m) (by simp) (by simp [rdVar]) (by omega) (by omega) (by omega) (by omega)]
  obtain ⟨h', ef⟩ := for_find (g := fun d sl => stTg (.v 3) d sl) (b := fun sl st => runSs (fns T (k + 2)) b0_first_gap sl st) PyData.int (fun x : Option W => [some (.d (hnD a n)), some (Tu [.int e]), some (Z m), x]) st (fun z => decide (dst (a * z) n ≤ 2 * e)) (fun z => Z z) (l := iv 1 (m - 1).toNat) (h := none) fun z hz x => by
    refine ⟨_, some (Z z), rfl, ?_⟩
    have f1 := v_hides k a n e z st h e0 e1
    by_cases c : dst (a * z) n ≤ 2 * e
    · rw [decide_eq_true c] at f1 ⊢
      simp [b0_first_gap, rdRaw, f1]
    · rw [decide_eq_false c] at f1 ⊢
      simp [b0_first_gap, rdRaw, f1]
  by_cases c : F < m
  · rw [if_pos c]
    have hf : (iv 1 (m - 1).toNat).find? (fun z => decide (dst (a * z) n ≤ 2 * e)) = some F := by
      have key : ∀ (n' : Nat) (lo : Int), 1 ≤ lo → lo ≤ F → F < lo + n' → (iv lo n').find? (fun z => decide (dst (a * z) n ≤ 2 * e)) = some F := by
        intro n'
        induction n' with
        | zero => intro lo _ _ _; omega
        | succ n' ih =>
          intro lo l0 l1 l2
          rw [iv_cons]
          by_cases q : lo = F
          · subst q
            exact List.find?_cons_of_pos (p := fun z => decide (dst (a * z) n ≤ 2 * e)) (decide_eq_true hF.near)
          · refine (List.find?_cons_of_neg (p := fun z => decide (dst (a * z) n ≤ 2 * e)) ?_).trans (ih (lo + 1) (by omega) (by omega) (by omega))
            show ¬ decide (dst (a * lo) n ≤ 2 * e) = true
            rw [decide_eq_true_eq]
            intro z
            have := hF.min lo l0 z
            omega
      exact key _ 1 (by omega) hF.f1 (by omega)
    rw [hf] at ef
    have er : runS (fns T (k + 2)) l0_first_gap [some (.d (hnD a n)), some (Tu [.int e]), some (Z m), none] st = _ := run_for_of hi ef
    simp [runF, f_first_gap, slots, rdRaw, rdVar, fin, er]
  · rw [if_neg c]
    have hf : (iv 1 (m - 1).toNat).find? (fun z => decide (dst (a * z) n ≤ 2 * e)) = none := by
      rw [List.find?_eq_none]
      intro z hz q
      rw [decide_eq_true_eq] at q
      obtain ⟨z1, z2⟩ := mem_iv.mp hz
      have := hF.min z z1 q
      omega
    rw [hf] at ef
    have er : runS (fns T (k + 2)) l0_first_gap [some (.d (hnD a n)), some (Tu [.int e]), some (Z m), none] st = _ := run_for_of hi ef
    simp [runF, f_first_gap, slots, rdRaw, rdVar, fin, er]
theorem v_blurred_gap (k : Nat) (a n e m F : Int) (st : Store) (h : Hn a n) (e0 : 0 ≤ e) (e1 : e ≤ 500) (m0 : 1 ≤ m) (m1 : m ≤ 5000) (hF : FirstOk a n (2 * e) F) : fns T (k + 6) i_blurred_gap [.d (hnD a n), Tu [.int e], Z m] st = some (if F < m then Z F else No, st) := by
  rw [s_blurred_gap]
  have f1 := v_need_errors k a n e st h e0 e1
  have f2 := v_need_whole (k + 3) m 1 5000 st m0 m1
  have f3 := v_first_gap (k + 2) a n e m F st h e0 e1 m0 m1 hF
  by_cases c : F < m
  · rw [if_pos c] at f3 ⊢
    simp [runF, f_blurred_gap, slots, rdRaw, rdVar, fin, f1, f2, f3]
  · rw [if_neg c] at f3 ⊢
    simp [runF, f_blurred_gap, slots, rdRaw, rdVar, fin, f1, f2, f3]
theorem v_tell_blurred (k : Nat) (a n e m F : Int) (st : Store) (h : Hn a n) (e0 : 0 ≤ e) (e1 : e ≤ 500) (m0 : 1 ≤ m) (m1 : m ≤ 5000) (hF : FirstOk a n (2 * e) F) : fns T (k + 6) i_tell_blurred [.d (hnD a n), Tu [.int e], Z m] st = some (Bl (decide (m ≤ F)), st) := by
  rw [s_tell_blurred]
  have f1 := v_need_errors k a n e st h e0 e1
  have f2 := v_need_whole (k + 3) m 1 5000 st m0 m1
  have f3 := v_first_gap (k + 2) a n e m F st h e0 e1 m0 m1 hF
  by_cases c : F < m
  · rw [if_pos c] at f3
    rw [decide_eq_false (by omega : ¬ m ≤ F)]
    simp [runF, f_tell_blurred, slots, rdRaw, rdVar, fin, f1, f2, f3]
  · rw [if_neg c] at f3
    rw [decide_eq_true (by omega : m ≤ F)]
    simp [runF, f_tell_blurred, slots, rdRaw, rdVar, fin, f1, f2, f3]
theorem v_fit_at (k : Nat) (a n e m t : Int) (st : Store) (h : Hn a n) (e0 : 0 ≤ e) (e1 : e ≤ 500) (m0 : 0 ≤ m) (m1 : m < n) (t0 : 0 ≤ t) (t1 : t ≤ 10 ^ 6) (hd : dst (a * t - m) n ≤ e) : fns T (k + 6) i_fit_at [.d (hnD a n), Tu [.int e], Tu [.int m], Z t] st = some (Bl true, st) := by
  rw [s_fit_at]
  have f1 := v_need_errors k a n e st h e0 e1
  have f2 := v_need_marks k a n m st h m0 m1
  have f3 := w_is_whole (k + 3) t 0 1000000 st t0 (by omega)
  have f4 : fns T (k + 5) i_need_time [Z t] st = some (No, st) := by
    rw [s_need_time]
    simp [runF, f_need_time, slots, rdRaw, rdVar, fin, f3]
  have f5 := v_distance (k + 3) n (a * t) m st (by have := h.a0; have := h.a1; omega)
  have q : ¬ e < dst (a * t - m) n := by omega
  have m1' : binD .Mult (.int a) (.int t) = some (.int (a * t)) := mul_i (mulOk_l (by have := h.a0; have := h.a1; have := h.n1; omega))
  have f6 : runS (fns T (k + 4)) l0_fits [some (.d (hnD a n)), some (Tu [.int e]), some (Tu [.int m]), some (Z t), none, none, none, none] st = some (.nx, [some (.d (hnD a n)), some (Tu [.int e]), some (Tu [.int m]), some (Z t), some (Z e), some (Z m), some (Z a), some (Z n)], st) := by
    unfold l0_fits
    refine for1 (st1 := st) (x := .tuple [d2 a n, .int e, .int m]) (sl1 := [some (.d (hnD a n)), some (Tu [.int e]), some (Tu [.int m]), some (Z t), some (Z e), some (Z m), some (Z a), some (Z n)]) (by simp [rdVar]) rfl ?_
    simp [b0_fits, rdRaw, rdVar, m1', f5, q]
  have f7 : fns T (k + 5) i_fits [.d (hnD a n), Tu [.int e], Tu [.int m], Z t] st = some (Bl true, st) := by
    rw [s_fits]
    simp [runF, f_fits, slots, rdRaw, rdVar, fin, f6]
  simp [runF, f_fit_at, slots, rdRaw, rdVar, fin, f1, f2, f4, f7]
end WM.K82
namespace WM.K82
open PySem PySem.Spec PyProof.Rows L2 RT
@[simp] theorem stTg_3 (i j l : Nat) (p q r : Int) (sl : Sl) : stTg (.t (.cons (.v i) (.cons (.v j) (.cons (.v l) .nil)))) (.tuple [.int p, .int q, .int r]) sl = some (((sl.set i (some (Z p))).set j (some (Z q))).set l (some (Z r))) := rfl
theorem v_cycle_for (k : Nat) (a n mk : Int) (st : Store) (h : Hn a n) (m0 : 0 ≤ mk) (m1 : mk < n) (hd : mk % (Int.gcd a n : Int) = 0) : fns T (k + 2) i_cycle_for [F2 a n, Z mk] st = some (.d (cy (n / (Int.gcd a n : Int)) (mk / (Int.gcd a n : Int) * bS a n % (n / (Int.gcd a n : Int)))), st) := by
  obtain ⟨h1, h2, h3⟩ := h
  have e1 := v_parts_for k a n st h1 (by omega) (by have := h1_pos; unfold H1 at *; omega) (by have := h1_pos; unfold H1 at *; omega)
  have hs := (bez_bd (A := a) (B := n) (by omega) (by omega) (show a.natAbs ≤ 1000 by omega) (by omega) (by omega)).1
  obtain ⟨g, X, Y, hg, g0, ea, en, X0, Y0, gc, ex, ey⟩ := low_facts h1 (show 0 < n by omega)
  rw [ey]
  simp only [hg] at *
  generalize bS a n = s at *
  generalize bT a n = t at *
  have gn : g ≤ n := by
    have := Int.mul_le_mul_of_nonneg_left (show 1 ≤ Y by omega) (show 0 ≤ g by omega)
    omega
  have yn : Y ≤ n := by
    have := Int.mul_le_mul_of_nonneg_right (show 1 ≤ g by omega) (show 0 ≤ Y by omega)
    omega
  have f1 : binD .Mod (.int mk) (.int g) = some (.int 0) := by rw [mod_i (by omega)]; simp [hd]
  have f2 : binD .FloorDiv (.int n) (.int g) = some (.int Y) := by rw [div_i g0 (small_big (by omega)), ey]
  have f3 : binD .FloorDiv (.int mk) (.int g) = some (.int (mk / g)) := div_i g0 (small_big (by omega))
  have f4 : binD .Mult (.int (mk / g)) (.int s) = some (.int (mk / g * s)) := mul_i (mulOk_r (by omega))
  have f5 : binD .Mod (.int (mk / g * s)) (.int Y) = some (.int (mk / g * s % Y)) := mod_i (by omega)
  rw [s_cycle_for]
  simp [runF, f_cycle_for, slots, rdRaw, rdVar, fin, e1, t3, f1, f2, f3, f4, f5, cy, sizeLine, -stTg, stTg_3]
theorem isnn_cy (c r : Int) : cmpD .IsNot (cy c r) .none = some true := rfl
theorem isn_cy (c r : Int) : cmpD .Is (cy c r) .none = some false := rfl
theorem ix_cy1 (c r : Int) : ixD (cy c r) (.int 1) = some (.int r) := rfl
theorem cy0 : d2 1 0 = cy 1 0 := rfl
theorem met_one {c r : Int} (hc : 0 < c) : metD 1 0 c r = cy c (r % c) := by
  have g1 : (Int.gcd 1 c : Int) = 1 := by simp
  have bz := bez (A := 1) (B := c) (by omega) (by omega)
  unfold metD metR lcmI
  rw [g1] at *
  have e1 : (r - 0) % 1 = 0 := by omega
  rw [if_pos e1]
  have e2 : (1 : Int) / 1 * c = c := by simp
  rw [e2]
  have e3 : (0 + (r - 0) / 1 * bS 1 c * 1) % c = r % c := by
    have e4 : (0 + (r - 0) / 1 * bS 1 c * 1) = r + c * (- r * bT 1 c) := by
      have : bS 1 c = 1 - bT 1 c * c := by omega
      rw [this]
      simp
      grind
    rw [e4, Int.add_mul_emod_self_left]
  rw [e3]
theorem v_time_of (k : Nat) (a n F : Int) (st : Store) (h : Hn a n) (F0 : 0 ≤ F) : fns T (k + 6) i_time_of [.d (hnD a n), Tu [.int (a * F % n)]] st = some (Z (F % (n / (Int.gcd a n : Int))), st) := by
  have h' := h
  obtain ⟨h1, h2, h3⟩ := h'
  have m0 := Int.emod_nonneg (a * F) (show n ≠ 0 by omega)
  have m1 := Int.emod_lt_of_pos (a * F) (show 0 < n by omega)
  have bz := bez (A := a) (B := n) (by omega) (by omega)
  obtain ⟨g, X, Y, hg, g0, ea, en, X0, Y0, gc, ex, ey⟩ := low_facts h1 (show 0 < n by omega)
  have hd : (a * F % n) % g = 0 := by
    have e1 : a * F % n = g * (X * F % Y) := by
      rw [ea, en, Int.mul_assoc, Int.mul_emod_mul_of_pos _ _ g0]
    rw [e1]
    simp
  have e1 := v_cycle_for (k + 2) a n (a * F % n) st h m0 m1 (by rw [hg]; exact hd)
  have e0 := v_need_marks k a n (a * F % n) st h m0 m1
  rw [ey] at e1 ⊢
  rw [hg] at e1 bz
  have hr : a * F % n / g * bS a n % Y = F % Y := by
    have e1 : a * F % n = g * (X * F % Y) := by
      rw [ea, en, Int.mul_assoc, Int.mul_emod_mul_of_pos _ _ g0]
    rw [e1, Int.mul_ediv_cancel_left _ (by omega)]
    have b2 : 1 = bS a n * X + bT a n * Y := by
      have b3 : g * 1 = g * (bS a n * X + bT a n * Y) := by
        generalize bS a n = s at *
        generalize bT a n = t at *
        rw [ea, en] at bz
        grind
      exact Int.eq_of_mul_eq_mul_left (by omega) b3
    generalize bS a n = s at *
    generalize bT a n = t at *
    have b4 : X * F % Y = X * F - Y * (X * F / Y) := by
      have := Int.emod_add_mul_ediv (X * F) Y
      omega
    rw [b4]
    have b5 : (X * F - Y * (X * F / Y)) * s = F + Y * (- t * F - X * F / Y * s) := by
      generalize X * F / Y = q
      have : X * s = 1 - t * Y := by grind
      have b6 : (X * F - Y * q) * s = (X * s) * F - Y * q * s := by grind
      rw [b6, this]
      grind
    rw [b5, Int.add_mul_emod_self_left]
  rw [hr] at e1
  have yn : Y ≤ n := by
    have := Int.mul_le_mul_of_nonneg_right (show 1 ≤ g by omega) (show 0 ≤ Y by omega)
    omega
  have r0 := Int.emod_nonneg F (show Y ≠ 0 by omega)
  have r1 := Int.emod_lt_of_pos F Y0
  have e2 := v_met (k + 2) 1 0 Y (F % Y) st (by omega) Y0 (by have := h1_pos; unfold H1 at *; omega) (by have := h1_pos; unfold H1 at *; omega) (by have := h1_pos; unfold H1 at *; omega)
  rw [met_one Y0, Int.emod_emod] at e2
  generalize a * F % n = mk at *
  have e3 : fns T (k + 5) i_common_for [.d (hnD a n), Tu [.int mk]] st = some (.d (cy Y (F % Y)), st) := by
    rw [s_common_for]
    have e4 : runS (fns T (k + 4)) l0_common_for [some (.d (hnD a n)), some (Tu [.int mk]), some (.d (cy 1 0)), none, none, none] st = some (.nx, [some (.d (hnD a n)), some (Tu [.int mk]), some (.d (cy Y (F % Y))), some (F2 a n), some (Z mk), some (.d (cy Y (F % Y)))], st) := by
      unfold l0_common_for
      refine for1 (st2 := st) (st1 := st) (x := .tuple [d2 a n, .int mk]) (sl1 := [some (.d (hnD a n)), some (Tu [.int mk]), some (.d (cy 1 0)), some (F2 a n), some (Z mk), none]) (by simp [rdVar]) rfl ?_
      simp [b0_common_for, rdRaw, rdVar, e1, e2, isnn_cy, isn_cy]
    simp [runF, f_common_for, slots, rdRaw, rdVar, fin, sizeLine, cy0, e4]
  rw [s_time_of]
  simp [runF, f_time_of, slots, rdRaw, rdVar, fin, e0, e3, isnn_cy, ix_cy1]
end WM.K82
namespace WM.K82
open PySem PySem.Spec PyProof.Rows L2 RT
structure Vn (w n : Int) : Prop where
  w0 : 1 ≤ w
  w1 : w ≤ 1000000
  n0 : 2 ≤ n
  n1 : n ≤ 1000
theorem v_need_vernier (k : Nat) (w n : Int) (st : Store) (h : Vn w n) : fns T (k + 3) i_need_vernier [Z w, Z n] st = some (No, st) := by
  rw [s_need_vernier]
  have e1 := v_need_whole k w 1 1000000 st h.w0 h.w1
  have e2 := v_need_whole k n 2 1000 st h.n0 h.n1
  simp [runF, f_need_vernier, slots, rdRaw, rdVar, fin, e1, e2]
theorem v_need_place (k : Nat) (p q : Int) (st : Store) (h : Rt p q) (p0 : 0 ≤ p) (pq : p ≤ q) (q1 : q ≤ 1000000) : fns T (k + 3) i_need_place [F2 p q] st = some (No, st) := by
  rw [s_need_place]
  have e1 := v_is_ratio k p q st h
  simp [runF, f_need_place, slots, rdRaw, rdVar, fin, e1, p0, pq, q1]
theorem dst_zero {x n : Int} (hn : 0 < n) : dst x n = 0 ↔ x % n = 0 := by
  unfold dst
  have h2 := Int.emod_nonneg x (show n ≠ 0 by omega)
  have h3 := Int.emod_lt_of_pos x hn
  omega
theorem dst_neg (x n : Int) (hn : 0 < n) : dst (-x) n = dst x n := by
  apply Int.le_antisymm
  · obtain ⟨y, e⟩ := dst_at (x := x) hn
    have := dst_le (x := -x) hn (-y)
    have e2 : -x - -y * n = -(x - y * n) := by grind
    rw [e2, Int.natAbs_neg] at this
    omega
  · obtain ⟨y, e⟩ := dst_at (x := -x) hn
    have := dst_le (x := x) hn (-y)
    have e2 : x - -y * n = -(-x - y * n) := by grind
    rw [e2, Int.natAbs_neg] at this
    omega
/-- a place P / Q of a round of n is K parts of n -/
theorem v_rest_at (k : Nat) (w n P Q K j : Int) (st : Store) (h : Vn w n) (Q0 : 0 < Q) (Q1 : Q ≤ 1000) (P1 : P.natAbs ≤ 1000) (hK : P * n = K * Q) (j1 : j.natAbs ≤ 1000) : fns T (k + 1) i_rest_at [Z w, Z n, F2 P Q, Z j] st = some (Z (Q * dst (K + j * w) n), st) := by
  rw [s_rest_at]
  obtain ⟨w0, w1, n0, n1⟩ := h
  have m1 : binD .Mult (.int Q) (.int n) = some (.int (Q * n)) := mul_i (mulOk_l (by omega))
  have m2 : binD .Mult (.int P) (.int n) = some (.int (P * n)) := mul_i (mulOk_l (by omega))
  have m3 : binD .Mult (.int j) (.int w) = some (.int (j * w)) := mul_i (mulOk_l (by omega))
  have m4 : binD .Mult (.int (j * w)) (.int Q) = some (.int (j * w * Q)) := mul_i (mulOk_r (by omega))
  have hQn : 0 < Q * n := Int.mul_pos Q0 (by omega)
  have m5 : binD .Mod (.int (P * n + j * w * Q)) (.int (Q * n)) = some (.int ((P * n + j * w * Q) % (Q * n))) := mod_i hQn
  have e0 : (P * n + j * w * Q) % (Q * n) = Q * ((K + j * w) % n) := by
    have : P * n + j * w * Q = Q * (K + j * w) := by rw [hK]; grind
    rw [this, Int.mul_emod_mul_of_pos _ _ Q0]
  rw [e0] at m5
  have e2 : bltD .mn [.int (Q * ((K + j * w) % n)), .int (Q * n - Q * ((K + j * w) % n))] = some (.int (Q * dst (K + j * w) n)) := by
    show some (PyData.int (if Q * n - Q * ((K + j * w) % n) < Q * ((K + j * w) % n) then Q * n - Q * ((K + j * w) % n) else Q * ((K + j * w) % n))) = _
    unfold dst
    have hd : Q * n - Q * ((K + j * w) % n) = Q * (n - (K + j * w) % n) := by grind
    rw [hd]
    generalize (K + j * w) % n = r
    congr 2
    by_cases c : n - r < r
    · rw [if_pos (Int.mul_lt_mul_of_pos_left c Q0)]
      congr 1
      omega
    · rw [if_neg (fun z => c (Int.lt_of_mul_lt_mul_left z (by omega)))]
      congr 1
      omega
  simp [runF, f_rest_at, slots, rdRaw, rdVar, fin, bltW, m1, m2, m3, m4, m5, e2]
def mr (w n k : Int) : List Int := (iv 0 n.toNat).filter fun j => decide ((k + j * w) % n = 0)
theorem v_marks_reading (k : Nat) (w n K : Int) (st : Store) (h : Vn w n) (k0 : 0 ≤ K) (k1 : K < n) : fns T (k + 4) i_marks_reading [Z w, Z n, Z K] st = some (Tu ((mr w n K).map PyData.int), st) := by
  rw [s_marks_reading]
  have e1 := v_need_vernier k w n st h
  have e2 := v_need_whole (k + 1) K 0 (n - 1) st k0 (by omega)
  obtain ⟨w0, w1, n0, n1⟩ := h
  have hs : sizeLine = 16777216 := sizeLine_eq
  have e3 : runE (fns T (k + 3)) c0_marks_reading [some (Z w), some (Z n), some (Z K), none] st = some (Li ((mr w n K).map PyData.int), st) := by
    unfold c0_marks_reading mr
    refine run_comp_fm (iv 0 n.toNat) PyData.int (fun j => decide ((K + j * w) % n = 0)) PyData.int (runI_rng1 (by simp [rdVar]) (by omega) (by omega)) (by rw [iv_len]; omega) fun j hj => ⟨_, rfl, ?_, fun _ => by simp [rdVar]⟩
    have m1 : binD .Mult (.int j) (.int w) = some (.int (j * w)) := mul_i (mulOk_r (by omega))
    have m2 : binD .Mod (.int (K + j * w)) (.int n) = some (.int ((K + j * w) % n)) := mod_i (by omega)
    simp [rdRaw, rdVar, m1, m2]
  simp [runF, f_marks_reading, slots, rdRaw, rdVar, fin, e1, e2, e3, bltW]
theorem v_reads_all (k : Nat) (w n : Int) (st : Store) (h : Vn w n) : fns T (k + 4) i_reads_all [Z w, Z n] st = some (Bl (decide ((Int.gcd w n : Int) = 1)), st) := by
  rw [s_reads_all]
  simp [runF, f_reads_all, slots, rdRaw, rdVar, fin, bltW, v_need_vernier k w n st h]
theorem v_parts_read (k : Nat) (w n : Int) (st : Store) (h : Vn w n) : fns T (k + 4) i_parts_read [Z w, Z n] st = some (Z (n / (Int.gcd w n : Int)), st) := by
  rw [s_parts_read]
  have n0 := h.n0
  have n1 := h.n1
  have m1 : binD .FloorDiv (.int n) (.int (Int.gcd w n)) = some (.int (n / (Int.gcd w n : Int))) := div_i (gcd_pos (by omega)) (small_big (by have := gcd_le (t := w) (b := n) (by omega); omega))
  simp [runF, f_parts_read, slots, rdRaw, rdVar, fin, bltW, v_need_vernier k w n st h, m1]
theorem v_read_at (k : Nat) (w n j : Int) (st : Store) (h : Vn w n) (j0 : 0 ≤ j) (j1 : j < n) : fns T (k + 4) i_read_at [Z w, Z n, Z j] st = some (Z (-j * w % n), st) := by
  rw [s_read_at]
  have e1 := v_need_vernier k w n st h
  have e2 := v_need_whole (k + 1) j 0 (n - 1) st j0 (by omega)
  obtain ⟨w0, w1, n0, n1⟩ := h
  have m1 : binD .Mult (.int (-j)) (.int w) = some (.int (-j * w)) := mul_i (mulOk_r (by omega))
  have m2 : binD .Mod (.int (-j * w)) (.int n) = some (.int (-j * w % n)) := mod_i (by omega)
  generalize -j * w = z at *
  simp [runF, f_read_at, slots, rdRaw, rdVar, fin, e1, e2, m1, m2]
theorem v_off_at (k : Nat) (w n j : Int) (st : Store) (h : Vn w n) (j0 : 0 ≤ j) (j1 : j < n) : fns T (k + 4) i_off_at [Z w, Z n, F2 0 1, Z j] st = some (F2 (dst (w * j) n / (Int.gcd (dst (w * j) n) n : Int)) (n / (Int.gcd (dst (w * j) n) n : Int)), st) := by
  rw [s_off_at]
  have e1 := v_need_vernier k w n st h
  have e2 := v_need_whole (k + 1) j 0 (n - 1) st j0 (by omega)
  have e3 := v_need_place k 0 1 st ⟨by decide, by decide, by decide, by decide⟩ (by decide) (by decide) (by decide)
  have e4 := v_rest_at (k + 2) w n 0 1 0 j st h (by decide) (by decide) (by decide) (by omega) (by have := h.n1; omega)
  have e5 : 1 * dst (0 + j * w) n = dst (w * j) n := by rw [Int.one_mul, Int.zero_add, Int.mul_comm]
  rw [e5] at e4
  have n0 := h.n0
  have n1 := h.n1
  have e6 := v_cutP (k + 2) (dst (w * j) n) n st (by omega) (by omega)
  have m1 : binD .Mult (.int 1) (.int n) = some (.int n) := by rw [mul_i (mulOk_l (by decide)), Int.one_mul]
  simp [runF, f_off_at, slots, rdRaw, rdVar, fin, e1, e2, e3, e4, e6, m1]
theorem v_greatest_off (k : Nat) (w n : Int) (st : Store) (h : Vn w n) : fns T (k + 4) i_greatest_off [Z w, Z n] st = some (F2 ((Int.gcd w n : Int) / (Int.gcd (Int.gcd w n : Int) (2 * n) : Int)) (2 * n / (Int.gcd (Int.gcd w n : Int) (2 * n) : Int)), st) := by
  rw [s_greatest_off]
  have n0 := h.n0
  have n1 := h.n1
  have e1 := v_need_vernier k w n st h
  have e2 := v_cutP (k + 2) (Int.gcd w n) (2 * n) st (by omega) (by omega)
  have m1 : binD .Mult (.int 2) (.int n) = some (.int (2 * n)) := mul_i (mulOk_l (by decide))
  simp [runF, f_greatest_off, slots, rdRaw, rdVar, fin, bltW, e1, e2, m1]
/-- the marks that read a part lie even -/
theorem mr_eq {w n K g X Y K' : Int} (g0 : 0 < g) (ew : w = g * X) (en : n = g * Y) (eK : K = g * K') (X0 : 0 ≤ X) (Y0 : 0 < Y) (gc : Int.gcd X Y = 1) : ∃ j0, 0 ≤ j0 ∧ j0 < Y ∧ mr w n K = (iv 0 g.toNat).map fun i => j0 + Y * i := by
  have hb := bez X0 (show 0 ≤ Y by omega)
  rw [gc] at hb
  generalize bS X Y = s at *
  generalize bT X Y = t at *
  have j0 := Int.emod_nonneg (-K' * s) (show Y ≠ 0 by omega)
  have j1 := Int.emod_lt_of_pos (-K' * s) Y0
  have jd := Int.emod_add_mul_ediv (-K' * s) Y
  generalize (-K' * s) % Y = j at *
  generalize (-K' * s) / Y = d at *
  have hj : K' + j * X = Y * (K' * t - d * X) := by
    have : j = -K' * s - Y * d := by omega
    rw [this]
    have e1 : K' = K' * (s * X + t * Y) := by rw [← hb]; simp
    grind
  refine ⟨j, j0, j1, ?_⟩
  refine asc_ext ((iv_pw 0 n.toNat).filter _) ?_ fun x => ?_
  · rw [List.pairwise_map]
    refine (iv_pw 0 g.toNat).imp fun {a b} hab => ?_
    have := Int.mul_lt_mul_of_pos_left hab Y0
    omega
  · have hn : 0 < n := by rw [en]; exact Int.mul_pos g0 Y0
    unfold mr
    rw [List.mem_filter, mem_iv, decide_eq_true_eq, List.mem_map]
    have key : (K + x * w) % n = 0 ↔ Y ∣ x - j := by
      have e1 : K + x * w = g * (K' + x * X) := by rw [eK, ew]; grind
      rw [e1, en, Int.mul_emod_mul_of_pos _ _ g0]
      have e2 : K' + x * X = (x - j) * X + Y * (K' * t - d * X) := by rw [← hj]; grind
      rw [e2]
      constructor
      · intro h
        have h : ((x - j) * X + Y * (K' * t - d * X)) % Y = 0 := by
          rcases Int.mul_eq_zero.mp h with q | q
          · omega
          · exact q
        rw [Int.add_mul_emod_self_left] at h
        have := Int.dvd_of_emod_eq_zero h
        rw [Int.mul_comm] at this
        exact dvd_of_cop gc this
      · rintro ⟨c, hc⟩
        rw [hc, Int.mul_assoc, ← Int.mul_add, Int.mul_emod_right, Int.mul_zero]
    rw [key]
    constructor
    · rintro ⟨⟨x0, x1⟩, c, hc⟩
      have hx : x = j + Y * c := by omega
      refine ⟨c, mem_iv.mpr ⟨?_, ?_⟩, by omega⟩
      · have : Y * (-1) < Y * c := by omega
        have := Int.lt_of_mul_lt_mul_left this (by omega)
        omega
      · have h2 : Y * c < Y * g := by
          have : (n.toNat : Int) = g * Y := by rw [← en]; omega
          rw [this] at x1
          have : g * Y = Y * g := Int.mul_comm ..
          omega
        have := Int.lt_of_mul_lt_mul_left h2 (by omega)
        omega
    · rintro ⟨c, hc, rfl⟩
      obtain ⟨c0, c1⟩ := mem_iv.mp hc
      refine ⟨⟨?_, ?_⟩, c, by omega⟩
      · have : 0 ≤ Y * c := Int.mul_nonneg (by omega) c0
        omega
      · have h1 : Y * c ≤ Y * (g - 1) := Int.mul_le_mul_of_nonneg_left (by omega) (by omega)
        have h2 : Y * (g - 1) = g * Y - Y := by grind
        have : (n.toNat : Int) = g * Y := by rw [← en]; omega
        omega
theorem v_best_marks (k : Nat) (w n P Q K g X Y K' : Int) (st : Store) (h : Vn w n) (hR : Rt P Q) (P0 : 0 ≤ P) (PQ : P ≤ Q) (Q1 : Q ≤ 1000) (hK : P * n = K * Q) (g0 : 0 < g) (ew : w = g * X) (en : n = g * Y) (eK : K = g * K') (X0 : 0 ≤ X) (Y0 : 0 < Y) (gc : Int.gcd X Y = 1) : fns T (k + 4) i_best_marks [Z w, Z n, F2 P Q] st = some (Tu ((mr w n K).map PyData.int), st) := by
  rw [s_best_marks]
  have e1 := v_need_vernier k w n st h
  have e3 := v_need_place k P Q st hR P0 PQ (by omega)
  have n0 := h.n0
  have n1 := h.n1
  have Q0 := hR.q0
  have hs : sizeLine = 16777216 := sizeLine_eq
  have e4 : runE (fns T (k + 3)) c0_best_marks [some (Z w), some (Z n), some (F2 P Q), none, none, none] st = some (Li (((iv 0 n.toNat).map fun j => Q * dst (K + j * w) n).map PyData.int), st) := by
    unfold c0_best_marks
    rw [List.map_map]
    refine run_comp_map (iv 0 n.toNat) PyData.int _ (runI_rng1 (by simp [rdVar]) (by omega) (by omega)) (by rw [iv_len]; omega) fun j hj => ⟨_, rfl, ?_⟩
    obtain ⟨j0, j1⟩ := mem_iv.mp hj
    have := v_rest_at (k + 2) w n P Q K j st h Q0 Q1 (by omega) hK (by omega)
    simp [rdRaw, this]
  obtain ⟨j, j0, j1, em⟩ := mr_eq g0 ew en eK X0 Y0 gc
  have hj : j ∈ mr w n K := by
    rw [em]
    exact List.mem_map.mpr ⟨0, mem_iv.mpr ⟨by omega, by omega⟩, by omega⟩
  have hj2 := List.mem_filter.mp hj
  have ne : (iv 0 n.toNat).map (fun j => Q * dst (K + j * w) n) ≠ [] := by
    intro z
    have := congrArg List.length z
    rw [List.length_map, iv_len] at this
    simp at this
    omega
  have e5 : minI ((iv 0 n.toNat).map fun j => Q * dst (K + j * w) n) = 0 := by
    apply Int.le_antisymm
    · have z : Q * dst (K + j * w) n = 0 := by
        rw [(dst_zero (by omega)).mpr (of_decide_eq_true hj2.2), Int.mul_zero]
      have := minI_le (ns := (iv 0 n.toNat).map fun j => Q * dst (K + j * w) n) (List.mem_map.mpr ⟨j, hj2.1, rfl⟩)
      omega
    · obtain ⟨i, hi, e⟩ := List.mem_map.mp (minI_mem ne)
      rw [← e]
      exact Int.mul_nonneg (by omega) (dst_nn (by omega))
  have e6 := mn_ints ne
  rw [e5] at e6
  have e7 : runE (fns T (k + 3)) c1_best_marks [some (Z w), some (Z n), some (F2 P Q), some (Li (((iv 0 n.toNat).map fun j => Q * dst (K + j * w) n).map PyData.int)), some (Z 0), none] st = some (Li ((mr w n K).map PyData.int), st) := by
    unfold c1_best_marks mr
    refine run_comp_fm (iv 0 n.toNat) PyData.int (fun j => decide ((K + j * w) % n = 0)) PyData.int (runI_rng1 (by simp [rdVar]) (by omega) (by omega)) (by rw [iv_len]; omega) fun i hi => ⟨_, rfl, ?_, fun _ => by simp [rdVar]⟩
    obtain ⟨i0, i1⟩ := mem_iv.mp hi
    have e8 : ixD (.list (((iv 0 n.toNat).map fun j => Q * dst (K + j * w) n).map PyData.int)) (.int i) = some (.int (Q * dst (K + i * w) n)) := by
      have c : ((i.toNat : Nat) : Int) = i := by omega
      have q : (((iv 0 n.toNat).map fun j => Q * dst (K + j * w) n).map PyData.int)[i.toNat]? = some (.int (Q * dst (K + i * w) n)) := by
        rw [List.getElem?_map, List.getElem?_map, iv_get (by omega), c, Int.zero_add]
        rfl
      have hl := (List.getElem?_eq_some_iff.mp q).1
      show L2.atI _ i = _
      have h2 : L2.ixN (((iv 0 n.toNat).map fun j => Q * dst (K + j * w) n).map PyData.int).length i = some i.toNat := by
        unfold L2.ixN
        rw [if_pos i0, if_pos (by omega)]
      unfold L2.atI
      rw [h2]
      exact q
    have e9 : decide (Q * dst (K + i * w) n = 0) = decide ((K + i * w) % n = 0) := by
      rw [Bool.eq_iff_iff, decide_eq_true_eq, decide_eq_true_eq, ← dst_zero (show 0 < n by omega)]
      constructor
      · intro z
        rcases Int.mul_eq_zero.mp z with q | q
        · omega
        · exact q
      · intro z
        rw [z, Int.mul_zero]
    rw [← e9]
    generalize ((iv 0 n.toNat).map fun j => Q * dst (K + j * w) n).map PyData.int = LL at *
    generalize Q * dst (K + i * w) n = z at *
    simp [rdRaw, rdVar, e8]
  generalize ((iv 0 n.toNat).map fun j => Q * dst (K + j * w) n).map PyData.int = LL at *
  simp [runF, f_best_marks, slots, rdRaw, rdVar, fin, e1, e3, e4, e6, e7, bltW]
end WM.K82
namespace WM.K82
open PySem PySem.Spec PyProof.Rows L2 RT
theorem v_side2 (k : Nat) (p q r t : Int) (st : Store) (h1 : t.natAbs < 2 ^ 64) (h2 : r.natAbs < 2 ^ 64) : fns T (k + 1) i_side [F2 p q, F2 r t] st = some (Z (p * t - r * q), st) := by
  rw [s_side]
  have e1 : binD .Mult (.int p) (.int t) = some (.int (p * t)) := mul_i (mulOk_r h1)
  have e2 : binD .Mult (.int r) (.int q) = some (.int (r * q)) := mul_i (mulOk_l h2)
  simp [runF, f_side, slots, rdRaw, fin, e1, e2]
theorem nb_loop (Φ : Fn) (st : Store) {X Y bd : Int} (g : Int.gcd X Y = 1) (hY : bd < Y) (o2' o3 : Option W) : ∀ (n : Nat) (o1 o2 t1 t2 r s : Int) (x8 : Option W), s.toNat ≤ n → r < 2 ^ 60 → s < 2 ^ 60 → NbI X Y bd o1 o2 t1 t2 r s → (0 < t2 ∨ o2 + r / s * t2 ≤ bd) →
    ∃ m p1 p2 q1 q2 r' s' y8, whlN (fun sl st => runE Φ t0_neighbors_in sl st) (fun sl st => runSs Φ b0_neighbors_in sl st) m [some (F2 X Y), some (Z bd), o2', o3, some (F2 o1 o2), some (F2 t1 t2), some (Z r), some (Z s), x8] st = some (.nx, [some (F2 X Y), some (Z bd), o2', o3, some (F2 p1 p2), some (F2 q1 q2), some (Z r'), some (Z s'), y8], st) ∧ NbI X Y bd p1 p2 q1 q2 r' s' ∧ 0 < q2 ∧ bd < p2 + r' / s' * q2
  | n, o1, o2, t1, t2, r, s, x8, hn, hr, hs, h, ht => by
    have sp := h.spos g hY
    have w0 : 0 ≤ r / s := Int.ediv_nonneg h.r0 (by omega)
    have w1 : r / s ≤ r := Int.ediv_le_self _ h.r0
    have m1 : binD .FloorDiv (.int r) (.int s) = some (.int (r / s)) := div_i sp (small_big (by omega))
    have m2 : binD .Mult (.int (r / s)) (.int t2) = some (.int (r / s * t2)) := mul_i (mulOk_l (by omega))
    have m3 : binD .Mult (.int (r / s)) (.int t1) = some (.int (r / s * t1)) := mul_i (mulOk_l (by omega))
    have m4 : binD .Mult (.int (r / s)) (.int s) = some (.int (r / s * s)) := mul_i (mulOk_l (by omega))
    by_cases c : o2 + r / s * t2 ≤ bd
    · obtain ⟨_, r0, r1⟩ := div_facts h.r0 sp
      have h' := h.step sp c
      have t2' : 0 < o2 + r / s * t2 := by
        rcases h.det with d | d
        · by_cases z : o2 + r / s * t2 = 0
          · have a1 := h.o20
            have a2 : 0 ≤ r / s * t2 := Int.mul_nonneg w0 h.t20
            have a3 : o2 = 0 := by omega
            have a4 : r / s * t2 = 0 := by omega
            have hy := h.y
            have k1 : t2 ≠ 0 := by
              intro z2
              rw [z2, a3] at hy
              have := h.t2b
              simp at hy
              omega
            have k2 : r / s = 0 := by
              rcases Int.mul_eq_zero.mp a4 with q | q
              · exact q
              · exact absurd q k1
            have k3 := h.rs (by have := h.t20; omega)
            have k4 : 1 ≤ r / s := Int.le_ediv_of_mul_le sp (by omega)
            omega
          · have a1 := h.o20
            have a2 : 0 ≤ r / s * t2 := Int.mul_nonneg w0 h.t20
            omega
        · by_cases z : o2 + r / s * t2 = 0
          · have a1 := h.o20
            have a2 : 0 ≤ r / s * t2 := Int.mul_nonneg w0 h.t20
            have a3 : o2 = 0 := by omega
            have a4 : r / s * t2 = 0 := by omega
            have hy := h.y
            have k1 : t2 ≠ 0 := by
              intro z2
              rw [z2, a3] at hy
              have := h.t2b
              simp at hy
              omega
            have k2 : r / s = 0 := by
              rcases Int.mul_eq_zero.mp a4 with q | q
              · exact q
              · exact absurd q k1
            have k3 := h.rs (by have := h.t20; omega)
            have k4 : 1 ≤ r / s := Int.le_ediv_of_mul_le sp (by omega)
            omega
          · have a1 := h.o20
            have a2 : 0 ≤ r / s * t2 := Int.mul_nonneg w0 h.t20
            omega
      match n, hn with
      | 0, hn => omega
      | n + 1, hn =>
        obtain ⟨m, p1, p2, q1, q2, r', s', y8, e, i1, i2, i3⟩ := nb_loop Φ st g hY o2' o3 n t1 t2 (o1 + r / s * t1) (o2 + r / s * t2) s (r - r / s * s) (some (Z (r / s))) (by omega) hs (by omega) h' (.inl t2')
        refine ⟨m + 1, p1, p2, q1, q2, r', s', y8, ?_, i1, i2, i3⟩
        have et : runE Φ t0_neighbors_in [some (F2 X Y), some (Z bd), o2', o3, some (F2 o1 o2), some (F2 t1 t2), some (Z r), some (Z s), x8] st = some (Bl true, st) := by
          simp [t0_neighbors_in, rdRaw, rdVar, m1, m2, c]
        have eb : runSs Φ b0_neighbors_in [some (F2 X Y), some (Z bd), o2', o3, some (F2 o1 o2), some (F2 t1 t2), some (Z r), some (Z s), x8] st = some (.nx, [some (F2 X Y), some (Z bd), o2', o3, some (F2 t1 t2), some (F2 (o1 + r / s * t1) (o2 + r / s * t2)), some (Z s), some (Z (r - r / s * s)), some (Z (r / s))], st) := by
          simp [b0_neighbors_in, rdRaw, rdVar, m1, m2, m3, m4, okN, sizeLine]
        unfold whlN
        simp only [et, eb, andW_s, truW_b]
        exact e
    · refine ⟨1, o1, o2, t1, t2, r, s, x8, ?_, h, ?_, by omega⟩
      · have et : runE Φ t0_neighbors_in [some (F2 X Y), some (Z bd), o2', o3, some (F2 o1 o2), some (F2 t1 t2), some (Z r), some (Z s), x8] st = some (Bl false, st) := by
          simp [t0_neighbors_in, rdRaw, rdVar, m1, m2, c]
        unfold whlN
        simp only [et, andW_s, truW_b]
      · rcases ht with ht | ht
        · exact ht
        · exact absurd ht c
theorem v_neighbors_in (k : Nat) (X Y bd : Int) (st : Store) (h : Rt X Y) (hX : 0 ≤ X) (h1 : 1 ≤ bd) (hY : bd < Y) : ∃ l1 l2 u1 u2, fns T (k + 2) i_neighbors_in [F2 X Y, Z bd] st = some (Tu [d2 l1 l2, d2 u1 u2], st) ∧ NbF X Y bd l1 l2 u1 u2 := by
  rw [s_neighbors_in]
  have pm := h.pm
  have qm := h.qm
  obtain ⟨m, p1, p2, q1, q2, r', s', y8, e, i1, i2, i3⟩ := nb_loop (fns T (k + 1)) st h.g hY none none Y.toNat 0 1 1 0 X Y none (Nat.le_refl _) (by omega) (by omega) (NbI.init hX h.q0 h1) (.inr (by omega))
  obtain ⟨k0, kl⟩ := i1.last h.g hY i2 i3 h1
  have er : runS (fns T (k + 1)) l0_neighbors_in [some (F2 X Y), some (Z bd), none, none, some (F2 0 1), some (F2 1 0), some (Z X), some (Z Y), none] st = _ := run_whl_of e
  have b1 := i1.t2b
  have b2 := i1.o2b
  have b3 := i1.o20
  have kb : (bd - p2) / q2 ≤ bd - p2 := Int.ediv_le_self _ (by omega)
  have m1 : binD .FloorDiv (.int (bd - p2)) (.int q2) = some (.int ((bd - p2) / q2)) := div_i i2 (small_big (by omega))
  generalize (bd - p2) / q2 = kk at *
  have m2 : binD .Mult (.int kk) (.int q1) = some (.int (kk * q1)) := mul_i (mulOk_l (by omega))
  have m3 : binD .Mult (.int kk) (.int q2) = some (.int (kk * q2)) := mul_i (mulOk_l (by omega))
  have e4 := v_side2 k (p1 + kk * q1) (p2 + kk * q2) X Y st (by omega) (by omega)
  have c0 : ¬ Y ≤ bd := by omega
  generalize (p1 + kk * q1) * Y - X * (p2 + kk * q2) = z at *
  by_cases c : z < 0
  · rw [if_pos c] at kl
    refine ⟨_, _, _, _, ?_, kl⟩
    simp [runF, f_neighbors_in, slots, rdRaw, rdVar, fin, okN, c0, er, m1, m2, m3, e4, c, sizeLine]
  · rw [if_neg c] at kl
    refine ⟨_, _, _, _, ?_, kl⟩
    simp [runF, f_neighbors_in, slots, rdRaw, rdVar, fin, okN, c0, er, m1, m2, m3, e4, c, sizeLine]
theorem v_need_both (k : Nat) (X Y bd : Int) (st : Store) (h : Rt X Y) (hX : 0 ≤ X) (x1 : X ≤ 10 ^ 18) (y1 : Y ≤ 10 ^ 18) (h1 : 1 ≤ bd) (h2 : bd ≤ 10 ^ 18) : fns T (k + 5) i_need_both [F2 X Y, Z bd] st = some (No, st) := by
  have e3 := v_is_from k X Y st h hX x1 y1
  rw [s_need_both]
  have e4 := w_is_whole (k + 3) bd 1 1000000000000000000 st h1 (by omega)
  simp [runF, f_need_both, slots, rdRaw, rdVar, fin, e3, e4]
theorem v_near (k : Nat) (X Y bd : Int) (st : Store) (h : Rt X Y) (hX : 0 ≤ X) (x1 : X ≤ 10 ^ 18) (y1 : Y ≤ 10 ^ 18) (h1 : 1 ≤ bd) (hY : bd < Y) : ∃ l1 l2 u1 u2, fns T (k + 6) i_lower_near [F2 X Y, Z bd] st = some (F2 l1 l2, st) ∧ fns T (k + 6) i_upper_near [F2 X Y, Z bd] st = some (F2 u1 u2, st) ∧ NbF X Y bd l1 l2 u1 u2 := by
  have e1 := v_need_both k X Y bd st h hX x1 y1 h1 (by omega)
  obtain ⟨l1, l2, u1, u2, e2, hf⟩ := v_neighbors_in (k + 3) X Y bd st h hX h1 hY
  refine ⟨l1, l2, u1, u2, ?_, ?_, hf⟩
  · rw [s_lower_near]
    simp [runF, f_lower_near, slots, rdRaw, rdVar, fin, e1, e2]
  · rw [s_upper_near]
    simp [runF, f_upper_near, slots, rdRaw, rdVar, fin, e1, e2]
end WM.K82
namespace WM.K82
open PySem PySem.Spec PyProof.Rows L2 RT
theorem nb_is {X Y bd l1 l2 u1 u2 u0 v0 : Int} (l20 : 0 < l2) (u20 : 0 < u2) (lo : l1 * Y < X * l2) (hi : X * u2 < u1 * Y) (det : u1 * l2 - l1 * u2 = 1) (sum : bd < l2 + u2) (v1 : 1 ≤ v0) (v2 : v0 ≤ bd) (hd : v0 * X - u0 * Y = 1) : u0 = l1 ∧ v0 = l2 ∧ X * l2 - l1 * Y = 1 := by
  have m0 : v0 = (u1 * v0 - u2 * u0) * l2 + (l2 * u0 - l1 * v0) * u2 := by
    have : v0 = v0 * (u1 * l2 - l1 * u2) := by rw [det]; omega
    grind
  have m1 : u0 = (u1 * v0 - u2 * u0) * l1 + (l2 * u0 - l1 * v0) * u1 := by
    have : u0 = u0 * (u1 * l2 - l1 * u2) := by rw [det]; omega
    grind
  have m2 : 1 = (u1 * v0 - u2 * u0) * (X * l2 - l1 * Y) - (l2 * u0 - l1 * v0) * (u1 * Y - X * u2) := by
    have : 1 = (v0 * X - u0 * Y) * (u1 * l2 - l1 * u2) := by rw [det, hd]; omega
    grind
  have p1 : 0 < u1 * v0 - u2 * u0 := by
    have Y0 : 0 < Y := by
      have : 0 < (u1 * Y - X * u2) * l2 + (X * l2 - l1 * Y) * u2 := by
        have a1 := Int.mul_pos (show 0 < u1 * Y - X * u2 by omega) l20
        have a2 := Int.mul_pos (show 0 < X * l2 - l1 * Y by omega) u20
        omega
      have e : (u1 * Y - X * u2) * l2 + (X * l2 - l1 * Y) * u2 = Y := by
        have : Y = Y * (u1 * l2 - l1 * u2) := by rw [det]; omega
        grind
      omega
    have e : (u1 * v0 - u2 * u0) * Y = v0 * (u1 * Y - X * u2) + u2 := by
      have : u2 = u2 * (v0 * X - u0 * Y) := by rw [hd]; omega
      grind
    have a1 := Int.mul_nonneg (show 0 ≤ v0 by omega) (show 0 ≤ u1 * Y - X * u2 by omega)
    by_cases c : 0 < u1 * v0 - u2 * u0
    · exact c
    · have := Int.mul_le_mul_of_nonneg_right (show u1 * v0 - u2 * u0 ≤ 0 by omega) (show 0 ≤ Y by omega)
      omega
  generalize u1 * v0 - u2 * u0 = m at *
  generalize l2 * u0 - l1 * v0 = q at *
  have dl : 1 ≤ X * l2 - l1 * Y := by omega
  have du : 1 ≤ u1 * Y - X * u2 := by omega
  have q0 : q ≤ 0 := by
    by_cases c : q ≤ 0
    · exact c
    · have a1 := Int.mul_le_mul_of_nonneg_right (show 1 ≤ m by omega) (show 0 ≤ l2 by omega)
      have a2 := Int.mul_le_mul_of_nonneg_right (show 1 ≤ q by omega) (show 0 ≤ u2 by omega)
      omega
  generalize X * l2 - l1 * Y = dL at *
  generalize u1 * Y - X * u2 = dU at *
  have a1 : m ≤ m * dL := by
    have := Int.mul_le_mul_of_nonneg_left dl (show 0 ≤ m by omega)
    omega
  have a2 : dL ≤ m * dL := by
    have := Int.mul_le_mul_of_nonneg_right (show 1 ≤ m by omega) (show 0 ≤ dL by omega)
    omega
  have a3 : - q ≤ - q * dU := by
    have := Int.mul_le_mul_of_nonneg_left du (show 0 ≤ - q by omega)
    omega
  have a4 : - q * dU = - (q * dU) := Int.neg_mul ..
  have hm : m = 1 := by omega
  have hq : q = 0 := by omega
  subst hm hq
  omega
theorem nb_is' {X Y bd l1 l2 u1 u2 u0 v0 : Int} (l20 : 0 < l2) (u20 : 0 < u2) (lo : l1 * Y < X * l2) (hi : X * u2 < u1 * Y) (det : u1 * l2 - l1 * u2 = 1) (sum : bd < l2 + u2) (v1 : 1 ≤ v0) (v2 : v0 ≤ bd) (hd : v0 * X - u0 * Y = -1) : u0 = u1 ∧ v0 = u2 ∧ u1 * Y - X * u2 = 1 := by
  have := nb_is (X := -X) (Y := Y) (bd := bd) (l1 := -u1) (l2 := u2) (u1 := -l1) (u2 := l2) (u0 := -u0) (v0 := v0) u20 l20 (by rw [Int.neg_mul, Int.neg_mul]; omega) (by rw [Int.neg_mul, Int.neg_mul]; omega) (by rw [Int.neg_mul, Int.neg_mul]; omega) (by omega) v1 v2 (by rw [Int.mul_neg, Int.neg_mul]; omega)
  rw [Int.neg_mul, Int.neg_mul] at this
  omega
theorem nb_y {X Y l1 l2 u1 u2 : Int} (det : u1 * l2 - l1 * u2 = 1) : (u1 * Y - X * u2) * l2 + (X * l2 - l1 * Y) * u2 = Y := by
  have : Y = Y * (u1 * l2 - l1 * u2) := by rw [det]; omega
  grind
theorem abs_i' (z : Int) : bltD .abs [.int z] = some (.int z.natAbs) := by
  have e : bltD .abs [.int z] = some (.int (if z < 0 then -z else z)) := rfl
  rw [e]
  congr 2
  split <;> omega
theorem stTg_dd (i j : Nat) (p q r t : Int) (sl : Sl) : stTg (.t (.cons (.v i) (.cons (.v j) .nil))) (.tuple [d2 p q, d2 r t]) sl = some ((sl.set i (some (F2 p q))).set j (some (F2 r t))) := rfl
theorem v_nearest (k : Nat) (X Y u0 v0 : Int) (st : Store) (h : Rt X Y) (hX : 0 ≤ X) (x1 : X ≤ 1000) (y1 : Y ≤ 1000) (h1 : 2 ≤ v0) (hY : v0 < Y) (hd : (v0 * X - u0 * Y).natAbs = 1) : fns T (k + 6) i_nearest [F2 X Y, Z v0] st = some (F2 u0 v0, st) := by
  have e1 := v_need_both k X Y v0 st h hX (by omega) (by omega) (by omega) (by omega)
  obtain ⟨l1, l2, u1, u2, e2, ⟨l20, u20, l2b, u2b, lo, hi, det, sum, l10, u10⟩⟩ := v_neighbors_in (k + 3) X Y v0 st h hX (by omega) hY
  have ny := nb_y (X := X) (Y := Y) det
  have dl : 1 ≤ X * l2 - l1 * Y := by omega
  have du : 1 ≤ u1 * Y - X * u2 := by omega
  have b1 : X * l2 - l1 * Y ≤ Y := by
    have a1 := Int.mul_le_mul_of_nonneg_left (show 1 ≤ u2 by omega) (show 0 ≤ X * l2 - l1 * Y by omega)
    have a2 := Int.mul_nonneg (show 0 ≤ u1 * Y - X * u2 by omega) (show 0 ≤ l2 by omega)
    omega
  have b2 : u1 * Y - X * u2 ≤ Y := by
    have a1 := Int.mul_le_mul_of_nonneg_left (show 1 ≤ l2 by omega) (show 0 ≤ u1 * Y - X * u2 by omega)
    have a2 := Int.mul_nonneg (show 0 ≤ X * l2 - l1 * Y by omega) (show 0 ≤ u2 by omega)
    omega
  have g1 : fns T (k + 5) i_gap_of [F2 l1 l2, F2 X Y] st = some (F2 (X * l2 - l1 * Y) (l2 * Y), st) := by
    have e3 := v_side2 (k + 3) l1 l2 X Y st (by omega) (by omega)
    have m1 : binD .Mult (.int l2) (.int Y) = some (.int (l2 * Y)) := mul_i (mulOk_r (by omega))
    have e4 : ((l1 * Y - X * l2).natAbs : Int) = X * l2 - l1 * Y := by omega
    rw [s_gap_of]
    generalize l1 * Y - X * l2 = z at *
    simp [runF, f_gap_of, slots, rdRaw, rdVar, fin, e3, m1, e4, sizeLine, bltW, abs_i']
  have g2 : fns T (k + 5) i_gap_of [F2 u1 u2, F2 X Y] st = some (F2 (u1 * Y - X * u2) (u2 * Y), st) := by
    have e3 := v_side2 (k + 3) u1 u2 X Y st (by omega) (by omega)
    have m1 : binD .Mult (.int u2) (.int Y) = some (.int (u2 * Y)) := mul_i (mulOk_r (by omega))
    have e4 : ((u1 * Y - X * u2).natAbs : Int) = u1 * Y - X * u2 := by omega
    rw [s_gap_of]
    generalize u1 * Y - X * u2 = z at *
    simp [runF, f_gap_of, slots, rdRaw, rdVar, fin, e3, m1, e4, sizeLine, bltW, abs_i']
  have e5 := v_side (k + 4) (X * l2 - l1 * Y) (l2 * Y) (u1 * Y - X * u2) (u2 * Y) st (by omega) (by omega)
  have key : ((X * l2 - l1 * Y) * (u2 * Y) - (u1 * Y - X * u2) * (l2 * Y) = 0 → l2 ≤ u2 ∧ u0 = l1 ∧ v0 = l2) ∧ ((X * l2 - l1 * Y) * (u2 * Y) - (u1 * Y - X * u2) * (l2 * Y) < 0 → u0 = l1 ∧ v0 = l2) ∧ (0 < (X * l2 - l1 * Y) * (u2 * Y) - (u1 * Y - X * u2) * (l2 * Y) → u0 = u1 ∧ v0 = u2) := by
    have ee : (X * l2 - l1 * Y) * (u2 * Y) - (u1 * Y - X * u2) * (l2 * Y) = Y * ((X * l2 - l1 * Y) * u2 - (u1 * Y - X * u2) * l2) := by grind
    rw [ee]
    have Y0 : 0 < Y := h.q0
    have s0 : ∀ z : Int, (Y * z = 0 ↔ z = 0) ∧ (Y * z < 0 ↔ z < 0) ∧ (0 < Y * z ↔ 0 < z) := by
      intro z
      have t1 : z ≤ 0 → Y * z ≤ 0 := fun q => by
        have := Int.mul_le_mul_of_nonneg_left q (show 0 ≤ Y by omega)
        omega
      have t2 : 0 < z → 0 < Y * z := fun q => Int.mul_pos Y0 q
      have t3 : z < 0 → Y * z < 0 := fun q => by
        have := Int.mul_pos Y0 (show 0 < -z by omega)
        rw [Int.mul_neg] at this
        omega
      have t4 : z = 0 → Y * z = 0 := fun q => by rw [q]; omega
      omega
    simp only [s0]
    rcases (show v0 * X - u0 * Y = 1 ∨ v0 * X - u0 * Y = -1 by omega) with d | d
    · obtain ⟨a1, a2, a3⟩ := nb_is l20 u20 lo hi det sum (by omega) (by omega) d
      rw [a3]
      have t1 := Int.mul_le_mul_of_nonneg_right du (show 0 ≤ l2 by omega)
      rw [Int.one_mul]
      refine ⟨fun q => ⟨by omega, a1, a2⟩, fun _ => ⟨a1, a2⟩, fun q => by omega⟩
    · obtain ⟨a1, a2, a3⟩ := nb_is' l20 u20 lo hi det sum (by omega) (by omega) d
      rw [a3]
      have t1 := Int.mul_le_mul_of_nonneg_right dl (show 0 ≤ u2 by omega)
      rw [Int.one_mul]
      refine ⟨fun q => ?_, fun q => by omega, fun _ => ⟨a1, a2⟩⟩
      exfalso
      have t2 : l2 = u2 := by omega
      rw [t2] at det
      have t3 : u2 ∣ 1 := ⟨u1 - l1, by grind⟩
      have t4 := Int.le_of_dvd (by omega) t3
      omega
  obtain ⟨k1, k2, k3⟩ := key
  rw [s_nearest]
  generalize (X * l2 - l1 * Y) * (u2 * Y) - (u1 * Y - X * u2) * (l2 * Y) = z at *
  generalize X * l2 - l1 * Y = dL at *
  generalize u1 * Y - X * u2 = dU at *
  by_cases c : z = 0
  · obtain ⟨c1, c2, c3⟩ := k1 c
    subst c c2 c3
    simp [runF, f_nearest, slots, rdRaw, rdVar, fin, -stTg, stTg_dd, e1, e2, g1, g2, e5, c1]
  · by_cases c2 : z < 0
    · obtain ⟨c3, c4⟩ := k2 c2
      subst c3 c4
      simp [runF, f_nearest, slots, rdRaw, rdVar, fin, -stTg, stTg_dd, e1, e2, g1, g2, e5, c, c2]
    · obtain ⟨c3, c4⟩ := k3 (by omega)
      subst c3 c4
      simp [runF, f_nearest, slots, rdRaw, rdVar, fin, -stTg, stTg_dd, e1, e2, g1, g2, e5, c, c2]
end WM.K82
namespace WM.K82
open PySem PySem.Spec PyProof.Rows L2 RT
open RT in
structure Tm (q : Rat) : Prop where
  lo : 0 ≤ q
  hi : q < 1
  d : q.den ≤ 10 ^ 6
theorem num_bounds {q : Rat} (h0 : 0 ≤ q) (h1 : q < 1) : 0 ≤ q.num ∧ q.num < q.den := by
  refine ⟨Rat.num_nonneg.mpr h0, ?_⟩
  have := (Rat.lt_iff q 1).mp h1
  simpa using this
theorem Tm.num {q : Rat} (h : Tm q) : 0 ≤ q.num ∧ q.num < q.den := num_bounds h.lo h.hi
theorem Tm.bd {q : Rat} (h : Tm q) : Bd q (10 ^ 6) (10 ^ 6) := ⟨by have := h.num; have := h.d; omega, h.d⟩
theorem v_is_part (k : Nat) (q : Rat) (st : Store) (h : Tm q) : fns T (k + 3) i_is_part [P q, Z 1000000] st = some (Bl true, st) := by
  rw [s_is_part]
  have nb := h.num
  have hd := h.d
  have e1 : fns T (k + 2) i_is_ratio [P q] st = some (Bl true, st) := v_is_ratio k q.num q.den st ⟨by have := q.den_pos; omega, by have := q.reduced; unfold Int.gcd; simpa using this, by omega, by omega⟩
  simp [runF, f_is_part, slots, rdRaw, rdVar, fin, e1, h.lo, nb.2, show (q.den : Int) ≤ 1000000 by omega]
theorem v_need_found (k : Nat) (a b : Int) (p q : Rat) (st : Store) (a1 : 1 ≤ a) (a2 : a ≤ 1000) (b1 : 1 ≤ b) (b2 : b ≤ 1000) (hp : Tm p) (hq : Tm q) : fns T (k + 4) i_need_found [Z a, Z b, P p, P q] st = some (No, st) := by
  rw [s_need_found]
  have e1 := v_need_whole (k + 1) a 1 1000 st a1 a2
  have e2 := v_need_whole (k + 1) b 1 1000 st b1 b2
  simp [runF, f_need_found, slots, rdRaw, rdVar, fin, e1, e2, v_is_part _ p _ hp, v_is_part _ q _ hq]
theorem v_rest_of (k : Nat) (p : Rat) (st : Store) (sp : Sm p) : fns T (k + 2) i_rest_of [P p] st = some (P (fr p), st) := by
  rw [s_rest_of]
  have e1 := v_cut k (p.num % p.den) p.den st (den_pos' p) (big1 sp.d')
  rw [fr_div] at e1
  simp [runF, f_rest_of, slots, rdRaw, rdVar, fin, mod_i (den_pos' p), e1]
theorem v_times (k : Nat) (p : Rat) (n : Int) (st : Store) (sp : Sm p) (hn : n.natAbs < 2 ^ 1000) : fns T (k + 2) i_times [P p, Z n] st = some (P (p * (n : Rat)), st) := by
  rw [s_times]
  have e1 := v_cut k (p.num * n) p.den st (den_pos' p) (big1 sp.d')
  rw [muli_div] at e1
  simp [runF, f_times, slots, rdRaw, rdVar, fin, Sm.mul_ok sp.n hn, e1]
theorem half_iff (q : Rat) : 2 * q.num < q.den ↔ q < 1 / 2 := by
  rw [Rat.lt_iff]
  have h1 : ((1 : Rat) / 2).num = 1 := by decide +kernel
  have h2 : ((1 : Rat) / 2).den = 2 := by decide +kernel
  rw [h1, h2]
  omega
theorem v_way_to (k : Nat) (p q : Rat) (st : Store) {N D M E : Nat} (hp : Bd p N D) (hq : Bd q M E) (c1 : N < 2 ^ 400) (c2 : D < 2 ^ 400) (c3 : M < 2 ^ 400) (c4 : E < 2 ^ 400) : fns T (k + 3) i_way_to [P p, P q] st = some (P (wy (p - q)), st) := by
  rw [s_way_to]
  have big : (2 : Nat) ^ 400 ≤ 2 ^ 1000 := Nat.pow_le_pow_right (by omega) (by omega)
  have sp : Sm p := hp.sm (by omega) (by omega)
  have sq : Sm q := hq.sm (by omega) (by omega)
  have e1 := v_times k q (-1) st sq (by decide +kernel)
  have en : q * ((-1 : Int) : Rat) = -q := by
    rw [Rat.intCast_neg, Rat.intCast_one]
    grind
  rw [en] at e1
  have sn : Sm (-q) := hq.neg.sm (by omega) (by omega)
  have e2 := v_sum_two k p (-q) st sp sn
  have ep : p + -q = p - q := by grind
  rw [ep] at e2
  have bs := hp.add hq.neg
  rw [ep] at bs
  have sm : ∀ {a b : Nat}, a < 2 ^ 400 → b < 2 ^ 400 → a * b ≤ 2 ^ 800 := fun {a b} x y => by
    have := Nat.mul_le_mul (Nat.le_of_lt x) (Nat.le_of_lt y)
    rwa [← Nat.pow_add] at this
  have g1 : (2 : Nat) ^ 800 < 2 ^ 999 := Nat.pow_lt_pow_right (by omega) (by omega)
  have g2 : (2 : Nat) ^ 1000 = 2 * 2 ^ 999 := by rw [show 1000 = 999 + 1 from rfl, Nat.pow_succ, Nat.mul_comm]
  have z1 := sm c1 c4
  have z2 := sm c3 c2
  have z3 := sm c2 c4
  have ss : Sm (p - q) := bs.sm (by omega) (by omega)
  have e3 := v_rest_of (k) (p - q) st ss
  have sf : Sm (fr (p - q)) := bs.fr.sm (by omega) (by omega)
  have e5 : (d2 (-1) 1 : PyData) = pr (-1) := rfl
  have e6 := v_sum_two k (fr (p - q)) (-1) st sf ⟨by decide +kernel, by decide +kernel⟩
  have e7 : fr (p - q) + -1 = fr (p - q) - 1 := by grind
  rw [e7] at e6
  have e8 : binD .Mult (.int 2) (.int (fr (p - q)).num) = some (.int (2 * (fr (p - q)).num)) := mul_i (mulOk_l (by decide))
  have hh := half_iff (fr (p - q))
  unfold wy
  by_cases c : fr (p - q) < 1 / 2
  · rw [if_pos c]
    have c' := hh.mpr c
    simp [runF, f_way_to, slots, rdRaw, rdVar, fin, e1, e2, e3, e8, c']
  · rw [if_neg c]
    have c' : ¬ 2 * (fr (p - q)).num < (fr (p - q)).den := fun z => c (hh.mp z)
    simp only [Int.not_lt] at c'
    have c'' : decide (2 * (fr (p - q)).num < (fr (p - q)).den) = false := decide_eq_false (by omega)
    simp [runF, f_way_to, slots, rdRaw, rdVar, fin, e1, e2, e3, e8, c'', e5, e6, sizeLine]
def way (a b : Int) (p q : Rat) : Rat := wy (p * (b : Rat) + q * ((-a : Int) : Rat))
def wr (a b : Int) (p q : Rat) : Rat := Rat.divInt (-(way a b p q).num) ((way a b p q).den * (a + b))
theorem way_bd {a b : Int} {p q : Rat} (a1 : 1 ≤ a) (a2 : a ≤ 1000) (b1 : 1 ≤ b) (b2 : b ≤ 1000) (hp : Tm p) (hq : Tm q) : Bd (way a b p q) (2 * 10 ^ 12) (10 ^ 12) := by
  unfold way
  have b1 := (hp.bd.muli (n := b) (M := 1000) (by omega)).add (hq.bd.muli (n := -a) (M := 1000) (by omega))
  exact b1.wy.mono (by decide) (by decide)
theorem wr_bd {a b : Int} {p q : Rat} (a1 : 1 ≤ a) (a2 : a ≤ 1000) (b1 : 1 ≤ b) (b2 : b ≤ 1000) (hp : Tm p) (hq : Tm q) : Bd (wr a b p q) (2 * 10 ^ 12) (2000 * 10 ^ 12) := by
  have bw := way_bd a1 a2 b1 b2 hp hq
  unfold wr
  refine Bd.of_divInt (Int.mul_pos (den_pos' _) (by omega)) (by rw [Int.natAbs_neg]; exact bw.n) ?_
  rw [Int.natAbs_mul, Nat.mul_comm]
  exact Nat.mul_le_mul (by omega) (by simpa using bw.d)
theorem v_settled (k : Nat) (a b : Int) (p q : Rat) (st : Store) (a1 : 1 ≤ a) (a2 : a ≤ 1000) (b1 : 1 ≤ b) (b2 : b ≤ 1000) (gc : Int.gcd a b = 1) (hp : Tm p) (hq : Tm q) : ∃ y, fns T (k + 6) i_settled [Z a, Z b, P p, P q] st = some (.d (.tuple [y, pr (ab (wr a b p q))]), st) := by
  rw [s_settled]
  have e1 := v_parts_for (k + 4) a b st (by omega) (by omega) (by have := h1_pos; unfold H1 at *; omega) (by have := h1_pos; unfold H1 at *; omega)
  obtain ⟨hs, ht⟩ := bez_bd (A := a) (B := b) (by omega) (by omega) (show a.natAbs ≤ 1000 by omega) (by omega) (by omega)
  rw [gc] at e1
  unfold t3 at e1
  generalize bS a b = s at *
  generalize bT a b = t at *
  have f1 : binD .FloorDiv (.int a) (.int 1) = some (.int a) := by rw [div_i (by omega) (small_big (by decide)), Int.ediv_one]
  have f2 : binD .FloorDiv (.int b) (.int 1) = some (.int b) := by rw [div_i (by omega) (small_big (by decide)), Int.ediv_one]
  have sp : Sm p := hp.bd.sm (by decide +kernel) (by decide +kernel)
  have sq : Sm q := hq.bd.sm (by decide +kernel) (by decide +kernel)
  have sml : ∀ z : Int, z.natAbs ≤ 1000 → z.natAbs < 2 ^ 1000 := fun z h => Nat.lt_of_le_of_lt h (by decide +kernel)
  have g1 := v_times (k + 3) p b st sp (sml b (by omega))
  have g2 := v_times (k + 3) q (-a) st sq (sml (-a) (by omega))
  have c1 := hp.bd.muli (n := b) (M := 1000) (by omega)
  have c2 := hq.bd.muli (n := -a) (M := 1000) (by omega)
  have g3 := v_sum_two (k + 3) (p * (b : Rat)) (q * ((-a : Int) : Rat)) st (c1.sm (by decide +kernel) (by decide +kernel)) (c2.sm (by decide +kernel) (by decide +kernel))
  have c3 := c1.add c2
  have c0 : Bd (0 : Rat) 1 1 := ⟨by decide, by decide⟩
  have g4 := v_way_to (k + 2) (p * (b : Rat) + q * ((-a : Int) : Rat)) 0 st c3 c0 (by decide +kernel) (by decide +kernel) (by decide +kernel) (by decide +kernel)
  have ew : wy (p * (b : Rat) + q * ((-a : Int) : Rat) - 0) = way a b p q := by
    unfold way
    congr 1
    grind
  rw [ew] at g4
  have bw := way_bd a1 a2 b1 b2 hp hq
  have sw : Sm (way a b p q) := bw.sm (by decide +kernel) (by decide +kernel)
  have f3 : binD .Mult (.int (way a b p q).den) (.int (a + b)) = some (.int ((way a b p q).den * (a + b))) := mul_i (mulOk_r (by omega))
  have bz : ((way a b p q).den * (a + b) : Int).natAbs < BIG := by
    rw [Int.natAbs_mul]
    have := Nat.mul_le_mul (show ((way a b p q).den : Int).natAbs ≤ 10 ^ 12 by simpa using bw.d) (show (a + b).natAbs ≤ 2000 by omega)
    exact lt_big (Nat.lt_of_le_of_lt this (by decide +kernel))
  have g5 := v_cut (k + 4) (-(way a b p q).num) ((way a b p q).den * (a + b)) st (Int.mul_pos (den_pos' _) (by omega)) bz
  have bwr := wr_bd a1 a2 b1 b2 hp hq
  have swr : Sm (wr a b p q) := bwr.sm (by decide +kernel) (by decide +kernel)
  have g5' : fns T (k + 5) i_cut [Z (-(way a b p q).num), Z ((way a b p q).den * (a + b))] st = some (P (wr a b p q), st) := g5
  generalize wr a b p q = w at *
  have m1 : ∀ z : Rat, z * ((-1 : Int) : Rat) = -z := fun z => by
    rw [Rat.intCast_neg, Rat.intCast_one]
    grind
  have g6 := v_sum_two (k + 3) p w st sp swr
  have g7 := v_times (k + 3) w (-1) st swr (by decide +kernel)
  rw [m1] at g7
  have g8 := v_sum_two (k + 3) q (-w) st sq (bwr.neg.sm (by decide +kernel) (by decide +kernel))
  have b4 := hp.bd.add bwr
  have b5 := hq.bd.add bwr.neg
  have g9 := v_times (k + 3) (p + w) s st (b4.sm (by decide +kernel) (by decide +kernel)) (sml s hs)
  have ga := v_times (k + 3) (q + -w) t st (b5.sm (by decide +kernel) (by decide +kernel)) (sml t ht)
  have b6 := b4.muli (n := s) (M := 1000) hs
  have b7 := b5.muli (n := t) (M := 1000) ht
  have gb := v_sum_two (k + 3) ((p + w) * (s : Rat)) ((q + -w) * (t : Rat)) st (b6.sm (by decide +kernel) (by decide +kernel)) (b7.sm (by decide +kernel) (by decide +kernel))
  have b8 := b6.add b7
  have gc := v_rest_of (k + 3) ((p + w) * (s : Rat) + (q + -w) * (t : Rat)) st (b8.sm (by decide +kernel) (by decide +kernel))
  generalize (p + w) * (s : Rat) + (q + -w) * (t : Rat) = z at *
  have b9 := b8.fr
  have s6 : Sm (fr z) := b9.sm (by decide +kernel) (by decide +kernel)
  have f4 : binD .Mult (.int (fr z).den) (.int 1) = some (.int ((fr z).den * 1)) := mul_i (mulOk_r (by decide))
  rw [Int.mul_one] at f4
  have gd := v_cut (k + 4) (fr z).num (fr z).den st (den_pos' _) (big1 s6.d')
  rw [Rat.num_divInt_den] at gd
  have ge := v_rest_of (k + 3) (fr z) st s6
  have e0 : (d2 0 1 : PyData) = pr 0 := rfl
  have ee : (d2 (if w.num < 0 then -w.num else w.num) w.den : PyData) = pr (ab w) := by
    unfold pr
    rw [ab_num, ab_den]
    rfl
  generalize q * ((-a : Int) : Rat) = qa at g2 g3 g4
  generalize p * (b : Rat) = pb at g1 g3 g4
  refine ⟨pr (fr (fr z)), ?_⟩
  simp only [runF, f_settled, slots, List.length, List.map, List.replicate, List.append, runSs, runS, runE, runEs, rdRaw, rdVar, andW_s, andD_s, e1, okN, stTg, stTgs]
  simp [rdVar, rdRaw, f1, f2, g1, g2, g3, e0, sizeLine, g4, f3, g5', g6, g7, g8, g9, ga, gb, gc, f4, gd, ge, abs_b, ee, bltW, fin, e1]
theorem v_least_error (k : Nat) (a b : Int) (p q : Rat) (st : Store) (a1 : 1 ≤ a) (a2 : a ≤ 1000) (b1 : 1 ≤ b) (b2 : b ≤ 1000) (gc : Int.gcd a b = 1) (hp : Tm p) (hq : Tm q) : fns T (k + 7) i_least_error [Z a, Z b, P p, P q] st = some (P (ab (wr a b p q)), st) := by
  obtain ⟨y, e1⟩ := v_settled k a b p q st a1 a2 b1 b2 gc hp hq
  have e2 := v_need_found (k + 2) a b p q st a1 a2 b1 b2 hp hq
  rw [s_least_error]
  have e3 : ixD (.tuple [y, pr (ab (wr a b p q))]) (.int 1) = some (pr (ab (wr a b p q))) := rfl
  generalize ab (wr a b p q) = z at *
  simp [runF, f_least_error, slots, rdRaw, rdVar, fin, e1, e2, e3]
end WM.K82
namespace WM.K82
open PySem PySem.Spec PyProof.Rows L2 RT
theorem ab_div {w c : Rat} (hc : 0 < c) : ab (w / c) = ab w / c := by
  unfold ab
  have e : w / c < 0 ↔ w < 0 := by
    rw [Rat.div_lt_iff hc, Rat.zero_mul]
  by_cases h : w < 0
  · rw [if_pos h, if_pos (e.mpr h)]
    grind
  · rw [if_neg h, if_neg (fun z => h (e.mp z))]
theorem ab_wr {a b : Int} {p q : Rat} (h : 0 < a + b) : ab (wr a b p q) = ab (way a b p q) / ((a + b : Int) : Rat) := by
  unfold wr
  generalize way a b p q = w
  generalize a + b = c at *
  have hc : (0 : Rat) < (c : Rat) := Rat.intCast_lt_intCast.mpr h
  rw [Rat.divInt_eq_div, Rat.intCast_neg, Rat.intCast_mul, ← ab_div hc, ← ab_neg (w / c)]
  have e := eq_div w
  have d := den_ne w
  congr 1
  grind
theorem ab_wy_div {t n : Int} (hn : 0 < n) : ab (wy (Rat.divInt t n)) = Rat.divInt (dst t n) n := by
  have c : (0 : Rat) < (n : Rat) := Rat.intCast_lt_intCast.mpr hn
  rw [ab_wy, fr_divInt hn]
  unfold dst
  generalize t % n = m
  have e : (Rat.divInt m n ≤ 1 - Rat.divInt m n) ↔ m ≤ n - m := by
    have e1 : 1 - Rat.divInt m n = Rat.divInt (n - m) n := by
      rw [Rat.divInt_eq_div, Rat.divInt_eq_div, Rat.intCast_sub]
      grind
    rw [e1, Rat.divInt_eq_div, Rat.divInt_eq_div]
    have e2 : (m : Rat) / n ≤ ((n - m : Int) : Rat) / n ↔ (m : Rat) ≤ ((n - m : Int) : Rat) := by
      rw [← Rat.not_lt, ← Rat.not_lt, Rat.div_lt_iff c, Rat.div_mul_cancel (by grind)]
    rw [e2, Rat.intCast_le_intCast]
  by_cases h : m ≤ n - m
  · rw [if_pos (e.mpr h), Int.min_eq_left h]
  · rw [if_neg (fun z => h (e.mp z)), Int.min_eq_right (by omega), Rat.divInt_eq_div, Rat.divInt_eq_div, Rat.intCast_sub]
    grind
theorem two_law {a b r1 r2 n : Int} (h : 0 < a + b) (hn : 0 < n) : ab (wr a b (Rat.divInt r1 n) (Rat.divInt r2 n)) = Rat.divInt (dst (b * r1 - a * r2) n) (n * (a + b)) := by
  have c : (0 : Rat) < (n : Rat) := Rat.intCast_lt_intCast.mpr hn
  have c2 : (0 : Rat) < ((a + b : Int) : Rat) := Rat.intCast_lt_intCast.mpr h
  rw [ab_wr h]
  unfold way
  have e : Rat.divInt r1 n * (b : Rat) + Rat.divInt r2 n * ((-a : Int) : Rat) = Rat.divInt (b * r1 - a * r2) n := by
    rw [Rat.divInt_eq_div, Rat.divInt_eq_div, Rat.divInt_eq_div, Rat.intCast_neg, Rat.intCast_sub, Rat.intCast_mul, Rat.intCast_mul]
    grind
  rw [e, ab_wy_div hn, Rat.divInt_eq_div, Rat.divInt_eq_div, Rat.intCast_mul]
  generalize ((a + b : Int) : Rat) = y at *
  grind
theorem tm_div {r n : Int} (r0 : 0 ≤ r) (r1 : r < n) (hn : n ≤ 10 ^ 6) : Tm (Rat.divInt r n) := by
  have h0 : 0 < n := by omega
  have c : (0 : Rat) < (n : Rat) := Rat.intCast_lt_intCast.mpr h0
  refine ⟨?_, ?_, ?_⟩
  · rw [Rat.divInt_eq_div, ← Rat.not_lt, Rat.div_lt_iff c, Rat.zero_mul, Rat.not_lt]
    exact Rat.intCast_le_intCast.mpr r0
  · rw [Rat.divInt_eq_div, Rat.div_lt_iff c, Rat.one_mul]
    exact Rat.intCast_lt_intCast.mpr r1
  · have := divInt_den_le (t := r) h0
    omega
theorem pr_div {t n : Int} (hn : 0 < n) : P (Rat.divInt t n) = F2 (t / (Int.gcd t n : Int)) (n / (Int.gcd t n : Int)) := by
  show W.d (.tuple [.int (Rat.divInt t n).num, .int (Rat.divInt t n).den]) = _
  rw [cut_num t n hn, cut_den t n hn]
  rfl
theorem pr_lk (q : Rat) : Lk 1 (pr q) := by
  intro x hx
  simp only [List.mem_cons, List.not_mem_nil, or_false] at hx
  rcases hx with rfl | rfl <;> exact True.intro
theorem v_law_two_right (k : Nat) (x y : Int) (st : Store) : ∃ a' b', fns T (k + 12) i__law_two_right [.m 0] (cup x y :: st) = some (Bl true, cup a' b' :: st) := by
  obtain ⟨ra, x1, y1, s1, l1, u1⟩ := v_roll (k + 10) 30 x y st (by omega) (by omega)
  obtain ⟨rb, x2, y2, s2, l2, u2⟩ := v_roll (k + 10) 30 x1 y1 st (by omega) (by omega)
  obtain ⟨rn, x3, y3, s3, l3, u3⟩ := v_roll (k + 10) 40 x2 y2 st (by omega) (by omega)
  obtain ⟨r1, x4, y4, s4, l4, u4⟩ := v_roll (k + 10) (1 + rn) x3 y3 st (by omega) (by omega)
  obtain ⟨r2, x5, y5, s5, l5, u5⟩ := v_roll (k + 10) (1 + rn) x4 y4 st (by omega) (by omega)
  refine ⟨x5, y5, ?_⟩
  rw [s__law_two_right]
  generalize hn : 1 + rn = n at *
  have b1 := v_law_low (k + 9) (1 + ra) (1 + rb) (cup x2 y2 :: st) (by omega) (by omega) (by omega)
  obtain ⟨g, A, B, _, g0, ea, eb, A0, B0, gc, ex, ey⟩ := low_facts (show 0 ≤ 1 + ra by omega) (show 0 < 1 + rb by omega)
  rw [ex, ey] at b1
  have A1 : 1 ≤ A := by
    rcases (show A = 0 ∨ 1 ≤ A by omega) with z | z
    · rw [z] at ea; omega
    · exact z
  have Ab : A ≤ 30 := by
    have := Int.mul_le_mul_of_nonneg_right (show 1 ≤ g by omega) A0
    omega
  have Bb : B ≤ 30 := by
    have := Int.mul_le_mul_of_nonneg_right (show 1 ≤ g by omega) (show 0 ≤ B by omega)
    omega
  have b2 := v_law_low (k + 9) r1 n (cup x4 y4 :: st) (by omega) (by omega) (by omega)
  have b3 := v_law_low (k + 9) r2 n (cup x5 y5 :: st) (by omega) (by omega) (by omega)
  obtain ⟨g1, X1, Y1, hg1, p1, ea1, en1, X10, Y10, _, ex1, ey1⟩ := low_facts l4 (show 0 < n by omega)
  obtain ⟨g2, X2, Y2, hg2, p2, ea2, en2, X20, Y20, _, ex2, ey2⟩ := low_facts l5 (show 0 < n by omega)
  have t1 := tm_div l4 u4 (by omega)
  have t2 := tm_div l5 u5 (by omega)
  have q1 := pr_div (t := r1) (show 0 < n by omega)
  have q2 := pr_div (t := r2) (show 0 < n by omega)
  have le := v_least_error (k + 4) A B (Rat.divInt r1 n) (Rat.divInt r2 n) (cup x5 y5 :: st) A1 (by omega) B0 (by omega) gc t1 t2
  rw [two_law (by omega) (by omega), q1, q2] at le
  rw [ex1, ey1] at le b2
  rw [ex2, ey2] at le b3
  have d1 := v_law_distance (k + 10) (B * r1 - A * r2) n (cup x5 y5 :: st) (by omega)
  have dn := dst_nn (x := B * r1 - A * r2) (show 0 < n by omega)
  have nb : n * (A + B) ≤ 40 * 60 := Int.mul_le_mul (by omega) (by omega) (by omega) (by omega)
  have np : 0 < n * (A + B) := Int.mul_pos (by omega) (by omega)
  have b4 := v_law_low (k + 9) (dst (B * r1 - A * r2) n) (n * (A + B)) (cup x5 y5 :: st) dn np (by omega)
  have q3 := pr_div (t := dst (B * r1 - A * r2) n) np
  have lk : fns T (k + 11) i__law_like [P (Rat.divInt (dst (B * r1 - A * r2) n) (n * (A + B))), P (Rat.divInt (dst (B * r1 - A * r2) n) (n * (A + B)))] (cup x5 y5 :: st) = some (Bl true, cup x5 y5 :: st) := v_law_like 1 (k + 8) (pr (Rat.divInt (dst (B * r1 - A * r2) n) (n * (A + B)))) (cup x5 y5 :: st) (pr_lk _)
  rw [q3] at lk le
  have hY1 : Y1 ≤ n := by
    have := Int.mul_le_mul_of_nonneg_right (show 1 ≤ g1 by omega) (show 0 ≤ Y1 by omega)
    omega
  have hY2 : Y2 ≤ n := by
    have := Int.mul_le_mul_of_nonneg_right (show 1 ≤ g2 by omega) (show 0 ≤ Y2 by omega)
    omega
  have m1 : binD .Mult (.int B) (.int X1) = some (.int (B * X1)) := mul_i (mulOk_l (by omega))
  have m2 : binD .Mult (.int A) (.int X2) = some (.int (A * X2)) := mul_i (mulOk_l (by omega))
  have m3 : binD .FloorDiv (.int n) (.int Y1) = some (.int g1) := by
    rw [div_i Y10 (small_big (by omega)), en1, Int.mul_ediv_cancel _ (by omega)]
  have m4 : binD .FloorDiv (.int n) (.int Y2) = some (.int g2) := by
    rw [div_i Y20 (small_big (by omega)), en2, Int.mul_ediv_cancel _ (by omega)]
  have g1n : g1 ≤ n := by
    have := Int.mul_le_mul_of_nonneg_left (show 1 ≤ Y1 by omega) (show 0 ≤ g1 by omega)
    omega
  have g2n : g2 ≤ n := by
    have := Int.mul_le_mul_of_nonneg_left (show 1 ≤ Y2 by omega) (show 0 ≤ g2 by omega)
    omega
  have m5 : binD .Mult (.int (B * X1)) (.int g1) = some (.int (B * r1)) := by
    rw [mul_i (mulOk_r (by omega)), ea1]
    congr 2
    grind
  have m6 : binD .Mult (.int (A * X2)) (.int g2) = some (.int (A * r2)) := by
    rw [mul_i (mulOk_r (by omega)), ea2]
    congr 2
    grind
  have m7 : binD .Mult (.int n) (.int (A + B)) = some (.int (n * (A + B))) := mul_i (mulOk_l (by omega))
  generalize B * r1 = br at *
  generalize A * r2 = ar at *
  generalize hd : dst (br - ar) n = dd at *
  generalize hh : n * (A + B) = N at *
  generalize dd / (Int.gcd dd N : Int) = u1 at *
  generalize N / (Int.gcd dd N : Int) = u2 at *
  generalize B * X1 = bx at *
  generalize A * X2 = ax at *
  simp [runF, f__law_two_right, slots, rdRaw, rdVar, fin, -stTg, stTgs2, okN, s1, s2, s3, s4, s5, hn, b1, b2, b3, m1, m2, m3, m4, m5, m6, m7, d1, b4, le, lk]
end WM.K82
namespace WM.K82
open PySem PySem.Spec PyProof.Rows L2 RT
theorem dst_mod (x n : Int) : dst (x % n) n = dst x n := by
  unfold dst
  rw [Int.emod_emod]
theorem dst_shift (x y n : Int) : dst (x % n - y) n = dst (x - y) n := by
  unfold dst
  rw [Int.emod_sub_emod]
theorem dst_shift' (x y n : Int) : dst (x - y % n) n = dst (x - y) n := by
  unfold dst
  rw [Int.sub_emod_emod]
theorem mid_facts {M n e : Int} (M0 : 0 ≤ M) (M1 : M < n) (h : dst M n ≤ 2 * e) : dst ((if 2 * M ≤ n then M else M - n) / 2 % n) n ≤ e ∧ dst (M - (if 2 * M ≤ n then M else M - n) / 2 % n) n ≤ e := by
  have hn : 0 < n := by omega
  have hm : M % n = M := Int.emod_eq_of_lt M0 M1
  rw [dst_mod, dst_shift']
  unfold dst at h
  rw [hm] at h
  by_cases c : 2 * M ≤ n
  · rw [if_pos c]
    have a1 := dst_le (x := M / 2) hn 0
    have a2 := dst_le (x := M - M / 2) hn 0
    omega
  · rw [if_neg c]
    have a1 := dst_le (x := (M - n) / 2) hn 0
    have a2 := dst_le (x := M - (M - n) / 2) hn 1
    omega
def hrT : E := (.lst (.cons (.call i_blurred_gap (.cons (.raw 11) (.cons (.tup (.cons (.var 12) .nil)) (.cons (.raw 4) .nil)))) (.cons (.call i_tell_blurred (.cons (.raw 11) (.cons (.tup (.cons (.var 12) .nil)) (.cons (.raw 4) .nil)))) (.cons (.call i_round_of (.cons (.raw 11) .nil)) (.cons (.call i_tell_below (.cons (.raw 11) (.cons (.ix (.raw 13) (.lit (.int 1))) .nil))) (.cons (.call i_tell_below (.cons (.raw 11) (.cons (.bin .Add (.ix (.raw 13) (.lit (.int 1))) (.lit (.int 1))) .nil))) .nil))))))
def hrD : E := (.lst (.cons (.ite (.cmp .Lt (.var 3) (.var 4)) (.var 3) (.lit .none)) (.cons (.cmp .GtE (.var 3) (.var 4)) (.cons (.ix (.raw 13) (.lit (.int 1))) (.cons (.lit (.bool true)) (.cons (.lit (.bool false)) .nil))))))
def hrV : E := (.ite (.cmp .LtE (.bin .Mult (.lit (.int 2)) (.ix (.raw 6) (.lit (.int 0)))) (.var 2)) (.ix (.raw 6) (.lit (.int 0))) (.bin .Sub (.ix (.raw 6) (.lit (.int 0))) (.var 2)))
theorem hr_body : f__law_hand_right.body = (.cons (.par [11, 12, 13] (.cons (.tup (.cons (.tup (.cons (.var 1) (.cons (.var 2) .nil))) .nil)) (.cons (.call i__law_roll (.cons (.raw 0) (.cons (.call i__law_some (.cons (.raw 0) (.cons (.lst (.cons (.lit (.int 1)) (.cons (.lit (.int 4)) (.cons (.bin .Add (.lit (.int 1)) (.bin .FloorDiv (.var 2) (.lit (.int 4)))) .nil)))) .nil))) .nil))) (.cons (.call i__law_low (.cons (.raw 1) (.cons (.raw 2) .nil))) .nil)))) (.cons (.set 3 (.call i__law_first (.cons (.raw 1) (.cons (.raw 2) (.cons (.bin .Mult (.lit (.int 2)) (.var 12)) .nil))))) (.cons (.set 4 (.call i__law_some (.cons (.raw 0) (.cons (.lst (.cons (.var 3) (.cons (.bin .Add (.var 3) (.lit (.int 1))) (.cons (.bin .Add (.var 3) (.call i__law_roll (.cons (.raw 0) (.cons (.lit (.int 50)) .nil)))) .nil)))) .nil)))) (.cons (.set 5 hrT) (.cons (.ite (.not (.call i__law_like (.cons (.raw 5) (.cons hrD .nil)))) (.cons (.ret (.lit (.bool false))) .nil) .nil) (.cons (.set 6 (.call i_marks_at (.cons (.raw 11) (.cons (.raw 3) .nil)))) (.cons (.set 7 hrV) (.cons (.set 8 (.bin .Mod (.blt .int (.cons (.bin .FloorDiv (.var 7) (.lit (.int 2))) .nil)) (.var 2))) (.cons (.ite (.or (.cmp .Gt (.blt .mx (.cons (.call i__law_distance (.cons (.raw 8) (.cons (.raw 2) .nil))) (.cons (.call i__law_distance (.cons (.bin .Sub (.ix (.raw 6) (.lit (.int 0))) (.var 8)) (.cons (.raw 2) .nil))) .nil))) (.var 12)) (.or (.not (.call i_fit_at (.cons (.raw 11) (.cons (.tup (.cons (.var 12) .nil)) (.cons (.tup (.cons (.var 8) .nil)) (.cons (.lit (.int 0)) .nil)))))) (.not (.call i_fit_at (.cons (.raw 11) (.cons (.tup (.cons (.var 12) .nil)) (.cons (.tup (.cons (.var 8) .nil)) (.cons (.raw 3) .nil)))))))) (.cons (.ret (.lit (.bool false))) .nil) .nil) (.cons (.ite (.cmp .NotEq (.call i_time_of (.cons (.raw 11) (.cons (.raw 6) .nil))) (.bin .Mod (.blt .int (.cons (.var 3) .nil)) (.ix (.raw 13) (.lit (.int 1))))) (.cons (.ret (.lit (.bool false))) .nil) .nil) (.cons (.set 9 (.call i__law_distance (.cons (.bin .Mult (.var 1) (.var 3)) (.cons (.raw 2) .nil)))) (.cons l0__law_hand_right (.cons (.ret (.lit (.bool true))) .nil))))))))))))) := rfl
theorem hr_loop (k : Nat) {a n F near : Int} (st : Store) (hn : 0 < n) (a0 : 0 ≤ a) (a1 : a ≤ 1000) (F1 : 1 < F) (F2 : F ≤ 1000) (hmin : ∀ z : Int, 1 ≤ z → z < F → near < dst (a * z) n) (w4 w5 w6 w7 w8 w11 w12 w13 : Option W) : ∀ (l : List Int) (h t : Option W) (x y : Int), ∃ h' t' x' y', forL (fun d sl => stTg (.v 10) d sl) (fun sl st => runSs (fns T (k + 1)) b0__law_hand_right sl st) (l.map PyData.int) [some (.m 0), some (Z a), some (Z n), some (Z F), w4, w5, w6, w7, w8, some (Z near), h, w11, w12, w13, t] (cup x y :: st) = some (.nx, [some (.m 0), some (Z a), some (Z n), some (Z F), w4, w5, w6, w7, w8, some (Z near), h', w11, w12, w13, t'], cup x' y' :: st)
  | [], h, t, x, y => ⟨h, t, x, y, rfl⟩
  | c :: l, h, t, x, y => by
    obtain ⟨r, x1, y1, s1, l1, u1⟩ := v_roll k (F - 1) x y st (by omega) (by omega)
    obtain ⟨h', t', x', y', e⟩ := hr_loop k st hn a0 a1 F1 F2 hmin w4 w5 w6 w7 w8 w11 w12 w13 l (some (Z c)) (some (Z (1 + r))) x1 y1
    refine ⟨h', t', x', y', ?_⟩
    rw [List.map_cons]
    unfold forL
    have m1 : binD .Mult (.int a) (.int (1 + r)) = some (.int (a * (1 + r))) := mul_i (mulOk_l (by omega))
    have d1 := v_law_distance k (a * (1 + r)) n (cup x1 y1 :: st) hn
    have q := hmin (1 + r) (by omega) (by omega)
    have q' : ¬ dst (a * (1 + r)) n ≤ near := by omega
    have s0 : stTg (.v 10) (.int c) [some (.m 0), some (Z a), some (Z n), some (Z F), w4, w5, w6, w7, w8, some (Z near), h, w11, w12, w13, t] = some [some (.m 0), some (Z a), some (Z n), some (Z F), w4, w5, w6, w7, w8, some (Z near), some (Z c), w11, w12, w13, t] := rfl
    have s2 : runSs (fns T (k + 1)) b0__law_hand_right [some (.m 0), some (Z a), some (Z n), some (Z F), w4, w5, w6, w7, w8, some (Z near), some (Z c), w11, w12, w13, t] (cup x y :: st) = some (.nx, [some (.m 0), some (Z a), some (Z n), some (Z F), w4, w5, w6, w7, w8, some (Z near), some (Z c), w11, w12, w13, some (Z (1 + r))], cup x1 y1 :: st) := by
      generalize dst (a * (1 + r)) n = D at *
      simp [b0__law_hand_right, rdRaw, rdVar, s1, m1, d1, q']
    simp only [s0, s2]
    exact e
theorem lk_told (b : Int) (F m : Int) : Lk 1 (.list [if F < m then .int F else .none, .bool (decide (m ≤ F)), .int b, .bool true, .bool false]) := by
  intro x hx
  simp only [List.mem_cons, List.not_mem_nil, or_false] at hx
  rcases hx with rfl | rfl | rfl | rfl | rfl
  · split <;> exact True.intro
  · exact True.intro
  · exact True.intro
  · exact True.intro
  · exact True.intro
theorem v_law_hand_right (k : Nat) (a n x y : Int) (st : Store) (h : Hn a n) : ∃ a' b', fns T (k + 7) i__law_hand_right [.m 0, Z a, Z n] (cup x y :: st) = some (Bl true, cup a' b' :: st) := by
  have h' := h
  obtain ⟨h1, h2, h3⟩ := h'
  have dv : binD .FloorDiv (.int n) (.int 4) = some (.int (n / 4)) := div_i (by omega) (small_big (by decide))
  obtain ⟨x1, y1, w, s1, hw⟩ := v_some (k + 4) [.int 1, .int 4, .int (1 + n / 4)] x y st (by simp) (by simp)
  obtain ⟨E, rfl, E1, E2⟩ : ∃ E : Int, w = .int E ∧ 1 ≤ E ∧ E ≤ 251 := by
    simp only [List.mem_cons, List.not_mem_nil, or_false] at hw
    rcases hw with rfl | rfl | rfl
    · exact ⟨_, rfl, by omega, by omega⟩
    · exact ⟨_, rfl, by omega, by omega⟩
    · exact ⟨_, rfl, by omega, by omega⟩
  obtain ⟨e, x2, y2, s2, l2, u2⟩ := v_roll (k + 5) E x1 y1 st (by omega) (by omega)
  have hlow := v_law_low (k + 4) a n (cup x2 y2 :: st) h1 (by omega) (by omega)
  obtain ⟨F, hF⟩ := first_ex (a := a) (n := n) (most := 2 * e) h1 (by omega) h3 (by omega)
  have lf := v_law_first k a n (2 * e) F (cup x2 y2 :: st) h1 (by omega) (by omega) h3 (by omega) hF
  obtain ⟨r3, x3, y3, s3, l3, u3⟩ := v_roll (k + 5) 50 x2 y2 st (by omega) (by omega)
  obtain ⟨x4, y4, w2, s4, hw2⟩ := v_some (k + 4) [.int F, .int (F + 1), .int (F + r3)] x3 y3 st (by simp) (by simp)
  obtain ⟨g, X, Y, hg, g0, ea, en, X0, Y0, gc, ex, ey⟩ := low_facts h1 (show 0 < n by omega)
  have hfy := hF.le (by omega) (by omega) g0 ea en Y0
  have hf1 := hF.f1
  have hYn : Y ≤ n := by
    have := Int.mul_le_mul_of_nonneg_right (show 1 ≤ g by omega) (show 0 ≤ Y by omega)
    omega
  obtain ⟨m, rfl, m1, m2⟩ : ∃ m : Int, w2 = .int m ∧ 1 ≤ m ∧ m ≤ 5000 := by
    simp only [List.mem_cons, List.not_mem_nil, or_false] at hw2
    rcases hw2 with rfl | rfl | rfl
    · exact ⟨_, rfl, by omega, by omega⟩
    · exact ⟨_, rfl, by omega, by omega⟩
    · exact ⟨_, rfl, by omega, by omega⟩
  have t1 := v_blurred_gap k a n e m F (cup x4 y4 :: st) h l2 (by omega) m1 m2 hF
  have t2 := v_tell_blurred k a n e m F (cup x4 y4 :: st) h l2 (by omega) m1 m2 hF
  have t3 := v_round_of (k + 1) a n (cup x4 y4 :: st) h
  have t4 := v_tell_below (k + 1) a n Y (cup x4 y4 :: st) h (by omega) (by omega)
  have t5 := v_tell_below (k + 1) a n (Y + 1) (cup x4 y4 :: st) h (by omega) (by omega)
  rw [ey] at t3 t4 t5
  rw [ex, ey] at hlow
  have lk := v_law_like 1 (k + 3) _ (cup x4 y4 :: st) (lk_told Y F m)
  have mk := v_marks_at (k + 1) a n F (cup x4 y4 :: st) h (by omega) (by omega)
  have M0 := Int.emod_nonneg (a * F) (show n ≠ 0 by omega)
  have M1 := Int.emod_lt_of_pos (a * F) (show 0 < n by omega)
  have hnear := hF.near
  have hM : dst (a * F % n) n ≤ 2 * e := by rw [dst_mod]; exact hnear
  obtain ⟨q1, q2⟩ := mid_facts M0 M1 hM
  have tm := v_time_of k a n F (cup x4 y4 :: st) h (by omega)
  rw [ey] at tm
  have d2' : dst (a * F - (if 2 * (a * F % n) ≤ n then a * F % n else a * F % n - n) / 2 % n) n ≤ e := by
    rw [← dst_shift]
    exact q2
  have d3 := v_law_distance (k + 5) (a * F) n (cup x4 y4 :: st) (by omega)
  have mF : binD .Mult (.int a) (.int F) = some (.int (a * F)) := mul_i (mulOk_l (by omega))
  have mM : binD .Mult (.int 2) (.int (a * F % n)) = some (.int (2 * (a * F % n))) := mul_i (mulOk_l (by decide))
  have m2e : binD .Mult (.int 2) (.int e) = some (.int (2 * e)) := mul_i (mulOk_l (by decide))
  have mY : binD .Mod (.int F) (.int Y) = some (.int (F % Y)) := mod_i Y0
  have hmin : ∀ z : Int, 1 ≤ z → z < F → dst (a * F) n < dst (a * z) n := fun z z1 z2 => by
    by_cases c : dst (a * z) n ≤ 2 * e
    · have := hF.min z z1 c
      omega
    · omega
  generalize a * F % n = M at *
  generalize dst (a * F) n = near at *
  have ix1 : ixD (.tuple [.int M]) (.int 0) = some (.int M) := rfl
  have hs : sizeLine = 16777216 := sizeLine_eq
  have tl : ixD (d2 X Y) (.int 1) = some (.int Y) := rfl
  have ge : cmpD .GtE (.int F) (.int m) = some (decide (m ≤ F)) := by simp
  have hY1 : ¬ Y + 1 ≤ Y := by omega
  have le1 : decide (Y ≤ Y) = true := decide_eq_true (by omega)
  have le2 : decide (Y + 1 ≤ Y) = false := decide_eq_false hY1
  rw [le1] at t4
  rw [le2] at t5
  have fin1 : ∀ (tv : Int), tv = (if 2 * M ≤ n then M else M - n) → runE (fns T (k + 6)) hrV [some (.m 0), some (Z a), some (Z n), some (Z F), some (Z m), some (.d (.list [if F < m then .int F else .none, .bool (decide (m ≤ F)), .int Y, .bool true, .bool false])), some (Tu [.int M]), none, none, none, none, some (.d (hnD a n)), some (Z e), some (F2 X Y), none] (cup x4 y4 :: st) = some (Z tv, cup x4 y4 :: st) := by
    intro tv htv
    subst htv
    unfold hrV
    by_cases c : 2 * M ≤ n
    · rw [if_pos c]
      simp [rdRaw, rdVar, mM, c, ix1]
    · rw [if_neg c]
      have c' : ¬ 2 * M ≤ n := c
      simp only [Int.not_le] at c'
      have c3 : decide (2 * M ≤ n) = false := decide_eq_false c
      simp [rdRaw, rdVar, mM, c3, ix1]
  generalize htv : (if 2 * M ≤ n then M else M - n) = tv at *
  have fin1 := fin1 tv rfl
  have md : binD .FloorDiv (.int tv) (.int 2) = some (.int (tv / 2)) := div_i (by omega) (small_big (by decide))
  have mm : binD .Mod (.int (tv / 2)) (.int n) = some (.int (tv / 2 % n)) := mod_i (by omega)
  have i0 := Int.emod_nonneg (tv / 2) (show n ≠ 0 by omega)
  have i1 := Int.emod_lt_of_pos (tv / 2) (show 0 < n by omega)
  generalize tv / 2 = hf at *
  generalize hf % n = mid at *
  have f1 := v_fit_at k a n e mid 0 (cup x4 y4 :: st) h l2 (by omega) i0 i1 (by omega) (by omega) (by rw [show a * 0 - mid = -mid by omega, dst_neg _ _ (by omega)]; exact q1)
  have f2 := v_fit_at k a n e mid F (cup x4 y4 :: st) h l2 (by omega) i0 i1 (by omega) (by omega) d2'
  have d4 := v_law_distance (k + 5) mid n (cup x4 y4 :: st) (by omega)
  have d5 := v_law_distance (k + 5) (M - mid) n (cup x4 y4 :: st) (by omega)
  generalize dst mid n = D1 at *
  generalize dst (M - mid) n = D2 at *
  have mxd : bltD .mx [.int D1, .int D2] = some (.int (if D2 > D1 then D2 else D1)) := rfl
  have mxl : ¬ e < (if D2 > D1 then D2 else D1) := by split <;> omega
  generalize (if D2 > D1 then D2 else D1) = MX at *
  generalize htold : (PyData.list [if F < m then .int F else .none, .bool (decide (m ≤ F)), .int Y, .bool true, .bool false]) = told at *
  have told1 : runE (fns T (k + 6)) hrT [some (.m 0), some (Z a), some (Z n), some (Z F), some (Z m), none, none, none, none, none, none, some (.d (hnD a n)), some (Z e), some (F2 X Y), none] (cup x4 y4 :: st) = some (.d told, cup x4 y4 :: st) := by
    unfold hrT
    rw [← htold]
    by_cases c : F < m
    · rw [if_pos c] at t1 ⊢
      simp [rdRaw, rdVar, t1, t2, t3, t4, t5, hs]
    · rw [if_neg c] at t1 ⊢
      simp [rdRaw, rdVar, t1, t2, t3, t4, t5, hs]
  have told2 : runE (fns T (k + 6)) hrD [some (.m 0), some (Z a), some (Z n), some (Z F), some (Z m), some (.d told), none, none, none, none, none, some (.d (hnD a n)), some (Z e), some (F2 X Y), none] (cup x4 y4 :: st) = some (.d told, cup x4 y4 :: st) := by
    unfold hrD
    rw [← htold]
    by_cases c : F < m
    · rw [if_pos c]
      simp [rdRaw, rdVar, c, hs]
    · rw [if_neg c]
      simp [rdRaw, rdVar, c, hs]
  have loop : ∃ h' t' x' y', runS (fns T (k + 6)) l0__law_hand_right [some (.m 0), some (Z a), some (Z n), some (Z F), some (Z m), some (.d told), some (Tu [.int M]), some (Z tv), some (Z mid), some (Z near), none, some (.d (hnD a n)), some (Z e), some (F2 X Y), none] (cup x4 y4 :: st) = some (.nx, [some (.m 0), some (Z a), some (Z n), some (Z F), some (Z m), some (.d told), some (Tu [.int M]), some (Z tv), some (Z mid), some (Z near), h', some (.d (hnD a n)), some (Z e), some (F2 X Y), t'], cup x' y' :: st) := by
    unfold l0__law_hand_right
    by_cases c : 1 < F
    · obtain ⟨h', t', x', y', el⟩ := hr_loop (k + 5) st (show 0 < n by omega) h1 (by omega) c (by omega) hmin (some (Z m)) (some (.d told)) (some (Tu [.int M])) (some (Z tv)) (some (Z mid)) (some (.d (hnD a n))) (some (Z e)) (some (F2 X Y)) (iv 0 3) none none x4 y4
      exact ⟨h', t', x', y', run_for_of (runI_rng1 (j := 3) (by simp [rdVar, c]) (by decide) (by decide)) el⟩
    · exact ⟨none, none, x4, y4, run_for_of (ds := []) (runI_rng1 (j := 0) (by simp [rdVar, c]) (by decide) (by decide)) rfl⟩
  obtain ⟨h', t', x', y', el⟩ := loop
  refine ⟨x', y', ?_⟩
  rw [s__law_hand_right]
  unfold runF
  rw [hr_body]
  have e7 : f__law_hand_right.n = 15 := rfl
  have e8 : f__law_hand_right.ps = 3 := rfl
  rw [e7, e8]
  simp only [hnD] at *
  simp [slots, rdRaw, rdVar, fin, bltW, hs, dv, s1, s2, s3, s4, hlow, lf, m2e, told1, told2, lk, mk, fin1, md, mm, f1, f2, d3, d4, d5, mxd, mxl, tm, mY, mF, el, ix1]
end WM.K82
namespace WM.K82
open PySem PySem.Spec PyProof.Rows L2 RT
theorem cvI_mono : ∀ (n : Nat) (X Y o1 o2 t1 t2 r s : Int), CvI X Y o1 o2 t1 t2 r s → List.Pairwise (fun f g : Int × Int => f.2 ≤ g.2) (cvI n o1 o2 t1 t2 r s) ∧ ∀ f ∈ cvI n o1 o2 t1 t2 r s, t2 ≤ f.2
  | 0, _, _, _, _, _, _, _, _, _ => by simp [cvI]
  | n + 1, X, Y, o1, o2, t1, t2, r, s, h => by
    unfold cvI
    by_cases c : s = 0
    · rw [if_pos c]; simp
    · rw [if_neg c]
      obtain ⟨h', p1, p2⟩ := h.step (show 0 < s by have := h.s0; omega)
      obtain ⟨i1, i2⟩ := cvI_mono n X Y _ _ _ _ _ _ h'
      refine ⟨List.pairwise_cons.mpr ⟨fun f hf => i2 f hf, i1⟩, fun f hf => ?_⟩
      rcases List.mem_cons.mp hf with rfl | hf
      · exact p2
      · exact Int.le_trans p2 (i2 f hf)
theorem filt_pre (c : Int) : ∀ {l : List (Int × Int)}, List.Pairwise (fun f g : Int × Int => f.2 ≤ g.2) l → ∃ m, l.filter (fun f => decide (f.2 < c)) = l.take m ∧ m ≤ l.length ∧ ∀ g, l[m]? = some g → c ≤ g.2
  | [], _ => ⟨0, rfl, Nat.le_refl _, fun g hg => by simp at hg⟩
  | f :: l, h => by
    obtain ⟨h1, h2⟩ := List.pairwise_cons.mp h
    by_cases q : f.2 < c
    · obtain ⟨m, e, ml, hm⟩ := filt_pre c h2
      refine ⟨m + 1, ?_, by simp; omega, fun g hg => hm g (by simpa using hg)⟩
      rw [List.filter_cons, if_pos (decide_eq_true q), List.take_succ_cons, e]
    · refine ⟨0, ?_, by simp, fun g hg => ?_⟩
      · rw [List.take_zero, List.filter_eq_nil_iff]
        intro g hg
        rcases List.mem_cons.mp hg with rfl | hg
        · simp; omega
        · have := h1 g hg
          simp; omega
      · have hg : some f = some g := hg
        cases hg
        omega
def rowV (X Y n : Int) : List (Int × Int) := (cvs 1001 X Y).filter fun f => decide (f.2 < n)
theorem rowV_ne {X Y n : Int} (Y0 : 0 < Y) (hn : 2 ≤ n) : rowV X Y n ≠ [] := by
  unfold rowV cvs
  rw [if_neg (by omega), List.filter_cons, if_pos (by simp; omega)]
  exact List.cons_ne_nil _ _
theorem rowV_mem {X Y n : Int} (X0 : 0 ≤ X) (Y0 : 0 < Y) {f : Int × Int} (h : f ∈ rowV X Y n) : 0 < f.2 ∧ f.2 < n := by
  obtain ⟨h1, h2⟩ := List.mem_filter.mp h
  rw [cvs_I] at h1
  exact ⟨(cvI_pos _ X Y _ _ _ _ _ _ (CvI.init X0 (by omega)) f h1).1, of_decide_eq_true h2⟩
def mostV (X Y n : Int) (i : Nat) : Int := match (rowV X Y n)[i + 1]? with
  | some g => g.2
  | none => Y
theorem row_best {w n g X Y : Int} (g0 : 0 < g) (ew : w = g * X) (en : n = g * Y) (X0 : 0 ≤ X) (Y0 : 0 < Y) (Y1 : Y ≤ 1000) {i : Nat} {f : Int × Int} (hf : (rowV X Y n)[i]? = some f) {j : Int} (j1 : 1 ≤ j) (j2 : j < mostV X Y n i) : dst (w * f.2) n ≤ dst (w * j) n := by
  have hI := CvI.init X0 (show 0 ≤ Y by omega)
  have hn : 0 < n := by rw [en]; exact Int.mul_pos g0 Y0
  obtain ⟨mo, _⟩ := cvI_mono 1001 X Y _ _ _ _ _ _ hI
  obtain ⟨m, e, ml, hm⟩ := filt_pre n mo
  unfold mostV at j2
  have er : rowV X Y n = (cvI 1001 0 1 1 0 X Y).take m := by
    unfold rowV
    rw [cvs_I, e]
  rw [er] at hf j2
  have im : i < m ∧ (cvI 1001 0 1 1 0 X Y)[i]? = some f := by
    by_cases c : i < m
    · rw [List.getElem?_take_of_lt c] at hf
      exact ⟨c, hf⟩
    · rw [List.getElem?_take_eq_none (by omega)] at hf
      cases hf
  obtain ⟨im, fi⟩ := im
  have key : ∀ G : Int × Int, (cvI 1001 0 1 1 0 X Y)[i + 1]? = some G → j < G.2 → dst (w * f.2) n ≤ dst (w * j) n := by
    intro G hG jG
    obtain ⟨y, hy⟩ := dst_at (x := w * j) hn
    have a1 := dst_le (x := w * f.2) hn f.1
    have a2 := cvI_next 1001 X Y _ _ _ _ _ _ hI i f G fi hG j y j1 jG
    rw [scale g0 ew en] at a1 hy
    have a3 : g * ((f.2 * X - f.1 * Y).natAbs : Int) ≤ g * ((j * X - y * Y).natAbs : Int) := Int.mul_le_mul_of_nonneg_left (by omega) (by omega)
    omega
  have Yn : Y ≤ n := by
    have := Int.mul_le_mul_of_nonneg_right (show 1 ≤ g by omega) (show 0 ≤ Y by omega)
    omega
  cases hG : (cvI 1001 0 1 1 0 X Y)[i + 1]? with
  | some G =>
    refine key G hG ?_
    by_cases c : i + 1 < m
    · rw [List.getElem?_take_of_lt c, hG] at j2
      exact j2
    · rw [List.getElem?_take_eq_none (by omega)] at j2
      have : m = i + 1 := by omega
      have := hm G (by rw [this]; exact hG)
      have j2 : j < Y := j2
      omega
  | none =>
    obtain ⟨F, hF, hx⟩ := cvI_last 1001 X Y _ _ _ _ _ _ hI Y0 (by omega)
    have hlen : (cvI 1001 0 1 1 0 X Y).length ≤ i + 1 := List.getElem?_eq_none_iff.mp hG
    have hlt : i < (cvI 1001 0 1 1 0 X Y).length := by
      rcases Nat.lt_or_ge i (cvI 1001 0 1 1 0 X Y).length with q | q
      · exact q
      · rw [List.getElem?_eq_none_iff.mpr q] at fi
        cases fi
    rw [List.getLast?_eq_getElem?] at hF
    have : (cvI 1001 0 1 1 0 X Y).length - 1 = i := by omega
    rw [this, fi] at hF
    cases hF
    have a1 := dst_le (x := w * f.2) hn f.1
    rw [scale g0 ew en] at a1
    have z : (f.2 * X - f.1 * Y).natAbs = 0 := by omega
    rw [z] at a1
    have := dst_nn (x := w * j) hn
    simp at a1
    omega
/-- the neighbors of a ratio ahead of its own bottom -/
theorem nb_last {X Y l1 l2 u1 u2 : Int} (h : NbF X Y (Y - 1) l1 l2 u1 u2) : l2 + u2 = Y ∧ u1 * Y - X * u2 = 1 ∧ X * l2 - l1 * Y = 1 := by
  obtain ⟨l20, u20, l2b, u2b, lo, hi, det, sum, l10, u10⟩ := h
  have e : (u1 * Y - X * u2) * l2 + (X * l2 - l1 * Y) * u2 = Y := by
    have : Y = Y * (u1 * l2 - l1 * u2) := by rw [det]; omega
    grind
  have dl : 1 ≤ X * l2 - l1 * Y := by omega
  have du : 1 ≤ u1 * Y - X * u2 := by omega
  generalize X * l2 - l1 * Y = dL at *
  generalize u1 * Y - X * u2 = dU at *
  have a1 := Int.mul_le_mul_of_nonneg_right du (show 0 ≤ l2 by omega)
  have a2 := Int.mul_le_mul_of_nonneg_right dl (show 0 ≤ u2 by omega)
  have a3 := Int.mul_le_mul_of_nonneg_left (show 1 ≤ l2 by omega) (show 0 ≤ dU - 1 by omega)
  have a4 := Int.mul_le_mul_of_nonneg_left (show 1 ≤ u2 by omega) (show 0 ≤ dL - 1 by omega)
  have a5 : (dU - 1) * l2 = dU * l2 - l2 := by rw [Int.sub_mul, Int.one_mul]
  have a6 : (dL - 1) * u2 = dL * u2 - u2 := by rw [Int.sub_mul, Int.one_mul]
  omega
theorem read_up {w n g X Y u1 u2 : Int} (g0 : 0 < g) (ew : w = g * X) (en : n = g * Y) (Y2 : 2 ≤ Y) (h : u1 * Y - X * u2 = 1) : -u2 * w % n = g := by
  have e : -u2 * w = g + n * (-u1) := by
    rw [ew, en]
    have : g = g * (u1 * Y - X * u2) := by rw [h]; omega
    grind
  rw [e, Int.add_mul_emod_self_left]
  refine Int.emod_eq_of_lt (by omega) ?_
  have := Int.mul_le_mul_of_nonneg_left Y2 (show 0 ≤ g by omega)
  omega
theorem read_down {w n g X Y l1 l2 : Int} (g0 : 0 < g) (ew : w = g * X) (en : n = g * Y) (Y2 : 2 ≤ Y) (h : X * l2 - l1 * Y = 1) : -l2 * w % n = n - g := by
  have e : -l2 * w = (n - g) + n * (-l1 - 1) := by
    rw [ew, en]
    have : g = g * (X * l2 - l1 * Y) := by rw [h]; omega
    grind
  rw [e, Int.add_mul_emod_self_left]
  have := Int.mul_le_mul_of_nonneg_left Y2 (show 0 ≤ g by omega)
  exact Int.emod_eq_of_lt (by omega) (by omega)
theorem mr_mem {w n k j : Int} (k0 : 0 ≤ k) (k1 : k < n) (h : j ∈ mr w n k) : 0 ≤ j ∧ j < n ∧ -j * w % n = k := by
  obtain ⟨h1, h2⟩ := List.mem_filter.mp h
  have h3 := mem_iv.mp h1
  have h2 := of_decide_eq_true h2
  refine ⟨by omega, by omega, ?_⟩
  obtain ⟨q, hq⟩ := Int.dvd_of_emod_eq_zero h2
  have : -j * w = k + n * (-q) := by
    have : -j * w = k - (k + j * w) := by grind
    rw [this, hq]
    grind
  rw [this, Int.add_mul_emod_self_left]
  exact Int.emod_eq_of_lt k0 k1
end WM.K82
namespace WM.K82
open PySem PySem.Spec PyProof.Rows L2 RT
theorem ix_nat (xs : List D) (i : Nat) (x : D) (h : xs[i]? = some x) : ixD (.list xs) (.int (i : Int)) = some x := by
  obtain ⟨hl, he⟩ := List.getElem?_eq_some_iff.mp h
  have e : atI xs (i : Int) = some x := by
    unfold L2.atI L2.ixN
    rw [if_pos (by omega), if_pos (by omega)]
    exact h
  exact e
def vrM : E := (.ite (.cmp .Lt (.bin .Add (.var 5) (.lit (.int 1))) (.blt .len (.cons (.raw 3) .nil))) (.ix (.ix (.raw 3) (.bin .Add (.var 5) (.lit (.int 1)))) (.lit (.int 1))) (.blt .mn (.cons (.ix (.raw 14) (.lit (.int 1))) (.cons (.var 2) .nil))))
def vrT : E := (.lst (.cons (.call i_reads_all (.cons (.raw 1) (.cons (.raw 2) .nil))) (.cons (.call i_parts_read (.cons (.raw 1) (.cons (.raw 2) .nil))) (.cons (.call i_read_at (.cons (.raw 1) (.cons (.raw 2) (.cons (.lit (.int 0)) .nil)))) (.cons (.call i_greatest_off (.cons (.raw 1) (.cons (.raw 2) .nil))) (.cons (.blt .len (.cons (.call i_marks_reading (.cons (.raw 1) (.cons (.raw 2) (.cons (.lit (.int 0)) .nil)))) .nil)) .nil))))))
def vrD : E := (.lst (.cons (.cmp .Eq (.var 9) (.lit (.int 1))) (.cons (.ix (.raw 14) (.lit (.int 1))) (.cons (.lit (.int 0)) (.cons (.call i__law_low (.cons (.raw 9) (.cons (.bin .Mult (.lit (.int 2)) (.var 2)) .nil))) (.cons (.var 9) .nil))))))
def vrR : E := (.and (.cmp .Eq (.blt .len (.cons (.raw 13) .nil)) (.var 9)) (.and (.cmp .Eq c1__law_vernier_right (.lst .nil)) (.cmp .Eq (.call i_best_marks (.cons (.raw 1) (.cons (.raw 2) (.cons (.call i__law_low (.cons (.raw 12) (.cons (.raw 2) .nil))) .nil)))) (.var 13))))
def vrS : E := (.or (.cmp .NotEq (.blt .sorted (.cons (.lst (.cons (.var 19) (.cons (.var 20) .nil))) .nil)) (.blt .sorted (.cons (.lst (.cons (.var 9) (.cons (.bin .Sub (.var 2) (.var 9)) .nil))) .nil))) (.cmp .NotEq (.bin .Add (.ix (.raw 17) (.lit (.int 1))) (.ix (.raw 18) (.lit (.int 1)))) (.ix (.raw 14) (.lit (.int 1)))))
theorem vr_body : f__law_vernier_right.body = (.cons (.par [14, 15] (.cons (.call i__law_low (.cons (.raw 1) (.cons (.raw 2) .nil))) (.cons (.tup (.cons (.lit (.int 0)) (.cons (.lit (.int 1)) .nil))) .nil))) (.cons (.set 3 c0__law_vernier_right) (.cons l0__law_vernier_right (.cons (.set 5 (.call i__law_roll (.cons (.raw 0) (.cons (.blt .len (.cons (.raw 3) .nil)) .nil)))) (.cons (.set 6 vrM) (.cons (.set 7 (.call i__law_distance (.cons (.bin .Mult (.var 1) (.ix (.ix (.raw 3) (.var 5)) (.lit (.int 1)))) (.cons (.raw 2) .nil)))) (.cons l1__law_vernier_right (.cons (.set 9 (.bin .FloorDiv (.var 2) (.ix (.raw 14) (.lit (.int 1))))) (.cons (.set 10 vrT) (.cons (.set 11 vrD) (.cons (.ite (.not (.call i__law_like (.cons (.raw 10) (.cons (.raw 11) .nil)))) (.cons (.ret (.lit (.bool false))) .nil) .nil) (.cons (.ite (.cmp .Lt (.ix (.raw 14) (.lit (.int 1))) (.lit (.int 2))) (.cons (.ret (.lit (.bool true))) .nil) .nil) (.cons (.par [17, 18] (.cons (.call i_lower_near (.cons (.raw 14) (.cons (.bin .Sub (.ix (.raw 14) (.lit (.int 1))) (.lit (.int 1))) .nil))) (.cons (.call i_upper_near (.cons (.raw 14) (.cons (.bin .Sub (.ix (.raw 14) (.lit (.int 1))) (.lit (.int 1))) .nil))) .nil))) (.cons (.par [19, 20] (.cons (.call i_read_at (.cons (.raw 1) (.cons (.raw 2) (.cons (.bin .Mod (.blt .int (.cons (.ix (.raw 18) (.lit (.int 1))) .nil)) (.var 2)) .nil)))) (.cons (.call i_read_at (.cons (.raw 1) (.cons (.raw 2) (.cons (.bin .Mod (.blt .int (.cons (.ix (.raw 17) (.lit (.int 1))) .nil)) (.var 2)) .nil)))) .nil))) (.cons (.ite vrS (.cons (.ret (.lit (.bool false))) .nil) .nil) (.cons (.set 12 (.bin .Mult (.var 9) (.call i__law_roll (.cons (.raw 0) (.cons (.ix (.raw 14) (.lit (.int 1))) .nil))))) (.cons (.set 13 (.call i_marks_reading (.cons (.raw 1) (.cons (.raw 2) (.cons (.raw 12) .nil))))) (.cons (.ret vrR) .nil)))))))))))))))))) := rfl
theorem vr_loop1 (k : Nat) {w n : Int} (st : Store) (hv : Vn w n) (w5 w6 w7 w8 w9 w10 w11 w12 w13 w14 w16 w17 w18 w19 w20 rw' c : Option W) : ∀ (l : List (Int × Int)), (∀ f ∈ l, 0 < f.2 ∧ f.2 < n) → ∀ (h : Option W), ∃ h', forL (fun d sl => stTg (.v 4) d sl) (fun sl st => runSs (fns T (k + 6)) b0__law_vernier_right sl st) (l.map p2D) [c, some (Z w), some (Z n), rw', h, w5, w6, w7, w8, w9, w10, w11, w12, w13, w14, some (F2 0 1), w16, w17, w18, w19, w20] st = some (.nx, [c, some (Z w), some (Z n), rw', h', w5, w6, w7, w8, w9, w10, w11, w12, w13, w14, some (F2 0 1), w16, w17, w18, w19, w20], st)
  | [], _, h => ⟨h, rfl⟩
  | f :: l, hl, h => by
    obtain ⟨h', e⟩ := vr_loop1 k st hv w5 w6 w7 w8 w9 w10 w11 w12 w13 w14 w16 w17 w18 w19 w20 rw' c l (fun g hg => hl g (List.mem_cons_of_mem _ hg)) (some (.d (p2D f)))
    refine ⟨h', ?_⟩
    obtain ⟨f0, f1⟩ := hl f (by simp)
    have n1 := hv.n1
    have n0 := hv.n0
    have w1 := hv.w1
    have w0 := hv.w0
    rw [List.map_cons]
    unfold forL
    have e1 := v_off_at (k + 2) w n f.2 st hv (by omega) f1
    have e2 := v_law_distance (k + 5) (w * f.2) n st (by omega)
    have e3 := v_law_low (k + 4) (dst (w * f.2) n) n st (dst_nn (by omega)) (by omega) (by omega)
    have m1 : binD .Mult (.int w) (.int f.2) = some (.int (w * f.2)) := mul_i (mulOk_l (by omega))
    generalize dst (w * f.2) n = D at *
    generalize D / (Int.gcd D n : Int) = u at *
    generalize n / (Int.gcd D n : Int) = v at *
    have lk := v_law_like 1 (k + 3) (d2 u v) st (fun x hx => by
      simp only [List.mem_cons, List.not_mem_nil, or_false] at hx
      rcases hx with rfl | rfl <;> exact True.intro)
    have s0 : stTg (.v 4) (p2D f) [c, some (Z w), some (Z n), rw', h, w5, w6, w7, w8, w9, w10, w11, w12, w13, w14, some (F2 0 1), w16, w17, w18, w19, w20] = some [c, some (Z w), some (Z n), rw', some (.d (p2D f)), w5, w6, w7, w8, w9, w10, w11, w12, w13, w14, some (F2 0 1), w16, w17, w18, w19, w20] := rfl
    have s2 : runSs (fns T (k + 6)) b0__law_vernier_right [c, some (Z w), some (Z n), rw', some (.d (p2D f)), w5, w6, w7, w8, w9, w10, w11, w12, w13, w14, some (F2 0 1), w16, w17, w18, w19, w20] st = some (.nx, [c, some (Z w), some (Z n), rw', some (.d (p2D f)), w5, w6, w7, w8, w9, w10, w11, w12, w13, w14, some (F2 0 1), w16, w17, w18, w19, w20], st) := by
      simp [b0__law_vernier_right, rdRaw, rdVar, m1, e1, e2, e3, lk]
    simp only [s0, s2]
    exact e
theorem vr_loop2 (k : Nat) {w n most least : Int} (st : Store) (hv : Vn w n) (ms : most ≤ 1000) (hmin : ∀ z : Int, 1 ≤ z → z < most → least ≤ dst (w * z) n) (w3 w4 w5 w9 w10 w11 w12 w13 w14 w15 w17 w18 w19 w20 : Option W) : ∀ (l : List Int) (h t : Option W) (x y : Int), ∃ h' t' x' y', forL (fun d sl => stTg (.v 8) d sl) (fun sl st => runSs (fns T (k + 1)) b1__law_vernier_right sl st) (l.map PyData.int) [some (.m 0), some (Z w), some (Z n), w3, w4, w5, some (Z most), some (Z least), h, w9, w10, w11, w12, w13, w14, w15, t, w17, w18, w19, w20] (cup x y :: st) = some (.nx, [some (.m 0), some (Z w), some (Z n), w3, w4, w5, some (Z most), some (Z least), h', w9, w10, w11, w12, w13, w14, w15, t', w17, w18, w19, w20], cup x' y' :: st)
  | [], h, t, x, y => ⟨h, t, x, y, rfl⟩
  | c :: l, h, t, x, y => by
    have mxd : bltD .mx [.int (most - 1), .int 1] = some (.int (if 1 > most - 1 then 1 else most - 1)) := rfl
    have mb : 0 < (if 1 > most - 1 then 1 else most - 1) ∧ (if 1 > most - 1 then 1 else most - 1) ≤ 1000 := by
      split <;> omega
    generalize (if 1 > most - 1 then 1 else most - 1) = MX at *
    obtain ⟨r, x1, y1, s1, l1, u1⟩ := v_roll k MX x y st mb.1 (by omega)
    obtain ⟨h', t', x', y', e⟩ := vr_loop2 k st hv ms hmin w3 w4 w5 w9 w10 w11 w12 w13 w14 w15 w17 w18 w19 w20 l (some (Z c)) (some (Z (1 + r))) x1 y1
    refine ⟨h', t', x', y', ?_⟩
    rw [List.map_cons]
    unfold forL
    have n1 := hv.n1
    have n0 := hv.n0
    have w1 := hv.w1
    have w0 := hv.w0
    have m1 : binD .Mult (.int w) (.int (1 + r)) = some (.int (w * (1 + r))) := mul_i (mulOk_l (by omega))
    have d1 := v_law_distance k (w * (1 + r)) n (cup x1 y1 :: st) (by omega)
    have q := hmin (1 + r) (by omega)
    have s0 : stTg (.v 8) (.int c) [some (.m 0), some (Z w), some (Z n), w3, w4, w5, some (Z most), some (Z least), h, w9, w10, w11, w12, w13, w14, w15, t, w17, w18, w19, w20] = some [some (.m 0), some (Z w), some (Z n), w3, w4, w5, some (Z most), some (Z least), some (Z c), w9, w10, w11, w12, w13, w14, w15, t, w17, w18, w19, w20] := rfl
    have s2 : runSs (fns T (k + 1)) b1__law_vernier_right [some (.m 0), some (Z w), some (Z n), w3, w4, w5, some (Z most), some (Z least), some (Z c), w9, w10, w11, w12, w13, w14, w15, t, w17, w18, w19, w20] (cup x y :: st) = some (.nx, [some (.m 0), some (Z w), some (Z n), w3, w4, w5, some (Z most), some (Z least), some (Z c), w9, w10, w11, w12, w13, w14, w15, some (Z (1 + r)), w17, w18, w19, w20], cup x1 y1 :: st) := by
      generalize dst (w * (1 + r)) n = D at *
      by_cases c1 : 1 + r < most
      · have q' : ¬ D < least := by have := q c1; omega
        simp [b1__law_vernier_right, rdRaw, rdVar, bltW, mxd, s1, m1, d1, c1, q']
      · simp [b1__law_vernier_right, rdRaw, rdVar, bltW, mxd, s1, m1, d1, c1]
    simp only [s0, s2]
    exact e
end WM.K82
namespace WM.K82
open PySem PySem.Spec PyProof.Rows L2 RT
theorem vr_lk (b : Bool) (i j p q g : Int) : Lk 2 (.list [.bool b, .int i, .int j, d2 p q, .int g]) := by
  intro x hx
  simp only [List.mem_cons, List.not_mem_nil, or_false] at hx
  rcases hx with rfl | rfl | rfl | rfl | rfl
  · exact True.intro
  · exact True.intro
  · exact True.intro
  · intro z hz
    simp only [List.mem_cons, List.not_mem_nil, or_false] at hz
    rcases hz with rfl | rfl <;> exact True.intro
  · exact True.intro
theorem v_law_vernier_right (k : Nat) (w n x y : Int) (st : Store) (hv : Vn w n) (w200 : w ≤ 1000) : ∃ a' b', fns T (k + 7) i__law_vernier_right [.m 0, Z w, Z n] (cup x y :: st) = some (Bl true, cup a' b' :: st) := by
  have hv' := hv
  obtain ⟨w0, w1, n0, n1⟩ := hv'
  obtain ⟨g, X, Y, hg, g0, ew, en, X0, Y0, gc, ex, ey⟩ := low_facts (show 0 ≤ w by omega) (show 0 < n by omega)
  have hs : sizeLine = 16777216 := sizeLine_eq
  have Yn : Y ≤ n := by
    have := Int.mul_le_mul_of_nonneg_right (show 1 ≤ g by omega) (show 0 ≤ Y by omega)
    omega
  have gn : g ≤ n := by
    have := Int.mul_le_mul_of_nonneg_left (show 1 ≤ Y by omega) (show 0 ≤ g by omega)
    omega
  have Xw : X ≤ w := by
    have := Int.mul_le_mul_of_nonneg_right (show 1 ≤ g by omega) X0
    omega
  have hlow := v_law_low (k + 4) w n (cup x y :: st) (by omega) (by omega) (by omega)
  rw [ex, ey] at hlow
  have hR : Rt X Y := ⟨Y0, gc, by omega, by omega⟩
  have hcv := v_convergents_of (k + 1) X Y (cup x y :: st) hR X0 (by omega) (by omega)
  -- the row
  have hcl : (cvs 1001 X Y).length ≤ 1001 := by
    rw [← cvs_by, List.length_map, List.length_range]
    exact (pt_nn 1001 X Y X0 (by omega)).2.2
  have hrl : (rowV X Y n).length ≤ 1001 := Nat.le_trans (List.length_filter_le _ _) hcl
  have hrow : runE (fns T (k + 6)) c0__law_vernier_right [some (.m 0), some (Z w), some (Z n), none, none, none, none, none, none, none, none, none, none, none, some (F2 X Y), some (F2 0 1), none, none, none, none, none] (cup x y :: st) = some (Li ((rowV X Y n).map p2D), cup x y :: st) := by
    unfold c0__law_vernier_right
    exact run_comp_fm (cvs 1001 X Y) p2D (fun f => decide (f.2 < n)) p2D (runI_val (x := .tuple ((cvs 1001 X Y).map p2D)) (by simp [rdRaw, hcv]) rfl) (by omega) fun f _ => ⟨_, rfl, by simp [rdRaw, rdVar], fun _ => by simp [rdRaw, rdVar]⟩
  have hmem : ∀ f ∈ rowV X Y n, 0 < f.2 ∧ f.2 < n := fun f hf => rowV_mem X0 Y0 hf
  have hne := rowV_ne (X := X) Y0 n0
  have hpos : 0 < (rowV X Y n).length := List.length_pos_iff.mpr hne
  obtain ⟨ha, el1⟩ := vr_loop1 k (cup x y :: st) hv none none none none none none none none none (some (F2 X Y)) none none none none none (some (Li ((rowV X Y n).map p2D))) (some (.m 0)) (rowV X Y n) hmem none
  have er1 : runS (fns T (k + 6)) l0__law_vernier_right [some (.m 0), some (Z w), some (Z n), some (Li ((rowV X Y n).map p2D)), none, none, none, none, none, none, none, none, none, none, some (F2 X Y), some (F2 0 1), none, none, none, none, none] (cup x y :: st) = _ := run_for_of (runI_val (x := .list ((rowV X Y n).map p2D)) (by simp [rdVar]) rfl) el1
  obtain ⟨at', x1, y1, s1, l1, u1⟩ := v_roll (k + 5) ((rowV X Y n).length : Int) x y st (by omega) (by omega)
  obtain ⟨i, rfl⟩ : ∃ i : Nat, at' = (i : Int) := ⟨at'.toNat, by omega⟩
  obtain ⟨f, hf⟩ : ∃ f, (rowV X Y n)[i]? = some f := ⟨_, List.getElem?_eq_getElem (show i < (rowV X Y n).length by omega)⟩
  obtain ⟨f0, f1⟩ := hmem f (List.mem_of_getElem? hf)
  have hbest := fun z (z1 : 1 ≤ z) z2 => row_best g0 ew en X0 Y0 (by omega) hf (j := z) z1 z2
  have ix1 : ixD (.list ((rowV X Y n).map p2D)) (.int (i : Int)) = some (p2D f) := ix_nat _ i _ (by rw [List.getElem?_map, hf]; rfl)
  -- the next bottom
  have hmost : mostV X Y n i ≤ 1000 ∧ runE (fns T (k + 6)) vrM [some (.m 0), some (Z w), some (Z n), some (Li ((rowV X Y n).map p2D)), ha, some (Z i), none, none, none, none, none, none, none, none, some (F2 X Y), some (F2 0 1), none, none, none, none, none] (cup x1 y1 :: st) = some (Z (mostV X Y n i), cup x1 y1 :: st) := by
    unfold vrM mostV
    have mnd : bltD .mn [.int Y, .int n] = some (.int Y) := by
      show some (PyData.int (if n < Y then n else Y)) = _
      rw [if_neg (by omega)]
    have eL : bltD .len [.list ((rowV X Y n).map p2D)] = some (.int ((rowV X Y n).length : Int)) := by
      show some (PyData.int (((rowV X Y n).map p2D).length : Int)) = _
      rw [List.length_map]
    cases hG : (rowV X Y n)[i + 1]? with
    | some G =>
      have hGm := hmem G (List.mem_of_getElem? hG)
      have hl : (i : Int) + 1 < (rowV X Y n).length := by
        have := (List.getElem?_eq_some_iff.mp hG).1
        omega
      have ix2 : ixD (.list ((rowV X Y n).map p2D)) (.int ((i : Int) + 1)) = some (p2D G) := by
        have := ix_nat ((rowV X Y n).map p2D) (i + 1) (p2D G) (by rw [List.getElem?_map, hG]; rfl)
        exact this
      refine ⟨by show G.2 ≤ 1000; omega, ?_⟩
      generalize (rowV X Y n).map p2D = RR at *
      simp [rdRaw, rdVar, bltW, eL, hl, ix2]
    | none =>
      have hl : ¬ (i : Int) + 1 < (rowV X Y n).length := by
        have := List.getElem?_eq_none_iff.mp hG
        omega
      refine ⟨by show Y ≤ 1000; omega, ?_⟩
      generalize (rowV X Y n).map p2D = RR at *
      simp [rdRaw, rdVar, bltW, eL, hl, mnd]
  obtain ⟨hm1, hm2⟩ := hmost
  have mw : binD .Mult (.int w) (.int f.2) = some (.int (w * f.2)) := mul_i (mulOk_l (by omega))
  have d1 := v_law_distance (k + 5) (w * f.2) n (cup x1 y1 :: st) (by omega)
  generalize mostV X Y n i = most at *
  generalize dst (w * f.2) n = least at *
  obtain ⟨hb, hj, x2, y2, el2⟩ := vr_loop2 (k + 5) st hv hm1 hbest (some (Li ((rowV X Y n).map p2D))) ha (some (Z i)) none none none none none (some (F2 X Y)) (some (F2 0 1)) none none none none (iv 0 3) none none x1 y1
  have er2 : runS (fns T (k + 6)) l1__law_vernier_right [some (.m 0), some (Z w), some (Z n), some (Li ((rowV X Y n).map p2D)), ha, some (Z i), some (Z most), some (Z least), none, none, none, none, none, none, some (F2 X Y), some (F2 0 1), none, none, none, none, none] (cup x1 y1 :: st) = _ := run_for_of (runI_rng1 (j := 3) (by simp) (by decide) (by decide)) el2
  -- what it tells
  have m3 : binD .FloorDiv (.int n) (.int Y) = some (.int g) := by
    rw [div_i Y0 (small_big (by omega)), en, Int.mul_ediv_cancel _ (by omega)]
  have t1 := v_reads_all (k + 2) w n (cup x2 y2 :: st) hv
  have t2 := v_parts_read (k + 2) w n (cup x2 y2 :: st) hv
  have t3 := v_read_at (k + 2) w n 0 (cup x2 y2 :: st) hv (by omega) (by omega)
  have t4 := v_greatest_off (k + 2) w n (cup x2 y2 :: st) hv
  have t5 := v_marks_reading (k + 2) w n 0 (cup x2 y2 :: st) hv (by omega) (by omega)
  have t6 := v_law_low (k + 4) g (2 * n) (cup x2 y2 :: st) (by omega) (by omega) (by omega)
  rw [hg] at t1 t4
  rw [ey] at t2
  have z0 : -(0 : Int) * w % n = 0 := by simp
  rw [z0] at t3
  have ml : ∀ K', ((mr w n (g * K')).length : Int) = g := fun K' => by
    obtain ⟨j0, _, _, e⟩ := mr_eq (K := g * K') g0 ew en rfl X0 Y0 gc
    rw [e, List.length_map, iv_len]
    omega
  have ml0 : ((mr w n 0).length : Int) = g := by
    have := ml 0
    rw [Int.mul_zero] at this
    exact this
  have eL0 : bltD .len [.tuple ((mr w n 0).map PyData.int)] = some (.int g) := by
    show some (PyData.int (((mr w n 0).map PyData.int).length : Int)) = _
    rw [List.length_map, ml0]
  have m2n : binD .Mult (.int 2) (.int n) = some (.int (2 * n)) := mul_i (mulOk_l (by decide))
  generalize g / (Int.gcd g (2 * n) : Int) = o1 at *
  generalize 2 * n / (Int.gcd g (2 * n) : Int) = o2 at *
  have lk := v_law_like 2 (k + 2) _ (cup x2 y2 :: st) (vr_lk (decide (g = 1)) Y 0 o1 o2 g)
  generalize htold : (PyData.list [.bool (decide (g = 1)), .int Y, .int 0, d2 o1 o2, .int g]) = told at *
  have told1 : runE (fns T (k + 6)) vrT [some (.m 0), some (Z w), some (Z n), some (Li ((rowV X Y n).map p2D)), ha, some (Z i), some (Z most), some (Z least), hb, some (Z g), none, none, none, none, some (F2 X Y), some (F2 0 1), hj, none, none, none, none] (cup x2 y2 :: st) = some (.d told, cup x2 y2 :: st) := by
    unfold vrT
    rw [← htold]
    generalize (mr w n 0).map PyData.int = MM at *
    simp [rdRaw, rdVar, bltW, t1, t2, t3, t4, t5, eL0, hs]
  have told2 : runE (fns T (k + 6)) vrD [some (.m 0), some (Z w), some (Z n), some (Li ((rowV X Y n).map p2D)), ha, some (Z i), some (Z most), some (Z least), hb, some (Z g), some (.d told), none, none, none, some (F2 X Y), some (F2 0 1), hj, none, none, none, none] (cup x2 y2 :: st) = some (.d told, cup x2 y2 :: st) := by
    unfold vrD
    rw [← htold]
    simp [rdRaw, rdVar, m2n, t6, hs]
  have eL : bltD .len [.list ((rowV X Y n).map p2D)] = some (.int ((rowV X Y n).length : Int)) := by
    show some (PyData.int (((rowV X Y n).map p2D).length : Int)) = _
    rw [List.length_map]
  generalize (rowV X Y n).map p2D = RR at *
  rw [s__law_vernier_right]
  unfold runF
  rw [vr_body]
  have e7 : f__law_vernier_right.n = 21 := rfl
  have e8 : f__law_vernier_right.ps = 3 := rfl
  rw [e7, e8]
  by_cases c2 : Y < 2
  · refine ⟨x2, y2, ?_⟩
    simp [slots, rdRaw, rdVar, fin, bltW, hs, hlow, hrow, er1, eL, s1, hm2, ix1, mw, d1, er2, m3, told1, told2, lk, c2]
  · have Y2 : 2 ≤ Y := by omega
    obtain ⟨la, lb, ua, ub, e1, e2, nb⟩ := v_near k X Y (Y - 1) (cup x2 y2 :: st) hR X0 (by omega) (by omega) (by omega) (by omega)
    obtain ⟨q1, q2, q3⟩ := nb_last nb
    have lb0 := nb.l20
    have ub0 := nb.u20
    have lb1 := nb.l2b
    have ub1 := nb.u2b
    have mu : binD .Mod (.int ub) (.int n) = some (.int ub) := by
      rw [mod_i (by omega), Int.emod_eq_of_lt (by omega) (by omega)]
    have mv : binD .Mod (.int lb) (.int n) = some (.int lb) := by
      rw [mod_i (by omega), Int.emod_eq_of_lt (by omega) (by omega)]
    have r1 := v_read_at (k + 2) w n ub (cup x2 y2 :: st) hv (by omega) (by omega)
    have r2 := v_read_at (k + 2) w n lb (cup x2 y2 :: st) hv (by omega) (by omega)
    rw [read_up g0 ew en Y2 q2] at r1
    rw [read_down g0 ew en Y2 q3] at r2
    obtain ⟨r, x3, y3, s3, l3, u3⟩ := v_roll (k + 5) Y x2 y2 st (by omega) (by omega)
    have mk : binD .Mult (.int g) (.int r) = some (.int (g * r)) := mul_i (mulOk_l (by omega))
    have K0 : 0 ≤ g * r := Int.mul_nonneg (by omega) l3
    have K1 : g * r < n := by
      have := Int.mul_le_mul_of_nonneg_left (show r + 1 ≤ Y by omega) (show 0 ≤ g by omega)
      rw [Int.mul_add] at this
      omega
    have k1 := v_marks_reading (k + 2) w n (g * r) (cup x3 y3 :: st) hv K0 K1
    have mlr := ml r
    have hlk := v_law_low (k + 4) (g * r) n (cup x3 y3 :: st) K0 (by omega) (by omega)
    obtain ⟨g', P, Q, _, g0', eK, en', P0, Q0, gcP, exP, eyP⟩ := low_facts K0 (show 0 < n by omega)
    rw [exP, eyP] at hlk
    have Qn : Q ≤ n := by
      have := Int.mul_le_mul_of_nonneg_right (show 1 ≤ g' by omega) (show 0 ≤ Q by omega)
      omega
    have PQ : P ≤ Q := by
      rcases Int.lt_or_le Q P with c | c
      · have := Int.mul_le_mul_of_nonneg_left (show Q ≤ P by omega) (show 0 ≤ g' by omega)
        omega
      · exact c
    have bm := v_best_marks (k + 2) w n P Q (g * r) g X Y r (cup x3 y3 :: st) hv ⟨Q0, gcP, by omega, by omega⟩ P0 PQ (by omega) (by rw [eK]; rw [show P * n = P * (g' * Q) by rw [← en']]; grind) g0 ew en rfl X0 Y0 gc
    have hc1 : runE (fns T (k + 6)) c1__law_vernier_right [some (.m 0), some (Z w), some (Z n), some (.d (.list RR)), ha, some (Z i), some (Z most), some (Z least), hb, some (Z g), some (.d told), some (.d told), some (Z (g * r)), some (Tu ((mr w n (g * r)).map PyData.int)), some (F2 X Y), some (F2 0 1), hj, some (F2 la lb), some (F2 ua ub), some (Z g), some (Z (n - g))] (cup x3 y3 :: st) = some (Li [], cup x3 y3 :: st) := by
      have hl : (mr w n (g * r)).length ≤ 1000 := by omega
      unfold c1__law_vernier_right
      have := run_comp_fm (Φ := fns T (k + 6)) (tg := .v 16) (it := .val (.var 13)) (own := [16]) (c := .cmp .NotEq (.call i_read_at (.cons (.raw 1) (.cons (.raw 2) (.cons (.raw 16) .nil)))) (.var 12)) (elt := .var 16) (sl := [some (.m 0), some (Z w), some (Z n), some (.d (.list RR)), ha, some (Z i), some (Z most), some (Z least), hb, some (Z g), some (.d told), some (.d told), some (Z (g * r)), some (Tu ((mr w n (g * r)).map PyData.int)), some (F2 X Y), some (F2 0 1), hj, some (F2 la lb), some (F2 ua ub), some (Z g), some (Z (n - g))]) (st := cup x3 y3 :: st) (mr w n (g * r)) PyData.int (fun _ => false) PyData.int (runI_val (x := .tuple ((mr w n (g * r)).map PyData.int)) (by simp [rdVar]) rfl) (by omega) (fun j hj' => by
        obtain ⟨j0, j1, j2⟩ := mr_mem K0 K1 hj'
        have e3 := v_read_at (k + 2) w n j (cup x3 y3 :: st) hv j0 j1
        rw [j2] at e3
        refine ⟨_, rfl, ?_, fun h => by cases h⟩
        generalize g * r = K at *
        generalize (mr w n K).map PyData.int = MM at *
        simp [rdRaw, rdVar, e3])
      have ef : (mr w n (g * r)).filter (fun _ => false) = [] := by simp
      rw [ef] at this
      exact this
    have hRet : runE (fns T (k + 6)) vrR [some (.m 0), some (Z w), some (Z n), some (.d (.list RR)), ha, some (Z i), some (Z most), some (Z least), hb, some (Z g), some (.d told), some (.d told), some (Z (g * r)), some (Tu ((mr w n (g * r)).map PyData.int)), some (F2 X Y), some (F2 0 1), hj, some (F2 la lb), some (F2 ua ub), some (Z g), some (Z (n - g))] (cup x3 y3 :: st) = some (Bl true, cup x3 y3 :: st) := by
      unfold vrR
      have eLK : bltD .len [.tuple ((mr w n (g * r)).map PyData.int)] = some (.int g) := by
        show some (PyData.int (((mr w n (g * r)).map PyData.int).length : Int)) = _
        rw [List.length_map, mlr]
      have eqT := eq_intsT (mr w n (g * r)) (mr w n (g * r))
      rw [decide_eq_true rfl] at eqT
      generalize g * r = K at *
      generalize (mr w n K).map PyData.int = MM at *
      simp [rdRaw, rdVar, bltW, eLK, hc1, eqnil, hlk, bm, eqT, hs]
    have hS : runE (fns T (k + 6)) vrS [some (.m 0), some (Z w), some (Z n), some (.d (.list RR)), ha, some (Z i), some (Z most), some (Z least), hb, some (Z g), some (.d told), some (.d told), none, none, some (F2 X Y), some (F2 0 1), hj, some (F2 la lb), some (F2 ua ub), some (Z g), some (Z (n - g))] (cup x2 y2 :: st) = some (Bl false, cup x2 y2 :: st) := by
      unfold vrS
      have so := sorted_ints [g, n - g]
      have ne := ne_ints (sortI [g, n - g]) (sortI [g, n - g])
      rw [decide_eq_true rfl] at ne
      generalize (sortI [g, n - g]).map PyData.int = SS at *
      simp only [List.map_cons, List.map_nil] at so
      simp [rdRaw, rdVar, bltW, so, ne, hs, q1]
    refine ⟨x3, y3, ?_⟩
    generalize (mr w n (g * r)).map PyData.int = MM at *
    generalize g * r = K at *
    simp [slots, rdRaw, rdVar, fin, bltW, hs, hlow, hrow, er1, eL, s1, hm2, ix1, mw, d1, er2, m3, told1, told2, lk, c2, e1, e2, mu, mv, r1, r2, hS, s3, mk, k1, hRet, -Int.not_lt]
end WM.K82
namespace WM.K82
open PySem PySem.Spec PyProof.Rows L2 RT
theorem all_true {α : Type} (l : List α) : bltD .all [.list (l.map fun _ => .bool true)] = some (.bool true) := by
  rw [all_b l fun _ => true]
  simp
theorem rep_t (xs : List D) (k : Int) (h : xs ≠ [] ∧ -(2 ^ 62) ≤ k ∧ k ≤ 1000 ∧ xs.length ≤ 1000) : binD .Mult (.tuple xs) (.int k) = some (.tuple (flatten' k.toNat xs)) := if_pos h
theorem in_intsT (i : Int) (ns : List Int) : cmpD .In (.int i) (.tuple (ns.map PyData.int)) = some (decide (i ∈ ns)) := by
  show (if shp (.int i) && shp (.tuple (ns.map PyData.int)) then some ((ns.map PyData.int).any fun z => PyData.eqv z (.int i)) else Option.none) = _
  rw [shp_int, (Shp.intsT ns).shp]
  show some _ = _
  rw [List.any_map]
  congr 1
  rw [Bool.eq_iff_iff]
  simp [Function.comp_def]
theorem sl_drop (xs : List D) (m : Nat) (h : m ≤ xs.length) : slD (.tuple xs) (some (m : Int)) none = some (.tuple (xs.drop m)) := by
  show some (PyData.tuple (cutD _ _ _)) = _
  unfold cutD
  have h1 : ∀ n : Nat, HT.sIx n n none = n := fun _ => rfl
  have h2 : HT.sIx xs.length 0 (some (m : Int)) = m := by
    unfold HT.sIx
    simp
    split <;> omega
  rw [h1, h2]
  rw [List.take_of_length_le (by simp)]
theorem v_made_of (k : Nat) (x : Int) (xs : List Int) (st : Store) (h : ∀ q ∈ x :: xs, 0 ≤ q ∧ q ≤ 1000) (hz : ∀ q ∈ xs, q ≠ 0) (hl : xs.length ≤ 50) : fns T (k + 2) i_made_of [Tu ((x :: xs).map PyData.int)] st = some (F2 (byP (x :: xs)).1 (byP (x :: xs)).2, st) := by
  rw [s_made_of]
  have e1 := w_is_tuple_of k ((x :: xs).map PyData.int) 1 60 st (by simp; omega) (by simp; omega)
  have e2 : runE (fns T (k + 1)) c0_made_of [some (Tu ((x :: xs).map PyData.int)), none] st = some (Li ((x :: xs).map fun _ => .bool true), st) := by
    unfold c0_made_of
    refine run_comp_map (x :: xs) PyData.int (fun _ => .bool true) (runI_val (x := .tuple ((x :: xs).map PyData.int)) (by simp [rdVar]) rfl) (by simp [sizeLine]; omega) fun q hq => ⟨_, rfl, ?_⟩
    have := w_is_whole k q 0 1000 st (h q hq).1 (h q hq).2
    simp [rdRaw, this]
  have e3 := all_true (x :: xs)
  have e4 : slD (.tuple ((x :: xs).map PyData.int)) (some 1) none = some (.tuple (xs.map PyData.int)) := sl_drop ((x :: xs).map PyData.int) 1 (by simp)
  have e5 := in_intsT 0 xs
  rw [decide_eq_false (fun z => hz 0 z rfl)] at e5
  have e6 := v_by_parts k (x :: xs) st fun q hq => by have := h q hq; omega
  have e7 : bltD .list [.tuple ((x :: xs).map PyData.int)] = some (.list ((x :: xs).map PyData.int)) := if_pos (by simp [sizeLine]; omega)
  generalize ((x :: xs).map fun _ => PyData.bool true) = BB at *
  generalize (x :: xs).map PyData.int = XX at *
  generalize xs.map PyData.int = XS at *
  simp [runF, f_made_of, slots, rdRaw, rdVar, fin, bltW, e1, e2, e3, e4, e5, e6, e7]
theorem gr_loop (k : Nat) {X Y : Int} {row : List (Int × Int)} (st : Store) (X0 : 0 ≤ X) (XY : X < Y) (Y1 : Y ≤ 1000) (w3 w4 c : Option W) (hrow : ∀ f ∈ row, 0 ≤ f.2 ∧ f.2 ≤ 1000) : ∀ (l : List (Int × Int)) (i : Nat), (∀ f ∈ l, 0 ≤ f.2 ∧ f.2 ≤ 1000) → (i + l.length ≤ row.length) → ∀ (h5 h6 h7 : Option W), ∃ h5' h6' h7', forL (fun d sl => stTg (.t (.cons (.v 5) (.cons (.v 6) .nil))) d sl) (fun sl st => runSs (fns T (k + 6)) b0__law_great_right sl st) (enumD i (l.map p2D)) [c, some (F2 X Y), some (Tu (row.map p2D)), w3, w4, h5, h6, h7] st = some (.nx, [c, some (F2 X Y), some (Tu (row.map p2D)), w3, w4, h5', h6', h7'], st)
  | [], _, _, _, h5, h6, h7 => ⟨h5, h6, h7, rfl⟩
  | f :: l, i, hl, hi, h5, h6, h7 => by
    obtain ⟨f0, f1⟩ := hl f (by simp)
    have m1 : binD .Mult (.int X) (.int f.2) = some (.int (X * f.2)) := mul_i (mulOk_l (by omega))
    have d1 := v_law_distance (k + 5) (X * f.2) Y st (by omega)
    have dn := dst_nn (x := X * f.2) (show 0 < Y by omega)
    have dl := dst_half (x := X * f.2) (show 0 < Y by omega)
    generalize dst (X * f.2) Y = G at *
    obtain ⟨h5', h6', h7', e⟩ := gr_loop k st X0 XY Y1 w3 w4 c hrow l (i + 1) (fun g hg => hl g (List.mem_cons_of_mem _ hg)) (by simp at hi ⊢; omega) (some (Z i)) (some (.d (p2D f))) (some (Z G))
    refine ⟨h5', h6', h7', ?_⟩
    rw [List.map_cons]
    unfold enumD forL
    have s0 : stTg (.t (.cons (.v 5) (.cons (.v 6) .nil))) (.tuple [.int (i : Int), p2D f]) [c, some (F2 X Y), some (Tu (row.map p2D)), w3, w4, h5, h6, h7] = some [c, some (F2 X Y), some (Tu (row.map p2D)), w3, w4, some (Z i), some (.d (p2D f)), h7] := rfl
    have s2 : runSs (fns T (k + 6)) b0__law_great_right [c, some (F2 X Y), some (Tu (row.map p2D)), w3, w4, some (Z i), some (.d (p2D f)), h7] st = some (.nx, [c, some (F2 X Y), some (Tu (row.map p2D)), w3, w4, some (Z i), some (.d (p2D f)), some (Z G)], st) := by
      by_cases c0 : 0 < (i : Int)
      · obtain ⟨j, rfl⟩ : ∃ j : Nat, i = j + 1 := ⟨i - 1, by omega⟩
        have hj : j < row.length := by simp at hi; omega
        have hf : (row.map p2D)[j]? = some (p2D row[j]) := by rw [List.getElem?_map, List.getElem?_eq_getElem hj]; rfl
        have ix : ixD (.tuple (row.map p2D)) (.int (((j + 1 : Nat) : Int) - 1)) = some (p2D row[j]) := by
          have e : (((j + 1 : Nat) : Int) - 1) = (j : Int) := by omega
          rw [e]
          have hlt : j < (row.map p2D).length := by simpa using hj
          have : atI (row.map p2D) (j : Int) = some (p2D row[j]) := by
            unfold L2.atI L2.ixN
            rw [if_pos (by omega), if_pos (by omega)]
            exact hf
          exact this
        obtain ⟨g0, g1⟩ := hrow row[j] (List.getElem_mem hj)
        generalize row[j] = g at *
        generalize row.map p2D = RR at *
        generalize ((j + 1 : Nat) : Int) = ii at *
        have m2 : binD .Mult (.int X) (.int g.2) = some (.int (X * g.2)) := mul_i (mulOk_l (by omega))
        have d2 := v_law_distance (k + 5) (X * g.2) Y st (by omega)
        generalize dst (X * g.2) Y = G2 at *
        have m3 : binD .Mod (.int G) (.int 2) = some (.int (G % 2)) := mod_i (by omega)
        by_cases c1 : G < G2
        · by_cases c2 : G % 2 = 0
          · have m4 : binD .FloorDiv (.int G) (.int 2) = some (.int (G / 2)) := div_i (by omega) (small_big (by decide))
            have hh : 2 * (G / 2) = G := by omega
            obtain ⟨F, hF⟩ := first_ex (a := X) (n := Y) (most := 2 * (G / 2)) X0 (by omega) Y1 (by omega)
            obtain ⟨g', X', Y', _, gg, ea, en, X0', Y0', _, _, _⟩ := low_facts X0 (show 0 < Y by omega)
            have hfy := hF.le (by omega) (by omega) gg ea en Y0'
            have hY : Y' ≤ Y := by
              have := Int.mul_le_mul_of_nonneg_right (show 1 ≤ g' by omega) (show 0 ≤ Y' by omega)
              omega
            have b1 := v_blurred_gap k X Y (G / 2) 5000 F st ⟨X0, XY, Y1⟩ (by omega) (by omega) (by decide) (by decide) hF
            rw [if_pos (by omega)] at b1
            rw [hh] at hF
            have b2 := v_law_first k X Y G F st X0 (by omega) (by omega) Y1 dn hF
            simp [b0__law_great_right, rdRaw, rdVar, bltW, m1, d1, c0, ix, m2, d2, c1, m3, c2, m4, b1, b2, sizeLine]
          · simp [b0__law_great_right, rdRaw, rdVar, bltW, m1, d1, c0, ix, m2, d2, c1, m3, c2]
        · simp [b0__law_great_right, rdRaw, rdVar, bltW, m1, d1, c0, ix, m2, d2, c1]
      · generalize row.map p2D = RR at *
        have c1 : ¬ 0 < i := by omega
        simp [b0__law_great_right, rdRaw, rdVar, bltW, m1, d1, c1]
    simp only [s0, s2]
    exact e
def grF (p : Int) (m : Nat) : Int × Int := byP (0 :: (List.replicate m p ++ [2]))
def grOk (p : Int) (m : Nat) : Bool := decide (1000 < (grF p m).2) || (decide (0 ≤ (grF p m).1) && decide ((grF p m).1 < (grF p m).2) && decide (Int.gcd (grF p m).1 (grF p m).2 = 1) && (match (cvs 1001 (grF p m).1 (grF p m).2).reverse with
  | _ :: g :: _ => decide (2 ≤ g.2) && decide (g.2 < (grF p m).2) && decide ((g.2 * (grF p m).1 - g.1 * (grF p m).2).natAbs = 1)
  | _ => false))
theorem grOk_all : ∀ p ∈ ([1, 2, 3] : List Int), ∀ m ∈ ([3, 4, 5, 6, 7] : List Nat), grOk p m = true := by decide +kernel
theorem grOk_is {p : Int} {m : Nat} (h : grOk p m = true) (hc : ¬ 1000 < (grF p m).2) : 0 ≤ (grF p m).1 ∧ (grF p m).1 < (grF p m).2 ∧ Int.gcd (grF p m).1 (grF p m).2 = 1 ∧ ∃ pre g l, cvs 1001 (grF p m).1 (grF p m).2 = pre ++ [g, l] ∧ 2 ≤ g.2 ∧ g.2 < (grF p m).2 ∧ (g.2 * (grF p m).1 - g.1 * (grF p m).2).natAbs = 1 := by
  unfold grOk at h
  rw [decide_eq_false hc, Bool.false_or] at h
  simp only [Bool.and_eq_true, decide_eq_true_eq] at h
  obtain ⟨⟨⟨h1, h2⟩, h3⟩, h4⟩ := h
  refine ⟨h1, h2, h3, ?_⟩
  split at h4
  · rename_i l g rest e
    simp only [Bool.and_eq_true, decide_eq_true_eq] at h4
    obtain ⟨⟨a, b⟩, c⟩ := h4
    refine ⟨rest.reverse, g, l, ?_, a, b, c⟩
    have := congrArg List.reverse e
    rw [List.reverse_reverse] at this
    rw [this]
    simp
  · cases h4
theorem ix_m2 (ys : List D) (a b : D) : ixD (.tuple (ys ++ [a, b])) (.int (-2)) = some a := by
  have : atI (ys ++ [a, b]) (-2) = some a := by
    unfold L2.atI L2.ixN
    rw [if_neg (by omega), if_pos (by simp; omega)]
    have : ((-2 : Int) + ((ys ++ [a, b]).length : Int)).toNat = ys.length := by simp; omega
    rw [this]
    simp
  exact this
theorem v_law_great_right (k : Nat) (x y : Int) (st : Store) : ∃ a' b', fns T (k + 7) i__law_great_right [.m 0] (cup x y :: st) = some (Bl true, cup a' b' :: st) := by
  obtain ⟨r1, x1, y1, s1, l1, u1⟩ := v_roll (k + 5) 3 x y st (by omega) (by omega)
  obtain ⟨r2, x2, y2, s2, l2, u2⟩ := v_roll (k + 5) 5 x1 y1 st (by omega) (by omega)
  refine ⟨x2, y2, ?_⟩
  obtain ⟨m, hm⟩ : ∃ m : Nat, 3 + r2 = (m : Int) := ⟨(3 + r2).toNat, by omega⟩
  have hp : 1 + r1 ∈ ([1, 2, 3] : List Int) := by
    simp only [List.mem_cons, List.not_mem_nil, or_false]
    omega
  have hm' : m ∈ ([3, 4, 5, 6, 7] : List Nat) := by
    simp only [List.mem_cons, List.not_mem_nil, or_false]
    omega
  have ok := grOk_all _ hp _ hm'
  have hs : sizeLine = 16777216 := sizeLine_eq
  rw [s__law_great_right]
  generalize hP : 1 + r1 = p at *
  have m1 : binD .Mult (.tuple [.int p]) (.int (m : Int)) = some (.tuple ((List.replicate m p).map PyData.int)) := by
    rw [rep_t _ _ ⟨by simp, by omega, by omega, by simp⟩]
    have e : ((m : Int)).toNat = m := by omega
    rw [e]
    congr 2
    have : ∀ m : Nat, flatten' m [PyData.int p] = (List.replicate m p).map PyData.int := by
      intro m
      unfold flatten'
      induction m with
      | zero => rfl
      | succ n ih => rw [List.replicate_succ, List.flatten_cons, ih]; rfl
    exact this m
  have m2 : binD .Add (.tuple [.int 0]) (.tuple ((List.replicate m p).map PyData.int)) = some (.tuple ((0 :: List.replicate m p).map PyData.int)) := by
    rw [cat_t _ _ (by simp; omega)]
    simp
  have m3 : binD .Add (.tuple ((0 :: List.replicate m p).map PyData.int)) (.tuple [.int 2]) = some (.tuple ((0 :: (List.replicate m p ++ [2])).map PyData.int)) := by
    rw [cat_t _ _ (by simp; omega)]
    simp
  have mo := v_made_of (k + 4) 0 (List.replicate m p ++ [2]) (cup x2 y2 :: st) (fun q hq => by
    simp only [List.mem_cons, List.mem_append, List.mem_replicate, List.not_mem_nil, or_false] at hq
    omega) (fun q hq => by
    simp only [List.mem_cons, List.mem_append, List.mem_replicate, List.not_mem_nil, or_false] at hq
    omega) (by simp; omega)
  have mo : fns T (k + 6) i_made_of [Tu ((0 :: (List.replicate m p ++ [2])).map PyData.int)] (cup x2 y2 :: st) = some (F2 (grF p m).1 (grF p m).2, cup x2 y2 :: st) := mo
  by_cases c : 1000 < (grF p m).2
  · generalize (0 :: (List.replicate m p ++ [2])).map PyData.int = A1 at *
    generalize (0 :: List.replicate m p).map PyData.int = A2 at *
    generalize (List.replicate m p).map PyData.int = A3 at *
    generalize (grF p m).1 = X at *
    generalize (grF p m).2 = Y at *
    simp [runF, f__law_great_right, slots, rdRaw, rdVar, fin, hs, s1, s2, hP, hm, m1, m2, m3, mo, c]
  · obtain ⟨X0, XY, gc, pre, g, l, ec, g2, gY, gd⟩ := grOk_is ok c
    generalize (0 :: (List.replicate m p ++ [2])).map PyData.int = A1 at *
    generalize (0 :: List.replicate m p).map PyData.int = A2 at *
    generalize (List.replicate m p).map PyData.int = A3 at *
    generalize (grF p m).1 = X at *
    generalize (grF p m).2 = Y at *
    have Y1 : Y ≤ 1000 := by omega
    have hR : Rt X Y := ⟨by omega, gc, by omega, by omega⟩
    have cv := v_convergents_of (k + 1) X Y (cup x2 y2 :: st) hR X0 (by omega) Y1
    have hrow : ∀ f ∈ cvs 1001 X Y, 0 ≤ f.2 ∧ f.2 ≤ 1000 := fun f hf => by
      rw [cvs_I] at hf
      have := cvI_pos _ X Y _ _ _ _ _ _ (CvI.init X0 (by omega)) f hf
      omega
    have hcut : slD (.tuple ((cvs 1001 X Y).map p2D)) none (some (-1)) = some (.tuple ((pre ++ [g]).map p2D)) := by
      show some (PyData.tuple (cutD _ _ _)) = _
      have e : (cvs 1001 X Y).map p2D = (pre ++ [g]).map p2D ++ [p2D l] := by
        rw [ec]
        simp
      rw [e, cut_last]
    have hix : ixD (.tuple ((cvs 1001 X Y).map p2D)) (.int (-2)) = some (p2D g) := by
      have e : (cvs 1001 X Y).map p2D = pre.map p2D ++ [p2D g, p2D l] := by
        rw [ec]
        simp
      rw [e, ix_m2]
    obtain ⟨h5, h6, h7, el⟩ := gr_loop k (cup x2 y2 :: st) X0 XY Y1 (some (Z p)) (some (Z m)) (some (.m 0)) hrow (pre ++ [g]) 0 (fun f hf => hrow f (by rw [ec]; simp at hf ⊢; grind)) (by rw [ec]; simp) none none none
    have er : runS (fns T (k + 6)) l0__law_great_right [some (.m 0), some (F2 X Y), some (Tu ((cvs 1001 X Y).map p2D)), some (Z p), some (Z m), none, none, none] (cup x2 y2 :: st) = _ := run_for_of (runI_enum (st1 := cup x2 y2 :: st) (x := .tuple ((pre ++ [g]).map p2D)) (by simp [rdVar, hcut]) (.inr rfl)) el
    have ne := v_nearest k X Y g.1 g.2 (cup x2 y2 :: st) hR X0 (by omega) Y1 g2 gY gd
    have ro := v_round_of (k + 1) X Y (cup x2 y2 :: st) ⟨X0, XY, Y1⟩
    have g1 : (Int.gcd X Y : Int) = 1 := by omega
    rw [g1, Int.ediv_one] at ro
    generalize (cvs 1001 X Y).map p2D = RR at *
    simp [runF, f__law_great_right, slots, rdRaw, rdVar, fin, hs, s1, s2, hP, hm, m1, m2, m3, mo, c, cv, er, hix, ne, ro]
end WM.K82
namespace WM.K82
open PySem PySem.Spec PyProof.Rows L2 RT
theorem in_d2 (a b c : Int) : cmpD .In (.int a) (d2 b c) = some (decide (a ∈ [b, c])) := in_intsT a [b, c]
theorem v_train (k : Nat) (st : Store) : fns T (k + 5) i_train_ratio [F2 12 29, .d (hnD 12 29)] st = some (F2 12 29, st) := by
  rw [s_train_ratio]
  have t1 : ∀ b : Bool, bltD .all [.list [.bool b]] = some (.bool b) := fun b => by cases b <;> rfl
  have e0 : fns T (k + 2) i_is_ascending [F2 12 29] st = some (Bl true, st) := by
    rw [s_is_ascending]
    have e : runE (fns T (k + 1)) c0_is_ascending [some (F2 12 29), none, none] st = some (Li [.bool true], st) := by
      unfold c0_is_ascending
      have sl : slD (d2 12 29) (some 1) none = some (.tuple [.int 29]) := sl_drop [.int 12, .int 29] 1 (by decide)
      have hi : runI (fns T (k + 1)) (.zip (.var 0) (.sl (.var 0) (.some (.lit (.int 1))) .none)) [some (F2 12 29), none, none] st = some ([.tuple [.int 12, .int 29]], st) := by
        simp [rdVar, sl]
        rfl
      exact comp1 (sl' := [some (F2 12 29), some (Z 12), some (Z 29)]) hi rfl (by simp [rdVar])
    simp [runF, f_is_ascending, slots, rdRaw, rdVar, fin, bltW, e, t1]
  have e1 : fns T (k + 3) i_fit_kinds [F2 12 29] st = some (Bl true, st) := by
    rw [s_fit_kinds]
    have a1 := w_is_tuple_of (k + 1) [.int 12, .int 29] 1 16 st (by decide) (by decide)
    have a2 : runE (fns T (k + 2)) c0_fit_kinds [some (F2 12 29), none] st = some (Li [.bool true, .bool true], st) := by
      unfold c0_fit_kinds
      refine run_comp_map [(12 : Int), 29] PyData.int (fun _ => .bool true) (runI_val (x := d2 12 29) (by simp [rdVar]) rfl) (by decide) fun q hq => ⟨_, rfl, ?_⟩
      have hb : 2 ≤ q ∧ q ≤ 1000 := by
        simp only [List.mem_cons, List.not_mem_nil, or_false] at hq
        omega
      have := w_is_whole (k + 1) q 2 1000 st hb.1 hb.2
      simp [rdRaw, this]
    have a3 : bltD .all [.list [.bool true, .bool true]] = some (.bool true) := rfl
    have a1' : fns T (k + 2) i_is_tuple_of [F2 12 29, Z 1, Z 16] st = some (Bl true, st) := a1
    simp [runF, f_fit_kinds, slots, rdRaw, rdVar, fin, bltW, a1', a2, a3, e0]
  have e2 : fns T (k + 4) i_need_kinds [F2 12 29] st = some (No, st) := by
    rw [s_need_kinds]
    simp [runF, f_need_kinds, slots, rdRaw, rdVar, fin, e1]
  have e3 : fns T (k + 2) i_are_pairs [.d (hnD 12 29)] st = some (Bl true, st) := by
    rw [s_are_pairs]
    have a1 := w_is_tuple_of k [d2 12 29] 0 6 st (by decide) (by decide)
    have a2 : runE (fns T (k + 1)) c0_are_pairs [some (.d (hnD 12 29)), none, none, none] st = some (Li [.bool true], st) := by
      unfold c0_are_pairs
      have b := w_is_tuple2 k (.int 12) (.int 29) st
      exact comp1 (x := d2 12 29) (sl' := [some (.d (hnD 12 29)), none, none, some (F2 12 29)]) (by simp [rdVar]) rfl (by
        have b' : fns T (k + 1) i_is_tuple_of [F2 12 29, Z 2, Z 2] st = some (Bl true, st) := b
        simp [rdRaw, b'])
    have a3 : runE (fns T (k + 1)) c1_are_pairs [some (.d (hnD 12 29)), none, none, none] st = some (Li [.bool true], st) := by
      unfold c1_are_pairs
      have b1 := w_is_whole k 12 2 1000 st (by decide) (by decide)
      have b2 := w_is_whole k 29 2 1000 st (by decide) (by decide)
      exact comp1 (x := d2 12 29) (sl' := [some (.d (hnD 12 29)), some (Z 12), some (Z 29), none]) (by simp [rdVar]) rfl (by simp [rdRaw, b1, b2])
    simp [runF, f_are_pairs, slots, rdRaw, rdVar, fin, bltW, a1, a2, a3, t1]
  have e4 : fns T (k + 3) i_fits_train [F2 12 29, .d (hnD 12 29)] st = some (Bl true, st) := by
    rw [s_fits_train]
    have a2 : runE (fns T (k + 2)) c0_fits_train [some (F2 12 29), some (.d (hnD 12 29)), none, none] st = some (Li [.bool true], st) := by
      unfold c0_fits_train
      exact comp1 (x := d2 12 29) (sl' := [some (F2 12 29), some (.d (hnD 12 29)), some (Z 12), some (Z 29)]) (by simp [rdVar]) rfl (by simp [rdRaw, rdVar, in_d2])
    simp [runF, f_fits_train, slots, rdRaw, rdVar, fin, bltW, e3, a2, t1]
  have e5 : fns T (k + 4) i_need_train [F2 12 29, .d (hnD 12 29)] st = some (No, st) := by
    rw [s_need_train]
    simp [runF, f_need_train, slots, rdRaw, rdVar, fin, e4]
  have e6 : fns T (k + 4) i_ratio_in [.d (hnD 12 29)] st = some (F2 12 29, st) := by
    rw [s_ratio_in]
    have c1 : fns T (k + 3) i_cut [Z 12, Z 29] st = some (F2 12 29, st) := v_cutP (k + 2) 12 29 st (by decide) (by decide)
    have er : runS (fns T (k + 3)) l0_ratio_in [some (.d (hnD 12 29)), some (F2 1 1), none, none] st = some (.nx, [some (.d (hnD 12 29)), some (F2 12 29), some (Z 12), some (Z 29)], st) := by
      unfold l0_ratio_in
      refine for1 (st1 := st) (st2 := st) (x := d2 12 29) (sl1 := [some (.d (hnD 12 29)), some (F2 1 1), some (Z 12), some (Z 29)]) (by simp [rdVar]) rfl ?_
      have m1 : binD .Mult (.int 1) (.int 12) = some (.int 12) := mul_i (mulOk_l (by decide))
      have m2 : binD .Mult (.int 1) (.int 29) = some (.int 29) := mul_i (mulOk_l (by decide))
      simp [b0_ratio_in, rdRaw, rdVar, m1, m2, c1]
    simp [runF, f_ratio_in, slots, rdRaw, rdVar, fin, er, sizeLine]
  simp [runF, f_train_ratio, slots, rdRaw, rdVar, fin, e2, e5, e6]
theorem first29 {most F : Int} (f1 : 1 ≤ F) (hn : dst (12 * F) 29 ≤ most) (h : ((List.range F.toNat).all fun i => decide (i = 0) || decide (most < dst (12 * (i : Int)) 29)) = true) : FirstOk 12 29 most F := by
  refine ⟨f1, hn, fun z z1 hz => ?_⟩
  by_cases c : F ≤ z
  · exact c
  · have := List.all_eq_true.mp h z.toNat (List.mem_range.mpr (by omega))
    have e : ((z.toNat : Nat) : Int) = z := by omega
    rw [e] at this
    simp only [Bool.or_eq_true, decide_eq_true_eq] at this
    omega
theorem law_turn (k : Nat) (c x y : Int) (h5 : Option W) (w3 w4 w0 : Option W) : ∃ h5' x' y', runSs (fns T (k + 12)) b0_law [w0, some (.m 0), some (Z c), w3, w4, h5] [cup x y] = some (.nx, [w0, some (.m 0), some (Z c), w3, w4, h5'], [cup x' y']) := by
  obtain ⟨x1, y1, w, s1, hw⟩ := v_some (k + 10) [.int 9, .int 60, .int 1000] x y [] (by simp) (by simp)
  obtain ⟨N, rfl, N1, N2⟩ : ∃ N : Int, w = .int N ∧ 1 ≤ N ∧ N ≤ 1000 := by
    simp only [List.mem_cons, List.not_mem_nil, or_false] at hw
    rcases hw with rfl | rfl | rfl
    · exact ⟨_, rfl, by omega, by omega⟩
    · exact ⟨_, rfl, by omega, by omega⟩
    · exact ⟨_, rfl, by omega, by omega⟩
  obtain ⟨r, x2, y2, s2, l2, u2⟩ := v_roll (k + 11) N x1 y1 [] (by omega) (by omega)
  obtain ⟨a, x3, y3, s3, l3, u3⟩ := v_roll (k + 11) (1 + r) x2 y2 [] (by omega) (by omega)
  obtain ⟨x4, y4, t1⟩ := v_law_hand_right (k + 5) a (1 + r) x3 y3 [] ⟨l3, u3, by omega⟩
  obtain ⟨ww, x5, y5, s5, l5, u5⟩ := v_roll (k + 11) 200 x4 y4 [] (by omega) (by omega)
  obtain ⟨n, hn, n0, n1⟩ : ∃ n : Int, (if 1 + r < 1000 then 1 + (1 + r) else 1 + r) = n ∧ 2 ≤ n ∧ n ≤ 1000 := ⟨_, rfl, by split <;> omega, by split <;> omega⟩
  obtain ⟨x6, y6, t2⟩ := v_law_vernier_right (k + 5) (1 + ww) n x5 y5 [] ⟨by omega, by omega, n0, n1⟩ (by omega)
  obtain ⟨x7, y7, t3⟩ := v_law_two_right k x6 y6 []
  obtain ⟨x8, y8, t4⟩ := v_law_great_right (k + 5) x7 y7 []
  refine ⟨some (Z (1 + r)), x8, y8, ?_⟩
  have hs : sizeLine = 16777216 := sizeLine_eq
  generalize hm : 1 + r = m at *
  generalize hvv : 1 + ww = v at *
  by_cases c : m < 1000
  · rw [if_pos c] at hn
    rw [← hn] at t2
    simp [b0_law, rdRaw, rdVar, hm, hvv, hs, s1, s2, s3, t1, s5, c, t2, t3, t4]
  · rw [if_neg c] at hn
    rw [← hn] at t2
    simp [b0_law, rdRaw, rdVar, hm, hvv, hs, s1, s2, s3, t1, s5, c, t2, t3, t4]
theorem law_body (k : Nat) (c0 c1 : Int) : ∃ sl' st', runSs (fns T (k + 12)) b_law [none, some (.m 0), none, none, none, none] [cup c0 c1] = some (.ret (Bl true), sl', st') := by
  have loop : ∀ (l : List Int) (h h5 : Option W) (x y : Int), ∃ h' h5' x' y', forL (fun d sl => stTg (.v 2) d sl) (fun sl st => runSs (fns T (k + 12)) b0_law sl st) (l.map PyData.int) [none, some (.m 0), h, none, none, h5] [cup x y] = some (.nx, [none, some (.m 0), h', none, none, h5'], [cup x' y']) := by
    intro l
    induction l with
    | nil => exact fun h h5 x y => ⟨h, h5, x, y, rfl⟩
    | cons c l ih =>
      intro h h5 x y
      obtain ⟨h5', x1, y1, e1⟩ := law_turn k c x y h5 none none none
      obtain ⟨h', h5'', x', y', e⟩ := ih (some (Z c)) h5' x1 y1
      refine ⟨h', h5'', x', y', ?_⟩
      rw [List.map_cons]
      unfold forL
      have s0 : stTg (.v 2) (.int c) [none, some (.m 0), h, none, none, h5] = some [none, some (.m 0), some (Z c), none, none, h5] := rfl
      simp only [s0, e1]
      exact e
  obtain ⟨h', h5, x', y', e⟩ := loop (iv 0 5) none none c0 c1
  have e2 : runS (fns T (k + 12)) l0_law [none, some (.m 0), none, none, none, none] [cup c0 c1] = some (.nx, [none, some (.m 0), h', none, none, h5], [cup x' y']) := run_for_of (runI_rng1 (j := 5) (by simp) (by decide) (by decide)) e
  have hh : Hn 12 29 := ⟨by decide, by decide, by decide⟩
  have t1 := v_blurred_gap (k + 6) 12 29 0 100 29 [cup x' y'] hh (by decide) (by decide) (by decide) (by decide) (first29 (by decide) (by decide) (by decide))
  have t2 := v_blurred_gap (k + 6) 12 29 1 100 5 [cup x' y'] hh (by decide) (by decide) (by decide) (by decide) (first29 (by decide) (by decide) (by decide))
  have t3 := v_blurred_gap (k + 6) 12 29 2 100 5 [cup x' y'] hh (by decide) (by decide) (by decide) (by decide) (first29 (by decide) (by decide) (by decide))
  have t4 := v_blurred_gap (k + 6) 12 29 6 100 1 [cup x' y'] hh (by decide) (by decide) (by decide) (by decide) (first29 (by decide) (by decide) (by decide))
  rw [if_pos (by decide)] at t1 t2 t3 t4
  have t5 := v_train (k + 7) [cup x' y']
  have t6 : fns T (k + 12) i_marks_at [.d (hnD 12 29), Z 5] [cup x' y'] = some (Tu [.int 2], [cup x' y']) := v_marks_at (k + 7) 12 29 5 [cup x' y'] hh (by decide) (by decide)
  have lk : fns T (k + 12) i__law_like [Li [.int 29, .int 5, .int 5, .int 1, d2 12 29, .tuple [.int 2]], Li [.int 29, .int 5, .int 5, .int 1, d2 12 29, .tuple [.int 2]]] [cup x' y'] = some (Bl true, [cup x' y']) := by
    refine v_law_like 2 (k + 8) (.list [.int 29, .int 5, .int 5, .int 1, d2 12 29, .tuple [.int 2]]) _ ?_
    intro d hd
    simp only [List.mem_cons, List.not_mem_nil, or_false] at hd
    rcases hd with rfl | rfl | rfl | rfl | rfl | rfl
    · exact True.intro
    · exact True.intro
    · exact True.intro
    · exact True.intro
    · intro z hz
      simp only [List.mem_cons, List.not_mem_nil, or_false] at hz
      rcases hz with rfl | rfl <;> exact True.intro
    · intro z hz
      simp only [List.mem_cons, List.not_mem_nil, or_false] at hz
      rcases hz with rfl
      exact True.intro
  simp only [hnD] at *
  refine ⟨[none, some (.m 0), h', some (.d (.tuple [d2 12 29])), some (Li [.int 29, .int 5, .int 5, .int 1, d2 12 29, .tuple [.int 2]]), h5], [cup x' y'], ?_⟩
  simp [b_law, rdRaw, rdVar, sizeLine, e2, t1, t2, t3, t4, t5, t6, lk]
theorem law_pure (k : Nat) (c0 c1 : Int) : ∃ sl' st', runSs (fns T (k + 12)) b_law (slot1 6) [.lst false [.int c0, .int c1]] = some (.ret (.d (.bool true)), sl', st') := law_body k c0 c1
end WM.K82
theorem PySem.Challenge.cw_wheelmark_k82_whole_convergents_as_blurr_holds : PySem.Challenge.rw_wheelmark_k82_whole_convergents_as_blurr.Holds := by
  exact WM.K82.holds fun c0 c1 _ _ => WM.K82.law_pure 28 c0 c1
