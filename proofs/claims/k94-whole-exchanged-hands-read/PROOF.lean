import PyProof.Rows.All
import Wide.All
import OpenK.AllK
import Wide.FinOn
import HandS.ForMost
import HandS.Gcd
import HandS.Wide
import HandS.Exc
import HandS.Flow
import HandS.Defaults
import HandS.TupAny
import HandS.TupLe
import HandS.Zip
import HandS.Deep
import HandS.Conv
import HandS.SortInts
import HandS.SortRule
import HandS.IsInst
import HandS.TupMul
import HandS.Rev
import HandS.More
import KE.SortData
import KE.DataMinMax
import KE.KRevSl
import KE.KStateDown
import HandS.WordsExc
import HandS.Head0
import HandS.Head1
import HandS.Head2
import HandS.HeadEnd
import HandS.HeadHook1
import HandS.HeadHook2
import HandS.HeadHook3
import HandS.HeadHook4
import HandS.Head3
import PySem.Challenge.RW_wheelmark_k94_whole_exchanged_hands_read
set_option Elab.async false
set_option linter.all false
set_option maxRecDepth 100000
set_option maxHeartbeats 0
set_option exponentiation.threshold 5000
namespace WM
open PySem PySem.Spec PyProof.Rows L2
abbrev D := PyData
/-- what a name stands for: data, or the i-th cell -/
inductive W where
  | d (x : D)
  | m (i : Nat)
/-- a list that may change; fz: it is read as data from here on, and changes no more -/
inductive Cell where
  | lst (fz : Bool) (ds : List D)
abbrev Store := List Cell
abbrev Sl := List (Option W)
section
variable {K : PySem.W.Frag}
theorem SqL.mono {G H : Hp} {a : Addr} {xs : List V} (e : Same G H) (h : SqL K G a xs) : SqL K H a xs := e.seq h
theorem SqT.mono {G H : Hp} {a : Addr} {xs : List V} (e : Same G H) (h : SqT K G a xs) : SqT K H a xs := by
  rcases h with (h | ⟨o, h⟩) | h
  · exact .inl (.inl (e _ _ h))
  · exact .inl (.inr ⟨o, e _ _ h⟩)
  · exact .inr h
mutual
inductive Rp (K : PySem.W.Frag) (G : Hp) : V → D → Prop
  | non : Rp K G .non .none
  | bl (b : Bool) : Rp K G (.bl b) (.bool b)
  | int (i : Int) : Rp K G (.int i) (.int i)
  | str (x : Str) : Rp K G (.str x) (.str x)
  | lst {a : Addr} {xs : List V} {ds : List D} : G a = some (.lst xs) → Rps K G xs ds → Rp K G (.ref a) (.list ds)
  | tup {a : Addr} {xs : List V} {ds : List D} : SqT K G a xs → Rps K G xs ds → Rp K G (.ref a) (.tuple ds)
inductive Rps (K : PySem.W.Frag) (G : Hp) : List V → List D → Prop
  | nil : Rps K G [] []
  | cons {v : V} {vs : List V} {d : D} {ds : List D} : Rp K G v d → Rps K G vs ds → Rps K G (v :: vs) (d :: ds)
end
mutual
theorem Rp.dp {G : Hp} : ∀ {v : V} {d : D}, Rp K G v d → Dp K G v d
  | _, _, .non => .non
  | _, _, .bl b => .bl b
  | _, _, .int i => .int i
  | _, _, .str x => .str x
  | _, _, .lst h a => .lst (SqL.of h) (Rps.dp a)
  | _, _, .tup h a => .tup h (Rps.dp a)
theorem Rps.dp {G : Hp} : ∀ {vs : List V} {ds : List D}, Rps K G vs ds → DpAll K G vs ds
  | _, _, .nil => .nil
  | _, _, .cons h a => .cons (Rp.dp h) (Rps.dp a)
end
mutual
theorem Rp.mono {G H : Hp} (e : Same G H) : ∀ {v : V} {d : D}, Rp K G v d → Rp K H v d
  | _, _, .non => .non
  | _, _, .bl b => .bl b
  | _, _, .int i => .int i
  | _, _, .str x => .str x
  | _, _, .lst h a => .lst (e _ _ h) (Rps.mono e a)
  | _, _, .tup h a => .tup (SqT.mono e h) (Rps.mono e a)
theorem Rps.mono {G H : Hp} (e : Same G H) : ∀ {vs : List V} {ds : List D}, Rps K G vs ds → Rps K H vs ds
  | _, _, .nil => .nil
  | _, _, .cons h a => .cons (Rp.mono e h) (Rps.mono e a)
end
theorem Rps.length {G : Hp} : ∀ {vs : List V} {ds : List D}, Rps K G vs ds → vs.length = ds.length
  | _, _, .nil => rfl
  | _, _, .cons _ a => by rw [List.length_cons, List.length_cons, Rps.length a]
theorem Rps.get {G : Hp} : ∀ {vs : List V} {ds : List D} {i : Nat} {d : D}, Rps K G vs ds → ds[i]? = some d → ∃ v, vs[i]? = some v ∧ Rp K G v d
  | _, _, i, _, .nil, h => by cases i <;> cases h
  | _, _, 0, _, .cons h _, e => by cases e; exact ⟨_, rfl, h⟩
  | _, _, i + 1, _, .cons _ a, e => Rps.get (i := i) a (by simpa using e)
theorem Rps.append {G : Hp} : ∀ {vs ws : List V} {ds es : List D}, Rps K G vs ds → Rps K G ws es → Rps K G (vs ++ ws) (ds ++ es)
  | _, _, _, _, .nil, b => b
  | _, _, _, _, .cons h a, b => .cons h (Rps.append a b)
theorem Rps.take {G : Hp} : ∀ {vs : List V} {ds : List D} (n : Nat), Rps K G vs ds → Rps K G (vs.take n) (ds.take n)
  | _, _, 0, _ => .nil
  | _, _, _ + 1, .nil => .nil
  | _, _, n + 1, .cons h a => .cons h (Rps.take n a)
theorem Rps.drop {G : Hp} : ∀ {vs : List V} {ds : List D} (n : Nat), Rps K G vs ds → Rps K G (vs.drop n) (ds.drop n)
  | _, _, 0, a => a
  | _, _, _ + 1, .nil => .nil
  | _, _, n + 1, .cons _ a => Rps.drop n a
theorem Rps.set {G : Hp} {v : V} {d : D} (h : Rp K G v d) : ∀ {vs : List V} {ds : List D} (i : Nat), Rps K G vs ds → Rps K G (vs.set i v) (ds.set i d)
  | _, _, _, .nil => .nil
  | _, _, 0, .cons _ a => .cons h a
  | _, _, i + 1, .cons h' a => .cons h' (Rps.set h i a)
theorem Rps.eraseIdx {G : Hp} : ∀ {vs : List V} {ds : List D} (i : Nat), Rps K G vs ds → Rps K G (vs.eraseIdx i) (ds.eraseIdx i)
  | _, _, _, .nil => .nil
  | _, _, 0, .cons _ a => a
  | _, _, i + 1, .cons h' a => .cons h' (Rps.eraseIdx i a)
theorem Rps.reverse {G : Hp} : ∀ {vs : List V} {ds : List D}, Rps K G vs ds → Rps K G vs.reverse ds.reverse
  | _, _, .nil => .nil
  | _, _, .cons h a => by
    rw [List.reverse_cons, List.reverse_cons]
    exact Rps.append (Rps.reverse a) (.cons h .nil)
theorem Rps.ints {G : Hp} : ∀ {vs : List V} {ns : List Int}, Rps K G vs (ns.map PyData.int) → vs = ns.map V.int
  | _, [], .nil => rfl
  | _, n :: ns, .cons h a => by
    cases h
    rw [List.map_cons, Rps.ints a]
theorem Rps.bools {G : Hp} : ∀ {vs : List V} {bs : List Bool}, Rps K G vs (bs.map PyData.bool) → vs = bs.map V.bl
  | _, [], .nil => rfl
  | _, n :: ns, .cons h a => by
    cases h
    rw [List.map_cons, Rps.bools a]
theorem Rps.of_ints {G : Hp} : ∀ (ns : List Int), Rps K G (ns.map V.int) (ns.map PyData.int)
  | [] => .nil
  | _ :: ns => .cons (.int _) (Rps.of_ints ns)
/-- the heap grows: G by new things alone -/
structure Ext (G H G' H' : Hp) : Prop where
  g : Same G G'
  h : Same H H'
  s : Same G' H'
  o : ∀ a u, H a = some u → G' a = G a
theorem Ext.refl {G H : Hp} (s : Same G H) : Ext G H G H := ⟨Same.refl _, Same.refl _, s, fun _ _ _ => rfl⟩
theorem Ext.trans {G H G1 H1 G2 H2 : Hp} (a : Ext G H G1 H1) (b : Ext G1 H1 G2 H2) : Ext G H G2 H2 :=
  ⟨a.g.trans b.g, a.h.trans b.h, b.s, fun x u e => (b.o x u (a.h _ _ e)).trans (a.o x u e)⟩
theorem same_upd {H : Hp} {p : Addr} {o : HO} (h : H p = none) : Same H (upd H p o) := fun b x e => by
  rw [upd_ne (ne_of_none e h)]
  exact e
theorem Same.upd2 {G H : Hp} {p : Addr} {o : HO} (s : Same G H) : Same (upd G p o) (upd H p o) := fun b x e => by
  by_cases q : b = p
  · subst q
    rw [upd_same] at e ⊢
    exact e
  · rw [upd_ne q] at e ⊢
    exact s _ _ e
theorem Ext.new {G H : Hp} {p : Addr} {o : HO} (s : Same G H) (n : H p = none) : Ext G H (upd G p o) (upd H p o) :=
  ⟨same_upd (s.free n), same_upd n, Same.upd2 s, fun a u e => upd_ne (ne_of_none e n)⟩
/-- a new thing that is no data (yet) -/
theorem Ext.junk {G H : Hp} {p : Addr} {o : HO} (s : Same G H) (n : H p = none) : Ext G H G (upd H p o) :=
  ⟨Same.refl _, same_upd n, s.trans (same_upd n), fun a u e => rfl⟩
/-- a cell's content, at its address -/
def CellOk (K : PySem.W.Frag) (G H : Hp) (a : Addr) : Cell → Prop
  | .lst fz ds => ∃ xs, H a = some (.lst xs) ∧ Rps K G xs ds ∧ xs.length ≤ sizeLine ∧ (match fz with
    | true => G a = some (.lst xs)
    | false => G a = none)
theorem CellOk.ext {G H G' H' : Hp} {a : Addr} {c : Cell} (e : Ext G H G' H') (h : CellOk K G H a c) : CellOk K G' H' a c := by
  cases c with
  | lst fz ds =>
    obtain ⟨xs, h1, h2, hz, h3⟩ := h
    refine ⟨xs, e.h _ _ h1, Rps.mono e.g h2, hz, ?_⟩
    cases fz with
    | true => exact e.g _ _ h3
    | false => exact (e.o _ _ h1).trans h3
/-- the state: G what is data, ca where the cells stand -/
structure HM (K : PySem.W.Frag) (P : Hp) (ca : List Addr) (G H : Hp) (st : Store) : Prop where
  sub : Same G H
  len : ca.length = st.length
  nd : ca.Nodup
  cell : ∀ (i : Nat) (a : Addr) (c : Cell), ca[i]? = some a → st[i]? = some c → CellOk K G H a c
  prot : Same P H
  pdis : ∀ a ∈ ca, P a = none
  pg : ∀ a u, P a = some u → G a = none
theorem HM.ext {P : Hp} {ca : List Addr} {G H G' H' : Hp} {st : Store} (h : HM K P ca G H st) (e : Ext G H G' H') : HM K P ca G' H' st :=
  ⟨e.s, h.len, h.nd, fun i a c e1 e2 => (h.cell i a c e1 e2).ext e, h.prot.trans e.h, h.pdis, fun a u q => (e.o a u (h.prot _ _ q)).trans (h.pg a u q)⟩
def RW (K : PySem.W.Frag) (ca : List Addr) (G : Hp) (v : V) : W → Prop
  | .d x => Rp K G v x
  | .m i => ∃ a, ca[i]? = some a ∧ v = .ref a
inductive RWs (K : PySem.W.Frag) (ca : List Addr) (G : Hp) : List V → List W → Prop where
  | nil : RWs K ca G [] []
  | cons {v : V} {w : W} {vs : List V} {ws : List W} : RW K ca G v w → RWs K ca G vs ws → RWs K ca G (v :: vs) (w :: ws)
structure Nxt (ca : List Addr) (G : Hp) (ca' : List Addr) (G' : Hp) : Prop where
  s : Same G G'
  p : ca <+: ca'
theorem Nxt.refl {ca : List Addr} {G : Hp} : Nxt ca G ca G := ⟨Same.refl _, List.prefix_refl _⟩
theorem Nxt.trans {ca ca1 ca2 : List Addr} {G G1 G2 : Hp} (a : Nxt ca G ca1 G1) (b : Nxt ca1 G1 ca2 G2) : Nxt ca G ca2 G2 := ⟨a.s.trans b.s, a.p.trans b.p⟩
theorem Nxt.of {ca : List Addr} {G G' : Hp} (s : Same G G') : Nxt ca G ca G' := ⟨s, List.prefix_refl _⟩
theorem prefix_get {α : Type} {l l' : List α} {i : Nat} {a : α} (p : l <+: l') (h : l[i]? = some a) : l'[i]? = some a := by
  obtain ⟨t, rfl⟩ := p
  rw [List.getElem?_append_left (List.getElem?_eq_some_iff.mp h).1]
  exact h
theorem RW.mono {ca ca' : List Addr} {G G' : Hp} (n : Nxt ca G ca' G') {v : V} : ∀ {w : W}, RW K ca G v w → RW K ca' G' v w
  | .d _, h => Rp.mono n.s h
  | .m _, ⟨a, e, r⟩ => ⟨a, prefix_get n.p e, r⟩
theorem RWs.mono {ca ca' : List Addr} {G G' : Hp} (n : Nxt ca G ca' G') : ∀ {vs : List V} {ws : List W}, RWs K ca G vs ws → RWs K ca' G' vs ws
  | _, _, .nil => .nil
  | _, _, .cons h a => .cons (RW.mono n h) (RWs.mono n a)
theorem RWs.length {ca : List Addr} {G : Hp} : ∀ {vs : List V} {ws : List W}, RWs K ca G vs ws → vs.length = ws.length
  | _, _, .nil => rfl
  | _, _, .cons _ a => by rw [List.length_cons, List.length_cons, RWs.length a]
theorem RWs.get {ca : List Addr} {G : Hp} : ∀ {vs : List V} {ws : List W} {i : Nat} {w : W}, RWs K ca G vs ws → ws[i]? = some w → ∃ v, vs[i]? = some v ∧ RW K ca G v w
  | _, _, i, _, .nil, h => by cases i <;> cases h
  | _, _, 0, _, .cons h _, e => by cases e; exact ⟨_, rfl, h⟩
  | _, _, i + 1, _, .cons _ a, e => RWs.get (i := i) a (by simpa using e)
/-- all are data -/
def allD : List W → Option (List D)
  | [] => some []
  | .d x :: ws => (allD ws).map (x :: ·)
  | .m _ :: _ => none
theorem RWs.dps {ca : List Addr} {G : Hp} : ∀ {vs : List V} {ws : List W} {ds : List D}, RWs K ca G vs ws → allD ws = some ds → Rps K G vs ds
  | _, _, _, .nil, h => by cases h; exact .nil
  | _, _, _, .cons (w := .m _) _ _, h => by cases h
  | _, _, _, .cons (w := .d x) (ws := ws) h a, e => by
    cases q : allD ws with
    | none => simp [allD, q] at e
    | some es =>
      simp [allD, q] at e
      subst e
      exact .cons h (RWs.dps a q)
/-- the slots -/
structure SlOk (K : PySem.W.Frag) (ca : List Addr) (G : Hp) (σ : L2.St) (sl : Sl) : Prop where
  len : σ.length = sl.length
  at_ : ∀ (i : Nat) (w : W), sl[i]? = some (some w) → ∃ v, σ[i]? = some (some v) ∧ RW K ca G v w
theorem SlOk.mono {ca ca' : List Addr} {G G' : Hp} {σ : L2.St} {sl : Sl} (n : Nxt ca G ca' G') (h : SlOk K ca G σ sl) : SlOk K ca' G' σ sl :=
  ⟨h.len, fun i w e => let ⟨v, e1, r⟩ := h.at_ i w e; ⟨v, e1, RW.mono n r⟩⟩
theorem SlOk.set {ca : List Addr} {G : Hp} {σ : L2.St} {sl : Sl} {v : V} {w : W} (h : SlOk K ca G σ sl) (i : Nat) (r : RW K ca G v w) : SlOk K ca G (σ.set i (some v)) (sl.set i (some w)) := by
  refine ⟨by rw [List.length_set, List.length_set, h.len], fun j u e => ?_⟩
  by_cases hj : i = j
  · subst hj
    have hl : i < sl.length := by
      have := (List.getElem?_eq_some_iff.mp e).1
      simpa using this
    rw [List.getElem?_set_self hl] at e
    cases e
    exact ⟨v, by rw [List.getElem?_set_self (by rw [h.len]; exact hl)], r⟩
  · rw [List.getElem?_set_ne hj] at e ⊢
    exact h.at_ j u e
abbrev EM := Sl → Store → Option (W × Store)
abbrev AM := Sl → Store → Option (List W × Store)
abbrev DM := Sl → Store → Option (List D × Store)
def tE (K : PySem.W.Frag) (f : EM) : TE := fun σ H Q => ∃ P ca G sl st w st', HM K P ca G H st ∧ SlOk K ca G σ sl ∧ f sl st = some (w, st') ∧
  ∀ v ca' G' H', Nxt ca G ca' G' → HM K P ca' G' H' st' → RW K ca' G' v w → Q v H'
def tA (K : PySem.W.Frag) (f : AM) : TA := fun σ H Q => ∃ P ca G sl st ws st', HM K P ca G H st ∧ SlOk K ca G σ sl ∧ f sl st = some (ws, st') ∧
  ∀ vs ca' G' H', Nxt ca G ca' G' → HM K P ca' G' H' st' → RWs K ca' G' vs ws → Q vs H'
/-- a value's truth -/
def truD : D → Option Bool
  | .none => some false
  | .bool b => some b
  | .int i => some (i != 0)
  | .str x => if x.length ≤ sizeLine then some ((x.length : Int) != 0) else none
  | .list xs => some !xs.isEmpty
  | .tuple xs => some !xs.isEmpty
  | .dict _ => none
def truW : W → Option Bool
  | .d x => truD x
  | .m _ => none
def tT (K : PySem.W.Frag) (f : EM) : TT := fun σ H Q => ∃ P ca G sl st w st' b, HM K P ca G H st ∧ SlOk K ca G σ sl ∧ f sl st = some (w, st') ∧ truW w = some b ∧
  ∀ ca' G' H', Nxt ca G ca' G' → HM K P ca' G' H' st' → Q b H'
inductive Fl where
  | nx | ret (w : W) | bk | ct
abbrev SM := Sl → Store → Option (Fl × Sl × Store)
def EndOk (K : PySem.W.Frag) (P : Hp) (D : Ends) (ca : List Addr) (G : Hp) (sl' : Sl) (st' : Store) : Fl → Prop
  | .nx => ∀ σ' ca' G' H', Nxt ca G ca' G' → HM K P ca' G' H' st' → SlOk K ca' G' σ' sl' → D.nx σ' H'
  | .bk => ∀ σ' ca' G' H', Nxt ca G ca' G' → HM K P ca' G' H' st' → SlOk K ca' G' σ' sl' → D.bk σ' H'
  | .ct => ∀ σ' ca' G' H', Nxt ca G ca' G' → HM K P ca' G' H' st' → SlOk K ca' G' σ' sl' → D.ct σ' H'
  | .ret w => ∀ v ca' G' H', Nxt ca G ca' G' → HM K P ca' G' H' st' → RW K ca' G' v w → D.rt v H'
def tS (K : PySem.W.Frag) (g : SM) : TS := fun D σ H => ∃ P ca G sl st fl sl' st', HM K P ca G H st ∧ SlOk K ca G σ sl ∧ g sl st = some (fl, sl', st') ∧ EndOk K P D ca G sl' st' fl
/-- a target: the heap stays, and all slots but ws -/
abbrev GM := D → Sl → Option Sl
def tG (K : PySem.W.Frag) (g : GM) (ws : List Nat) : TG := fun v σ H Q => ∃ P ca G sl st d sl', HM K P ca G H st ∧ SlOk K ca G σ sl ∧ Rp K G v d ∧ g d sl = some sl' ∧ ∀ σ', SlOk K ca G σ' sl' → σ'.length = σ.length → (∀ j, j ∉ ws → σ'[j]? = σ[j]?) → Q σ' H
def tGs (K : PySem.W.Frag) (g : List D → Sl → Option Sl) (ws : List Nat) : TGs := fun vs σ H Q => ∃ P ca G sl st ds sl', HM K P ca G H st ∧ SlOk K ca G σ sl ∧ Rps K G vs ds ∧ g ds sl = some sl' ∧ ∀ σ', SlOk K ca G σ' sl' → σ'.length = σ.length → (∀ j, j ∉ ws → σ'[j]? = σ[j]?) → Q σ' H
/-- an iterator yields these -/
def JOk (K : PySem.W.Frag) (J : It) (G : Hp) (ds : List D) : Prop := ∀ (i : Nat) (P : Hp) (ca : List Addr) (Gc H : Hp) (st : Store), Same G Gc → HM K P ca Gc H st →
  (∀ d, ds[i]? = some d → J.go i H ∧ ∀ x H', J.yld i H x H' → ∃ G', Ext Gc H G' H' ∧ Rp K G' x d) ∧ (ds.length ≤ i → J.stop i H)
def tI (K : PySem.W.Frag) (f : DM) : TI := fun σ H R => ∃ P ca G sl st ds st', HM K P ca G H st ∧ SlOk K ca G σ sl ∧ f sl st = some (ds, st') ∧
  ∀ J ca' G' H', Nxt ca G ca' G' → HM K P ca' G' H' st' → JOk K J G' ds → R J H'
end
section
variable {X : Cx}
theorem _root_.L2.PE.weak {e : Expr} {t t' : TE} (h : PE X e t) (w : ∀ σ H Q, t' σ H Q → t σ H Q) : PE X e t' := ⟨fun pins s σ H Q I q => h.run pins s σ H Q I (w _ _ _ q)⟩
theorem _root_.L2.PT.weak {e : Expr} {t t' : TT} (h : PT X e t) (w : ∀ σ H Q, t' σ H Q → t σ H Q) : PT X e t' := ⟨fun pins s σ H Q I q => h.run pins s σ H Q I (w _ _ _ q)⟩
theorem _root_.L2.PW.weak {e : Expr} {t t' : TT} (h : PW X e t) (w : ∀ σ H Q, t' σ H Q → t σ H Q) : PW X e t' := ⟨fun wh pins s σ H Q I q => h.run wh pins s σ H Q I (w _ _ _ q)⟩
theorem _root_.L2.PA.weak {es : List Expr} {t t' : TA} (h : PA X es t) (w : ∀ σ H Q, t' σ H Q → t σ H Q) : PA X es t' := ⟨fun pos pins s σ H Q I q => h.run pos pins s σ H Q I (w _ _ _ q)⟩
theorem _root_.L2.PS.weak {s : Stmt} {t t' : TS} (h : PS X s t) (w : ∀ D σ H, t' D σ H → t D σ H) : PS X s t' := ⟨fun pins s σ H D I q => h.run pins s σ H D I (w _ _ _ q)⟩
theorem _root_.L2.PSs.weak {s : List Stmt} {t t' : TS} (h : PSs X s t) (w : ∀ D σ H, t' D σ H → t D σ H) : PSs X s t' := ⟨fun pins s σ H D I q => h.run pins s σ H D I (w _ _ _ q)⟩
theorem _root_.L2.PG.weak {e : Expr} {t t' : TG} (h : PG X e t) (w : ∀ v σ H Q, t' v σ H Q → t v σ H Q) : PG X e t' := ⟨fun pins s σ H v u Q I r q => h.run pins s σ H v u Q I r (w _ _ _ _ q)⟩
theorem _root_.L2.PGs.weak {es : List Expr} {t t' : TGs} (h : PGs X es t) (w : ∀ v σ H Q, t' v σ H Q → t v σ H Q) : PGs X es t' := ⟨fun pins s σ H v u Q I r q => h.run pins s σ H v u Q I r (w _ _ _ _ q)⟩
theorem _root_.L2.PI.weak {tg e : Expr} {t t' : TI} (h : PI X tg e t) (w : ∀ σ H Q, t' σ H Q → t σ H Q) : PI X tg e t' := ⟨fun pins s σ H Q I q => h.run pins s σ H Q I (w _ _ _ q)⟩
end
end WM
namespace WM
open PySem PySem.Spec PyProof.Rows L2
/-- the most bits an int may have here -/
def BIG : Nat := 2 ^ 4096
def mulOk (i j : Int) : Bool := decide (i.natAbs < 2 ^ 64) || (decide (j.natAbs < 2 ^ 64) || (decide (i.natAbs < BIG) && decide (j.natAbs < BIG)))
def divOk (j : Int) : Bool := decide (j ≠ 0) && decide (j.natAbs < BIG)
def flatten' {α : Type} (n : Nat) (xs : List α) : List α := (List.replicate n xs).flatten
def shp (d : D) : Bool := SeqAt.shaped d
def binD (op : Operator) (x y : D) : Option D := match op with
  | .Add => (match x, y with
    | .int i, .int j => some (.int (i + j))
    | .list xs, .list ys => if xs.length + ys.length ≤ sizeLine then some (.list (xs ++ ys)) else none
    | .tuple xs, .tuple ys => if xs.length + ys.length ≤ sizeLine then some (.tuple (xs ++ ys)) else none
    | .str x, .str y => if x.length + y.length ≤ sizeLine then some (.str (x ++ y)) else none
    | _, _ => none)
  | .Sub => (match x, y with
    | .int i, .int j => some (.int (i - j))
    | _, _ => none)
  | .Mult => (match x, y with
    | .int i, .int j => if mulOk i j then some (.int (i * j)) else none
    | .list xs, .int k => if k < 2 ^ 62 ∧ -(2 ^ 62) ≤ k ∧ xs.length * k.toNat ≤ sizeLine then some (.list (flatten' k.toNat xs)) else none
    | .tuple xs, .int k => if xs ≠ [] ∧ 2 ≤ k ∧ k ≤ 1000 ∧ xs.length ≤ 1000 then some (.tuple (flatten' k.toNat xs)) else none
    | _, _ => none)
  | .FloorDiv => (match x, y with
    | .int i, .int j => if divOk j then some (.int (i.fdiv j)) else none
    | _, _ => none)
  | .Mod => (match x, y with
    | .int i, .int j => if j = 0 then none else some (.int (i.fmod j))
    | _, _ => none)
  | .Pow => (match x, y with
    | .int i, .int j => if 0 ≤ j ∧ j ≤ 1000000 ∧ i.natAbs < 2 ^ 64 then some (.int (i ^ j.toNat)) else none
    | _, _ => none)
  | .LShift => (match x, y with
    | .int i, .int j => if 0 ≤ j ∧ j ≤ 1000000 ∧ i.natAbs < 2 ^ 64 then some (.int (i * 2 ^ j.toNat)) else none
    | _, _ => none)
  | .RShift => (match x, y with
    | .int i, .int j => if 0 ≤ j then some (.int (i / 2 ^ j.toNat)) else none
    | _, _ => none)
  | .BitAnd => (match x, y with
    | .int i, .int j => some (.int (Builtin.bitAnd i j))
    | _, _ => none)
  | .BitOr => (match x, y with
    | .int i, .int j => some (.int (Builtin.bitOr i j))
    | _, _ => none)
  | _ => none
def cmpD (op : CmpOp) (x y : D) : Option Bool := match op with
  | .Eq => if shp x && shp y then some (PyData.eqv x y) else none
  | .NotEq => if shp x && shp y then some (!PyData.eqv x y) else none
  | .Lt => (match x, y with
    | .int i, .int j => some (decide (i < j))
    | _, _ => none)
  | .LtE => (match x, y with
    | .int i, .int j => some (decide (i ≤ j))
    | _, _ => none)
  | .Gt => (match x, y with
    | .int i, .int j => some (decide (j < i))
    | _, _ => none)
  | .GtE => (match x, y with
    | .int i, .int j => some (decide (j ≤ i))
    | _, _ => none)
  | .Is => (match x, y with
    | .none, .none => some true
    | _, .none => some false
    | .bool a, .bool b => some (a == b)
    | _, _ => none)
  | .IsNot => (match x, y with
    | .none, .none => some false
    | _, .none => some true
    | .bool a, .bool b => some !(a == b)
    | _, _ => none)
  | .In => (match y with
    | .list ys => if shp x && shp (.list ys) then some (ys.any fun z => PyData.eqv z x) else none
    | .tuple ys => if shp x && shp (.tuple ys) then some (ys.any fun z => PyData.eqv z x) else none
    | _ => none)
  | .NotIn => (match y with
    | .list ys => if shp x && shp (.list ys) then some !(ys.any fun z => PyData.eqv z x) else none
    | .tuple ys => if shp x && shp (.tuple ys) then some !(ys.any fun z => PyData.eqv z x) else none
    | _ => none)
def negD : D → Option D
  | .int i => some (.int (-i))
  | _ => none
def ixD (x y : D) : Option D := match x, y with
  | .list xs, .int i => atI xs i
  | .tuple xs, .int i => atI xs i
  | _, _ => none
def cutD (xs : List D) (lo hi : Option Int) : List D := (xs.drop (HT.sIx xs.length 0 lo)).take (HT.sIx xs.length xs.length hi - HT.sIx xs.length 0 lo)
def slD (x : D) (lo hi : Option Int) : Option D := match x with
  | .list xs => some (.list (cutD xs lo hi))
  | .tuple xs => some (.tuple (cutD xs lo hi))
  | _ => none
theorem big_log {x : Int} (h : x.natAbs < BIG) : x.natAbs.log2 < 4096 := PySem.Flt.log2_lt_of (by decide) h
theorem mulOk_ok {i j : Int} (h : mulOk i j = true) : IntMulOk i j := by
  unfold mulOk at h
  rw [Bool.or_eq_true, Bool.or_eq_true, Bool.and_eq_true] at h
  rcases h with h | h | ⟨h1, h2⟩
  · have h := of_decide_eq_true h
    exact .of_left (intBits_le_64 (by omega) (by omega))
  · have h := of_decide_eq_true h
    exact .of_right (intBits_le_64 (by omega) (by omega))
  · have a := big_log (of_decide_eq_true h1)
    have b := big_log (of_decide_eq_true h2)
    exact CMulW.ok (show _ < _ by omega)
section
variable (K : PySem.W.Frag)
def rD2 (g : D → D → Option D) : R2 := fun x y H Q => ∃ G dx dy d, Same G H ∧ Rp K G x dx ∧ Rp K G y dy ∧ g dx dy = some d ∧ ∀ v G' H', Ext G H G' H' → Rp K G' v d → Q v H'
def rD1 (g : D → Option D) : V → Hp → VK → Prop := fun x H Q => ∃ G dx d, Same G H ∧ Rp K G x dx ∧ g dx = some d ∧ ∀ v G' H', Ext G H G' H' → Rp K G' v d → Q v H'
def rDs (g : List D → Option D) : List V → Hp → VK → Prop := fun xs H Q => ∃ G ds d, Same G H ∧ Rps K G xs ds ∧ g ds = some d ∧ ∀ v G' H', Ext G H G' H' → Rp K G' v d → Q v H'
end
section
variable {X : Cx}
theorem _root_.L2.OpR.weak {f : Value → Value → Sem Value} {r r' : R2} (h : OpR X f r) (w : ∀ x y H Q, r' x y H Q → r x y H Q) : OpR X f r' := fun pins s σ H x y v u Q I rx ry q => h pins s σ H x y v u Q I rx ry (w _ _ _ _ q)
theorem _root_.L2.CallR.weak {f : Value} {r r' : List V → Hp → VK → Prop} (h : CallR X f r) (w : ∀ xs H Q, r' xs H Q → r xs H Q) : CallR X f r' := fun pins s σ H xs us Q I rs q => h pins s σ H xs us Q I rs (w _ _ _ q)
theorem op_fdivB : OpR X (binaryOp .FloorDiv) (rI (fun _ j => divOk j = true) fun i j => .int (i.fdiv j)) := opI fun i j _ _ _ _ _ hc q => by
  unfold divOk at hc
  rw [Bool.and_eq_true] at hc
  have h1 := of_decide_eq_true hc.1
  have h2 := big_log (of_decide_eq_true hc.2)
  exact floordiv_int h1 q (.inl (PyProof.noPylong_of_log2 (by omega)))
theorem op_mulB : OpR X (binaryOp .Mult) (rI (fun i j => mulOk i j = true) fun i j => .int (i * j)) := opI fun _ _ _ _ _ _ _ hc q => mul_int q (mulOk_ok hc)
end
section
variable {X : Cx}
theorem Rp.int_inv {K : PySem.W.Frag} {G : Hp} {v : V} {i : Int} (h : Rp K G v (.int i)) : v = .int i := by cases h; rfl
theorem Rp.bool_inv {K : PySem.W.Frag} {G : Hp} {v : V} {b : Bool} (h : Rp K G v (.bool b)) : v = .bl b := by cases h; rfl
theorem Rp.none_inv {K : PySem.W.Frag} {G : Hp} {v : V} (h : Rp K G v .none) : v = .non := by cases h; rfl
theorem Rp.str_inv {K : PySem.W.Frag} {G : Hp} {v : V} {x : Str} (h : Rp K G v (.str x)) : v = .str x := by cases h; rfl
theorem Rp.list_inv {K : PySem.W.Frag} {G : Hp} {v : V} {ds : List D} (h : Rp K G v (.list ds)) : ∃ a xs, v = .ref a ∧ G a = some (.lst xs) ∧ Rps K G xs ds := by
  cases h with
  | lst h a => exact ⟨_, _, rfl, h, a⟩
theorem Rp.tuple_inv {K : PySem.W.Frag} {G : Hp} {v : V} {ds : List D} (h : Rp K G v (.tuple ds)) : ∃ a xs, v = .ref a ∧ SqT K G a xs ∧ Rps K G xs ds := by
  cases h with
  | tup h a => exact ⟨_, _, rfl, h, a⟩
theorem Rp.lnew {K : PySem.W.Frag} {G : Hp} {p : Addr} {xs : List V} {ds : List D} (n : G p = none) (a : Rps K G xs ds) : Rp K (upd G p (.lst xs)) (.ref p) (.list ds) :=
  .lst upd_same (Rps.mono (same_upd n) a)
theorem Rp.tnew {K : PySem.W.Frag} {G : Hp} {p : Addr} {xs : List V} {ds : List D} (n : G p = none) (a : Rps K G xs ds) : Rp K (upd G p (.tup xs)) (.ref p) (.tuple ds) :=
  .tup (SqT.of upd_same) (Rps.mono (same_upd n) a)
theorem Rps.flat {K : PySem.W.Frag} {G : Hp} {xs : List V} {ds : List D} (a : Rps K G xs ds) : ∀ n : Nat, Rps K G (List.replicate n xs).flatten (flatten' n ds)
  | 0 => .nil
  | n + 1 => by
    show Rps K G (xs ++ (List.replicate n xs).flatten) (ds ++ (List.replicate n ds).flatten)
    exact Rps.append a (Rps.flat a n)
theorem Rps.nil_iff {K : PySem.W.Frag} {G : Hp} {xs : List V} {ds : List D} (a : Rps K G xs ds) : xs = [] ↔ ds = [] := by
  cases a with
  | nil => simp
  | cons _ _ => simp
theorem Dp.of {K : PySem.W.Frag} {G H : Hp} {v : V} {d : D} (e : Same G H) (h : Rp K G v d) : Dp K H v d := (Rp.mono e h).dp
theorem op_binD (op : Operator) : OpR X (binaryOp op) (rD2 X.K (binD op)) := by
  intro pins s σ H x y v u Q I rx ry h
  obtain ⟨G, dx, dy, d, sG, hx, hy, e, q⟩ := h
  have forI : ∀ {C : Int → Int → Prop} {g : Int → Int → Int} {i j : Int}, OpR X (binaryOp op) (rI C fun i j => .int (g i j)) → dx = .int i → dy = .int j → C i j → d = .int (g i j) → wpAny (model X.prog X.w) X.A (binaryOp op v u) (EP X pins σ Q) X.xe s := by
    intro C g i j ho e1 e2 hc e3
    subst e1 e2 e3
    refine ho pins s σ H x y v u Q I rx ry ⟨i, j, hx.int_inv, hy.int_inv, hc, q _ _ _ (Ext.refl sG) (.int _)⟩
  have forI0 : ∀ {g : Int → Int → Int} {i j : Int}, OpR X (binaryOp op) (rI0 fun i j => .int (g i j)) → dx = .int i → dy = .int j → d = .int (g i j) → wpAny (model X.prog X.w) X.A (binaryOp op v u) (EP X pins σ Q) X.xe s := by
    intro g i j ho e1 e2 e3
    subst e1 e2 e3
    refine ho pins s σ H x y v u Q I rx ry ⟨i, j, hx.int_inv, hy.int_inv, q _ _ _ (Ext.refl sG) (.int _)⟩
  cases op with
  | Add =>
    unfold binD at e
    simp only at e
    split at e
    · cases e
      exact forI0 op_add rfl rfl rfl
    · split at e
      · rename_i xs ys hz
        cases e
        obtain ⟨a, vs, rfl, h1, a1⟩ := hx.list_inv
        obtain ⟨b, ws, rfl, h2, a2⟩ := hy.list_inv
        refine op_cat pins s σ H _ _ v u Q I rx ry ⟨a, b, vs, ws, rfl, rfl, sG _ _ h1, sG _ _ h2, ?_, fun p n => q _ _ _ (Ext.new sG n) (Rp.lnew (sG.free n) (Rps.append a1 a2))⟩
        rw [a1.length, a2.length]
        exact hz
      · cases e
    · split at e
      · rename_i xs ys hz
        cases e
        obtain ⟨a, vs, rfl, h1, a1⟩ := hx.tuple_inv
        obtain ⟨b, ws, rfl, h2, a2⟩ := hy.tuple_inv
        refine op_catA pins s σ H _ _ v u Q I rx ry ⟨a, b, vs, ws, rfl, rfl, SqT.mono sG h1, SqT.mono sG h2, ?_, fun e0 => ?_, fun _ e0 => ?_, fun _ _ p n => q _ _ _ (Ext.new sG n) (Rp.tnew (sG.free n) (Rps.append a1 a2))⟩
        · rw [a1.length, a2.length]
          exact hz
        · have e1 := a1.nil_iff.mp e0
          subst e1
          exact q _ _ _ (Ext.refl sG) (by rw [List.nil_append]; exact hy)
        · have e1 := a2.nil_iff.mp e0
          subst e1
          exact q _ _ _ (Ext.refl sG) (by rw [List.append_nil]; exact hx)
      · cases e
    · split at e
      · rename_i z1 z2 hz
        cases e
        refine op_add_str pins s σ H _ _ v u Q I rx ry ⟨_, _, hx.str_inv, hy.str_inv, hz, q _ _ _ (Ext.refl sG) (.str _)⟩
      · cases e
    · cases e
  | Sub =>
    unfold binD at e
    simp only at e
    split at e
    · cases e
      exact forI0 op_sub rfl rfl rfl
    · cases e
  | Mult =>
    unfold binD at e
    simp only at e
    split at e
    · split at e
      · rename_i hz
        cases e
        exact forI op_mulB rfl rfl hz rfl
      · cases e
    · split at e
      · rename_i xs k hz
        cases e
        obtain ⟨a, vs, rfl, h1, a1⟩ := hx.list_inv
        refine op_rep pins s σ H _ _ v u Q I rx ry ⟨a, k, vs, rfl, hy.int_inv, sG _ _ h1, by omega, by omega, ?_, fun p n => q _ _ _ (Ext.new sG n) (Rp.lnew (sG.free n) (a1.flat _))⟩
        rw [a1.length]
        exact hz.2.2
      · cases e
    · split at e
      · rename_i xs k hz
        cases e
        obtain ⟨a, vs, rfl, h1, a1⟩ := hx.tuple_inv
        refine op_repT pins s σ H _ _ v u Q I rx ry ⟨a, k, vs, rfl, hy.int_inv, SqT.mono sG h1, fun e0 => hz.1 (a1.nil_iff.mp e0), hz.2.1, hz.2.2.1, ?_, fun p n => q _ _ _ (Ext.new sG n) (Rp.tnew (sG.free n) (a1.flat _))⟩
        rw [a1.length]
        exact hz.2.2.2
      · cases e
    · cases e
  | FloorDiv =>
    unfold binD at e
    simp only at e
    split at e
    · split at e
      · rename_i hz
        cases e
        exact forI op_fdivB rfl rfl hz rfl
      · cases e
    · cases e
  | Mod =>
    unfold binD at e
    simp only at e
    split at e
    · split at e
      · cases e
      · rename_i hz
        cases e
        exact forI op_modN rfl rfl hz rfl
    · cases e
  | Pow =>
    unfold binD at e
    simp only at e
    split at e
    · split at e
      · rename_i hz
        cases e
        exact forI op_pow rfl rfl hz rfl
      · cases e
    · cases e
  | LShift =>
    unfold binD at e
    simp only at e
    split at e
    · split at e
      · rename_i hz
        cases e
        exact forI op_shl rfl rfl hz rfl
      · cases e
    · cases e
  | RShift =>
    unfold binD at e
    simp only at e
    split at e
    · split at e
      · rename_i hz
        cases e
        exact forI op_shr rfl rfl hz rfl
      · cases e
    · cases e
  | BitAnd =>
    unfold binD at e
    simp only at e
    split at e
    · cases e
      exact forI0 op_and rfl rfl rfl
    · cases e
  | BitOr =>
    unfold binD at e
    simp only at e
    split at e
    · cases e
      exact forI0 op_or rfl rfl rfl
    · cases e
  | _ => cases e
def rC (K : PySem.W.Frag) (g : D → D → Option Bool) : R2 := fun x y H Q => ∃ G dx dy b, Same G H ∧ Rp K G x dx ∧ Rp K G y dy ∧ g dx dy = some b ∧ Q (.bl b) H
theorem op_cmpD (hu : X.A.units + 65 < cLine) (op : CmpOp) : OpR X (compareOp op) (rC X.K (cmpD op)) := by
  intro pins s σ H x y v u Q I rx ry h
  obtain ⟨G, dx, dy, b, sG, hx, hy, e, q⟩ := h
  have hu2 : X.A.units + 64 < cLine := by omega
  have forI : ∀ {g : Int → Int → Bool} {i j : Int}, OpR X (compareOp op) (rI0 fun i j => .bl (g i j)) → dx = .int i → dy = .int j → b = g i j → wpAny (model X.prog X.w) X.A (compareOp op v u) (EP X pins σ Q) X.xe s := by
    intro g i j ho e1 e2 e3
    subst e1 e2 e3
    exact ho pins s σ H x y v u Q I rx ry ⟨i, j, hx.int_inv, hy.int_inv, q⟩
  have isn : ∀ {d : D}, Rp X.K G x d → (decide (x = .non)) = (match d with | .none => true | _ => false) := by
    intro d hd
    cases hd <;> simp
  cases op with
  | Eq =>
    unfold cmpD at e
    simp only at e
    split at e
    · rename_i hz
      rw [Bool.and_eq_true] at hz
      cases e
      exact op_eqD hu2 pins s σ H x y v u Q I rx ry ⟨dx, dy, Dp.of sG hx, Dp.of sG hy, hz.1, hz.2, q⟩
    · cases e
  | NotEq =>
    unfold cmpD at e
    simp only at e
    split at e
    · rename_i hz
      rw [Bool.and_eq_true] at hz
      cases e
      exact op_neD hu2 pins s σ H x y v u Q I rx ry ⟨dx, dy, Dp.of sG hx, Dp.of sG hy, hz.1, hz.2, q⟩
    · cases e
  | Lt =>
    unfold cmpD at e
    simp only at e
    split at e
    · cases e
      exact forI op_lt rfl rfl rfl
    · cases e
  | LtE =>
    unfold cmpD at e
    simp only at e
    split at e
    · cases e
      exact forI op_le rfl rfl rfl
    · cases e
  | Gt =>
    unfold cmpD at e
    simp only at e
    split at e
    · cases e
      exact forI op_gt rfl rfl rfl
    · cases e
  | GtE =>
    unfold cmpD at e
    simp only at e
    split at e
    · cases e
      exact forI op_ge rfl rfl rfl
    · cases e
  | Is =>
    unfold cmpD at e
    simp only at e
    split at e
    · cases e
      exact op_isN pins s σ H x y v u Q I rx ry ⟨hy.none_inv, by rw [isn hx]; exact q⟩
    · rename_i hn
      cases e
      refine op_isN pins s σ H x y v u Q I rx ry ⟨hy.none_inv, ?_⟩
      rw [isn hx]
      split
      · exact absurd rfl hn
      · exact q
    · cases e
      exact op_is_bl pins s σ H x y v u Q I rx ry ⟨_, _, hx.bool_inv, hy.bool_inv, by rw [← Bool.beq_eq_decide_eq]; exact q⟩
    · cases e
  | IsNot =>
    unfold cmpD at e
    simp only at e
    split at e
    · cases e
      exact op_notN pins s σ H x y v u Q I rx ry ⟨hy.none_inv, by rw [isn hx]; exact q⟩
    · rename_i hn
      cases e
      refine op_notN pins s σ H x y v u Q I rx ry ⟨hy.none_inv, ?_⟩
      rw [isn hx]
      split
      · exact absurd rfl hn
      · exact q
    · cases e
      exact op_isnot_bl pins s σ H x y v u Q I rx ry ⟨_, _, hx.bool_inv, hy.bool_inv, by rw [← Bool.beq_eq_decide_eq]; exact q⟩
    · cases e
  | In =>
    unfold cmpD at e
    simp only at e
    split at e
    · split at e
      · rename_i hz
        rw [Bool.and_eq_true] at hz
        cases e
        exact op_inD hu pins s σ H x y v u Q I rx ry ⟨dx, _, Dp.of sG hx, Dp.of sG hy, hz.1, hz.2, q⟩
      · cases e
    · split at e
      · rename_i hz
        rw [Bool.and_eq_true] at hz
        cases e
        obtain ⟨as, r1⟩ := Dp.reads I dx x v (Dp.of sG hx) rx
        obtain ⟨bs, r2⟩ := Dp.reads I _ y u (Dp.of sG hy) ry
        exact SeqAt.in_tuple_reads r2 r1 (SeqAt.canLay_of_shaped (d := .tuple _) hz.2) (SeqAt.canLay_of_shaped hz.1) (room_in_shaped (show SeqAt.shaped dx = true from hz.1) hu) ⟨.bl _, H, I, rfl, q⟩
      · cases e
    · cases e
  | NotIn =>
    unfold cmpD at e
    simp only at e
    split at e
    · split at e
      · rename_i hz
        rw [Bool.and_eq_true] at hz
        cases e
        exact op_notInD hu pins s σ H x y v u Q I rx ry ⟨dx, _, Dp.of sG hx, Dp.of sG hy, hz.1, hz.2, q⟩
      · cases e
    · split at e
      · rename_i hz
        rw [Bool.and_eq_true] at hz
        cases e
        obtain ⟨as, r1⟩ := Dp.reads I dx x v (Dp.of sG hx) rx
        obtain ⟨bs, r2⟩ := Dp.reads I _ y u (Dp.of sG hy) ry
        exact SeqAt.notIn_tuple_reads r2 r1 (SeqAt.canLay_of_shaped (d := .tuple _) hz.2) (SeqAt.canLay_of_shaped hz.1) (room_in_shaped (show SeqAt.shaped dx = true from hz.1) hu) ⟨.bl _, H, I, rfl, q⟩
      · cases e
    · cases e
theorem un_negD : UnR X (unaryOp .USub) (rD1 X.K negD) := by
  intro pins s σ H x v Q I rx h
  obtain ⟨G, dx, d, sG, hx, e, q⟩ := h
  cases dx with
  | int i =>
    cases e
    exact un_neg pins s σ H x v Q I rx ⟨i, hx.int_inv, q _ _ _ (Ext.refl sG) (.int _)⟩
  | _ => cases e
theorem Rps.atI {K : PySem.W.Frag} {G : Hp} {vs : List V} {ds : List D} {i : Int} {d : D} (a : Rps K G vs ds) (h : atI ds i = some d) : ∃ v, L2.atI vs i = some v ∧ Rp K G v d := by
  unfold L2.atI at h ⊢
  rw [a.length]
  cases e : ixN ds.length i with
  | none => rw [e] at h; cases h
  | some j =>
    rw [e] at h
    exact Rps.get a (show ds[j]? = some d from h)
theorem ix_D : IxR X (rD2 X.K ixD) := by
  intro value slice pins s σ H x y v u Q I rx ry h hs
  obtain ⟨G, dx, dy, d, sG, hx, hy, e, q⟩ := h
  unfold ixD at e
  split at e
  · rename_i xs i
    obtain ⟨a, vs, rfl, h1, a1⟩ := hx.list_inv
    obtain ⟨z, e2, r⟩ := Rps.atI a1 e
    exact ix_list value slice pins s σ H _ _ v u Q I rx ry ⟨a, vs, i, z, rfl, hy.int_inv, SqL.of (sG _ _ h1), e2, q _ _ _ (Ext.refl sG) r⟩ hs
  · rename_i xs i
    obtain ⟨a, vs, rfl, h1, a1⟩ := hx.tuple_inv
    obtain ⟨z, e2, r⟩ := Rps.atI a1 e
    exact ix_tup value slice pins s σ H _ _ v u Q I rx ry ⟨a, vs, i, z, rfl, hy.int_inv, SqT.mono sG h1, e2, q _ _ _ (Ext.refl sG) r⟩ hs
  · cases e
def rSlD (K : PySem.W.Frag) : V → Option Int → Option Int → Hp → VK → Prop := fun x lo hi H Q => ∃ G dx d, Same G H ∧ Rp K G x dx ∧ slD dx lo hi = some d ∧ ∀ v G' H', Ext G H G' H' → Rp K G' v d → Q v H'
theorem Rps.cut {K : PySem.W.Frag} {G : Hp} {vs : List V} {ds : List D} (a : Rps K G vs ds) (lo hi : Option Int) : Rps K G (cutV vs lo hi) (cutD ds lo hi) := by
  unfold cutV cutD
  rw [a.length]
  exact Rps.take _ (Rps.drop _ a)
theorem sl_D : SlR X (rSlD X.K) := by
  intro pins s σ H x v vl vu lo hi sl Q I rx hs pl pu h
  obtain ⟨G, dx, d, sG, hx, e, q⟩ := h
  unfold slD at e
  split at e
  · cases e
    obtain ⟨a, vs, rfl, h1, a1⟩ := hx.list_inv
    exact sl_list pins s σ H _ v vl vu lo hi sl Q I rx hs pl pu ⟨a, vs, rfl, SqL.of (sG _ _ h1), fun p n => q _ _ _ (Ext.new sG n) (Rp.lnew (sG.free n) (Rps.cut a1 _ _))⟩
  · cases e
    obtain ⟨a, vs, rfl, h1, a1⟩ := hx.tuple_inv
    refine sl_tupA pins s σ H _ v vl vu lo hi sl Q I rx hs pl pu ⟨a, vs, rfl, SqT.mono sG h1, fun hw => q _ _ _ (Ext.refl sG) ?_, fun _ p n => q _ _ _ (Ext.new sG n) (Rp.tnew (sG.free n) (Rps.cut a1 _ _))⟩
    rename_i ys
    have ec : cutD ys lo hi = ys := by
      unfold cutD
      rw [← a1.length, hw.1, hw.2, List.drop_zero, Nat.sub_zero, List.take_of_length_le (by rw [a1.length]; exact Nat.le_refl _)]
    rw [ec]
    exact hx
  · cases e
end
end WM
namespace WM
open PySem PySem.Spec PyProof.Rows L2
open PySem.W (alike dataLe dataLt EachIs minD Sortable sorted_data min_list_data alike_unique AlikeAll)
def tup1 : D → Bool
  | .tuple (_ :: _) => true
  | _ => false
def noTup : D → Bool
  | .none => false
  | .tuple _ => false
  | _ => true
def noneB : D → Bool
  | .none => true
  | _ => false
def dpB (xs : List D) : Bool := xs.all fun x => decide (x.depth ≤ 60)
def alB (xs : List D) : Bool := xs.all fun x => xs.all fun y => alike x y
/-- what sorted and min ask of data -/
def sdB (xs : List D) : Bool := alB xs && ((xs.all tup1 || xs.all noTup) && dpB xs)
def mdB (xs : List D) : Bool := alB xs && (xs.all (fun x => !noneB x) && dpB xs)
def srtD (xs : List D) : List D := xs.mergeSort (dataLe false id)
theorem alB_ok {xs : List D} (h : alB xs = true) : ∀ x ∈ xs, ∀ y ∈ xs, alike x y = true := fun x hx y hy => List.all_eq_true.mp (List.all_eq_true.mp h x hx) y hy
theorem dpB_ok {xs : List D} (h : dpB xs = true) : ∀ x ∈ xs, x.depth ≤ 60 := fun x hx => of_decide_eq_true (List.all_eq_true.mp h x hx)
theorem dpB_all : ∀ {xs : List D}, (∀ x ∈ xs, x.depth ≤ 60) → PyData.depthAll xs ≤ 60
  | [], _ => by simp [PyData.depthAll]
  | x :: xs, h => by
    unfold PyData.depthAll
    exact Nat.max_le.mpr ⟨h x (List.mem_cons_self ..), dpB_all fun y hy => h y (List.mem_cons_of_mem _ hy)⟩
section
variable {X : Cx}
theorem each_of {K : PySem.W.Frag} {G : Hp} : ∀ {vs : List V} {us : List Value} {ds : List D}, Vals vs us → Rps K G vs ds → EachIs (fun (u : Value) (d : D) => ∃ x : V, RelV x u ∧ Rp K G x d) us ds
  | _, _, _, .nil, .nil => .nil
  | _, _, _, .cons r rs, .cons h hs => .cons ⟨_, r, h⟩ (each_of rs hs)
theorem of_each {K : PySem.W.Frag} {G : Hp} : ∀ {us : List Value} {ds : List D}, EachIs (fun (u : Value) (d : D) => ∃ x : V, RelV x u ∧ Rp K G x d) us ds → ∃ vs : List V, Vals vs us ∧ Rps K G vs ds
  | _, _, .nil => ⟨[], .nil, .nil⟩
  | _, _, .cons ⟨x, r, h⟩ t => by
    obtain ⟨vs, a, b⟩ := of_each t
    exact ⟨x :: vs, .cons r a, .cons h b⟩
theorem call_sortD (hu : X.A.units + 65 < cLine) : CallR X (.builtin "sorted") (fun vs H Q => ∃ G xs v, Same G H ∧ vs = [v] ∧ Rp X.K G v (.list xs) ∧ sdB xs = true ∧ ∀ v G' H', Ext G H G' H' → Rp X.K G' v (.list (srtD xs)) → Q v H') := by
  intro pins s σ H vs us Q I r h
  obtain ⟨G, xs, v, sG, rfl, h1, hb, q⟩ := h
  obtain ⟨a, ys, rfl, h2, a2⟩ := h1.list_inv
  obtain ⟨u, rfl, ru⟩ := vals1 r
  obtain rfl : u = Value.ref a := ru
  obtain ⟨its, rv, hl, hz⟩ := I.list (SqL.of (sG _ _ h2))
  unfold sdB at hb
  rw [Bool.and_eq_true, Bool.and_eq_true, Bool.or_eq_true] at hb
  obtain ⟨b1, b2, b3⟩ := hb
  have e := each_of rv a2
  have er : EachIs (fun (v : Value) (d : D) => ∃ as, Reads s.heap v (id d) as) its xs := e.mono fun u d ⟨x, r1, r2⟩ => Dp.reads I d x u (Dp.of sG r2) r1
  have hk : Sortable (xs.map id) := by
    rw [List.map_id]
    rcases b2 with b2 | b2
    · refine .inl fun d hd => ?_
      have := List.all_eq_true.mp b2 d hd
      unfold tup1 at this
      split at this
      · exact ⟨_, _, rfl⟩
      · cases this
    · refine .inr fun d hd => ?_
      have := List.all_eq_true.mp b2 d hd
      refine ⟨fun z => ?_, fun zs z => ?_⟩
      · subst z
        cases this
      · subst z
        cases this
  have hlen : its.length = xs.length := e.length
  refine sorted_data (enc := id) (R := fun (u : Value) (d : D) => ∃ x : V, RelV x u ∧ Rp X.K G x d) hl.isList e er (by rw [List.map_id]; exact alB_ok b1) hk (by rw [← a2.length]; exact hz) (fun d hd => ?_) fun out ho eo => ?_
  · have := dpB_ok b3 d hd
    show X.A.units + 2 + d.depth < cLine
    omega
  · obtain ⟨zs, r1, r2⟩ := of_each eo
    obtain ⟨n, hn⟩ := sortedAll_at s.heap its out.toArray
    have hsz : zs.length ≤ sizeLine := by
      rw [r1.length, ho, ← a2.length]
      exact hz
    refine ⟨.ref (s.heap.objs.size + 1), upd H (s.heap.objs.size + 1) (.lst zs), I.laid (t' := s.toks) (fun b o e => sortedAll_old e) (Nat.le_succ _) ⟨hsz, out, n, r1, hn⟩, rfl, ?_⟩
    have hf := I.hok.fresh (Nat.le_succ s.heap.objs.size)
    exact q _ _ _ (Ext.new sG hf) (Rp.lnew (sG.free hf) r2)
theorem minD_mem : ∀ (xs : List D) (x : D), minD x xs ∈ x :: xs
  | [], x => List.mem_cons_self ..
  | y :: ys, x => by
    show minD (if dataLt y x then y else x) ys ∈ _
    have := minD_mem ys (if dataLt y x then y else x)
    rcases List.mem_cons.mp this with e | e
    · rw [e]
      split
      · exact List.mem_cons_of_mem _ (List.mem_cons_self ..)
      · exact List.mem_cons_self ..
    · exact List.mem_cons_of_mem _ (List.mem_cons_of_mem _ e)
theorem each_at {R : Value → D → Prop} : ∀ {us : List Value} {ds : List D} {i : Nat} {u : Value}, EachIs R us ds → us[i]? = some u → ∃ d, d ∈ ds ∧ R u d
  | _, _, i, _, .nil, h => by cases i <;> cases h
  | _, _, 0, _, .cons r _, h => by cases h; exact ⟨_, List.mem_cons_self .., r⟩
  | _, _, i + 1, _, .cons _ t, h => by
    obtain ⟨d, a, b⟩ := each_at (i := i) t (by simpa using h)
    exact ⟨d, List.mem_cons_of_mem _ a, b⟩
theorem call_minD (hc : X.calm = true) (hu : X.A.units + 65 < cLine) : CallR X (.builtin "min") (fun vs H Q => ∃ G x xs v, Same G H ∧ vs = [v] ∧ Rp X.K G v (.list (x :: xs)) ∧ mdB (x :: xs) = true ∧ ∀ v, Rp X.K G v (minD x xs) → Q v H) := by
  intro pins s σ H vs us Q I r h
  obtain ⟨G, x, xs, v, sG, rfl, h1, hb, q⟩ := h
  obtain ⟨a, ys, rfl, h2, a2⟩ := h1.list_inv
  obtain ⟨u, rfl, ru⟩ := vals1 r
  obtain rfl : u = Value.ref a := ru
  obtain ⟨its, rv, hl, hz⟩ := I.list (SqL.of (sG _ _ h2))
  unfold mdB at hb
  rw [Bool.and_eq_true, Bool.and_eq_true] at hb
  obtain ⟨b1, b2, b3⟩ := hb
  have e := each_of rv a2
  obtain ⟨as, ra⟩ := Dp.readsAll I (x :: xs) ys its (Rps.dp (Rps.mono sG a2)) rv
  have hd := dpB_all (dpB_ok b3)
  refine min_list_data (I.ok.hd hc) hl.isList ra ⟨alB_ok b1, fun d hd z => ?_⟩ (by omega) fun i u h' tk bs hi hr hk => ?_
  · subst z
    have := List.all_eq_true.mp b2 _ hd
    cases this
  · obtain ⟨d, hd', w, r1, r2⟩ := each_at e (i := i) (by simpa using hi)
    have I' : L2.Inv X pins σ H { s with heap := h', toks := tk } := I.kept (h' := h') (t' := tk) hk
    obtain ⟨cs, r3⟩ := Dp.reads I' d w u (Dp.of sG r2) r1
    have ed : d = minD x xs := alike_unique d _ u cs bs (alB_ok b1 d hd' _ (minD_mem xs x)) r3 hr
    rw [ed] at r2
    exact ⟨w, H, I', r1, q w r2⟩
end
end WM
namespace WM
open PySem PySem.Spec PyProof.Rows L2
inductive Ty where
  | int | bool | str | tuple | list
  deriving DecidableEq
def Ty.nm : Ty → String
  | .int => "int"
  | .bool => "bool"
  | .str => "str"
  | .tuple => "tuple"
  | .list => "list"
def isiD : D → Ty → Option Bool
  | .none, _ => some false
  | .bool _, .int => some true
  | .bool _, .bool => some true
  | .bool _, _ => some false
  | .int _, .int => some true
  | .int _, _ => some false
  | .str _, .str => some true
  | .str _, _ => some false
  | .list _, .list => some true
  | .list _, _ => some false
  | .tuple _, .tuple => some true
  | .tuple _, _ => some false
  | .dict _, _ => none
def dTy : D → String
  | .none => "NoneType"
  | .bool _ => "bool"
  | .int _ => "int"
  | .str _ => "str"
  | .list _ => "list"
  | .tuple _ => "tuple"
  | .dict _ => "dict"
theorem kit_all : ∀ a ∈ ["NoneType", "bool", "int", "str", "list", "tuple"], ∀ t ∈ [Ty.int, .bool, .str, .tuple, .list], kitB a t.nm = some (decide (a = t.nm) || (decide (a = "bool") && decide (t = Ty.int))) := by decide +kernel
theorem kit_isi {K : PySem.W.Frag} {d : D} {t : Ty} {b : Bool} (h : isiD d t = some b) : PySem.W.kitOne K (.type (dTy d)) (.type t.nm) = some b := by
  have ne : ∀ kvs, d ≠ .dict kvs := by
    intro kvs e
    subst e
    cases t <;> cases h
  have key := kit_all (dTy d) (by cases d <;> first | (exact absurd rfl (ne _)) | simp [dTy]) t (by cases t <;> simp)
  refine kit_ty (key.trans ?_)
  cases d <;> cases t <;> first | exact absurd rfl (ne _) | (cases h; rfl)
theorem SqT.ty {K : PySem.W.Frag} {H : Hp} {a : Addr} {xs : List V} (h : SqT K H a xs) : TyX K H (.ref a) (.type "tuple") := by
  rcases h with (h | ⟨o, h⟩) | ⟨o, its, n, hk, hc, _⟩
  · exact .base (.tup h)
  · exact .fTuple h
  · exact .kTuple hk hc
theorem Rp.ty {K : PySem.W.Frag} {H : Hp} {v : V} {d : D} (h : Rp K H v d) : TyX K H v (.type (dTy d)) := by
  cases h with
  | non => exact .base .non
  | bl b => exact .base (.bl b)
  | int i => exact .base (.int i)
  | str x => exact .base (.str x)
  | lst h a => exact .base (.lst h)
  | tup h a => exact SqT.ty h
/-- the built-in functions -/
inductive B where
  | len | abs | mx | mn | sum | all | any | sorted | tuple | list | int | gcd
  deriving DecidableEq
/-- what each is bound to -/
def B.val : B → Value
  | .len => .builtin "len"
  | .abs => .builtin "abs"
  | .mx => .builtin "max"
  | .mn => .builtin "min"
  | .sum => .builtin "sum"
  | .all => .builtin "all"
  | .any => .builtin "any"
  | .sorted => .builtin "sorted"
  | .tuple => .type "tuple"
  | .list => .type "list"
  | .int => .type "int"
  | .gcd => .builtin "math.gcd"
def asInts : List D → Option (List Int)
  | [] => some []
  | .int i :: r => (asInts r).map (i :: ·)
  | _ :: _ => none
def asBools : List D → Option (List Bool)
  | [] => some []
  | .bool b :: r => (asBools r).map (b :: ·)
  | _ :: _ => none
theorem asInts_ok : ∀ {ds : List D} {ns : List Int}, asInts ds = some ns → ds = ns.map PyData.int
  | [], _, h => by cases h; rfl
  | .int i :: r, ns, h => by
    cases q : asInts r with
    | none => simp [asInts, q] at h
    | some ms =>
      simp [asInts, q] at h
      subst h
      rw [asInts_ok q]; rfl
  | .none :: _, _, h => by cases h
  | .bool _ :: _, _, h => by cases h
  | .str _ :: _, _, h => by cases h
  | .list _ :: _, _, h => by cases h
  | .tuple _ :: _, _, h => by cases h
  | .dict _ :: _, _, h => by cases h
theorem asInts_map : ∀ ns : List Int, asInts (ns.map PyData.int) = some ns
  | [] => rfl
  | i :: r => by simp [asInts, asInts_map r]
theorem asBools_ok : ∀ {ds : List D} {ns : List Bool}, asBools ds = some ns → ds = ns.map PyData.bool
  | [], _, h => by cases h; rfl
  | .bool i :: r, ns, h => by
    cases q : asBools r with
    | none => simp [asBools, q] at h
    | some ms =>
      simp [asBools, q] at h
      subst h
      rw [asBools_ok q]; rfl
  | .none :: _, _, h => by cases h
  | .int _ :: _, _, h => by cases h
  | .str _ :: _, _, h => by cases h
  | .list _ :: _, _, h => by cases h
  | .tuple _ :: _, _, h => by cases h
  | .dict _ :: _, _, h => by cases h
theorem asBools_map : ∀ ns : List Bool, asBools (ns.map PyData.bool) = some ns
  | [] => rfl
  | i :: r => by simp [asBools, asBools_map r]
def minL : List Int → Option Int
  | [] => none
  | x :: r => some (r.foldl min x)
def maxL : List Int → Option Int
  | [] => none
  | x :: r => some (r.foldl max x)
theorem foldl_min : ∀ (r : List Int) (x : Int), r.foldl min x ∈ x :: r ∧ ∀ y ∈ x :: r, r.foldl min x ≤ y
  | [], x => by simp
  | a :: r, x => by
    have ih := foldl_min r (min x a)
    rw [List.foldl_cons]
    obtain ⟨h1, h2⟩ := ih
    have h3 := h2 _ List.mem_cons_self
    refine ⟨?_, fun y hy => ?_⟩
    · rcases List.mem_cons.mp h1 with e | e
      · rw [e]
        by_cases q : x ≤ a
        · rw [Int.min_eq_left q]; exact List.mem_cons_self
        · rw [Int.min_eq_right (by omega)]; exact List.mem_cons_of_mem _ List.mem_cons_self
      · exact List.mem_cons_of_mem _ (List.mem_cons_of_mem _ e)
    · rcases List.mem_cons.mp hy with e | hy
      · subst e; exact Int.le_trans h3 (Int.min_le_left _ _)
      · rcases List.mem_cons.mp hy with e | hy
        · subst e; exact Int.le_trans h3 (Int.min_le_right _ _)
        · exact h2 _ (List.mem_cons_of_mem _ hy)
theorem foldl_max : ∀ (r : List Int) (x : Int), r.foldl max x ∈ x :: r ∧ ∀ y ∈ x :: r, y ≤ r.foldl max x
  | [], x => by simp
  | a :: r, x => by
    have ih := foldl_max r (max x a)
    rw [List.foldl_cons]
    obtain ⟨h1, h2⟩ := ih
    have h3 := h2 _ List.mem_cons_self
    refine ⟨?_, fun y hy => ?_⟩
    · rcases List.mem_cons.mp h1 with e | e
      · rw [e]
        by_cases q : x ≤ a
        · rw [Int.max_eq_right q]; exact List.mem_cons_of_mem _ List.mem_cons_self
        · rw [Int.max_eq_left (by omega)]; exact List.mem_cons_self
      · exact List.mem_cons_of_mem _ (List.mem_cons_of_mem _ e)
    · rcases List.mem_cons.mp hy with e | hy
      · subst e; exact Int.le_trans (Int.le_max_left _ _) h3
      · rcases List.mem_cons.mp hy with e | hy
        · subst e; exact Int.le_trans (Int.le_max_right _ _) h3
        · exact h2 _ (List.mem_cons_of_mem _ hy)
/-- sorted ints -/
def insI (x : Int) : List Int → List Int
  | [] => [x]
  | y :: r => if x ≤ y then x :: y :: r else y :: insI x r
def sortI : List Int → List Int
  | [] => []
  | x :: r => insI x (sortI r)
theorem insI_perm (x : Int) : ∀ l, (insI x l).Perm (x :: l)
  | [] => List.Perm.refl _
  | y :: r => by
    unfold insI
    split
    · exact List.Perm.refl _
    · exact (List.Perm.cons y (insI_perm x r)).trans (List.Perm.swap x y r)
theorem sortI_perm : ∀ l, (sortI l).Perm l
  | [] => List.Perm.refl _
  | x :: r => (insI_perm x _).trans (List.Perm.cons x (sortI_perm r))
theorem insI_sorted (x : Int) : ∀ l, l.Pairwise (· ≤ ·) → (insI x l).Pairwise (· ≤ ·)
  | [], _ => by simp [insI]
  | y :: r, h => by
    unfold insI
    obtain ⟨h1, h2⟩ := List.pairwise_cons.mp h
    split
    · rename_i hxy
      refine List.pairwise_cons.mpr ⟨fun z hz => ?_, h⟩
      rcases List.mem_cons.mp hz with e | hz
      · subst e; exact hxy
      · exact Int.le_trans hxy (h1 z hz)
    · rename_i hxy
      refine List.pairwise_cons.mpr ⟨fun z hz => ?_, insI_sorted x r h2⟩
      rcases List.mem_cons.mp ((insI_perm x r).mem_iff.mp hz) with e | hz
      · subst e; omega
      · exact h1 z hz
theorem sortI_sorted : ∀ l, (sortI l).Pairwise (· ≤ ·)
  | [] => .nil
  | x :: r => insI_sorted x _ (sortI_sorted r)
theorem sorted_uniq : ∀ {l m : List Int}, l.Pairwise (· ≤ ·) → m.Pairwise (· ≤ ·) → l.Perm m → l = m
  | [], m, _, _, h => (List.Perm.eq_nil h.symm).symm
  | x :: l, [], _, _, h => absurd h.length_eq (by simp)
  | x :: l, y :: m, hl, hm, h => by
    obtain ⟨a1, a2⟩ := List.pairwise_cons.mp hl
    obtain ⟨b1, b2⟩ := List.pairwise_cons.mp hm
    have h1 : x ≤ y := by
      rcases List.mem_cons.mp (h.mem_iff.mpr List.mem_cons_self) with e | e
      · omega
      · exact a1 _ e
    have h2 : y ≤ x := by
      rcases List.mem_cons.mp (h.mem_iff.mp List.mem_cons_self) with e | e
      · omega
      · exact b1 _ e
    have e : x = y := by omega
    subst e
    rw [sorted_uniq a2 b2 h.cons_inv]
def bltD (b : B) (ds : List D) : Option D := match b, ds with
  | .len, [.list xs] => some (.int xs.length)
  | .len, [.tuple xs] => some (.int xs.length)
  | .len, [.str x] => if x.length ≤ sizeLine then some (.int x.length) else none
  | .abs, [.int i] => some (.int (if i < 0 then -i else i))
  | .mx, [.int i, .int j] => some (.int (if j > i then j else i))
  | .mn, [.int i, .int j] => some (.int (if j < i then j else i))
  | .mx, [.list xs] => (asInts xs).bind fun ns => (maxL ns).map .int
  | .mn, [.list xs] => (match asInts xs with
    | some ns => (minL ns).map .int
    | none => (match xs with
      | x :: r => if mdB (x :: r) then some (PySem.W.minD x r) else none
      | [] => none))
  | .sum, [.list xs] => (asInts xs).map fun ns => .int ns.sum
  | .all, [.list xs] => (asBools xs).map fun ns => .bool (ns.all id)
  | .any, [.list xs] => (asBools xs).map fun ns => .bool (ns.any id)
  | .sorted, [.list xs] => (match asInts xs with
    | some ns => some (.list ((sortI ns).map .int))
    | none => if sdB xs then some (.list (srtD xs)) else none)
  | .tuple, [.list xs] => some (.tuple xs)
  | .tuple, [.tuple xs] => some (.tuple xs)
  | .list, [.list xs] => if xs.length ≤ sizeLine then some (.list xs) else none
  | .list, [.tuple xs] => if xs.length ≤ sizeLine then some (.list xs) else none
  | .int, [.int i] => some (.int i)
  | .int, [.bool k] => some (.int (if k then 1 else 0))
  | .gcd, [.int i, .int j] => some (.int ((Nat.gcd i.natAbs j.natAbs : Nat) : Int))
  | _, _ => none
theorem Rps.one {K : PySem.W.Frag} {G : Hp} {xs : List V} {d : D} (h : Rps K G xs [d]) : ∃ v, xs = [v] ∧ Rp K G v d := by
  cases h with
  | cons h a => cases a; exact ⟨_, rfl, h⟩
theorem Rps.two {K : PySem.W.Frag} {G : Hp} {xs : List V} {d e : D} (h : Rps K G xs [d, e]) : ∃ v w, xs = [v, w] ∧ Rp K G v d ∧ Rp K G w e := by
  cases h with
  | cons h a =>
    obtain ⟨w, rfl, h2⟩ := Rps.one a
    exact ⟨_, _, rfl, h, h2⟩
theorem Rp.lint {K : PySem.W.Frag} {G : Hp} {v : V} {xs : List D} {ns : List Int} (h : Rp K G v (.list xs)) (e : asInts xs = some ns) : ∃ a, v = .ref a ∧ G a = some (.lst (ns.map V.int)) := by
  obtain ⟨a, vs, rfl, h1, a1⟩ := h.list_inv
  rw [asInts_ok e] at a1
  rw [Rps.ints a1] at h1
  exact ⟨a, rfl, h1⟩
theorem Rp.lbool {K : PySem.W.Frag} {G : Hp} {v : V} {xs : List D} {ns : List Bool} (h : Rp K G v (.list xs)) (e : asBools xs = some ns) : ∃ a, v = .ref a ∧ G a = some (.lst (ns.map V.bl)) := by
  obtain ⟨a, vs, rfl, h1, a1⟩ := h.list_inv
  rw [asBools_ok e] at a1
  rw [Rps.bools a1] at h1
  exact ⟨a, rfl, h1⟩
section
variable {X : Cx}
theorem call_blt (hc : X.calm = true) (hu : X.A.units + 65 < cLine) (b : B) : CallR X b.val (rDs X.K (bltD b)) := by
  intro pins s σ H xs us Q I r h
  obtain ⟨G, ds, d, sG, hx, e, q⟩ := h
  unfold bltD at e
  split at e
  · cases e
    obtain ⟨v, rfl, h1⟩ := hx.one
    obtain ⟨a, vs, rfl, h2, a2⟩ := h1.list_inv
    exact call_len_seq pins s σ H _ us Q I r ⟨a, vs, rfl, .inl (SqL.of (sG _ _ h2)), q _ _ _ (Ext.refl sG) (by rw [a2.length]; exact .int _)⟩
  · cases e
    obtain ⟨v, rfl, h1⟩ := hx.one
    obtain ⟨a, vs, rfl, h2, a2⟩ := h1.tuple_inv
    exact call_len_seq pins s σ H _ us Q I r ⟨a, vs, rfl, .inr (SqT.mono sG h2), q _ _ _ (Ext.refl sG) (by rw [a2.length]; exact .int _)⟩
  · split at e
    · rename_i hz
      cases e
      obtain ⟨v, rfl, h1⟩ := hx.one
      rw [h1.str_inv] at r
      exact call_len_str pins s σ H _ us Q I r ⟨_, rfl, hz, q _ _ _ (Ext.refl sG) (.int _)⟩
    · cases e
  · cases e
    obtain ⟨v, rfl, h1⟩ := hx.one
    rw [h1.int_inv] at r
    exact call_abs pins s σ H _ us Q I r ⟨_, rfl, q _ _ _ (Ext.refl sG) (.int _)⟩
  · cases e
    obtain ⟨v, w, rfl, h1, h2⟩ := hx.two
    rw [h1.int_inv, h2.int_inv] at r
    exact call_max2 hc pins s σ H _ us Q I r ⟨_, _, rfl, q _ _ _ (Ext.refl sG) (.int _)⟩
  · cases e
    obtain ⟨v, w, rfl, h1, h2⟩ := hx.two
    rw [h1.int_inv, h2.int_inv] at r
    exact call_min2 hc pins s σ H _ us Q I r ⟨_, _, rfl, q _ _ _ (Ext.refl sG) (.int _)⟩
  · obtain ⟨v, rfl, h1⟩ := hx.one
    rename_i l
    cases en : asInts l with
    | none => rw [en] at e; cases e
    | some ns =>
      rw [en] at e
      obtain ⟨a, rfl, h2⟩ := h1.lint en
      cases ns with
      | nil => cases e
      | cons x r' =>
        cases e
        obtain ⟨m1, m2⟩ := foldl_max r' x
        refine cr_max hc pins s σ H _ us Q I r ⟨a, x :: r', rfl, SqL.of (sG _ _ h2), by simp, fun m h3 h4 => ?_⟩
        have em : m = r'.foldl max x := Int.le_antisymm (m2 m h3) (h4 _ m1)
        rw [em]
        exact q _ _ _ (Ext.refl sG) (.int _)
  · obtain ⟨v, rfl, h1⟩ := hx.one
    rename_i l
    cases en : asInts l with
    | none =>
      rw [en] at e
      simp only at e
      split at e
      · split at e
        · rename_i hb
          cases e
          exact call_minD hc hu pins s σ H _ us Q I r ⟨G, _, _, v, sG, rfl, h1, hb, fun v r => q v G H (Ext.refl sG) r⟩
        · cases e
      · cases e
    | some ns =>
      rw [en] at e
      obtain ⟨a, rfl, h2⟩ := h1.lint en
      cases ns with
      | nil => cases e
      | cons x r' =>
        cases e
        obtain ⟨m1, m2⟩ := foldl_min r' x
        refine cr_min hc pins s σ H _ us Q I r ⟨a, x :: r', rfl, SqL.of (sG _ _ h2), by simp, fun m h3 h4 => ?_⟩
        have em : m = r'.foldl min x := Int.le_antisymm (h4 _ m1) (m2 m h3)
        rw [em]
        exact q _ _ _ (Ext.refl sG) (.int _)
  · obtain ⟨v, rfl, h1⟩ := hx.one
    rename_i l
    cases en : asInts l with
    | none => rw [en] at e; cases e
    | some ns =>
      rw [en] at e
      cases e
      obtain ⟨a, rfl, h2⟩ := h1.lint en
      exact cr_sum hc pins s σ H _ us Q I r ⟨a, ns, rfl, SqL.of (sG _ _ h2), q _ _ _ (Ext.refl sG) (.int _)⟩
  · obtain ⟨v, rfl, h1⟩ := hx.one
    rename_i l
    cases en : asBools l with
    | none => rw [en] at e; cases e
    | some ns =>
      rw [en] at e
      cases e
      obtain ⟨a, rfl, h2⟩ := h1.lbool en
      exact cr_all hc pins s σ H _ us Q I r ⟨a, ns, rfl, SqL.of (sG _ _ h2), q _ _ _ (Ext.refl sG) (.bl _)⟩
  · obtain ⟨v, rfl, h1⟩ := hx.one
    rename_i l
    cases en : asBools l with
    | none => rw [en] at e; cases e
    | some ns =>
      rw [en] at e
      cases e
      obtain ⟨a, rfl, h2⟩ := h1.lbool en
      exact cr_any hc pins s σ H _ us Q I r ⟨a, ns, rfl, SqL.of (sG _ _ h2), q _ _ _ (Ext.refl sG) (.bl _)⟩
  · obtain ⟨v, rfl, h1⟩ := hx.one
    rename_i l
    cases en : asInts l with
    | none =>
      rw [en] at e
      simp only at e
      split at e
      · rename_i hb
        cases e
        exact call_sortD hu pins s σ H _ us Q I r ⟨G, _, v, sG, rfl, h1, hb, fun v G' H' ex r => q v G' H' ex r⟩
      · cases e
    | some ns =>
      rw [en] at e
      cases e
      obtain ⟨a, rfl, h2⟩ := h1.lint en
      refine cr_sortedI pins s σ H _ us Q I r ⟨a, ns, rfl, SqL.of (sG _ _ h2), fun ns' p hp hs n => ?_⟩
      rw [sorted_uniq hs (sortI_sorted ns) (hp.trans (sortI_perm ns).symm)]
      exact q _ _ _ (Ext.new sG n) (Rp.lnew (sG.free n) (Rps.of_ints _))
  · cases e
    obtain ⟨v, rfl, h1⟩ := hx.one
    obtain ⟨a, vs, rfl, h2, a2⟩ := h1.list_inv
    exact call_tuple_of pins s σ H _ us Q I r ⟨a, vs, rfl, .inl ⟨SqL.of (sG _ _ h2), fun p n => q _ _ _ (Ext.new sG n) (Rp.tnew (sG.free n) a2)⟩⟩
  · cases e
    obtain ⟨v, rfl, h1⟩ := hx.one
    obtain ⟨a, vs, rfl, h2, a2⟩ := h1.tuple_inv
    exact call_tuple_of pins s σ H _ us Q I r ⟨a, vs, rfl, .inr ⟨SqT.mono sG h2, q _ _ _ (Ext.refl sG) h1⟩⟩
  · split at e <;> cases e
    obtain ⟨v, rfl, h1⟩ := hx.one
    obtain ⟨a, vs, rfl, h2, a2⟩ := h1.list_inv
    exact call_list_of pins s σ H _ us Q I r ⟨a, vs, rfl, .inl (SqL.of (sG _ _ h2)), fun p n => q _ _ _ (Ext.new sG n) (Rp.lnew (sG.free n) a2)⟩
  · split at e <;> cases e
    obtain ⟨v, rfl, h1⟩ := hx.one
    obtain ⟨a, vs, rfl, h2, a2⟩ := h1.tuple_inv
    exact call_list_of pins s σ H _ us Q I r ⟨a, vs, rfl, .inr (SqT.mono sG h2), fun p n => q _ _ _ (Ext.new sG n) (Rp.lnew (sG.free n) a2)⟩
  · cases e
    obtain ⟨v, rfl, h1⟩ := hx.one
    rw [h1.int_inv] at r
    exact call_int1 pins s σ H _ us Q I r (.inl ⟨_, rfl, q _ _ _ (Ext.refl sG) (.int _)⟩)
  · cases e
    obtain ⟨v, rfl, h1⟩ := hx.one
    rw [h1.bool_inv] at r
    exact call_int1 pins s σ H _ us Q I r (.inr ⟨_, rfl, q _ _ _ (Ext.refl sG) (.int _)⟩)
  · cases e
    obtain ⟨v, w, rfl, h1, h2⟩ := hx.two
    rw [h1.int_inv, h2.int_inv] at r
    exact cr_gcd pins s σ H _ us Q I r ⟨_, _, rfl, q _ _ _ (Ext.refl sG) (.int _)⟩
  · cases e
end
end WM
namespace WM
open PySem PySem.Spec PyProof.Rows L2
mutual
inductive Tg where
  | v (i : Nat)
  | t (ts : Tgs)
inductive Tgs where
  | nil
  | cons (t : Tg) (ts : Tgs)
end
mutual
inductive E where
  | lit (d : D)
  | var (i : Nat)
  | raw (i : Nat)
  | bin (op : Operator) (a b : E)
  | neg (a : E)
  | not (a : E)
  | cmp (op : CmpOp) (a b : E)
  | cmp2 (o1 o2 : CmpOp) (a b c : E)
  | cmp3 (o1 o2 o3 : CmpOp) (a b c d : E)
  | and (a b : E)
  | or (a b : E)
  | ite (c a b : E)
  | tup (es : Es)
  | lst (es : Es)
  | ix (a b : E)
  | sl (a : E) (lo hi : Oe)
  | rev (a : E)
  | call (f : Nat) (es : Es)
  | blt (b : B) (es : Es)
  | isi (a : E) (t : Ty)
  | lset (a : E)
  | comp (tg : Tg) (it : I) (c : Oe) (own : List Nat) (elt : E)
inductive Es where
  | nil
  | cons (e : E) (es : Es)
inductive Oe where
  | none
  | some (e : E)
inductive I where
  | val (e : E)
  | rng1 (a : E)
  | rng2 (a b : E)
  | zip (a b : E)
  | enum (a : E)
end
mutual
inductive S where
  | set (i : Nat) (e : E)
  | setC (i : Nat) (e : E)
  | unp (tg : Tgs) (e : E)
  | par (is : List Nat) (es : Es)
  | put (i : Nat) (k e : E)
  | app (i : Nat) (e : E)
  | expr (e : E)
  | ite (c : E) (a b : Ss)
  | for (tg : Tg) (it : I) (b : Ss)
  | whl (c : E) (b : Ss)
  | ret (e : E)
  | retN
  | nev
  | brk
  | ctn
  | pas
inductive Ss where
  | nil
  | cons (s : S) (ss : Ss)
end
abbrev Fn := Nat → List W → Store → Option (W × Store)
def andW {β : Type} (r : Option (W × Store)) (f : W → Store → Option β) : Option β := match r with
  | some (w, st) => f w st
  | none => none
def andD {β : Type} (r : Option (W × Store)) (f : D → Store → Option β) : Option β := match r with
  | some (.d x, st) => f x st
  | _ => none
def okD (d : Option D) (st : Store) : Option (W × Store) := match d with
  | some d => some (.d d, st)
  | none => none
def okB (b : Option Bool) (st : Store) : Option (W × Store) := match b with
  | some b => some (.d (.bool b), st)
  | none => none
def freeze (j : Nat) (st : Store) : Option (W × Store) := match st[j]? with
  | some (.lst _ ds) => some (.d (.list ds), st.set j (.lst true ds))
  | none => none
def rdVar (sl : Sl) (i : Nat) (st : Store) : Option (W × Store) := match sl[i]? with
  | some (some (.d x)) => some (.d x, st)
  | some (some (.m j)) => freeze j st
  | _ => none
def rdRaw (sl : Sl) (i : Nat) (st : Store) : Option (W × Store) := match sl[i]? with
  | some (some w) => some (w, st)
  | _ => none
/-- x[i], x perhaps a cell -/
def ixW (w : W) (y : D) (st : Store) : Option D := match w with
  | .d x => ixD x y
  | .m j => (match st[j]? with
    | some (.lst _ ds) => ixD (.list ds) y
    | none => none)
def bltW (b : B) (ws : List W) (st : Store) : Option D := match allD ws with
  | some ds => bltD b ds
  | none => (match b, ws with
    | .len, [.m j] => (match st[j]? with
      | some (.lst _ ds) => bltD .len [.list ds]
      | none => none)
    | _, _ => none)
@[simp] def mkTup (r : Option (List W × Store)) : Option (W × Store) := match r with
  | some (ws, st) => (match allD ws with
    | some ds => if ds.length ≤ sizeLine then some (.d (.tuple ds), st) else none
    | none => none)
  | none => none
@[simp] def mkLst (r : Option (List W × Store)) : Option (W × Store) := match r with
  | some (ws, st) => (match allD ws with
    | some ds => if ds.length ≤ sizeLine then some (.d (.list ds), st) else none
    | none => none)
  | none => none
@[simp] def revD : D → Option D
  | .tuple xs => some (.tuple xs.reverse)
  | .list xs => some (.list xs.reverse)
  | _ => none
@[simp] def wipeS (sl : Sl) : List Nat → Sl
  | [] => sl
  | v :: vs => (wipeS sl vs).set v none
mutual
@[simp] def stTg : Tg → GM
  | .v i, d, sl => some (sl.set i (some (.d d)))
  | .t ts, d, sl => (match d with
    | .tuple ds => stTgs ts ds sl
    | _ => none)
@[simp] def stTgs : Tgs → List D → Sl → Option Sl
  | .nil, [], sl => some sl
  | .cons t ts, d :: ds, sl => (match stTg t d sl with
    | some sl' => stTgs ts ds sl'
    | none => none)
  | _, _, _ => none
end
/-- a comprehension's turns -/
def compL (g : D → Option Sl) (c : EM) (elt : EM) : List D → Store → Option (List D × Store)
  | [], st => some ([], st)
  | d :: ds, st => (match g d with
    | none => none
    | some sl => andW (c sl st) fun w st1 => (match truW w with
      | none => none
      | some false => compL g c elt ds st1
      | some true => andD (elt sl st1) fun x st2 => (match compL g c elt ds st2 with
        | none => none
        | some (xs, st3) => some (x :: xs, st3))))
@[simp] def zipD : List D → List D → List D
  | x :: xs, y :: ys => .tuple [x, y] :: zipD xs ys
  | _, _ => []
@[simp] def enumD : Nat → List D → List D
  | _, [] => []
  | i, x :: xs => .tuple [.int (i : Int), x] :: enumD (i + 1) xs
def rngD (lo : Int) : Nat → List D
  | 0 => []
  | n + 1 => .int lo :: rngD (lo + 1) n
@[simp] def valI : D → Option (List D)
  | .list xs => some xs
  | .tuple xs => some xs
  | _ => none
def okL (l : Option (List D)) (st : Store) : Option (List D × Store) := match l with
  | some l => some (l, st)
  | none => none
@[simp] def zipI (x y : D) : Option (List D) := match x, y with
  | .list xs, .list ys => some (zipD xs ys)
  | .tuple xs, .tuple ys => some (zipD xs ys)
  | _, _ => none
@[simp] def enumI (x : D) : Option (List D) := match x with
  | .list xs => some (enumD 0 xs)
  | _ => none
@[simp] def rngI (x y : D) : Option (List D) := match x, y with
  | .int i, .int j => if -(2 ^ 62) ≤ i ∧ i < 2 ^ 62 ∧ -(2 ^ 62) ≤ j ∧ j < 2 ^ 62 then some (rngD i (j - i).toNat) else none
  | _, _ => none
@[simp] def okC (own : List Nat) (r : Option (List D × Store)) : Option (W × Store) := match r with
  | some (ds, st) => if ds.length ≤ sizeLine then some (.d (.list ds), st) else none
  | none => none
/-- len(set(xs)), xs ints -/
def setL (ns : List Int) : List Int := firstMet (fun i => ns.getD i 0) ns.length
def lsetD : D → Option D
  | .list xs => (match asInts xs with
    | some ns => if ns.length < 4000 then some (.int (setL ns).length) else none
    | none => none)
  | _ => none
@[simp] def asPart (r : D) : Option Int := match r with
  | .int i => some i
  | _ => none
mutual
@[simp] def runE (Φ : Fn) : E → Sl → Store → Option (W × Store)
  | .lit d, _, st => some (.d d, st)
  | .var i, sl, st => rdVar sl i st
  | .raw i, sl, st => rdRaw sl i st
  | .bin op a b, sl, st => andD (runE Φ a sl st) fun x st1 => andD (runE Φ b sl st1) fun y st2 => okD (binD op x y) st2
  | .neg a, sl, st => andD (runE Φ a sl st) fun x st1 => okD (negD x) st1
  | .not a, sl, st => andW (runE Φ a sl st) fun w st1 => okB ((truW w).map (! ·)) st1
  | .cmp op a b, sl, st => andD (runE Φ a sl st) fun x st1 => andD (runE Φ b sl st1) fun y st2 => okB (cmpD op x y) st2
  | .cmp2 o1 o2 a b c, sl, st => andD (runE Φ a sl st) fun x st1 => andD (runE Φ b sl st1) fun y st2 => (match cmpD o1 x y with
    | none => none
    | some false => some (.d (.bool false), st2)
    | some true => andD (runE Φ c sl st2) fun z st3 => okB (cmpD o2 y z) st3)
  | .cmp3 o1 o2 o3 a b c e, sl, st => andD (runE Φ a sl st) fun x st1 => andD (runE Φ b sl st1) fun y st2 => (match cmpD o1 x y with
    | none => none
    | some false => some (.d (.bool false), st2)
    | some true => andD (runE Φ c sl st2) fun z st3 => (match cmpD o2 y z with
      | none => none
      | some false => some (.d (.bool false), st3)
      | some true => andD (runE Φ e sl st3) fun u st4 => okB (cmpD o3 z u) st4))
  | .and a b, sl, st => andW (runE Φ a sl st) fun w st1 => (match truW w with
    | none => none
    | some false => some (w, st1)
    | some true => runE Φ b sl st1)
  | .or a b, sl, st => andW (runE Φ a sl st) fun w st1 => (match truW w with
    | none => none
    | some true => some (w, st1)
    | some false => runE Φ b sl st1)
  | .ite c a b, sl, st => andW (runE Φ c sl st) fun w st1 => (match truW w with
    | none => none
    | some true => runE Φ a sl st1
    | some false => runE Φ b sl st1)
  | .tup es, sl, st => mkTup (runEs Φ es sl st)
  | .lst es, sl, st => mkLst (runEs Φ es sl st)
  | .ix a b, sl, st => andW (runE Φ a sl st) fun w st1 => andD (runE Φ b sl st1) fun y st2 => okD (ixW w y st2) st2
  | .sl a lo hi, sl, st => andD (runE Φ a sl st) fun x st1 => (match runO Φ lo sl st1 with
    | none => none
    | some (l, st2) => (match runO Φ hi sl st2 with
      | none => none
      | some (h, st3) => okD (slD x l h) st3))
  | .rev a, sl, st => andD (runE Φ a sl st) fun x st1 => okD (revD x) st1
  | .call f es, sl, st => (match runEs Φ es sl st with
    | none => none
    | some (ws, st1) => Φ f ws st1)
  | .blt b es, sl, st => (match runEs Φ es sl st with
    | none => none
    | some (ws, st1) => okD (bltW b ws st1) st1)
  | .isi a t, sl, st => andD (runE Φ a sl st) fun x st1 => okB (isiD x t) st1
  | .lset a, sl, st => andD (runE Φ a sl st) fun x st1 => okD (lsetD x) st1
  | .comp tg it c own elt, sl, st => (match runI Φ it sl st with
    | none => none
    | some (ds, st1) => okC own (compL (fun d => stTg tg d (wipeS sl own)) (fun sl1 st2 => runC Φ c sl1 st2) (fun sl1 st2 => runE Φ elt sl1 st2) ds st1))
@[simp] def runEs (Φ : Fn) : Es → Sl → Store → Option (List W × Store)
  | .nil, _, st => some ([], st)
  | .cons e es, sl, st => andW (runE Φ e sl st) fun w st1 => (match runEs Φ es sl st1 with
    | none => none
    | some (ws, st2) => some (w :: ws, st2))
@[simp] def runO (Φ : Fn) : Oe → Sl → Store → Option (Option Int × Store)
  | .none, _, st => some (none, st)
  | .some e, sl, st => andD (runE Φ e sl st) fun x st1 => (match asPart x with
    | none => none
    | some i => some (some i, st1))
/-- a comprehension's test -/
@[simp] def runC (Φ : Fn) : Oe → Sl → Store → Option (W × Store)
  | .none, _, st => some (.d (.bool true), st)
  | .some e, sl, st => runE Φ e sl st
@[simp] def runI (Φ : Fn) : I → Sl → Store → Option (List D × Store)
  | .val e, sl, st => andD (runE Φ e sl st) fun x st1 => okL (valI x) st1
  | .rng1 a, sl, st => andD (runE Φ a sl st) fun x st1 => okL (rngI (.int 0) x) st1
  | .rng2 a b, sl, st => andD (runE Φ a sl st) fun x st1 => andD (runE Φ b sl st1) fun y st2 => okL (rngI x y) st2
  | .zip a b, sl, st => andD (runE Φ a sl st) fun x st1 => andD (runE Φ b sl st1) fun y st2 => okL (zipI x y) st2
  | .enum a, sl, st => andD (runE Φ a sl st) fun x st1 => okL (enumI x) st1
end
@[simp] def setAll : List Nat → List W → Sl → Option Sl
  | [], [], sl => some sl
  | i :: is, w :: ws, sl => setAll is ws (sl.set i (some w))
  | _, _, _ => none
@[simp] def okN (sl : Option Sl) (st : Store) : Option (Fl × Sl × Store) := match sl with
  | some sl => some (.nx, sl, st)
  | none => none
/-- a for loop's turns -/
def forL (g : D → Sl → Option Sl) (b : SM) : List D → SM
  | [], sl, st => some (.nx, sl, st)
  | d :: ds, sl, st => (match g d sl with
    | none => none
    | some sl1 => (match b sl1 st with
      | none => none
      | some (.nx, sl2, st2) => forL g b ds sl2 st2
      | some (.ct, sl2, st2) => forL g b ds sl2 st2
      | some (.bk, sl2, st2) => some (.nx, sl2, st2)
      | some (.ret w, sl2, st2) => some (.ret w, sl2, st2)))
/-- a while loop, at most n turns -/
def whlN (c : EM) (b : SM) : Nat → SM
  | 0, _, _ => none
  | n + 1, sl, st => andW (c sl st) fun w st1 => (match truW w with
    | none => none
    | some false => some (.nx, sl, st1)
    | some true => (match b sl st1 with
      | none => none
      | some (.nx, sl2, st2) => whlN c b n sl2 st2
      | some (.ct, sl2, st2) => whlN c b n sl2 st2
      | some (.bk, sl2, st2) => some (.nx, sl2, st2)
      | some (.ret w, sl2, st2) => some (.ret w, sl2, st2)))
/-- so many turns are tried first -/
def FUEL : Nat := 100000
open Classical in
/-- a while loop that ends -/
noncomputable def whlW (c : EM) (b : SM) : SM := fun sl st => match whlN c b FUEL sl st with
  | some r => some r
  | none => if h : ∃ n r, whlN c b n sl st = some r then some (h.choose_spec.choose) else none
/-- a list that is new, as a cell -/
@[simp] def newC (i : Nat) (sl : Sl) (r : Option (W × Store)) : Option (Fl × Sl × Store) := match r with
  | some (.d (.list ds), st) => some (.nx, sl.set i (some (.m st.length)), st ++ [.lst false ds])
  | _ => none
@[simp] def putC (i : Nat) (sl : Sl) (k x : D) (st : Store) : Option (Fl × Sl × Store) := match sl[i]? with
  | some (some (.m j)) => (match st[j]?, k with
    | some (.lst false ds), .int q => (match ixN ds.length q with
      | some n => some (.nx, sl, st.set j (.lst false (ds.set n x)))
      | none => none)
    | _, _ => none)
  | _ => none
@[simp] def appC (i : Nat) (sl : Sl) (x : D) (st : Store) : Option (Fl × Sl × Store) := match sl[i]? with
  | some (some (.m j)) => (match st[j]? with
    | some (.lst false ds) => if ds.length < sizeLine then some (.nx, sl, st.set j (.lst false (ds ++ [x]))) else none
    | _ => none)
  | _ => none
mutual
@[simp] noncomputable def runS (Φ : Fn) : S → Sl → Store → Option (Fl × Sl × Store)
  | .set i e, sl, st => andW (runE Φ e sl st) fun w st1 => some (.nx, sl.set i (some w), st1)
  | .setC i e, sl, st => newC i sl (runE Φ e sl st)
  | .unp ts e, sl, st => andD (runE Φ e sl st) fun x st1 => okN (stTg (.t ts) x sl) st1
  | .par is es, sl, st => (match runEs Φ es sl st with
    | none => none
    | some (ws, st1) => okN (setAll is.reverse ws.reverse sl) st1)
  | .put i k e, sl, st => andD (runE Φ e sl st) fun x st1 => andD (runE Φ k sl st1) fun q st2 => putC i sl q x st2
  | .app i e, sl, st => andD (runE Φ e sl st) fun x st1 => appC i sl x st1
  | .expr e, sl, st => andW (runE Φ e sl st) fun _ st1 => some (.nx, sl, st1)
  | .ite c a b, sl, st => andW (runE Φ c sl st) fun w st1 => (match truW w with
    | none => none
    | some true => runSs Φ a sl st1
    | some false => runSs Φ b sl st1)
  | .for tg it b, sl, st => (match runI Φ it sl st with
    | none => none
    | some (ds, st1) => forL (fun d sl => stTg tg d sl) (fun sl st => runSs Φ b sl st) ds sl st1)
  | .whl c b, sl, st => whlW (fun sl st => runE Φ c sl st) (fun sl st => runSs Φ b sl st) sl st
  | .ret e, sl, st => andW (runE Φ e sl st) fun w st1 => some (.ret w, sl, st1)
  | .retN, sl, st => some (.ret (.d .none), sl, st)
  | .nev, _, _ => none
  | .brk, sl, st => some (.bk, sl, st)
  | .ctn, sl, st => some (.ct, sl, st)
  | .pas, sl, st => some (.nx, sl, st)
@[simp] noncomputable def runSs (Φ : Fn) : Ss → Sl → Store → Option (Fl × Sl × Store)
  | .nil, sl, st => some (.nx, sl, st)
  | .cons s ss, sl, st => (match runS Φ s sl st with
    | none => none
    | some (.nx, sl1, st1) => runSs Φ ss sl1 st1
    | some r => some r)
end
/-- what a def hands back; n cells were there at its call -/
def fin (n : Nat) : Option (Fl × Sl × Store) → Option (W × Store)
  | some (.ret (.d x), _, st) => some (.d x, st.take n)
  | some (.ret (.m j), _, st) => if j < n then some (.m j, st.take n) else (match st[j]? with
    | some (.lst _ ds) => some (.d (.list ds), st.take n)
    | none => none)
  | some (.nx, _, st) => some (.d .none, st.take n)
  | _ => none
/-- a def: the parameters, all names, the body -/
structure Fd where
  ps : Nat
  n : Nat
  body : Ss
/-- the slots at a def's start -/
def slots (n : Nat) (ws : List W) : Sl := ws.map some ++ List.replicate (n - ws.length) none
noncomputable def runF (Φ : Fn) (f : Fd) (ws : List W) (st : Store) : Option (W × Store) :=
  if ws.length = f.ps then fin st.length (runSs Φ f.body (slots f.n ws) st) else none
/-- the defs of a table, called at most k deep -/
noncomputable def fns (T : List Fd) : Nat → Fn
  | 0 => fun _ _ _ => none
  | k + 1 => fun f ws st => (match T[f]? with
    | some fd => runF (fns T k) fd ws st
    | none => none)
end WM
namespace WM
open PySem PySem.Spec PyProof.Rows L2
/-- what a global name stands for -/
inductive GV where
  | fn (i n : Nat)
  | con (d : D)
  | bi (b : B)
  | ty (t : Ty)
  | isi
  | set
  | rng
  | zip
  | enum
structure CE where
  N : List Str
  sc : Scope
  own : List Str
  gl : List (Str × GV)
  cells : List Str
def visB (sc : Scope) (x : Str) : Bool := match sc.names.lookup x with
  | some .local => true
  | some .cell => true
  | some .free => true
  | _ => false
def glB (sc : Scope) (x : Str) : Bool := match sc.names.lookup x with
  | some .globalImplicit => true
  | _ => false
def slotOf (C : CE) (x : Str) : Option Nat := match C.N.findIdx? (fun y => decide (y = x)) with
  | some i => if visB C.sc x then some i else none
  | none => none
def stOf (C : CE) (x : Str) : Option Nat := match C.N.findIdx? (fun y => decide (y = x)) with
  | some i => if decide (x ∈ C.own) then some i else none
  | none => none
def globOf (C : CE) (x : Str) : Option GV := if glB C.sc x then C.gl.lookup x else none
def constD : Const → Option D
  | .int i => some (.int i)
  | .bool b => some (.bool b)
  | .none => some .none
  | .str s => some (.str s)
  | _ => none
def tyOf : GV → Option Ty
  | .bi .int => some .int
  | .bi .tuple => some .tuple
  | .bi .list => some .list
  | .ty t => some t
  | _ => none
def okBin : Operator → Bool
  | .Add | .Sub | .Mult | .FloorDiv | .Mod | .Pow | .LShift | .RShift | .BitAnd | .BitOr => true
  | _ => false
mutual
def tgSlots : Tg → List Nat
  | .v i => [i]
  | .t ts => tgsSlots ts
def tgsSlots : Tgs → List Nat
  | .nil => []
  | .cons t ts => tgSlots t ++ tgsSlots ts
end
def tgsLen : Tgs → Nat
  | .nil => 0
  | .cons _ ts => tgsLen ts + 1
mutual
def cmpT : Nat → CE → Expr → Option Tg
  | 0, _, _ => none
  | n + 1, C, e => (match e with
    | .Name x _ => (stOf C x).map .v
    | .Tuple es _ _ => (cmpTs n C es).map .t
    | _ => none)
def cmpTs : Nat → CE → List Expr → Option Tgs
  | 0, _, _ => none
  | n + 1, C, es => (match es with
    | [] => some .nil
    | e :: es => (match cmpT n C e, cmpTs n C es with
      | some t, some ts => some (.cons t ts)
      | _, _ => none))
end
/-- the comprehension's own names, by place -/
def ownOf (C : CE) (scope : Scope) : List (Str × Nat) := scope.names.filterMap fun y => match y.2 with
  | .local => (C.N.findIdx? (fun z => decide (z = y.1))).map fun i => (y.1, i)
  | .cell => (C.N.findIdx? (fun z => decide (z = y.1))).map fun i => (y.1, i)
  | _ => none
def blkE (C : CE) (scope : Scope) : CE := { C with sc := relS scope C.sc, own := scope.names.filterMap fun y => match y.2 with
  | .local => if scope.names.lookup y.1 = some .local then some y.1 else none
  | .cell => if scope.names.lookup y.1 = some .cell then some y.1 else none
  | _ => none }
def isNone1 : Expr → Bool
  | .UnaryOp .USub (.Constant (.int 1) _ _) _ => true
  | _ => false
/-- the xs of len(set(xs)) -/
def setArg (C : CE) (b : B) : List Expr → Option Expr
  | [.Call (.Name s _) [a] [] _] => (match globOf C s with
    | some .set => if b = .len ∧ s = ("set" : Str) then some a else none
    | _ => none)
  | _ => none
mutual
def cmpE : Nat → CE → Expr → Option E
  | 0, _, _ => none
  | n + 1, C, e => (match e with
    | .Constant c _ _ => (constD c).map .lit
    | .Name x _ => (match slotOf C x with
      | some i => some (.var i)
      | none => (match globOf C x with
        | some (.con d) => some (.lit d)
        | _ => none))
    | .BinOp a op b _ => (match cmpE n C a, cmpE n C b with
      | some a', some b' => if okBin op then some (.bin op a' b') else none
      | _, _ => none)
    | .UnaryOp .USub a _ => (cmpE n C a).map .neg
    | .UnaryOp .Not a _ => (cmpE n C a).map .not
    | .BoolOp op [a] _ => cmpE n C a
    | .BoolOp .And (a :: b :: r) pos => (match cmpE n C a, cmpE n C (.BoolOp .And (b :: r) pos) with
      | some a', some b' => some (.and a' b')
      | _, _ => none)
    | .BoolOp .Or (a :: b :: r) pos => (match cmpE n C a, cmpE n C (.BoolOp .Or (b :: r) pos) with
      | some a', some b' => some (.or a' b')
      | _, _ => none)
    | .Compare a [op] [b] _ => (match cmpE n C a, cmpE n C b with
      | some a', some b' => if behindInMarks op b then none else some (.cmp op a' b')
      | _, _ => none)
    | .Compare a [o1, o2] [b, c] _ => (match cmpE n C a, cmpE n C b, cmpE n C c with
      | some a', some b', some c' => if lastMarks [o1, o2] [b, c] then none else some (.cmp2 o1 o2 a' b' c')
      | _, _, _ => none)
    | .Compare a [o1, o2, o3] [b, c, d] _ => (match cmpE n C a, cmpE n C b, cmpE n C c, cmpE n C d with
      | some a', some b', some c', some d' => if lastMarks [o1, o2, o3] [b, c, d] then none else some (.cmp3 o1 o2 o3 a' b' c' d')
      | _, _, _, _ => none)
    | .IfExp c a b _ => (match cmpE n C c, cmpE n C a, cmpE n C b with
      | some c', some a', some b' => some (.ite c' a' b')
      | _, _, _ => none)
    | .Tuple es _ _ => (cmpEs n C es).map .tup
    | .List es _ => (cmpEs n C es).map .lst
    | .Subscript a (.Slice lo hi none _) _ => (match cmpE n C a, cmpO n C lo, cmpO n C hi with
      | some a', some l, some h => some (.sl a' l h)
      | _, _, _ => none)
    | .Subscript a (.Slice none none (some (.UnaryOp .USub (.Constant (.int 1) _ _) _)) _) _ => (cmpE n C a).map .rev
    | .Subscript a b _ => (match cmpR n C a, cmpE n C b with
      | some a', some b' => some (.ix a' b')
      | _, _ => none)
    | .Call (.Name x _) (a :: as) [] _ => (match globOf C x with
      | some (.fn i k) => (match cmpRs n C (a :: as) with
        | some es => if (a :: as).length = k then some (.call i es) else none
        | none => none)
      | some (.bi b) => (match setArg C b (a :: as) with
        | some a1 => if x = ("len" : Str) then (cmpE n C a1).map .lset else none
        | none => (match b with
          | .len => (cmpRs n C (a :: as)).map (.blt b)
          | _ => (cmpEs n C (a :: as)).map (.blt b)))
      | some .isi => (match as with
        | [.Name t _] => (match cmpE n C a, (globOf C t).bind tyOf with
          | some a', some t' => some (.isi a' t')
          | _, _ => none)
        | _ => none)
      | _ => none)
    | .ListComp elt [⟨tg, iter, ifs, 0⟩] scope _ => (match cmpI n C tg iter, cmpT n (blkE C scope) tg, cmpC n (blkE C scope) ifs, cmpE n (blkE C scope) elt with
      | some it, some t, some c, some e' => if blkC C.N C.sc scope (ownOf C scope) && decide (∀ i ∈ tgSlots t, i ∈ (ownOf C scope).map (·.2)) then some (.comp t it c ((ownOf C scope).map (·.2)) e') else none
      | _, _, _, _ => none)
    | _ => none)
/-- a cell as it is -/
def cmpR : Nat → CE → Expr → Option E
  | 0, _, _ => none
  | n + 1, C, e => (match e with
    | .Name x _ => (match slotOf C x with
      | some i => some (.raw i)
      | none => cmpE n C e)
    | _ => cmpE n C e)
def cmpEs : Nat → CE → List Expr → Option Es
  | 0, _, _ => none
  | n + 1, C, es => (match es with
    | [] => some .nil
    | e :: es => (match cmpE n C e, cmpEs n C es with
      | some a, some b => some (.cons a b)
      | _, _ => none))
def cmpRs : Nat → CE → List Expr → Option Es
  | 0, _, _ => none
  | n + 1, C, es => (match es with
    | [] => some .nil
    | e :: es => (match cmpR n C e, cmpRs n C es with
      | some a, some b => some (.cons a b)
      | _, _ => none))
def cmpO : Nat → CE → Option Expr → Option Oe
  | 0, _, _ => none
  | n + 1, C, e => (match e with
    | none => some .none
    | some e => (cmpE n C e).map .some)
def cmpC : Nat → CE → List Expr → Option Oe
  | 0, _, _ => none
  | n + 1, C, es => (match es with
    | [] => some .none
    | [e] => (cmpE n C e).map .some
    | _ => none)
def cmpI : Nat → CE → Expr → Expr → Option I
  | 0, _, _, _ => none
  | n + 1, C, tg, e => (match e with
    | .Call (.Name x _) [a] [] _ => (match globOf C x with
      | some .rng => (cmpE n C a).map .rng1
      | some .enum => (match tg with
        | .Tuple _ _ _ => (cmpE n C a).map .enum
        | _ => none)
      | _ => (cmpE n C e).map .val)
    | .Call (.Name x _) [a, b] [] _ => (match globOf C x with
      | some .rng => (match cmpE n C a, cmpE n C b with
        | some a', some b' => some (.rng2 a' b')
        | _, _ => none)
      | some .zip => (match tg, cmpE n C a, cmpE n C b with
        | .Tuple _ _ _, some a', some b' => some (.zip a' b')
        | _, _, _ => none)
      | _ => (cmpE n C e).map .val)
    | _ => (cmpE n C e).map .val)
end
/-- how the names of a row of targets are stored: from the right (some names), or by unpacking (none); none at all: not served -/
def swapB (C : CE) (ts vs : List Expr) : Option (Option (List Str)) :=
  if !(ts.length == 2 || ts.length == 3) || vs.length != ts.length then some none
  else if vs.any fun | .Starred .. => true | _ => false then none
  else
    let line := (ts.head?.map (·.pos.line)).getD 0
    let names := ts.filterMap fun
      | .Name id pos => if C.sc.names.lookup id == some .local && pos.line == line then some id else none
      | _ => none
    if names.length != ts.length || names.eraseDups.length != names.length then some none
    else if vs.all (foldedForSure 8) then some none
    else if vs.all (constantsAlone 8) then none
    else some (some names)
/-- x = [..] on one line, x a local: the comprehension lays the list into x itself -/
def swapsB (C : CE) (x : Str) (line vline : Nat) (scope : Scope) : Bool :=
  decide (C.sc.names.lookup x = some .local) && (line == vline) && !(scope.names.any fun (n, k) => n == x && (k == .local || k == .cell))
def isLC : Expr → Bool
  | .ListComp .. => true
  | .SetComp .. => true
  | .DictComp .. => true
  | _ => false
/-- a list that is new -/
def cmpN : Nat → CE → Expr → Option E
  | 0, _, _ => none
  | n + 1, C, e => (match e with
    | .List es _ => (cmpEs n C es).map .lst
    | .BinOp (.List es _) .Mult b _ => (match cmpEs n C es, cmpE n C b with
      | some es', some b' => some (.bin .Mult (.lst es') b')
      | _, _ => none)
    | .Call (.Name x _) [a] [] _ => (match globOf C x, cmpE n C a with
      | some (.bi .list), some a' => some (.blt .list (.cons a' .nil))
      | _, _ => none)
    | _ => none)
def stsOf (C : CE) : List Str → Option (List Nat)
  | [] => some []
  | x :: xs => (match stOf C x, stsOf C xs with
    | some i, some is => some (i :: is)
    | _, _ => none)
mutual
def cmpS : Nat → CE → Stmt → Option S
  | 0, _, _ => none
  | n + 1, C, s => (match s with
    | .Assign [.Name x _] e _ => if decide (x ∈ C.cells) then (match stOf C x, cmpN n C e with
        | some i, some e' => some (.setC i e')
        | _, _ => none)
      else (match stOf C x, cmpE n C e with
        | some i, some e' => some (.set i e')
        | _, _ => none)
    | .Assign [.Tuple ts _ _] e pos => (match e with
      | .Tuple vs _ _ => (match swapB C ts vs with
        | some (some xs) => (match stsOf C xs, cmpEs n C vs with
          | some is, some es => some (.par is es)
          | _, _ => none)
        | some none => (match cmpTs n C ts, cmpE n C e with
          | some tg, some e' => some (.unp tg e')
          | _, _ => none)
        | none => none)
      | _ => (match cmpTs n C ts, cmpE n C e with
        | some tg, some e' => if isLC e then none else some (.unp tg e')
        | _, _ => none))
    | .Assign [.Subscript (.Name x _) k _] e _ => (match slotOf C x, cmpE n C k, cmpE n C e with
      | some i, some k', some e' => if isLC e then none else some (.put i k' e')
      | _, _, _ => none)
    | .Expr (.Call (.Attribute (.Name x _) a apos) [e] [] cpos) _ => (match slotOf C x, cmpE n C e with
      | some i, some e' => if decide (a = "append") && (apos.endLine == cpos.line) then some (.app i e') else none
      | _, _ => none)
    | .Expr (.Call f as [] p) _ => (cmpE n C (.Call f as [] p)).map .expr
    | .If c a b _ => (match cmpE n C c, cmpSs n C a, cmpSs n C b with
      | some c', some a', some b' => some (.ite c' a' b')
      | _, _, _ => none)
    | .For tg it b [] _ => (match cmpI n C tg it, cmpT n C tg, cmpSs n C b with
      | some i, some t, some b' => some (.for t i b')
      | _, _, _ => none)
    | .While c b [] _ => (match cmpE n C c, cmpSs n C b with
      | some c', some b' => some (.whl c' b')
      | _, _ => none)
    | .Return (some e) _ => (cmpE n C e).map .ret
    | .Return none _ => some .retN
    | .Raise _ _ _ => some .nev
    | .Pass _ => some .pas
    | .Break _ => some .brk
    | .Continue _ => some .ctn
    | _ => none)
def cmpSs : Nat → CE → List Stmt → Option Ss
  | 0, _, _ => none
  | n + 1, C, ss => (match ss with
    | [] => some .nil
    | s :: ss => (match cmpS n C s, cmpSs n C ss with
      | some a, some b => some (.cons a b)
      | _, _ => none))
end
end WM
namespace WM
open PySem PySem.Spec PyProof.Rows L2
theorem andW_some {β : Type} {r : Option (W × Store)} {f : W → Store → Option β} {z : β} (h : andW r f = some z) : ∃ w st, r = some (w, st) ∧ f w st = some z := by
  unfold andW at h
  split at h
  · exact ⟨_, _, rfl, h⟩
  · cases h
theorem andD_some {β : Type} {r : Option (W × Store)} {f : D → Store → Option β} {z : β} (h : andD r f = some z) : ∃ x st, r = some (.d x, st) ∧ f x st = some z := by
  unfold andD at h
  split at h
  · exact ⟨_, _, rfl, h⟩
  · cases h
theorem okD_some {d : Option D} {st : Store} {z : W × Store} (h : okD d st = some z) : ∃ x, d = some x ∧ z = (.d x, st) := by
  unfold okD at h
  split at h
  · cases h; exact ⟨_, rfl, rfl⟩
  · cases h
theorem okB_some {d : Option Bool} {st : Store} {z : W × Store} (h : okB d st = some z) : ∃ x, d = some x ∧ z = (.d (.bool x), st) := by
  unfold okB at h
  split at h
  · cases h; exact ⟨_, rfl, rfl⟩
  · cases h
theorem okL_some {d : Option (List D)} {st : Store} {z : List D × Store} (h : okL d st = some z) : ∃ x, d = some x ∧ z = (x, st) := by
  unfold okL at h
  split at h
  · cases h; exact ⟨_, rfl, rfl⟩
  · cases h
/-- a def's promise: it hands back what g says -/
def spD (K : PySem.W.Frag) (g : List W → Store → Option (W × Store)) (n : Nat) : Sp := fun vs H Q _ => vs.length = n ∧ ∃ P ca G st ws w st', HM K P ca G H st ∧ RWs K ca G vs ws ∧ g ws st = some (w, st') ∧
  ∀ v G' H', Same G G' → HM K P ca G' H' st' → RW K ca G' v w → Q v H'
def GOk (Φ : Fn) (k : Nat) (X : Cx) (x : Str) : GV → Prop
  | .fn i n => ∃ f fd ps, X.mg x = some (.ref f) ∧ PySem.W.keepIn X.K (.ref f) = true ∧ Binds X.K fd ps [] ∧ ps.length = n ∧ FnOk X.prog X.w X.K X.mg X.base CX0 k f fd ps (spD X.K (Φ i) n)
  | .con d => ∃ v u, X.mg x = some u ∧ RelV v u ∧ ∀ G, Rp X.K G v d
  | .bi b => (b ≠ .gcd ∧ X.mg x = none ∧ bootBuiltins x = some b.val) ∨ (b = .gcd ∧ X.mg x = some b.val)
  | .ty t => X.mg x = none ∧ bootBuiltins x = some (.type t.nm)
  | .isi => X.mg x = none ∧ bootBuiltins x = some (.builtin "isinstance")
  | .set => X.mg x = none
  | .rng => X.mg x = none ∧ x = "range"
  | .zip => X.mg x = none ∧ x = "zip"
  | .enum => X.mg x = none ∧ x = "enumerate"
structure XOk (Φ : Fn) (k : Nat) (X : Cx) (C : CE) : Prop where
  hN : X.N = C.N
  hsc : X.env.scope = C.sc
  kd : C.sc.kind = .function
  nd : C.N.Nodup
  calm : X.calm = true
  dbg : ∀ x ∈ C.N, (x == ("__debug__" : Str)) = false ∧ (x == ("__classdict__" : Str)) = false
  own : ∀ x ∈ C.own, Loc C.sc x ∧ (X.fn x = true ∨ C.sc.names.lookup x = some .local)
  gdbg : ∀ x g, C.gl.lookup x = some g → (x == ("__debug__" : Str)) = false ∧ x ≠ ("__name__" : Str)
  gl : ∀ x g, C.gl.lookup x = some g → GOk Φ k X x g
  room : Room k X.A
  xe : X.xe = fun _ _ => False
section
variable {Φ : Fn} {k : Nat} {X : Cx} {C : CE}
theorem XOk.pass (x : XOk Φ k X C) : PassesOwn (model X.prog X.w) X.A X.env X.xe := by
  rw [x.xe]
  exact PassesOwn.never
theorem XOk.u65 (x : XOk Φ k X C) : X.A.units + 65 < cLine := by
  have := x.room.un
  omega
theorem XOk.u64 (x : XOk Φ k X C) : X.A.units + 64 < cLine := x.room.units
theorem findIdx_ok {N : List Str} {x : Str} {i : Nat} (h : N.findIdx? (fun y => decide (y = x)) = some i) : N[i]? = some x := by
  obtain ⟨h1, h2, h3⟩ := List.findIdx?_eq_some_iff_getElem.mp h
  have e : N[i] = x := of_decide_eq_true h2
  rw [List.getElem?_eq_getElem h1, e]
theorem slotOf_ok (x : XOk Φ k X C) {y : Str} {i : Nat} (h : slotOf C y = some i) : X.N[i]? = some y ∧ Vis X.env.scope y ∧ (y == ("__debug__" : Str)) = false ∧ (y == ("__classdict__" : Str)) = false := by
  unfold slotOf at h
  split at h
  · rename_i j hj
    split at h
    · rename_i hv
      cases h
      have e := findIdx_ok hj
      have d := x.dbg y (List.mem_of_getElem? e)
      refine ⟨by rw [x.hN]; exact e, ?_, d.1, d.2⟩
      rw [x.hsc]
      unfold visB at hv
      unfold Vis
      split at hv <;> simp_all
    · cases h
  · cases h
theorem stOf_ok (x : XOk Φ k X C) {y : Str} {i : Nat} (h : stOf C y = some i) : X.N[i]? = some y ∧ Loc X.env.scope y ∧ (X.fn y = true ∨ X.env.scope.names.lookup y = some .local) := by
  unfold stOf at h
  split at h
  · rename_i j hj
    split at h
    · rename_i hv
      cases h
      have e := findIdx_ok hj
      have d := x.own y (of_decide_eq_true hv)
      refine ⟨by rw [x.hN]; exact e, ?_, ?_⟩
      · rw [x.hsc]; exact d.1
      · rw [x.hsc]; exact d.2
    · cases h
  · cases h
theorem globOf_ok (x : XOk Φ k X C) {y : Str} {g : GV} (h : globOf C y = some g) : Gl X y ∧ GOk Φ k X y g ∧ (y == ("__debug__" : Str)) = false ∧ y ≠ ("__name__" : Str) := by
  unfold globOf at h
  split at h
  · rename_i hg
    refine ⟨?_, x.gl y g h, x.gdbg y g h⟩
    show X.env.scope.names.lookup y = some .globalImplicit
    rw [x.hsc]
    unfold glB at hg
    split at hg
    · assumption
    · cases hg
  · cases h
variable {e a b c d : Expr} {fa fb fc fd : EM} {pos : Pos}
theorem se_lit {t : D} {v : V} (h : PE X e (tC v)) (r : ∀ G, Rp X.K G v t) : PE X e (tE X.K fun _ st => some (.d t, st)) :=
  h.weak fun σ H Q ⟨P, ca, G, sl, st, w, st', hm, hs, e, q⟩ => by
    cases e
    exact q v ca G H Nxt.refl hm (r G)
theorem freeze_ok {K : PySem.W.Frag} {ca : List Addr} {G H : Hp} {st st' : Store} {j : Nat} {w : W} {a : Addr} (hm : HM K P ca G H st) (ha : ca[j]? = some a) (h : freeze j st = some (w, st')) :
    ∃ G', Nxt ca G ca G' ∧ HM K P ca G' H st' ∧ RW K ca G' (.ref a) w := by
  unfold freeze at h
  split at h
  · rename_i fz ds hj
    cases h
    obtain ⟨xs, h1, h2, hz, h3⟩ := hm.cell j a _ ha hj
    cases fz with
    | true =>
      have h3 : G a = some (.lst xs) := h3
      have es : st.set j (.lst true ds) = st := by
        refine List.ext_getElem? fun i => ?_
        by_cases hi : j = i
        · subst hi
          rw [List.getElem?_set_self (List.getElem?_eq_some_iff.mp hj).1, hj]
        · rw [List.getElem?_set_ne hi]
      rw [es]
      exact ⟨G, Nxt.refl, hm, .lst h3 h2⟩
    | false =>
      have h3 : G a = none := h3
      refine ⟨upd G a (.lst xs), Nxt.of (same_upd h3), ⟨fun b o e => ?_, by rw [List.length_set]; exact hm.len, hm.nd, fun i b c e1 e2 => ?_, hm.prot, hm.pdis, fun b u q => by
        rw [upd_ne (fun z => by subst z; rw [hm.pdis b (List.mem_of_getElem? ha)] at q; cases q)]
        exact hm.pg b u q⟩, .lst upd_same (Rps.mono (same_upd h3) h2)⟩
      · by_cases hb : b = a
        · subst hb
          rw [upd_same] at e
          rw [← e]
          exact h1
        · rw [upd_ne hb] at e
          exact hm.sub _ _ e
      · by_cases hi : j = i
        · subst hi
          rw [ha] at e1
          cases e1
          rw [List.getElem?_set_self (List.getElem?_eq_some_iff.mp hj).1] at e2
          cases e2
          exact ⟨xs, h1, Rps.mono (same_upd h3) h2, hz, upd_same⟩
        · rw [List.getElem?_set_ne hi] at e2
          have hne : b ≠ a := fun z => by
            subst z
            obtain ⟨l1, e1'⟩ := List.getElem?_eq_some_iff.mp e1
            obtain ⟨l2, e2'⟩ := List.getElem?_eq_some_iff.mp ha
            exact hi ((List.getElem_inj hm.nd).mp (e2'.trans e1'.symm))
          cases c with
          | lst fz' ds' =>
            obtain ⟨ys, g1, g2, gz, g3⟩ := hm.cell i b _ e1 e2
            refine ⟨ys, g1, Rps.mono (same_upd h3) g2, gz, ?_⟩
            cases fz' with
            | true =>
              show upd G a (.lst xs) b = _
              rw [upd_ne hne]
              exact g3
            | false =>
              show upd G a (.lst xs) b = _
              rw [upd_ne hne]
              exact g3
  · cases h
theorem se_var {i : Nat} (h : PE X e (tVar i)) : PE X e (tE X.K fun sl st => rdVar sl i st) :=
  h.weak fun σ H Q ⟨P, ca, G, sl, st, w, st', hm, hs, e, q⟩ => by
    replace e : rdVar sl i st = _ := e
    unfold rdVar at e
    split at e
    · rename_i x hx
      cases e
      obtain ⟨v, e1, r⟩ := hs.at_ i _ hx
      exact ⟨v, e1, q v ca G H Nxt.refl hm r⟩
    · rename_i j hx
      obtain ⟨v, e1, a, ha, ev⟩ := hs.at_ i _ hx
      subst ev
      obtain ⟨G', n, hm', r⟩ := freeze_ok hm ha e
      exact ⟨_, e1, q _ ca G' H n hm' r⟩
    · cases e
theorem se_raw {i : Nat} (h : PE X e (tVar i)) : PE X e (tE X.K fun sl st => rdRaw sl i st) :=
  h.weak fun σ H Q ⟨P, ca, G, sl, st, w, st', hm, hs, e, q⟩ => by
    replace e : rdRaw sl i st = _ := e
    unfold rdRaw at e
    split at e
    · rename_i x hx
      cases e
      obtain ⟨v, e1, r⟩ := hs.at_ i _ hx
      exact ⟨v, e1, q v ca G H Nxt.refl hm r⟩
    · cases e
/-- two values, then an operation on data -/
theorem te_two {K : PySem.W.Frag} {g : D → D → Store → Option (W × Store)} {r : R2} (hr : ∀ P ca G H st x y dx dy w st' Q, HM K P ca G H st → Rp K G x dx → Rp K G y dy → g dx dy st = some (w, st') →
      (∀ v ca' G' H', Nxt ca G ca' G' → HM K P ca' G' H' st' → RW K ca' G' v w → Q v H') → r x y H Q) {σ : L2.St} {H : Hp} {Q : VK}
    (h : tE K (fun sl st => andD (fa sl st) fun x st1 => andD (fb sl st1) fun y st2 => g x y st2) σ H Q) : tOp r (tE K fa) (tE K fb) σ H Q := by
  obtain ⟨P, ca, G, sl, st, w, st', hm, hs, e, q⟩ := h
  obtain ⟨x, st1, e1, e⟩ := andD_some e
  obtain ⟨y, st2, e2, e⟩ := andD_some e
  refine ⟨P, ca, G, sl, st, _, _, hm, hs, e1, fun v1 ca1 G1 H1 n1 hm1 r1 => ?_⟩
  refine ⟨P, ca1, G1, sl, st1, _, _, hm1, hs.mono n1, e2, fun v2 ca2 G2 H2 n2 hm2 r2 => ?_⟩
  exact hr P ca2 G2 H2 st2 v1 v2 x y w st' Q hm2 (Rp.mono n2.s r1) r2 e fun v ca' G' H' n3 hm3 r3 => q v ca' G' H' ((n1.trans n2).trans n3) hm3 r3
theorem se_bin {op : Operator} (ha : PE X a (tE X.K fa)) (hb : PE X b (tE X.K fb)) : PE X (.BinOp a op b pos) (tE X.K fun sl st => andD (fa sl st) fun x st1 => andD (fb sl st1) fun y st2 => okD (binD op x y) st2) :=
  (pe_op (op_binD op) ha hb).weak fun σ H Q h => te_two (fun P ca G H st x y dx dy w st' Q hm rx ry e q => by
    obtain ⟨d, e1, e2⟩ := okD_some e
    cases e2
    exact ⟨G, dx, dy, d, hm.sub, rx, ry, e1, fun v G' H' ex r => q v ca G' H' (Nxt.of ex.g) (hm.ext ex) r⟩) h
theorem se_cmp {op : CmpOp} (x : XOk Φ k X C) (ha : PE X a (tE X.K fa)) (hb : PE X b (tE X.K fb)) (hk : behindInMarks op b = false) : PE X (.Compare a [op] [b] pos) (tE X.K fun sl st => andD (fa sl st) fun x st1 => andD (fb sl st1) fun y st2 => okB (cmpD op x y) st2) :=
  (pe_cmpR (op_cmpD x.u65 op) ha hb hk).weak fun σ H Q h => te_two (fun P ca G H st x y dx dy w st' Q hm rx ry e q => by
    obtain ⟨d, e1, e2⟩ := okB_some e
    cases e2
    exact ⟨G, dx, dy, d, hm.sub, rx, ry, e1, q _ ca G H Nxt.refl hm (.bl _)⟩) h
/-- a test from a value -/
theorem tt_of {K : PySem.W.Frag} {f : EM} {t : TT} {σ : L2.St} {H : Hp} {Q : Bool → Hp → Prop} (h : tT K f σ H Q)
    (w : ∀ P ca G sl st w st' b, HM K P ca G H st → SlOk K ca G σ sl → f sl st = some (w, st') → truW w = some b → (∀ ca' G' H', Nxt ca G ca' G' → HM K P ca' G' H' st' → Q b H') → t σ H Q) : t σ H Q := by
  obtain ⟨P, ca, G, sl, st, w', st', b, hm, hs, e, et, q⟩ := h
  exact w P ca G sl st w' st' b hm hs e et q
theorem st_cmp {op : CmpOp} (x : XOk Φ k X C) (ha : PE X a (tE X.K fa)) (hb : PE X b (tE X.K fb)) (hk : behindInMarks op b = false) : PT X (.Compare a [op] [b] pos) (tT X.K fun sl st => andD (fa sl st) fun x st1 => andD (fb sl st1) fun y st2 => okB (cmpD op x y) st2) :=
  (pt_cmpR (op_cmpD x.u65 op) ha hb hk).weak fun σ H Q h => by
    obtain ⟨P, ca, G, sl, st, w', st', t, hm, hs, e, et, q⟩ := h
    refine te_two (r := rC X.K (cmpD op)) (fun P ca G H st x y dx dy w st' Q hm rx ry e q => ?_) ⟨P, ca, G, sl, st, w', st', hm, hs, e, fun v ca' G' H' n hm' r => ?_⟩
    · obtain ⟨d, e1, e2⟩ := okB_some e
      cases e2
      exact ⟨G, dx, dy, d, hm.sub, rx, ry, e1, q _ ca G H Nxt.refl hm (.bl _)⟩
    · obtain ⟨x1, st1, e1, e⟩ := andD_some e
      obtain ⟨y1, st2, e2, e⟩ := andD_some e
      obtain ⟨d, e3, e4⟩ := okB_some e
      cases e4
      cases et
      cases r
      exact ⟨_, rfl, q ca' G' H' n hm'⟩
theorem TruV_of {K : PySem.W.Frag} {G H : Hp} {v : V} {d : D} {t : Bool} (s : Same G H) (r : Rp K G v d) (e : truD d = some t) : TruV K v H t := by
  cases r with
  | non => cases e; rfl
  | bl b => cases e; rfl
  | int i => cases e; rfl
  | str x =>
    unfold truD at e
    simp only at e
    split at e
    · rename_i hz
      cases e
      exact ⟨hz, rfl⟩
    · cases e
  | @lst a xs ds h al =>
    cases e
    refine .inl ⟨xs, SqL.of (s _ _ h), ?_⟩
    cases al <;> rfl
  | @tup a xs ds h al =>
    cases e
    refine .inr (.inl ⟨xs, SqT.mono s h, ?_⟩)
    cases al <;> rfl
theorem TruV_w {K : PySem.W.Frag} {ca : List Addr} {G H : Hp} {v : V} {w : W} {t : Bool} (s : Same G H) (r : RW K ca G v w) (e : truW w = some t) : TruV K v H t := by
  cases w with
  | d x => exact TruV_of s r e
  | m i => cases e
/-- any value as a test -/
theorem st_val (h : PE X e (tE X.K fa)) (he : ∀ whole, isTrue e X.env whole = (do let v ← whole; standAt e.pos; holding [v] (truthy v))) : PT X e (tT X.K fa) :=
  (pt_truth h he).weak fun σ H Q ⟨P, ca, G, sl, st, w', st', t, hm, hs, e, et, q⟩ =>
    ⟨P, ca, G, sl, st, w', st', hm, hs, e, fun v ca' G' H' n hm' r => ⟨t, TruV_w hm'.sub r et, q ca' G' H' n hm'⟩⟩
theorem se_neg (ha : PE X a (tE X.K fa)) : PE X (.UnaryOp .USub a pos) (tE X.K fun sl st => andD (fa sl st) fun x st1 => okD (negD x) st1) :=
  (pe_un un_negD ha).weak fun σ H Q ⟨P, ca, G, sl, st, w, st', hm, hs, e, q⟩ => by
    obtain ⟨x, st1, e1, e⟩ := andD_some e
    obtain ⟨d, e2, e3⟩ := okD_some e
    cases e3
    exact ⟨P, ca, G, sl, st, _, _, hm, hs, e1, fun v1 ca1 G1 H1 n1 hm1 r1 => ⟨G1, x, d, hm1.sub, r1, e2, fun v G' H' ex r => q v ca1 G' H' (n1.trans (Nxt.of ex.g)) (hm1.ext ex) r⟩⟩
theorem se_not (ha : PE X a (tE X.K fa)) : PE X (.UnaryOp .Not a pos) (tE X.K fun sl st => andW (fa sl st) fun w st1 => okB ((truW w).map (! ·)) st1) :=
  (pe_notT ha).weak fun σ H Q ⟨P, ca, G, sl, st, w, st', hm, hs, e, q⟩ => by
    obtain ⟨x, st1, e1, e⟩ := andW_some e
    obtain ⟨d, e2, e3⟩ := okB_some e
    cases e3
    cases et : truW x with
    | none => rw [et] at e2; cases e2
    | some t =>
      rw [et] at e2
      cases e2
      exact ⟨P, ca, G, sl, st, _, _, hm, hs, e1, fun v1 ca1 G1 H1 n1 hm1 r1 => ⟨t, TruV_w hm1.sub r1 et, q _ ca1 G1 H1 n1 hm1 (.bl _)⟩⟩
theorem st_not (ha : PT X a (tT X.K fa)) : PT X (.UnaryOp .Not a pos) (tT X.K fun sl st => andW (fa sl st) fun w st1 => okB ((truW w).map (! ·)) st1) :=
  (pt_not ha).weak fun σ H Q ⟨P, ca, G, sl, st, w, st', t, hm, hs, e, et, q⟩ => by
    obtain ⟨x, st1, e1, e⟩ := andW_some e
    obtain ⟨d, e2, e3⟩ := okB_some e
    cases e3
    cases et
    cases ex : truW x with
    | none => rw [ex] at e2; cases e2
    | some t =>
      rw [ex] at e2
      cases e2
      exact ⟨P, ca, G, sl, st, _, _, t, hm, hs, e1, ex, fun ca1 G1 H1 n1 hm1 => q ca1 G1 H1 n1 hm1⟩
def andM (fa fb : EM) : EM := fun sl st => andW (fa sl st) fun w st1 => (match truW w with
    | none => none
    | some false => some (w, st1)
    | some true => fb sl st1)
def orM (fa fb : EM) : EM := fun sl st => andW (fa sl st) fun w st1 => (match truW w with
    | none => none
    | some true => some (w, st1)
    | some false => fb sl st1)
def iteM (fc fa fb : EM) : EM := fun sl st => andW (fc sl st) fun w st1 => (match truW w with
    | none => none
    | some true => fa sl st1
    | some false => fb sl st1)
theorem se_and {r : List Expr} (ha : PE X a (tE X.K fa)) (hb : PE X (.BoolOp .And (b :: r) pos) (tE X.K fb)) : PE X (.BoolOp .And (a :: b :: r) pos) (tE X.K (andM fa fb)) :=
  (pe_andT ha hb).weak fun σ H Q ⟨P, ca, G, sl, st, w, st', hm, hs, e, q⟩ => by
    obtain ⟨x, st1, e1, e⟩ := andW_some e
    refine ⟨P, ca, G, sl, st, _, _, hm, hs, e1, fun v1 ca1 G1 H1 n1 hm1 r1 => ?_⟩
    split at e
    · cases e
    · rename_i et
      cases e
      exact ⟨false, TruV_w hm1.sub r1 et, iteF (q _ ca1 G1 H1 n1 hm1 r1)⟩
    · rename_i et
      exact ⟨true, TruV_w hm1.sub r1 et, iteT (⟨P, ca1, G1, sl, st1, _, _, hm1, hs.mono n1, e, fun v2 ca2 G2 H2 n2 hm2 r2 => q _ _ _ _ (n1.trans n2) hm2 r2⟩)⟩
theorem se_or {r : List Expr} (ha : PE X a (tE X.K fa)) (hb : PE X (.BoolOp .Or (b :: r) pos) (tE X.K fb)) : PE X (.BoolOp .Or (a :: b :: r) pos) (tE X.K (orM fa fb)) :=
  (pe_orT ha hb).weak fun σ H Q ⟨P, ca, G, sl, st, w, st', hm, hs, e, q⟩ => by
    obtain ⟨x, st1, e1, e⟩ := andW_some e
    refine ⟨P, ca, G, sl, st, _, _, hm, hs, e1, fun v1 ca1 G1 H1 n1 hm1 r1 => ?_⟩
    split at e
    · cases e
    · rename_i et
      cases e
      exact ⟨true, TruV_w hm1.sub r1 et, iteT (q _ ca1 G1 H1 n1 hm1 r1)⟩
    · rename_i et
      exact ⟨false, TruV_w hm1.sub r1 et, iteF (⟨P, ca1, G1, sl, st1, _, _, hm1, hs.mono n1, e, fun v2 ca2 G2 H2 n2 hm2 r2 => q _ _ _ _ (n1.trans n2) hm2 r2⟩)⟩
theorem st_and {r : List Expr} (ha : PT X a (tT X.K fa)) (hb : PW X (.BoolOp .And (b :: r) pos) (tT X.K fb)) : PW X (.BoolOp .And (a :: b :: r) pos) (tT X.K (andM fa fb)) :=
  (pw_and ha hb).weak fun σ H Q ⟨P, ca, G, sl, st, w, st', t, hm, hs, e, et, q⟩ => by
    obtain ⟨x, st1, e1, e⟩ := andW_some e
    split at e
    · cases e
    · rename_i ex
      cases e
      rw [ex] at et
      cases et
      exact ⟨P, ca, G, sl, st, _, _, _, hm, hs, e1, ex, fun ca1 G1 H1 n1 hm1 => iteF (q ca1 G1 H1 n1 hm1)⟩
    · rename_i ex
      exact ⟨P, ca, G, sl, st, _, _, _, hm, hs, e1, ex, fun ca1 G1 H1 n1 hm1 => iteT (⟨P, ca1, G1, sl, st1, _, _, _, hm1, hs.mono n1, e, et, fun ca2 G2 H2 n2 hm2 => q _ _ _ (n1.trans n2) hm2⟩)⟩
theorem st_or {r : List Expr} (ha : PT X a (tT X.K fa)) (hb : PW X (.BoolOp .Or (b :: r) pos) (tT X.K fb)) : PW X (.BoolOp .Or (a :: b :: r) pos) (tT X.K (orM fa fb)) :=
  (pw_or ha hb).weak fun σ H Q ⟨P, ca, G, sl, st, w, st', t, hm, hs, e, et, q⟩ => by
    obtain ⟨x, st1, e1, e⟩ := andW_some e
    split at e
    · cases e
    · rename_i ex
      cases e
      rw [ex] at et
      cases et
      exact ⟨P, ca, G, sl, st, _, _, _, hm, hs, e1, ex, fun ca1 G1 H1 n1 hm1 => iteT (q ca1 G1 H1 n1 hm1)⟩
    · rename_i ex
      exact ⟨P, ca, G, sl, st, _, _, _, hm, hs, e1, ex, fun ca1 G1 H1 n1 hm1 => iteF (⟨P, ca1, G1, sl, st1, _, _, _, hm1, hs.mono n1, e, et, fun ca2 G2 H2 n2 hm2 => q _ _ _ (n1.trans n2) hm2⟩)⟩
theorem st_and1 (ha : PT X a (tT X.K fa)) : PW X (.BoolOp .And [a] pos) (tT X.K fa) := pw_and1 ha
theorem st_or1 (ha : PT X a (tT X.K fa)) : PW X (.BoolOp .Or [a] pos) (tT X.K fa) := pw_or1 ha
theorem se_ite (hc : PT X c (tT X.K fc)) (ha : PE X a (tE X.K fa)) (hb : PE X b (tE X.K fb)) : PE X (.IfExp c a b pos) (tE X.K (iteM fc fa fb)) :=
  (pe_ifExp hc ha hb).weak fun σ H Q ⟨P, ca, G, sl, st, w, st', hm, hs, e, q⟩ => by
    obtain ⟨x, st1, e1, e⟩ := andW_some e
    split at e
    · cases e
    · rename_i ex
      exact ⟨P, ca, G, sl, st, _, _, _, hm, hs, e1, ex, fun ca1 G1 H1 n1 hm1 => iteT (⟨P, ca1, G1, sl, st1, _, _, hm1, hs.mono n1, e, fun v2 ca2 G2 H2 n2 hm2 r2 => q _ _ _ _ (n1.trans n2) hm2 r2⟩)⟩
    · rename_i ex
      exact ⟨P, ca, G, sl, st, _, _, _, hm, hs, e1, ex, fun ca1 G1 H1 n1 hm1 => iteF (⟨P, ca1, G1, sl, st1, _, _, hm1, hs.mono n1, e, fun v2 ca2 G2 H2 n2 hm2 r2 => q _ _ _ _ (n1.trans n2) hm2 r2⟩)⟩
def tIfT (t ta tb : TT) : TT := fun σ H Q => t σ H fun c H1 => if c = true then ta σ H1 Q else tb σ H1 Q
theorem pt_ifExp {tc ta tb : TT} (hc : PT X c tc) (ha : PT X a ta) (hb : PT X b tb) : PT X (.IfExp c a b pos) (tIfT tc ta tb) := by
  refine ⟨fun pins s σ H Q I h => ?_⟩
  show wpAny _ _ (do if ← isTrue c X.env (eval c X.env) then isTrue a X.env (eval a X.env) else isTrue b X.env (eval b X.env)) _ _ s
  refine wpAny_bind (thn (hc.run pins s σ H _ I h) fun d s1 ⟨H1, I1, q1⟩ => ?_)
  cases d with
  | true => exact ha.run pins s1 σ H1 Q I1 q1
  | false => exact hb.run pins s1 σ H1 Q I1 q1
theorem st_ite (hc : PT X c (tT X.K fc)) (ha : PT X a (tT X.K fa)) (hb : PT X b (tT X.K fb)) : PT X (.IfExp c a b pos) (tT X.K (iteM fc fa fb)) :=
  (pt_ifExp hc ha hb).weak fun σ H Q ⟨P, ca, G, sl, st, w, st', t, hm, hs, e, et, q⟩ => by
    obtain ⟨x, st1, e1, e⟩ := andW_some e
    split at e
    · cases e
    · rename_i ex
      exact ⟨P, ca, G, sl, st, _, _, _, hm, hs, e1, ex, fun ca1 G1 H1 n1 hm1 => iteT (⟨P, ca1, G1, sl, st1, _, _, _, hm1, hs.mono n1, e, et, fun ca2 G2 H2 n2 hm2 => q _ _ _ (n1.trans n2) hm2⟩)⟩
    · rename_i ex
      exact ⟨P, ca, G, sl, st, _, _, _, hm, hs, e1, ex, fun ca1 G1 H1 n1 hm1 => iteF (⟨P, ca1, G1, sl, st1, _, _, _, hm1, hs.mono n1, e, et, fun ca2 G2 H2 n2 hm2 => q _ _ _ (n1.trans n2) hm2⟩)⟩
end
end WM
namespace WM
open PySem PySem.Spec PyProof.Rows L2
section
variable {Φ : Fn} {k : Nat} {X : Cx} {C : CE}
variable {e a b c d : Expr} {fa fb fc fd : EM} {pos : Pos}
def tChain3 (r r' r'' : R2) (ta tb tc td : TE) : TE := fun σ H Q => ta σ H fun x H1 => tb σ H1 fun y H2 => r x y H2 fun z H3 => ∃ k, z = .bl k ∧
  (if k = true then tc σ H3 fun w' H4 => r' y w' H4 fun z2 H5 => ∃ k2, z2 = .bl k2 ∧ (if k2 = true then td σ H5 fun u H6 => r'' w' u H6 Q else Q (.bl false) H5) else Q (.bl false) H3)
theorem pe_chain3 {op op' op'' : CmpOp} {r r' r'' : R2} {ta tb tc td : TE} (ho : OpR X (compareOp op) r) (ho' : OpR X (compareOp op') r') (ho'' : OpR X (compareOp op'') r'') (ha : PE X a ta) (hb : PE X b tb) (hc : PE X c tc) (hd : PE X d td)
    (hm : lastMarks [op, op', op''] [b, c, d] = false) : PE X (.Compare a [op, op', op''] [b, c, d] pos) (tChain3 r r' r'' ta tb tc td) := by
  refine ⟨fun pins s σ H Q I h => ?_⟩
  refine Compare_chain (thn (ha.run pins s σ H _ I h) fun v s1 ⟨x, H1, I1, r1, q1⟩ => chain_link (thn (hb.run pins s1 σ H1 _ I1 q1) fun u s2 ⟨y, H2, I2, r2, q2⟩ =>
    thn (ho pins s2 σ H2 x y v u _ I2 r1 r2 q2) fun d s3 ⟨z, H3, I3, r3, k, e, q3⟩ => ?_)) hm
  subst e
  cases r3
  refine wpAny_truthy_bool ?_
  cases k with
  | false => exact ite_ff ⟨.bl false, H3, I3, rfl, q3⟩
  | true =>
    refine ite_tt (chain_link (thn (hc.run pins s3 σ H3 _ I3 q3) fun w' s4 ⟨z', H4, I4, r4, q4⟩ => thn (ho' pins s4 σ H4 y z' u w' _ I4 r2 r4 q4) fun d2 s5 ⟨z2, H5, I5, r5, k2, e2, q5⟩ => ?_))
    subst e2
    cases r5
    refine wpAny_truthy_bool ?_
    cases k2 with
    | false => exact ite_ff ⟨.bl false, H5, I5, rfl, q5⟩
    | true => exact ite_tt (chain_last (thn (hd.run pins s5 σ H5 _ I5 q5) fun w2 s6 ⟨z3, H6, I6, r6, q6⟩ => ho'' pins s6 σ H6 z' z3 w' w2 Q I6 r4 r6 q6))
theorem pt_chain3 {op op' op'' : CmpOp} {r r' r'' : R2} {ta tb tc td : TE} (ho : OpR X (compareOp op) r) (ho' : OpR X (compareOp op') r') (ho'' : OpR X (compareOp op'') r'') (ha : PE X a ta) (hb : PE X b tb) (hc : PE X c tc) (hd : PE X d td)
    (hm : lastMarks [op, op', op''] [b, c, d] = false) : PT X (.Compare a [op, op', op''] [b, c, d] pos) (tTest (tChain3 r r' r'' ta tb tc td)) := by
  refine ⟨fun pins s σ H Q I h => ?_⟩
  refine isTrue_chain (thn (ha.run pins s σ H _ I h) fun v s1 ⟨x, H1, I1, r1, q1⟩ => test_link (thn (hb.run pins s1 σ H1 _ I1 q1) fun u s2 ⟨y, H2, I2, r2, q2⟩ =>
    thn (ho pins s2 σ H2 x y v u _ I2 r1 r2 q2) fun d s3 ⟨z, H3, I3, r3, k, e, q3⟩ => ?_)) hm
  subst e
  cases r3
  refine wpAny_truthy_bool ?_
  cases k with
  | false =>
    obtain ⟨k', e', q'⟩ := q3
    cases e'
    exact ite_ff ⟨H3, I3, q'⟩
  | true =>
    refine ite_tt (test_link (thn (hc.run pins s3 σ H3 _ I3 q3) fun w' s4 ⟨z', H4, I4, r4, q4⟩ => thn (ho' pins s4 σ H4 y z' u w' _ I4 r2 r4 q4) fun d2 s5 ⟨z2, H5, I5, r5, k2, e2, q5⟩ => ?_))
    subst e2
    cases r5
    refine wpAny_truthy_bool ?_
    cases k2 with
    | false =>
      obtain ⟨k', e', q'⟩ := q5
      cases e'
      exact ite_ff ⟨H5, I5, q'⟩
    | true =>
      refine ite_tt (test_last (thn (hd.run pins s5 σ H5 _ I5 q5) fun w2 s6 ⟨z3, H6, I6, r6, q6⟩ => thn (ho'' pins s6 σ H6 z' z3 w' w2 _ I6 r4 r6 q6) fun d3 s7 ⟨z4, H7, I7, r7, k3, e3, q7⟩ => ?_))
      subst e3
      cases r7
      exact wpAny_truthy_bool ⟨H7, I7, q7⟩
def cmp2M (o1 o2 : CmpOp) (fa fb fc : EM) : EM := fun sl st => andD (fa sl st) fun x st1 => andD (fb sl st1) fun y st2 => (match cmpD o1 x y with
    | none => none
    | some false => some (.d (.bool false), st2)
    | some true => andD (fc sl st2) fun z st3 => okB (cmpD o2 y z) st3)
def cmp3M (o1 o2 o3 : CmpOp) (fa fb fc fd : EM) : EM := fun sl st => andD (fa sl st) fun x st1 => andD (fb sl st1) fun y st2 => (match cmpD o1 x y with
    | none => none
    | some false => some (.d (.bool false), st2)
    | some true => andD (fc sl st2) fun z st3 => (match cmpD o2 y z with
      | none => none
      | some false => some (.d (.bool false), st3)
      | some true => andD (fd sl st3) fun u st4 => okB (cmpD o3 z u) st4))
theorem tc_two {o1 o2 : CmpOp} {σ : L2.St} {H : Hp} {Q : VK} (h : tE X.K (cmp2M o1 o2 fa fb fc) σ H Q) : tChain (rC X.K (cmpD o1)) (rC X.K (cmpD o2)) (tE X.K fa) (tE X.K fb) (tE X.K fc) σ H Q := by
  obtain ⟨P, ca, G, sl, st, w, st', hm, hs, e, q⟩ := h
  obtain ⟨x, st1, e1, e⟩ := andD_some e
  obtain ⟨y, st2, e2, e⟩ := andD_some e
  refine ⟨P, ca, G, sl, st, _, _, hm, hs, e1, fun v1 ca1 G1 H1 n1 hm1 r1 => ?_⟩
  refine ⟨P, ca1, G1, sl, st1, _, _, hm1, hs.mono n1, e2, fun v2 ca2 G2 H2 n2 hm2 r2 => ?_⟩
  have n12 := n1.trans n2
  split at e
  · cases e
  · rename_i e3
    cases e
    exact ⟨G2, x, y, false, hm2.sub, Rp.mono n2.s r1, r2, e3, false, rfl, iteF (q _ _ _ _ n12 hm2 (.bl _))⟩
  · rename_i e3
    obtain ⟨z, st3, e4, e⟩ := andD_some e
    obtain ⟨t, e5, e6⟩ := okB_some e
    cases e6
    refine ⟨G2, x, y, true, hm2.sub, Rp.mono n2.s r1, r2, e3, true, rfl, iteT ?_⟩
    exact ⟨P, ca2, G2, sl, st2, _, _, hm2, hs.mono n12, e4, fun v3 ca3 G3 H3 n3 hm3 r3 => ⟨G3, y, z, t, hm3.sub, Rp.mono n3.s r2, r3, e5, q _ _ _ _ (n12.trans n3) hm3 (.bl _)⟩⟩
theorem tc_three {o1 o2 o3 : CmpOp} {σ : L2.St} {H : Hp} {Q : VK} (h : tE X.K (cmp3M o1 o2 o3 fa fb fc fd) σ H Q) : tChain3 (rC X.K (cmpD o1)) (rC X.K (cmpD o2)) (rC X.K (cmpD o3)) (tE X.K fa) (tE X.K fb) (tE X.K fc) (tE X.K fd) σ H Q := by
  obtain ⟨P, ca, G, sl, st, w, st', hm, hs, e, q⟩ := h
  obtain ⟨x, st1, e1, e⟩ := andD_some e
  obtain ⟨y, st2, e2, e⟩ := andD_some e
  refine ⟨P, ca, G, sl, st, _, _, hm, hs, e1, fun v1 ca1 G1 H1 n1 hm1 r1 => ?_⟩
  refine ⟨P, ca1, G1, sl, st1, _, _, hm1, hs.mono n1, e2, fun v2 ca2 G2 H2 n2 hm2 r2 => ?_⟩
  have n12 := n1.trans n2
  split at e
  · cases e
  · rename_i e3
    cases e
    exact ⟨G2, x, y, false, hm2.sub, Rp.mono n2.s r1, r2, e3, false, rfl, iteF (q _ _ _ _ n12 hm2 (.bl _))⟩
  · rename_i e3
    obtain ⟨z, st3, e4, e⟩ := andD_some e
    refine ⟨G2, x, y, true, hm2.sub, Rp.mono n2.s r1, r2, e3, true, rfl, iteT ?_⟩
    refine ⟨P, ca2, G2, sl, st2, _, _, hm2, hs.mono n12, e4, fun v3 ca3 G3 H3 n3 hm3 r3 => ?_⟩
    have n13 := n12.trans n3
    split at e
    · cases e
    · rename_i e5
      cases e
      exact ⟨G3, y, z, false, hm3.sub, Rp.mono n3.s r2, r3, e5, false, rfl, iteF (q _ _ _ _ n13 hm3 (.bl _))⟩
    · rename_i e5
      obtain ⟨u, st4, e6, e⟩ := andD_some e
      obtain ⟨t, e7, e8⟩ := okB_some e
      cases e8
      refine ⟨G3, y, z, true, hm3.sub, Rp.mono n3.s r2, r3, e5, true, rfl, iteT ?_⟩
      exact ⟨P, ca3, G3, sl, st3, _, _, hm3, hs.mono n13, e6, fun v4 ca4 G4 H4 n4 hm4 r4 => ⟨G4, z, u, t, hm4.sub, Rp.mono n4.s r3, r4, e7, q _ _ _ _ (n13.trans n4) hm4 (.bl _)⟩⟩
/-- a test whose value is a bool -/
theorem te_bl {K : PySem.W.Frag} {f : EM} {σ : L2.St} {H : Hp} {Q : Bool → Hp → Prop} (hb : ∀ sl st w st', f sl st = some (w, st') → ∃ t, w = .d (.bool t)) (h : tT K f σ H Q) : tE K f σ H fun x H' => ∃ k, x = .bl k ∧ Q k H' := by
  obtain ⟨P, ca, G, sl, st, w, st', t, hm, hs, e, et, q⟩ := h
  obtain ⟨t', rfl⟩ := hb _ _ _ _ e
  cases et
  exact ⟨P, ca, G, sl, st, _, st', hm, hs, e, fun v ca' G' H' n hm' r => ⟨_, Rp.bool_inv r, q ca' G' H' n hm'⟩⟩
theorem cmp2_bool {o1 o2 : CmpOp} {sl : Sl} {st : Store} {w : W} {st' : Store} (e : cmp2M o1 o2 fa fb fc sl st = some (w, st')) : ∃ t, w = .d (.bool t) := by
  obtain ⟨x, st1, e1, e⟩ := andD_some e
  obtain ⟨y, st2, e2, e⟩ := andD_some e
  split at e
  · cases e
  · cases e; exact ⟨_, rfl⟩
  · obtain ⟨z, st3, e4, e⟩ := andD_some e
    obtain ⟨t, e5, e6⟩ := okB_some e
    cases e6; exact ⟨_, rfl⟩
theorem cmp3_bool {o1 o2 o3 : CmpOp} {sl : Sl} {st : Store} {w : W} {st' : Store} (e : cmp3M o1 o2 o3 fa fb fc fd sl st = some (w, st')) : ∃ t, w = .d (.bool t) := by
  obtain ⟨x, st1, e1, e⟩ := andD_some e
  obtain ⟨y, st2, e2, e⟩ := andD_some e
  split at e
  · cases e
  · cases e; exact ⟨_, rfl⟩
  · obtain ⟨z, st3, e4, e⟩ := andD_some e
    split at e
    · cases e
    · cases e; exact ⟨_, rfl⟩
    · obtain ⟨u, st4, e6, e⟩ := andD_some e
      obtain ⟨t, e7, e8⟩ := okB_some e
      cases e8; exact ⟨_, rfl⟩
theorem se_cmp2 {o1 o2 : CmpOp} (x : XOk Φ k X C) (ha : PE X a (tE X.K fa)) (hb : PE X b (tE X.K fb)) (hc : PE X c (tE X.K fc)) (hk : lastMarks [o1, o2] [b, c] = false) : PE X (.Compare a [o1, o2] [b, c] pos) (tE X.K (cmp2M o1 o2 fa fb fc)) :=
  (pe_chain (op_cmpD x.u65 o1) (op_cmpD x.u65 o2) ha hb hc hk).weak fun σ H Q h => tc_two h
theorem st_cmp2 {o1 o2 : CmpOp} (x : XOk Φ k X C) (ha : PE X a (tE X.K fa)) (hb : PE X b (tE X.K fb)) (hc : PE X c (tE X.K fc)) (hk : lastMarks [o1, o2] [b, c] = false) : PT X (.Compare a [o1, o2] [b, c] pos) (tT X.K (cmp2M o1 o2 fa fb fc)) :=
  (pt_chain (op_cmpD x.u65 o1) (op_cmpD x.u65 o2) ha hb hc hk).weak fun σ H Q h => tc_two (te_bl (fun _ _ _ _ => cmp2_bool) h)
theorem se_cmp3 {o1 o2 o3 : CmpOp} (x : XOk Φ k X C) (ha : PE X a (tE X.K fa)) (hb : PE X b (tE X.K fb)) (hc : PE X c (tE X.K fc)) (hd : PE X d (tE X.K fd)) (hk : lastMarks [o1, o2, o3] [b, c, d] = false) : PE X (.Compare a [o1, o2, o3] [b, c, d] pos) (tE X.K (cmp3M o1 o2 o3 fa fb fc fd)) :=
  (pe_chain3 (op_cmpD x.u65 o1) (op_cmpD x.u65 o2) (op_cmpD x.u65 o3) ha hb hc hd hk).weak fun σ H Q h => tc_three h
theorem st_cmp3 {o1 o2 o3 : CmpOp} (x : XOk Φ k X C) (ha : PE X a (tE X.K fa)) (hb : PE X b (tE X.K fb)) (hc : PE X c (tE X.K fc)) (hd : PE X d (tE X.K fd)) (hk : lastMarks [o1, o2, o3] [b, c, d] = false) : PT X (.Compare a [o1, o2, o3] [b, c, d] pos) (tT X.K (cmp3M o1 o2 o3 fa fb fc fd)) :=
  (pt_chain3 (op_cmpD x.u65 o1) (op_cmpD x.u65 o2) (op_cmpD x.u65 o3) ha hb hc hd hk).weak fun σ H Q h => tc_three (te_bl (fun _ _ _ _ => cmp3_bool) h)
variable {es : List Expr} {fs : AM}
theorem sa_nil : PA X [] (tA X.K fun _ st => some ([], st)) :=
  pa_nil.weak fun σ H Q ⟨P, ca, G, sl, st, w, st', hm, hs, e, q⟩ => by
    cases e
    exact q [] ca G H Nxt.refl hm .nil
def consM (fa : EM) (fs : AM) : AM := fun sl st => andW (fa sl st) fun w st1 => (match fs sl st1 with
    | none => none
    | some (ws, st2) => some (w :: ws, st2))
theorem sa_cons (ha : PE X a (tE X.K fa)) (hr : PA X es (tA X.K fs)) (hs : starEach (a :: es) X.env = (false, eval a X.env) :: starEach es X.env) : PA X (a :: es) (tA X.K (consM fa fs)) :=
  (pa_cons ha hr hs).weak fun σ H Q ⟨P, ca, G, sl, st, w, st', hm, hs, e, q⟩ => by
    obtain ⟨x, st1, e1, e⟩ := andW_some e
    split at e
    · cases e
    · rename_i ws st2 e2
      cases e
      exact ⟨P, ca, G, sl, st, _, _, hm, hs, e1, fun v1 ca1 G1 H1 n1 hm1 r1 => ⟨P, ca1, G1, sl, st1, _, _, hm1, hs.mono n1, e2, fun vs ca2 G2 H2 n2 hm2 r2 => q _ _ _ _ (n1.trans n2) hm2 (.cons (RW.mono n2 r1) r2)⟩⟩
theorem se_tup {x1 : Nat} (h : PA X es (tA X.K fs)) : PE X (.Tuple es x1 pos) (tE X.K fun sl st => mkTup (fs sl st)) :=
  (pe_tup h).weak fun σ H Q ⟨P, ca, G, sl, st, w, st', hm, hs, e, q⟩ => by
    replace e : mkTup (fs sl st) = some (w, st') := e
    unfold mkTup at e
    split at e
    · rename_i ws st1 e1
      split at e
      · rename_i ds ed
        split at e
        · rename_i hz
          cases e
          refine ⟨P, ca, G, sl, st, _, _, hm, hs, e1, fun vs ca1 G1 H1 n1 hm1 r1 => ?_⟩
          have rd := r1.dps ed
          exact ⟨by rw [rd.length]; exact hz, fun p n => q _ _ _ _ (n1.trans (Nxt.of (Ext.new hm1.sub n).g)) (hm1.ext (Ext.new hm1.sub n)) (Rp.tnew (hm1.sub.free n) rd)⟩
        · cases e
      · cases e
    · cases e
/-- a new list -/
def tN (K : PySem.W.Frag) (f : EM) : TE := fun σ H Q => ∃ P ca G sl st w st', HM K P ca G H st ∧ SlOk K ca G σ sl ∧ f sl st = some (w, st') ∧
  ∀ p xs ds ca' G' H', Nxt ca G ca' G' → w = .d (.list ds) → HM K P ca' G' H' st' → H' p = some (.lst xs) → G' p = none → p ∉ ca' → P p = none → Rps K G' xs ds → xs.length ≤ sizeLine → Q (.ref p) H'
theorem HM.fresh {K : PySem.W.Frag} {ca : List Addr} {G H : Hp} {st : Store} {p : Addr} (hm : HM K P ca G H st) (n : H p = none) : p ∉ ca := fun hp => by
  obtain ⟨i, hi, e⟩ := List.mem_iff_getElem.mp hp
  have hl : i < st.length := by rw [← hm.len]; exact hi
  have := hm.cell i p st[i] (by rw [List.getElem?_eq_getElem hi, e]) (List.getElem?_eq_getElem hl)
  cases hc : st[i] with
  | lst fz ds =>
    rw [hc] at this
    obtain ⟨xs, h1, _⟩ := this
    rw [n] at h1
    cases h1
/-- .. read as data -/
theorem HM.froze {K : PySem.W.Frag} {ca : List Addr} {G H : Hp} {st : Store} {p : Addr} {xs : List V} (hm : HM K P ca G H st) (h : H p = some (.lst xs)) (n : G p = none) (hp : p ∉ ca) (pP : P p = none) : Same G (upd G p (.lst xs)) ∧ HM K P ca (upd G p (.lst xs)) H st := by
  refine ⟨same_upd n, ⟨fun b o e => ?_, hm.len, hm.nd, fun i b c e1 e2 => ?_, hm.prot, hm.pdis, fun b u q => by
    rw [upd_ne (fun z => by subst z; rw [pP] at q; cases q)]
    exact hm.pg b u q⟩⟩
  · by_cases hb : b = p
    · subst hb
      rw [upd_same] at e
      rw [← e]
      exact h
    · rw [upd_ne hb] at e
      exact hm.sub _ _ e
  · have hne : b ≠ p := fun z => by
      subst z
      exact hp (List.mem_of_getElem? e1)
    cases c with
    | lst fz ds =>
      obtain ⟨ys, g1, g2, gz, g3⟩ := hm.cell i b _ e1 e2
      refine ⟨ys, g1, Rps.mono (same_upd n) g2, gz, ?_⟩
      cases fz with
      | true =>
        show upd G p (.lst xs) b = _
        rw [upd_ne hne]
        exact g3
      | false =>
        show upd G p (.lst xs) b = _
        rw [upd_ne hne]
        exact g3
theorem tN_of {K : PySem.W.Frag} {f : EM} (hf : ∀ sl st w st', f sl st = some (w, st') → ∃ ds, w = .d (.list ds)) {σ : L2.St} {H : Hp} {Q : VK} (h : tE K f σ H Q) : tN K f σ H Q := by
  obtain ⟨P, ca, G, sl, st, w, st', hm, hs, e, q⟩ := h
  refine ⟨P, ca, G, sl, st, w, st', hm, hs, e, fun p xs ds ca' G' H' n ew hm' h1 h2 h3 h4 r hz => ?_⟩
  subst ew
  obtain ⟨g1, g2⟩ := hm'.froze h1 h2 h3 h4
  exact q _ ca' _ H' (n.trans (Nxt.of g1)) g2 (.lst upd_same (Rps.mono g1 r))
theorem mkLst_list {r : Option (List W × Store)} {w : W} {st' : Store} (e : mkLst r = some (w, st')) : ∃ ds, w = .d (.list ds) := by
  unfold mkLst at e
  split at e
  · split at e
    · split at e
      · cases e; exact ⟨_, rfl⟩
      · cases e
    · cases e
  · cases e
theorem sn_lst (h : PA X es (tA X.K fs)) : PE X (.List es pos) (tN X.K fun sl st => mkLst (fs sl st)) :=
  (pe_lst h).weak fun σ H Q ⟨P, ca, G, sl, st, w, st', hm, hs, e, q⟩ => by
    replace e : mkLst (fs sl st) = some (w, st') := e
    unfold mkLst at e
    split at e
    · rename_i ws st1 e1
      split at e
      · rename_i ds ed
        split at e
        · rename_i hz
          cases e
          refine ⟨P, ca, G, sl, st, _, _, hm, hs, e1, fun vs ca1 G1 H1 n1 hm1 r1 => ?_⟩
          have rd := r1.dps ed
          refine ⟨by rw [rd.length]; exact hz, fun p n => ?_⟩
          have ex := Ext.junk (o := .lst vs) hm1.sub n
          exact q p vs ds ca1 G1 _ n1 rfl (hm1.ext ex) upd_same (hm1.sub.free n) (hm1.fresh n) (hm1.prot.free n) rd (by rw [rd.length]; exact hz)
        · cases e
      · cases e
    · cases e
theorem se_lst (h : PA X es (tA X.K fs)) : PE X (.List es pos) (tE X.K fun sl st => mkLst (fs sl st)) :=
  (sn_lst h).weak fun σ H Q h => tN_of (fun _ _ _ _ e => mkLst_list e) h
theorem cell_read {K : PySem.W.Frag} {ca : List Addr} {G H : Hp} {st : Store} {j : Nat} {a : Addr} {fz : Bool} {ds : List D} (hm : HM K P ca G H st) (ha : ca[j]? = some a) (hj : st[j]? = some (.lst fz ds)) : ∃ xs, H a = some (.lst xs) ∧ Rps K G xs ds ∧ xs.length ≤ sizeLine := by
  obtain ⟨xs, h1, h2, hz, _⟩ := hm.cell j a _ ha hj
  exact ⟨xs, h1, h2, hz⟩
def rIxW (K : PySem.W.Frag) : R2 := fun x y H Q => rD2 K ixD x y H Q ∨ ∃ p xs i v, x = .ref p ∧ y = .int i ∧ SqL K H p xs ∧ L2.atI xs i = some v ∧ Q v H
theorem ix_W : IxR X (rIxW X.K) := ix_D.or ix_list
theorem se_ix (ha : PE X a (tE X.K fa)) (hb : PE X b (tE X.K fb)) (hp : PlainIx b) : PE X (.Subscript a b pos) (tE X.K fun sl st => andW (fa sl st) fun w st1 => andD (fb sl st1) fun y st2 => okD (ixW w y st2) st2) :=
  (pe_ix ix_W ha hb hp).weak fun σ H Q ⟨P, ca, G, sl, st, w, st', hm, hs, e, q⟩ => by
    obtain ⟨x, st1, e1, e⟩ := andW_some e
    obtain ⟨y, st2, e2, e⟩ := andD_some e
    obtain ⟨d, e3, e4⟩ := okD_some e
    cases e4
    refine ⟨P, ca, G, sl, st, _, _, hm, hs, e1, fun v1 ca1 G1 H1 n1 hm1 r1 => ⟨P, ca1, G1, sl, st1, _, _, hm1, hs.mono n1, e2, fun v2 ca2 G2 H2 n2 hm2 r2 => ?_⟩⟩
    cases x with
    | d x => exact .inl ⟨G2, x, y, d, hm2.sub, Rp.mono n2.s r1, r2, e3, fun v G' H' ex r => q v ca2 G' H' ((n1.trans n2).trans (Nxt.of ex.g)) (hm2.ext ex) r⟩
    | m j =>
      obtain ⟨p, hp, ev⟩ := RW.mono (w := .m j) n2 r1
      subst ev
      unfold ixW at e3
      simp only at e3
      split at e3
      · rename_i fz ds hj
        obtain ⟨xs, h1, h2, _⟩ := cell_read hm2 hp hj
        unfold ixD at e3
        cases y with
        | int i =>
          obtain ⟨z, e5, r5⟩ := Rps.atI h2 e3
          exact .inr ⟨p, xs, i, z, rfl, Rp.int_inv r2, SqL.of h1, e5, q _ _ _ _ (n1.trans n2) hm2 r5⟩
        | _ => cases e3
      · cases e3
/-- a part of a slice -/
def tO (K : PySem.W.Frag) (f : Sl → Store → Option (Option Int × Store)) : TO := fun σ H Q => ∃ P ca G sl st o st', HM K P ca G H st ∧ SlOk K ca G σ sl ∧ f sl st = some (o, st') ∧
  ∀ ca' G' H', Nxt ca G ca' G' → HM K P ca' G' H' st' → Q o H'
variable {lo hi : Option Expr} {fl fh : Sl → Store → Option (Option Int × Store)}
theorem so_none : PO X none (tO X.K fun _ st => some (none, st)) :=
  ⟨fun pins s σ H Q I ⟨P, ca, G, sl, st, o, st', hm, hs, e, q⟩ => po_none.run pins s σ H Q I (by cases e; exact q ca G H Nxt.refl hm)⟩
def someM (fa : EM) : Sl → Store → Option (Option Int × Store) := fun sl st => andD (fa sl st) fun x st1 => (match asPart x with
    | none => none
    | some i => some (some i, st1))
theorem so_some (ha : PE X a (tE X.K fa)) : PO X (some a) (tO X.K (someM fa)) :=
  ⟨fun pins s σ H Q I ⟨P, ca, G, sl, st, o, st', hm, hs, e, q⟩ => (po_some ha).run pins s σ H Q I (by
    obtain ⟨x, st1, e1, e⟩ := andD_some e
    split at e
    · cases e
    · rename_i i ei
      cases e
      cases x with
      | int j =>
        cases ei
        exact ⟨P, ca, G, sl, st, _, _, hm, hs, e1, fun v1 ca1 G1 H1 n1 hm1 r1 => ⟨_, Rp.int_inv r1, q _ _ _ n1 hm1⟩⟩
      | _ => cases ei)⟩
theorem se_sl {p2 : Pos} (ha : PE X a (tE X.K fa)) (hl : PO X lo (tO X.K fl)) (hh : PO X hi (tO X.K fh)) : PE X (.Subscript a (.Slice lo hi none p2) pos) (tE X.K fun sl st => andD (fa sl st) fun x st1 => (match fl sl st1 with
    | none => none
    | some (l, st2) => (match fh sl st2 with
      | none => none
      | some (h, st3) => okD (slD x l h) st3))) :=
  (pe_slice sl_D ha hl hh).weak fun σ H Q ⟨P, ca, G, sl, st, w, st', hm, hs, e, q⟩ => by
    obtain ⟨x, st1, e1, e⟩ := andD_some e
    split at e
    · cases e
    · rename_i l st2 e2
      split at e
      · cases e
      · rename_i h st3 e3
        obtain ⟨d, e4, e5⟩ := okD_some e
        cases e5
        refine ⟨P, ca, G, sl, st, _, _, hm, hs, e1, fun v1 ca1 G1 H1 n1 hm1 r1 => ⟨P, ca1, G1, sl, st1, _, _, hm1, hs.mono n1, e2, fun ca2 G2 H2 n2 hm2 => ⟨P, ca2, G2, sl, st2, _, _, hm2, hs.mono (n1.trans n2), e3, fun ca3 G3 H3 n3 hm3 => ?_⟩⟩⟩
        exact ⟨G3, x, d, hm3.sub, Rp.mono (n2.trans n3).s r1, e4, fun v G' H' ex r => q v ca3 G' H' (((n1.trans n2).trans n3).trans (Nxt.of ex.g)) (hm3.ext ex) r⟩
end
end WM
namespace WM
open PySem PySem.Spec PyProof.Rows L2
theorem adjust_rev (n : Nat) : Builtin.Slice.sliceAdjust none none (-1) (n : Int) = ((n : Int) - 1, -1) := by
  unfold Builtin.Slice.sliceAdjust
  simp
theorem places_rev (n : Nat) : Builtin.Slice.slicePlaces ((n : Int) - 1) (-1) (-1) = n := by
  unfold Builtin.Slice.slicePlaces
  simp
  omega
section
variable {prog : Program} {w : World} {A : Around} {E : Value → Shared → Prop} {s : Shared}
theorem sliceApplied_rev {sl : Addr} {n : Nat} {vs : Value} {Q : Int × Int × Nat → Shared → Prop} (hs : s.heap.IsSliceOf sl .none .none vs) (ps : IsPart vs (some (-1)))
    (h : Q ((n : Int) - 1, -1, n) s) : wpAny (model prog w) A (Builtin.Slice.sliceApplied (.ref sl) (pure (n : Int))) Q E s := by
  obtain ⟨os, hos, hcs, hds⟩ := id hs
  unfold Builtin.Slice.sliceApplied Builtin.Slice.sliceFields
  refine wpAny_bind (wpAny_bind (wpAny_field hos hds (x := .none) rfl (wpAny_bind (wpAny_field hos hds (x := .none) rfl (wpAny_bind (wpAny_field hos hds (x := vs) rfl (wpAny_pure ?_)))))))
  refine wpAny_bind (HT.slicePart_ ps ?_)
  show wpAny _ _ (if ((-1 : Int) == 0) = true then _ else _) _ _ s
  rw [if_neg (by decide)]
  refine wpAny_bind (HT.slicePart_ .none (wpAny_bind (HT.slicePart_ .none (wpAny_bind (wpAny_pure ?_)))))
  show wpAny _ _ (match Builtin.Slice.sliceAdjust none none (-1) (n : Int) with | (lo, hi) => pure (lo, (-1 : Int), Builtin.Slice.slicePlaces lo hi (-1))) _ _ s
  rw [adjust_rev n]
  show wpAny _ _ (pure ((n : Int) - 1, (-1 : Int), Builtin.Slice.slicePlaces ((n : Int) - 1) (-1) (-1))) _ _ s
  rw [places_rev]
  exact wpAny_pure h
theorem pick_rev (xs : Array Value) : ((List.range xs.size).filterMap fun (m : Nat) => xs[(((xs.size : Int) - 1) + (m : Int) * (-1)).toNat]?).toArray = xs.toList.reverse.toArray := by
  have e : ∀ l : List Nat, (∀ m ∈ l, m < xs.size) → l.filterMap (fun (m : Nat) => xs[(((xs.size : Int) - 1) + (m : Int) * (-1)).toNat]?) = l.filterMap (fun (m : Nat) => xs.toList.reverse.toArray[m]?) := by
    intro l
    induction l with
    | nil => intro _; rfl
    | cons m l ih =>
      intro h
      have hm := h m (List.mem_cons_self ..)
      have e1 : (((xs.size : Int) - 1) + (m : Int) * (-1)).toNat = xs.size - 1 - m := by omega
      have e2 : xs[(((xs.size : Int) - 1) + (m : Int) * (-1)).toNat]? = xs.toList.reverse.toArray[m]? := by
        have e3 : xs.toList.reverse.toArray[m]? = xs.toList.reverse[m]? := List.getElem?_toArray
        have e4 : xs.toList.reverse[m]? = xs.toList[xs.toList.length - 1 - m]? := List.getElem?_reverse hm
        rw [e1, e3, e4, Array.length_toList, Array.getElem?_toList]
      rw [List.filterMap_cons, List.filterMap_cons, e2, ih fun m hm => h m (List.mem_cons_of_mem _ hm)]
  rw [e _ fun m hm => List.mem_range.mp hm]
  have := PySem.W.krv_all xs.toList.reverse.toArray
  rw [List.size_toArray, List.length_reverse, Array.length_toList] at this
  rw [this]
theorem getItem_tuple_rev {t sl : Addr} {items : Array Value} {vs : Value} {Q : Value → Shared → Prop} (ht : IsTup s.heap t items) (hs : s.heap.IsSliceOf sl .none .none vs) (ps : IsPart vs (some (-1)))
    (h : Q (.ref s.heap.objs.size) { s with heap := s.heap.push { cls := .type "tuple", data := .seq items.toList.reverse.toArray } })
    (hsz : items.size ≤ sizeLine) : wpAny (model prog w) A (getItem (.ref t) (.ref sl)) Q E s := by
  have htake : sizeOk (.seq items.toList.reverse.toArray) := by
    show items.toList.reverse.toArray.size ≤ sizeLine
    rw [List.size_toArray, List.length_reverse, Array.length_toList]
    omega
  obtain ⟨os, hos, hcs, hds⟩ := id hs
  have hTs : s.TypeIs (.ref sl) "slice" := ⟨os, hos, hcs⟩
  unfold getItem
  try with_reducible refine wpAny_holding ?_
  first | refine wpAny_bind (wpAny_pure ?_) | skip
  refine wpAny_bind (wpAny_sequenceKey ht.typeIs (by decide) ?_)
  refine wpAny_bind (wpAny_callSpecial?_slot (name := Str.ofString "__getitem__") ht.typeIs PyProof.Rows.slot_tuple_getitem
    (wpAny_call_entry PyProof.Rows.slot_tuple_getitem ht.typeIs entry_tuple_getitem ?_ (args_tuple_getitem _ _)))
  show wpAny _ _ (Builtin.Tuple.tupleItemsOf (.ref t) >>= _) _ _ s
  refine wpAny_bind (tupleItemsOf_ ht ?_)
  refine wpAny_bind (wpAny_typeOf hTs ?_)
  rw [if_pos (by decide)]
  refine wpAny_bind (sliceApplied_rev hs ps ?_)
  have hno : ¬ ((((items.size : Int) - 1) == 0 && (-1 : Int) == 1 && items.size == items.size) = true) := by
    intro q
    rw [Bool.and_eq_true, Bool.and_eq_true] at q
    exact absurd q.1.2 (by decide)
  show wpAny _ _ (if (((items.size : Int) - 1) == 0 && (-1 : Int) == 1 && items.size == items.size) = true then _ else _) _ _ s
  rw [if_neg hno, pick_rev]
  first
    | exact wpAny_bind (m := Builtin.Tuple.tupleExact _) (wpAny_newObj_type (wpAny_pure ⟨_, rfl, wpAny_pure h⟩) htake)
    | exact wpAny_bind (m := Builtin.Tuple.tupleExact _) (wpAny_newObj_type (wpAny_bind (wpAny_pure (wpAny_pure ⟨_, rfl, wpAny_pure h⟩))) htake)
    | exact wpAny_bind (wpAny_bind (m := Builtin.Tuple.tupleExact _) (wpAny_newObj_type (wpAny_pure (wpAny_pure ⟨_, rfl, wpAny_pure h⟩)) htake))
    | exact wpAny_bind (wpAny_bind (m := Builtin.Tuple.tupleExact _) (wpAny_newObj_type (wpAny_pure ⟨_, rfl, wpAny_pure h⟩) htake))
end
def tRev (K : PySem.W.Frag) (te : TE) : TE := fun σ H Q => te σ H fun x H1 => ∃ a xs, x = .ref a ∧ ((SqL K H1 a xs ∧ ∀ p, H1 p = none → Q (.ref p) (upd H1 p (.lst xs.reverse))) ∨ (SqT K H1 a xs ∧ ∀ p, H1 p = none → Q (.ref p) (upd H1 p (.tup xs.reverse))))
section
variable {X : Cx}
theorem pe_rev {e : Expr} {te : TE} {k : Nat} {p1 p2 p3 pos : Pos} (he : PE X e te) : PE X (.Subscript e (.Slice none none (some (.UnaryOp .USub (.Constant (.int 1) k p1) p2)) p3) pos) (tRev X.K te) := by
  refine ⟨fun pins s σ H Q I h => ?_⟩
  refine Subscript_ (thn (he.run pins s σ H _ I h) fun v s1 ⟨x, H1, I1, r1, q1⟩ => ?_)
  obtain ⟨a, xs, ex, q1⟩ := q1
  subst ex
  cases r1
  have hst : PO X (some (.UnaryOp .USub (.Constant (.int 1) k p1) p2)) (tPart (tUn (rU fun i => .int (-i)) (tC (.int 1)))) := po_some (pe_un un_neg pe_int)
  refine wpAny_Slice (thn (po_none.run pins s1 σ H1 (fun o H2 => o = none ∧ H2 = H1) I1 ⟨rfl, rfl⟩) fun vl s2 ⟨l, H2, I2, pl, el, e2⟩ => ?_)
  subst el e2
  refine thn (po_none.run pins s2 σ H2 (fun o H3 => o = none ∧ H3 = H2) I2 ⟨rfl, rfl⟩) fun vu s3 ⟨u, H3, I3, pu, eu, e3⟩ => ?_
  subst eu e3
  refine thn (hst.run pins s3 σ H3 (fun o H4 => o = some (-1) ∧ H4 = H3) I3 ⟨1, rfl, -1, rfl, rfl, rfl⟩) fun vs s4 ⟨o, H4, I4, ps, eo, e4⟩ => ?_
  subst eo e4
  cases pl
  cases pu
  have I5 : Inv X pins σ H4 { s4 with heap := s4.heap.push { cls := .type "slice", data := .fields #[.none, .none, vs] } } := I4.kept (t' := s4.toks) fun b ob q => Heap.get?_push_of_some _ q
  show wpAny (model X.prog X.w) X.A (subscriptTail e (.Slice none none (some (.UnaryOp .USub (.Constant (.int 1) k p1) p2)) p3) (.ref a) (.ref s4.heap.objs.size)) (EP X pins σ Q) X.xe { s4 with heap := s4.heap.push { cls := .type "slice", data := .fields #[.none, .none, vs] } }
  rcases q1 with ⟨hx, q⟩ | ⟨hx, q⟩
  · obtain ⟨its, r, ht, hz⟩ := I5.list hx
    have hlen := r.length
    refine tail_any (ops := [.ref a, .ref s4.heap.objs.size]) ht.isList.typeIs (PySem.slot_list_getitem.lookup) ?_ (by with_unfolding_all rfl)
    refine wpAny_getItem_list_slice ht.isList (Heap.IsSliceOf.new _ .none .none vs) .none .none ps (by decide) ?_ (by rw [List.size_toArray]; omega)
    rw [PySem.W.krv_pick]
    refine ⟨.ref _, _, I5.laid (t' := s4.toks) (o := .lst xs.reverse) (fun b ob q => Heap.get?_push_of_some _ q) (Nat.le_refl _) ?_, rfl, q _ (I5.hok.fresh (Nat.le_refl _))⟩
    exact ⟨by rw [List.length_reverse]; exact hz, _, 0, r.reverse, Heap.get?_push_size _ rfl⟩
  · obtain ⟨its, r, ht, hz⟩ := I5.tuple hx
    have hlen := r.length
    refine tail_any (ops := [.ref a, .ref s4.heap.objs.size]) ht.typeIs (PyProof.Rows.slot_tuple_getitem.lookup) ?_ (by with_unfolding_all rfl)
    refine getItem_tuple_rev ht (Heap.IsSliceOf.new _ .none .none vs) ps ?_ (by rw [List.size_toArray]; omega)
    refine ⟨.ref _, _, I5.laid (t' := s4.toks) (o := .tup xs.reverse) (fun b ob q => Heap.get?_push_of_some _ q) (Nat.le_refl _) ?_, rfl, q _ (I5.hok.fresh (Nat.le_refl _))⟩
    exact ⟨by rw [List.length_reverse]; exact hz, _, r.reverse, IsTup.new _ _⟩
variable {a : Expr} {fa : EM} {pos : Pos}
theorem se_rev {k : Nat} {p1 p2 p3 : Pos} (ha : PE X a (tE X.K fa)) : PE X (.Subscript a (.Slice none none (some (.UnaryOp .USub (.Constant (.int 1) k p1) p2)) p3) pos) (tE X.K fun sl st => andD (fa sl st) fun x st1 => okD (revD x) st1) :=
  (pe_rev ha).weak fun σ H Q ⟨P, ca, G, sl, st, w, st', hm, hs, e, q⟩ => by
    obtain ⟨x, st1, e1, e⟩ := andD_some e
    obtain ⟨d, e2, e3⟩ := okD_some e
    cases e3
    refine ⟨P, ca, G, sl, st, _, _, hm, hs, e1, fun v1 ca1 G1 H1 n1 hm1 r1 => ?_⟩
    cases x with
    | list xs =>
      cases e2
      obtain ⟨b, vs, rfl, h1, a1⟩ := Rp.list_inv r1
      refine ⟨b, vs, rfl, .inl ⟨SqL.of (hm1.sub _ _ h1), fun p hp => ?_⟩⟩
      have ex : Ext G1 H1 (upd G1 p (.lst vs.reverse)) (upd H1 p (.lst vs.reverse)) := Ext.new hm1.sub hp
      exact q _ ca1 _ _ (n1.trans (Nxt.of ex.g)) (hm1.ext ex) (.lst upd_same (Rps.mono ex.g a1.reverse))
    | tuple xs =>
      cases e2
      obtain ⟨b, vs, rfl, h1, a1⟩ := Rp.tuple_inv r1
      refine ⟨b, vs, rfl, .inr ⟨SqT.mono hm1.sub h1, fun p hp => ?_⟩⟩
      have ex : Ext G1 H1 (upd G1 p (.tup vs.reverse)) (upd H1 p (.tup vs.reverse)) := Ext.new hm1.sub hp
      exact q _ ca1 _ _ (n1.trans (Nxt.of ex.g)) (hm1.ext ex) (.tup (SqT.of upd_same) (Rps.mono ex.g a1.reverse))
    | _ => cases e2
end
end WM
namespace WM
open PySem PySem.Spec PyProof.Rows L2
section
variable {Φ : Fn} {k : Nat} {X : Cx} {C : CE}
variable {e a b c d : Expr} {fa fb fc fd : EM} {pos p : Pos} {es : List Expr} {fs : AM}
def callM (Φ : Fn) (i : Nat) (fs : AM) : EM := fun sl st => (match fs sl st with
    | none => none
    | some (ws, st1) => Φ i ws st1)
theorem se_call {i n : Nat} {x : Str} (xo : XOk Φ k X C) (hg : globOf C x = some (.fn i n)) (ha : PA X (a :: es) (tA X.K fs)) (hn : (a :: es).length = n) (hw : ∀ sl st ws st', fs sl st = some (ws, st') → ws.length = n)
    (he : starEach (a :: es) X.env = (false, eval a X.env) :: starEach es X.env) (hpl : (backTo pos (starEach es X.env)).any (·.1) = false) :
    PE X (.Call (.Name x p) (a :: es) [] pos) (tE X.K (callM Φ i fs)) := by
  obtain ⟨gl, ⟨f, fd, ps, hm, hk, hb, hps, F⟩, d1, d2⟩ := globOf_ok xo hg
  refine (pe_call F xo.room gl hm hk hb .nil pass0 ha d1 he hpl).weak fun σ H Q ⟨P, ca, G, sl, st, w, st', hm, hs, e, q⟩ => ?_
  replace e : (match fs sl st with
    | none => none
    | some (ws, st1) => Φ i ws st1) = some (w, st') := e
  split at e
  · cases e
  · rename_i ws st1 e1
    refine ⟨P, ca, G, sl, st, _, _, hm, hs, e1, fun vs ca1 G1 H1 n1 hm1 r1 => ?_⟩
    show spD X.K (Φ i) n (vs ++ []) H1 Q E0
    rw [List.append_nil]
    exact ⟨by rw [r1.length]; exact hw _ _ _ _ e1, P, ca1, G1, st1, ws, w, st', hm1, r1, e, fun v G' H' s hm' r => q v ca1 G' H' (n1.trans (Nxt.of s)) hm' r⟩
/-- built-in functions, the length of a cell among them -/
def rBW (K : PySem.W.Frag) (b : B) : List V → Hp → VK → Prop := fun xs H Q => ∃ P ca G st ws d, HM K P ca G H st ∧ RWs K ca G xs ws ∧ bltW b ws st = some d ∧ ∀ v G' H', Ext G H G' H' → Rp K G' v d → Q v H'
theorem allD_one {w : W} {d : D} (h : allD [w] = some [d]) : w = .d d := by
  cases w with
  | d x => cases h; rfl
  | m i => cases h
theorem call_bW (hc : X.calm = true) (hu : X.A.units + 65 < cLine) (b : B) : CallR X b.val (rBW X.K b) := by
  intro pins s σ H xs us Q I r h
  obtain ⟨P, ca, G, st, ws, d, hm, hr, e, q⟩ := h
  unfold bltW at e
  split at e
  · rename_i ds ed
    exact call_blt hc hu b pins s σ H xs us Q I r ⟨G, ds, d, hm.sub, hr.dps ed, e, q⟩
  · split at e
    · rename_i b' ws' j _
      split at e
      · rename_i fz ds hj
        cases e
        cases hr with
        | cons h1 h2 =>
          cases h2
          obtain ⟨p, hp, rfl⟩ := h1
          obtain ⟨ys, h3, h4, _⟩ := cell_read hm hp hj
          exact call_len_seq pins s σ H _ us Q I r ⟨p, ys, rfl, .inl (SqL.of h3), q _ _ _ (Ext.refl hm.sub) (by rw [h4.length]; exact .int _)⟩
      · cases e
    · cases e
def bltM (b : B) (fs : AM) : EM := fun sl st => (match fs sl st with
    | none => none
    | some (ws, st1) => okD (bltW b ws st1) st1)
theorem tb_of {K : PySem.W.Frag} {b : B} {σ : L2.St} {H : Hp} {Q : VK} (h : tE K (bltM b fs) σ H Q) : tCB (rBW K b) (tA K fs) σ H Q := by
  obtain ⟨P, ca, G, sl, st, w, st', hm, hs, e, q⟩ := h
  replace e : (match fs sl st with
    | none => none
    | some (ws, st1) => okD (bltW b ws st1) st1) = some (w, st') := e
  split at e
  · cases e
  · rename_i ws st1 e1
    obtain ⟨d, e2, e3⟩ := okD_some e
    cases e3
    exact ⟨P, ca, G, sl, st, _, _, hm, hs, e1, fun vs ca1 G1 H1 n1 hm1 r1 => ⟨P, ca1, G1, _, ws, d, hm1, r1, e2, fun v G' H' ex r => q v ca1 G' H' (n1.trans (Nxt.of ex.g)) (hm1.ext ex) r⟩⟩
theorem se_blt {b : B} {x : Str} (xo : XOk Φ k X C) (hg : globOf C x = some (.bi b)) (ha : PA X (a :: es) (tA X.K fs))
    (he : starEach (a :: es) X.env = (false, eval a X.env) :: starEach es X.env) (hpl : (backTo pos (starEach es X.env)).any (·.1) = false) :
    PE X (.Call (.Name x p) (a :: es) [] pos) (tE X.K (bltM b fs)) := by
  obtain ⟨gl, ok, d1, d2⟩ := globOf_ok xo hg
  have hb : ∀ (id : String), b.val = .builtin id → X.mg x = none → bootBuiltins x = some b.val → PE X (.Call (.Name x p) (a :: es) [] pos) (tE X.K (bltM b fs)) := fun id e1 h1 h2 => by
    rw [e1] at h2
    exact (pe_callB (e1 ▸ call_bW xo.calm xo.u65 b) gl h1 h2 ha d2 d1 he hpl).weak fun σ H Q h => tb_of h
  have ht : ∀ (id : String), b.val = .type id → X.mg x = none → bootBuiltins x = some b.val → PE X (.Call (.Name x p) (a :: es) [] pos) (tE X.K (bltM b fs)) := fun id e1 h1 h2 => by
    rw [e1] at h2
    exact (pe_callTy (e1 ▸ call_bW xo.calm xo.u65 b) gl h1 h2 ha d2 d1 he hpl).weak fun σ H Q h => tb_of h
  rcases ok with ⟨ne, h1, h2⟩ | ⟨rfl, h1⟩
  · cases b <;> first | exact hb _ rfl h1 h2 | exact ht _ rfl h1 h2
  · exact (pe_callBfun (call_bW xo.calm xo.u65 B.gcd) gl h1 ha d1 he hpl).weak fun σ H Q h => tb_of h
theorem se_isi {t : Ty} {x y : Str} {g : GV} {p2 : Pos} (xo : XOk Φ k X C) (hg : globOf C x = some .isi) (hy : globOf C y = some g) (ht : tyOf g = some t) (ha : PE X a (tE X.K fa))
    (he : starEach (a :: [.Name y p2]) X.env = (false, eval a X.env) :: starEach [.Name y p2] X.env) :
    PE X (.Call (.Name x p) [a, .Name y p2] [] pos) (tE X.K fun sl st => andD (fa sl st) fun x st1 => okB (isiD x t) st1) := by
  obtain ⟨gl, ⟨m1, m2⟩, d1, d2⟩ := globOf_ok xo hg
  obtain ⟨gl2, ok2, d3, d4⟩ := globOf_ok xo hy
  have hv : X.mg y = none ∧ bootBuiltins y = some (.type t.nm) := by
    cases g with
    | bi b =>
      rcases ok2 with ⟨ne, h1, h2⟩ | ⟨rfl, h1⟩
      · cases b <;> first | (cases ht; exact ⟨h1, h2⟩) | cases ht
      · cases ht
    | ty t' =>
      cases ht
      exact ok2
    | _ => cases ht
  refine (pe_callB call_isi gl m1 m2 (pa_cons ha (pa_cons (pe_bltn gl2 hv.1 hv.2 (v := .ty t.nm) rfl d4 d3) pa_nil) he) d2 d1 he rfl).weak fun σ H Q ⟨P, ca, G, sl, st, w, st', hm, hs, e, q⟩ => ?_
  obtain ⟨z, st1, e1, e⟩ := andD_some e
  obtain ⟨r, e2, e3⟩ := okB_some e
  cases e3
  exact ⟨P, ca, G, sl, st, _, _, hm, hs, e1, fun v ca1 G1 H1 n1 hm1 r1 => ⟨v, .ty t.nm, _, _, r, rfl, .ty _, (Rp.mono hm1.sub r1).ty, kit_isi e2, q _ ca1 G1 H1 n1 hm1 (.bl _)⟩⟩
def tLset (K : PySem.W.Frag) (ta : TE) : TE := fun σ H Q => ta σ H fun x H1 => ∃ (l : Addr) (ns : List Int), x = V.ref l ∧ SqL K H1 l (ns.map V.int) ∧ ns.length < 4000 ∧ Q (.int (setL ns).length) H1
theorem pe_lset {a : Expr} {ta : TE} {p p2 q pos : Pos} (hc : X.calm = true) (hg : Gl X "len") (hm : X.mg "len" = none) (hg2 : Gl X "set") (hm2 : X.mg "set" = none) (ha : PE X a ta)
    (na : starEach [a] X.env = (false, eval a X.env) :: starEach [] X.env) : PE X (.Call (.Name "len" p) [.Call (.Name "set" p2) [a] [] q] [] pos) (tLset X.K ta) := by
  refine ⟨fun pins s σ H Q I h => ?_⟩
  refine Call_ (ld_blt I hg hm PySem.boot_len ?_)
  refine PyProof.Rows.callWith_builtin1 (PyProof.Rows.args_cons ?_ rfl) rfl rfl
  refine Call_ (ld_blt I hg2 hm2 PyProof.Rows.boot_set ?_)
  refine PyProof.Rows.callWith_type1 (PyProof.Rows.args_cons (thn (ha.run pins s σ H _ I h) fun v s1 ⟨x, H1, I1, r1, q1⟩ => PyProof.Rows.args_nil ?_) na) na rfl
  obtain ⟨l, ns, rfl, hq, h1, q1⟩ := q1
  cases r1
  obtain ⟨its, r, pl, hz⟩ := I1.list hq
  have hl : its.toArray.size = ns.length := by rw [List.size_toArray, ← r.length, List.length_map]
  refine call_set_list (I1.ok.hd hc) pl.isList (ns := ns) (by simpa using r.ints) (by unfold scanBound; omega) fun h' tk hS hk => ?_
  rw [hl] at hS
  refine PyProof.Rows.args_nil ?_
  obtain ⟨o, es, ep, t, ho, hex, hd, _, _, _, hf, hn⟩ := hS
  have I2 : Inv X pins σ H1 { s1 with heap := h', toks := tk } := I1.kept fun b o e => hk b o (Heap.lt_size e) e
  have hle := firstMet_length_le (fun i => ns.getD i 0) ns.length
  refine call_len_set ho hex hd hf (by rw [hn]; omega) ⟨.int (setL ns).length, H1, I2.tok _, ⟨_, by rw [hn]; rfl⟩, q1⟩
theorem se_lset {p2 q : Pos} (xo : XOk Φ k X C) {gb : B} (hb : gb.val = .builtin "len") (hg : globOf C ("len" : Str) = some (.bi gb)) (hy : globOf C ("set" : Str) = some .set) (ha : PE X a (tE X.K fa))
    (na : starEach [a] X.env = (false, eval a X.env) :: starEach [] X.env) :
    PE X (.Call (.Name "len" p) [.Call (.Name "set" p2) [a] [] q] [] pos) (tE X.K fun sl st => andD (fa sl st) fun x st1 => okD (lsetD x) st1) := by
  obtain ⟨gl, ok, d1, d2⟩ := globOf_ok xo hg
  obtain ⟨gl2, ok2, d3, d4⟩ := globOf_ok xo hy
  have hm : X.mg "len" = none := by
    rcases ok with ⟨_, h1, _⟩ | ⟨rfl, _⟩
    · exact h1
    · unfold B.val at hb
      injection hb with hb
      exact absurd hb (by decide)
  refine (pe_lset xo.calm gl hm gl2 ok2 ha na).weak fun σ H Q ⟨P, ca, G, sl, st, w, st', hm, hs, e, q⟩ => ?_
  obtain ⟨z, st1, e1, e⟩ := andD_some e
  obtain ⟨r, e2, e3⟩ := okD_some e
  cases e3
  refine ⟨P, ca, G, sl, st, _, _, hm, hs, e1, fun v ca1 G1 H1 n1 hm1 r1 => ?_⟩
  cases z with
  | list xs =>
    unfold lsetD at e2
    simp only at e2
    split at e2
    · rename_i ns en
      split at e2
      · rename_i hl
        cases e2
        obtain ⟨l, e4, hG⟩ := Rp.lint r1 en
        exact ⟨l, ns, e4, SqL.of (hm1.sub _ _ hG), hl, q _ ca1 G1 H1 n1 hm1 (.int _)⟩
      · cases e2
    · cases e2
  | _ => cases e2
variable {tg iter : Expr}
theorem JOk.list {K : PySem.W.Frag} {G : Hp} {a : Addr} {xs : List V} {ds : List D} (h : G a = some (.lst xs)) (r : Rps K G xs ds) : JOk K (Itl K a) G ds := by
  intro i P ca Gc H st s hm
  have hH : H a = some (.lst xs) := hm.sub _ _ (s _ _ h)
  refine ⟨fun d hd => ?_, fun hl => ⟨xs, SqL.of hH, by rw [r.length]; exact hl⟩⟩
  obtain ⟨v, hv, rv⟩ := r.get hd
  refine ⟨⟨xs, v, SqL.of hH, hv⟩, fun x H' y => ?_⟩
  obtain ⟨rfl, y⟩ := y
  have e := y xs (SqL.of hH)
  rw [hv] at e
  cases e
  exact ⟨Gc, Ext.refl hm.sub, Rp.mono s rv⟩
theorem JOk.tuple {K : PySem.W.Frag} {G : Hp} {a : Addr} {xs : List V} {ds : List D} (h : SqT K G a xs) (r : Rps K G xs ds) : JOk K (Itt K a) G ds := by
  intro i P ca Gc H st s hm
  have hH : SqT K H a xs := SqT.mono hm.sub (SqT.mono s h)
  refine ⟨fun d hd => ?_, fun hl => ⟨xs, hH, by rw [r.length]; exact hl⟩⟩
  obtain ⟨v, hv, rv⟩ := r.get hd
  refine ⟨⟨xs, v, hH, hv⟩, fun x H' y => ?_⟩
  obtain ⟨rfl, y⟩ := y
  have e := y xs hH
  rw [hv] at e
  cases e
  exact ⟨Gc, Ext.refl hm.sub, Rp.mono s rv⟩
theorem rngD_len : ∀ (n : Nat) (lo : Int), (rngD lo n).length = n
  | 0, _ => rfl
  | n + 1, lo => by
    show (rngD (lo + 1) n).length + 1 = n + 1
    rw [rngD_len n]
theorem rngD_get : ∀ (n : Nat) (lo : Int) (i : Nat), i < n → (rngD lo n)[i]? = some (.int (lo + i))
  | 0, _, _, h => absurd h (Nat.not_lt_zero _)
  | n + 1, lo, 0, _ => by
    show some (PyData.int lo) = _
    simp
  | n + 1, lo, i + 1, h => by
    show (rngD (lo + 1) n)[i]? = _
    rw [rngD_get n (lo + 1) i (by omega)]
    congr 2
    omega
theorem JOk.range {K : PySem.W.Frag} {G : Hp} (lo : Int) (n : Nat) : JOk K (Itr lo n) G (rngD lo n) := by
  intro i P ca Gc H st s hm
  refine ⟨fun d hd => ?_, fun hl => ?_⟩
  · have hi : i < n := by
      have := (List.getElem?_eq_some_iff.mp hd).1
      rw [rngD_len] at this
      exact this
    rw [rngD_get n lo i hi] at hd
    cases hd
    refine ⟨hi, fun x H' y => ?_⟩
    obtain ⟨rfl, rfl⟩ := y
    exact ⟨Gc, Ext.refl hm.sub, .int _⟩
  · show n ≤ i
    rw [rngD_len] at hl
    exact hl
theorem enumD_len : ∀ (xs : List D) (j : Nat), (enumD j xs).length = xs.length
  | [], _ => rfl
  | _ :: xs, j => by
    show (enumD (j + 1) xs).length + 1 = xs.length + 1
    rw [enumD_len xs]
theorem enumD_get : ∀ (xs : List D) (j i : Nat) (d : D), (enumD j xs)[i]? = some d → ∃ x, xs[i]? = some x ∧ d = .tuple [.int ((j + i : Nat) : Int), x]
  | [], _, _, _, h => by cases h
  | x :: xs, j, 0, d, h => by
    cases h
    exact ⟨x, rfl, rfl⟩
  | x :: xs, j, i + 1, d, h => by
    obtain ⟨y, h1, h2⟩ := enumD_get xs (j + 1) i d h
    refine ⟨y, h1, ?_⟩
    rw [h2]
    congr 4
    omega
theorem Rps.two' {K : PySem.W.Frag} {G : Hp} {v w : V} {d e : D} (h1 : Rp K G v d) (h2 : Rp K G w e) : Rps K G [v, w] [d, e] := .cons h1 (.cons h2 .nil)
theorem JOk.enum {K : PySem.W.Frag} {G : Hp} {a : Addr} {xs : List V} {ds : List D} (h : G a = some (.lst xs)) (r : Rps K G xs ds) : JOk K (Ite K a) G (enumD 0 ds) := by
  intro i P ca Gc H st s hm
  have hH : H a = some (.lst xs) := hm.sub _ _ (s _ _ h)
  refine ⟨fun d hd => ?_, fun hl => ⟨xs, SqL.of hH, by rw [r.length, ← enumD_len ds 0]; exact hl⟩⟩
  obtain ⟨y, hy, rfl⟩ := enumD_get ds 0 i d hd
  obtain ⟨v, hv, rv⟩ := r.get hy
  refine ⟨⟨xs, v, SqL.of hH, hv⟩, fun x H' yy => ?_⟩
  obtain ⟨T, z, rfl, nT, rfl, yy⟩ := yy
  have e := yy xs (SqL.of hH)
  rw [hv] at e
  cases e
  refine ⟨_, Ext.new hm.sub nT, Rp.tnew (hm.sub.free nT) ?_⟩
  rw [Nat.zero_add]
  exact Rps.two' (.int _) (Rp.mono s rv)
theorem zipD_get : ∀ (xs ys : List D) (i : Nat) (d : D), (zipD xs ys)[i]? = some d → ∃ x y, xs[i]? = some x ∧ ys[i]? = some y ∧ d = .tuple [x, y]
  | [], _, _, _, h => by
    cases h
  | _ :: _, [], _, _, h => by cases h
  | x :: xs, y :: ys, 0, d, h => by
    cases h
    exact ⟨x, y, rfl, rfl, rfl⟩
  | x :: xs, y :: ys, i + 1, d, h => zipD_get xs ys i d h
theorem zipD_end : ∀ (xs ys : List D) (i : Nat), (zipD xs ys).length ≤ i → xs.length ≤ i ∨ ys.length ≤ i
  | [], _, _, _ => .inl (Nat.zero_le _)
  | _ :: _, [], _, _ => .inr (Nat.zero_le _)
  | x :: xs, y :: ys, 0, h => absurd h (by show ¬ (zipD xs ys).length + 1 ≤ 0; omega)
  | x :: xs, y :: ys, i + 1, h => by
    have h' : (zipD xs ys).length + 1 ≤ i + 1 := h
    rcases zipD_end xs ys i (by omega) with q | q
    · exact .inl (Nat.succ_le_succ q)
    · exact .inr (Nat.succ_le_succ q)
theorem JOk.zip {K : PySem.W.Frag} {G : Hp} {a b : Addr} {xs ys : List V} {ds es : List D} (h : G a = some (.lst xs)) (r : Rps K G xs ds) (h2 : G b = some (.lst ys)) (r2 : Rps K G ys es) : JOk K (Itz K a b) G (zipD ds es) := by
  intro i P ca Gc H st s hm
  have hH : H a = some (.lst xs) := hm.sub _ _ (s _ _ h)
  have hH2 : H b = some (.lst ys) := hm.sub _ _ (s _ _ h2)
  refine ⟨fun d hd => ?_, fun hl => ⟨xs, ys, SqL.of hH, SqL.of hH2, by rw [r.length, r2.length]; exact zipD_end _ _ _ hl⟩⟩
  obtain ⟨y1, y2, hy1, hy2, rfl⟩ := zipD_get ds es i d hd
  obtain ⟨v, hv, rv⟩ := r.get hy1
  obtain ⟨v2, hv2, rv2⟩ := r2.get hy2
  refine ⟨⟨xs, ys, v, v2, SqL.of hH, SqL.of hH2, hv, hv2⟩, fun x H' yy => ?_⟩
  obtain ⟨T, z, z2, rfl, nT, rfl, yy, yy2⟩ := yy
  have e := yy xs (SqL.of hH)
  rw [hv] at e
  cases e
  have e2 := yy2 ys (SqL.of hH2)
  rw [hv2] at e2
  cases e2
  exact ⟨_, Ext.new hm.sub nT, Rp.tnew (hm.sub.free nT) (Rps.two' (Rp.mono s rv) (Rp.mono s rv2))⟩
theorem JOk.zipT {K : PySem.W.Frag} {G : Hp} {a b : Addr} {xs ys : List V} {ds es : List D} (h : SqT K G a xs) (r : Rps K G xs ds) (h2 : SqT K G b ys) (r2 : Rps K G ys es) : JOk K (RZ.ItzT K a b) G (zipD ds es) := by
  intro i P ca Gc H st s hm
  have hH : SqT K H a xs := SqT.mono hm.sub (SqT.mono s h)
  have hH2 : SqT K H b ys := SqT.mono hm.sub (SqT.mono s h2)
  refine ⟨fun d hd => ?_, fun hl => ⟨xs, ys, hH, hH2, by rw [r.length, r2.length]; exact zipD_end _ _ _ hl⟩⟩
  obtain ⟨y1, y2, hy1, hy2, rfl⟩ := zipD_get ds es i d hd
  obtain ⟨v, hv, rv⟩ := r.get hy1
  obtain ⟨v2, hv2, rv2⟩ := r2.get hy2
  refine ⟨⟨xs, ys, v, v2, hH, hH2, hv, hv2⟩, fun x H' yy => ?_⟩
  obtain ⟨T, z, z2, rfl, nT, rfl, yy, yy2⟩ := yy
  have e := yy xs hH
  rw [hv] at e
  cases e
  have e2 := yy2 ys hH2
  rw [hv2] at e2
  cases e2
  exact ⟨_, Ext.new hm.sub nT, Rp.tnew (hm.sub.free nT) (Rps.two' (Rp.mono s rv) (Rp.mono s rv2))⟩
/-- a list or a tuple -/
theorem pi_val (h : PE X e (tE X.K fa)) : PI X tg e (tI X.K fun sl st => andD (fa sl st) fun x st1 => okL (valI x) st1) := by
  refine ⟨fun pins s σ H R I ⟨P, ca, G, sl, st, ds, st', hm, hs, e, q⟩ => ?_⟩
  obtain ⟨x, st1, e1, e⟩ := andD_some e
  obtain ⟨l, e2, e3⟩ := okL_some e
  cases e3
  cases x with
  | list xs =>
    cases e2
    refine (pi_list h).run pins s σ H R I ⟨P, ca, G, sl, st, _, _, hm, hs, e1, fun v ca1 G1 H1 n1 hm1 r1 => ?_⟩
    obtain ⟨a, vs, rfl, h1, a1⟩ := Rp.list_inv r1
    exact ⟨a, rfl, ⟨vs, SqL.of (hm1.sub _ _ h1)⟩, q _ ca1 G1 H1 n1 hm1 (JOk.list h1 a1)⟩
  | tuple xs =>
    cases e2
    refine (pi_tup h).run pins s σ H R I ⟨P, ca, G, sl, st, _, _, hm, hs, e1, fun v ca1 G1 H1 n1 hm1 r1 => ?_⟩
    obtain ⟨a, vs, rfl, h1, a1⟩ := Rp.tuple_inv r1
    exact ⟨a, rfl, ⟨vs, SqT.mono hm1.sub h1⟩, q _ ca1 G1 H1 n1 hm1 (JOk.tuple h1 a1)⟩
  | _ => cases e2
theorem pi_rng1 {x : Str} (xo : XOk Φ k X C) (hg : globOf C x = some .rng) (ha : PE X a (tE X.K fa)) (hs : starEach [a] X.env = [(false, eval a X.env)]) :
    PI X tg (.Call (.Name x p) [a] [] pos) (tI X.K fun sl st => andD (fa sl st) fun x st1 => okL (rngI (.int 0) x) st1) := by
  obtain ⟨gl, ⟨m1, rfl⟩, d1, d2⟩ := globOf_ok xo hg
  refine (pi_range1 gl m1 (pa_cons ha pa_nil hs) hs).weak fun σ H R ⟨P, ca, G, sl, st, ds, st', hm, hs, e, q⟩ => ?_
  obtain ⟨x, st1, e1, e⟩ := andD_some e
  obtain ⟨l, e2, e3⟩ := okL_some e
  cases e3
  refine ⟨P, ca, G, sl, st, _, _, hm, hs, e1, fun v ca1 G1 H1 n1 hm1 r1 => ?_⟩
  cases x with
  | int j =>
    unfold rngI at e2
    simp only at e2
    split at e2
    · rename_i hz
      cases e2
      refine ⟨j, by rw [Rp.int_inv r1], hz.2.2.1, hz.2.2.2, ?_⟩
      refine q _ ca1 G1 H1 n1 hm1 ?_
      have : (j - 0).toNat = j.toNat := by rw [Int.sub_zero]
      rw [this]
      exact JOk.range 0 j.toNat
    · cases e2
  | _ => cases e2
theorem pi_rng2 {x : Str} (xo : XOk Φ k X C) (hg : globOf C x = some .rng) (ha : PE X a (tE X.K fa)) (hb : PE X b (tE X.K fb)) (hs : starEach [a, b] X.env = [(false, eval a X.env), (false, eval b X.env)]) (hs2 : starEach [b] X.env = [(false, eval b X.env)]) :
    PI X tg (.Call (.Name x p) [a, b] [] pos) (tI X.K fun sl st => andD (fa sl st) fun x st1 => andD (fb sl st1) fun y st2 => okL (rngI x y) st2) := by
  obtain ⟨gl, ⟨m1, rfl⟩, d1, d2⟩ := globOf_ok xo hg
  refine (pi_range2 gl m1 (pa_cons ha (pa_cons hb pa_nil hs2) (by rw [hs, hs2])) hs hs2).weak fun σ H R ⟨P, ca, G, sl, st, ds, st', hm, hs, e, q⟩ => ?_
  obtain ⟨x, st1, e1, e⟩ := andD_some e
  obtain ⟨y, st2, e2, e⟩ := andD_some e
  obtain ⟨l, e3, e4⟩ := okL_some e
  cases e4
  refine ⟨P, ca, G, sl, st, _, _, hm, hs, e1, fun v ca1 G1 H1 n1 hm1 r1 => ⟨P, ca1, G1, sl, st1, _, _, hm1, hs.mono n1, e2, fun v2 ca2 G2 H2 n2 hm2 r2 => ?_⟩⟩
  unfold rngI at e3
  split at e3
  · split at e3
    · rename_i hz
      cases e3
      have rv := Rp.int_inv (Rp.mono n2.s r1)
      exact ⟨_, _, by rw [rv, Rp.int_inv r2], hz, q _ ca2 G2 H2 (n1.trans n2) hm2 (JOk.range _ _)⟩
    · cases e3
  · cases e3
theorem pi_enumD {x : Str} {elts : List Expr} {kk : Nat} {tpos : Pos} (xo : XOk Φ k X C) (hg : globOf C x = some .enum) (ha : PE X a (tE X.K fa)) (hs : starEach [a] X.env = [(false, eval a X.env)]) :
    PI X (.Tuple elts kk tpos) (.Call (.Name x p) [a] [] pos) (tI X.K fun sl st => andD (fa sl st) fun x st1 => okL (enumI x) st1) := by
  obtain ⟨gl, ⟨m1, rfl⟩, d1, d2⟩ := globOf_ok xo hg
  refine (pi_enum gl m1 (pa_cons ha pa_nil hs) hs).weak fun σ H R ⟨P, ca, G, sl, st, ds, st', hm, hs, e, q⟩ => ?_
  obtain ⟨x, st1, e1, e⟩ := andD_some e
  obtain ⟨l, e2, e3⟩ := okL_some e
  cases e3
  refine ⟨P, ca, G, sl, st, _, _, hm, hs, e1, fun v ca1 G1 H1 n1 hm1 r1 => ?_⟩
  cases x with
  | list xs =>
    cases e2
    obtain ⟨a, vs, rfl, h1, a1⟩ := Rp.list_inv r1
    exact ⟨a, vs, rfl, SqL.of (hm1.sub _ _ h1), q _ ca1 G1 H1 n1 hm1 (JOk.enum h1 a1)⟩
  | _ => cases e2
theorem pi_zipD {x : Str} {elts : List Expr} {kk : Nat} {tpos : Pos} (xo : XOk Φ k X C) (hg : globOf C x = some .zip) (ha : PE X a (tE X.K fa)) (hb : PE X b (tE X.K fb)) (hs : starEach [a, b] X.env = (false, eval a X.env) :: starEach [b] X.env) (hs2 : starEach [b] X.env = [(false, eval b X.env)]) :
    PI X (.Tuple elts kk tpos) (.Call (.Name x p) [a, b] [] pos) (tI X.K fun sl st => andD (fa sl st) fun x st1 => andD (fb sl st1) fun y st2 => okL (zipI x y) st2) := by
  obtain ⟨gl, ⟨m1, rfl⟩, d1, d2⟩ := globOf_ok xo hg
  refine (RZ.pi_zipA gl m1 (pa_cons ha (pa_cons hb pa_nil hs2) hs) hs (by rw [hs2] <;> rfl)).weak fun σ H R ⟨P, ca, G, sl, st, ds, st', hm, hs, e, q⟩ => ?_
  obtain ⟨x, st1, e1, e⟩ := andD_some e
  obtain ⟨y, st2, e2, e⟩ := andD_some e
  obtain ⟨l, e3, e4⟩ := okL_some e
  cases e4
  refine ⟨P, ca, G, sl, st, _, _, hm, hs, e1, fun v ca1 G1 H1 n1 hm1 r1 => ⟨P, ca1, G1, sl, st1, _, _, hm1, hs.mono n1, e2, fun v2 ca2 G2 H2 n2 hm2 r2 => ?_⟩⟩
  unfold zipI at e3
  split at e3
  · cases e3
    obtain ⟨a, vs, rfl, h1, a1⟩ := Rp.list_inv (Rp.mono n2.s r1)
    obtain ⟨b, ws, rfl, h2, a2⟩ := Rp.list_inv r2
    exact ⟨a, b, vs, ws, rfl, .inl ⟨SqL.of (hm2.sub _ _ h1), SqL.of (hm2.sub _ _ h2), q _ ca2 G2 H2 (n1.trans n2) hm2 (JOk.zip h1 a1 h2 a2)⟩⟩
  · cases e3
    obtain ⟨a, vs, rfl, h1, a1⟩ := Rp.tuple_inv (Rp.mono n2.s r1)
    obtain ⟨b, ws, rfl, h2, a2⟩ := Rp.tuple_inv r2
    exact ⟨a, b, vs, ws, rfl, .inr ⟨SqT.mono hm2.sub h1, SqT.mono hm2.sub h2, q _ ca2 G2 H2 (n1.trans n2) hm2 (JOk.zipT h1 a1 h2 a2)⟩⟩
  · cases e3
end
end WM
namespace WM
open PySem PySem.Spec PyProof.Rows L2
section
variable {Φ : Fn} {k : Nat} {X : Cx} {C : CE}
theorem sg_v {x : Str} {i : Nat} {pos : Pos} (xo : XOk Φ k X C) (h : stOf C x = some i) : PG X (.Name x pos) (tG X.K (stTg (.v i)) [i]) := by
  obtain ⟨h1, h2, h3⟩ := stOf_ok xo h
  refine (pg_name (by rw [xo.hN]; exact xo.nd) h1 h2 h3).weak fun v σ H Q ⟨P, ca, G, sl, st, d, sl', hm, hs, r, e, q⟩ => ?_
  cases e
  refine q _ (hs.set (w := .d d) i r) (List.length_set ..) fun j hj => ?_
  rw [List.getElem?_set_ne]
  intro z
  exact hj (by rw [z]; exact List.mem_cons_self)
theorem sgs_nil : PGs X [] (tGs X.K (stTgs .nil) []) :=
  pgs_nil.weak fun vs σ H Q ⟨P, ca, G, sl, st, ds, sl', hm, hs, r, e, q⟩ => by
    cases r with
    | nil =>
      cases e
      exact ⟨rfl, q _ hs rfl fun _ _ => rfl⟩
    | cons _ _ => cases e
theorem sgs_cons {e : Expr} {es : List Expr} {t : Tg} {ts : Tgs} (h1 : PG X e (tG X.K (stTg t) (tgSlots t))) (h2 : PGs X es (tGs X.K (stTgs ts) (tgsSlots ts)))
    (hs : (assignEach (e :: es) X.env).map (·.2) = assign e X.env :: (assignEach es X.env).map (·.2)) : PGs X (e :: es) (tGs X.K (stTgs (.cons t ts)) (tgsSlots (.cons t ts))) :=
  (pgs_cons h1 h2 hs).weak fun vs σ H Q ⟨P, ca, G, sl, st, ds, sl', hm, hs, r, e, q⟩ => by
    cases r with
    | nil => cases e
    | @cons v vs d ds r rr =>
      have e : (match stTg t d sl with
        | some sl' => stTgs ts ds sl'
        | none => none) = some sl' := e
      split at e
      · rename_i sl1 e1
        refine ⟨v, vs, rfl, P, ca, G, sl, st, d, sl1, hm, hs, r, e1, fun σ1 hs1 l1 u1 => ⟨P, ca, G, sl1, st, ds, sl', hm, hs1, rr, e, fun σ2 hs2 l2 u2 => ?_⟩⟩
        refine q σ2 hs2 (l2.trans l1) fun j hj => ?_
        have hj' : j ∉ tgSlots t ++ tgsSlots ts := hj
        rw [List.mem_append, not_or] at hj'
        rw [u2 j hj'.2, u1 j hj'.1]
      · cases e
theorem tgs_len : ∀ {ts : Tgs} {ds : List D} {sl sl' : Sl}, stTgs ts ds sl = some sl' → ds.length = tgsLen ts
  | .nil, [], _, _, _ => rfl
  | .nil, _ :: _, _, _, h => by cases h
  | .cons t ts, [], _, _, h => by cases h
  | .cons t ts, d :: ds, sl, sl', h => by
    have e : (match stTg t d sl with
        | some sl' => stTgs ts ds sl'
        | none => none) = some sl' := h
    split at e
    · show ds.length + 1 = tgsLen ts + 1
      rw [tgs_len e]
    · cases e
theorem sg_t {es : List Expr} {ts : Tgs} {kk : Nat} {pos : Pos} (xo : XOk Φ k X C) (h : PGs X es (tGs X.K (stTgs ts) (tgsSlots ts))) (hn : (assignEach es X.env).length = tgsLen ts) (hst : (assignEach es X.env).findIdx? (·.1) = none) :
    PG X (.Tuple es kk pos) (tG X.K (stTg (.t ts)) (tgSlots (.t ts))) :=
  (pg_tup xo.calm h hn hst).weak fun v σ H Q ⟨P, ca, G, sl, st, d, sl', hm, hs, r, e, q⟩ => by
    cases d with
    | tuple ds =>
      have e : stTgs ts ds sl = some sl' := e
      obtain ⟨a, vs, rfl, h1, a1⟩ := r.tuple_inv
      exact ⟨a, vs, rfl, SqT.mono hm.sub h1, by rw [a1.length]; exact tgs_len e, P, ca, G, sl, st, ds, sl', hm, hs, a1, e, q⟩
    | _ => cases e
theorem cmpT_form {n : Nat} {e : Expr} {t : Tg} (h : cmpT n C e = some t) : (∃ x p, e = .Name x p) ∨ ∃ es kk p, e = .Tuple es kk p := by
  cases n with
  | zero => cases h
  | succ n =>
    unfold cmpT at h
    split at h
    · exact .inl ⟨_, _, rfl⟩
    · exact .inr ⟨_, _, _, rfl⟩
    · cases h
theorem cmpTs_each : ∀ {n : Nat} {es : List Expr} {ts : Tgs} {env : Env}, cmpTs n C es = some ts → (assignEach es env).length = tgsLen ts ∧ (assignEach es env).findIdx? (·.1) = none
  | 0, _, _, _, h => by cases h
  | n + 1, es, ts, env, h => by
    unfold cmpTs at h
    cases es with
    | nil => cases h; exact ⟨rfl, rfl⟩
    | cons e es =>
      simp only at h
      split at h
      · rename_i t ts' h1 h2
        cases h
        obtain ⟨q1, q2⟩ := cmpTs_each (env := env) h2
        rcases cmpT_form h1 with ⟨x, p, rfl⟩ | ⟨es', kk, p, rfl⟩
        · refine ⟨?_, ?_⟩
          · show (assignEach es env).length + 1 = _
            rw [q1] <;> rfl
          · show List.findIdx? (·.1) ((false, _) :: assignEach es env) = none
            rw [List.findIdx?_cons]
            simp [q2]
        · refine ⟨?_, ?_⟩
          · show (assignEach es env).length + 1 = _
            rw [q1] <;> rfl
          · show List.findIdx? (·.1) ((false, _) :: assignEach es env) = none
            rw [List.findIdx?_cons]
            simp [q2]
      · cases h
theorem snd_t (xo : XOk Φ k X C) : ∀ n : Nat, (∀ e t, cmpT n C e = some t → PG X e (tG X.K (stTg t) (tgSlots t))) ∧ ∀ es ts, cmpTs n C es = some ts → PGs X es (tGs X.K (stTgs ts) (tgsSlots ts))
  | 0 => ⟨fun _ _ h => absurd h (fun z => by cases z), fun _ _ h => absurd h (fun z => by cases z)⟩
  | n + 1 => by
    obtain ⟨i1, i2⟩ := snd_t xo n
    refine ⟨fun e t h => ?_, fun es ts h => ?_⟩
    · unfold cmpT at h
      split at h
      · rename_i x p
        cases e1 : stOf C x with
        | none => rw [e1] at h; cases h
        | some i =>
          rw [e1] at h
          cases h
          exact sg_v xo e1
      · rename_i es kk p
        cases e1 : cmpTs n C es with
        | none => rw [e1] at h; cases h
        | some ts =>
          rw [e1] at h
          cases h
          obtain ⟨q1, q2⟩ := cmpTs_each (env := X.env) e1
          exact sg_t xo (i2 _ _ e1) q1 q2
      · cases h
    · unfold cmpTs at h
      cases es with
      | nil => cases h; exact sgs_nil
      | cons e es =>
        simp only at h
        split at h
        · rename_i t ts' h1 h2
          cases h
          refine sgs_cons (i1 _ _ h1) (i2 _ _ h2) ?_
          rcases cmpT_form h1 with ⟨x, p, rfl⟩ | ⟨es', kk, p, rfl⟩ <;> rfl
        · cases h
theorem findB_lookup {x : Str} {k : NameKind} {l : List (Str × NameKind)} (h : l.lookup x = some k) (hk : k ≠ .free) {sc : Scope} :
    (l.map fun (n, k) => if (k == NameKind.free && sc.kind == .function && sc.names.lookup n == some .cell) then (n, NameKind.cell) else (n, k)).lookup x = some k := lookup_relS_keep hk h
theorem blkE_ok {scope : Scope} (xo : XOk Φ k X C) (ok : BlkOk X.N X.env.scope scope (ownOf C scope)) (s : Shared) (H : Hp) (Ca : Addr) (cl : List (Str × Addr)) (fp : List Addr) :
    XOk Φ k (X.blk s H scope (compEnvC scope cl Ca X.env) fp) (blkE C scope) where
  hN := xo.hN
  hsc := by
    show relS scope X.env.scope = relS scope C.sc
    rw [xo.hsc]
  kd := by
    show (relS scope C.sc).kind = .function
    exact ok.kind
  nd := xo.nd
  calm := xo.calm
  dbg := xo.dbg
  own := fun x hx => by
    obtain ⟨y, hy, e⟩ := List.mem_filterMap.mp hx
    have key : ∀ kd, kd ≠ NameKind.free → scope.names.lookup x = some kd → (relS scope C.sc).names.lookup x = some kd := fun kd h1 h2 => lookup_relS_keep h1 h2
    show Loc (relS scope C.sc) x ∧ ((scope.names.lookup x == some .cell) = true ∨ (relS scope C.sc).names.lookup x = some .local)
    split at e
    · split at e
      · rename_i h1
        cases e
        have := key .local (by decide) h1
        exact ⟨.inl this, .inr this⟩
      · cases e
    · split at e
      · rename_i h1
        cases e
        have := key .cell (by decide) h1
        exact ⟨.inr this, .inl (by rw [h1]; rfl)⟩
      · cases e
    · cases e
  gdbg := xo.gdbg
  gl := fun x g h => by
    have q := xo.gl x g h
    cases g with
    | fn i n => exact q
    | con d => exact q
    | bi b => exact q
    | ty t => exact q
    | isi => exact q
    | set => exact q
    | rng => exact q
    | zip => exact q
    | enum => exact q
  room := xo.room
  xe := rfl
theorem wipe_ext {σ σ' : L2.St} : ∀ (vs : List Nat), σ'.length = σ.length → (∀ j, j ∉ vs → σ'[j]? = σ[j]?) → wipe σ' vs = wipe σ vs := fun vs hl h => by
  refine List.ext_getElem? fun j => ?_
  by_cases hj : j ∈ vs
  · have key : ∀ (τ : L2.St) (vs : List Nat), j ∈ vs → (wipe τ vs)[j]? = if j < τ.length then some none else none := by
      intro τ vs
      induction vs with
      | nil => intro h; cases h
      | cons v vs ih =>
        intro hm
        show ((wipe τ vs).set v none)[j]? = _
        by_cases hv : v = j
        · subst hv
          by_cases hl : v < τ.length
          · rw [List.getElem?_set_self (by rw [wipe_length]; exact hl), if_pos hl]
          · rw [List.getElem?_eq_none (by rw [List.length_set, wipe_length]; omega), if_neg hl]
        · rw [List.getElem?_set_ne hv]
          exact ih ((List.mem_cons.mp hm).resolve_left fun z => hv z.symm)
    rw [key σ' vs hj, key σ vs hj, hl]
  · rw [wipe_out hj, wipe_out hj]
    exact h j hj
theorem wipe_idem {σ : L2.St} (vs : List Nat) : wipe (wipe σ vs) vs = wipe σ vs := by
  refine wipe_ext vs (by rw [wipe_length]) fun j hj => ?_
  rw [wipe_out hj]
theorem wipeS_len (sl : Sl) : ∀ vs, (wipeS sl vs).length = sl.length
  | [] => rfl
  | v :: vs => by
    show ((wipeS sl vs).set v none).length = _
    rw [List.length_set, wipeS_len sl vs]
theorem SlOk.wipe {K : PySem.W.Frag} {ca : List Addr} {G : Hp} {σ : L2.St} {sl : Sl} (h : SlOk K ca G σ sl) : ∀ vs : List Nat, SlOk K ca G (L2.wipe σ vs) (wipeS sl vs)
  | [] => h
  | v :: vs => by
    have ih := SlOk.wipe h vs
    refine ⟨by show ((L2.wipe σ vs).set v none).length = ((wipeS sl vs).set v none).length; rw [List.length_set, List.length_set, ih.len], fun i w e => ?_⟩
    have e : ((wipeS sl vs).set v none)[i]? = some (some w) := e
    by_cases hv : v = i
    · subst hv
      have hl : v < (wipeS sl vs).length := by
        have := (List.getElem?_eq_some_iff.mp e).1
        simpa using this
      rw [List.getElem?_set_self hl] at e
      cases e
    · rw [List.getElem?_set_ne hv] at e
      obtain ⟨x, e1, r⟩ := ih.at_ i w e
      refine ⟨x, ?_, r⟩
      show ((L2.wipe σ vs).set v none)[i]? = _
      rw [List.getElem?_set_ne hv]
      exact e1
/-- a thing that is no data and no cell is changed -/
theorem HM.other {K : PySem.W.Frag} {P : Hp} {ca : List Addr} {G H : Hp} {st : Store} {p : Addr} {o : HO} (h : HM K P ca G H st) (n : G p = none) (hp : p ∉ ca) (hP : P p = none) : HM K P ca G (upd H p o) st := by
  have key : ∀ b u, G b = some u → b ≠ p := fun b u e z => by subst z; rw [n] at e; cases e
  refine ⟨fun b u e => by rw [upd_ne (key b u e)]; exact h.sub _ _ e, h.len, h.nd, fun i b c e1 e2 => ?_, fun b u e => ?_, h.pdis, h.pg⟩
  · have hne : b ≠ p := fun z => by
      subst z
      exact hp (List.mem_of_getElem? e1)
    have q := h.cell i b c e1 e2
    cases c with
    | lst fz ds =>
      obtain ⟨ys, g1, g2, gz, g3⟩ := q
      exact ⟨ys, by rw [upd_ne hne]; exact g1, g2, gz, g3⟩
  · have hne : b ≠ p := fun z => by subst z; rw [hP] at e; cases e
    rw [upd_ne hne]
    exact h.prot _ _ e
/-- .. kept from here on -/
theorem HM.guard {K : PySem.W.Frag} {P : Hp} {ca : List Addr} {G H : Hp} {st : Store} {p : Addr} {o : HO} (h : HM K P ca G H st) (e : H p = some o) (hp : p ∉ ca) (g : G p = none) : HM K (upd P p o) ca G H st :=
  ⟨h.sub, h.len, h.nd, h.cell, fun b u q => by
    by_cases hb : b = p
    · subst hb
      rw [upd_same] at q
      rw [← q]
      exact e
    · rw [upd_ne hb] at q
      exact h.prot _ _ q, fun a ha => by
    rw [upd_ne (fun z => by subst z; exact hp ha)]
    exact h.pdis a ha, fun b u q => by
    by_cases hb : b = p
    · subst hb
      exact g
    · rw [upd_ne hb] at q
      exact h.pg b u q⟩
theorem HM.unguard {K : PySem.W.Frag} {P P' : Hp} {ca : List Addr} {G H : Hp} {st : Store} (h : HM K P' ca G H st) (s : Same P P') : HM K P ca G H st :=
  ⟨h.sub, h.len, h.nd, h.cell, s.trans h.prot, fun a ha => s.free (h.pdis a ha), fun a u q => h.pg a u (s _ _ q)⟩
def compM (g : GM) (own : List Nat) (fi : DM) (fc fe : EM) : EM := fun sl st => (match fi sl st with
    | none => none
    | some (ds, st1) => okC own (compL (fun d => g d (wipeS sl own)) fc fe ds st1))
theorem compM_list {g : GM} {own : List Nat} {fi : DM} {fc fe : EM} {sl : Sl} {st : Store} {w : W} {st' : Store} (e : compM g own fi fc fe sl st = some (w, st')) : ∃ ds, w = .d (.list ds) := by
  unfold compM at e
  split at e
  · cases e
  · unfold okC at e
    split at e
    · split at e
      · cases e; exact ⟨_, rfl⟩
      · cases e
    · cases e
theorem compL_len {g : D → Option Sl} {c elt : EM} : ∀ {ds : List D} {st : Store} {xs : List D} {st' : Store}, compL g c elt ds st = some (xs, st') → True := fun _ => trivial
/-- the reading of a comprehension -/
theorem tc_comp {t : Tg} {own : List Nat} {wi : DM} {fc fe : EM} (hown : ∀ i ∈ tgSlots t, i ∈ own) {σ : L2.St} {H : Hp} {Q : VK} (h : tN X.K (compM (stTg t) own wi fc fe) σ H Q) :
    tLc (tI X.K wi) (tG X.K (stTg t) (tgSlots t)) (tT X.K fc) (tE X.K fe) own σ H Q := by
  obtain ⟨P, ca, G, sl, st, w, st', hm, hs, e, q⟩ := h
  unfold compM at e
  split at e
  · cases e
  · rename_i ds st1 e1
    unfold okC at e
    split at e
    · rename_i outD st2 e2
      split at e
      · rename_i hz
        cases e
        refine ⟨P, ca, G, sl, st, ds, st1, hm, hs, e1, fun J ca1 G1 H1 n1 hm1 jo Dd nD => ?_⟩
        -- the invariant: what is made so far, what is left
        refine ⟨fun i m H' => i + m = ds.length ∧ ∃ ca' G' st'' acc accD rest, Nxt ca1 G1 ca' G' ∧ HM X.K P ca' G' H' st'' ∧ H' Dd = some (.lst acc) ∧ G' Dd = none ∧ Dd ∉ ca' ∧ P Dd = none ∧ Rps X.K G' acc accD ∧
            compL (fun d => stTg t d (wipeS sl own)) fc fe (ds.drop i) st'' = some (rest, st') ∧ accD ++ rest = outD, ⟨ds.length, by omega, ca1, G1, st1, [], [], outD, Nxt.refl, hm1.ext (Ext.junk hm1.sub nD), upd_same, hm1.sub.free nD, hm1.fresh nD, hm1.prot.free nD, .nil, by rw [List.drop_zero]; exact e2, rfl⟩, ?_⟩
        rintro i m H' ⟨him, ca', G', st'', acc, accD, rest, n', hm', hD, gD, cD, pD, ra, ec, eo⟩
        obtain ⟨jg, js⟩ := jo i P ca' G' H' st'' n'.s hm'
        by_cases hi : i < ds.length
        · -- a turn
          have hd : ds[i]? = some ds[i] := List.getElem?_eq_getElem hi
          obtain ⟨g1, g2⟩ := jg _ hd
          rw [List.drop_eq_getElem_cons hi] at ec
          unfold compL at ec
          split at ec
          · cases ec
          · rename_i sl1 es
            obtain ⟨wt, st3, e3, ec⟩ := andW_some ec
            refine .inr ⟨g1, fun H'' => ∃ ca2 G2 st4 acc accD rest, Nxt ca1 G1 ca2 G2 ∧ HM X.K P ca2 G2 H'' st4 ∧ H'' Dd = some (.lst acc) ∧ G2 Dd = none ∧ Dd ∉ ca2 ∧ P Dd = none ∧ Rps X.K G2 acc accD ∧
                compL (fun d => stTg t d (wipeS sl own)) fc fe (ds.drop (i + 1)) st4 = some (rest, st') ∧ accD ++ rest = outD, fun H'' hN => ⟨m - 1, by omega, by omega, hN⟩, fun x Hy y => ?_⟩
            obtain ⟨Gy, ex, rx⟩ := g2 x Hy y
            have hmy := hm'.ext ex
            have hDy : Hy Dd = some (.lst acc) := ex.h _ _ hD
            have gDy : Gy Dd = none := (ex.o _ _ hD).trans gD
            have hsy : SlOk X.K ca' Gy (wipe σ own) (wipeS sl own) := ((hs.mono n1).mono (n'.trans (Nxt.of ex.g))).wipe own
            refine ⟨P, ca', Gy, wipeS sl own, st'', ds[i], sl1, hmy, hsy, rx, es, fun σ2 hs2 l2 u2 => ⟨?_, ?_⟩⟩
            · rw [wipe_ext (σ := wipe σ own) own l2 fun j hj => u2 j fun z => hj (hown j z)]
              exact wipe_idem own
            · -- the test
              have hmg := hmy.guard hDy cD gDy
              split at ec
              · cases ec
              · rename_i et
                refine ⟨_, ca', Gy, sl1, st'', wt, st3, false, hmg, hs2, e3, et, fun ca2 G2 H2 n2 hm2 => ?_⟩
                refine iteF ?_
                have hD2 : H2 Dd = some (.lst acc) := hm2.prot _ _ upd_same
                have c2 : Dd ∉ ca2 := fun z => by
                  have := hm2.pdis _ z
                  rw [upd_same] at this
                  cases this
                have hm2' := hm2.unguard (same_upd pD)
                have g2 : G2 Dd = none := hm2.pg _ _ upd_same
                exact ⟨ca2, G2, st3, acc, accD, rest, (n'.trans (Nxt.of ex.g)).trans n2, hm2', hD2, g2, c2, pD, Rps.mono n2.s (Rps.mono ex.g ra), ec, eo⟩
              · rename_i et
                obtain ⟨z, st4, e4, ec⟩ := andD_some ec
                split at ec
                · cases ec
                · rename_i xs st5 e5
                  cases ec
                  refine ⟨_, ca', Gy, sl1, st'', wt, st3, true, hmg, hs2, e3, et, fun ca2 G2 H2 n2 hm2 => ?_⟩
                  refine iteT ?_
                  refine ⟨_, ca2, G2, sl1, st3, .d z, st4, hm2, hs2.mono n2, e4, fun v ca3 G3 H3 n3 hm3 r3 => ?_⟩
                  have hD3 : H3 Dd = some (.lst acc) := hm3.prot _ _ upd_same
                  have c3 : Dd ∉ ca3 := fun z => by
                    have := hm3.pdis _ z
                    rw [upd_same] at this
                    cases this
                  have hm3' := hm3.unguard (same_upd pD)
                  have g3 : G3 Dd = none := hm3.pg _ _ upd_same
                  have ra3 := Rps.mono (n2.trans n3).s (Rps.mono ex.g ra)
                  refine ⟨acc, hD3, ?_, ca3, G3, st4, acc ++ [v], accD ++ [z], xs, ((n'.trans (Nxt.of ex.g)).trans n2).trans n3, hm3'.other g3 c3 pD, upd_same, g3, c3, pD, Rps.append ra3 (.cons r3 .nil), e5, by rw [List.append_assoc]; exact eo⟩
                  rw [ra3.length]
                  rw [← eo] at hz
                  simp only [List.length_append, List.length_cons] at hz
                  omega
        · have ei : i = ds.length := by omega
          have ed : ds.drop i = [] := List.drop_of_length_le (by omega)
          rw [ed] at ec
          cases ec
          rw [List.append_nil] at eo
          subst eo
          exact .inl ⟨js (by omega), q Dd acc accD ca' G' H' (n1.trans n') rfl hm' hD gD cD pD ra (by rw [ra.length]; exact hz)⟩
      · cases e
    · cases e
end
end WM
namespace WM
open PySem PySem.Spec PyProof.Rows L2
section
variable {Φ : Fn} {k : Nat} {X : Cx} {C : CE}
theorem noStar {n : Nat} {e x : Expr} {p : Pos} {e' : E} (h : cmpE n C e = some e') (z : e = .Starred x p) : False := by
  subst z
  cases n with
  | zero => cases h
  | succ n => simp [cmpE] at h
theorem noSlice {n : Nat} {e : Expr} {a b c : Option Expr} {p : Pos} {e' : E} (h : cmpE n C e = some e') (z : e = .Slice a b c p) : False := by
  subst z
  cases n with
  | zero => cases h
  | succ n => simp [cmpE] at h
theorem noSet {n : Nat} {e : Expr} {a : List Expr} {k : Nat} {p : Pos} {e' : E} (h : cmpE n C e = some e') (z : e = .Set a k p) : False := by
  subst z
  cases n with
  | zero => cases h
  | succ n => simp [cmpE] at h
theorem star_ne {e : Expr} {es : List Expr} {env : Env} (h : ∀ x p, e ≠ .Starred x p) : starEach (e :: es) env = (false, eval e env) :: starEach es env := by
  cases e <;> first | rfl | exact absurd rfl (h _ _)
theorem star_of {n : Nat} {e : Expr} {es : List Expr} {env : Env} {e' : E} (h : cmpE n C e = some e') : starEach (e :: es) env = (false, eval e env) :: starEach es env := star_ne fun x p z => noStar h z
theorem cmpR_noStar {n : Nat} {e x : Expr} {p : Pos} {e' : E} (h : cmpR n C e = some e') (z : e = .Starred x p) : False := by
  subst z
  cases n with
  | zero => cases h
  | succ n =>
    unfold cmpR at h
    exact noStar h rfl
theorem star_ofR {n : Nat} {e : Expr} {es : List Expr} {env : Env} {e' : E} (h : cmpR n C e = some e') : starEach (e :: es) env = (false, eval e env) :: starEach es env := star_ne fun x p z => cmpR_noStar h z
theorem plainIx_of {n : Nat} {b : Expr} {e' : E} (h : cmpE n C b = some e') : PlainIx b := by
  intro o i
  cases b <;> first | rfl | exact (noSlice h rfl).elim
theorem plain_es : ∀ {n : Nat} {es : List Expr} {es' : Es} {env : Env} {pos : Pos}, cmpEs n C es = some es' → (backTo pos (starEach es env)).any (·.1) = false
  | 0, _, _, _, _, h => by cases h
  | n + 1, [], _, _, _, _ => rfl
  | n + 1, e :: es, es', env, pos, h => by
    unfold cmpEs at h
    simp only at h
    split at h
    · rename_i a b h1 h2
      rw [star_of h1]
      show (false || (backTo pos (starEach es env)).any (·.1)) = false
      rw [plain_es h2] <;> rfl
    · cases h
theorem plain_rs : ∀ {n : Nat} {es : List Expr} {es' : Es} {env : Env} {pos : Pos}, cmpRs n C es = some es' → (backTo pos (starEach es env)).any (·.1) = false
  | 0, _, _, _, _, h => by cases h
  | n + 1, [], _, _, _, _ => rfl
  | n + 1, e :: es, es', env, pos, h => by
    unfold cmpRs at h
    simp only at h
    split at h
    · rename_i a b h1 h2
      rw [star_ofR h1]
      show (false || (backTo pos (starEach es env)).any (·.1)) = false
      rw [plain_rs h2] <;> rfl
    · cases h
theorem runEs_len : ∀ {es : Es} {sl : Sl} {st : Store} {ws : List W} {st' : Store}, runEs Φ es sl st = some (ws, st') → ∀ {n : Nat} {xs : List Expr}, cmpRs n C xs = some es → ws.length = xs.length
  | .nil, _, _, _, _, h, n, xs, hc => by
    cases h
    cases n with
    | zero => cases hc
    | succ n =>
      unfold cmpRs at hc
      cases xs with
      | nil => rfl
      | cons x xs =>
        simp only at hc
        split at hc <;> cases hc
  | .cons e es, sl, st, ws, st', h, n, xs, hc => by
    obtain ⟨w, st1, e1, h⟩ := andW_some (show andW (runE Φ e sl st) (fun w st1 => (match runEs Φ es sl st1 with
      | none => none
      | some (ws, st2) => some (w :: ws, st2))) = some (ws, st') from h)
    split at h
    · cases h
    · rename_i ws2 st2 e2
      cases h
      cases n with
      | zero => cases hc
      | succ n =>
        unfold cmpRs at hc
        cases xs with
        | nil => cases hc
        | cons x xs =>
          simp only at hc
          split at hc
          · rename_i a b h1 h2
            cases hc
            rw [List.length_cons, List.length_cons, runEs_len e2 h2]
          · cases hc
structure SndE (Φ : Fn) (k n : Nat) : Prop where
  e : ∀ X C, XOk Φ k X C → ∀ e e', cmpE n C e = some e' → PE X e (tE X.K (runE Φ e'))
  t : ∀ X C, XOk Φ k X C → ∀ e e', cmpE n C e = some e' → PT X e (tT X.K (runE Φ e'))
  w : ∀ X C, XOk Φ k X C → ∀ op vs pos e', cmpE n C (.BoolOp op vs pos) = some e' → PW X (.BoolOp op vs pos) (tT X.K (runE Φ e'))
  r : ∀ X C, XOk Φ k X C → ∀ e e', cmpR n C e = some e' → PE X e (tE X.K (runE Φ e'))
  es : ∀ X C, XOk Φ k X C → ∀ e e', cmpEs n C e = some e' → PA X e (tA X.K (runEs Φ e'))
  rs : ∀ X C, XOk Φ k X C → ∀ e e', cmpRs n C e = some e' → PA X e (tA X.K (runEs Φ e'))
  o : ∀ X C, XOk Φ k X C → ∀ e e', cmpO n C e = some e' → PO X e (tO X.K (runO Φ e'))
  c : ∀ X C, XOk Φ k X C → ∀ e e', cmpC n C e = some e' → PTs X e (tT X.K (runC Φ e'))
  i : ∀ X C, XOk Φ k X C → ∀ tg e e', cmpI n C tg e = some e' → PI X tg e (tI X.K (runI Φ e'))
theorem constD_ok {c : Const} {d : D} {j : Nat} {pos : Pos} (h : constD c = some d) : PE X (.Constant c j pos) (tE X.K fun _ st => some (.d d, st)) := by
  cases c with
  | none => cases h; exact se_lit pe_non fun _ => .non
  | bool b => cases h; exact se_lit pe_bl fun _ => .bl b
  | int i => cases h; exact se_lit pe_int fun _ => .int i
  | str s => cases h; exact se_lit pe_str fun _ => .str s
  | _ => cases h
theorem st_pair {e : Expr} {f : EM} (he : ∀ whole, isTrue e X.env whole = (do let v ← whole; standAt e.pos; holding [v] (truthy v))) (h : PE X e (tE X.K f)) : PE X e (tE X.K f) ∧ PT X e (tT X.K f) := ⟨h, st_val h he⟩
theorem snd_e0 : SndE Φ k 0 :=
  ⟨fun _ _ _ _ _ h => absurd h (fun z => by cases z), fun _ _ _ _ _ h => absurd h (fun z => by cases z), fun _ _ _ _ _ _ _ h => absurd h (fun z => by cases z), fun _ _ _ _ _ h => absurd h (fun z => by cases z), fun _ _ _ _ _ h => absurd h (fun z => by cases z), fun _ _ _ _ _ h => absurd h (fun z => by cases z), fun _ _ _ _ _ h => absurd h (fun z => by cases z), fun _ _ _ _ _ h => absurd h (fun z => by cases z), fun _ _ _ _ _ _ h => absurd h (fun z => by cases z)⟩
/-- a value and a test at once -/
theorem snd_et {n : Nat} (ih : SndE Φ k n) (xo : XOk Φ k X C) (e : Expr) (e' : E) (h : cmpE (n + 1) C e = some e') : PE X e (tE X.K (runE Φ e')) ∧ PT X e (tT X.K (runE Φ e')) := by
  unfold cmpE at h
  split at h
  · -- Constant
    rename_i c j pos
    cases e1 : constD c with
    | none => rw [e1] at h; cases h
    | some d =>
      rw [e1] at h
      cases h
      exact st_pair (fun _ => rfl) (constD_ok e1)
  · -- Name
    rename_i x pos
    split at h
    · rename_i i e1
      cases h
      obtain ⟨q1, q2, q3, q4⟩ := slotOf_ok xo e1
      exact st_pair (fun _ => rfl) (se_var (pe_var q1 q2 q3 q4))
    · split at h
      · rename_i d e1
        cases h
        obtain ⟨gl, ⟨v, u, m1, rv, rd⟩, d1, d2⟩ := globOf_ok xo e1
        exact st_pair (fun _ => rfl) (se_lit (pe_glob gl m1 rv d1) rd)
      · cases h
  · -- BinOp
    split at h
    · rename_i a' b' h1 h2
      split at h
      · cases h
        exact st_pair (fun _ => rfl) (se_bin (ih.e X C xo _ _ h1) (ih.e X C xo _ _ h2))
      · cases h
    · cases h
  · -- neg
    rename_i a pos
    cases e1 : cmpE n C a with
    | none => rw [e1] at h; cases h
    | some a' =>
      rw [e1] at h
      cases h
      exact st_pair (fun _ => rfl) (se_neg (ih.e X C xo _ _ e1))
  · -- not
    rename_i a pos
    cases e1 : cmpE n C a with
    | none => rw [e1] at h; cases h
    | some a' =>
      rw [e1] at h
      cases h
      exact ⟨se_not (ih.e X C xo _ _ e1), st_not (ih.t X C xo _ _ e1)⟩
  · -- one
    rename_i op a pos
    refine ⟨pe_one (ih.e X C xo _ _ h), ?_⟩
    cases op with
    | And => exact (st_and1 (ih.t X C xo _ _ h)).pt
    | Or => exact (st_or1 (ih.t X C xo _ _ h)).pt
  · -- and
    split at h
    · rename_i a' b' h1 h2
      cases h
      exact ⟨se_and (ih.e X C xo _ _ h1) (ih.e X C xo _ _ h2), (st_and (ih.t X C xo _ _ h1) (ih.w X C xo _ _ _ _ h2)).pt⟩
    · cases h
  · -- or
    split at h
    · rename_i a' b' h1 h2
      cases h
      exact ⟨se_or (ih.e X C xo _ _ h1) (ih.e X C xo _ _ h2), (st_or (ih.t X C xo _ _ h1) (ih.w X C xo _ _ _ _ h2)).pt⟩
    · cases h
  · -- compare
    split at h
    · rename_i a' b' h1 h2
      split at h
      · cases h
      · rename_i hk
        cases h
        have hk := Bool.not_eq_true _ ▸ hk
        exact ⟨se_cmp xo (ih.e X C xo _ _ h1) (ih.e X C xo _ _ h2) hk, st_cmp xo (ih.e X C xo _ _ h1) (ih.e X C xo _ _ h2) hk⟩
    · cases h
  · split at h
    · rename_i a' b' c' h1 h2 h3
      split at h
      · cases h
      · rename_i hk
        cases h
        have hk := Bool.not_eq_true _ ▸ hk
        exact ⟨se_cmp2 xo (ih.e X C xo _ _ h1) (ih.e X C xo _ _ h2) (ih.e X C xo _ _ h3) hk, st_cmp2 xo (ih.e X C xo _ _ h1) (ih.e X C xo _ _ h2) (ih.e X C xo _ _ h3) hk⟩
    · cases h
  · split at h
    · rename_i a' b' c' d' h1 h2 h3 h4
      split at h
      · cases h
      · rename_i hk
        cases h
        have hk := Bool.not_eq_true _ ▸ hk
        exact ⟨se_cmp3 xo (ih.e X C xo _ _ h1) (ih.e X C xo _ _ h2) (ih.e X C xo _ _ h3) (ih.e X C xo _ _ h4) hk, st_cmp3 xo (ih.e X C xo _ _ h1) (ih.e X C xo _ _ h2) (ih.e X C xo _ _ h3) (ih.e X C xo _ _ h4) hk⟩
    · cases h
  · -- ifexp
    split at h
    · rename_i c' a' b' h1 h2 h3
      cases h
      exact ⟨se_ite (ih.t X C xo _ _ h1) (ih.e X C xo _ _ h2) (ih.e X C xo _ _ h3), st_ite (ih.t X C xo _ _ h1) (ih.t X C xo _ _ h2) (ih.t X C xo _ _ h3)⟩
    · cases h
  · -- tuple
    rename_i es j pos
    cases e1 : cmpEs n C es with
    | none => rw [e1] at h; cases h
    | some es' =>
      rw [e1] at h
      cases h
      exact st_pair (fun _ => rfl) (se_tup (ih.es X C xo _ _ e1))
  · -- list
    rename_i es pos
    cases e1 : cmpEs n C es with
    | none => rw [e1] at h; cases h
    | some es' =>
      rw [e1] at h
      cases h
      exact st_pair (fun _ => rfl) (se_lst (ih.es X C xo _ _ e1))
  · -- slice
    split at h
    · rename_i a' l' h' h1 h2 h3
      cases h
      exact st_pair (fun _ => rfl) (se_sl (ih.e X C xo _ _ h1) (ih.o X C xo _ _ h2) (ih.o X C xo _ _ h3))
    · cases h
  · -- reversed
    rename_i a k p1 p2 p3 pos
    cases e1 : cmpE n C a with
    | none => rw [e1] at h; cases h
    | some a' =>
      rw [e1] at h
      cases h
      exact st_pair (fun _ => rfl) (se_rev (ih.e X C xo _ _ e1))
  · -- item
    split at h
    · rename_i a' b' h1 h2
      cases h
      exact st_pair (fun _ => rfl) (se_ix (ih.r X C xo _ _ h1) (ih.e X C xo _ _ h2) (plainIx_of h2))
    · cases h
  · -- call
    rename_i x p a as pos
    split at h
    · rename_i i j hg
      split at h
      · rename_i es' e1
        split at h
        · rename_i hl
          cases h
          have e0 := e1
          cases n with
          | zero => cases e1
          | succ n =>
            unfold cmpRs at e1
            simp only at e1
            split at e1
            · rename_i a1 b1 h1 h2
              exact st_pair (fun _ => rfl) (se_call xo hg (ih.rs X C xo _ _ e0) hl (fun sl st ws st' q => by rw [runEs_len q e0]; exact hl) (star_ofR h1) (plain_rs h2))
            · cases e1
        · cases h
      · cases h
    · rename_i b hg
      have go : ∀ {es' : Es}, cmpEs n C (a :: as) = some es' → PE X (.Call (.Name x p) (a :: as) [] pos) (tE X.K (runE Φ (.blt b es'))) := by
        intro es' e1
        have e0 := e1
        cases n with
        | zero => cases e1
        | succ n =>
          unfold cmpEs at e1
          simp only at e1
          split at e1
          · rename_i a1 b1 h1 h2
            exact se_blt xo hg (ih.es X C xo _ _ e0) (star_of h1) (plain_es h2)
          · cases e1
      have goR : ∀ {es' : Es}, cmpRs n C (a :: as) = some es' → PE X (.Call (.Name x p) (a :: as) [] pos) (tE X.K (runE Φ (.blt b es'))) := by
        intro es' e1
        have e0 := e1
        cases n with
        | zero => cases e1
        | succ n =>
          unfold cmpRs at e1
          simp only at e1
          split at e1
          · rename_i a1 b1 h1 h2
            exact se_blt xo hg (ih.rs X C xo _ _ e0) (star_ofR h1) (plain_rs h2)
          · cases e1
      split at h
      · rename_i a1 hs
        split at h
        · rename_i hx
          subst hx
          cases e1 : cmpE n C a1 with
          | none => rw [e1] at h; cases h
          | some a' =>
            rw [e1] at h
            cases h
            unfold setArg at hs
            split at hs
            · rename_i s p2 a2 q he
              split at hs
              · rename_i hset
                split at hs
                · rename_i hbs
                  obtain ⟨rfl, rfl⟩ := hbs
                  cases hs
                  cases he
                  exact st_pair (fun _ => rfl) (se_lset xo rfl hg hset (ih.e X C xo _ _ e1) (star_of e1))
                · cases hs
              · cases hs
            · cases hs
        · cases h
      split at h
      · cases e1 : cmpRs n C (a :: as) with
        | none => rw [e1] at h; cases h
        | some es' =>
          rw [e1] at h
          cases h
          exact st_pair (fun _ => rfl) (goR e1)
      · cases e1 : cmpEs n C (a :: as) with
        | none => rw [e1] at h; cases h
        | some es' =>
          rw [e1] at h
          cases h
          exact st_pair (fun _ => rfl) (go e1)
    · rename_i hg
      split at h
      · rename_i y p2
        split at h
        · rename_i a' t' h1 h2
          cases h
          cases hy : globOf C y with
          | none => rw [hy] at h2; cases h2
          | some g =>
            rw [hy] at h2
            exact st_pair (fun _ => rfl) (se_isi xo hg hy h2 (ih.e X C xo _ _ h1) (star_of h1))
        · cases h
      · cases h
    · cases h
  · -- comprehension
    rename_i elt tg iter ifs scope pos
    split at h
    · rename_i it t c e1 h1 h2 h3 h4
      split at h
      · rename_i hk
        cases h
        rw [Bool.and_eq_true] at hk
        have ok : BlkOk X.N X.env.scope scope (ownOf C scope) := by
          rw [xo.hN, xo.hsc]
          exact blkOk_by hk.1
        have hown := of_decide_eq_true hk.2
        have hit : ∀ x, foldedSetIterable iter X.env x = pure x := by
          intro x
          cases n with
          | zero => cases h1
          | succ n =>
            cases iter <;> first | rfl | (exfalso; unfold cmpI at h1; simp only at h1; cases n <;> simp [cmpE] at h1)
        refine st_pair (fun _ => rfl) ?_
        refine (pe_lc xo.calm (by rw [xo.hN]; exact xo.nd) (ih.i X C xo _ _ _ h1) ok (fun s H Ca cl fp => ?_) (fun s H Ca cl fp => ?_) (fun s H Ca cl fp => ?_) hit).weak fun σ H Q hh => tc_comp (wi := runI Φ it) (fc := runC Φ c) (fe := runE Φ e1) hown (tN_of (fun _ _ _ _ q => compM_list q) hh)
        · exact (snd_t (blkE_ok xo ok s H Ca cl fp) n).1 _ _ h2
        · exact ih.c _ _ (blkE_ok xo ok s H Ca cl fp) _ _ h3
        · exact ih.e _ _ (blkE_ok xo ok s H Ca cl fp) _ _ h4
      · cases h
    · cases h
  · cases h
theorem snd_step {n : Nat} (ih : SndE Φ k n) : SndE Φ k (n + 1) where
  e := fun X C xo e e' h => (snd_et ih xo e e' h).1
  t := fun X C xo e e' h => (snd_et ih xo e e' h).2
  w := fun X C xo op vs pos e' h => by
    match vs, h with
    | [], h => cases op <;> (unfold cmpE at h; cases h)
    | [a], h =>
      have h : cmpE n C a = some e' := h
      cases op with
      | And => exact st_and1 (ih.t X C xo _ _ h)
      | Or => exact st_or1 (ih.t X C xo _ _ h)
    | a :: b :: r, h =>
      cases op with
      | And =>
        have h : (match cmpE n C a, cmpE n C (.BoolOp .And (b :: r) pos) with
          | some a', some b' => some (E.and a' b')
          | _, _ => none) = some e' := h
        split at h
        · rename_i a' b' h1 h2
          cases h
          exact st_and (ih.t X C xo _ _ h1) (ih.w X C xo _ _ _ _ h2)
        · cases h
      | Or =>
        have h : (match cmpE n C a, cmpE n C (.BoolOp .Or (b :: r) pos) with
          | some a', some b' => some (E.or a' b')
          | _, _ => none) = some e' := h
        split at h
        · rename_i a' b' h1 h2
          cases h
          exact st_or (ih.t X C xo _ _ h1) (ih.w X C xo _ _ _ _ h2)
        · cases h
  r := fun X C xo e e' h => by
    unfold cmpR at h
    split at h
    · split at h
      · rename_i x pos _ i e1
        cases h
        obtain ⟨q1, q2, q3, q4⟩ := slotOf_ok xo e1
        exact se_raw (pe_var q1 q2 q3 q4)
      · exact ih.e X C xo _ _ h
    · exact ih.e X C xo _ _ h
  es := fun X C xo es es' h => by
    unfold cmpEs at h
    cases es with
    | nil => cases h; exact sa_nil
    | cons e es =>
      simp only at h
      split at h
      · rename_i a b h1 h2
        cases h
        exact sa_cons (ih.e X C xo _ _ h1) (ih.es X C xo _ _ h2) (star_of h1)
      · cases h
  rs := fun X C xo es es' h => by
    unfold cmpRs at h
    cases es with
    | nil => cases h; exact sa_nil
    | cons e es =>
      simp only at h
      split at h
      · rename_i a b h1 h2
        cases h
        exact sa_cons (ih.r X C xo _ _ h1) (ih.rs X C xo _ _ h2) (star_ofR h1)
      · cases h
  o := fun X C xo e e' h => by
    unfold cmpO at h
    cases e with
    | none => cases h; exact so_none
    | some e =>
      simp only at h
      cases e1 : cmpE n C e with
      | none => rw [e1] at h; cases h
      | some a =>
        rw [e1] at h
        cases h
        exact so_some (ih.e X C xo _ _ e1)
  c := fun X C xo es e' h => by
    unfold cmpC at h
    split at h
    · cases h
      refine ⟨fun pins s σ H Q I ⟨P, ca, G, sl, st, w, st', t, hm, hs, e, et, q⟩ => pts_nil.run pins s σ H Q I ?_⟩
      cases e
      cases et
      exact q ca G H Nxt.refl hm
    · rename_i e
      cases e1 : cmpE n C e with
      | none => rw [e1] at h; cases h
      | some a =>
        rw [e1] at h
        cases h
        exact pts_one (ih.t X C xo _ _ e1)
    · cases h
  i := fun X C xo tg e e' h => by
    have val : ∀ {e : Expr} {e' : I}, (cmpE n C e).map .val = some e' → PI X tg e (tI X.K (runI Φ e')) := by
      intro e e' h
      cases e1 : cmpE n C e with
      | none => rw [e1] at h; cases h
      | some a =>
        rw [e1] at h
        cases h
        exact pi_val (ih.e X C xo _ _ e1)
    unfold cmpI at h
    split at h
    · rename_i x p a pos
      split at h
      · rename_i hg
        cases e1 : cmpE n C a with
        | none => rw [e1] at h; cases h
        | some a' =>
          rw [e1] at h
          cases h
          exact pi_rng1 xo hg (ih.e X C xo _ _ e1) (star_of e1)
      · rename_i hg
        split at h
        · cases e1 : cmpE n C a with
          | none => rw [e1] at h; cases h
          | some a' =>
            rw [e1] at h
            cases h
            exact pi_enumD xo hg (ih.e X C xo _ _ e1) (star_of e1)
        · cases h
      · exact val h
    · rename_i x p a b pos
      split at h
      · rename_i hg
        split at h
        · rename_i a' b' h1 h2
          cases h
          exact pi_rng2 xo hg (ih.e X C xo _ _ h1) (ih.e X C xo _ _ h2) (by rw [star_of h1, star_of h2] <;> rfl) (star_of h2)
        · cases h
      · rename_i hg
        split at h
        · rename_i h1 h2
          cases h
          exact pi_zipD xo hg (ih.e X C xo _ _ h1) (ih.e X C xo _ _ h2) (star_of h1) (star_of h2)
        · cases h
      · exact val h
    · exact val h
theorem snd_e : ∀ n : Nat, SndE Φ k n
  | 0 => snd_e0
  | n + 1 => snd_step (snd_e n)
end
end WM
namespace WM
open PySem PySem.Spec PyProof.Rows L2
section
variable {Φ : Fn} {k : Nat} {X : Cx} {C : CE}
variable {e a b c : Expr} {fa fb fc : EM} {pos : Pos}
theorem EndOk.mono {K : PySem.W.Frag} {P : Hp} {D : Ends} {ca ca1 : List Addr} {G G1 : Hp} {sl' : Sl} {st' : Store} (n : Nxt ca G ca1 G1) : ∀ {fl : Fl}, EndOk K P D ca G sl' st' fl → EndOk K P D ca1 G1 sl' st' fl
  | .nx, h => fun σ' ca' G' H' n' => h σ' ca' G' H' (n.trans n')
  | .bk, h => fun σ' ca' G' H' n' => h σ' ca' G' H' (n.trans n')
  | .ct, h => fun σ' ca' G' H' n' => h σ' ca' G' H' (n.trans n')
  | .ret w, h => fun v ca' G' H' n' => h v ca' G' H' (n.trans n')
def setM (i : Nat) (fa : EM) : SM := fun sl st => andW (fa sl st) fun w st1 => some (.nx, sl.set i (some w), st1)
/-- a value, then the name -/
theorem ts_set {i : Nat} {D : Ends} {σ : L2.St} {H : Hp} (h : tS X.K (setM i fa) D σ H) : tAsg (tE X.K fa) (gName i) D σ H := by
  obtain ⟨P, ca, G, sl, st, fl, sl', st', hm, hs, e, q⟩ := h
  obtain ⟨w, st1, e1, e⟩ := andW_some e
  cases e
  exact ⟨P, ca, G, sl, st, w, _, hm, hs, e1, fun v ca1 G1 H1 n1 hm1 r1 => q _ ca1 G1 H1 n1 hm1 ((hs.mono n1).set i r1)⟩
theorem ss_set {x : Str} {i : Nat} {px : Pos} (xo : XOk Φ k X C) (hi : stOf C x = some i) (he : PE X e (tE X.K fa)) (hs : swapsWith e (some (.Name x px)) pos.line X.env = pure false) : PS X (.Assign [.Name x px] e pos) (tS X.K (setM i fa)) := by
  obtain ⟨h1, h2, h3⟩ := stOf_ok xo hi
  exact (ps_set (by rw [xo.hN]; exact xo.nd) h1 h2 he hs h3).weak fun D σ H h => ts_set h
/-- a new list, as a cell -/
theorem HM.newcell {K : PySem.W.Frag} {P : Hp} {ca : List Addr} {G H : Hp} {st : Store} {p : Addr} {xs : List V} {ds : List D} (h : HM K P ca G H st) (h1 : H p = some (.lst xs)) (g : G p = none) (hp : p ∉ ca) (pP : P p = none) (r : Rps K G xs ds) (hz : xs.length ≤ sizeLine) :
    HM K P (ca ++ [p]) G H (st ++ [.lst false ds]) := by
  refine ⟨h.sub, by rw [List.length_append, List.length_append, h.len]; rfl, ?_, fun i a c e1 e2 => ?_, h.prot, fun a ha => ?_, h.pg⟩
  · rw [List.nodup_append]
    refine ⟨h.nd, by simp, fun a ha b hb z => ?_⟩
    rw [List.mem_singleton] at hb
    subst hb
    subst z
    exact hp ha
  · by_cases hi : i < ca.length
    · rw [List.getElem?_append_left hi] at e1
      rw [List.getElem?_append_left (by rw [← h.len]; exact hi)] at e2
      exact h.cell i a c e1 e2
    · have hl : i = ca.length := by
        have := (List.getElem?_eq_some_iff.mp e1).1
        rw [List.length_append, List.length_singleton] at this
        omega
      subst hl
      rw [List.getElem?_append_right (Nat.le_refl _), Nat.sub_self] at e1
      rw [List.getElem?_append_right (by rw [h.len]; exact Nat.le_refl _), h.len, Nat.sub_self] at e2
      cases e1
      cases e2
      exact ⟨xs, h1, r, hz, g⟩
  · rcases List.mem_append.mp ha with ha | ha
    · exact h.pdis a ha
    · rw [List.mem_singleton] at ha
      subst ha
      exact pP
theorem ss_setC {x : Str} {i : Nat} {px : Pos} (xo : XOk Φ k X C) (hi : stOf C x = some i) (he : PE X e (tN X.K fa)) (hs : swapsWith e (some (.Name x px)) pos.line X.env = pure false) : PS X (.Assign [.Name x px] e pos) (tS X.K fun sl st => newC i sl (fa sl st)) := by
  obtain ⟨h1, h2, h3⟩ := stOf_ok xo hi
  refine (ps_set (by rw [xo.hN]; exact xo.nd) h1 h2 he hs h3).weak fun D σ H ⟨P, ca, G, sl, st, fl, sl', st', hm, hs, e, q⟩ => ?_
  replace e : newC i sl (fa sl st) = some (fl, sl', st') := e
  unfold newC at e
  split at e
  · rename_i ds st1 e1
    cases e
    refine ⟨P, ca, G, sl, st, _, st1, hm, hs, e1, fun p xs ds' ca1 G1 H1 n1 ew hm1 hH hG hc hP r hz => ?_⟩
    cases ew
    have hm2 := hm1.newcell hH hG hc hP r hz
    have n2 : Nxt ca G (ca1 ++ [p]) G1 := ⟨n1.s, n1.p.trans (List.prefix_append _ _)⟩
    refine q _ (ca1 ++ [p]) G1 H1 n2 hm2 ((hs.mono n2).set i ⟨p, ?_, rfl⟩)
    rw [← hm1.len, List.getElem?_append_right (Nat.le_refl _), Nat.sub_self] <;> rfl
  · cases e
/-- new lists -/
theorem sn_rep {es : List Expr} {fs : AM} {p1 : Pos} (hs : PA X es (tA X.K fs)) (hb : PE X b (tE X.K fb)) : PE X (.BinOp (.List es p1) .Mult b pos) (tN X.K fun sl st => andD (mkLst (fs sl st)) fun x st1 => andD (fb sl st1) fun y st2 => okD (binD .Mult x y) st2) :=
  (pe_op op_rep (se_lst hs) hb).weak fun σ H Q ⟨P, ca, G, sl, st, w, st', hm, hs, e, q⟩ => by
    obtain ⟨x, st1, e1, e⟩ := andD_some e
    obtain ⟨y, st2, e2, e⟩ := andD_some e
    obtain ⟨d, e3, e4⟩ := okD_some e
    cases e4
    obtain ⟨ds, ed⟩ := mkLst_list e1
    cases ed
    refine ⟨P, ca, G, sl, st, _, _, hm, hs, e1, fun v1 ca1 G1 H1 n1 hm1 r1 => ⟨P, ca1, G1, sl, st1, _, _, hm1, hs.mono n1, e2, fun v2 ca2 G2 H2 n2 hm2 r2 => ?_⟩⟩
    unfold binD at e3
    simp only at e3
    cases y with
    | int k =>
      simp only at e3
      split at e3
      · rename_i hz
        cases e3
        obtain ⟨a, vs, rfl, h1, a1⟩ := Rp.list_inv (Rp.mono n2.s r1)
        refine ⟨a, k, vs, rfl, Rp.int_inv r2, hm2.sub _ _ h1, by omega, by omega, by rw [a1.length]; exact hz.2.2, fun p n => ?_⟩
        refine q p _ _ ca2 G2 _ (n1.trans n2) rfl (hm2.ext (Ext.junk hm2.sub n)) upd_same (hm2.sub.free n) (hm2.fresh n) (hm2.prot.free n) (a1.flat _) ?_
        have := (a1.flat k.toNat).length
        rw [this]
        have h2 : ∀ n : Nat, (flatten' n ds).length = ds.length * n := fun n => by
          unfold flatten'
          induction n with
          | zero => rfl
          | succ n ih => rw [List.replicate_succ, List.flatten_cons, List.length_append, ih, Nat.mul_succ, Nat.add_comm]
        rw [h2]
        exact hz.2.2
      · cases e3
    | _ => cases e3
theorem sn_list {x : Str} {p : Pos} (xo : XOk Φ k X C) (hg : globOf C x = some (.bi .list)) (ha : PE X a (tE X.K fa)) (he : starEach [a] X.env = (false, eval a X.env) :: starEach [] X.env) :
    PE X (.Call (.Name x p) [a] [] pos) (tN X.K (bltM .list (consM fa fun _ st => some ([], st)))) := by
  obtain ⟨gl, ok, d1, d2⟩ := globOf_ok xo hg
  rcases ok with ⟨ne, h1, h2⟩ | ⟨z, _⟩
  · refine (pe_callTy call_list_of gl h1 h2 (pa_cons ha pa_nil he) d2 d1 he rfl).weak fun σ H Q ⟨P, ca, G, sl, st, w, st', hm, hs, e, q⟩ => ?_
    replace e : (match consM fa (fun _ st => some ([], st)) sl st with
      | none => none
      | some (ws, st1) => okD (bltW .list ws st1) st1) = some (w, st') := e
    split at e
    · cases e
    · rename_i ws st1 e1
      obtain ⟨d, e2, e3⟩ := okD_some e
      cases e3
      obtain ⟨w1, st2, e4, e5⟩ := andW_some e1
      cases e5
      refine ⟨P, ca, G, sl, st, _, _, hm, hs, e4, fun v1 ca1 G1 H1 n1 hm1 r1 => ?_⟩
      cases w1 with
      | m j => cases e2
      | d x =>
        have e2 : bltD .list [x] = some d := e2
        cases x with
        | list xs =>
          replace e2 : (if xs.length ≤ sizeLine then some (PyData.list xs) else none) = some d := e2
          split at e2
          rotate_left
          · cases e2
          rename_i hz
          cases e2
          obtain ⟨a, vs, rfl, h3, a1⟩ := Rp.list_inv r1
          rw [← a1.length] at hz
          exact ⟨a, vs, rfl, .inl (SqL.of (hm1.sub _ _ h3)), fun p n => q p vs xs ca1 G1 _ n1 rfl (hm1.ext (Ext.junk hm1.sub n)) upd_same (hm1.sub.free n) (hm1.fresh n) (hm1.prot.free n) a1 hz⟩
        | tuple xs =>
          replace e2 : (if xs.length ≤ sizeLine then some (PyData.list xs) else none) = some d := e2
          split at e2
          rotate_left
          · cases e2
          rename_i hz
          cases e2
          obtain ⟨a, vs, rfl, h3, a1⟩ := Rp.tuple_inv r1
          rw [← a1.length] at hz
          exact ⟨a, vs, rfl, .inr (SqT.mono hm1.sub h3), fun p n => q p vs xs ca1 G1 _ n1 rfl (hm1.ext (Ext.junk hm1.sub n)) upd_same (hm1.sub.free n) (hm1.fresh n) (hm1.prot.free n) a1 hz⟩
        | _ => cases e2
  · cases z
end
end WM
namespace WM
open PySem PySem.Spec PyProof.Rows L2
section
variable {Φ : Fn} {k : Nat} {X : Cx} {C : CE}
variable {e a b c : Expr} {fa fb fc : EM} {pos : Pos}
theorem ss_unp {es : List Expr} {kk : Nat} {tp : Pos} {ts : Tgs} (hg : PG X (.Tuple es kk tp) (tG X.K (stTg (.t ts)) (tgSlots (.t ts)))) (he : PE X e (tE X.K fa)) (hw : swappedStores [.Tuple es kk tp] e X.env = pure none) :
    PS X (.Assign [.Tuple es kk tp] e pos) (tS X.K fun sl st => andD (fa sl st) fun x st1 => okN (stTg (.t ts) x sl) st1) := by
  have hs : swapsWithSole [.Tuple es kk tp] e pos.line X.env = pure false := by
    cases e <;> rfl
  refine (ps_asg he hg hs hw rfl).weak fun D σ H ⟨P, ca, G, sl, st, fl, sl', st', hm, hs, e, q⟩ => ?_
  obtain ⟨x, st1, e1, e⟩ := andD_some e
  unfold okN at e
  split at e
  · rename_i sl1 e2
    cases e
    exact ⟨P, ca, G, sl, st, _, _, hm, hs, e1, fun v ca1 G1 H1 n1 hm1 r1 => ⟨P, ca1, G1, sl, _, x, _, hm1, hs.mono n1, r1, e2, fun σ' hs' _ _ => q σ' ca1 G1 H1 n1 hm1 hs'⟩⟩
  · cases e
theorem swap_other {es : List Expr} {kk : Nat} {tp : Pos} (h : ∀ vs j p, e ≠ .Tuple vs j p) : swappedStores [.Tuple es kk tp] e X.env = pure none := by
  cases e <;> first | rfl | exact absurd rfl (h _ _ _)
theorem blockKind_ok (xo : XOk Φ k X C) : X.env.blockKind = .function := by
  unfold Env.blockKind
  have : X.env.scope.kind = .function := by rw [xo.hsc]; exact xo.kd
  rw [this]
  rfl
theorem swap_ok (xo : XOk Φ k X C) {ts vs : List Expr} {kk j : Nat} {tp vp : Pos} {r : Option (List Str)} (h : swapB C ts vs = some r) : swappedStores [.Tuple ts kk tp] (.Tuple vs j vp) X.env = pure r := by
  have hk : X.env.kindOf = fun x => C.sc.names.lookup x := funext fun x => by
    unfold Env.kindOf
    rw [xo.hsc]
  unfold swappedStores
  rw [blockKind_ok xo, hk]
  unfold swapB at h
  split at h
  · rename_i c1
    cases h
    exact (if_pos (by rw [c1]; rfl)).trans rfl
  · rename_i c1
    rw [Bool.not_eq_true] at c1
    refine (if_neg (by rw [c1]; decide)).trans ?_
    split at h
    · cases h
    · rename_i c2
      refine (if_neg c2).trans ?_
      simp only at h
      split at h
      · rename_i c3
        cases h
        exact (if_pos c3).trans rfl
      · rename_i c3
        refine (if_neg c3).trans ?_
        split at h
        · rename_i c4
          cases h
          exact (if_pos c4).trans rfl
        · rename_i c4
          refine (if_neg c4).trans ?_
          split at h
          · cases h
          · rename_i c5
            cases h
            exact (if_neg c5).trans rfl
/-- stores from the right -/
theorem store_row (xo : XOk Φ k X C) {ca : List Addr} {G H : Hp} {pins : List (Addr × Obj)} : ∀ {xs : List Str} {is : List Nat} {ws : List W} {vs : List V} {us : List Value} {sl sl' : Sl} {σ : L2.St} {s : Shared} {Q : L2.St → Prop},
    stsOf C xs = some is → RWs X.K ca G vs ws → Vals vs us → setAll is ws sl = some sl' → L2.Inv X pins σ H s → SlOk X.K ca G σ sl → (∀ σ', SlOk X.K ca G σ' sl' → Q σ') →
    wpAny (model X.prog X.w) X.A (assignInOrder (xs.map fun n => bindName X.env n) us) (fun _ s' => ∃ σ', L2.Inv X pins σ' H s' ∧ Q σ') X.xe s
  | [], is, ws, vs, us, sl, sl', σ, s, Q, h, r, rv, e, I, hs, q => by
    cases h
    cases ws with
    | nil =>
      cases e
      exact assignInOrder_nil ⟨σ, I, q σ hs⟩
    | cons _ _ => cases e
  | x :: xs, is, ws, vs, us, sl, sl', σ, s, Q, h, r, rv, e, I, hs, q => by
    have h : (match stOf C x, stsOf C xs with
      | some i, some is => some (i :: is)
      | _, _ => none) = some is := h
    split at h
    · rename_i i is' h1 h2
      cases h
      cases r with
      | nil => cases e
      | @cons v w vs ws rw' rr =>
        cases rv with
        | @cons _ u _ us ru rru =>
          have e : setAll is' ws (sl.set i (some w)) = some sl' := e
          obtain ⟨q1, q2, q3⟩ := stOf_ok xo h1
          refine assignInOrder_cons (wpAny_bindName (store_ok I (by rw [xo.hN]; exact xo.nd) q1 q2 ru (fun s2 I2 => ?_) q3))
          exact store_row xo h2 rr rru e I2 (hs.set i rw') q
    · cases h
theorem sts_append {x : Str} {i : Nat} : ∀ {xs : List Str} {is : List Nat}, stsOf C xs = some is → stOf C x = some i → stsOf C (xs ++ [x]) = some (is ++ [i])
  | [], _, h, h2 => by
    cases h
    show (match stOf C x, some [] with
      | some i, some is => some (i :: is)
      | _, _ => none) = _
    rw [h2]
    rfl
  | y :: ys, is, h, h2 => by
    have h : (match stOf C y, stsOf C ys with
      | some i, some is => some (i :: is)
      | _, _ => none) = some is := h
    split at h
    · rename_i j js e1 e2
      cases h
      show (match stOf C y, stsOf C (ys ++ [x]) with
      | some i, some is => some (i :: is)
      | _, _ => none) = _
      rw [e1, sts_append e2 h2]
      rfl
    · cases h
theorem sts_reverse : ∀ {xs : List Str} {is : List Nat}, stsOf C xs = some is → stsOf C xs.reverse = some is.reverse
  | [], _, h => by cases h; rfl
  | y :: ys, is, h => by
    have h : (match stOf C y, stsOf C ys with
      | some i, some is => some (i :: is)
      | _, _ => none) = some is := h
    split at h
    · rename_i j js e1 e2
      cases h
      rw [List.reverse_cons, List.reverse_cons]
      exact sts_append (sts_reverse e2) e1
    · cases h
theorem RWs.append {K : PySem.W.Frag} {ca : List Addr} {G : Hp} : ∀ {vs vs' : List V} {ws ws' : List W}, RWs K ca G vs ws → RWs K ca G vs' ws' → RWs K ca G (vs ++ vs') (ws ++ ws')
  | _, _, _, _, .nil, b => b
  | _, _, _, _, .cons h a, b => .cons h (RWs.append a b)
theorem RWs.reverse {K : PySem.W.Frag} {ca : List Addr} {G : Hp} : ∀ {vs : List V} {ws : List W}, RWs K ca G vs ws → RWs K ca G vs.reverse ws.reverse
  | _, _, .nil => .nil
  | _, _, .cons h a => by
    rw [List.reverse_cons, List.reverse_cons]
    exact RWs.append (RWs.reverse a) (.cons h .nil)
theorem Vals.rev : ∀ {xs : List V} {us : List Value}, Vals xs us → Vals xs.reverse us.reverse
  | _, _, .nil => .nil
  | _, _, .cons r t => by
    rw [List.reverse_cons, List.reverse_cons]
    exact L2.Vals.append (Vals.rev t) (.cons r .nil)
theorem setAll_len : ∀ {is : List Nat} {ws : List W} {sl sl' : Sl}, setAll is ws sl = some sl' → ws.length = is.length
  | [], [], _, _, _ => rfl
  | [], _ :: _, _, _, h => by cases h
  | _ :: _, [], _, _, h => by cases h
  | i :: is, w :: ws, sl, sl', h => by
    have h : setAll is ws (sl.set i (some w)) = some sl' := h
    rw [List.length_cons, List.length_cons, setAll_len h]
theorem sts_len : ∀ {xs : List Str} {is : List Nat}, stsOf C xs = some is → xs.length = is.length
  | [], _, h => by cases h; rfl
  | y :: ys, is, h => by
    have h : (match stOf C y, stsOf C ys with
      | some i, some is => some (i :: is)
      | _, _ => none) = some is := h
    split at h
    · rename_i j js e1 e2
      cases h
      rw [List.length_cons, List.length_cons, sts_len e2]
    · cases h
def parM (is : List Nat) (fs : AM) : SM := fun sl st => (match fs sl st with
    | none => none
    | some (ws, st1) => okN (setAll is.reverse ws.reverse sl) st1)
theorem ss_par {ts vs : List Expr} {xs : List Str} {is : List Nat} {kk k2 : Nat} {tp pt2 : Pos} {fs : AM} (xo : XOk Φ k X C) (hx : stsOf C xs = some is) (hl : xs.length ≤ 3) (ha : PA X vs (tA X.K fs))
    (hw : swappedStores [.Tuple ts kk tp] (.Tuple vs k2 pt2) X.env = pure (some xs)) : PS X (.Assign [.Tuple ts kk tp] (.Tuple vs k2 pt2) pos) (tS X.K (parM is fs)) := by
  refine ⟨fun pins s σ H D I h => ?_⟩
  rw [exec_Assign_arm]
  refine wpAny_bind (wpAny_standAt ?_)
  have hs : swapsWithSole [.Tuple ts kk tp] (.Tuple vs k2 pt2) pos.line X.env = pure false := rfl
  rw [hs]
  refine wpAny_bind (wpAny_pure ?_)
  rw [if_neg (by decide)]
  obtain ⟨P, ca, G, sl, st, fl, sl', st', hm, hsl, e, q⟩ := h
  replace e : (match fs sl st with
    | none => none
    | some (ws, st1) => okN (setAll is.reverse ws.reverse sl) st1) = some (fl, sl', st') := e
  split at e
  · cases e
  · rename_i ws st1 e1
    unfold okN at e
    split at e
    · rename_i sl1 e2
      cases e
      refine wpAny_bind (Tuple_ (thn (ha.run _ pins s σ H (fun vs H1 => ∃ ca1 G1, Nxt ca G ca1 G1 ∧ HM X.K P ca1 G1 H1 st' ∧ RWs X.K ca1 G1 vs ws) I ⟨P, ca, G, sl, st, ws, st', hm, hsl, e1, fun vs ca1 G1 H1 n1 hm1 r1 => ⟨ca1, G1, n1, hm1, r1⟩⟩) fun us s1 ⟨vs1, H1, I1, rv, ca1, G1, n1, hm1, r1⟩ => ?_))
      have lw : ws.length = is.length := by
        have := setAll_len e2
        rw [List.length_reverse, List.length_reverse] at this
        exact this
      have lu : us.length = xs.length := by rw [← rv.length, r1.length, lw, sts_len hx]
      refine wpAny_newObj_type ?_ (by show us.toArray.size ≤ sizeLine; rw [List.size_toArray, lu]; exact Nat.le_trans hl (by decide))
      have I2 : L2.Inv X pins σ H1 { s1 with heap := s1.heap.push { cls := .type "tuple", data := .seq us.toArray } } := I1.kept (t' := s1.toks) fun b o e => Heap.get?_push_of_some _ e
      rw [hw]
      refine wpAny_bind (wpAny_pure ?_)
      show wpAny (model X.prog X.w) X.A (do rule "assign.swapped-stores"; let items ← unpackItems (.ref s1.heap.objs.size) xs.length none; assignInOrder (xs.reverse.map fun n => bindName X.env n) items.reverse; pure Flow.next) _ _ _
      have hsz : us.toArray.size = xs.length := by rw [List.size_toArray]; exact lu
      rw [← hsz]
      refine wpAny_bind (wpAny_rule (wpAny_bind (unpackItems_tuple (items := us.toArray) (I.ok.hd xo.calm) (IsTup.new s1.heap _) fun h' hx' => ?_)))
      have I3 := I2.kept (h' := h') (t' := s1.toks) fun b o e => hx' b o (Nat.ne_of_lt (Heap.lt_size e)) e
      refine wpAny_bind (thn (store_row xo (sts_reverse hx) r1.reverse (by simpa using Vals.rev rv) e2 I3 (hsl.mono n1) (Q := fun σ' => SlOk X.K ca1 G1 σ' sl') fun σ' h => h) fun _ s3 ⟨σ', I4, hs4⟩ => wpAny_pure ?_)
      exact ⟨σ', H1, I4, q σ' ca1 G1 H1 n1 hm1 hs4⟩
    · cases e
theorem HM.setcell {K : PySem.W.Frag} {P : Hp} {ca : List Addr} {G H : Hp} {st : Store} {j : Nat} {a : Addr} {ds es : List D} {ys : List V} (h : HM K P ca G H st) (ha : ca[j]? = some a) (hj : st[j]? = some (.lst false ds)) (r : Rps K G ys es) (hz : ys.length ≤ sizeLine) :
    HM K P ca G (upd H a (.lst ys)) (st.set j (.lst false es)) := by
  obtain ⟨xs, h1, h2, _, h3⟩ := h.cell j a _ ha hj
  have h3 : G a = none := h3
  have hP : P a = none := h.pdis a (List.mem_of_getElem? ha)
  refine ⟨fun b u e => by rw [upd_ne (fun z => by subst z; rw [h3] at e; cases e)]; exact h.sub _ _ e, by rw [List.length_set]; exact h.len, h.nd, fun i b c e1 e2 => ?_, fun b u e => by rw [upd_ne (fun z => by subst z; rw [hP] at e; cases e)]; exact h.prot _ _ e, h.pdis, h.pg⟩
  by_cases hi : j = i
  · subst hi
    rw [ha] at e1
    cases e1
    rw [List.getElem?_set_self (List.getElem?_eq_some_iff.mp hj).1] at e2
    cases e2
    exact ⟨ys, upd_same, r, hz, h3⟩
  · rw [List.getElem?_set_ne hi] at e2
    have hne : b ≠ a := fun z => by
      subst z
      obtain ⟨l1, e1'⟩ := List.getElem?_eq_some_iff.mp e1
      obtain ⟨l2, e2'⟩ := List.getElem?_eq_some_iff.mp ha
      exact hi ((List.getElem_inj h.nd).mp (e2'.trans e1'.symm))
    cases c with
    | lst fz ds' =>
      obtain ⟨zs, g1, g2, gz, g3⟩ := h.cell i b _ e1 e2
      exact ⟨zs, by rw [upd_ne hne]; exact g1, g2, gz, g3⟩
theorem ss_put {x : Str} {i : Nat} {px tp : Pos} (xo : XOk Φ k X C) (hi : slotOf C x = some i) (hk : PE X b (tE X.K fb)) (he : PE X e (tE X.K fa)) (ha : ∀ v, assign (.Subscript (.Name x px) b tp) X.env v = (do
      let ov ← holding [v] (eval (.Name x px) X.env)
      let iv ← holding [v, ov] (eval b X.env)
      standAt tp
      holding [v, ov, iv] (setItem ov iv v)
      release [v, ov, iv] [])) :
    PS X (.Assign [.Subscript (.Name x px) b tp] e pos) (tS X.K fun sl st => andD (fa sl st) fun x st1 => andD (fb sl st1) fun q st2 => putC i sl q x st2) := by
  obtain ⟨q1, q2, q3, q4⟩ := slotOf_ok xo hi
  have hs : swapsWithSole [.Subscript (.Name x px) b tp] e pos.line X.env = pure false := by cases e <;> rfl
  have hw : swappedStores [.Subscript (.Name x px) b tp] e X.env = pure none := by cases e <;> rfl
  refine (ps_asg he (pg_sub (pe_var q1 q2 q3 q4) hk set_list ha) hs hw rfl).weak fun D σ H ⟨P, ca, G, sl, st, fl, sl', st', hm, hs, e, q⟩ => ?_
  obtain ⟨x, st1, e1, e⟩ := andD_some e
  obtain ⟨y, st2, e2, e⟩ := andD_some e
  unfold putC at e
  split at e
  · rename_i j hj
    split at e
    · rename_i ds z hc
      split at e
      · rename_i n hn
        cases e
        refine ⟨P, ca, G, sl, st, _, _, hm, hs, e1, fun v1 ca1 G1 H1 n1 hm1 r1 => ?_⟩
        obtain ⟨v0, hv0, a, hca, rfl⟩ := (hs.mono n1).at_ i _ hj
        refine ⟨_, hv0, P, ca1, G1, sl, st1, _, _, hm1, hs.mono n1, e2, fun v2 ca2 G2 H2 n2 hm2 r2 => ?_⟩
        have hca2 := prefix_get n2.p hca
        obtain ⟨xs, h1, h2, hz⟩ := cell_read hm2 hca2 hc
        have r1' := Rp.mono n2.s r1
        refine ⟨a, xs, z, n, rfl, Rp.int_inv r2, h1, by rw [h2.length]; exact hn, ?_⟩
        exact q σ ca2 G2 _ (n1.trans n2) (hm2.setcell hca2 hc (Rps.set r1' n h2) (by rw [List.length_set]; exact hz)) (hs.mono (n1.trans n2))
      · cases e
    · cases e
  · cases e
theorem ss_app {x : Str} {i : Nat} {px apos cpos : Pos} (xo : XOk Φ k X C) (hi : slotOf C x = some i) (he : PE X e (tE X.K fa)) (hst : starEach [e] X.env = (false, eval e X.env) :: starEach [] X.env) (hline : (apos.endLine == cpos.line) = true) :
    PS X (.Expr (.Call (.Attribute (.Name x px) "append" apos) [e] [] cpos) pos) (tS X.K fun sl st => andD (fa sl st) fun x st1 => appC i sl x st1) := by
  obtain ⟨q1, q2, q3, q4⟩ := slotOf_ok xo hi
  have hfew : ((backTo cpos (starEach [e] X.env)).all (fun x => !x.1) && (backToKw cpos (keywordEach [] X.env)).all (fun x => x.1.isSome)
      && decide ([e].length + ([] : List Keyword).length + (if ([] : List Keyword).isEmpty then 0 else 1) < 30)) = true := by
    rw [hst]
    rfl
  refine (ps_expr (pe_bm PySem.F.plainAttrs_list PySem.F.slot_list_append PySem.F.type_list_append mt_append (pe_var q1 q2 q3 q4) (pa_cons he pa_nil hst) rfl hfew hline hst rfl)).weak fun D σ H ⟨P, ca, G, sl, st, fl, sl', st', hm, hs, e, q⟩ => ?_
  obtain ⟨x, st1, e1, e⟩ := andD_some e
  unfold appC at e
  split at e
  · rename_i j hj
    split at e
    · rename_i ds hc
      split at e
      · rename_i hz
        cases e
        obtain ⟨v0, hv0, a, hca, rfl⟩ := hs.at_ i _ hj
        have hlen : j < ca.length := (List.getElem?_eq_some_iff.mp hca).1
        have hjl : j < st.length := by rw [← hm.len]; exact hlen
        obtain ⟨ys, g1, _, _⟩ : ∃ ys, H a = some (.lst ys) ∧ True ∧ True := by
          have := hm.cell j a st[j] hca (List.getElem?_eq_getElem hjl)
          cases hcj : st[j] with
          | lst fz dd =>
            rw [hcj] at this
            obtain ⟨ys, g1, _⟩ := this
            exact ⟨ys, g1, trivial, trivial⟩
        refine ⟨.ref a, hv0, .inl ⟨rfl, ys, SqL.of g1⟩, P, ca, G, sl, st, _, _, hm, hs, e1, fun v1 ca1 G1 H1 n1 hm1 r1 => ?_⟩
        have hca1 := prefix_get n1.p hca
        obtain ⟨xs, h1, h2, hz'⟩ := cell_read hm1 hca1 hc
        refine ⟨a, xs, v1, rfl, rfl, h1, by rw [h2.length]; exact hz, ?_⟩
        exact q σ ca1 G1 _ n1 (hm1.setcell hca1 hc (Rps.append h2 (.cons r1 .nil)) (by rw [List.length_append, h2.length]; exact hz)) (hs.mono n1)
      · cases e
    · cases e
  · cases e
end
end WM
namespace WM
open PySem PySem.Spec PyProof.Rows L2
section
variable {Φ : Fn} {k : Nat} {X : Cx} {C : CE}
variable {e a b c : Expr} {fa fb fc : EM} {pos : Pos}
theorem ss_expr (he : PE X e (tE X.K fa)) (hs : swapsWith e none pos.line X.env = pure false) : PS X (.Expr e pos) (tS X.K fun sl st => andW (fa sl st) fun _ st1 => some (.nx, sl, st1)) :=
  (ps_expr he hs).weak fun D σ H ⟨P, ca, G, sl, st, fl, sl', st', hm, hs, e, q⟩ => by
    obtain ⟨w, st1, e1, e⟩ := andW_some e
    cases e
    exact ⟨P, ca, G, sl, st, w, _, hm, hs, e1, fun v ca1 G1 H1 n1 hm1 r1 => q σ ca1 G1 H1 n1 hm1 (hs.mono n1)⟩
theorem ss_ret (he : PE X e (tE X.K fa)) : PS X (.Return (some e) pos) (tS X.K fun sl st => andW (fa sl st) fun w st1 => some (.ret w, sl, st1)) :=
  (ps_ret he).weak fun D σ H ⟨P, ca, G, sl, st, fl, sl', st', hm, hs, e, q⟩ => by
    obtain ⟨w, st1, e1, e⟩ := andW_some e
    cases e
    exact ⟨P, ca, G, sl, st, w, _, hm, hs, e1, fun v ca1 G1 H1 n1 hm1 r1 => q v ca1 G1 H1 n1 hm1 r1⟩
theorem ss_retN : PS X (.Return none pos) (tS X.K fun sl st => some (.ret (.d .none), sl, st)) :=
  ps_retN.weak fun D σ H ⟨P, ca, G, sl, st, fl, sl', st', hm, hs, e, q⟩ => by
    cases e
    exact q _ ca G H Nxt.refl hm .non
theorem ss_pass : PS X (.Pass pos) (tS X.K fun sl st => some (.nx, sl, st)) :=
  ps_pass.weak fun D σ H ⟨P, ca, G, sl, st, fl, sl', st', hm, hs, e, q⟩ => by
    cases e
    exact q σ ca G H Nxt.refl hm hs
theorem ss_break : PS X (.Break pos) (tS X.K fun sl st => some (.bk, sl, st)) :=
  ps_break.weak fun D σ H ⟨P, ca, G, sl, st, fl, sl', st', hm, hs, e, q⟩ => by
    cases e
    exact q σ ca G H Nxt.refl hm hs
theorem ss_continue : PS X (.Continue pos) (tS X.K fun sl st => some (.ct, sl, st)) :=
  ps_continue.weak fun D σ H ⟨P, ca, G, sl, st, fl, sl', st', hm, hs, e, q⟩ => by
    cases e
    exact q σ ca G H Nxt.refl hm hs
theorem ss_never {s : Stmt} : PS X s (tS X.K fun _ _ => none) :=
  ps_never.weak fun D σ H ⟨P, ca, G, sl, st, fl, sl', st', hm, hs, e, q⟩ => by cases e
def iteSM (fc : EM) (ga gb : SM) : SM := fun sl st => andW (fc sl st) fun w st1 => (match truW w with
    | none => none
    | some true => ga sl st1
    | some false => gb sl st1)
theorem ss_ite {as bs : List Stmt} {ga gb : SM} (hc : PT X c (tT X.K fc)) (ha : PSs X as (tS X.K ga)) (hb : PSs X bs (tS X.K gb)) : PS X (.If c as bs pos) (tS X.K (iteSM fc ga gb)) :=
  (ps_if hc ha hb).weak fun D σ H ⟨P, ca, G, sl, st, fl, sl', st', hm, hs, e, q⟩ => by
    obtain ⟨w, st1, e1, e⟩ := andW_some e
    split at e
    · cases e
    · rename_i et
      exact ⟨P, ca, G, sl, st, w, st1, true, hm, hs, e1, et, fun ca1 G1 H1 n1 hm1 => iteT ⟨P, ca1, G1, sl, st1, fl, sl', st', hm1, hs.mono n1, e, q.mono n1⟩⟩
    · rename_i et
      exact ⟨P, ca, G, sl, st, w, st1, false, hm, hs, e1, et, fun ca1 G1 H1 n1 hm1 => iteF ⟨P, ca1, G1, sl, st1, fl, sl', st', hm1, hs.mono n1, e, q.mono n1⟩⟩
def seqM (g h : SM) : SM := fun sl st => (match g sl st with
    | none => none
    | some (.nx, sl1, st1) => h sl1 st1
    | some r => some r)
theorem sss_nil : PSs X [] (tS X.K fun sl st => some (.nx, sl, st)) :=
  pss_nil.weak fun D σ H ⟨P, ca, G, sl, st, fl, sl', st', hm, hs, e, q⟩ => by
    cases e
    exact q σ ca G H Nxt.refl hm hs
theorem sss_cons {s : Stmt} {ss : List Stmt} {g h : SM} (h1 : PS X s (tS X.K g)) (h2 : PSs X ss (tS X.K h)) : PSs X (s :: ss) (tS X.K (seqM g h)) :=
  (pss_cons h1 h2).weak fun D σ H ⟨P, ca, G, sl, st, fl, sl', st', hm, hs, e, q⟩ => by
    unfold seqM at e
    split at e
    · cases e
    · rename_i sl1 st1 e1
      exact ⟨P, ca, G, sl, st, .nx, sl1, st1, hm, hs, e1, fun σ' ca' G' H' n' hm' hs' => ⟨P, ca', G', sl1, st1, fl, sl', st', hm', hs', e, q.mono n'⟩⟩
    · rename_i r hr e1
      cases e
      refine ⟨P, ca, G, sl, st, fl, sl', st', hm, hs, e1, ?_⟩
      cases fl with
      | nx => exact absurd rfl (hr _ _)
      | bk => exact q
      | ct => exact q
      | ret w => exact q
theorem ss_for {tg iter : Expr} {body : List Stmt} {t : Tg} {fi : DM} {gb : SM} (xo : XOk Φ k X C) (hi : PI X tg iter (tI X.K fi)) (hg : PG X tg (tG X.K (stTg t) (tgSlots t))) (hb : PSs X body (tS X.K gb)) (hs : ∀ x, foldedSetIterable iter X.env x = pure x) :
    PS X (.For tg iter body [] pos) (tS X.K fun sl st => (match fi sl st with
    | none => none
    | some (ds, st1) => forL (stTg t) gb ds sl st1)) := by
  refine (ps_for xo.pass xo.calm hi hg hb hs).weak fun D σ H ⟨P, ca, G, sl, st, fl, sl', st', hm, hs, e, q⟩ => ?_
  replace e : (match fi sl st with
    | none => none
    | some (ds, st1) => forL (stTg t) gb ds sl st1) = some (fl, sl', st') := e
  split at e
  · cases e
  · rename_i ds st1 e1
    refine ⟨P, ca, G, sl, st, ds, st1, hm, hs, e1, fun J ca1 G1 H1 n1 hm1 jo => ?_⟩
    refine ⟨fun i m σ' H' => i + m = ds.length ∧ ∃ ca' G' sl2 st2, Nxt ca1 G1 ca' G' ∧ HM X.K P ca' G' H' st2 ∧ SlOk X.K ca' G' σ' sl2 ∧ forL (stTg t) gb (ds.drop i) sl2 st2 = some (fl, sl', st'),
      ⟨ds.length, by omega, ca1, G1, sl, st1, Nxt.refl, hm1, hs.mono n1, by rw [List.drop_zero]; exact e⟩, ?_⟩
    rintro i m σ' H' ⟨him, ca', G', sl2, st2, n', hm', hs', ef⟩
    obtain ⟨jg, js⟩ := jo i P ca' G' H' st2 n'.s hm'
    by_cases hi : i < ds.length
    · have hd : ds[i]? = some ds[i] := List.getElem?_eq_getElem hi
      obtain ⟨g1, g2⟩ := jg _ hd
      rw [List.drop_eq_getElem_cons hi] at ef
      unfold forL at ef
      split at ef
      · cases ef
      · rename_i sl3 e3
        refine .inr ⟨g1, fun σ'' H'' => ∃ ca2 G2 sl4 st4, Nxt ca1 G1 ca2 G2 ∧ HM X.K P ca2 G2 H'' st4 ∧ SlOk X.K ca2 G2 σ'' sl4 ∧ forL (stTg t) gb (ds.drop (i + 1)) sl4 st4 = some (fl, sl', st'), fun σ'' H'' hN => ⟨m - 1, by omega, by omega, hN⟩, fun x Hy y => ?_⟩
        obtain ⟨Gy, ex, rx⟩ := g2 x Hy y
        have hmy := hm'.ext ex
        have ny := n'.trans (Nxt.of (ca := ca') ex.g)
        refine ⟨P, ca', Gy, sl2, st2, ds[i], sl3, hmy, hs'.mono (Nxt.of ex.g), rx, e3, fun σ2 hs2 _ _ => ?_⟩
        split at ef
        · cases ef
        · rename_i sl4 st4 e4
          exact ⟨P, ca', Gy, sl3, st2, .nx, sl4, st4, hmy, hs2, e4, fun σ3 ca3 G3 H3 n3 hm3 hs3 => ⟨ca3, G3, sl4, st4, ny.trans n3, hm3, hs3, ef⟩⟩
        · rename_i sl4 st4 e4
          exact ⟨P, ca', Gy, sl3, st2, .ct, sl4, st4, hmy, hs2, e4, fun σ3 ca3 G3 H3 n3 hm3 hs3 => ⟨ca3, G3, sl4, st4, ny.trans n3, hm3, hs3, ef⟩⟩
        · rename_i sl4 st4 e4
          cases ef
          exact ⟨P, ca', Gy, sl3, st2, .bk, sl', st', hmy, hs2, e4, fun σ3 ca3 G3 H3 n3 hm3 hs3 => q σ3 ca3 G3 H3 ((n1.trans ny).trans n3) hm3 hs3⟩
        · rename_i w sl4 st4 e4
          cases ef
          exact ⟨P, ca', Gy, sl3, st2, .ret w, sl', st', hmy, hs2, e4, fun v ca3 G3 H3 n3 hm3 r3 => q v ca3 G3 H3 ((n1.trans ny).trans n3) hm3 r3⟩
    · have ei : i = ds.length := by omega
      have ed : ds.drop i = [] := List.drop_of_length_le (by omega)
      rw [ed] at ef
      cases ef
      exact .inl ⟨js (by omega), q σ' ca' G' H' (n1.trans n') hm' hs'⟩
theorem whlW_some {c : EM} {b : SM} {sl : Sl} {st : Store} {r : Fl × Sl × Store} (h : whlW c b sl st = some r) : ∃ n, whlN c b n sl st = some r := by
  unfold whlW at h
  split at h
  · rename_i e
    cases h
    exact ⟨_, e⟩
  · split at h
    · rename_i hx
      have e := Option.some.inj h
      have p := hx.choose_spec.choose_spec
      rw [e] at p
      exact ⟨_, p⟩
    · cases h
theorem ss_whl {body : List Stmt} {gb : SM} (xo : XOk Φ k X C) (hc : PT X c (tT X.K fc)) (hb : PSs X body (tS X.K gb)) : PS X (.While c body [] pos) (tS X.K fun sl st => whlW fc gb sl st) := by
  refine (ps_while xo.pass hc hb).weak fun D σ H ⟨P, ca, G, sl, st, fl, sl', st', hm, hs, e, q⟩ => ?_
  obtain ⟨n, en⟩ := whlW_some e
  refine ⟨fun m σ' H' => ∃ ca' G' sl2 st2, Nxt ca G ca' G' ∧ HM X.K P ca' G' H' st2 ∧ SlOk X.K ca' G' σ' sl2 ∧ whlN fc gb m sl2 st2 = some (fl, sl', st'), ⟨n, ca, G, sl, st, Nxt.refl, hm, hs, en⟩, ?_⟩
  rintro m σ' H' ⟨ca', G', sl2, st2, n', hm', hs', ew⟩
  cases m with
  | zero => cases ew
  | succ m =>
    obtain ⟨w, st3, e3, ew⟩ := andW_some ew
    split at ew
    · cases ew
    · rename_i et
      cases ew
      exact ⟨P, ca', G', _, st2, w, _, false, hm', hs', e3, et, fun ca3 G3 H3 n3 hm3 => iteF (q σ' ca3 G3 H3 (n'.trans n3) hm3 (hs'.mono n3))⟩
    · rename_i et
      refine ⟨P, ca', G', sl2, st2, w, st3, true, hm', hs', e3, et, fun ca3 G3 H3 n3 hm3 => iteT ?_⟩
      refine ⟨fun σ'' H'' => ∃ ca2 G2 sl4 st4, Nxt ca G ca2 G2 ∧ HM X.K P ca2 G2 H'' st4 ∧ SlOk X.K ca2 G2 σ'' sl4 ∧ whlN fc gb m sl4 st4 = some (fl, sl', st'), fun σ'' H'' hN => ⟨m, Nat.lt_succ_self _, hN⟩, ?_⟩
      have n13 := n'.trans n3
      split at ew
      · cases ew
      · rename_i sl4 st4 e4
        exact ⟨P, ca3, G3, sl2, st3, .nx, sl4, st4, hm3, hs'.mono n3, e4, fun σ3 ca4 G4 H4 n4 hm4 hs4 => ⟨ca4, G4, sl4, st4, n13.trans n4, hm4, hs4, ew⟩⟩
      · rename_i sl4 st4 e4
        exact ⟨P, ca3, G3, sl2, st3, .ct, sl4, st4, hm3, hs'.mono n3, e4, fun σ3 ca4 G4 H4 n4 hm4 hs4 => ⟨ca4, G4, sl4, st4, n13.trans n4, hm4, hs4, ew⟩⟩
      · rename_i sl4 st4 e4
        cases ew
        exact ⟨P, ca3, G3, sl2, st3, .bk, sl', st', hm3, hs'.mono n3, e4, fun σ3 ca4 G4 H4 n4 hm4 hs4 => q σ3 ca4 G4 H4 (n13.trans n4) hm4 hs4⟩
      · rename_i w2 sl4 st4 e4
        cases ew
        exact ⟨P, ca3, G3, sl2, st3, .ret w2, sl', st', hm3, hs'.mono n3, e4, fun v ca4 G4 H4 n4 hm4 r4 => q v ca4 G4 H4 (n13.trans n4) hm4 r4⟩
theorem swaps_plain {x : Str} {px : Pos} {l : Nat} (h : isLC e = false) : swapsWith e (some (.Name x px)) l X.env = pure false := by
  cases e <;> first | rfl | cases h
theorem hit_of {n : Nat} {tg iter : Expr} {it : I} (h1 : cmpI n C tg iter = some it) : ∀ x, foldedSetIterable iter X.env x = pure x := by
  intro x
  cases n with
  | zero => cases h1
  | succ n =>
    cases iter <;> first | rfl | (exfalso; unfold cmpI at h1; simp only at h1; cases n <;> simp [cmpE] at h1)
theorem noLC {n : Nat} {e' : E} (h : cmpE n C e = some e') : isLC e = false ∨ ∃ elt tg iter ifs scope p, e = .ListComp elt [⟨tg, iter, ifs, 0⟩] scope p := by
  cases n with
  | zero => cases h
  | succ n =>
    cases e with
    | ListComp elt gs scope p =>
      unfold cmpE at h
      split at h <;> first | (rename_i heq; cases heq; done) | skip
      all_goals first | (rename_i heq; cases heq; exact .inr ⟨_, _, _, _, _, _, rfl⟩) | cases h
    | SetComp elt gs scope p => simp [cmpE] at h
    | DictComp a b gs scope p => simp [cmpE] at h
    | _ => exact .inl rfl
structure SndS (Φ : Fn) (k n : Nat) : Prop where
  s : ∀ X C, XOk Φ k X C → ∀ e e', cmpS n C e = some e' → PS X e (tS X.K (runS Φ e'))
  ss : ∀ X C, XOk Φ k X C → ∀ e e', cmpSs n C e = some e' → PSs X e (tS X.K (runSs Φ e'))
end
end WM
namespace WM
open PySem PySem.Spec PyProof.Rows L2
section
variable {Φ : Fn} {k : Nat} {X : Cx} {C : CE}
variable {e a b c : Expr} {fa fb fc : EM} {pos : Pos}
theorem hit_of' {n : Nat} {tg iter : Expr} {it : I} (h1 : cmpI n C tg iter = some it) : ∀ x, foldedSetIterable iter X.env x = pure x := hit_of h1
/-- name = [..], the list laid into the name itself -/
theorem ss_lc {n : Nat} {x : Str} {i : Nat} {px lp : Pos} {elt tg iter : Expr} {ifs : List Expr} {scope : Scope} {e' : E} (xo : XOk Φ k X C) (hi : stOf C x = some i) (hl : X.env.scope.names.lookup x = some .local)
    (hsw : swapsWith (.ListComp elt [⟨tg, iter, ifs, 0⟩] scope lp) (some (.Name x px)) pos.line X.env = pure true) (h : cmpE n C (.ListComp elt [⟨tg, iter, ifs, 0⟩] scope lp) = some e') :
    PS X (.Assign [.Name x px] (.ListComp elt [⟨tg, iter, ifs, 0⟩] scope lp) pos) (tS X.K (setM i (runE Φ e'))) := by
  cases n with
  | zero => cases h
  | succ n =>
    obtain ⟨q1, q2, q3⟩ := stOf_ok xo hi
    have ih : SndE Φ k n := snd_e n
    unfold cmpE at h
    simp only at h
    split at h
    · rename_i it t c e1 h1 h2 h3 h4
      split at h
      · rename_i hk
        cases h
        rw [Bool.and_eq_true] at hk
        have ok : BlkOk X.N X.env.scope scope (ownOf C scope) := by
          rw [xo.hN, xo.hsc]
          exact blkOk_by hk.1
        have hown := of_decide_eq_true hk.2
        refine (ps_setLc xo.calm (by rw [xo.hN]; exact xo.nd) q1 hl hsw (ih.i X C xo _ _ _ h1) ok (fun s H Ca cl fp => ?_) (fun s H Ca cl fp => ?_) (fun s H Ca cl fp => ?_) (hit_of h1)).weak fun D σ H hh => tc_comp (wi := runI Φ it) (fc := runC Φ c) (fe := runE Φ e1) hown (tN_of (fun _ _ _ _ q => compM_list q) (ts_set hh))
        · exact (snd_t (blkE_ok xo ok s H Ca cl fp) n).1 _ _ h2
        · exact ih.c _ _ (blkE_ok xo ok s H Ca cl fp) _ _ h3
        · exact ih.e _ _ (blkE_ok xo ok s H Ca cl fp) _ _ h4
      · cases h
    · cases h
theorem swaps_lc {elt : Expr} {gs : List Comprehension} {scope : Scope} {lp px : Pos} {x : Str} {l : Nat} :
    swapsWith (.ListComp elt gs scope lp) (some (.Name x px)) l X.env = pure false ∨ (swapsWith (.ListComp elt gs scope lp) (some (.Name x px)) l X.env = pure true ∧ X.env.scope.names.lookup x = some .local) := by
  cases hb : (X.env.blockKind == .function && X.env.kindOf x == some .local && px.line == (Expr.ListComp elt gs scope lp).pos.line && !(scope.names.any fun (n, k) => n == x && (k == .local || k == .cell))) with
  | false => exact .inl (congrArg pure hb)
  | true =>
    refine .inr ⟨congrArg pure hb, ?_⟩
    rw [Bool.and_eq_true, Bool.and_eq_true, Bool.and_eq_true] at hb
    exact eq_of_beq hb.1.1.2
theorem cmpE_call_swap {f : Expr} {as : List Expr} {p : Pos} {o : Option Expr} {l : Nat} : swapsWith (.Call f as [] p) o l X.env = pure false := rfl
theorem cmpN_ok {n : Nat} {e' : E} (xo : XOk Φ k X C) (h : cmpN n C e = some e') : PE X e (tN X.K (runE Φ e')) ∧ isLC e = false := by
  cases n with
  | zero => cases h
  | succ n =>
    have ih : SndE Φ k n := snd_e n
    unfold cmpN at h
    simp only at h
    split at h
    · rename_i es p
      cases e1 : cmpEs n C es with
      | none => rw [e1] at h; cases h
      | some es' =>
        rw [e1] at h
        cases h
        exact ⟨sn_lst (ih.es X C xo _ _ e1), rfl⟩
    · split at h
      · rename_i es' b' h1 h2
        cases h
        exact ⟨sn_rep (ih.es X C xo _ _ h1) (ih.e X C xo _ _ h2), rfl⟩
      · cases h
    · split at h
      · rename_i a' hg h1
        cases h
        exact ⟨sn_list xo hg (ih.e X C xo _ _ h1) (star_of h1), rfl⟩
      · cases h
    · cases h
end
end WM
namespace WM
open PySem PySem.Spec PyProof.Rows L2
section
variable {Φ : Fn} {k : Nat} {X : Cx} {C : CE}
variable {e a b c : Expr} {fa fb fc : EM} {pos : Pos}
theorem snd_s0 : SndS Φ k 0 where
  s := fun X C xo e e' h => by cases h
  ss := fun X C xo e e' h => by cases h
theorem put_plain {n : Nat} {x : Str} {px tp : Pos} {k' : E} (h : cmpE n C b = some k') (v : Value) : assign (.Subscript (.Name x px) b tp) X.env v = (do
      let ov ← holding [v] (eval (.Name x px) X.env)
      let iv ← holding [v, ov] (eval b X.env)
      standAt tp
      holding [v, ov, iv] (setItem ov iv v)
      release [v, ov, iv] []) := by
  rw [assign]
  cases n with
  | zero => cases h
  | succ n =>
    cases b <;> first | rfl | (simp [cmpE] at h; done)
theorem swapB_len {ts vs : List Expr} {xs : List Str} (h : swapB C ts vs = some (some xs)) : xs.length ≤ 3 := by
  unfold swapB at h
  split at h
  · cases h
  · rename_i c1
    split at h
    · cases h
    · simp only at h
      split at h
      · cases h
      · rename_i c3
        split at h
        · cases h
        · split at h
          · cases h
          · cases h
            simp only [Bool.or_eq_true, not_or, bne_iff_ne, ne_eq, Decidable.not_not] at c3
            simp only [Bool.or_eq_true, not_or, Bool.not_eq_true', Bool.not_eq_false, beq_iff_eq] at c1
            rw [c3.1]
            have := c1.1
            omega
theorem snd_asg {n : Nat} {x : Str} {px : Pos} {s' : S} (xo : XOk Φ k X C) (h : (if decide (x ∈ C.cells) then (match stOf C x, cmpN n C e with
        | some i, some e' => some (S.setC i e')
        | _, _ => none)
      else (match stOf C x, cmpE n C e with
        | some i, some e' => some (S.set i e')
        | _, _ => none)) = some s') : PS X (.Assign [.Name x px] e pos) (tS X.K (runS Φ s')) := by
  split at h
  · split at h
    · rename_i i e' h1 h2
      cases h
      obtain ⟨q, ql⟩ := cmpN_ok xo h2
      exact ss_setC xo h1 q (swaps_plain ql)
    · cases h
  · split at h
    · rename_i i e' h1 h2
      cases h
      rcases noLC h2 with q | ⟨elt, tg, iter, ifs, scope, p, rfl⟩
      · exact ss_set xo h1 ((snd_e n).e X C xo _ _ h2) (swaps_plain q)
      · rcases swaps_lc (X := X) (elt := elt) (gs := [⟨tg, iter, ifs, 0⟩]) (scope := scope) (lp := p) (px := px) (x := x) (l := pos.line) with q | ⟨q, ql⟩
        · exact ss_set xo h1 ((snd_e n).e X C xo _ _ h2) q
        · exact ss_lc xo h1 ql q h2
    · cases h
theorem snd_unp {n : Nat} {ts : List Expr} {kk : Nat} {tp : Pos} {tg : Tgs} {e' : E} (xo : XOk Φ k X C) (h1 : cmpTs n C ts = some tg) (h2 : cmpE n C e = some e') (hw : swappedStores [.Tuple ts kk tp] e X.env = pure none) :
    PS X (.Assign [.Tuple ts kk tp] e pos) (tS X.K (runS Φ (.unp tg e'))) := by
  refine ss_unp ?_ ((snd_e n).e X C xo _ _ h2) hw
  refine (snd_t xo (n + 1)).1 _ (.t tg) ?_
  unfold cmpT
  simp only
  rw [h1]
  rfl
theorem snd_ss {n : Nat} (ih : SndS Φ k n) : SndS Φ k (n + 1) where
  s := fun X C xo s s' h => by
    have ie : SndE Φ k n := snd_e n
    unfold cmpS at h
    simp only at h
    split at h
    · exact snd_asg xo h
    · split at h
      · split at h
        · rename_i hs
          split at h
          · rename_i h1 h2
            cases h
            exact ss_par xo h1 (swapB_len hs) (ie.es X C xo _ _ h2) (swap_ok xo hs)
          · cases h
        · rename_i hs
          split at h
          · rename_i h1 h2
            cases h
            exact snd_unp xo h1 h2 (swap_ok xo hs)
          · cases h
        · cases h
      · rename_i hne
        split at h
        · rename_i h1 h2
          split at h
          · cases h
          · cases h
            exact snd_unp xo h1 h2 (swap_other fun vs j p z => hne _ _ _ z)
        · cases h
    · split at h
      · rename_i h1 h2 h3
        split at h
        · cases h
        · cases h
          exact ss_put xo h1 (ie.e X C xo _ _ h2) (ie.e X C xo _ _ h3) (put_plain h2)
      · cases h
    · split at h
      · rename_i h1 h2
        split at h
        · rename_i hk
          cases h
          rw [Bool.and_eq_true] at hk
          have ha := of_decide_eq_true hk.1
          subst ha
          exact ss_app xo h1 (ie.e X C xo _ _ h2) (star_of h2) hk.2
        · cases h
      · cases h
    · rename_i f as p pos _
      cases e1 : cmpE n C (.Call f as [] p) with
      | none => rw [e1] at h; cases h
      | some e' =>
        rw [e1] at h
        cases h
        exact ss_expr (ie.e X C xo _ _ e1) rfl
    · split at h
      · rename_i h1 h2 h3
        cases h
        exact ss_ite (ie.t X C xo _ _ h1) (ih.ss X C xo _ _ h2) (ih.ss X C xo _ _ h3)
      · cases h
    · split at h
      · rename_i h1 h2 h3
        cases h
        exact ss_for xo (ie.i X C xo _ _ _ h1) ((snd_t xo n).1 _ _ h2) (ih.ss X C xo _ _ h3) (hit_of h1)
      · cases h
    · split at h
      · rename_i h1 h2
        cases h
        exact ss_whl xo (ie.t X C xo _ _ h1) (ih.ss X C xo _ _ h2)
      · cases h
    · rename_i e pos
      cases e1 : cmpE n C e with
      | none => rw [e1] at h; cases h
      | some e' =>
        rw [e1] at h
        cases h
        exact ss_ret (ie.e X C xo _ _ e1)
    · cases h; exact ss_retN
    · cases h; exact ss_never
    · cases h; exact ss_pass
    · cases h; exact ss_break
    · cases h; exact ss_continue
    · cases h
  ss := fun X C xo ss s' h => by
    unfold cmpSs at h
    cases ss with
    | nil => cases h; exact sss_nil
    | cons s ss =>
      simp only at h
      split at h
      · rename_i h1 h2
        cases h
        exact sss_cons (ih.s X C xo _ _ h1) (ih.ss X C xo _ _ h2)
      · cases h
theorem snd_s : ∀ n : Nat, SndS Φ k n
  | 0 => snd_s0
  | n + 1 => snd_ss (snd_s n)
end
end WM
namespace WM
open PySem PySem.Spec PyProof.Rows L2
theorem RWs.slotsOk {K : PySem.W.Frag} {ca : List Addr} {G : Hp} {vs : List V} {ws : List W} (r : RWs K ca G vs ws) (N : List Str) : SlOk K ca G (L2.start N vs) (slots N.length ws) := by
  refine ⟨?_, fun i w e => ?_⟩
  · unfold L2.start slots
    rw [List.length_append, List.length_append, List.length_map, List.length_map, List.length_replicate, List.length_replicate, r.length]
  · unfold slots at e
    by_cases hi : i < ws.length
    · rw [List.getElem?_append_left (by simpa using hi), List.getElem?_map] at e
      cases e1 : ws[i]? with
      | none => rw [e1] at e; cases e
      | some w' =>
        rw [e1] at e
        cases e
        obtain ⟨v, h1, h2⟩ := r.get e1
        refine ⟨v, ?_, h2⟩
        unfold L2.start
        rw [List.getElem?_append_left (by rw [List.length_map, r.length]; exact hi), List.getElem?_map, h1]
        rfl
    · rw [List.getElem?_append_right (by simpa using hi), List.getElem?_replicate] at e
      split at e <;> cases e
theorem HM.back {K : PySem.W.Frag} {P : Hp} {ca ca' : List Addr} {G' H' : Hp} {st' : Store} (h : HM K P ca' G' H' st') (p : ca <+: ca') : HM K P ca G' H' (st'.take ca.length) := by
  obtain ⟨t, rfl⟩ := p
  have hl := h.len
  rw [List.length_append] at hl
  refine ⟨h.sub, by rw [List.length_take]; omega, (List.nodup_append.mp h.nd).1, fun i a c e1 e2 => ?_, h.prot, fun a ha => h.pdis a (List.mem_append_left _ ha), h.pg⟩
  have hi : i < ca.length := (List.getElem?_eq_some_iff.mp e1).1
  rw [List.getElem?_take_of_lt hi] at e2
  exact h.cell i a c (by rw [List.getElem?_append_left hi]; exact e1) e2
/-- a callee's cell, handed back as data -/
theorem HM.give {K : PySem.W.Frag} {P : Hp} {ca ca' : List Addr} {G' H' : Hp} {st' : Store} {j : Nat} {a : Addr} {fz : Bool} {ds : List D} (h : HM K P ca' G' H' st') (p : ca <+: ca') (hj : ca.length ≤ j) (ha : ca'[j]? = some a) (hc : st'[j]? = some (.lst fz ds)) :
    ∃ G2, Same G' G2 ∧ HM K P ca G2 H' (st'.take ca.length) ∧ Rp K G2 (.ref a) (.list ds) := by
  obtain ⟨xs, h1, h2, hz, h3⟩ := h.cell j a _ ha hc
  have hb := h.back p
  cases fz with
  | true =>
    have h3 : G' a = some (.lst xs) := h3
    exact ⟨G', Same.refl _, hb, .lst h3 h2⟩
  | false =>
    have h3 : G' a = none := h3
    have hna : a ∉ ca := fun z => by
      obtain ⟨i, hi, e⟩ := List.mem_iff_getElem.mp z
      have e1 : ca'[i]? = some a := prefix_get p (by rw [List.getElem?_eq_getElem hi, e])
      obtain ⟨l1, e1'⟩ := List.getElem?_eq_some_iff.mp e1
      obtain ⟨l2, e2'⟩ := List.getElem?_eq_some_iff.mp ha
      have := (List.getElem_inj h.nd).mp (e1'.trans e2'.symm)
      omega
    have sm : Same G' (upd G' a (.lst xs)) := same_upd h3
    refine ⟨upd G' a (.lst xs), sm, ⟨fun b u e => ?_, hb.len, hb.nd, fun i b c e1 e2 => ?_, hb.prot, hb.pdis, fun b u e => ?_⟩, .lst upd_same (Rps.mono sm h2)⟩
    · by_cases q : b = a
      · subst q
        rw [upd_same] at e
        cases e
        exact h1
      · rw [upd_ne q] at e
        exact hb.sub _ _ e
    · have hne : b ≠ a := fun z => hna (z ▸ List.mem_of_getElem? e1)
      have q := hb.cell i b c e1 e2
      cases c with
      | lst f2 ds2 =>
        obtain ⟨ys, q1, q2, q3, q4⟩ := q
        refine ⟨ys, q1, Rps.mono sm q2, q3, ?_⟩
        cases f2 <;> (show upd G' a (.lst xs) b = _; rw [upd_ne hne]; exact q4)
    · have hne : b ≠ a := fun z => by
        subst z
        rw [h.pdis b (List.mem_of_getElem? ha)] at e
        cases e
      rw [upd_ne hne]
      exact h.pg b u e
/-- what a def of the text is, once its text is read -/
structure FdOk (gl : List (Str × GV)) (cells : List Str) (ps N : List Str) (scope : Scope) (body : List Stmt) (fd : Fd) : Prop where
  S : FnScope N ps scope
  n : fd.n = N.length
  ps : fd.ps = ps.length
  dbg : ∀ x ∈ N, (x == ("__debug__" : Str)) = false ∧ (x == ("__classdict__" : Str)) = false
  gdbg : ∀ x g, gl.lookup x = some g → (x == ("__debug__" : Str)) = false ∧ x ≠ ("__name__" : Str)
  own : ∃ own fuel, (∀ x ∈ own, Loc scope x) ∧ cmpSs fuel ⟨N, scope, own, gl, cells⟩ body = some fd.body
section
variable {P : Program} {w : World} {K : PySem.W.Frag} {mg : Str → Option Value} {base : Heap}
/-- a global name, at the module's heap -/
def GlOk (Φ : Fn) (k : Nat) (P : Program) (w : World) (K : PySem.W.Frag) (mg : Str → Option Value) (base : Heap) (x : Str) : GV → Prop
  | .fn i n => ∃ f fd ps, mg x = some (.ref f) ∧ PySem.W.keepIn K (.ref f) = true ∧ Binds K fd ps [] ∧ ps.length = n ∧ FnOk P w K mg base CX0 k f fd ps (spD K (Φ i) n)
  | .con d => ∃ v u, mg x = some u ∧ RelV v u ∧ ∀ G, Rp K G v d
  | .bi b => (b ≠ .gcd ∧ mg x = none ∧ bootBuiltins x = some b.val) ∨ (b = .gcd ∧ mg x = some b.val)
  | .ty t => mg x = none ∧ bootBuiltins x = some (.type t.nm)
  | .isi => mg x = none ∧ bootBuiltins x = some (.builtin "isinstance")
  | .set => mg x = none
  | .rng => mg x = none ∧ x = "range"
  | .zip => mg x = none ∧ x = "zip"
  | .enum => mg x = none ∧ x = "enumerate"
theorem GlOk.at {Φ : Fn} {k : Nat} {X : Cx} {x : Str} {g : GV} (h : GlOk Φ k X.prog X.w X.K X.mg X.base x g) : GOk Φ k X x g := by
  cases g <;> exact h
theorem fd_ok {Φ : Fn} {k : Nat} {gl : List (Str × GV)} {cells ps N : List Str} {scope : Scope} {body : List Stmt} {fd : Fd} {x qual : Str} {params : Arguments} {f : Addr} {fdd : FuncData}
    (F : FunD K x qual params body scope [] [] f fdd) (o : FdOk gl cells ps N scope body fd) (g : ∀ x g, gl.lookup x = some g → GlOk Φ k P w K mg base x g) :
    FnOk P w K mg base CX0 (k + 1) f fdd ps (spD K (runF Φ fd) ps.length) := by
  obtain ⟨own, fuel, hown, hc⟩ := o.own
  refine F.ok o.S (fun vs H Q E h => h.1) fun cdv A outer s H vs Q E hr ⟨hl, P0, ca, G, st, ws, r, st', hm, hw, e, q⟩ => ?_
  have xo : XOk Φ k (cxOf CX0 P w K mg base N qual scope f cdv A outer s H E).nox ⟨N, scope, own, gl, cells⟩ :=
    ⟨rfl, rfl, o.S.kind, o.S.nd, rfl, o.dbg, fun x hx => ⟨hown x hx, .inl rfl⟩, o.gdbg, fun x gg h => GlOk.at (g x gg h), hr, rfl⟩
  refine ⟨_, ((snd_s fuel).ss _ _ xo _ _ hc).nox, ?_⟩
  unfold runF at e
  split at e
  rotate_left
  · cases e
  have hs : SlOk K ca G (L2.start N vs) (slots fd.n ws) := by
    rw [o.n]
    exact hw.slotsOk N
  cases er : runSs Φ fd.body (slots fd.n ws) st with
  | none => rw [er] at e; cases e
  | some z =>
    obtain ⟨fl, sl', st''⟩ := z
    rw [er] at e
    have hn := hm.len
    cases fl with
    | nx =>
      cases e
      refine ⟨P0, ca, G, _, st, .nx, sl', st'', hm, hs, er, fun σ' ca' G' H' n' hm' hs' => q _ G' H' n'.s ?_ .non⟩
      rw [← hn]
      exact hm'.back n'.p
    | bk => cases e
    | ct => cases e
    | ret rw0 =>
      cases rw0 with
      | d x =>
        cases e
        refine ⟨P0, ca, G, _, st, .ret _, sl', st'', hm, hs, er, fun v ca' G' H' n' hm' r' => q v G' H' n'.s ?_ r'⟩
        rw [← hn]
        exact hm'.back n'.p
      | m j =>
        refine ⟨P0, ca, G, _, st, .ret _, sl', st'', hm, hs, er, fun v ca' G' H' n' hm' r' => ?_⟩
        obtain ⟨a, ha, rfl⟩ := r'
        have e : (if j < st.length then some (W.m j, st''.take st.length) else (match st''[j]? with
    | some (.lst _ ds) => some (.d (.list ds), st''.take st.length)
    | none => none)) = some (r, st') := e
        split at e
        · rename_i hj
          cases e
          refine q _ G' H' n'.s (by rw [← hn]; exact hm'.back n'.p) ⟨a, ?_, rfl⟩
          obtain ⟨t, et⟩ := n'.p
          rw [← et, List.getElem?_append_left (by rw [hn]; exact hj)] at ha
          exact ha
        · rename_i hj
          split at e
          · rename_i fz ds hcell
            cases e
            obtain ⟨G2, s2, hm2, r2⟩ := hm'.give n'.p (by rw [hn]; omega) ha hcell
            rw [hn] at hm2
            exact q _ G2 H' (n'.s.trans s2) hm2 r2
          · cases e
end
end WM
namespace WM
open PySem PySem.Spec PyProof.Rows L2
@[simp] theorem andW_s {β : Type} (w : W) (st : Store) (f : W → Store → Option β) : andW (some (w, st)) f = f w st := rfl
@[simp] theorem andD_s {β : Type} (x : D) (st : Store) (f : D → Store → Option β) : andD (some (.d x, st)) f = f x st := rfl
@[simp] theorem okD_s (x : D) (st : Store) : okD (some x) st = some (.d x, st) := rfl
@[simp] theorem okB_s (b : Bool) (st : Store) : okB (some b) st = some (.d (.bool b), st) := rfl
@[simp] theorem okL_s (l : List D) (st : Store) : okL (some l) st = some (l, st) := rfl
@[simp] theorem truW_b (b : Bool) : truW (.d (.bool b)) = some b := rfl
@[simp] theorem allD_nil : allD [] = some [] := rfl
@[simp] theorem allD_d (x : D) (ws : List W) : allD (.d x :: ws) = (allD ws).map (x :: ·) := rfl
@[simp] theorem allD_m (i : Nat) (ws : List W) : allD (.m i :: ws) = none := rfl
@[simp] theorem add_i (i j : Int) : binD .Add (.int i) (.int j) = some (.int (i + j)) := rfl
@[simp] theorem sub_i (i j : Int) : binD .Sub (.int i) (.int j) = some (.int (i - j)) := rfl
theorem mul_i {i j : Int} (h : mulOk i j = true) : binD .Mult (.int i) (.int j) = some (.int (i * j)) := if_pos h
@[simp] theorem neg_i (i : Int) : negD (.int i) = some (.int (-i)) := rfl
theorem div_i {i j : Int} (h : 0 < j) (hb : j.natAbs < BIG) : binD .FloorDiv (.int i) (.int j) = some (.int (i / j)) := by
  have e : divOk j = true := by
    unfold divOk
    rw [Bool.and_eq_true]
    exact ⟨decide_eq_true (by omega), decide_eq_true hb⟩
  show (if divOk j then some (PyData.int (i.fdiv j)) else none) = _
  rw [if_pos e, Int.fdiv_eq_ediv_of_nonneg _ (by omega)] <;> rfl
theorem mod_i {i j : Int} (h : 0 < j) : binD .Mod (.int i) (.int j) = some (.int (i % j)) := by
  show (if j = 0 then none else some (PyData.int (i.fmod j))) = _
  rw [if_neg (by omega), Int.fmod_eq_emod_of_nonneg _ (by omega)] <;> rfl
theorem pow_i {i j : Int} (h : 0 ≤ j) (h1 : j ≤ 1000000) (h2 : i.natAbs < 2 ^ 64) : binD .Pow (.int i) (.int j) = some (.int (i ^ j.toNat)) := if_pos ⟨h, h1, h2⟩
@[simp] theorem lt_i (i j : Int) : cmpD .Lt (.int i) (.int j) = some (decide (i < j)) := rfl
@[simp] theorem le_i (i j : Int) : cmpD .LtE (.int i) (.int j) = some (decide (i ≤ j)) := rfl
@[simp] theorem gt_i (i j : Int) : cmpD .Gt (.int i) (.int j) = some (decide (j < i)) := rfl
@[simp] theorem ge_i (i j : Int) : cmpD .GtE (.int i) (.int j) = some (decide (j ≤ i)) := rfl
theorem lt_big {i : Nat} (h : i < 2 ^ 4000) : i < BIG := Nat.lt_trans h (by decide +kernel)
theorem mulOk_l {i j : Int} (h : i.natAbs < 2 ^ 64) : mulOk i j = true := by
  unfold mulOk
  rw [decide_eq_true h, Bool.true_or]
theorem mulOk_r {i j : Int} (h : j.natAbs < 2 ^ 64) : mulOk i j = true := by
  unfold mulOk
  rw [decide_eq_true h, Bool.true_or, Bool.or_true]
theorem mulOk_b {i j : Int} (h1 : i.natAbs < BIG) (h2 : j.natAbs < BIG) : mulOk i j = true := by
  unfold mulOk
  rw [decide_eq_true h1, decide_eq_true h2]
  simp
theorem small_big {i : Int} (h : i.natAbs < 2 ^ 64) : i.natAbs < BIG := lt_big (Nat.lt_trans h (by decide +kernel))
end WM
namespace WM
open PySem PySem.Spec PyProof.Rows L2
/-- a def of the text -/
structure DI where
  x : Str
  ps : List Str
  args : Arguments
  scope : Scope
  body : List Stmt
  N : List Str
  cells : List Str
section
variable {P : Program} {w : World} {K : PySem.W.Frag} {mg : Str → Option Value} {base : Heap}
/-- a table of defs, as text -/
structure TabT (gl : List (Str × GV)) (ds : List DI) (T : List Fd) : Prop where
  len : T.length = ds.length
  ok : ∀ (i : Nat) (d : DI) (fd : Fd), ds[i]? = some d → T[i]? = some fd → FdOk gl d.cells d.ps d.N d.scope d.body fd
/-- a table of defs, as the heap bears it -/
structure Tab (P : Program) (w : World) (K : PySem.W.Frag) (mg : Str → Option Value) (base : Heap) (gl : List (Str × GV)) (ds : List DI) : Prop where
  fun_ : ∀ (i : Nat) (d : DI), ds[i]? = some d → ∃ f fdd, mg d.x = some (.ref f) ∧ FunD K d.x d.x d.args d.body d.scope [] [] f fdd ∧ Binds K fdd d.ps []
  gl : ∀ x g, gl.lookup x = some g → (∃ i d, g = .fn i d.ps.length ∧ ds[i]? = some d ∧ d.x = x) ∨ ∀ Φ k, GlOk Φ k P w K mg base x g
def FnAt (P : Program) (w : World) (K : PySem.W.Frag) (mg : Str → Option Value) (base : Heap) (T : List Fd) (k i : Nat) (d : DI) : Prop :=
  ∃ f fdd, mg d.x = some (.ref f) ∧ PySem.W.keepIn K (.ref f) = true ∧ Binds K fdd d.ps [] ∧ FnOk P w K mg base CX0 k f fdd d.ps (spD K (fns T k i) d.ps.length)
theorem tab_gl {gl : List (Str × GV)} {ds : List DI} {T : List Fd} {k : Nat} (h : Tab P w K mg base gl ds) (a : ∀ i d, ds[i]? = some d → FnAt P w K mg base T k i d) : ∀ x g, gl.lookup x = some g → GlOk (fns T k) k P w K mg base x g := by
  intro x g e
  rcases h.gl x g e with ⟨i, d, rfl, hd, rfl⟩ | q
  · obtain ⟨f, fdd, h1, h2, h3, h4⟩ := a i d hd
    exact ⟨f, fdd, d.ps, h1, h2, h3, rfl, h4⟩
  · exact q _ _
theorem tab_ok {gl : List (Str × GV)} {ds : List DI} {T : List Fd} (ht : TabT gl ds T) (h : Tab P w K mg base gl ds) : ∀ (k i : Nat) (d : DI), ds[i]? = some d → FnAt P w K mg base T k i d
  | 0, i, d, hd => by
    obtain ⟨f, fdd, h1, h2, h3⟩ := h.fun_ i d hd
    refine ⟨f, fdd, h1, h2.kp, h3, ⟨fun vs H Q E q => q.1, fun A outer s H args us vs Q E _ _ _ _ q => ?_⟩⟩
    obtain ⟨_, _, _, _, _, _, _, _, _, _, e, _⟩ := q
    cases e
  | k + 1, i, d, hd => by
    obtain ⟨f, fdd, h1, h2, h3⟩ := h.fun_ i d hd
    have hi : i < T.length := by
      rw [ht.len]
      exact (List.getElem?_eq_some_iff.mp hd).1
    have ef : T[i]? = some T[i] := List.getElem?_eq_getElem hi
    have q := fd_ok (P := P) (w := w) (mg := mg) (base := base) h2 (ht.ok i d _ hd ef) (tab_gl h (tab_ok ht h k))
    refine ⟨f, fdd, h1, h2.kp, h3, ?_⟩
    have e : fns T (k + 1) i = runF (fns T k) T[i] := by
      funext ws st
      show (match T[i]? with
        | some fd => runF (fns T k) fd ws st
        | none => none) = _
      rw [ef]
    rw [e]
    exact q
/-- any script; true at the end -/
def spLaw (K : PySem.W.Frag) : Sp := fun vs H Q _ => ∃ (a : Addr) (ns : List Int), ns.length ≤ 63 ∧ vs = [.ref a] ∧ SqL K H a (ns.map V.int) ∧ ∀ H', Q (.bl true) H'
/-- the cup, from any script -/
def spCup (K : PySem.W.Frag) : Sp := fun vs H Q _ => ∃ (a : Addr) (ns : List Int), ns.length ≤ 63 ∧ vs = [.ref a] ∧ SqL K H a (ns.map V.int) ∧
  ∀ (p : Addr) (c0 c1 : Int) (H' : Hp), 0 ≤ c0 → 229 ≤ c1 → H' p = some (.lst [.int c0, .int c1]) → Q (.ref p) H'
def cupE (p2 p3 p4 p5 p6 p7 p8 p9 p10 p11 : Pos) (j j2 : Nat) : Expr :=
  .Call (.Name "abs" p2) [.Subscript (.BinOp (.Call (.Name "list" p3) [.Name "script" p4] [] p5) .Add (.List [.Constant (.int 0) j p6] p7) p8) (.Constant (.int 0) j2 p9) p10] [] p11
def cupR : S := .ret (.lst (.cons (.ite (.cmp .GtE (.var 1) (.bin .Pow (.lit (.int 10)) (.lit (.int 18)))) (.bin .FloorDiv (.var 1) (.lit (.int 127))) (.lit (.int 0))) (.cons (.bin .Add (.bin .Mod (.blt .int (.cons (.bin .Add (.bin .Mult (.var 1) (.lit (.int 373))) (.lit (.int 5407))) .nil)) (.lit (.int 1974129427))) (.lit (.int 229))) .nil)))
theorem hm0 {H : Hp} : HM K (fun _ => none) [] (fun _ => none) H [] where
  sub := fun _ _ e => by cases e
  len := rfl
  nd := List.nodup_nil
  cell := fun i a c e => by simp at e
  prot := fun _ _ e => by cases e
  pdis := fun a ha => by simp at ha
  pg := fun _ _ _ => rfl
theorem cupR_run (Φ : Fn) (sl : Sl) (m : Int) (hm : 0 ≤ m) (h1 : sl[1]? = some (some (.d (.int m)))) : ∃ c0 c1 : Int, 0 ≤ c0 ∧ 229 ≤ c1 ∧ runS Φ cupR sl [] = some (.ret (.d (.list [.int c0, .int c1])), sl, []) := by
  refine ⟨if m ≥ 10 ^ 18 then m / 127 else 0, (m * 373 + 5407) % 1974129427 + 229, ?_, ?_, ?_⟩
  · split <;> omega
  · omega
  · have e1 : binD .Mult (.int m) (.int 373) = some (.int (m * 373)) := mul_i (mulOk_r (by decide))
    have e2 : binD .Mod (.int (m * 373 + 5407)) (.int 1974129427) = _ := mod_i (by omega)
    have e3 : binD .FloorDiv (.int m) (.int 127) = some (.int (m / 127)) := div_i (by omega) (small_big (by decide))
    have e4 : binD .Pow (.int 10) (.int 18) = some (.int (10 ^ 18)) := pow_i (by decide) (by decide) (by decide)
    unfold cupR
    by_cases c : m ≥ 10 ^ 18
    · have hd : decide (10 ^ 18 ≤ m) = true := decide_eq_true c
      simp only [runS, runE, runEs, rdVar, h1, andD_s, andW_s, e1, e2, e3, e4, ge_i, hd, okB_s, okD_s, truW_b, bltW, allD_d, allD_nil, Option.map, bltD, add_i, mkLst, if_pos c]
      rfl
    · have hd : decide (10 ^ 18 ≤ m) = false := decide_eq_false c
      simp only [runS, runE, runEs, rdVar, h1, andD_s, andW_s, e1, e2, e3, e4, ge_i, hd, okB_s, okD_s, truW_b, bltW, allD_d, allD_nil, Option.map, bltD, add_i, mkLst, if_neg c]
      rfl
theorem dbg2 : ∀ x ∈ (["script", "cell"] : List Str), (x == ("__debug__" : Str)) = false ∧ (x == ("__classdict__" : Str)) = false := by decide +kernel
/-- _law_cup's text -/
structure CupT (gl : List (Str × GV)) (scope : Scope) (body : List Stmt) : Prop where
  S : FnScope ["script", "cell"] ["script"] scope
  v0 : Vis scope "script"
  l1 : scope.names.lookup ("cell" : Str) = some .local
  ga : scope.names.lookup ("abs" : Str) = some .globalImplicit
  gli : scope.names.lookup ("list" : Str) = some .globalImplicit
  gdbg : ∀ x g, gl.lookup x = some g → (x == ("__debug__" : Str)) = false ∧ x ≠ ("__name__" : Str)
  b : ∃ p1 p2 p3 p4 p5 p6 p7 p8 p9 p10 p11 p12 j j2 s2 own fuel, body = [.Assign [.Name "cell" p1] (cupE p2 p3 p4 p5 p6 p7 p8 p9 p10 p11 j j2) p12, s2] ∧ (∀ x ∈ own, Loc scope x) ∧ cmpS fuel ⟨["script", "cell"], scope, own, gl, []⟩ s2 = some cupR
theorem cup_ok {Φ : Fn} {k : Nat} {gl : List (Str × GV)} {scope : Scope} {body : List Stmt} {x qual : Str} {params : Arguments} {f : Addr} {fdd : FuncData}
    (F : FunD K x qual params body scope [] [] f fdd) (o : CupT gl scope body) (g : ∀ x g, gl.lookup x = some g → GlOk Φ k P w K mg base x g) (ma : mg "abs" = none) (ml : mg "list" = none) :
    FnOk P w K mg base CX0 (k + 1) f fdd ["script"] (spCup K) := by
  obtain ⟨p1, p2, p3, p4, p5, p6, p7, p8, p9, p10, p11, p12, j, j2, s2, own, fuel, eb, hown, hc⟩ := o.b
  refine F.ok o.S (fun vs H Q E h => by obtain ⟨a, ns, _, rfl, _⟩ := h; rfl) fun cdv A outer s H vs Q E hr ⟨a, ns, hn, ev, hs, q⟩ => ?_
  subst ev
  have xo : XOk Φ k (cxOf CX0 P w K mg base ["script", "cell"] qual scope f cdv A outer s H E).nox ⟨["script", "cell"], scope, own, gl, []⟩ :=
    ⟨rfl, rfl, o.S.kind, o.S.nd, rfl, dbg2, fun x hx => ⟨hown x hx, .inl rfl⟩, o.gdbg, fun x gg h => GlOk.at (g x gg h), hr, rfl⟩
  have v0 : Vis (cxOf CX0 P w K mg base ["script", "cell"] qual scope f cdv A outer s H E).nox.env.scope "script" := o.v0
  have st1 := ps_set (X := (cxOf CX0 P w K mg base ["script", "cell"] qual scope f cdv A outer s H E).nox) (i := 1) (x := "cell") (pos := p12) (pos' := p1) o.S.nd rfl (Or.inl o.l1)
    (pe_callB (p := p2) (pos := p11) call_abs o.ga ma (by kernel_rfl) (pa_cons (pe_ix (pos := p10) ix_list (pe_op (pos := p8) op_cat (pe_callTy (p := p3) (pos := p5) call_list_of o.gli ml (by kernel_rfl) (pa_cons (pe_var (i := 0) (x := "script") (pos := p4) rfl v0) pa_nil)) (pe_lst (pos := p7) (pa_cons (pe_int (i := 0) (j := j) (pos := p6)) pa_nil))) (pe_int (i := 0) (j := j2) (pos := p9)) (fun _ _ => rfl)) pa_nil))
  have st2 := (snd_s (Φ := Φ) (k := k) fuel).s _ _ xo _ _ hc
  refine ⟨_, PSs.nox (eb ▸ pss_cons st1 (pss_one st2)), ?_⟩
  refine ⟨.ref a, rfl, a, ns.map V.int, rfl, .inl hs, fun p hp => ?_⟩
  refine ⟨by decide, fun p' hp' => ?_⟩
  have hne : p' ≠ p := fun z => by
    subst z
    rw [upd_same] at hp'
    cases hp'
  refine ⟨p, p', ns.map V.int, [.int 0], rfl, rfl, ?_, upd_same, ?_, fun p3 hp3 => ?_⟩
  · rw [upd_ne (Ne.symm hne)]
    exact upd_same
  · rw [List.length_map, List.length_singleton]
    have : (64 : Nat) ≤ sizeLine := by decide
    omega
  obtain ⟨m, em⟩ : ∃ m : Int, L2.atI (ns.map V.int ++ [.int 0]) 0 = some (.int m) := by
    cases ns with
    | nil => exact ⟨0, rfl⟩
    | cons n ns => exact ⟨n, by
        have e : L2.ixN (List.map V.int (n :: ns) ++ [V.int 0]).length 0 = some 0 := by
          unfold L2.ixN
          rw [if_pos (by omega), if_pos (by simp; omega)]
          rfl
        unfold L2.atI
        rw [e]
        rfl⟩
  refine ⟨p3, _, 0, .int m, rfl, rfl, SqL.of upd_same, em, m, rfl, ?_⟩
  obtain ⟨c0, c1, h0, h1, er⟩ := cupR_run Φ [none, some (.d (.int (if m < 0 then -m else m)))] (if m < 0 then -m else m) (by split <;> omega) rfl
  refine ⟨fun _ => none, [], fun _ => none, [none, some (.d (.int (if m < 0 then -m else m)))], [], _, _, _, hm0, ⟨rfl, fun i w e => ?_⟩, er, fun v ca' G' H' n' hm' r' => ?_⟩
  · match i, e with
    | 0, e => cases e
    | 1, e => cases e; exact ⟨_, rfl, .int _⟩
    | n + 2, e => simp at e
  · obtain ⟨pp, vs, rfl, hp1, hp2⟩ := Rp.list_inv r'
    have : vs = [V.int c0, V.int c1] := Rps.ints (ns := [c0, c1]) hp2
    subst this
    exact q pp c0 c1 H' h0 h1 (hm'.sub _ _ hp1)
/-- the law's text: cup = _law_cup(script), then the rest b -/
structure LawT (gl : List (Str × GV)) (cells N : List Str) (scope : Scope) (body : List Stmt) (b : Ss) : Prop where
  S : FnScope N ["script"] scope
  n1 : N[0]? = some ("script" : Str)
  n2 : N[1]? = some ("cup" : Str)
  dbg : ∀ x ∈ N, (x == ("__debug__" : Str)) = false ∧ (x == ("__classdict__" : Str)) = false
  v0 : Vis scope "script"
  l1 : scope.names.lookup ("cup" : Str) = some .local
  gc : scope.names.lookup ("_law_cup" : Str) = some .globalImplicit
  gdbg : ∀ x g, gl.lookup x = some g → (x == ("__debug__" : Str)) = false ∧ x ≠ ("__name__" : Str)
  b : ∃ p1 p2 p3 p4 p5 rest own fuel, body = .Assign [.Name "cup" p1] (.Call (.Name "_law_cup" p2) [.Name "script" p3] [] p4) p5 :: rest ∧ (∀ x ∈ own, Loc scope x) ∧ cmpSs fuel ⟨N, scope, own, gl, cells⟩ rest = some b
/-- what the law starts with -/
def slot1 (n : Nat) : Sl := none :: some (.m 0) :: List.replicate (n - 2) none
theorem law_ok {Φ : Fn} {k : Nat} {gl : List (Str × GV)} {cells N : List Str} {scope : Scope} {body : List Stmt} {b : Ss} {x qual : Str} {params : Arguments} {f fc : Addr} {fdd fdc : FuncData}
    (F : FunD K x qual params body scope [] [] f fdd) (o : LawT gl cells N scope body b) (g : ∀ x g, gl.lookup x = some g → GlOk Φ k P w K mg base x g)
    (mc : mg "_law_cup" = some (.ref fc)) (kc : PySem.W.keepIn K (.ref fc) = true) (bc : Binds K fdc ["script"] []) (hc : FnOk P w K mg base CX0 k fc fdc ["script"] (spCup K))
    (pure : ∀ c0 c1 : Int, 0 ≤ c0 → 229 ≤ c1 → ∃ sl' st', runSs Φ b (slot1 N.length) [.lst false [.int c0, .int c1]] = some (.ret (.d (.bool true)), sl', st')) :
    FnOk P w K mg base CX0 (k + 1) f fdd ["script"] (spLaw K) := by
  obtain ⟨p1, p2, p3, p4, p5, rest, own, fuel, eb, hown, hcs⟩ := o.b
  refine F.ok o.S (fun vs H Q E h => by obtain ⟨a, ns, _, rfl, _⟩ := h; rfl) fun cdv A outer s H vs Q E hr ⟨a, ns, hn, ev, hs, q⟩ => ?_
  subst ev
  have xo : XOk Φ k (cxOf CX0 P w K mg base N qual scope f cdv A outer s H E).nox ⟨N, scope, own, gl, cells⟩ :=
    ⟨rfl, rfl, o.S.kind, o.S.nd, rfl, o.dbg, fun x hx => ⟨hown x hx, .inl rfl⟩, o.gdbg, fun x gg h => GlOk.at (g x gg h), hr, rfl⟩
  have v0 : Vis (cxOf CX0 P w K mg base N qual scope f cdv A outer s H E).nox.env.scope "script" := o.v0
  have st1 := ps_set (X := (cxOf CX0 P w K mg base N qual scope f cdv A outer s H E).nox) (i := 1) (x := "cup") (pos := p5) (pos' := p1) o.S.nd o.n2 (Or.inl o.l1)
    (pe_call (p := p2) (pos := p4) (dvs := []) hc hr o.gc mc kc bc .nil pass0 (pa_cons (pe_var (i := 0) (x := "script") (pos := p3) o.n1 v0) pa_nil))
  have st2 := (snd_s (Φ := Φ) (k := k) fuel).ss _ _ xo _ _ hcs
  refine ⟨_, PSs.nox (eb ▸ pss_cons st1 st2), ?_⟩
  have hN2 : 2 ≤ N.length := by
    have := (List.getElem?_eq_some_iff.mp o.n2).1
    omega
  have e0 : (L2.start N [.ref a])[0]? = some (some (V.ref a)) := rfl
  refine ⟨.ref a, e0, ?_⟩
  refine ⟨a, ns, hn, rfl, hs, fun p c0 c1 H' h0 h1 hp => ?_⟩
  obtain ⟨sl', st', er⟩ := pure c0 c1 h0 h1
  refine ⟨fun _ => none, [p], fun _ => none, slot1 N.length, [.lst false [.int c0, .int c1]], _, _, _, ?_, ?_, er, fun v ca' G' H2 n' hm' r' => ?_⟩
  · exact (hm0 (K := K) (H := H')).newcell hp rfl (by simp) rfl (Rps.of_ints [c0, c1]) (show 2 ≤ sizeLine by decide)
  · refine ⟨?_, fun i w e => ?_⟩
    · rw [List.length_set]
      unfold L2.start slot1
      simp
      omega
    · match i, e with
      | 0, e => cases e
      | 1, e =>
        cases e
        refine ⟨.ref p, ?_, p, rfl, rfl⟩
        rw [List.getElem?_set_self]
        unfold L2.start
        simp
        omega
      | n + 2, e =>
        have e : (List.replicate (N.length - 2) (none : Option W))[n]? = some (some w) := e
        rw [List.getElem?_replicate] at e
        split at e <;> cases e
  · cases r'
    exact q H2
end
end WM
namespace WM
open PySem PySem.Spec PyProof.Rows L2
mutual
def datB (K : PySem.W.Frag) : D → Value → Bool
  | .none, .none => true
  | .bool b, .bool c => decide (b = c)
  | .int i, .int j _ => decide (i = j)
  | .str x, .str y _ => decide (x = y)
  | .tuple ds, .ref a => (match K.lookup a with
    | some ⟨.type c, _, .seq its _, _⟩ => decide (c = "tuple") && (decide (its.size ≤ sizeLine) && datsB K ds its.toList)
    | _ => false)
  | _, _ => false
def datsB (K : PySem.W.Frag) : List D → List Value → Bool
  | [], [] => true
  | d :: ds, u :: us => datB K d u && datsB K ds us
  | _, _ => false
end
mutual
theorem datB_ok {K : PySem.W.Frag} : ∀ {d : D} {u : Value}, datB K d u = true → ∃ v, RelV v u ∧ ∀ G, Rp K G v d
  | .none, .none, _ => ⟨.non, rfl, fun _ => .non⟩
  | .bool b, .bool c, h => by
    unfold datB at h
    cases of_decide_eq_true h
    exact ⟨.bl b, rfl, fun _ => .bl b⟩
  | .int i, .int j t, h => by
    unfold datB at h
    cases of_decide_eq_true h
    exact ⟨.int i, ⟨t, rfl⟩, fun _ => .int i⟩
  | .str x, .str y t, h => by
    unfold datB at h
    cases of_decide_eq_true h
    exact ⟨.str x, ⟨t, rfl⟩, fun _ => .str x⟩
  | .tuple ds, .ref a, h => by
    unfold datB at h
    split at h
    · rename_i c od its n sl e
      rw [Bool.and_eq_true, Bool.and_eq_true] at h
      obtain ⟨h1, h2, h3⟩ := h
      cases of_decide_eq_true h1
      obtain ⟨vs, r1, r2⟩ := datsB_ok h3
      exact ⟨.ref a, rfl, fun G => .tup (.inr ⟨_, its, n, e, rfl, rfl, of_decide_eq_true h2, r1⟩) (r2 G)⟩
    · cases h
theorem datsB_ok {K : PySem.W.Frag} : ∀ {ds : List D} {us : List Value}, datsB K ds us = true → ∃ vs, Vals vs us ∧ ∀ G, Rps K G vs ds
  | [], [], _ => ⟨[], .nil, fun _ => .nil⟩
  | d :: ds, u :: us, h => by
    unfold datsB at h
    rw [Bool.and_eq_true] at h
    obtain ⟨v, a1, a2⟩ := datB_ok h.1
    obtain ⟨vs, b1, b2⟩ := datsB_ok h.2
    exact ⟨v :: vs, .cons a1 b1, fun G => .cons (a2 G) (b2 G)⟩
end
def freeB (K : PySem.W.Frag) (x : Str) : Bool := He.eqO (PySem.W.nsIn K mainGlobals x) (some none)
/-- a global name that is no def of the text -/
def gvB (K : PySem.W.Frag) (x : Str) : GV → Bool
  | .fn _ _ => true
  | .con d => (match PySem.W.nsIn K mainGlobals x with
    | some (some u) => datB K d u
    | _ => false)
  | .bi b => if b = .gcd then He.eqO (PySem.W.nsIn K mainGlobals x) (some (some (.builtin "math.gcd"))) else freeB K x && decide (bootBuiltins x = some b.val)
  | .ty t => freeB K x && decide (bootBuiltins x = some (.type t.nm))
  | .isi => freeB K x && decide (bootBuiltins x = some (.builtin "isinstance"))
  | .set => freeB K x
  | .rng => freeB K x && decide (x = "range")
  | .zip => freeB K x && decide (x = "zip")
  | .enum => freeB K x && decide (x = "enumerate")
def glsB (K : PySem.W.Frag) (gl : List (Str × GV)) : Bool := gl.all fun q => gvB K q.1 q.2
section
variable {P : Program} {w : World} {K : PySem.W.Frag} {mg : Str → Option Value} {base h : Heap}
theorem gvB_ok {x : Str} {g : GV} (X : K.In h) (G : h.Ns mainGlobals mg) (c : gvB K x g = true) (hf : ∀ i n, g ≠ .fn i n) : ∀ Φ k, GlOk Φ k P w K mg base x g := by
  intro Φ k
  have free : freeB K x = true → mg x = none := fun c => PySem.W.mg_none_of X G (He.eqO_ok c)
  cases g with
  | fn i n => exact absurd rfl (hf i n)
  | con d =>
    unfold gvB at c
    simp only at c
    split at c
    · rename_i u e
      obtain ⟨v, r1, r2⟩ := datB_ok c
      exact ⟨v, u, PySem.W.mg_of X G e, r1, r2⟩
    · cases c
  | bi b =>
    unfold gvB at c
    simp only at c
    split at c
    · rename_i hb
      subst hb
      exact .inr ⟨rfl, PySem.W.mg_of X G (He.eqO_ok c)⟩
    · rename_i hb
      rw [Bool.and_eq_true] at c
      exact .inl ⟨hb, free c.1, of_decide_eq_true c.2⟩
  | ty t =>
    unfold gvB at c
    simp only [Bool.and_eq_true] at c
    exact ⟨free c.1, of_decide_eq_true c.2⟩
  | isi =>
    unfold gvB at c
    simp only [Bool.and_eq_true] at c
    exact ⟨free c.1, of_decide_eq_true c.2⟩
  | set =>
    unfold gvB at c
    exact free c
  | rng =>
    unfold gvB at c
    simp only [Bool.and_eq_true] at c
    exact ⟨free c.1, of_decide_eq_true c.2⟩
  | zip =>
    unfold gvB at c
    simp only [Bool.and_eq_true] at c
    exact ⟨free c.1, of_decide_eq_true c.2⟩
  | enum =>
    unfold gvB at c
    simp only [Bool.and_eq_true] at c
    exact ⟨free c.1, of_decide_eq_true c.2⟩
end
abbrev AlW : Type := Bool × (Bool × (List He.FnW))
def obsK (fa : List He.Fa) (fn : List He.DefD) (gl : List (Str × GV)) (K : PySem.W.Frag) : AlW := (glsB K gl, He.obsD fa fn K)
def refA : Value → List Addr
  | .ref a => [a]
  | _ => []
/-- what one object leads to that is wanted here: a dict's values, a def's code, a tuple's items -/
def stepA (g : Addr → Option Obj) (a : Addr) : List Addr := match g a with
  | some ⟨_, _, .dict es _, _⟩ => es.toList.flatMap fun e => refA e.val
  | some ⟨_, _, .func fd, _⟩ => refA fd.code
  | some ⟨_, _, .seq its _, _⟩ => its.toList.flatMap refA
  | _ => []
def growA (g : Addr → Option Obj) : Nat → List Addr → List Addr
  | 0, _ => []
  | n + 1, as => as ++ growA g n (as.flatMap (stepA g))
def asV (g : Addr → Option Obj) (n : Nat) : List Addr := growA g n [mainGlobals]
def obsW (n : Nat) (fa : List He.Fa) (fn : List He.DefD) (gl : List (Str × GV)) (g : Addr → Option Obj) : AlW := obsK fa fn gl (He.frG g (asV g n))
def valW (fn : List He.DefD) : AlW := (true, He.valD fn)
def hookW (n : Nat) (fa : List He.Fa) (fn : List He.DefD) (gl : List (Str × GV)) : PySem.W.Hook where
  α := AlW
  obs := fun s => obsW n fa fn gl s.heap.get?
  val := fun _ => valW fn
  says := fun _ h => ∃ K : PySem.W.Frag, K.In h ∧ obsK fa fn gl K = valW fn
  of := fun _ _ e => ⟨_, He.frG_in, e⟩
  keeps := fun _ _ _ ⟨K, hK, c⟩ k => ⟨K, PySem.W.Frag.In.keeps hK k, c⟩
theorem obsW_eq {n : Nat} {fa : List He.Fa} {fn : List He.DefD} {gl : List (Str × GV)} {g : Addr → Option Obj} {s : Shared} (h : ∀ a, g a = s.heap.get? a) : obsW n fa fn gl g = (hookW n fa fn gl).obs s := by
  have e : g = s.heap.get? := funext h
  rw [e] <;> rfl
def mkD (d : DI) : He.DefD := ⟨(d.x, none), d.x, d.x, d.args, d.body, d.scope, [], []⟩
/-- its parameters are bound one by one -/
def ArgsT (d : DI) : Prop := ∀ (kV doc pm : Value) (an : Option Addr) (cdv ct : Value) (us : List Value), us.length = d.ps.length → bindArgs (PySem.W.fnOf d.x d.x d.args d.body d.scope .none kV doc pm an cdv ct) ⟨us, []⟩ = pure (d.ps.zip us)
section
variable {P : Program} {w : World} {K : PySem.W.Frag} {mg : Str → Option Value} {h base : Heap}
/-- all of it: the table, as the heap bears it -/
theorem tab_of {gl : List (Str × GV)} {ds : List DI} (X : K.In h) (G : h.Ns mainGlobals mg) (c : obsK (ds.map fun d => He.Fa.glo d.x) (ds.map mkD) gl K = valW (ds.map mkD)) (ha : ∀ (i : Nat) (d : DI), ds[i]? = some d → ArgsT d)
    (hg : ∀ x g, gl.lookup x = some g → (∃ (i : Nat) (d : DI), g = .fn i d.ps.length ∧ ds[i]? = some d ∧ d.x = x) ∨ ∀ i n, g ≠ .fn i n) : Tab P w K mg base gl ds := by
  have c1 : glsB K gl = true := congrArg (fun z : AlW => z.1) c
  have c2 : He.SaysD (ds.map fun d => He.Fa.glo d.x) (ds.map mkD) K := congrArg (fun z : AlW => z.2) c
  refine ⟨fun i d hd => ?_, fun x g e => ?_⟩
  · have hm : d ∈ ds := List.mem_of_getElem? hd
    obtain ⟨fdd, F⟩ := He.SaysD.defs c2 (d := mkD d) (List.mem_map.mpr ⟨d, hm, rfl⟩)
    have F : FunD K d.x d.x d.args d.body d.scope [] [] (He.ga K d.x) fdd := F
    have f1 := He.SaysD.facts c2 (f := .glo d.x) (List.mem_map.mpr ⟨d, hm, rfl⟩)
    exact ⟨He.ga K d.x, fdd, He.glo_ok X G f1, F, F.bindsN (ps := d.ps) (ha i d hd)⟩
  · rcases hg x g e with q | q
    · exact .inl q
    · have cq := List.all_eq_true.mp c1 (x, g) (PySem.mem_of_lookup e)
      exact .inr (gvB_ok X G cq q)
end
end WM
namespace WM
open PySem PySem.Spec PyProof.Rows L2
section
variable {P : Program} {w : World} {K : PySem.W.Frag} {mg : Str → Option Value} {h : Heap}
structure LawAll (gl : List (Str × GV)) (ds : List DI) (T : List Fd) (dc dl : DI) (b : Ss) : Prop where
  tab : TabT gl ds T
  args : ∀ (i : Nat) (d : DI), ds[i]? = some d → ArgsT d
  gls : ∀ x g, gl.lookup x = some g → (∃ (i : Nat) (d : DI), g = .fn i d.ps.length ∧ ds[i]? = some d ∧ d.x = x) ∨ ∀ i n, g ≠ .fn i n
  hc : ∃ i : Nat, ds[i]? = some dc
  xc : dc.x = "_law_cup"
  pc : dc.ps = ([("script" : Str)] : List Str)
  hl : ∃ i : Nat, ds[i]? = some dl
  xl : dl.x = "law"
  pl : dl.ps = ([("script" : Str)] : List Str)
  ga : gl.lookup ("abs" : Str) = some (GV.bi .abs)
  gi : gl.lookup ("list" : Str) = some (GV.bi .list)
  cup : CupT gl dc.scope dc.body
  law : LawT gl dl.cells dl.N dl.scope dl.body b
theorem facts_of {gl : List (Str × GV)} {ds : List DI} {T : List Fd} {dc dl : DI} {b : Ss} {k : Nat} {fa : Addr} (L : LawAll gl ds T dc dl b) (X : K.In h) (G : h.Ns mainGlobals mg)
    (c : obsK (ds.map fun d => He.Fa.glo d.x) (ds.map mkD) gl K = valW (ds.map mkD)) (hfa : mg ("law" : Str) = some (.ref fa))
    (pure : ∀ c0 c1 : Int, 0 ≤ c0 → 229 ≤ c1 → ∃ sl' st', runSs (fns T (k + 1)) b (slot1 dl.N.length) [.lst false [.int c0, .int c1]] = some (.ret (.d (.bool true)), sl', st')) :
    ∃ fd : FuncData, (∀ (s : Shared) (v : Value), BindsTo s fd ⟨[v], []⟩ [("script", v)]) ∧ ∀ base : Heap, K.In base → base.Ns mainGlobals mg → FnOk P w K mg base CX0 (k + 2) fa fd ["script"] (spLaw K) := by
  have c2 : He.SaysD (ds.map fun d => He.Fa.glo d.x) (ds.map mkD) K := congrArg (fun z : AlW => z.2) c
  obtain ⟨il, hil⟩ := L.hl
  obtain ⟨ic, hic⟩ := L.hc
  have hml : dl ∈ ds := List.mem_of_getElem? hil
  obtain ⟨fdd, F⟩ := He.SaysD.defs c2 (d := mkD dl) (List.mem_map.mpr ⟨dl, hml, rfl⟩)
  have F : FunD K dl.x dl.x dl.args dl.body dl.scope [] [] (He.ga K dl.x) fdd := F
  have f1 := He.glo_ok X G (He.SaysD.facts c2 (f := .glo dl.x) (List.mem_map.mpr ⟨dl, hml, rfl⟩))
  have al := L.args il dl hil
  unfold ArgsT at al
  rw [L.pl] at al
  rw [L.xl] at F f1 al
  have e := hfa.symm.trans f1
  have e : fa = He.ga K "law" := by
    have := Option.some.inj e
    exact Value.ref.inj this
  rw [← e] at F f1
  have bl := F.bindsA (ps := ["script"]) al
  refine ⟨fdd, fun s v => bl s [v] rfl, fun base hb hns => ?_⟩
  have tab : Tab P w K mg base gl ds := tab_of X G c L.args L.gls
  have ok := tab_ok (P := P) (w := w) (base := base) L.tab tab
  obtain ⟨fc, fdc, Fc⟩ : ∃ fc fdc, mg dc.x = some (.ref fc) ∧ FunD K dc.x dc.x dc.args dc.body dc.scope [] [] fc fdc ∧ L2.Binds K fdc dc.ps [] := tab.fun_ ic dc hic
  obtain ⟨mc, Fc, bc⟩ := Fc
  rw [L.xc] at mc
  rw [L.pc] at bc
  have gA := tab_gl tab (ok 0) "abs" _ L.ga
  have gL := tab_gl tab (ok 0) "list" _ L.gi
  have ma : mg "abs" = none := by
    rcases gA with ⟨_, q, _⟩ | ⟨q, _⟩
    · exact q
    · cases q
  have ml : mg "list" = none := by
    rcases gL with ⟨_, q, _⟩ | ⟨q, _⟩
    · exact q
    · cases q
  have hcup := cup_ok (P := P) (w := w) (base := base) Fc L.cup (tab_gl tab (ok k)) ma ml
  exact law_ok F L.law (tab_gl tab (ok (k + 1))) mc Fc.kp bc hcup pure
end
end WM
namespace WM
open PySem PySem.Spec PyProof.Rows L2
def locB (sc : Scope) (x : Str) : Bool := decide (sc.names.lookup x = some .local) || decide (sc.names.lookup x = some .cell)
def ownL (N : List Str) (sc : Scope) : List Str := N.filter (locB sc)
theorem locB_ok {sc : Scope} {x : Str} (h : locB sc x = true) : L2.Loc sc x := by
  unfold locB at h
  rw [Bool.or_eq_true] at h
  exact h.elim (fun h => .inl (of_decide_eq_true h)) fun h => .inr (of_decide_eq_true h)
theorem ownL_ok {N : List Str} {sc : Scope} : ∀ x ∈ ownL N sc, L2.Loc sc x := fun x hx => locB_ok (List.mem_filter.mp hx).2
def nodupB : List Str → Bool
  | [] => true
  | x :: xs => !xs.contains x && nodupB xs
theorem nodupB_ok : ∀ {xs : List Str}, nodupB xs = true → xs.Nodup
  | [], _ => List.nodup_nil
  | x :: xs, h => by
    unfold nodupB at h
    rw [Bool.and_eq_true] at h
    refine List.nodup_cons.mpr ⟨fun z => ?_, nodupB_ok h.2⟩
    have : xs.contains x = true := List.contains_iff_mem.mpr z
    rw [this] at h
    cases h.1
def plainB (x : Str) : Bool := !(x == ("__debug__" : Str)) && !(x == ("__classdict__" : Str))
def scB (N ps : List Str) (sc : Scope) : Bool :=
  decide (sc.kind = .function) && (!sc.isCoroutine && (!sc.isGenerator && (nodupB N && (decide (N.take ps.length = ps) && (ps.all (locB sc) && (sc.names.all (fun y => !decide (y.2 = .free)) && N.all plainB))))))
theorem scB_ok {N ps : List Str} {sc : Scope} (h : scB N ps sc = true) : FnScope N ps sc ∧ ∀ x ∈ N, (x == ("__debug__" : Str)) = false ∧ (x == ("__classdict__" : Str)) = false := by
  unfold scB at h
  simp only [Bool.and_eq_true, Bool.not_eq_true', List.all_eq_true] at h
  obtain ⟨h1, h2, h3, h4, h5, h6, h7, h8⟩ := h
  refine ⟨⟨of_decide_eq_true h1, h2, h3, nodupB_ok h4, of_decide_eq_true h5, fun x hx => locB_ok (h6 x hx), fun y hy => of_decide_eq_false (h7 y hy)⟩, fun x hx => ?_⟩
  have := h8 x hx
  unfold plainB at this
  simp only [Bool.and_eq_true, Bool.not_eq_true'] at this
  exact this
def gnB (gl : List (Str × GV)) : Bool := gl.all fun q => !(q.1 == ("__debug__" : Str)) && !decide (q.1 = ("__name__" : Str))
theorem gnB_ok {gl : List (Str × GV)} (h : gnB gl = true) : ∀ x g, gl.lookup x = some g → (x == ("__debug__" : Str)) = false ∧ x ≠ ("__name__" : Str) := fun x g e => by
  have := List.all_eq_true.mp h (x, g) (PySem.mem_of_lookup e)
  simp only [Bool.and_eq_true, Bool.not_eq_true'] at this
  exact ⟨this.1, of_decide_eq_false this.2⟩
theorem fdOk_of {gl : List (Str × GV)} {d : DI} {fd : Fd} (g : gnB gl = true) (s : scB d.N d.ps d.scope = true) (hn : fd.n = d.N.length) (hp : fd.ps = d.ps.length) (c : cmpSs 200 ⟨d.N, d.scope, ownL d.N d.scope, gl, d.cells⟩ d.body = some fd.body) :
    FdOk gl d.cells d.ps d.N d.scope d.body fd :=
  ⟨(scB_ok s).1, hn, hp, (scB_ok s).2, gnB_ok g, ownL d.N d.scope, 200, ownL_ok, c⟩
def OkAll (gl : List (Str × GV)) : List DI → List Fd → Prop
  | [], [] => True
  | d :: ds, f :: T => (FdOk gl d.cells d.ps d.N d.scope d.body f ∧ ArgsT d) ∧ OkAll gl ds T
  | _, _ => False
theorem OkAll.len {gl : List (Str × GV)} : ∀ {ds : List DI} {T : List Fd}, OkAll gl ds T → T.length = ds.length
  | [], [], _ => rfl
  | [], _ :: _, h => h.elim
  | _ :: _, [], h => h.elim
  | _ :: _, _ :: _, h => by rw [List.length_cons, List.length_cons, OkAll.len h.2]
theorem OkAll.get {gl : List (Str × GV)} : ∀ {ds : List DI} {T : List Fd}, OkAll gl ds T → ∀ (i : Nat) (d : DI) (f : Fd), ds[i]? = some d → T[i]? = some f → FdOk gl d.cells d.ps d.N d.scope d.body f ∧ ArgsT d
  | [], _, _, i, _, _, e, _ => by cases i <;> cases e
  | _ :: _, [], h, _, _, _, _, _ => h.elim
  | _ :: _, _ :: _, h, 0, d, f, e1, e2 => by cases e1; cases e2; exact h.1
  | _ :: _, _ :: _, h, i + 1, d, f, e1, e2 => OkAll.get h.2 i d f e1 e2
theorem OkAll.append {gl : List (Str × GV)} : ∀ {ds es : List DI} {T U : List Fd}, OkAll gl ds T → OkAll gl es U → OkAll gl (ds ++ es) (T ++ U)
  | [], _, [], _, _, b => b
  | [], _, _ :: _, _, h, _ => h.elim
  | _ :: _, _, [], _, h, _ => h.elim
  | _ :: _, _, _ :: _, _, h, b => ⟨h.1, OkAll.append h.2 b⟩
theorem OkAll.tab {gl : List (Str × GV)} {ds : List DI} {T : List Fd} (h : OkAll gl ds T) : TabT gl ds T := ⟨h.len, fun i d f e1 e2 => (h.get i d f e1 e2).1⟩
theorem OkAll.args {gl : List (Str × GV)} {ds : List DI} {T : List Fd} (h : OkAll gl ds T) : ∀ (i : Nat) (d : DI), ds[i]? = some d → ArgsT d := fun i d e => by
  have hi : i < T.length := by
    rw [h.len]
    exact (List.getElem?_eq_some_iff.mp e).1
  exact (h.get i d _ e (List.getElem?_eq_getElem hi)).2
def glsB' (ds : List DI) (gl : List (Str × GV)) : Bool := gl.all fun q => match q.2 with
  | .fn i n => (match ds[i]? with
    | some d => decide (d.ps.length = n) && decide (d.x = q.1)
    | none => false)
  | _ => true
theorem glsB'_ok {ds : List DI} {gl : List (Str × GV)} (h : glsB' ds gl = true) : ∀ x g, gl.lookup x = some g → (∃ (i : Nat) (d : DI), g = .fn i d.ps.length ∧ ds[i]? = some d ∧ d.x = x) ∨ ∀ i n, g ≠ .fn i n := fun x g e => by
  have := List.all_eq_true.mp h (x, g) (PySem.mem_of_lookup e)
  simp only at this
  cases g with
  | fn i n =>
    simp only at this
    split at this
    · rename_i d hd
      rw [Bool.and_eq_true] at this
      have h1 := of_decide_eq_true this.1
      subst h1
      exact .inl ⟨i, d, rfl, hd, of_decide_eq_true this.2⟩
    · cases this
  | _ => exact .inr fun _ _ z => by cases z
def cupGet : List Stmt → Option Stmt
  | [.Assign [.Name c _] (.Call (.Name a _) [.Subscript (.BinOp (.Call (.Name l _) [.Name s _] [] _) .Add (.List [.Constant (.int 0) _ _] _) _) (.Constant (.int 0) _ _) _] [] _) _, s2] =>
    if c = ("cell" : Str) ∧ a = ("abs" : Str) ∧ l = ("list" : Str) ∧ s = ("script" : Str) then some s2 else none
  | _ => none
theorem cupGet_ok {body : List Stmt} {s2 : Stmt} (h : cupGet body = some s2) : ∃ p1 p2 p3 p4 p5 p6 p7 p8 p9 p10 p11 p12 j j2, body = [.Assign [.Name "cell" p1] (cupE p2 p3 p4 p5 p6 p7 p8 p9 p10 p11 j j2) p12, s2] := by
  unfold cupGet at h
  split at h
  · split at h
    · rename_i q
      obtain ⟨rfl, rfl, rfl, rfl⟩ := q
      cases h
      exact ⟨_, _, _, _, _, _, _, _, _, _, _, _, _, _, rfl⟩
    · cases h
  · cases h
def cupB (gl : List (Str × GV)) (sc : Scope) (body : List Stmt) : Option S := match cupGet body with
  | some s2 => cmpS 200 ⟨["script", "cell"], sc, ownL ["script", "cell"] sc, gl, []⟩ s2
  | none => none
def lkB (sc : Scope) (x : Str) (k : NameKind) : Bool := decide (sc.names.lookup x = some k)
theorem cupT_of {gl : List (Str × GV)} {sc : Scope} {body : List Stmt} (g : gnB gl = true) (s : scB ["script", "cell"] ["script"] sc = true) (h0 : lkB sc "script" .local = true) (h1 : lkB sc "cell" .local = true) (h2 : lkB sc "abs" .globalImplicit = true) (h3 : lkB sc "list" .globalImplicit = true) (h : cupB gl sc body = some cupR) : CupT gl sc body := by
  refine ⟨(scB_ok s).1, .inl (of_decide_eq_true h0), of_decide_eq_true h1, of_decide_eq_true h2, of_decide_eq_true h3, gnB_ok g, ?_⟩
  unfold cupB at h
  split at h
  · rename_i s2 e
    obtain ⟨p1, p2, p3, p4, p5, p6, p7, p8, p9, p10, p11, p12, j, j2, rfl⟩ := cupGet_ok e
    exact ⟨p1, p2, p3, p4, p5, p6, p7, p8, p9, p10, p11, p12, j, j2, s2, _, 200, rfl, ownL_ok, h⟩
  · cases h
def lawGet : List Stmt → Option (List Stmt)
  | .Assign [.Name c _] (.Call (.Name a _) [.Name s _] [] _) _ :: rest => if c = ("cup" : Str) ∧ a = ("_law_cup" : Str) ∧ s = ("script" : Str) then some rest else none
  | _ => none
theorem lawGet_ok {body rest : List Stmt} (h : lawGet body = some rest) : ∃ p1 p2 p3 p4 p5, body = .Assign [.Name "cup" p1] (.Call (.Name "_law_cup" p2) [.Name "script" p3] [] p4) p5 :: rest := by
  unfold lawGet at h
  split at h
  · split at h
    · rename_i q
      obtain ⟨rfl, rfl, rfl⟩ := q
      cases h
      exact ⟨_, _, _, _, _, rfl⟩
    · cases h
  · cases h
def lawB (gl : List (Str × GV)) (cells N : List Str) (sc : Scope) (body : List Stmt) : Option Ss := match lawGet body with
  | some r => cmpSs 200 ⟨N, sc, ownL N sc, gl, cells⟩ r
  | none => none
theorem lawT_of {gl : List (Str × GV)} {cells N : List Str} {sc : Scope} {body : List Stmt} {b : Ss} (g : gnB gl = true) (s : scB N ["script"] sc = true) (n1 : N[0]? = some ("script" : Str)) (n2 : N[1]? = some ("cup" : Str)) (h0 : lkB sc "script" .local = true) (h1 : lkB sc "cup" .local = true) (h2 : lkB sc "_law_cup" .globalImplicit = true)
    (h : lawB gl cells N sc body = some b) : LawT gl cells N sc body b := by
  refine ⟨(scB_ok s).1, n1, n2, (scB_ok s).2, .inl (of_decide_eq_true h0), of_decide_eq_true h1, of_decide_eq_true h2, gnB_ok g, ?_⟩
  unfold lawB at h
  split at h
  · rename_i r e
    obtain ⟨p1, p2, p3, p4, p5, rfl⟩ := lawGet_ok e
    exact ⟨p1, p2, p3, p4, p5, r, _, 200, rfl, ownL_ok, h⟩
  · cases h
end WM
namespace WM
open PySem PySem.Spec PySem.W PySem.Calls PyProof.Rows L2
abbrev KX (x : PySem.W.SharedT) : PySem.W.Frag := He.frG (HandSHeadRun.getT x) (asV (HandSHeadRun.getT x) 4)
def obD (ds : List DI) (x : PySem.W.SharedT) : Bool × List He.FnW := He.obsD (ds.map fun d => He.Fa.glo d.x) (ds.map mkD) (KX x)
def vaD (ds : List DI) : Bool × List He.FnW := He.valD (ds.map mkD)
theorem vaD_app (a b : List DI) : vaD (a ++ b) = (true, (vaD a).2 ++ (vaD b).2) := by
  unfold vaD He.valD
  simp
theorem obD_app (a b : List DI) (x : PySem.W.SharedT) (h1 : obD a x = vaD a) (h2 : obD b x = vaD b) : obD (a ++ b) x = vaD (a ++ b) := by
  rw [vaD_app, ← h1, ← h2]
  have e1 : (obD a x).1 = true := by rw [h1]; rfl
  have e2 : (obD b x).1 = true := by rw [h2]; rfl
  unfold obD He.obsD at *
  simp only [List.map_append, List.all_append, Bool.and_eq_true] at e1 e2 ⊢
  rw [e1.1, e1.2, e2.1, e2.2] <;> rfl
def AtR {α β : Type} (r : Option α) (f : α → β) (v : β) : Prop := r.map f = some v
theorem AtR.ex {α β : Type} {r : Option α} {f : α → β} {v : β} (h : AtR r f v) : ∃ x, r = some x ∧ f x = v := by
  unfold AtR at h
  cases r with
  | none => cases h
  | some x => exact ⟨x, rfl, Option.some.inj h⟩
theorem AtR.app {r : Option (Shared × PySem.W.SharedT)} {a b : List DI} (h1 : AtR r (fun x => obD a x.2) (vaD a)) (h2 : AtR r (fun x => obD b x.2) (vaD b)) : AtR r (fun x => obD (a ++ b) x.2) (vaD (a ++ b)) := by
  obtain ⟨x, rfl, e1⟩ := h1.ex
  obtain ⟨y, e, e2⟩ := h2.ex
  cases e
  exact congrArg some (obD_app a b _ e1 e2)
theorem AtR.pair {α β γ : Type} {r : Option α} {f : α → β} {g : α → γ} {v : β} {u : γ} (h1 : AtR r f v) (h2 : AtR r g u) : AtR r (fun x => (f x, g x)) (v, u) := by
  obtain ⟨x, rfl, e1⟩ := h1.ex
  obtain ⟨y, e, e2⟩ := h2.ex
  cases e
  exact congrArg some (Prod.ext e1 e2)
/-- the run's parts put together (a program with an import at its head) -/
theorem runI_of {r : PySem.W.OpenRow} {q : Program} {M : Nat} {loose : List Str} {w : World} {ds : List DI} {gl : List (Str × GV)}
    (h1 : AtR (HandSHeadRun.wholeF (fun p => HandSHeadRun.stepQ (HandSHeadRun.denQ HandSHeadRun.tabQ) p w) HandSHeadRun.fenceQ M r.prog) (fun x => (HandSHeadRun.looksF r.prog x.1.heap x.2.abs, (HandSHeadRun.seenQ q loose (importedModules r.prog.main.body) (fun s => PySem.W.xlAt q [] s && PySem.W.recOk r.toRowW.records s) x.2.abs, glsB (KX x.2) gl))) (true, (PySem.W.openGood q loose, true)))
    (h2 : AtR (HandSHeadRun.wholeF (fun p => HandSHeadRun.stepQ (HandSHeadRun.denQ HandSHeadRun.tabQ) p w) HandSHeadRun.fenceQ M r.prog) (fun x => obD ds x.2) (vaD ds)) :
    HandSHeadRun.RunEqI r q (hookW 4 (ds.map fun d => He.Fa.glo d.x) (ds.map mkD) gl) (fun s => obsW 4 (ds.map fun d => He.Fa.glo d.x) (ds.map mkD) gl (HandSHeadRun.getT s)) M loose w := by
  unfold HandSHeadRun.RunEqI
  obtain ⟨x, e, e1⟩ := h1.ex
  obtain ⟨y, e', e2⟩ := h2.ex
  rw [e] at e' ⊢
  cases e'
  injection e1 with a1 a2
  injection a2 with a2 a3
  show some (_, _, _) = some (_, _, _)
  rw [a1, a2]
  refine congrArg some (congrArg (Prod.mk true) (congrArg (Prod.mk _) ?_))
  show (glsB (KX x.2) gl, obD ds x.2) = (true, vaD ds)
  rw [a3, e2]
/-- the same of a program without imports -/
theorem run_of {r : PySem.W.OpenRow} {q : Program} {M : Nat} {loose : List Str} {w : World} {ds : List DI} {gl : List (Str × GV)}
    (h1 : ∀ os, AtR (HandSHeadRun.endF (HandSHeadRun.stepQ (HandSHeadRun.denQ HandSHeadRun.tabQ) r.prog w) M r.prog w os) (fun s => (HandSHeadRun.looksF r.prog (boot_heap w.params) s.abs, (HandSHeadRun.seenQ q loose (importedModules r.prog.main.body) (fun s => PySem.W.xlAt q [] s && PySem.W.recOk r.toRowW.records s) s.abs, glsB (KX s) gl))) (true, (PySem.W.openGood q loose, true)))
    (h2 : ∀ os, AtR (HandSHeadRun.endF (HandSHeadRun.stepQ (HandSHeadRun.denQ HandSHeadRun.tabQ) r.prog w) M r.prog w os) (fun x => obD ds x) (vaD ds)) :
    HandSHeadRun.RunEq r q (hookW 4 (ds.map fun d => He.Fa.glo d.x) (ds.map mkD) gl) (fun s => obsW 4 (ds.map fun d => He.Fa.glo d.x) (ds.map mkD) gl (HandSHeadRun.getT s)) M loose w := by
  intro os
  obtain ⟨x, e, e1⟩ := (h1 os).ex
  obtain ⟨y, e', e2⟩ := (h2 os).ex
  rw [e] at e' ⊢
  cases e'
  injection e1 with a1 a2
  injection a2 with a2 a3
  show some (_, _, _) = some (_, _, _)
  rw [a1, a2]
  refine congrArg some (congrArg (Prod.mk true) (congrArg (Prod.mk _) ?_))
  show (glsB (KX x) gl, obD ds x) = (true, vaD ds)
  rw [a3, e2]
end WM
namespace WM
open PySem PySem.Spec PySem.W PySem.Calls PyProof.Rows L2
theorem AtR.app1 {r : Option PySem.W.SharedT} {a b : List DI} (h1 : AtR r (fun x => obD a x) (vaD a)) (h2 : AtR r (fun x => obD b x) (vaD b)) : AtR r (fun x => obD (a ++ b) x) (vaD (a ++ b)) := by
  obtain ⟨x, rfl, e1⟩ := h1.ex
  obtain ⟨y, e, e2⟩ := h2.ex
  cases e
  exact congrArg some (obD_app a b _ e1 e2)
end WM
namespace WM
open PySem PySem.Spec PySem.W PySem.Calls PyProof.Rows L2
theorem AtR.left {α β γ : Type} {r : Option α} {f : α → β} {g : α → γ} {v : β} {u : γ} (h : AtR r (fun x => (f x, g x)) (v, u)) : AtR r f v := by
  obtain ⟨x, rfl, e⟩ := h.ex
  exact congrArg some (congrArg Prod.fst e)
theorem AtR.right {α β γ : Type} {r : Option α} {f : α → β} {g : α → γ} {v : β} {u : γ} (h : AtR r (fun x => (f x, g x)) (v, u)) : AtR r g u := by
  obtain ⟨x, rfl, e⟩ := h.ex
  exact congrArg some (congrArg Prod.snd e)
theorem runI_of2 {r : PySem.W.OpenRow} {q : Program} {M : Nat} {loose : List Str} {w : World} {ds : List DI} {gl : List (Str × GV)}
    (h1 : AtR (HandSHeadRun.wholeF (fun p => HandSHeadRun.stepQ (HandSHeadRun.denQ HandSHeadRun.tabQ) p w) HandSHeadRun.fenceQ M r.prog) (fun x => HandSHeadRun.looksF r.prog x.1.heap x.2.abs) true)
    (h2 : AtR (HandSHeadRun.wholeF (fun p => HandSHeadRun.stepQ (HandSHeadRun.denQ HandSHeadRun.tabQ) p w) HandSHeadRun.fenceQ M r.prog) (fun x => (HandSHeadRun.seenQ q loose (importedModules r.prog.main.body) (fun s => PySem.W.xlAt q [] s && PySem.W.recOk r.toRowW.records s) x.2.abs, (glsB (KX x.2) gl, obD ds x.2))) (PySem.W.openGood q loose, (true, vaD ds))) :
    HandSHeadRun.RunEqI r q (hookW 4 (ds.map fun d => He.Fa.glo d.x) (ds.map mkD) gl) (fun s => obsW 4 (ds.map fun d => He.Fa.glo d.x) (ds.map mkD) gl (HandSHeadRun.getT s)) M loose w :=
  runI_of (AtR.pair h1 (AtR.pair h2.left h2.right.left)) h2.right.right
theorem run_of2 {r : PySem.W.OpenRow} {q : Program} {M : Nat} {loose : List Str} {w : World} {ds : List DI} {gl : List (Str × GV)}
    (h1 : ∀ os, AtR (HandSHeadRun.endF (HandSHeadRun.stepQ (HandSHeadRun.denQ HandSHeadRun.tabQ) r.prog w) M r.prog w os) (fun s => HandSHeadRun.looksF r.prog (boot_heap w.params) s.abs) true)
    (h2 : ∀ os, AtR (HandSHeadRun.endF (HandSHeadRun.stepQ (HandSHeadRun.denQ HandSHeadRun.tabQ) r.prog w) M r.prog w os) (fun s => (HandSHeadRun.seenQ q loose (importedModules r.prog.main.body) (fun s => PySem.W.xlAt q [] s && PySem.W.recOk r.toRowW.records s) s.abs, (glsB (KX s) gl, obD ds s))) (PySem.W.openGood q loose, (true, vaD ds))) :
    HandSHeadRun.RunEq r q (hookW 4 (ds.map fun d => He.Fa.glo d.x) (ds.map mkD) gl) (fun s => obsW 4 (ds.map fun d => He.Fa.glo d.x) (ds.map mkD) gl (HandSHeadRun.getT s)) M loose w :=
  run_of (fun os => AtR.pair (h1 os) (AtR.pair (h2 os).left (h2 os).right.left)) fun os => (h2 os).right.right
end WM
namespace RT
theorem int_uniq {x : Rat} {n m : Int} (h : (n : Rat) ≤ x) (h1 : x < (n : Rat) + 1) (h2 : (m : Rat) ≤ x) (h3 : x < (m : Rat) + 1) : n = m := by
  have a : (n : Rat) < ((m + 1 : Int) : Rat) := by
    rw [Rat.intCast_add]
    grind
  have b : (m : Rat) < ((n + 1 : Int) : Rat) := by
    rw [Rat.intCast_add]
    grind
  have a := Rat.intCast_lt_intCast.mp a
  have b := Rat.intCast_lt_intCast.mp b
  omega
def fr (q : Rat) : Rat := q - (q.floor : Rat)
theorem fr_nn (q : Rat) : 0 ≤ fr q := by
  have := Rat.floor_le q
  unfold fr
  grind
theorem fr_lt (q : Rat) : fr q < 1 := by
  have := Rat.lt_floor_add_one q
  rw [Rat.intCast_add] at this
  unfold fr
  grind
theorem fr_ex (q : Rat) : ∃ n : Int, fr q = q + (n : Rat) := ⟨-q.floor, by unfold fr; rw [Rat.intCast_neg]; grind⟩
theorem fr_of {q : Rat} (h0 : 0 ≤ q) (h1 : q < 1) : fr q = q := by
  have e : q.floor = 0 := int_uniq (x := q) (Rat.floor_le q) (by have := Rat.lt_floor_add_one q; rw [Rat.intCast_add] at this; exact this) (by simpa using h0) (by rw [Rat.intCast_zero]; grind)
  unfold fr
  rw [e]
  grind
theorem fr_add (q : Rat) (n : Int) : fr (q + (n : Rat)) = fr q := by
  have e : (q + (n : Rat)).floor = q.floor + n := by
    refine int_uniq (x := q + n) (Rat.floor_le _) (by have := Rat.lt_floor_add_one (q + n); rw [Rat.intCast_add] at this; exact this) ?_ ?_
    · have := Rat.floor_le q
      rw [Rat.intCast_add]
      grind
    · have := Rat.lt_floor_add_one q
      rw [Rat.intCast_add] at this ⊢
      grind
  unfold fr
  rw [e, Rat.intCast_add]
  grind
theorem fr_congr {a b : Rat} {n : Int} (h : a = b + (n : Rat)) : fr a = fr b := by rw [h, fr_add]
theorem fr_eq {a b : Rat} (h : fr a = fr b) : ∃ n : Int, a = b + (n : Rat) := by
  obtain ⟨n, hn⟩ := fr_ex a
  obtain ⟨m, hm⟩ := fr_ex b
  refine ⟨m - n, ?_⟩
  rw [Rat.intCast_sub]
  grind
theorem fr_zero {a : Rat} (h : fr a = 0) : ∃ n : Int, a = (n : Rat) := ⟨a.floor, by unfold fr at h; grind⟩
theorem fr_int (n : Int) : fr (n : Rat) = 0 := by
  have := fr_add 0 n
  rw [Rat.zero_add] at this
  rw [this]
  exact fr_of (by grind) (by grind)
def wy (q : Rat) : Rat := if fr q < 1 / 2 then fr q else fr q - 1
theorem wy_lo (q : Rat) : -(1 / 2) ≤ wy q := by
  have := fr_nn q
  unfold wy
  split <;> grind
theorem wy_hi (q : Rat) : wy q < 1 / 2 := by
  have := fr_lt q
  unfold wy
  split <;> grind
theorem wy_ex (q : Rat) : ∃ n : Int, wy q = q + (n : Rat) := by
  obtain ⟨n, hn⟩ := fr_ex q
  unfold wy
  split
  · exact ⟨n, hn⟩
  · refine ⟨n - 1, ?_⟩
    rw [Rat.intCast_sub]
    grind
theorem wy_add (q : Rat) (n : Int) : wy (q + (n : Rat)) = wy q := by
  unfold wy
  rw [fr_add]
theorem wy_congr {a b : Rat} {n : Int} (h : a = b + (n : Rat)) : wy a = wy b := by rw [h, wy_add]
theorem wy_of {q : Rat} (h0 : -(1 / 2) ≤ q) (h1 : q < 1 / 2) : wy q = q := by
  by_cases c : 0 ≤ q
  · have e := fr_of c (by grind)
    unfold wy
    rw [e, if_pos h1]
  · have e : fr q = q + 1 := by
      have := fr_add q 1
      rw [← this]
      exact fr_of (by grind) (by grind)
    unfold wy
    rw [e, if_neg (by grind)]
    grind
def ab (q : Rat) : Rat := if q < 0 then -q else q
theorem ab_neg (q : Rat) : ab (-q) = ab q := by
  unfold ab
  split <;> split <;> grind
theorem ab_nn (q : Rat) : 0 ≤ ab q := by
  unfold ab
  split <;> grind
theorem ab_zero {q : Rat} : ab q = 0 ↔ q = 0 := by
  unfold ab
  split <;> grind
/-- the way is the shorter of the two parts -/
theorem ab_wy (q : Rat) : ab (wy q) = if fr q ≤ 1 - fr q then fr q else 1 - fr q := by
  have a := fr_nn q
  have b := fr_lt q
  unfold ab wy
  split <;> split <;> split <;> grind
theorem wy_zero {q : Rat} : wy q = 0 ↔ fr q = 0 := by
  have a := fr_nn q
  have b := fr_lt q
  unfold wy
  split <;> grind
theorem cut_num (t b : Int) (hb : 0 < b) : (Rat.divInt t b).num = t / (Int.gcd t b : Int) := by
  rw [Rat.num_divInt, Int.sign_eq_one_of_pos hb, Int.one_mul, Int.gcd_comm]
theorem cut_den (t b : Int) (hb : 0 < b) : ((Rat.divInt t b).den : Int) = b / (Int.gcd t b : Int) := by
  rw [Rat.den_divInt, if_neg (by omega), Int.gcd_comm]
  have : (b.natAbs : Int) = b := by omega
  rw [Int.natCast_ediv, this]
theorem cast_ne {b : Int} (hb : b ≠ 0) : (b : Rat) ≠ 0 := fun h => hb (Rat.intCast_inj.mp (by rw [h, Rat.intCast_zero]))
theorem den_ne (q : Rat) : ((q.den : Int) : Rat) ≠ 0 := cast_ne (by have := q.den_pos; omega)
theorem eq_div (q : Rat) : q = (q.num : Rat) / ((q.den : Int) : Rat) := by
  have := Rat.num_divInt_den q
  rw [Rat.divInt_eq_div] at this
  exact this.symm
theorem add_div (p q : Rat) : Rat.divInt (p.num * q.den + q.num * p.den) (p.den * q.den) = p + q := by
  rw [← Rat.divInt_add_divInt _ _ (by have := p.den_pos; omega) (by have := q.den_pos; omega), Rat.num_divInt_den, Rat.num_divInt_den]
theorem mul_div (p q : Rat) : Rat.divInt (p.num * q.num) (p.den * q.den) = p * q := by
  rw [← Rat.divInt_mul_divInt, Rat.num_divInt_den, Rat.num_divInt_den]
theorem muli_div (p : Rat) (n : Int) : Rat.divInt (p.num * n) p.den = p * (n : Rat) := by
  rw [Rat.divInt_eq_div, Rat.intCast_mul]
  have := eq_div p
  have := den_ne p
  grind
theorem side_le (p q : Rat) : 0 ≤ p.num * q.den - q.num * p.den ↔ q ≤ p := by
  rw [Rat.le_iff]
  omega
theorem fr_div (q : Rat) : Rat.divInt (q.num % q.den) q.den = fr q := by
  unfold fr
  rw [Rat.floor_def, Rat.divInt_eq_div]
  have e : q.num % (q.den : Int) = q.num - q.den * (q.num / q.den) := Int.emod_def _ _
  rw [e, Rat.intCast_sub, Rat.intCast_mul]
  have := eq_div q
  have := den_ne q
  grind
theorem num_neg (q : Rat) : (-q).num = -q.num := rfl
theorem den_neg (q : Rat) : (-q).den = q.den := rfl
theorem ab_num (q : Rat) : (ab q).num = if q.num < 0 then -q.num else q.num := by
  have : q.num < 0 ↔ q < 0 := by
    have := Rat.num_nonneg (q := q)
    constructor
    · intro h
      exact Rat.not_le.mp fun z => by have := this.mpr z; omega
    · intro h
      have : ¬ 0 ≤ q.num := fun z => absurd (this.mp z) (Rat.not_le.mpr h)
      omega
  unfold ab
  by_cases h : q < 0
  · rw [if_pos h, if_pos (this.mpr h), num_neg]
  · rw [if_neg h, if_neg (fun z => h (this.mp z))]
theorem ab_den (q : Rat) : (ab q).den = q.den := by
  unfold ab
  split <;> rfl
theorem divInt_den_le {t b : Int} (hb : 0 < b) : ((Rat.divInt t b).den : Int) ≤ b := by
  rw [cut_den t b hb]
  exact Int.ediv_le_self _ (by omega)
theorem divInt_num_le {t b : Int} (hb : 0 < b) : (Rat.divInt t b).num.natAbs ≤ t.natAbs := by
  rw [cut_num t b hb]
  exact Int.natAbs_ediv_le_natAbs t _
theorem divInt_eq {t b : Int} (hb : 0 < b) : Rat.divInt t b = (t : Rat) / (b : Rat) := Rat.divInt_eq_div t b
theorem fr_divInt {t b : Int} (hb : 0 < b) : fr (Rat.divInt t b) = Rat.divInt (t % b) b := by
  have hbr := cast_ne (b := b) (by omega)
  have e : Rat.divInt t b = Rat.divInt (t % b) b + ((t / b : Int) : Rat) := by
    rw [Rat.divInt_eq_div, Rat.divInt_eq_div]
    have e2 := congrArg (fun z : Int => (z : Rat)) (Int.emod_add_mul_ediv t b)
    simp only [Rat.intCast_add, Rat.intCast_mul] at e2
    grind
  rw [fr_congr e]
  have a1 := Int.emod_nonneg t (show b ≠ 0 by omega)
  have a2 := Int.emod_lt_of_pos t hb
  have hbp : (0 : Rat) < (b : Rat) := by
    have := Rat.intCast_lt_intCast.mpr hb
    rw [Rat.intCast_zero] at this
    exact this
  have c1 : (0 : Rat) ≤ ((t % b : Int) : Rat) := by
    have := Rat.intCast_le_intCast.mpr a1
    rw [Rat.intCast_zero] at this
    exact this
  have c2 := Rat.intCast_lt_intCast.mpr a2
  refine fr_of ?_ ?_
  · rw [Rat.divInt_eq_div]
    refine Rat.not_lt.mp fun z => ?_
    have z := (Rat.div_lt_iff hbp).mp z
    rw [Rat.zero_mul] at z
    exact absurd z (Rat.not_lt.mpr c1)
  · rw [Rat.divInt_eq_div]
    exact (Rat.div_lt_iff hbp).mpr (by rw [Rat.one_mul]; exact c2)
theorem divInt_zero {t b : Int} (hb : 0 < b) : Rat.divInt t b = 0 ↔ t = 0 := by
  constructor
  · intro h
    rw [Rat.divInt_eq_div] at h
    have hbr := cast_ne (b := b) (by omega)
    have : (t : Rat) = 0 := by grind
    rw [← Rat.intCast_zero] at this
    exact Rat.intCast_inj.mp this
  · intro h
    subst h
    exact Rat.zero_divInt b
theorem fr_mul_zero {q : Rat} {c : Int} : fr (q * (c : Rat)) = 0 ↔ (q.num * c) % q.den = 0 := by
  rw [← muli_div, fr_divInt (by have := q.den_pos; omega), divInt_zero (by have := q.den_pos; omega)]
theorem fr_muli (q : Rat) (c : Int) : fr (q * (c : Rat)) = Rat.divInt ((q.num * c) % q.den) q.den := by
  rw [← muli_div, fr_divInt (by have := q.den_pos; omega)]
end RT
namespace WM
open PySem PySem.Spec PyProof.Rows L2
@[simp] theorem ix2_0 (a b : D) : ixD (.tuple [a, b]) (.int 0) = some a := rfl
@[simp] theorem ix2_1 (a b : D) : ixD (.tuple [a, b]) (.int 1) = some b := rfl
@[simp] theorem ix3_0 (a b c : D) : ixD (.tuple [a, b, c]) (.int 0) = some a := rfl
@[simp] theorem ix3_1 (a b c : D) : ixD (.tuple [a, b, c]) (.int 1) = some b := rfl
@[simp] theorem ix3_2 (a b c : D) : ixD (.tuple [a, b, c]) (.int 2) = some c := rfl
@[simp] theorem ixL2_0 (a b : D) : ixD (.list [a, b]) (.int 0) = some a := rfl
@[simp] theorem ixL2_1 (a b : D) : ixD (.list [a, b]) (.int 1) = some b := rfl
@[simp] theorem ixW_d (x y : D) (st : Store) : ixW (.d x) y st = ixD x y := rfl
@[simp] theorem shp_int (i : Int) : shp (.int i) = true := by simp [shp, SeqAt.shaped, PyData.canLay0, PyData.depth]
@[simp] theorem shp_bool (i : Bool) : shp (.bool i) = true := by simp [shp, SeqAt.shaped, PyData.canLay0, PyData.depth]
@[simp] theorem shp_none : shp .none = true := by simp [shp, SeqAt.shaped, PyData.canLay0, PyData.depth]
@[simp] theorem shp_i2 (i j : Int) : shp (.tuple [.int i, .int j]) = true := by simp [shp, SeqAt.shaped, PyData.canLay0, PyData.canLayAll0, PyData.depth, PyData.depthAll]
theorem eq_d {x y : D} (h1 : shp x = true) (h2 : shp y = true) : cmpD .Eq x y = some (PyData.eqv x y) := by
  show (if shp x && shp y then some (PyData.eqv x y) else none) = _
  rw [h1, h2]
  rfl
theorem ne_d {x y : D} (h1 : shp x = true) (h2 : shp y = true) : cmpD .NotEq x y = some (!PyData.eqv x y) := by
  show (if shp x && shp y then some (!PyData.eqv x y) else none) = _
  rw [h1, h2]
  rfl
@[simp] theorem eqv_int (i j : Int) : PyData.eqv (.int i) (.int j) = decide (i = j) := by
  simp only [PyData.eqv]
  rw [Bool.eq_iff_iff]
  simp
@[simp] theorem eq_i (i j : Int) : cmpD .Eq (.int i) (.int j) = some (decide (i = j)) := by rw [eq_d (by simp) (by simp), eqv_int]
@[simp] theorem ne_i (i j : Int) : cmpD .NotEq (.int i) (.int j) = some (!decide (i = j)) := by rw [ne_d (by simp) (by simp), eqv_int]
@[simp] theorem eqv_bool (i j : Bool) : PyData.eqv (.bool i) (.bool j) = decide (i = j) := by
  simp only [PyData.eqv]
  rw [Bool.eq_iff_iff]
  simp
@[simp] theorem eq_b (i j : Bool) : cmpD .Eq (.bool i) (.bool j) = some (decide (i = j)) := by rw [eq_d (by simp) (by simp), eqv_bool]
@[simp] theorem ne_b (i j : Bool) : cmpD .NotEq (.bool i) (.bool j) = some (!decide (i = j)) := by rw [ne_d (by simp) (by simp), eqv_bool]
/-- a fraction -/
def pr (q : Rat) : D := .tuple [.int q.num, .int q.den]
@[simp] theorem shp_pr (q : Rat) : shp (pr q) = true := shp_i2 _ _
theorem rat_eq (p q : Rat) : (p.num = q.num ∧ (p.den : Int) = q.den) ↔ p = q := ⟨fun h => Rat.ext h.1 (by have := h.2; omega), fun h => by subst h; exact ⟨rfl, rfl⟩⟩
@[simp] theorem eqv_pr (p q : Rat) : PyData.eqv (pr p) (pr q) = decide (p = q) := by
  unfold pr
  simp only [PyData.eqv, PyData.eqvAll, ← rat_eq]
  rw [Bool.eq_iff_iff]
  simp
@[simp] theorem eq_pr (p q : Rat) : cmpD .Eq (pr p) (pr q) = some (decide (p = q)) := by rw [eq_d (by simp) (by simp), eqv_pr]
@[simp] theorem ne_pr (p q : Rat) : cmpD .NotEq (pr p) (pr q) = some (!decide (p = q)) := by rw [ne_d (by simp) (by simp), eqv_pr]
@[simp] theorem ixpr_0 (q : Rat) : ixD (pr q) (.int 0) = some (.int q.num) := rfl
@[simp] theorem ixpr_1 (q : Rat) : ixD (pr q) (.int 1) = some (.int q.den) := rfl
@[simp] theorem gcd_b (i j : Int) : bltD .gcd [.int i, .int j] = some (.int (Int.gcd i j)) := rfl
@[simp] theorem int_b (i : Int) : bltD .int [.int i] = some (.int i) := rfl
@[simp] theorem len_t (xs : List D) : bltD .len [.tuple xs] = some (.int xs.length) := rfl
@[simp] theorem len_l (xs : List D) : bltD .len [.list xs] = some (.int xs.length) := rfl
@[simp] theorem tup_l (xs : List D) : bltD .tuple [.list xs] = some (.tuple xs) := rfl
theorem abs_b (i : Int) : bltD .abs [.int i] = some (.int (if i < 0 then -i else i)) := rfl
@[simp] theorem isn_n : cmpD .Is .none .none = some true := rfl
@[simp] theorem isn_i (i : Int) : cmpD .Is (.int i) .none = some false := rfl
@[simp] theorem isn_t (xs : List D) : cmpD .Is (.tuple xs) .none = some false := rfl
@[simp] theorem isn_p (q : Rat) : cmpD .Is (pr q) .none = some false := rfl
@[simp] theorem isnn_n : cmpD .IsNot .none .none = some false := rfl
@[simp] theorem isnn_i (i : Int) : cmpD .IsNot (.int i) .none = some true := rfl
@[simp] theorem isnn_t (xs : List D) : cmpD .IsNot (.tuple xs) .none = some true := rfl
@[simp] theorem isnn_p (q : Rat) : cmpD .IsNot (pr q) .none = some true := rfl
@[simp] theorem isb (a b : Bool) : cmpD .Is (.bool a) (.bool b) = some (a == b) := rfl
@[simp] theorem isnb (a b : Bool) : cmpD .IsNot (.bool a) (.bool b) = some !(a == b) := rfl
theorem whlN_mono {c : EM} {b : SM} {r : Fl × Sl × Store} : ∀ {n : Nat} {sl : Sl} {st : Store}, whlN c b n sl st = some r → whlN c b (n + 1) sl st = some r
  | 0, _, _, h => by cases h
  | n + 1, sl, st, h => by
    unfold whlN at h
    obtain ⟨w, st1, e1, h⟩ := andW_some h
    unfold whlN
    rw [e1]
    simp only [andW_s]
    cases et : truW w with
    | none => rw [et] at h; cases h
    | some t =>
      rw [et] at h
      cases t with
      | false => exact h
      | true =>
        simp only at h ⊢
        cases e2 : b sl st1 with
        | none => rw [e2] at h; cases h
        | some z =>
          obtain ⟨fl, sl2, st2⟩ := z
          rw [e2] at h
          cases fl with
          | nx => exact whlN_mono h
          | ct => exact whlN_mono h
          | bk => exact h
          | ret w2 => exact h
theorem whlN_le {c : EM} {b : SM} {r : Fl × Sl × Store} {n m : Nat} {sl : Sl} {st : Store} (h : whlN c b n sl st = some r) (hm : n ≤ m) : whlN c b m sl st = some r := by
  induction hm with
  | refl => exact h
  | step _ ih => exact whlN_mono ih
theorem whlW_of {c : EM} {b : SM} {r : Fl × Sl × Store} {n : Nat} {sl : Sl} {st : Store} (h : whlN c b n sl st = some r) : whlW c b sl st = some r := by
  unfold whlW
  have uniq : ∀ {m : Nat} {q : Fl × Sl × Store}, whlN c b m sl st = some q → q = r := fun {m q} e => by
    rcases Nat.le_total n m with l | l
    · have := whlN_le h l
      rw [e] at this
      exact Option.some.inj this
    · have := whlN_le e l
      rw [h] at this
      exact (Option.some.inj this).symm
  split
  · rename_i q e
    rw [uniq e]
  · have hx : ∃ n r, whlN c b n sl st = some r := ⟨n, r, h⟩
    rw [dif_pos hx, uniq hx.choose_spec.choose_spec]
end WM
namespace WM
open PySem PySem.Spec PyProof.Rows L2 RT
structure Bd (q : Rat) (N D : Nat) : Prop where
  n : q.num.natAbs ≤ N
  d : q.den ≤ D
theorem Bd.mono {q : Rat} {N D N' D' : Nat} (h : Bd q N D) (h1 : N ≤ N') (h2 : D ≤ D') : Bd q N' D' := ⟨Nat.le_trans h.n h1, Nat.le_trans h.d h2⟩
theorem Bd.of_divInt {t b : Int} {N D : Nat} (hb : 0 < b) (h1 : t.natAbs ≤ N) (h2 : b.natAbs ≤ D) : Bd (Rat.divInt t b) N D :=
  ⟨Nat.le_trans (divInt_num_le hb) h1, by have := divInt_den_le (t := t) hb; omega⟩
theorem den_pos' (q : Rat) : (0 : Int) < q.den := by have := q.den_pos; omega
theorem Bd.add {p q : Rat} {N D M E : Nat} (h1 : Bd p N D) (h2 : Bd q M E) : Bd (p + q) (N * E + M * D) (D * E) := by
  rw [← add_div]
  refine Bd.of_divInt (Int.mul_pos (den_pos' p) (den_pos' q)) ?_ ?_
  · refine Nat.le_trans (Int.natAbs_add_le _ _) ?_
    rw [Int.natAbs_mul, Int.natAbs_mul]
    exact Nat.add_le_add (Nat.mul_le_mul h1.n (by simpa using h2.d)) (Nat.mul_le_mul h2.n (by simpa using h1.d))
  · rw [Int.natAbs_mul]
    exact Nat.mul_le_mul (by simpa using h1.d) (by simpa using h2.d)
theorem Bd.mul {p q : Rat} {N D M E : Nat} (h1 : Bd p N D) (h2 : Bd q M E) : Bd (p * q) (N * M) (D * E) := by
  rw [← mul_div]
  refine Bd.of_divInt (Int.mul_pos (den_pos' p) (den_pos' q)) ?_ ?_
  · rw [Int.natAbs_mul]
    exact Nat.mul_le_mul h1.n h2.n
  · rw [Int.natAbs_mul]
    exact Nat.mul_le_mul (by simpa using h1.d) (by simpa using h2.d)
theorem Bd.muli {p : Rat} {N D M : Nat} {n : Int} (h1 : Bd p N D) (h2 : n.natAbs ≤ M) : Bd (p * (n : Rat)) (N * M) D := by
  rw [← muli_div]
  refine Bd.of_divInt (den_pos' p) ?_ (by simpa using h1.d)
  rw [Int.natAbs_mul]
  exact Nat.mul_le_mul h1.n h2
theorem Bd.neg {p : Rat} {N D : Nat} (h1 : Bd p N D) : Bd (-p) N D := ⟨by rw [num_neg, Int.natAbs_neg]; exact h1.n, h1.d⟩
theorem Bd.ab {p : Rat} {N D : Nat} (h1 : Bd p N D) : Bd (ab p) N D := by
  unfold RT.ab
  split
  · exact h1.neg
  · exact h1
theorem Bd.fr {p : Rat} {N D : Nat} (h1 : Bd p N D) : Bd (fr p) D D := by
  rw [← fr_div]
  refine Bd.of_divInt (den_pos' p) ?_ (by simpa using h1.d)
  have a := Int.emod_nonneg p.num (Int.ne_of_gt (den_pos' p))
  have b := Int.emod_lt_of_pos p.num (den_pos' p)
  have := h1.d
  omega
theorem Bd.int (i : Int) : Bd (i : Rat) i.natAbs 1 := ⟨by rw [Rat.num_intCast]; exact Nat.le_refl _, by simp⟩
theorem Bd.wy {p : Rat} {N D : Nat} (h1 : Bd p N D) : Bd (wy p) (2 * D) D := by
  unfold RT.wy
  split
  · exact h1.fr.mono (by omega) (Nat.le_refl _)
  · have := (h1.fr).add (Bd.int (-1))
    have e : RT.fr p - 1 = RT.fr p + ((-1 : Int) : Rat) := by
      rw [Rat.intCast_neg, Rat.intCast_one]
      grind
    rw [e]
    refine this.mono ?_ ?_
    · simp
      omega
    · omega
/-- small: any product of two stays within what the machine's ints are allowed here -/
structure Sm (q : Rat) : Prop where
  n : q.num.natAbs < 2 ^ 1000
  d : q.den < 2 ^ 1000
theorem Bd.sm {q : Rat} {N D : Nat} (h : Bd q N D) (h1 : N < 2 ^ 1000 := by decide) (h2 : D < 2 ^ 1000 := by decide) : Sm q := ⟨Nat.lt_of_le_of_lt h.n h1, Nat.lt_of_le_of_lt h.d h2⟩
theorem big1 {n : Nat} (h : n < 2 ^ 1000) : n < BIG := lt_big (Nat.lt_trans h (by decide +kernel))
theorem Sm.mul_ok {i j : Int} (h1 : i.natAbs < 2 ^ 1000) (h2 : j.natAbs < 2 ^ 1000) : binD .Mult (.int i) (.int j) = some (.int (i * j)) := mul_i (mulOk_b (big1 h1) (big1 h2))
theorem Sm.dd {p q : Rat} (h1 : Sm p) (h2 : Sm q) : ((p.den : Int) * q.den).natAbs < BIG := by
  rw [Int.natAbs_mul]
  refine lt_big (Nat.lt_of_le_of_lt (Nat.mul_le_mul (show (p.den : Int).natAbs ≤ 2 ^ 1000 by have := h1.d; simpa using Nat.le_of_lt this) (show (q.den : Int).natAbs ≤ 2 ^ 1000 by have := h2.d; simpa using Nat.le_of_lt this)) ?_)
  rw [← Nat.pow_add]
  exact Nat.pow_lt_pow_right (by omega) (by omega)
theorem Sm.d' {p : Rat} (h : Sm p) : ((p.den : Int)).natAbs < 2 ^ 1000 := by simpa using h.d
end WM
namespace WM.K94
open PySem PySem.Spec PyProof.Rows L2
def i_is_whole : Nat := 0
def i_need_whole : Nat := 1
def i_is_tuple_of : Nat := 2
def i_is_ratio : Nat := 3
def i_need_ratio : Nat := 4
def i_need_ratios : Nat := 5
def i_cut : Nat := 6
def i_sum_two : Nat := 7
def i_side : Nat := 8
def i_ratio : Nat := 9
def i_sum_of : Nat := 10
def i_product_of : Nat := 11
def i_order_of : Nat := 12
def i_rest_part : Nat := 13
def i_fits_time : Nat := 14
def i_need_time : Nat := 15
def i_need_both : Nat := 16
def i_swaps_of : Nat := 17
def i_count_swaps : Nat := 18
def i_count_alike : Nat := 19
def i_count_doubtful : Nat := 20
def i_swap_time : Nat := 21
def i_partner_of : Nat := 22
def i_are_alike : Nat := 23
def i_next_swap : Nat := 24
def i_need_numbers : Nat := 25
def i_parts_for : Nat := 26
def i_met : Nat := 27
def i_divisor_of : Nat := 28
def i_is_hand : Nat := 29
def i_are_hands : Nat := 30
def i_need_hands : Nat := 31
def i_are_marks : Nat := 32
def i_need_marks : Nat := 33
def i_marks_of : Nat := 34
def i_cycle_for : Nat := 35
def i_common_for : Nat := 36
def i_sets_of : Nat := 37
def i_marks_at : Nat := 38
def i_time_of : Nat := 39
def i_marks_bar : Nat := 40
def i_is_part : Nat := 41
def i_need_found : Nat := 42
def i_rest_of : Nat := 43
def i_times : Nat := 44
def i_way_to : Nat := 45
def i_apart : Nat := 46
def i_greater : Nat := 47
def i_error_of : Nat := 48
def i_settled : Nat := 49
def i_error_at : Nat := 50
def i_least_error : Nat := 51
def i_nearest_time : Nat := 52
def i_is_nearest : Nat := 53
def i__law_cup : Nat := 54
def i__law_roll : Nat := 55
def i__law_some : Nat := 56
def i__law_sort : Nat := 57
def i__law_like : Nat := 58
def i__law_place : Nat := 59
def i__law_apart : Nat := 60
def i__law_time_right : Nat := 61
def i__law_all_right : Nat := 62
def i__law_dial_right : Nat := 63
def i_law : Nat := 64
def b_law : Ss := (.cons (.for (.v 2) (.rng1 (.lit (.int 6))) (.cons (.set 4 (.bin .Add (.lit (.int 2)) (.call i__law_some (.cons (.raw 1) (.cons (.lst (.cons (.call i__law_roll (.cons (.raw 1) (.cons (.lit (.int 30)) .nil))) (.cons (.call i__law_roll (.cons (.raw 1) (.cons (.lit (.int 999)) .nil))) .nil))) .nil))))) (.cons (.set 5 (.bin .Add (.lit (.int 1)) (.call i__law_roll (.cons (.raw 1) (.cons (.lit (.int 1000)) .nil))))) (.cons (.set 6 (.call i_ratio (.cons (.call i__law_roll (.cons (.raw 1) (.cons (.raw 5) .nil))) (.cons (.raw 5) .nil)))) (.cons (.ite (.not (.call i__law_time_right (.cons (.raw 4) (.cons (.raw 6) .nil)))) (.cons (.ret (.lit (.bool false))) .nil) .nil) (.cons (.set 4 (.bin .Add (.lit (.int 2)) (.call i__law_roll (.cons (.raw 1) (.cons (.lit (.int 30)) .nil))))) (.cons (.ite (.not (.call i__law_time_right (.cons (.raw 4) (.cons (.call i_ratio (.cons (.call i__law_roll (.cons (.raw 1) (.cons (.bin .Sub (.bin .Mult (.var 4) (.var 4)) (.lit (.int 1))) .nil))) (.cons (.bin .Sub (.bin .Mult (.var 4) (.var 4)) (.lit (.int 1))) .nil))) .nil)))) (.cons (.ret (.lit (.bool false))) .nil) .nil) (.cons (.ite (.or (.not (.call i__law_dial_right (.cons (.raw 1) (.cons (.raw 4) (.cons (.bin .Add (.lit (.int 2)) (.call i__law_roll (.cons (.raw 1) (.cons (.lit (.int 59)) .nil)))) .nil))))) (.not (.call i__law_dial_right (.cons (.raw 1) (.cons (.raw 4) (.cons (.bin .Sub (.bin .Mult (.var 4) (.var 4)) (.lit (.int 1))) .nil)))))) (.cons (.ret (.lit (.bool false))) .nil) .nil) .nil)))))))) (.cons (.set 3 (.lst (.cons (.call i_partner_of (.cons (.lit (.int 12)) (.cons (.tup (.cons (.lit (.int 1)) (.cons (.lit (.int 143)) .nil))) .nil))) (.cons (.call i_least_error (.cons (.lit (.int 1)) (.cons (.lit (.int 12)) (.cons (.tup (.cons (.lit (.int 12)) (.cons (.lit (.int 143)) .nil))) (.cons (.tup (.cons (.lit (.int 1)) (.cons (.lit (.int 143)) .nil))) .nil))))) .nil)))) (.cons (.set 3 (.bin .Add (.var 3) (.lst (.cons (.call i_least_error (.cons (.lit (.int 1)) (.cons (.lit (.int 12)) (.cons (.tup (.cons (.lit (.int 0)) (.cons (.lit (.int 1)) .nil))) (.cons (.tup (.cons (.lit (.int 1)) (.cons (.lit (.int 2)) .nil))) .nil))))) (.cons (.call i_partner_of (.cons (.lit (.int 12)) (.cons (.tup (.cons (.lit (.int 1)) (.cons (.lit (.int 2)) .nil))) .nil))) .nil))))) (.cons (.set 3 (.bin .Add (.var 3) (.lst (.cons (.call i_nearest_time (.cons (.lit (.int 1)) (.cons (.lit (.int 2)) (.cons (.tup (.cons (.lit (.int 2)) (.cons (.lit (.int 3)) .nil))) (.cons (.tup (.cons (.lit (.int 1)) (.cons (.lit (.int 3)) .nil))) .nil))))) (.cons (.call i_least_error (.cons (.lit (.int 1)) (.cons (.lit (.int 2)) (.cons (.tup (.cons (.lit (.int 1)) (.cons (.lit (.int 2)) .nil))) (.cons (.tup (.cons (.lit (.int 1)) (.cons (.lit (.int 4)) .nil))) .nil))))) .nil))))) (.cons (.set 3 (.bin .Add (.var 3) (.lst (.cons (.call i_time_of (.cons (.tup (.cons (.tup (.cons (.lit (.int 1)) (.cons (.lit (.int 60)) .nil))) (.cons (.tup (.cons (.lit (.int 12)) (.cons (.lit (.int 60)) .nil))) .nil))) (.cons (.tup (.cons (.lit (.int 0)) (.cons (.lit (.int 5)) .nil))) .nil))) (.cons (.call i_time_of (.cons (.tup (.cons (.tup (.cons (.lit (.int 1)) (.cons (.lit (.int 143)) .nil))) (.cons (.tup (.cons (.lit (.int 12)) (.cons (.lit (.int 143)) .nil))) .nil))) (.cons (.tup (.cons (.lit (.int 12)) (.cons (.lit (.int 1)) .nil))) .nil))) .nil))))) (.cons (.ite (.not (.call i__law_like (.cons (.raw 3) (.cons (.lst (.cons (.tup (.cons (.lit (.int 12)) (.cons (.lit (.int 143)) .nil))) (.cons (.tup (.cons (.lit (.int 0)) (.cons (.lit (.int 1)) .nil))) (.cons (.tup (.cons (.lit (.int 1)) (.cons (.lit (.int 26)) .nil))) (.cons (.lit .none) (.cons (.tup (.cons (.lit (.int 2)) (.cons (.lit (.int 3)) .nil))) (.cons (.tup (.cons (.lit (.int 1)) (.cons (.lit (.int 12)) .nil))) (.cons (.lit .none) (.cons (.lit (.int 12)) .nil))))))))) .nil)))) (.cons (.ret (.lit (.bool false))) .nil) .nil) (.cons (.for (.v 4) (.val (.tup (.cons (.lit (.int 2)) (.cons (.lit (.int 3)) (.cons (.lit (.int 4)) (.cons (.lit (.int 7)) .nil)))))) (.cons (.ite (.not (.call i__law_all_right (.cons (.raw 4) .nil))) (.cons (.ret (.lit (.bool false))) .nil) .nil) .nil)) (.cons (.for (.t (.cons (.v 4) (.cons (.v 7) .nil))) (.val (.tup (.cons (.tup (.cons (.lit (.int 12)) (.cons (.lit (.int 143)) .nil))) (.cons (.tup (.cons (.lit (.int 12)) (.cons (.lit (.int 60)) .nil))) (.cons (.tup (.cons (.lit (.int 2)) (.cons (.lit (.int 3)) .nil))) (.cons (.tup (.cons (.lit (.int 31)) (.cons (.lit (.int 960)) .nil))) (.cons (.tup (.cons (.lit (.int 5)) (.cons (.lit (.int 24)) .nil))) (.cons (.tup (.cons (.lit (.int 7)) (.cons (.lit (.int 50)) .nil))) .nil)))))))) (.cons (.ite (.not (.call i__law_dial_right (.cons (.raw 1) (.cons (.raw 4) (.cons (.raw 7) .nil))))) (.cons (.ret (.lit (.bool false))) .nil) .nil) .nil)) (.cons (.ret (.and (.call i__law_time_right (.cons (.lit (.int 1000)) (.cons (.tup (.cons (.lit (.int 1)) (.cons (.lit (.int 999)) .nil))) .nil))) (.and (.call i__law_time_right (.cons (.lit (.int 1000)) (.cons (.tup (.cons (.lit (.int 500)) (.cons (.lit (.int 999)) .nil))) .nil))) (.call i__law_time_right (.cons (.lit (.int 31)) (.cons (.tup (.cons (.lit (.int 1)) (.cons (.lit (.int 960)) .nil))) .nil)))))) .nil)))))))))
def f_is_whole : Fd := ⟨3, 3, (.cons (.ret (.and (.isi (.var 0) .int) (.and (.not (.isi (.var 0) .bool)) (.cmp2 .LtE .LtE (.var 1) (.var 0) (.var 2))))) .nil)⟩
def f_need_whole : Fd := ⟨3, 3, (.cons (.ite (.not (.call i_is_whole (.cons (.raw 0) (.cons (.raw 1) (.cons (.raw 2) .nil))))) (.cons .nev .nil) .nil) .nil)⟩
def f_is_tuple_of : Fd := ⟨3, 3, (.cons (.ret (.and (.isi (.var 0) .tuple) (.cmp2 .LtE .LtE (.var 1) (.blt .len (.cons (.raw 0) .nil)) (.var 2)))) .nil)⟩
def f_is_ratio : Fd := ⟨1, 1, (.cons (.ite (.or (.not (.call i_is_tuple_of (.cons (.raw 0) (.cons (.lit (.int 2)) (.cons (.lit (.int 2)) .nil))))) (.or (.not (.call i_is_whole (.cons (.ix (.raw 0) (.lit (.int 0))) (.cons (.neg (.lit (.int 1000000000000000000000000000000000000000000000000000000000000))) (.cons (.lit (.int 1000000000000000000000000000000000000000000000000000000000000)) .nil))))) (.not (.call i_is_whole (.cons (.ix (.raw 0) (.lit (.int 1))) (.cons (.lit (.int 1)) (.cons (.lit (.int 1000000000000000000000000000000000000000000000000000000000000)) .nil))))))) (.cons (.ret (.lit (.bool false))) .nil) .nil) (.cons (.ret (.cmp .Eq (.blt .gcd (.cons (.ix (.raw 0) (.lit (.int 0))) (.cons (.ix (.raw 0) (.lit (.int 1))) .nil))) (.lit (.int 1)))) .nil))⟩
def f_need_ratio : Fd := ⟨1, 1, (.cons (.ite (.not (.call i_is_ratio (.cons (.raw 0) .nil))) (.cons .nev .nil) .nil) .nil)⟩
def f_need_ratios : Fd := ⟨1, 2, (.cons (.ite (.or (.not (.call i_is_tuple_of (.cons (.raw 0) (.cons (.lit (.int 0)) (.cons (.lit (.int 100)) .nil))))) (.not (.blt .all (.cons (.comp (.v 1) (.val (.var 0)) .none [1] (.call i_is_ratio (.cons (.raw 1) .nil))) .nil)))) (.cons .nev .nil) .nil) .nil)⟩
def f_cut : Fd := ⟨2, 3, (.cons (.set 2 (.blt .gcd (.cons (.var 0) (.cons (.var 1) .nil)))) (.cons (.ret (.ite (.cmp .Lt (.var 1) (.lit (.int 0))) (.tup (.cons (.bin .FloorDiv (.neg (.var 0)) (.var 2)) (.cons (.bin .FloorDiv (.neg (.var 1)) (.var 2)) .nil))) (.tup (.cons (.bin .FloorDiv (.var 0) (.var 2)) (.cons (.bin .FloorDiv (.var 1) (.var 2)) .nil))))) .nil))⟩
def f_sum_two : Fd := ⟨2, 2, (.cons (.ret (.call i_cut (.cons (.bin .Add (.bin .Mult (.ix (.raw 0) (.lit (.int 0))) (.ix (.raw 1) (.lit (.int 1)))) (.bin .Mult (.ix (.raw 1) (.lit (.int 0))) (.ix (.raw 0) (.lit (.int 1))))) (.cons (.bin .Mult (.ix (.raw 0) (.lit (.int 1))) (.ix (.raw 1) (.lit (.int 1)))) .nil)))) .nil)⟩
def f_side : Fd := ⟨2, 2, (.cons (.ret (.bin .Sub (.bin .Mult (.ix (.raw 0) (.lit (.int 0))) (.ix (.raw 1) (.lit (.int 1)))) (.bin .Mult (.ix (.raw 1) (.lit (.int 0))) (.ix (.raw 0) (.lit (.int 1)))))) .nil)⟩
def f_ratio : Fd := ⟨2, 2, (.cons (.expr (.call i_need_whole (.cons (.raw 0) (.cons (.neg (.lit (.int 1000000000000000000000000000000000000000000000000000000000000))) (.cons (.lit (.int 1000000000000000000000000000000000000000000000000000000000000)) .nil))))) (.cons (.expr (.call i_need_whole (.cons (.raw 1) (.cons (.neg (.lit (.int 1000000000000000000000000000000000000000000000000000000000000))) (.cons (.lit (.int 1000000000000000000000000000000000000000000000000000000000000)) .nil))))) (.cons (.ite (.cmp .Eq (.var 1) (.lit (.int 0))) (.cons .nev .nil) .nil) (.cons (.ret (.call i_cut (.cons (.raw 0) (.cons (.raw 1) .nil)))) .nil))))⟩
def f_sum_of : Fd := ⟨1, 3, (.cons (.expr (.call i_need_ratios (.cons (.raw 0) .nil))) (.cons (.set 1 (.tup (.cons (.lit (.int 0)) (.cons (.lit (.int 1)) .nil)))) (.cons (.for (.v 2) (.val (.var 0)) (.cons (.set 1 (.call i_sum_two (.cons (.raw 1) (.cons (.raw 2) .nil)))) .nil)) (.cons (.ret (.var 1)) .nil))))⟩
def f_product_of : Fd := ⟨1, 3, (.cons (.expr (.call i_need_ratios (.cons (.raw 0) .nil))) (.cons (.set 1 (.tup (.cons (.lit (.int 1)) (.cons (.lit (.int 1)) .nil)))) (.cons (.for (.v 2) (.val (.var 0)) (.cons (.set 1 (.call i_cut (.cons (.bin .Mult (.ix (.raw 1) (.lit (.int 0))) (.ix (.raw 2) (.lit (.int 0)))) (.cons (.bin .Mult (.ix (.raw 1) (.lit (.int 1))) (.ix (.raw 2) (.lit (.int 1)))) .nil)))) .nil)) (.cons (.ret (.var 1)) .nil))))⟩
def f_order_of : Fd := ⟨2, 3, (.cons (.expr (.call i_need_ratio (.cons (.raw 0) .nil))) (.cons (.expr (.call i_need_ratio (.cons (.raw 1) .nil))) (.cons (.set 2 (.call i_side (.cons (.raw 0) (.cons (.raw 1) .nil)))) (.cons (.ret (.ite (.cmp .Gt (.var 2) (.lit (.int 0))) (.lit (.int 1)) (.ite (.cmp .Lt (.var 2) (.lit (.int 0))) (.neg (.lit (.int 1))) (.lit (.int 0))))) .nil))))⟩
def f_rest_part : Fd := ⟨1, 1, (.cons (.expr (.call i_need_ratio (.cons (.raw 0) .nil))) (.cons (.ret (.call i_cut (.cons (.bin .Mod (.ix (.raw 0) (.lit (.int 0))) (.ix (.raw 0) (.lit (.int 1)))) (.cons (.ix (.raw 0) (.lit (.int 1))) .nil)))) .nil))⟩
def f_fits_time : Fd := ⟨1, 1, (.cons (.ret (.and (.call i_is_ratio (.cons (.raw 0) .nil)) (.and (.cmp2 .LtE .LtE (.neg (.lit (.int 1000000000000))) (.ix (.raw 0) (.lit (.int 0))) (.lit (.int 1000000000000))) (.cmp .LtE (.ix (.raw 0) (.lit (.int 1))) (.lit (.int 1000000)))))) .nil)⟩
def f_need_time : Fd := ⟨1, 1, (.cons (.ite (.not (.call i_fits_time (.cons (.raw 0) .nil))) (.cons .nev .nil) .nil) .nil)⟩
def f_need_both : Fd := ⟨2, 2, (.cons (.expr (.call i_need_whole (.cons (.raw 0) (.cons (.lit (.int 2)) (.cons (.lit (.int 1000)) .nil))))) (.cons (.expr (.call i_need_time (.cons (.raw 1) .nil))) (.cons (.ite (.not (.call i_is_whole (.cons (.ix (.raw 1) (.lit (.int 0))) (.cons (.lit (.int 0)) (.cons (.bin .Sub (.ix (.raw 1) (.lit (.int 1))) (.lit (.int 1))) .nil))))) (.cons .nev .nil) .nil) .nil)))⟩
def f_swaps_of : Fd := ⟨1, 1, (.cons (.ret (.bin .Sub (.bin .Mult (.var 0) (.var 0)) (.lit (.int 1)))) .nil)⟩
def f_count_swaps : Fd := ⟨1, 1, (.cons (.expr (.call i_need_whole (.cons (.raw 0) (.cons (.lit (.int 2)) (.cons (.lit (.int 1000)) .nil))))) (.cons (.ret (.call i_swaps_of (.cons (.raw 0) .nil))) .nil))⟩
def f_count_alike : Fd := ⟨1, 1, (.cons (.expr (.call i_need_whole (.cons (.raw 0) (.cons (.lit (.int 2)) (.cons (.lit (.int 1000)) .nil))))) (.cons (.ret (.bin .Sub (.var 0) (.lit (.int 1)))) .nil))⟩
def f_count_doubtful : Fd := ⟨1, 1, (.cons (.expr (.call i_need_whole (.cons (.raw 0) (.cons (.lit (.int 2)) (.cons (.lit (.int 1000)) .nil))))) (.cons (.ret (.bin .Sub (.bin .Mult (.var 0) (.var 0)) (.var 0))) .nil))⟩
def f_swap_time : Fd := ⟨2, 2, (.cons (.expr (.call i_need_whole (.cons (.raw 0) (.cons (.lit (.int 2)) (.cons (.lit (.int 1000)) .nil))))) (.cons (.expr (.call i_need_whole (.cons (.raw 1) (.cons (.lit (.int 0)) (.cons (.bin .Sub (.call i_swaps_of (.cons (.raw 0) .nil)) (.lit (.int 1))) .nil))))) (.cons (.ret (.call i_cut (.cons (.raw 1) (.cons (.call i_swaps_of (.cons (.raw 0) .nil)) .nil)))) .nil)))⟩
def f_partner_of : Fd := ⟨2, 2, (.cons (.expr (.call i_need_both (.cons (.raw 0) (.cons (.raw 1) .nil)))) (.cons (.ite (.cmp .NotEq (.bin .Mod (.bin .Mult (.call i_swaps_of (.cons (.raw 0) .nil)) (.ix (.raw 1) (.lit (.int 0)))) (.ix (.raw 1) (.lit (.int 1)))) (.lit (.int 0))) (.cons (.ret (.lit .none)) .nil) .nil) (.cons (.ret (.call i_cut (.cons (.bin .Mod (.bin .Mult (.var 0) (.ix (.raw 1) (.lit (.int 0)))) (.ix (.raw 1) (.lit (.int 1)))) (.cons (.ix (.raw 1) (.lit (.int 1))) .nil)))) .nil)))⟩
def f_are_alike : Fd := ⟨2, 2, (.cons (.expr (.call i_need_both (.cons (.raw 0) (.cons (.raw 1) .nil)))) (.cons (.ret (.cmp .Eq (.bin .Mod (.bin .Mult (.bin .Sub (.var 0) (.lit (.int 1))) (.ix (.raw 1) (.lit (.int 0)))) (.ix (.raw 1) (.lit (.int 1)))) (.lit (.int 0)))) .nil))⟩
def f_next_swap : Fd := ⟨2, 3, (.cons (.expr (.call i_need_both (.cons (.raw 0) (.cons (.raw 1) .nil)))) (.cons (.set 2 (.neg (.bin .FloorDiv (.bin .Mult (.neg (.call i_swaps_of (.cons (.raw 0) .nil))) (.ix (.raw 1) (.lit (.int 0)))) (.ix (.raw 1) (.lit (.int 1)))))) (.cons (.ret (.ite (.cmp .Lt (.var 2) (.call i_swaps_of (.cons (.raw 0) .nil))) (.call i_cut (.cons (.raw 2) (.cons (.call i_swaps_of (.cons (.raw 0) .nil)) .nil))) (.lit .none))) .nil)))⟩
def f_need_numbers : Fd := ⟨1, 2, (.cons (.ite (.or (.not (.call i_is_tuple_of (.cons (.raw 0) (.cons (.lit (.int 1)) (.cons (.lit (.int 20)) .nil))))) (.not (.blt .all (.cons (.comp (.v 1) (.val (.var 0)) .none [1] (.call i_is_whole (.cons (.raw 1) (.cons (.lit (.int 1)) (.cons (.lit (.int 1000000000000000000000000000000)) .nil))))) .nil)))) (.cons .nev .nil) .nil) .nil)⟩
def f_parts_for : Fd := ⟨2, 6, (.cons (.unp (.cons (.v 2) (.cons (.v 3) .nil)) (.tup (.cons (.tup (.cons (.var 0) (.cons (.lit (.int 1)) (.cons (.lit (.int 0)) .nil)))) (.cons (.tup (.cons (.var 1) (.cons (.lit (.int 0)) (.cons (.lit (.int 1)) .nil)))) .nil)))) (.cons (.whl (.cmp .NotEq (.ix (.raw 3) (.lit (.int 0))) (.lit (.int 0))) (.cons (.set 4 (.bin .FloorDiv (.ix (.raw 2) (.lit (.int 0))) (.ix (.raw 3) (.lit (.int 0))))) (.cons (.unp (.cons (.v 2) (.cons (.v 3) .nil)) (.tup (.cons (.var 3) (.cons (.blt .tuple (.cons (.comp (.v 5) (.rng1 (.lit (.int 3))) .none [5] (.bin .Sub (.ix (.raw 2) (.var 5)) (.bin .Mult (.var 4) (.ix (.raw 3) (.var 5))))) .nil)) .nil)))) .nil))) (.cons (.ret (.var 2)) .nil)))⟩
def f_met : Fd := ⟨2, 6, (.cons (.unp (.cons (.v 3) (.cons (.v 4) (.cons (.v 5) .nil))) (.call i_parts_for (.cons (.ix (.raw 0) (.lit (.int 0))) (.cons (.ix (.raw 1) (.lit (.int 0))) .nil)))) (.cons (.ite (.cmp .NotEq (.bin .Mod (.bin .Sub (.ix (.raw 1) (.lit (.int 1))) (.ix (.raw 0) (.lit (.int 1)))) (.var 3)) (.lit (.int 0))) (.cons (.ret (.lit .none)) .nil) .nil) (.cons (.set 2 (.bin .Mult (.bin .FloorDiv (.ix (.raw 0) (.lit (.int 0))) (.var 3)) (.ix (.raw 1) (.lit (.int 0))))) (.cons (.ret (.tup (.cons (.var 2) (.cons (.bin .Mod (.bin .Add (.ix (.raw 0) (.lit (.int 1))) (.bin .Mult (.bin .Mult (.bin .FloorDiv (.bin .Sub (.ix (.raw 1) (.lit (.int 1))) (.ix (.raw 0) (.lit (.int 1)))) (.var 3)) (.var 4)) (.ix (.raw 0) (.lit (.int 0))))) (.var 2)) .nil)))) .nil))))⟩
def f_divisor_of : Fd := ⟨1, 3, (.cons (.expr (.call i_need_numbers (.cons (.raw 0) .nil))) (.cons (.set 1 (.lit (.int 0))) (.cons (.for (.v 2) (.val (.var 0)) (.cons (.set 1 (.blt .gcd (.cons (.var 1) (.cons (.var 2) .nil)))) .nil)) (.cons (.ret (.var 1)) .nil))))⟩
def f_is_hand : Fd := ⟨1, 1, (.cons (.ret (.and (.call i_is_tuple_of (.cons (.raw 0) (.cons (.lit (.int 2)) (.cons (.lit (.int 2)) .nil)))) (.and (.call i_is_whole (.cons (.ix (.raw 0) (.lit (.int 1))) (.cons (.lit (.int 1)) (.cons (.lit (.int 1000)) .nil)))) (.call i_is_whole (.cons (.ix (.raw 0) (.lit (.int 0))) (.cons (.lit (.int 0)) (.cons (.bin .Sub (.ix (.raw 0) (.lit (.int 1))) (.lit (.int 1))) .nil))))))) .nil)⟩
def f_are_hands : Fd := ⟨1, 2, (.cons (.ret (.and (.call i_is_tuple_of (.cons (.raw 0) (.cons (.lit (.int 1)) (.cons (.lit (.int 6)) .nil)))) (.blt .all (.cons (.comp (.v 1) (.val (.var 0)) .none [1] (.call i_is_hand (.cons (.raw 1) .nil))) .nil)))) .nil)⟩
def f_need_hands : Fd := ⟨1, 1, (.cons (.ite (.not (.call i_are_hands (.cons (.raw 0) .nil))) (.cons .nev .nil) .nil) .nil)⟩
def f_are_marks : Fd := ⟨2, 6, (.cons (.set 2 (.blt .len (.cons (.raw 0) .nil))) (.cons (.ret (.and (.call i_is_tuple_of (.cons (.raw 1) (.cons (.raw 2) (.cons (.raw 2) .nil)))) (.blt .all (.cons (.comp (.t (.cons (.v 3) (.cons (.t (.cons (.v 4) (.cons (.v 5) .nil))) .nil))) (.zip (.var 1) (.var 0)) .none [3, 4, 5] (.call i_is_whole (.cons (.raw 3) (.cons (.lit (.int 0)) (.cons (.bin .Sub (.var 5) (.lit (.int 1))) .nil))))) .nil)))) .nil))⟩
def f_need_marks : Fd := ⟨2, 2, (.cons (.expr (.call i_need_hands (.cons (.raw 0) .nil))) (.cons (.ite (.not (.call i_are_marks (.cons (.raw 0) (.cons (.raw 1) .nil)))) (.cons .nev .nil) .nil) .nil))⟩
def f_marks_of : Fd := ⟨2, 4, (.cons (.ret (.blt .tuple (.cons (.comp (.t (.cons (.v 2) (.cons (.v 3) .nil))) (.val (.var 0)) .none [2, 3] (.bin .Mod (.bin .Mult (.var 2) (.var 1)) (.var 3))) .nil))) .nil)⟩
def f_cycle_for : Fd := ⟨2, 7, (.cons (.unp (.cons (.v 2) (.cons (.v 3) .nil)) (.var 0)) (.cons (.unp (.cons (.v 4) (.cons (.v 5) (.cons (.v 6) .nil))) (.call i_parts_for (.cons (.raw 2) (.cons (.raw 3) .nil)))) (.cons (.ite (.cmp .NotEq (.bin .Mod (.var 1) (.var 4)) (.lit (.int 0))) (.cons (.ret (.lit .none)) .nil) .nil) (.cons (.ret (.tup (.cons (.bin .FloorDiv (.var 3) (.var 4)) (.cons (.bin .Mod (.bin .Mult (.bin .FloorDiv (.var 1) (.var 4)) (.var 5)) (.bin .FloorDiv (.var 3) (.var 4))) .nil)))) .nil))))⟩
def f_common_for : Fd := ⟨2, 6, (.cons (.set 2 (.tup (.cons (.lit (.int 1)) (.cons (.lit (.int 0)) .nil)))) (.cons (.for (.t (.cons (.v 3) (.cons (.v 4) .nil))) (.zip (.var 0) (.var 1)) (.cons (.set 5 (.call i_cycle_for (.cons (.raw 3) (.cons (.raw 4) .nil)))) (.cons (.set 2 (.ite (.cmp .IsNot (.var 5) (.lit .none)) (.call i_met (.cons (.raw 2) (.cons (.raw 5) .nil))) (.lit .none))) (.cons (.ite (.cmp .Is (.var 2) (.lit .none)) (.cons (.ret (.lit .none)) .nil) .nil) .nil)))) (.cons (.ret (.var 2)) .nil)))⟩
def f_sets_of : Fd := ⟨1, 4, (.cons (.set 1 (.lst (.cons (.tup .nil) .nil))) (.cons (.for (.v 2) (.rng1 (.var 0)) (.cons (.set 1 (.bin .Add (.var 1) (.comp (.v 3) (.val (.var 1)) .none [3] (.bin .Add (.var 3) (.tup (.cons (.var 2) .nil)))))) .nil)) (.cons (.ret (.sl (.blt .sorted (.cons (.comp (.v 3) (.val (.var 1)) .none [3] (.tup (.cons (.blt .len (.cons (.raw 3) .nil)) (.cons (.var 3) .nil)))) .nil)) (.some (.lit (.int 1))) .none)) .nil)))⟩
def f_marks_at : Fd := ⟨2, 2, (.cons (.expr (.call i_need_hands (.cons (.raw 0) .nil))) (.cons (.ite (.not (.call i_is_whole (.cons (.raw 1) (.cons (.lit (.int 0)) (.cons (.lit (.int 1000000000000000000)) .nil))))) (.cons .nev .nil) .nil) (.cons (.ret (.call i_marks_of (.cons (.raw 0) (.cons (.raw 1) .nil)))) .nil)))⟩
def f_time_of : Fd := ⟨2, 3, (.cons (.expr (.call i_need_marks (.cons (.raw 0) (.cons (.raw 1) .nil)))) (.cons (.set 2 (.call i_common_for (.cons (.raw 0) (.cons (.raw 1) .nil)))) (.cons (.ret (.ite (.cmp .IsNot (.var 2) (.lit .none)) (.ix (.raw 2) (.lit (.int 1))) (.lit .none))) .nil)))⟩
def f_marks_bar : Fd := ⟨2, 6, (.cons (.expr (.call i_need_marks (.cons (.raw 0) (.cons (.raw 1) .nil)))) (.cons (.setC 2 (.lst .nil)) (.cons (.for (.t (.cons (.v 3) (.cons (.v 4) .nil))) (.val (.call i_sets_of (.cons (.blt .len (.cons (.raw 0) .nil)) .nil))) (.cons (.ite (.and (.cmp .Lt (.var 3) (.lit (.int 3))) (.cmp .Is (.call i_common_for (.cons (.comp (.v 5) (.val (.var 4)) .none [5] (.ix (.raw 0) (.var 5))) (.cons (.comp (.v 5) (.val (.var 4)) .none [5] (.ix (.raw 1) (.var 5))) .nil))) (.lit .none))) (.cons (.app 2 (.var 4)) .nil) .nil) .nil)) (.cons (.ret (.ite (.cmp .NotEq (.var 2) (.lst .nil)) (.blt .mn (.cons (.var 2) .nil)) (.lit .none))) .nil))))⟩
def f_is_part : Fd := ⟨2, 2, (.cons (.ret (.and (.call i_is_ratio (.cons (.raw 0) .nil)) (.cmp3 .LtE .Lt .LtE (.lit (.int 0)) (.ix (.raw 0) (.lit (.int 0))) (.ix (.raw 0) (.lit (.int 1))) (.var 1)))) .nil)⟩
def f_need_found : Fd := ⟨4, 4, (.cons (.expr (.call i_need_whole (.cons (.raw 0) (.cons (.lit (.int 1)) (.cons (.lit (.int 1000)) .nil))))) (.cons (.expr (.call i_need_whole (.cons (.raw 1) (.cons (.lit (.int 1)) (.cons (.lit (.int 1000)) .nil))))) (.cons (.ite (.or (.not (.call i_is_part (.cons (.raw 2) (.cons (.lit (.int 1000000)) .nil)))) (.not (.call i_is_part (.cons (.raw 3) (.cons (.lit (.int 1000000)) .nil))))) (.cons .nev .nil) .nil) .nil)))⟩
def f_rest_of : Fd := ⟨1, 1, (.cons (.ret (.call i_cut (.cons (.bin .Mod (.ix (.raw 0) (.lit (.int 0))) (.ix (.raw 0) (.lit (.int 1)))) (.cons (.ix (.raw 0) (.lit (.int 1))) .nil)))) .nil)⟩
def f_times : Fd := ⟨2, 2, (.cons (.ret (.call i_cut (.cons (.bin .Mult (.ix (.raw 0) (.lit (.int 0))) (.var 1)) (.cons (.ix (.raw 0) (.lit (.int 1))) .nil)))) .nil)⟩
def f_way_to : Fd := ⟨2, 3, (.cons (.set 2 (.call i_rest_of (.cons (.call i_sum_two (.cons (.raw 0) (.cons (.call i_times (.cons (.raw 1) (.cons (.neg (.lit (.int 1))) .nil))) .nil))) .nil))) (.cons (.ret (.ite (.cmp .Lt (.bin .Mult (.lit (.int 2)) (.ix (.raw 2) (.lit (.int 0)))) (.ix (.raw 2) (.lit (.int 1)))) (.var 2) (.call i_sum_two (.cons (.raw 2) (.cons (.tup (.cons (.neg (.lit (.int 1))) (.cons (.lit (.int 1)) .nil))) .nil))))) .nil))⟩
def f_apart : Fd := ⟨2, 3, (.cons (.set 2 (.call i_way_to (.cons (.raw 0) (.cons (.raw 1) .nil)))) (.cons (.ret (.tup (.cons (.blt .abs (.cons (.ix (.raw 2) (.lit (.int 0))) .nil)) (.cons (.ix (.raw 2) (.lit (.int 1))) .nil)))) .nil))⟩
def f_greater : Fd := ⟨2, 2, (.cons (.ret (.ite (.cmp .GtE (.call i_side (.cons (.raw 0) (.cons (.raw 1) .nil))) (.lit (.int 0))) (.var 0) (.var 1))) .nil)⟩
def f_error_of : Fd := ⟨5, 5, (.cons (.ret (.call i_greater (.cons (.call i_apart (.cons (.call i_rest_of (.cons (.call i_times (.cons (.raw 4) (.cons (.raw 0) .nil))) .nil)) (.cons (.raw 2) .nil))) (.cons (.call i_apart (.cons (.call i_rest_of (.cons (.call i_times (.cons (.raw 4) (.cons (.raw 1) .nil))) .nil)) (.cons (.raw 3) .nil))) .nil)))) .nil)⟩
def f_settled : Fd := ⟨4, 12, (.cons (.unp (.cons (.v 7) (.cons (.v 8) (.cons (.v 9) .nil))) (.call i_parts_for (.cons (.raw 0) (.cons (.raw 1) .nil)))) (.cons (.par [0, 1] (.cons (.bin .FloorDiv (.var 0) (.var 7)) (.cons (.bin .FloorDiv (.var 1) (.var 7)) .nil))) (.cons (.set 4 (.call i_way_to (.cons (.call i_sum_two (.cons (.call i_times (.cons (.raw 2) (.cons (.raw 1) .nil))) (.cons (.call i_times (.cons (.raw 3) (.cons (.neg (.var 0)) .nil))) .nil))) (.cons (.tup (.cons (.lit (.int 0)) (.cons (.lit (.int 1)) .nil))) .nil)))) (.cons (.set 5 (.call i_cut (.cons (.neg (.ix (.raw 4) (.lit (.int 0)))) (.cons (.bin .Mult (.ix (.raw 4) (.lit (.int 1))) (.bin .Add (.var 0) (.var 1))) .nil)))) (.cons (.par [10, 11] (.cons (.call i_sum_two (.cons (.raw 2) (.cons (.raw 5) .nil))) (.cons (.call i_sum_two (.cons (.raw 3) (.cons (.call i_times (.cons (.raw 5) (.cons (.neg (.lit (.int 1))) .nil))) .nil))) .nil))) (.cons (.set 6 (.call i_rest_of (.cons (.call i_sum_two (.cons (.call i_times (.cons (.raw 10) (.cons (.raw 8) .nil))) (.cons (.call i_times (.cons (.raw 11) (.cons (.raw 9) .nil))) .nil))) .nil))) (.cons (.ret (.tup (.cons (.call i_rest_of (.cons (.call i_cut (.cons (.ix (.raw 6) (.lit (.int 0))) (.cons (.bin .Mult (.ix (.raw 6) (.lit (.int 1))) (.var 7)) .nil))) .nil)) (.cons (.tup (.cons (.blt .abs (.cons (.ix (.raw 5) (.lit (.int 0))) .nil)) (.cons (.ix (.raw 5) (.lit (.int 1))) .nil))) .nil)))) .nil)))))))⟩
def f_error_at : Fd := ⟨5, 5, (.cons (.expr (.call i_need_found (.cons (.raw 0) (.cons (.raw 1) (.cons (.raw 2) (.cons (.raw 3) .nil)))))) (.cons (.ite (.not (.call i_is_part (.cons (.raw 4) (.cons (.lit (.int 1000000000000000000000000)) .nil)))) (.cons .nev .nil) .nil) (.cons (.ret (.call i_error_of (.cons (.raw 0) (.cons (.raw 1) (.cons (.raw 2) (.cons (.raw 3) (.cons (.raw 4) .nil))))))) .nil)))⟩
def f_least_error : Fd := ⟨4, 4, (.cons (.expr (.call i_need_found (.cons (.raw 0) (.cons (.raw 1) (.cons (.raw 2) (.cons (.raw 3) .nil)))))) (.cons (.ret (.ix (.call i_settled (.cons (.raw 0) (.cons (.raw 1) (.cons (.raw 2) (.cons (.raw 3) .nil))))) (.lit (.int 1)))) .nil))⟩
def f_nearest_time : Fd := ⟨4, 4, (.cons (.expr (.call i_need_found (.cons (.raw 0) (.cons (.raw 1) (.cons (.raw 2) (.cons (.raw 3) .nil)))))) (.cons (.ret (.ix (.call i_settled (.cons (.raw 0) (.cons (.raw 1) (.cons (.raw 2) (.cons (.raw 3) .nil))))) (.lit (.int 0)))) .nil))⟩
def f_is_nearest : Fd := ⟨5, 5, (.cons (.expr (.call i_need_found (.cons (.raw 0) (.cons (.raw 1) (.cons (.raw 2) (.cons (.raw 3) .nil)))))) (.cons (.ret (.and (.call i_is_part (.cons (.raw 4) (.cons (.lit (.int 1000000000000000000000000)) .nil))) (.cmp .Eq (.call i_error_of (.cons (.raw 0) (.cons (.raw 1) (.cons (.raw 2) (.cons (.raw 3) (.cons (.raw 4) .nil)))))) (.ix (.call i_settled (.cons (.raw 0) (.cons (.raw 1) (.cons (.raw 2) (.cons (.raw 3) .nil))))) (.lit (.int 1)))))) .nil))⟩
def f__law_cup : Fd := ⟨1, 2, (.cons (.set 1 (.blt .abs (.cons (.ix (.bin .Add (.blt .list (.cons (.var 0) .nil)) (.lst (.cons (.lit (.int 0)) .nil))) (.lit (.int 0))) .nil))) (.cons (.ret (.lst (.cons (.ite (.cmp .GtE (.var 1) (.bin .Pow (.lit (.int 10)) (.lit (.int 18)))) (.bin .FloorDiv (.var 1) (.lit (.int 127))) (.lit (.int 0))) (.cons (.bin .Add (.bin .Mod (.blt .int (.cons (.bin .Add (.bin .Mult (.var 1) (.lit (.int 373))) (.lit (.int 5407))) .nil)) (.lit (.int 1974129427))) (.lit (.int 229))) .nil)))) .nil))⟩
def f__law_roll : Fd := ⟨2, 4, (.cons (.ite (.cmp .Gt (.ix (.raw 0) (.lit (.int 0))) (.lit (.int 0))) (.cons (.set 3 (.bin .Mod (.blt .int (.cons (.ix (.raw 0) (.lit (.int 0))) .nil)) (.var 1))) (.cons (.put 0 (.lit (.int 0)) (.bin .FloorDiv (.ix (.raw 0) (.lit (.int 0))) (.var 1))) (.cons (.ret (.var 3)) .nil))) .nil) (.cons (.put 0 (.lit (.int 1)) (.bin .Mod (.blt .int (.cons (.bin .Add (.bin .Mult (.ix (.raw 0) (.lit (.int 1))) (.lit (.int 29917))) (.lit (.int 9103))) .nil)) (.lit (.int 2147483543)))) (.cons (.set 2 (.bin .Mod (.blt .int (.cons (.bin .Mult (.ix (.raw 0) (.lit (.int 1))) (.bin .Add (.ix (.raw 0) (.lit (.int 1))) (.lit (.int 307)))) .nil)) (.lit (.int 2147483587)))) (.cons (.ret (.bin .Mod (.blt .int (.cons (.bin .FloorDiv (.var 2) (.lit (.int 887))) .nil)) (.var 1))) .nil))))⟩
def f__law_some : Fd := ⟨2, 2, (.cons (.ret (.ix (.raw 1) (.call i__law_roll (.cons (.raw 0) (.cons (.blt .len (.cons (.raw 1) .nil)) .nil))))) .nil)⟩
def f__law_sort : Fd := ⟨1, 1, (.cons (.ite (.or (.cmp .Is (.var 0) (.lit .none)) (.isi (.var 0) .bool)) (.cons (.ret (.ite (.cmp .Is (.var 0) (.lit .none)) (.lit (.int 0)) (.lit (.int 1)))) .nil) .nil) (.cons (.ite (.or (.isi (.var 0) .int) (.isi (.var 0) .str)) (.cons (.ret (.ite (.isi (.var 0) .int) (.lit (.int 2)) (.lit (.int 3)))) .nil) .nil) (.cons (.ret (.ite (.isi (.var 0) .tuple) (.lit (.int 4)) (.ite (.isi (.var 0) .list) (.lit (.int 5)) (.lit (.int 6))))) .nil)))⟩
def f__law_like : Fd := ⟨2, 5, (.cons (.set 2 (.call i__law_sort (.cons (.raw 1) .nil))) (.cons (.ite (.or (.cmp .NotEq (.call i__law_sort (.cons (.raw 0) .nil)) (.var 2)) (.cmp .Eq (.var 2) (.lit (.int 6)))) (.cons (.ret (.lit (.bool false))) .nil) .nil) (.cons (.ite (.cmp .In (.var 2) (.tup (.cons (.lit (.int 4)) (.cons (.lit (.int 5)) .nil)))) (.cons (.ret (.and (.cmp .Eq (.blt .len (.cons (.raw 0) .nil)) (.blt .len (.cons (.raw 1) .nil))) (.cmp .Eq (.comp (.t (.cons (.v 3) (.cons (.v 4) .nil))) (.zip (.var 0) (.var 1)) (.some (.not (.call i__law_like (.cons (.raw 3) (.cons (.raw 4) .nil))))) [3, 4] (.lit (.int 1))) (.lst .nil)))) .nil) .nil) (.cons (.ret (.cmp .Eq (.var 0) (.var 1))) .nil))))⟩
def f__law_place : Fd := ⟨2, 2, (.cons (.ret (.call i_rest_part (.cons (.call i_product_of (.cons (.tup (.cons (.call i_ratio (.cons (.raw 0) (.cons (.lit (.int 1)) .nil))) (.cons (.var 1) .nil))) .nil)) .nil))) .nil)⟩
def f__law_apart : Fd := ⟨2, 4, (.cons (.set 2 (.call i_rest_part (.cons (.call i_sum_of (.cons (.tup (.cons (.var 0) (.cons (.tup (.cons (.neg (.ix (.raw 1) (.lit (.int 0)))) (.cons (.ix (.raw 1) (.lit (.int 1))) .nil))) .nil))) .nil)) .nil))) (.cons (.set 3 (.call i_sum_of (.cons (.tup (.cons (.tup (.cons (.lit (.int 1)) (.cons (.lit (.int 1)) .nil))) (.cons (.tup (.cons (.neg (.ix (.raw 2) (.lit (.int 0)))) (.cons (.ix (.raw 2) (.lit (.int 1))) .nil))) .nil))) .nil))) (.cons (.ret (.ite (.cmp .Lt (.call i_order_of (.cons (.raw 2) (.cons (.raw 3) .nil))) (.lit (.int 1))) (.var 2) (.var 3))) .nil)))⟩
def f__law_time_right : Fd := ⟨2, 10, (.cons (.par [6, 7] (.cons (.var 1) (.cons (.call i__law_place (.cons (.raw 0) (.cons (.raw 1) .nil))) .nil))) (.cons (.par [8, 9] (.cons (.call i_partner_of (.cons (.raw 0) (.cons (.raw 1) .nil))) (.cons (.call i_least_error (.cons (.lit (.int 1)) (.cons (.raw 0) (.cons (.raw 7) (.cons (.raw 6) .nil))))) .nil))) (.cons (.set 2 (.cmp .Eq (.bin .Mod (.blt .int (.cons (.bin .Mult (.ix (.raw 1) (.lit (.int 0))) (.bin .Sub (.bin .Mult (.var 0) (.var 0)) (.lit (.int 1)))) .nil)) (.ix (.raw 1) (.lit (.int 1)))) (.lit (.int 0)))) (.cons (.set 3 (.call i__law_apart (.cons (.call i_rest_part (.cons (.call i_product_of (.cons (.tup (.cons (.call i_ratio (.cons (.bin .Sub (.bin .Mult (.var 0) (.var 0)) (.lit (.int 1))) (.cons (.lit (.int 1)) .nil))) (.cons (.var 1) .nil))) .nil)) .nil)) (.cons (.tup (.cons (.lit (.int 0)) (.cons (.lit (.int 1)) .nil))) .nil)))) (.cons (.ite (.or (.cmp .NotEq (.cmp .IsNot (.var 8) (.lit .none)) (.var 2)) (.cmp .NotEq (.var 9) (.call i_product_of (.cons (.tup (.cons (.var 3) (.cons (.call i_ratio (.cons (.lit (.int 1)) (.cons (.bin .Add (.var 0) (.lit (.int 1))) .nil))) .nil))) .nil)))) (.cons (.ret (.lit (.bool false))) .nil) .nil) (.cons (.ite (.cmp .NotEq (.cmp .Eq (.var 9) (.tup (.cons (.lit (.int 0)) (.cons (.lit (.int 1)) .nil)))) (.var 2)) (.cons (.ret (.lit (.bool false))) .nil) .nil) (.cons (.set 4 (.call i_nearest_time (.cons (.lit (.int 1)) (.cons (.raw 0) (.cons (.raw 7) (.cons (.raw 6) .nil)))))) (.cons (.ite (.or (.cmp .IsNot (.call i_is_nearest (.cons (.lit (.int 1)) (.cons (.raw 0) (.cons (.raw 7) (.cons (.raw 6) (.cons (.raw 4) .nil)))))) (.lit (.bool true))) (.cmp .NotEq (.call i_error_at (.cons (.lit (.int 1)) (.cons (.raw 0) (.cons (.raw 7) (.cons (.raw 6) (.cons (.raw 4) .nil)))))) (.var 9))) (.cons (.ret (.lit (.bool false))) .nil) .nil) (.cons (.ite (.and (.var 2) (.or (.cmp .NotEq (.var 8) (.var 4)) (.or (.cmp .NotEq (.var 8) (.var 7)) (.or (.cmp .NotEq (.call i__law_place (.cons (.raw 0) (.cons (.raw 8) .nil))) (.var 6)) (.cmp .NotEq (.call i_partner_of (.cons (.raw 0) (.cons (.raw 8) .nil))) (.var 1)))))) (.cons (.ret (.lit (.bool false))) .nil) .nil) (.cons (.ite (.or (.cmp .NotEq (.call i_are_alike (.cons (.raw 0) (.cons (.raw 1) .nil))) (.cmp .Eq (.var 7) (.var 6))) (.and (.call i_are_alike (.cons (.raw 0) (.cons (.raw 1) .nil))) (.cmp .NotEq (.var 8) (.var 1)))) (.cons (.ret (.lit (.bool false))) .nil) .nil) (.cons (.ite (.cmp .NotEq (.cmp .Eq (.call i_least_error (.cons (.lit (.int 1)) (.cons (.raw 0) (.cons (.raw 6) (.cons (.raw 6) .nil))))) (.tup (.cons (.lit (.int 0)) (.cons (.lit (.int 1)) .nil)))) (.call i_are_alike (.cons (.raw 0) (.cons (.raw 1) .nil)))) (.cons (.ret (.lit (.bool false))) .nil) .nil) (.cons (.set 5 (.call i_next_swap (.cons (.raw 0) (.cons (.raw 1) .nil)))) (.cons (.ret (.and (.or (.cmp .Is (.var 5) (.lit .none)) (.cmp .Lt (.call i_order_of (.cons (.raw 1) (.cons (.raw 5) .nil))) (.lit (.int 1)))) (.cmp .Eq (.var 2) (.cmp .Eq (.var 5) (.var 1))))) .nil)))))))))))))⟩
def f__law_all_right : Fd := ⟨1, 6, (.cons (.set 1 (.bin .Sub (.bin .Mult (.var 0) (.var 0)) (.lit (.int 1)))) (.cons (.set 2 (.comp (.v 4) (.rng1 (.var 1)) .none [4] (.call i_ratio (.cons (.raw 4) (.cons (.raw 1) .nil))))) (.cons (.ite (.not (.call i__law_like (.cons (.lst (.cons (.call i_count_swaps (.cons (.raw 0) .nil)) (.cons (.call i_count_alike (.cons (.raw 0) .nil)) (.cons (.call i_count_doubtful (.cons (.raw 0) .nil)) .nil)))) (.cons (.lst (.cons (.var 1) (.cons (.bin .Sub (.var 0) (.lit (.int 1))) (.cons (.bin .Add (.bin .Sub (.var 1) (.var 0)) (.lit (.int 1))) .nil)))) .nil)))) (.cons (.ret (.lit (.bool false))) .nil) .nil) (.cons (.for (.t (.cons (.v 4) (.cons (.v 5) .nil))) (.enum (.var 2)) (.cons (.ite (.or (.cmp .NotEq (.call i_swap_time (.cons (.raw 0) (.cons (.raw 4) .nil))) (.var 5)) (.not (.call i__law_time_right (.cons (.raw 0) (.cons (.raw 5) .nil))))) (.cons (.ret (.lit (.bool false))) .nil) .nil) .nil)) (.cons (.set 3 (.comp (.v 5) (.val (.var 2)) (.some (.call i_are_alike (.cons (.raw 0) (.cons (.raw 5) .nil)))) [5] (.var 5))) (.cons (.ret (.and (.cmp .Eq (.blt .len (.cons (.raw 3) .nil)) (.bin .Sub (.var 0) (.lit (.int 1)))) (.cmp .Eq (.blt .len (.cons (.comp (.v 5) (.val (.var 2)) (.some (.cmp .NotEq (.call i_partner_of (.cons (.raw 0) (.cons (.raw 5) .nil))) (.var 5))) [5] (.var 5)) .nil)) (.call i_count_doubtful (.cons (.raw 0) .nil))))) .nil))))))⟩
def f__law_dial_right : Fd := ⟨3, 11, (.cons (.unp (.cons (.v 7) (.cons (.v 8) .nil)) (.tup (.cons (.tup (.cons (.tup (.cons (.lit (.int 1)) (.cons (.var 2) .nil))) (.cons (.tup (.cons (.bin .Mod (.blt .int (.cons (.var 1) .nil)) (.var 2)) (.cons (.var 2) .nil))) .nil))) (.cons (.call i__law_roll (.cons (.raw 0) (.cons (.raw 2) .nil))) .nil)))) (.cons (.set 3 (.call i_marks_at (.cons (.raw 7) (.cons (.raw 8) .nil)))) (.cons (.set 4 (.rev (.var 3))) (.cons (.set 5 (.cmp .Eq (.bin .Mod (.blt .int (.cons (.bin .Mult (.var 8) (.bin .Sub (.bin .Mult (.var 1) (.var 1)) (.lit (.int 1)))) .nil)) (.var 2)) (.lit (.int 0)))) (.cons (.set 6 (.call i_time_of (.cons (.raw 7) (.cons (.raw 4) .nil)))) (.cons (.ite (.or (.cmp .NotEq (.var 3) (.tup (.cons (.var 8) (.cons (.bin .Mod (.blt .int (.cons (.bin .Mult (.var 1) (.var 8)) .nil)) (.var 2)) .nil)))) (.or (.cmp .NotEq (.cmp .IsNot (.var 6) (.lit .none)) (.var 5)) (.cmp .NotEq (.cmp .Is (.call i_marks_bar (.cons (.raw 7) (.cons (.raw 4) .nil))) (.lit .none)) (.var 5)))) (.cons (.ret (.lit (.bool false))) .nil) .nil) (.cons (.ite (.and (.var 5) (.cmp .NotEq (.var 6) (.ix (.raw 3) (.lit (.int 1))))) (.cons (.ret (.lit (.bool false))) .nil) .nil) (.cons (.ite (.cmp .LtE (.var 2) (.lit (.int 60))) (.cons (.set 9 (.comp (.v 10) (.rng1 (.var 2)) (.some (.cmp .IsNot (.call i_time_of (.cons (.raw 7) (.cons (.rev (.call i_marks_at (.cons (.raw 7) (.cons (.raw 10) .nil)))) .nil))) (.lit .none))) [10] (.var 10))) (.cons (.ite (.cmp .NotEq (.blt .len (.cons (.raw 9) .nil)) (.call i_divisor_of (.cons (.tup (.cons (.var 2) (.cons (.bin .Sub (.bin .Mult (.var 1) (.var 1)) (.lit (.int 1))) .nil))) .nil))) (.cons (.ret (.lit (.bool false))) .nil) .nil) (.cons (.for (.v 10) (.val (.sl (.var 9) .none (.some (.lit (.int 5))))) (.cons (.ite (.cmp .NotEq (.call i_partner_of (.cons (.raw 1) (.cons (.call i_ratio (.cons (.raw 10) (.cons (.raw 2) .nil))) .nil))) (.call i_ratio (.cons (.bin .Mod (.blt .int (.cons (.bin .Mult (.var 1) (.var 10)) .nil)) (.var 2)) (.cons (.raw 2) .nil)))) (.cons (.ret (.lit (.bool false))) .nil) .nil) .nil)) .nil))) .nil) (.cons (.ret (.lit (.bool true))) .nil)))))))))⟩
def f_law : Fd := ⟨1, 8, .cons (.set 1 (.call 54 (.cons (.raw 0) .nil))) b_law⟩
def T0 : List Fd := [f_is_whole, f_need_whole, f_is_tuple_of, f_is_ratio, f_need_ratio, f_need_ratios, f_cut, f_sum_two, f_side, f_ratio]
def T1 : List Fd := [f_sum_of, f_product_of, f_order_of, f_rest_part, f_fits_time, f_need_time, f_need_both, f_swaps_of, f_count_swaps, f_count_alike]
def T2 : List Fd := [f_count_doubtful, f_swap_time, f_partner_of, f_are_alike, f_next_swap, f_need_numbers, f_parts_for, f_met, f_divisor_of, f_is_hand]
def T3 : List Fd := [f_are_hands, f_need_hands, f_are_marks, f_need_marks, f_marks_of, f_cycle_for, f_common_for, f_sets_of, f_marks_at, f_time_of]
def T4 : List Fd := [f_marks_bar, f_is_part, f_need_found, f_rest_of, f_times, f_way_to, f_apart, f_greater, f_error_of, f_settled]
def T5 : List Fd := [f_error_at, f_least_error, f_nearest_time, f_is_nearest, f__law_cup, f__law_roll, f__law_some, f__law_sort, f__law_like, f__law_place]
def T6 : List Fd := [f__law_apart, f__law_time_right, f__law_all_right, f__law_dial_right, f_law]
def T : List Fd := T0 ++ T1 ++ T2 ++ T3 ++ T4 ++ T5 ++ T6
theorem s_is_whole (k : Nat) (ws : List W) (st : Store) : fns T (k + 1) i_is_whole ws st = runF (fns T k) f_is_whole ws st := rfl
theorem s_need_whole (k : Nat) (ws : List W) (st : Store) : fns T (k + 1) i_need_whole ws st = runF (fns T k) f_need_whole ws st := rfl
theorem s_is_tuple_of (k : Nat) (ws : List W) (st : Store) : fns T (k + 1) i_is_tuple_of ws st = runF (fns T k) f_is_tuple_of ws st := rfl
theorem s_is_ratio (k : Nat) (ws : List W) (st : Store) : fns T (k + 1) i_is_ratio ws st = runF (fns T k) f_is_ratio ws st := rfl
theorem s_need_ratio (k : Nat) (ws : List W) (st : Store) : fns T (k + 1) i_need_ratio ws st = runF (fns T k) f_need_ratio ws st := rfl
theorem s_need_ratios (k : Nat) (ws : List W) (st : Store) : fns T (k + 1) i_need_ratios ws st = runF (fns T k) f_need_ratios ws st := rfl
theorem s_cut (k : Nat) (ws : List W) (st : Store) : fns T (k + 1) i_cut ws st = runF (fns T k) f_cut ws st := rfl
theorem s_sum_two (k : Nat) (ws : List W) (st : Store) : fns T (k + 1) i_sum_two ws st = runF (fns T k) f_sum_two ws st := rfl
theorem s_side (k : Nat) (ws : List W) (st : Store) : fns T (k + 1) i_side ws st = runF (fns T k) f_side ws st := rfl
theorem s_ratio (k : Nat) (ws : List W) (st : Store) : fns T (k + 1) i_ratio ws st = runF (fns T k) f_ratio ws st := rfl
theorem s_sum_of (k : Nat) (ws : List W) (st : Store) : fns T (k + 1) i_sum_of ws st = runF (fns T k) f_sum_of ws st := rfl
theorem s_product_of (k : Nat) (ws : List W) (st : Store) : fns T (k + 1) i_product_of ws st = runF (fns T k) f_product_of ws st := rfl
theorem s_order_of (k : Nat) (ws : List W) (st : Store) : fns T (k + 1) i_order_of ws st = runF (fns T k) f_order_of ws st := rfl
theorem s_rest_part (k : Nat) (ws : List W) (st : Store) : fns T (k + 1) i_rest_part ws st = runF (fns T k) f_rest_part ws st := rfl
theorem s_fits_time (k : Nat) (ws : List W) (st : Store) : fns T (k + 1) i_fits_time ws st = runF (fns T k) f_fits_time ws st := rfl
theorem s_need_time (k : Nat) (ws : List W) (st : Store) : fns T (k + 1) i_need_time ws st = runF (fns T k) f_need_time ws st := rfl
theorem s_need_both (k : Nat) (ws : List W) (st : Store) : fns T (k + 1) i_need_both ws st = runF (fns T k) f_need_both ws st := rfl
theorem s_swaps_of (k : Nat) (ws : List W) (st : Store) : fns T (k + 1) i_swaps_of ws st = runF (fns T k) f_swaps_of ws st := rfl
theorem s_count_swaps (k : Nat) (ws : List W) (st : Store) : fns T (k + 1) i_count_swaps ws st = runF (fns T k) f_count_swaps ws st := rfl
theorem s_count_alike (k : Nat) (ws : List W) (st : Store) : fns T (k + 1) i_count_alike ws st = runF (fns T k) f_count_alike ws st := rfl
theorem s_count_doubtful (k : Nat) (ws : List W) (st : Store) : fns T (k + 1) i_count_doubtful ws st = runF (fns T k) f_count_doubtful ws st := rfl
theorem s_swap_time (k : Nat) (ws : List W) (st : Store) : fns T (k + 1) i_swap_time ws st = runF (fns T k) f_swap_time ws st := rfl
theorem s_partner_of (k : Nat) (ws : List W) (st : Store) : fns T (k + 1) i_partner_of ws st = runF (fns T k) f_partner_of ws st := rfl
theorem s_are_alike (k : Nat) (ws : List W) (st : Store) : fns T (k + 1) i_are_alike ws st = runF (fns T k) f_are_alike ws st := rfl
theorem s_next_swap (k : Nat) (ws : List W) (st : Store) : fns T (k + 1) i_next_swap ws st = runF (fns T k) f_next_swap ws st := rfl
theorem s_need_numbers (k : Nat) (ws : List W) (st : Store) : fns T (k + 1) i_need_numbers ws st = runF (fns T k) f_need_numbers ws st := rfl
theorem s_parts_for (k : Nat) (ws : List W) (st : Store) : fns T (k + 1) i_parts_for ws st = runF (fns T k) f_parts_for ws st := rfl
theorem s_met (k : Nat) (ws : List W) (st : Store) : fns T (k + 1) i_met ws st = runF (fns T k) f_met ws st := rfl
theorem s_divisor_of (k : Nat) (ws : List W) (st : Store) : fns T (k + 1) i_divisor_of ws st = runF (fns T k) f_divisor_of ws st := rfl
theorem s_is_hand (k : Nat) (ws : List W) (st : Store) : fns T (k + 1) i_is_hand ws st = runF (fns T k) f_is_hand ws st := rfl
theorem s_are_hands (k : Nat) (ws : List W) (st : Store) : fns T (k + 1) i_are_hands ws st = runF (fns T k) f_are_hands ws st := rfl
theorem s_need_hands (k : Nat) (ws : List W) (st : Store) : fns T (k + 1) i_need_hands ws st = runF (fns T k) f_need_hands ws st := rfl
theorem s_are_marks (k : Nat) (ws : List W) (st : Store) : fns T (k + 1) i_are_marks ws st = runF (fns T k) f_are_marks ws st := rfl
theorem s_need_marks (k : Nat) (ws : List W) (st : Store) : fns T (k + 1) i_need_marks ws st = runF (fns T k) f_need_marks ws st := rfl
theorem s_marks_of (k : Nat) (ws : List W) (st : Store) : fns T (k + 1) i_marks_of ws st = runF (fns T k) f_marks_of ws st := rfl
theorem s_cycle_for (k : Nat) (ws : List W) (st : Store) : fns T (k + 1) i_cycle_for ws st = runF (fns T k) f_cycle_for ws st := rfl
theorem s_common_for (k : Nat) (ws : List W) (st : Store) : fns T (k + 1) i_common_for ws st = runF (fns T k) f_common_for ws st := rfl
theorem s_sets_of (k : Nat) (ws : List W) (st : Store) : fns T (k + 1) i_sets_of ws st = runF (fns T k) f_sets_of ws st := rfl
theorem s_marks_at (k : Nat) (ws : List W) (st : Store) : fns T (k + 1) i_marks_at ws st = runF (fns T k) f_marks_at ws st := rfl
theorem s_time_of (k : Nat) (ws : List W) (st : Store) : fns T (k + 1) i_time_of ws st = runF (fns T k) f_time_of ws st := rfl
theorem s_marks_bar (k : Nat) (ws : List W) (st : Store) : fns T (k + 1) i_marks_bar ws st = runF (fns T k) f_marks_bar ws st := rfl
theorem s_is_part (k : Nat) (ws : List W) (st : Store) : fns T (k + 1) i_is_part ws st = runF (fns T k) f_is_part ws st := rfl
theorem s_need_found (k : Nat) (ws : List W) (st : Store) : fns T (k + 1) i_need_found ws st = runF (fns T k) f_need_found ws st := rfl
theorem s_rest_of (k : Nat) (ws : List W) (st : Store) : fns T (k + 1) i_rest_of ws st = runF (fns T k) f_rest_of ws st := rfl
theorem s_times (k : Nat) (ws : List W) (st : Store) : fns T (k + 1) i_times ws st = runF (fns T k) f_times ws st := rfl
theorem s_way_to (k : Nat) (ws : List W) (st : Store) : fns T (k + 1) i_way_to ws st = runF (fns T k) f_way_to ws st := rfl
theorem s_apart (k : Nat) (ws : List W) (st : Store) : fns T (k + 1) i_apart ws st = runF (fns T k) f_apart ws st := rfl
theorem s_greater (k : Nat) (ws : List W) (st : Store) : fns T (k + 1) i_greater ws st = runF (fns T k) f_greater ws st := rfl
theorem s_error_of (k : Nat) (ws : List W) (st : Store) : fns T (k + 1) i_error_of ws st = runF (fns T k) f_error_of ws st := rfl
theorem s_settled (k : Nat) (ws : List W) (st : Store) : fns T (k + 1) i_settled ws st = runF (fns T k) f_settled ws st := rfl
theorem s_error_at (k : Nat) (ws : List W) (st : Store) : fns T (k + 1) i_error_at ws st = runF (fns T k) f_error_at ws st := rfl
theorem s_least_error (k : Nat) (ws : List W) (st : Store) : fns T (k + 1) i_least_error ws st = runF (fns T k) f_least_error ws st := rfl
theorem s_nearest_time (k : Nat) (ws : List W) (st : Store) : fns T (k + 1) i_nearest_time ws st = runF (fns T k) f_nearest_time ws st := rfl
theorem s_is_nearest (k : Nat) (ws : List W) (st : Store) : fns T (k + 1) i_is_nearest ws st = runF (fns T k) f_is_nearest ws st := rfl
theorem s__law_cup (k : Nat) (ws : List W) (st : Store) : fns T (k + 1) i__law_cup ws st = runF (fns T k) f__law_cup ws st := rfl
theorem s__law_roll (k : Nat) (ws : List W) (st : Store) : fns T (k + 1) i__law_roll ws st = runF (fns T k) f__law_roll ws st := rfl
theorem s__law_some (k : Nat) (ws : List W) (st : Store) : fns T (k + 1) i__law_some ws st = runF (fns T k) f__law_some ws st := rfl
theorem s__law_sort (k : Nat) (ws : List W) (st : Store) : fns T (k + 1) i__law_sort ws st = runF (fns T k) f__law_sort ws st := rfl
theorem s__law_like (k : Nat) (ws : List W) (st : Store) : fns T (k + 1) i__law_like ws st = runF (fns T k) f__law_like ws st := rfl
theorem s__law_place (k : Nat) (ws : List W) (st : Store) : fns T (k + 1) i__law_place ws st = runF (fns T k) f__law_place ws st := rfl
theorem s__law_apart (k : Nat) (ws : List W) (st : Store) : fns T (k + 1) i__law_apart ws st = runF (fns T k) f__law_apart ws st := rfl
theorem s__law_time_right (k : Nat) (ws : List W) (st : Store) : fns T (k + 1) i__law_time_right ws st = runF (fns T k) f__law_time_right ws st := rfl
theorem s__law_all_right (k : Nat) (ws : List W) (st : Store) : fns T (k + 1) i__law_all_right ws st = runF (fns T k) f__law_all_right ws st := rfl
theorem s__law_dial_right (k : Nat) (ws : List W) (st : Store) : fns T (k + 1) i__law_dial_right ws st = runF (fns T k) f__law_dial_right ws st := rfl
theorem s_law (k : Nat) (ws : List W) (st : Store) : fns T (k + 1) i_law ws st = runF (fns T k) f_law ws st := rfl
end WM.K94
namespace WM.K94
open PySem PySem.Spec PyProof.Rows L2
def top (i : Nat) : Stmt := PySem.Challenge.pw_wheelmark_k94_whole_exchanged_hands_read.main.body.getD i (.Pass ⟨0, 0, 0, 0⟩)
def gl0 : List (Str × GV) := [("is_whole", .fn 0 3), ("need_whole", .fn 1 3), ("is_tuple_of", .fn 2 3), ("is_ratio", .fn 3 1), ("need_ratio", .fn 4 1), ("need_ratios", .fn 5 1), ("cut", .fn 6 2), ("sum_two", .fn 7 2), ("side", .fn 8 2), ("ratio", .fn 9 2), ("sum_of", .fn 10 1), ("product_of", .fn 11 1), ("order_of", .fn 12 2), ("rest_part", .fn 13 1), ("fits_time", .fn 14 1)]
def gl1 : List (Str × GV) := [("need_time", .fn 15 1), ("need_both", .fn 16 2), ("swaps_of", .fn 17 1), ("count_swaps", .fn 18 1), ("count_alike", .fn 19 1), ("count_doubtful", .fn 20 1), ("swap_time", .fn 21 2), ("partner_of", .fn 22 2), ("are_alike", .fn 23 2), ("next_swap", .fn 24 2), ("need_numbers", .fn 25 1), ("parts_for", .fn 26 2), ("met", .fn 27 2), ("divisor_of", .fn 28 1), ("is_hand", .fn 29 1)]
def gl2 : List (Str × GV) := [("are_hands", .fn 30 1), ("need_hands", .fn 31 1), ("are_marks", .fn 32 2), ("need_marks", .fn 33 2), ("marks_of", .fn 34 2), ("cycle_for", .fn 35 2), ("common_for", .fn 36 2), ("sets_of", .fn 37 1), ("marks_at", .fn 38 2), ("time_of", .fn 39 2), ("marks_bar", .fn 40 2), ("is_part", .fn 41 2), ("need_found", .fn 42 4), ("rest_of", .fn 43 1), ("times", .fn 44 2)]
def gl3 : List (Str × GV) := [("way_to", .fn 45 2), ("apart", .fn 46 2), ("greater", .fn 47 2), ("error_of", .fn 48 5), ("settled", .fn 49 4), ("error_at", .fn 50 5), ("least_error", .fn 51 4), ("nearest_time", .fn 52 4), ("is_nearest", .fn 53 5), ("_law_cup", .fn 54 1), ("_law_roll", .fn 55 2), ("_law_some", .fn 56 2), ("_law_sort", .fn 57 1), ("_law_like", .fn 58 2), ("_law_place", .fn 59 2)]
def gl4 : List (Str × GV) := [("_law_apart", .fn 60 2), ("_law_time_right", .fn 61 2), ("_law_all_right", .fn 62 1), ("_law_dial_right", .fn 63 3), ("law", .fn 64 1), ("GREAT_ratios", .con (.int 1000000000000000000000000000000000000000000000000000000000000)), ("MANY_ratios", .con (.int 100)), ("FAST", .con (.int 1000)), ("TOP", .con (.int 1000000000000)), ("BOTTOM_handswaps", .con (.int 1000000)), ("GREAT_rests", .con (.int 1000000000000000000000000000000)), ("MANY_rests", .con (.int 20)), ("HANDS", .con (.int 6)), ("DIAL", .con (.int 1000)), ("TIME", .con (.int 1000000000000000000))]
def gl5 : List (Str × GV) := [("ROUNDS", .con (.int 1000)), ("BOTTOM_nearesttimes", .con (.int 1000000)), ("FINE", .con (.int 1000000000000000000000000)), ("abs", .bi .abs), ("all", .bi .all), ("bool", .ty .bool), ("enumerate", .enum), ("gcd", .bi .gcd), ("int", .bi .int), ("isinstance", .isi), ("len", .bi .len), ("list", .bi .list), ("min", .bi .mn), ("range", .rng), ("sorted", .bi .sorted)]
def gl6 : List (Str × GV) := [("str", .ty .str), ("tuple", .bi .tuple), ("zip", .zip)]
def gl : List (Str × GV) := gl0 ++ gl1 ++ gl2 ++ gl3 ++ gl4 ++ gl5 ++ gl6
def di (x : Str) (i : Nat) (ps N cells : List Str) : DI := ⟨x, ps, defArgs (top i), defScope (top i), defBody (top i), N, cells⟩
def d_is_whole : DI := di "is_whole" 10 ["value", "low", "high"] ["value", "low", "high"] []
def d_need_whole : DI := di "need_whole" 11 ["value", "low", "high"] ["value", "low", "high"] []
def d_is_tuple_of : DI := di "is_tuple_of" 12 ["value", "low", "high"] ["value", "low", "high"] []
def d_is_ratio : DI := di "is_ratio" 16 ["value"] ["value"] []
def d_need_ratio : DI := di "need_ratio" 17 ["value"] ["value"] []
def d_need_ratios : DI := di "need_ratios" 18 ["value"] ["value", "one"] []
def d_cut : DI := di "cut" 19 ["top", "bottom"] ["top", "bottom", "shared"] []
def d_sum_two : DI := di "sum_two" 20 ["one", "other"] ["one", "other"] []
def d_side : DI := di "side" 21 ["one", "other"] ["one", "other"] []
def d_ratio : DI := di "ratio" 22 ["top", "bottom"] ["top", "bottom"] []
def d_sum_of : DI := di "sum_of" 23 ["ratios"] ["ratios", "found", "one"] []
def d_product_of : DI := di "product_of" 24 ["ratios"] ["ratios", "found", "one"] []
def d_order_of : DI := di "order_of" 25 ["one", "other"] ["one", "other", "found"] []
def d_rest_part : DI := di "rest_part" 26 ["one"] ["one"] []
def d_fits_time : DI := di "fits_time" 31 ["value"] ["value"] []
def d_need_time : DI := di "need_time" 32 ["value"] ["value"] []
def d_need_both : DI := di "need_both" 33 ["k", "time"] ["k", "time"] []
def d_swaps_of : DI := di "swaps_of" 34 ["k"] ["k"] []
def d_count_swaps : DI := di "count_swaps" 35 ["k"] ["k"] []
def d_count_alike : DI := di "count_alike" 36 ["k"] ["k"] []
def d_count_doubtful : DI := di "count_doubtful" 37 ["k"] ["k"] []
def d_swap_time : DI := di "swap_time" 38 ["k", "number"] ["k", "number"] []
def d_partner_of : DI := di "partner_of" 39 ["k", "time"] ["k", "time"] []
def d_are_alike : DI := di "are_alike" 40 ["k", "time"] ["k", "time"] []
def d_next_swap : DI := di "next_swap" 41 ["k", "time"] ["k", "time", "number"] []
def d_need_numbers : DI := di "need_numbers" 45 ["value"] ["value", "number"] []
def d_parts_for : DI := di "parts_for" 46 ["one", "other"] ["one", "other", "first", "second", "times", "at"] []
def d_met : DI := di "met" 47 ["one", "other"] ["one", "other", "every", "shared", "times", "rest"] []
def d_divisor_of : DI := di "divisor_of" 48 ["numbers"] ["numbers", "found", "number"] []
def d_is_hand : DI := di "is_hand" 53 ["value"] ["value"] []
def d_are_hands : DI := di "are_hands" 54 ["value"] ["value", "hand"] []
def d_need_hands : DI := di "need_hands" 55 ["value"] ["value"] []
def d_are_marks : DI := di "are_marks" 56 ["hands", "value"] ["hands", "value", "many", "mark", "a", "n"] []
def d_need_marks : DI := di "need_marks" 57 ["hands", "marks"] ["hands", "marks"] []
def d_marks_of : DI := di "marks_of" 58 ["hands", "time"] ["hands", "time", "a", "n"] []
def d_cycle_for : DI := di "cycle_for" 59 ["hand", "mark"] ["hand", "mark", "a", "n", "shared", "times", "rest"] []
def d_common_for : DI := di "common_for" 60 ["hands", "marks"] ["hands", "marks", "found", "hand", "mark", "cycle"] []
def d_sets_of : DI := di "sets_of" 61 ["many"] ["many", "found", "at", "some"] []
def d_marks_at : DI := di "marks_at" 62 ["hands", "time"] ["hands", "time"] []
def d_time_of : DI := di "time_of" 63 ["hands", "marks"] ["hands", "marks", "found"] []
def d_marks_bar : DI := di "marks_bar" 64 ["hands", "marks"] ["hands", "marks", "bars", "many", "some", "at"] ["bars"]
def d_is_part : DI := di "is_part" 69 ["value", "bottom"] ["value", "bottom"] []
def d_need_found : DI := di "need_found" 70 ["a", "b", "x", "y"] ["a", "b", "x", "y"] []
def d_rest_of : DI := di "rest_of" 71 ["pair"] ["pair"] []
def d_times : DI := di "times" 72 ["pair", "number"] ["pair", "number"] []
def d_way_to : DI := di "way_to" 73 ["one", "other"] ["one", "other", "ahead"] []
def d_apart : DI := di "apart" 74 ["one", "other"] ["one", "other", "way"] []
def d_greater : DI := di "greater" 75 ["one", "other"] ["one", "other"] []
def d_error_of : DI := di "error_of" 76 ["a", "b", "x", "y", "t"] ["a", "b", "x", "y", "t"] []
def d_settled : DI := di "settled" 77 ["a", "b", "x", "y"] ["a", "b", "x", "y", "way", "wrong", "whole", "shared", "first", "second", "one", "other"] []
def d_error_at : DI := di "error_at" 78 ["a", "b", "x", "y", "t"] ["a", "b", "x", "y", "t"] []
def d_least_error : DI := di "least_error" 79 ["a", "b", "x", "y"] ["a", "b", "x", "y"] []
def d_nearest_time : DI := di "nearest_time" 80 ["a", "b", "x", "y"] ["a", "b", "x", "y"] []
def d_is_nearest : DI := di "is_nearest" 81 ["a", "b", "x", "y", "value"] ["a", "b", "x", "y", "value"] []
def d__law_cup : DI := di "_law_cup" 83 ["script"] ["script", "cell"] []
def d__law_roll : DI := di "_law_roll" 84 ["cup", "many"] ["cup", "many", "deep", "found"] []
def d__law_some : DI := di "_law_some" 85 ["cup", "things"] ["cup", "things"] []
def d__law_sort : DI := di "_law_sort" 86 ["value"] ["value"] []
def d__law_like : DI := di "_law_like" 87 ["one", "other"] ["one", "other", "sort", "first", "second"] []
def d__law_place : DI := di "_law_place" 88 ["rate", "time"] ["rate", "time"] []
def d__law_apart : DI := di "_law_apart" 89 ["one", "other"] ["one", "other", "gap", "left"] []
def d__law_time_right : DI := di "_law_time_right" 90 ["k", "x"] ["k", "x", "is_swap", "gap", "near", "later", "slow", "fast", "partner", "least"] []
def d__law_all_right : DI := di "_law_all_right" 91 ["k"] ["k", "whole", "times_v", "alike", "at", "x"] []
def d__law_dial_right : DI := di "_law_dial_right" 92 ["cup", "k", "dial"] ["cup", "k", "dial", "marks", "back", "is_swap", "told", "hands", "time", "some", "own"] []
def d_law : DI := di "law" 93 ["script"] ["script", "cup", "turn", "told", "k", "bottom", "x", "dial"] []
def ds0 : List DI := [d_is_whole, d_need_whole, d_is_tuple_of, d_is_ratio, d_need_ratio, d_need_ratios, d_cut, d_sum_two, d_side, d_ratio]
def ds1 : List DI := [d_sum_of, d_product_of, d_order_of, d_rest_part, d_fits_time, d_need_time, d_need_both, d_swaps_of, d_count_swaps, d_count_alike]
def ds2 : List DI := [d_count_doubtful, d_swap_time, d_partner_of, d_are_alike, d_next_swap, d_need_numbers, d_parts_for, d_met, d_divisor_of, d_is_hand]
def ds3 : List DI := [d_are_hands, d_need_hands, d_are_marks, d_need_marks, d_marks_of, d_cycle_for, d_common_for, d_sets_of, d_marks_at, d_time_of]
def ds4 : List DI := [d_marks_bar, d_is_part, d_need_found, d_rest_of, d_times, d_way_to, d_apart, d_greater, d_error_of, d_settled]
def ds5 : List DI := [d_error_at, d_least_error, d_nearest_time, d_is_nearest, d__law_cup, d__law_roll, d__law_some, d__law_sort, d__law_like, d__law_place]
def ds6 : List DI := [d__law_apart, d__law_time_right, d__law_all_right, d__law_dial_right, d_law]
def ds : List DI := ds0 ++ ds1 ++ ds2 ++ ds3 ++ ds4 ++ ds5 ++ ds6
theorem gn : gnB gl = true := by kernel_rfl
theorem ok_is_whole : FdOk gl d_is_whole.cells d_is_whole.ps d_is_whole.N d_is_whole.scope d_is_whole.body f_is_whole ∧ ArgsT d_is_whole := ⟨fdOk_of gn (by kernel_rfl) rfl rfl (by kernel_rfl), fun _ _ _ _ _ _ us hl => match us, hl with | [_, _, _], _ => rfl⟩
theorem ok_need_whole : FdOk gl d_need_whole.cells d_need_whole.ps d_need_whole.N d_need_whole.scope d_need_whole.body f_need_whole ∧ ArgsT d_need_whole := ⟨fdOk_of gn (by kernel_rfl) rfl rfl (by kernel_rfl), fun _ _ _ _ _ _ us hl => match us, hl with | [_, _, _], _ => rfl⟩
theorem ok_is_tuple_of : FdOk gl d_is_tuple_of.cells d_is_tuple_of.ps d_is_tuple_of.N d_is_tuple_of.scope d_is_tuple_of.body f_is_tuple_of ∧ ArgsT d_is_tuple_of := ⟨fdOk_of gn (by kernel_rfl) rfl rfl (by kernel_rfl), fun _ _ _ _ _ _ us hl => match us, hl with | [_, _, _], _ => rfl⟩
theorem ok_is_ratio : FdOk gl d_is_ratio.cells d_is_ratio.ps d_is_ratio.N d_is_ratio.scope d_is_ratio.body f_is_ratio ∧ ArgsT d_is_ratio := ⟨fdOk_of gn (by kernel_rfl) rfl rfl (by kernel_rfl), fun _ _ _ _ _ _ us hl => match us, hl with | [_], _ => rfl⟩
theorem ok_need_ratio : FdOk gl d_need_ratio.cells d_need_ratio.ps d_need_ratio.N d_need_ratio.scope d_need_ratio.body f_need_ratio ∧ ArgsT d_need_ratio := ⟨fdOk_of gn (by kernel_rfl) rfl rfl (by kernel_rfl), fun _ _ _ _ _ _ us hl => match us, hl with | [_], _ => rfl⟩
theorem ok_need_ratios : FdOk gl d_need_ratios.cells d_need_ratios.ps d_need_ratios.N d_need_ratios.scope d_need_ratios.body f_need_ratios ∧ ArgsT d_need_ratios := ⟨fdOk_of gn (by kernel_rfl) rfl rfl (by kernel_rfl), fun _ _ _ _ _ _ us hl => match us, hl with | [_], _ => rfl⟩
theorem ok_cut : FdOk gl d_cut.cells d_cut.ps d_cut.N d_cut.scope d_cut.body f_cut ∧ ArgsT d_cut := ⟨fdOk_of gn (by kernel_rfl) rfl rfl (by kernel_rfl), fun _ _ _ _ _ _ us hl => match us, hl with | [_, _], _ => rfl⟩
theorem ok_sum_two : FdOk gl d_sum_two.cells d_sum_two.ps d_sum_two.N d_sum_two.scope d_sum_two.body f_sum_two ∧ ArgsT d_sum_two := ⟨fdOk_of gn (by kernel_rfl) rfl rfl (by kernel_rfl), fun _ _ _ _ _ _ us hl => match us, hl with | [_, _], _ => rfl⟩
theorem ok_side : FdOk gl d_side.cells d_side.ps d_side.N d_side.scope d_side.body f_side ∧ ArgsT d_side := ⟨fdOk_of gn (by kernel_rfl) rfl rfl (by kernel_rfl), fun _ _ _ _ _ _ us hl => match us, hl with | [_, _], _ => rfl⟩
theorem ok_ratio : FdOk gl d_ratio.cells d_ratio.ps d_ratio.N d_ratio.scope d_ratio.body f_ratio ∧ ArgsT d_ratio := ⟨fdOk_of gn (by kernel_rfl) rfl rfl (by kernel_rfl), fun _ _ _ _ _ _ us hl => match us, hl with | [_, _], _ => rfl⟩
theorem ok_sum_of : FdOk gl d_sum_of.cells d_sum_of.ps d_sum_of.N d_sum_of.scope d_sum_of.body f_sum_of ∧ ArgsT d_sum_of := ⟨fdOk_of gn (by kernel_rfl) rfl rfl (by kernel_rfl), fun _ _ _ _ _ _ us hl => match us, hl with | [_], _ => rfl⟩
theorem ok_product_of : FdOk gl d_product_of.cells d_product_of.ps d_product_of.N d_product_of.scope d_product_of.body f_product_of ∧ ArgsT d_product_of := ⟨fdOk_of gn (by kernel_rfl) rfl rfl (by kernel_rfl), fun _ _ _ _ _ _ us hl => match us, hl with | [_], _ => rfl⟩
theorem ok_order_of : FdOk gl d_order_of.cells d_order_of.ps d_order_of.N d_order_of.scope d_order_of.body f_order_of ∧ ArgsT d_order_of := ⟨fdOk_of gn (by kernel_rfl) rfl rfl (by kernel_rfl), fun _ _ _ _ _ _ us hl => match us, hl with | [_, _], _ => rfl⟩
theorem ok_rest_part : FdOk gl d_rest_part.cells d_rest_part.ps d_rest_part.N d_rest_part.scope d_rest_part.body f_rest_part ∧ ArgsT d_rest_part := ⟨fdOk_of gn (by kernel_rfl) rfl rfl (by kernel_rfl), fun _ _ _ _ _ _ us hl => match us, hl with | [_], _ => rfl⟩
theorem ok_fits_time : FdOk gl d_fits_time.cells d_fits_time.ps d_fits_time.N d_fits_time.scope d_fits_time.body f_fits_time ∧ ArgsT d_fits_time := ⟨fdOk_of gn (by kernel_rfl) rfl rfl (by kernel_rfl), fun _ _ _ _ _ _ us hl => match us, hl with | [_], _ => rfl⟩
theorem ok_need_time : FdOk gl d_need_time.cells d_need_time.ps d_need_time.N d_need_time.scope d_need_time.body f_need_time ∧ ArgsT d_need_time := ⟨fdOk_of gn (by kernel_rfl) rfl rfl (by kernel_rfl), fun _ _ _ _ _ _ us hl => match us, hl with | [_], _ => rfl⟩
theorem ok_need_both : FdOk gl d_need_both.cells d_need_both.ps d_need_both.N d_need_both.scope d_need_both.body f_need_both ∧ ArgsT d_need_both := ⟨fdOk_of gn (by kernel_rfl) rfl rfl (by kernel_rfl), fun _ _ _ _ _ _ us hl => match us, hl with | [_, _], _ => rfl⟩
theorem ok_swaps_of : FdOk gl d_swaps_of.cells d_swaps_of.ps d_swaps_of.N d_swaps_of.scope d_swaps_of.body f_swaps_of ∧ ArgsT d_swaps_of := ⟨fdOk_of gn (by kernel_rfl) rfl rfl (by kernel_rfl), fun _ _ _ _ _ _ us hl => match us, hl with | [_], _ => rfl⟩
theorem ok_count_swaps : FdOk gl d_count_swaps.cells d_count_swaps.ps d_count_swaps.N d_count_swaps.scope d_count_swaps.body f_count_swaps ∧ ArgsT d_count_swaps := ⟨fdOk_of gn (by kernel_rfl) rfl rfl (by kernel_rfl), fun _ _ _ _ _ _ us hl => match us, hl with | [_], _ => rfl⟩
theorem ok_count_alike : FdOk gl d_count_alike.cells d_count_alike.ps d_count_alike.N d_count_alike.scope d_count_alike.body f_count_alike ∧ ArgsT d_count_alike := ⟨fdOk_of gn (by kernel_rfl) rfl rfl (by kernel_rfl), fun _ _ _ _ _ _ us hl => match us, hl with | [_], _ => rfl⟩
theorem ok_count_doubtful : FdOk gl d_count_doubtful.cells d_count_doubtful.ps d_count_doubtful.N d_count_doubtful.scope d_count_doubtful.body f_count_doubtful ∧ ArgsT d_count_doubtful := ⟨fdOk_of gn (by kernel_rfl) rfl rfl (by kernel_rfl), fun _ _ _ _ _ _ us hl => match us, hl with | [_], _ => rfl⟩
theorem ok_swap_time : FdOk gl d_swap_time.cells d_swap_time.ps d_swap_time.N d_swap_time.scope d_swap_time.body f_swap_time ∧ ArgsT d_swap_time := ⟨fdOk_of gn (by kernel_rfl) rfl rfl (by kernel_rfl), fun _ _ _ _ _ _ us hl => match us, hl with | [_, _], _ => rfl⟩
theorem ok_partner_of : FdOk gl d_partner_of.cells d_partner_of.ps d_partner_of.N d_partner_of.scope d_partner_of.body f_partner_of ∧ ArgsT d_partner_of := ⟨fdOk_of gn (by kernel_rfl) rfl rfl (by kernel_rfl), fun _ _ _ _ _ _ us hl => match us, hl with | [_, _], _ => rfl⟩
theorem ok_are_alike : FdOk gl d_are_alike.cells d_are_alike.ps d_are_alike.N d_are_alike.scope d_are_alike.body f_are_alike ∧ ArgsT d_are_alike := ⟨fdOk_of gn (by kernel_rfl) rfl rfl (by kernel_rfl), fun _ _ _ _ _ _ us hl => match us, hl with | [_, _], _ => rfl⟩
theorem ok_next_swap : FdOk gl d_next_swap.cells d_next_swap.ps d_next_swap.N d_next_swap.scope d_next_swap.body f_next_swap ∧ ArgsT d_next_swap := ⟨fdOk_of gn (by kernel_rfl) rfl rfl (by kernel_rfl), fun _ _ _ _ _ _ us hl => match us, hl with | [_, _], _ => rfl⟩
theorem ok_need_numbers : FdOk gl d_need_numbers.cells d_need_numbers.ps d_need_numbers.N d_need_numbers.scope d_need_numbers.body f_need_numbers ∧ ArgsT d_need_numbers := ⟨fdOk_of gn (by kernel_rfl) rfl rfl (by kernel_rfl), fun _ _ _ _ _ _ us hl => match us, hl with | [_], _ => rfl⟩
theorem ok_parts_for : FdOk gl d_parts_for.cells d_parts_for.ps d_parts_for.N d_parts_for.scope d_parts_for.body f_parts_for ∧ ArgsT d_parts_for := ⟨fdOk_of gn (by kernel_rfl) rfl rfl (by kernel_rfl), fun _ _ _ _ _ _ us hl => match us, hl with | [_, _], _ => rfl⟩
theorem ok_met : FdOk gl d_met.cells d_met.ps d_met.N d_met.scope d_met.body f_met ∧ ArgsT d_met := ⟨fdOk_of gn (by kernel_rfl) rfl rfl (by kernel_rfl), fun _ _ _ _ _ _ us hl => match us, hl with | [_, _], _ => rfl⟩
theorem ok_divisor_of : FdOk gl d_divisor_of.cells d_divisor_of.ps d_divisor_of.N d_divisor_of.scope d_divisor_of.body f_divisor_of ∧ ArgsT d_divisor_of := ⟨fdOk_of gn (by kernel_rfl) rfl rfl (by kernel_rfl), fun _ _ _ _ _ _ us hl => match us, hl with | [_], _ => rfl⟩
theorem ok_is_hand : FdOk gl d_is_hand.cells d_is_hand.ps d_is_hand.N d_is_hand.scope d_is_hand.body f_is_hand ∧ ArgsT d_is_hand := ⟨fdOk_of gn (by kernel_rfl) rfl rfl (by kernel_rfl), fun _ _ _ _ _ _ us hl => match us, hl with | [_], _ => rfl⟩
theorem ok_are_hands : FdOk gl d_are_hands.cells d_are_hands.ps d_are_hands.N d_are_hands.scope d_are_hands.body f_are_hands ∧ ArgsT d_are_hands := ⟨fdOk_of gn (by kernel_rfl) rfl rfl (by kernel_rfl), fun _ _ _ _ _ _ us hl => match us, hl with | [_], _ => rfl⟩
theorem ok_need_hands : FdOk gl d_need_hands.cells d_need_hands.ps d_need_hands.N d_need_hands.scope d_need_hands.body f_need_hands ∧ ArgsT d_need_hands := ⟨fdOk_of gn (by kernel_rfl) rfl rfl (by kernel_rfl), fun _ _ _ _ _ _ us hl => match us, hl with | [_], _ => rfl⟩
theorem ok_are_marks : FdOk gl d_are_marks.cells d_are_marks.ps d_are_marks.N d_are_marks.scope d_are_marks.body f_are_marks ∧ ArgsT d_are_marks := ⟨fdOk_of gn (by kernel_rfl) rfl rfl (by kernel_rfl), fun _ _ _ _ _ _ us hl => match us, hl with | [_, _], _ => rfl⟩
theorem ok_need_marks : FdOk gl d_need_marks.cells d_need_marks.ps d_need_marks.N d_need_marks.scope d_need_marks.body f_need_marks ∧ ArgsT d_need_marks := ⟨fdOk_of gn (by kernel_rfl) rfl rfl (by kernel_rfl), fun _ _ _ _ _ _ us hl => match us, hl with | [_, _], _ => rfl⟩
theorem ok_marks_of : FdOk gl d_marks_of.cells d_marks_of.ps d_marks_of.N d_marks_of.scope d_marks_of.body f_marks_of ∧ ArgsT d_marks_of := ⟨fdOk_of gn (by kernel_rfl) rfl rfl (by kernel_rfl), fun _ _ _ _ _ _ us hl => match us, hl with | [_, _], _ => rfl⟩
theorem ok_cycle_for : FdOk gl d_cycle_for.cells d_cycle_for.ps d_cycle_for.N d_cycle_for.scope d_cycle_for.body f_cycle_for ∧ ArgsT d_cycle_for := ⟨fdOk_of gn (by kernel_rfl) rfl rfl (by kernel_rfl), fun _ _ _ _ _ _ us hl => match us, hl with | [_, _], _ => rfl⟩
theorem ok_common_for : FdOk gl d_common_for.cells d_common_for.ps d_common_for.N d_common_for.scope d_common_for.body f_common_for ∧ ArgsT d_common_for := ⟨fdOk_of gn (by kernel_rfl) rfl rfl (by kernel_rfl), fun _ _ _ _ _ _ us hl => match us, hl with | [_, _], _ => rfl⟩
theorem ok_sets_of : FdOk gl d_sets_of.cells d_sets_of.ps d_sets_of.N d_sets_of.scope d_sets_of.body f_sets_of ∧ ArgsT d_sets_of := ⟨fdOk_of gn (by kernel_rfl) rfl rfl (by kernel_rfl), fun _ _ _ _ _ _ us hl => match us, hl with | [_], _ => rfl⟩
theorem ok_marks_at : FdOk gl d_marks_at.cells d_marks_at.ps d_marks_at.N d_marks_at.scope d_marks_at.body f_marks_at ∧ ArgsT d_marks_at := ⟨fdOk_of gn (by kernel_rfl) rfl rfl (by kernel_rfl), fun _ _ _ _ _ _ us hl => match us, hl with | [_, _], _ => rfl⟩
theorem ok_time_of : FdOk gl d_time_of.cells d_time_of.ps d_time_of.N d_time_of.scope d_time_of.body f_time_of ∧ ArgsT d_time_of := ⟨fdOk_of gn (by kernel_rfl) rfl rfl (by kernel_rfl), fun _ _ _ _ _ _ us hl => match us, hl with | [_, _], _ => rfl⟩
theorem ok_marks_bar : FdOk gl d_marks_bar.cells d_marks_bar.ps d_marks_bar.N d_marks_bar.scope d_marks_bar.body f_marks_bar ∧ ArgsT d_marks_bar := ⟨fdOk_of gn (by kernel_rfl) rfl rfl (by kernel_rfl), fun _ _ _ _ _ _ us hl => match us, hl with | [_, _], _ => rfl⟩
theorem ok_is_part : FdOk gl d_is_part.cells d_is_part.ps d_is_part.N d_is_part.scope d_is_part.body f_is_part ∧ ArgsT d_is_part := ⟨fdOk_of gn (by kernel_rfl) rfl rfl (by kernel_rfl), fun _ _ _ _ _ _ us hl => match us, hl with | [_, _], _ => rfl⟩
theorem ok_need_found : FdOk gl d_need_found.cells d_need_found.ps d_need_found.N d_need_found.scope d_need_found.body f_need_found ∧ ArgsT d_need_found := ⟨fdOk_of gn (by kernel_rfl) rfl rfl (by kernel_rfl), fun _ _ _ _ _ _ us hl => match us, hl with | [_, _, _, _], _ => rfl⟩
theorem ok_rest_of : FdOk gl d_rest_of.cells d_rest_of.ps d_rest_of.N d_rest_of.scope d_rest_of.body f_rest_of ∧ ArgsT d_rest_of := ⟨fdOk_of gn (by kernel_rfl) rfl rfl (by kernel_rfl), fun _ _ _ _ _ _ us hl => match us, hl with | [_], _ => rfl⟩
theorem ok_times : FdOk gl d_times.cells d_times.ps d_times.N d_times.scope d_times.body f_times ∧ ArgsT d_times := ⟨fdOk_of gn (by kernel_rfl) rfl rfl (by kernel_rfl), fun _ _ _ _ _ _ us hl => match us, hl with | [_, _], _ => rfl⟩
theorem ok_way_to : FdOk gl d_way_to.cells d_way_to.ps d_way_to.N d_way_to.scope d_way_to.body f_way_to ∧ ArgsT d_way_to := ⟨fdOk_of gn (by kernel_rfl) rfl rfl (by kernel_rfl), fun _ _ _ _ _ _ us hl => match us, hl with | [_, _], _ => rfl⟩
theorem ok_apart : FdOk gl d_apart.cells d_apart.ps d_apart.N d_apart.scope d_apart.body f_apart ∧ ArgsT d_apart := ⟨fdOk_of gn (by kernel_rfl) rfl rfl (by kernel_rfl), fun _ _ _ _ _ _ us hl => match us, hl with | [_, _], _ => rfl⟩
theorem ok_greater : FdOk gl d_greater.cells d_greater.ps d_greater.N d_greater.scope d_greater.body f_greater ∧ ArgsT d_greater := ⟨fdOk_of gn (by kernel_rfl) rfl rfl (by kernel_rfl), fun _ _ _ _ _ _ us hl => match us, hl with | [_, _], _ => rfl⟩
theorem ok_error_of : FdOk gl d_error_of.cells d_error_of.ps d_error_of.N d_error_of.scope d_error_of.body f_error_of ∧ ArgsT d_error_of := ⟨fdOk_of gn (by kernel_rfl) rfl rfl (by kernel_rfl), fun _ _ _ _ _ _ us hl => match us, hl with | [_, _, _, _, _], _ => rfl⟩
theorem ok_settled : FdOk gl d_settled.cells d_settled.ps d_settled.N d_settled.scope d_settled.body f_settled ∧ ArgsT d_settled := ⟨fdOk_of gn (by kernel_rfl) rfl rfl (by kernel_rfl), fun _ _ _ _ _ _ us hl => match us, hl with | [_, _, _, _], _ => rfl⟩
theorem ok_error_at : FdOk gl d_error_at.cells d_error_at.ps d_error_at.N d_error_at.scope d_error_at.body f_error_at ∧ ArgsT d_error_at := ⟨fdOk_of gn (by kernel_rfl) rfl rfl (by kernel_rfl), fun _ _ _ _ _ _ us hl => match us, hl with | [_, _, _, _, _], _ => rfl⟩
theorem ok_least_error : FdOk gl d_least_error.cells d_least_error.ps d_least_error.N d_least_error.scope d_least_error.body f_least_error ∧ ArgsT d_least_error := ⟨fdOk_of gn (by kernel_rfl) rfl rfl (by kernel_rfl), fun _ _ _ _ _ _ us hl => match us, hl with | [_, _, _, _], _ => rfl⟩
theorem ok_nearest_time : FdOk gl d_nearest_time.cells d_nearest_time.ps d_nearest_time.N d_nearest_time.scope d_nearest_time.body f_nearest_time ∧ ArgsT d_nearest_time := ⟨fdOk_of gn (by kernel_rfl) rfl rfl (by kernel_rfl), fun _ _ _ _ _ _ us hl => match us, hl with | [_, _, _, _], _ => rfl⟩
theorem ok_is_nearest : FdOk gl d_is_nearest.cells d_is_nearest.ps d_is_nearest.N d_is_nearest.scope d_is_nearest.body f_is_nearest ∧ ArgsT d_is_nearest := ⟨fdOk_of gn (by kernel_rfl) rfl rfl (by kernel_rfl), fun _ _ _ _ _ _ us hl => match us, hl with | [_, _, _, _, _], _ => rfl⟩
theorem ok__law_cup : FdOk gl d__law_cup.cells d__law_cup.ps d__law_cup.N d__law_cup.scope d__law_cup.body f__law_cup ∧ ArgsT d__law_cup := ⟨fdOk_of gn (by kernel_rfl) rfl rfl (by kernel_rfl), fun _ _ _ _ _ _ us hl => match us, hl with | [_], _ => rfl⟩
theorem ok__law_roll : FdOk gl d__law_roll.cells d__law_roll.ps d__law_roll.N d__law_roll.scope d__law_roll.body f__law_roll ∧ ArgsT d__law_roll := ⟨fdOk_of gn (by kernel_rfl) rfl rfl (by kernel_rfl), fun _ _ _ _ _ _ us hl => match us, hl with | [_, _], _ => rfl⟩
theorem ok__law_some : FdOk gl d__law_some.cells d__law_some.ps d__law_some.N d__law_some.scope d__law_some.body f__law_some ∧ ArgsT d__law_some := ⟨fdOk_of gn (by kernel_rfl) rfl rfl (by kernel_rfl), fun _ _ _ _ _ _ us hl => match us, hl with | [_, _], _ => rfl⟩
theorem ok__law_sort : FdOk gl d__law_sort.cells d__law_sort.ps d__law_sort.N d__law_sort.scope d__law_sort.body f__law_sort ∧ ArgsT d__law_sort := ⟨fdOk_of gn (by kernel_rfl) rfl rfl (by kernel_rfl), fun _ _ _ _ _ _ us hl => match us, hl with | [_], _ => rfl⟩
theorem ok__law_like : FdOk gl d__law_like.cells d__law_like.ps d__law_like.N d__law_like.scope d__law_like.body f__law_like ∧ ArgsT d__law_like := ⟨fdOk_of gn (by kernel_rfl) rfl rfl (by kernel_rfl), fun _ _ _ _ _ _ us hl => match us, hl with | [_, _], _ => rfl⟩
theorem ok__law_place : FdOk gl d__law_place.cells d__law_place.ps d__law_place.N d__law_place.scope d__law_place.body f__law_place ∧ ArgsT d__law_place := ⟨fdOk_of gn (by kernel_rfl) rfl rfl (by kernel_rfl), fun _ _ _ _ _ _ us hl => match us, hl with | [_, _], _ => rfl⟩
theorem ok__law_apart : FdOk gl d__law_apart.cells d__law_apart.ps d__law_apart.N d__law_apart.scope d__law_apart.body f__law_apart ∧ ArgsT d__law_apart := ⟨fdOk_of gn (by kernel_rfl) rfl rfl (by kernel_rfl), fun _ _ _ _ _ _ us hl => match us, hl with | [_, _], _ => rfl⟩
theorem ok__law_time_right : FdOk gl d__law_time_right.cells d__law_time_right.ps d__law_time_right.N d__law_time_right.scope d__law_time_right.body f__law_time_right ∧ ArgsT d__law_time_right := ⟨fdOk_of gn (by kernel_rfl) rfl rfl (by kernel_rfl), fun _ _ _ _ _ _ us hl => match us, hl with | [_, _], _ => rfl⟩
theorem ok__law_all_right : FdOk gl d__law_all_right.cells d__law_all_right.ps d__law_all_right.N d__law_all_right.scope d__law_all_right.body f__law_all_right ∧ ArgsT d__law_all_right := ⟨fdOk_of gn (by kernel_rfl) rfl rfl (by kernel_rfl), fun _ _ _ _ _ _ us hl => match us, hl with | [_], _ => rfl⟩
theorem ok__law_dial_right : FdOk gl d__law_dial_right.cells d__law_dial_right.ps d__law_dial_right.N d__law_dial_right.scope d__law_dial_right.body f__law_dial_right ∧ ArgsT d__law_dial_right := ⟨fdOk_of gn (by kernel_rfl) rfl rfl (by kernel_rfl), fun _ _ _ _ _ _ us hl => match us, hl with | [_, _, _], _ => rfl⟩
theorem ok_law : FdOk gl d_law.cells d_law.ps d_law.N d_law.scope d_law.body f_law ∧ ArgsT d_law := ⟨fdOk_of gn (by kernel_rfl) rfl rfl (by kernel_rfl), fun _ _ _ _ _ _ us hl => match us, hl with | [_], _ => rfl⟩
theorem okA0 : OkAll gl ds0 T0 := ⟨ok_is_whole, ok_need_whole, ok_is_tuple_of, ok_is_ratio, ok_need_ratio, ok_need_ratios, ok_cut, ok_sum_two, ok_side, ok_ratio, trivial⟩
theorem okA1 : OkAll gl ds1 T1 := ⟨ok_sum_of, ok_product_of, ok_order_of, ok_rest_part, ok_fits_time, ok_need_time, ok_need_both, ok_swaps_of, ok_count_swaps, ok_count_alike, trivial⟩
theorem okA2 : OkAll gl ds2 T2 := ⟨ok_count_doubtful, ok_swap_time, ok_partner_of, ok_are_alike, ok_next_swap, ok_need_numbers, ok_parts_for, ok_met, ok_divisor_of, ok_is_hand, trivial⟩
theorem okA3 : OkAll gl ds3 T3 := ⟨ok_are_hands, ok_need_hands, ok_are_marks, ok_need_marks, ok_marks_of, ok_cycle_for, ok_common_for, ok_sets_of, ok_marks_at, ok_time_of, trivial⟩
theorem okA4 : OkAll gl ds4 T4 := ⟨ok_marks_bar, ok_is_part, ok_need_found, ok_rest_of, ok_times, ok_way_to, ok_apart, ok_greater, ok_error_of, ok_settled, trivial⟩
theorem okA5 : OkAll gl ds5 T5 := ⟨ok_error_at, ok_least_error, ok_nearest_time, ok_is_nearest, ok__law_cup, ok__law_roll, ok__law_some, ok__law_sort, ok__law_like, ok__law_place, trivial⟩
theorem okA6 : OkAll gl ds6 T6 := ⟨ok__law_apart, ok__law_time_right, ok__law_all_right, ok__law_dial_right, ok_law, trivial⟩
theorem okA : OkAll gl ds T := (OkAll.append (OkAll.append (OkAll.append (OkAll.append (OkAll.append (OkAll.append okA0 okA1) okA2) okA3) okA4) okA5) okA6)
theorem glsOk : glsB' ds gl = true := by kernel_rfl
theorem cupT : CupT gl d__law_cup.scope d__law_cup.body := cupT_of gn (by kernel_rfl) (by kernel_rfl) (by kernel_rfl) (by kernel_rfl) (by kernel_rfl) (by kernel_rfl)
theorem lawT : LawT gl d_law.cells d_law.N d_law.scope d_law.body b_law := lawT_of gn (by kernel_rfl) (by kernel_rfl) (by kernel_rfl) (by kernel_rfl) (by kernel_rfl) (by kernel_rfl) (by kernel_rfl)
theorem all : LawAll gl ds T d__law_cup d_law b_law := ⟨okA.tab, okA.args, glsB'_ok glsOk, ⟨54, rfl⟩, rfl, rfl, ⟨64, rfl⟩, rfl, rfl, by kernel_rfl, by kernel_rfl, cupT, lawT⟩
end WM.K94
namespace WM.K94
open PySem PySem.Spec PyProof.Rows L2
def lo0 : List Str := ["gcd", "ClockError", "InvalidNumber", "InvalidRatio", "InvalidRests", "InvalidHands", "InvalidTime", "InvalidMarks", "is_whole", "need_whole", "is_tuple_of", "GREAT_ratios", "MANY_ratios", "is_ratio", "need_ratio", "need_ratios", "cut", "sum_two", "side", "ratio"]
def lo1 : List Str := ["sum_of", "product_of", "order_of", "rest_part", "FAST", "TOP", "BOTTOM_handswaps", "fits_time", "need_time", "need_both", "swaps_of", "count_swaps", "count_alike", "count_doubtful", "swap_time", "partner_of", "are_alike", "next_swap", "GREAT_rests", "MANY_rests"]
def lo2 : List Str := ["need_numbers", "parts_for", "met", "divisor_of", "HANDS", "DIAL", "TIME", "is_hand", "are_hands", "need_hands", "are_marks", "need_marks", "marks_of", "cycle_for", "common_for", "sets_of", "marks_at", "time_of", "marks_bar", "ROUNDS"]
def lo3 : List Str := ["BOTTOM_nearesttimes", "FINE", "is_part", "need_found", "rest_of", "times", "way_to", "apart", "greater", "error_of", "settled", "error_at", "least_error", "nearest_time", "is_nearest", "_law_cup", "_law_roll", "_law_some", "_law_sort", "_law_like"]
def lo4 : List Str := ["_law_place", "_law_apart", "_law_time_right", "_law_all_right", "_law_dial_right"]
def loose : List Str := lo0 ++ lo1 ++ lo2 ++ lo3 ++ lo4
abbrev R : PySem.W.OpenRow := PySem.W.OpenLaw.row PySem.Challenge.rw_wheelmark_k94_whole_exchanged_hands_read
abbrev q : Program := PySem.W.view R.prog [0, 93]
abbrev fa : List He.Fa := ds.map fun d => He.Fa.glo d.x
abbrev fn : List He.DefD := ds.map mkD
abbrev hk : PySem.W.Hook := hookW 4 fa fn gl
def ob (s : PySem.W.SharedT) : AlW := obsW 4 fa fn gl (HandSHeadRun.getT s)
theorem ob_eq (s : PySem.W.SharedT) : ob s = hk.obs s.abs := obsW_eq (HandSHeadRun.getT_eq s)
theorem run_l (w : World) : AtR (HandSHeadRun.wholeF (fun p => HandSHeadRun.stepQ (HandSHeadRun.denQ HandSHeadRun.tabQ) p w) HandSHeadRun.fenceQ 20000 R.prog) (fun x => HandSHeadRun.looksF R.prog x.1.heap x.2.abs) true := by
  unfold AtR
  kernel_rfl
theorem run_r (w : World) : AtR (HandSHeadRun.wholeF (fun p => HandSHeadRun.stepQ (HandSHeadRun.denQ HandSHeadRun.tabQ) p w) HandSHeadRun.fenceQ 20000 R.prog) (fun x => (HandSHeadRun.seenQ q loose (importedModules R.prog.main.body) (fun s => PySem.W.xlAt q [] s && PySem.W.recOk R.toRowW.records s) x.2.abs, (glsB (KX x.2) gl, obD ds x.2))) (PySem.W.openGood q loose, (true, vaD ds)) := by
  unfold AtR
  kernel_rfl
theorem run (w : World) : HandSHeadRun.RunEqI R q hk ob 20000 loose w := runI_of2 (run_l w) (run_r w)
end WM.K94
section
open PySem PySem.W PySem.Calls PyProof.Rows
theorem WM.K94.holds (pure : ∀ c0 c1 : Int, 0 ≤ c0 → 229 ≤ c1 → ∃ sl' st', WM.runSs (WM.fns WM.K94.T 40) WM.K94.b_law (WM.slot1 WM.K94.d_law.N.length) [.lst false [.int c0, .int c1]] = some (.ret (.d (.bool true)), sl', st')) : PySem.Challenge.rw_wheelmark_k94_whole_exchanged_hands_read.Holds := by
  w_on; o_law
  refine HandSHeadRun.head_imp (r := OpenLaw.row PySem.Challenge.rw_wheelmark_k94_whole_exchanged_hands_read) (q := view (OpenLaw.row PySem.Challenge.rw_wheelmark_k94_whole_exchanged_hands_read).prog [0, 93]) (H := WM.K94.hk) (ob := WM.K94.ob) (M := 20000) (loose := WM.K94.loose) (d := HandSHeadRun.topDef (OpenLaw.row PySem.Challenge.rw_wheelmark_k94_whole_exchanged_hands_read).prog 93) (kwd := []) WM.K94.ob_eq
    WM.K94.run (by kernel_rfl) (by kernel_rfl) (by kernel_rfl) (by rfl) (by first | assumption | decide +kernel) (by decide +kernel) ⟨rfl, rfl, rfl, rfl, rfl, by decide +kernel⟩ ?hw ?hc
  case hw => w_witness2
  case hc =>
    refine L2.walk_ofE (l := PySem.Challenge.rw_wheelmark_k94_whole_exchanged_hands_read) (n := 63) (k := 41) (x := "script") (CX := L2.CX0) rfl (by decide) (by kernel_rfl) ⟨rfl, by decide, by decide⟩ ?F (fun _ _ _ _ z => z)
    intro w mg fa h Y G hmg0
    obtain ⟨K, KX, c⟩ := Y
    have hmg : mg ("law" : PySem.Str) = some (.ref fa) := by
      have e : (HandSHeadRun.topDef (OpenLaw.row PySem.Challenge.rw_wheelmark_k94_whole_exchanged_hands_read).prog 93).name = ("law" : PySem.Str) := by kernel_rfl
      rw [← e]
      exact hmg0
    obtain ⟨fd, hb, hF⟩ := WM.facts_of (P := (PySem.Challenge.rw_wheelmark_k94_whole_exchanged_hands_read).prog) (w := w) (k := 39) WM.K94.all KX G c hmg pure
    exact ⟨K, fd, WM.spLaw K, KX, hb, fun H a ns hl _ hS => ⟨a, ns, hl, rfl, hS, fun _ => rfl⟩, hF⟩
end
namespace WM.K94
open PySem PySem.Spec PyProof.Rows L2
theorem v_is_whole (k : Nat) (v lo hi : Int) (st : Store) : fns T (k + 1) i_is_whole [.d (.int v), .d (.int lo), .d (.int hi)] st = some (.d (.bool (decide (lo ≤ v) && decide (v ≤ hi))), st) := by
  rw [s_is_whole]
  by_cases h : lo ≤ v <;> simp [runF, f_is_whole, slots, rdVar, isiD, truW, truD, fin, h]
theorem v_need_whole (k : Nat) (v lo hi : Int) (st : Store) (h1 : lo ≤ v) (h2 : v ≤ hi) : fns T (k + 2) i_need_whole [.d (.int v), .d (.int lo), .d (.int hi)] st = some (.d .none, st) := by
  rw [s_need_whole]
  simp [runF, f_need_whole, slots, rdRaw, v_is_whole, truW, truD, fin, h1, h2]
theorem v_is_tuple_of (k : Nat) (xs : List D) (lo hi : Int) (st : Store) : fns T (k + 1) i_is_tuple_of [.d (.tuple xs), .d (.int lo), .d (.int hi)] st = some (.d (.bool (decide (lo ≤ xs.length) && decide ((xs.length : Int) ≤ hi))), st) := by
  rw [s_is_tuple_of]
  by_cases h : lo ≤ xs.length <;> simp [runF, f_is_tuple_of, slots, rdVar, rdRaw, isiD, truW, truD, fin, bltW, h]
theorem v_is_tuple_of_pr (k : Nat) (q : Rat) (st : Store) : fns T (k + 1) i_is_tuple_of [.d (pr q), .d (.int 2), .d (.int 2)] st = some (.d (.bool true), st) := by
  unfold pr
  rw [v_is_tuple_of] <;> rfl
theorem gcd_pos {t b : Int} (hb : b ≠ 0) : 0 < (Int.gcd t b : Int) := by
  have := Int.gcd_pos_of_ne_zero_right t hb
  omega
theorem gcd_le {t b : Int} (hb : b ≠ 0) : Int.gcd t b ≤ b.natAbs := Nat.le_of_dvd (by omega) (Int.gcd_dvd_natAbs_right t b)
theorem v_cut (k : Nat) (t b : Int) (st : Store) (hb : 0 < b) (hB : b.natAbs < BIG) : fns T (k + 1) i_cut [.d (.int t), .d (.int b)] st = some (.d (pr (Rat.divInt t b)), st) := by
  rw [s_cut]
  have e1 : binD .FloorDiv (.int t) (.int (Int.gcd t b)) = some (.int (t / (Int.gcd t b : Int))) := div_i (gcd_pos (by omega)) (by have := gcd_le (t := t) (b := b) (by omega); omega)
  have e2 : binD .FloorDiv (.int b) (.int (Int.gcd t b)) = some (.int (b / (Int.gcd t b : Int))) := div_i (gcd_pos (by omega)) (by have := gcd_le (t := t) (b := b) (by omega); omega)
  have h0 : ¬ b < 0 := by omega
  simp [runF, f_cut, slots, rdRaw, rdVar, truW, truD, fin, bltW, e1, e2, h0, pr, RT.cut_num t b hb, RT.cut_den t b hb, sizeLine]
open RT
abbrev P (q : Rat) : W := .d (pr q)
abbrev I (i : Int) : W := .d (.int i)
theorem v_sum_two (k : Nat) (p q : Rat) (st : Store) (hp : Sm p) (hq : Sm q) : fns T (k + 2) i_sum_two [P p, P q] st = some (P (p + q), st) := by
  rw [s_sum_two]
  have e1 := Sm.mul_ok hp.n hq.d'
  have e2 := Sm.mul_ok hq.n hp.d'
  have e3 := Sm.mul_ok hp.d' hq.d'
  have e4 := v_cut k (p.num * q.den + q.num * p.den) (p.den * q.den) st (Int.mul_pos (den_pos' p) (den_pos' q)) (Sm.dd hp hq)
  rw [add_div] at e4
  simp [runF, f_sum_two, slots, rdRaw, rdVar, fin, e1, e2, e3, e4]
theorem v_side (k : Nat) (p q : Rat) (st : Store) (hp : Sm p) (hq : Sm q) : fns T (k + 1) i_side [P p, P q] st = some (I (p.num * q.den - q.num * p.den), st) := by
  rw [s_side]
  have e1 := Sm.mul_ok hp.n hq.d'
  have e2 := Sm.mul_ok hq.n hp.d'
  simp [runF, f_side, slots, rdRaw, rdVar, fin, e1, e2]
def G60 : Nat := 10 ^ 60
theorem v_is_ratio (k : Nat) (q : Rat) (st : Store) (h : Bd q (10 ^ 60) (10 ^ 60)) : fns T (k + 2) i_is_ratio [P q] st = some (.d (.bool true), st) := by
  rw [s_is_ratio]
  have h1 := h.n
  have h2 := h.d
  have h3 := q.den_pos
  have e1 : decide (-1000000000000000000000000000000000000000000000000000000000000 ≤ q.num) = true := decide_eq_true (by omega)
  have e2 : decide (q.num ≤ 1000000000000000000000000000000000000000000000000000000000000) = true := decide_eq_true (by omega)
  have e3 : decide ((1 : Int) ≤ q.den) = true := decide_eq_true (by omega)
  have e4 : decide ((q.den : Int) ≤ 1000000000000000000000000000000000000000000000000000000000000) = true := decide_eq_true (by omega)
  have e5 : Int.gcd q.num q.den = 1 := q.reduced
  have t0 := v_is_tuple_of_pr k q st
  simp [runF, f_is_ratio, slots, rdRaw, rdVar, fin, v_is_tuple_of_pr, v_is_whole, e1, e2, e3, e4, e5, truW, truD, bltW]
theorem v_need_ratio (k : Nat) (q : Rat) (st : Store) (h : Bd q (10 ^ 60) (10 ^ 60)) : fns T (k + 3) i_need_ratio [P q] st = some (.d .none, st) := by
  rw [s_need_ratio]
  simp [runF, f_need_ratio, slots, rdRaw, rdVar, fin, v_is_ratio _ _ _ h]
theorem v_ratio (k : Nat) (t b : Int) (st : Store) (h1 : t.natAbs ≤ 10 ^ 60) (h2 : 0 < b) (h3 : b.natAbs ≤ 10 ^ 60) : fns T (k + 3) i_ratio [I t, I b] st = some (P (Rat.divInt t b), st) := by
  rw [s_ratio]
  have e1 := v_need_whole k t (-1000000000000000000000000000000000000000000000000000000000000) 1000000000000000000000000000000000000000000000000000000000000 st (by omega) (by omega)
  have e2 := v_need_whole k b (-1000000000000000000000000000000000000000000000000000000000000) 1000000000000000000000000000000000000000000000000000000000000 st (by omega) (by omega)
  have e3 := v_cut (k + 1) t b st h2 (lt_big (Nat.lt_of_le_of_lt h3 (by decide +kernel)))
  have e4 : b ≠ 0 := by omega
  simp [runF, f_ratio, slots, rdRaw, rdVar, fin, e1, e2, e3, e4]
theorem v_need_ratios (k : Nat) (p q : Rat) (st : Store) (hp : Bd p (10 ^ 60) (10 ^ 60)) (hq : Bd q (10 ^ 60) (10 ^ 60)) : fns T (k + 3) i_need_ratios [.d (.tuple [pr p, pr q])] st = some (.d .none, st) := by
  rw [s_need_ratios]
  simp [runF, f_need_ratios, slots, rdRaw, rdVar, fin, v_is_tuple_of, v_is_ratio _ _ _ hp, v_is_ratio _ _ _ hq, compL, bltW, bltD, asBools, sizeLine]
theorem v_sum_of (k : Nat) (p q : Rat) (st : Store) (hp : Bd p (10 ^ 60) (10 ^ 60)) (hq : Bd q (10 ^ 60) (10 ^ 60)) : fns T (k + 4) i_sum_of [.d (.tuple [pr p, pr q])] st = some (P (p + q), st) := by
  rw [s_sum_of]
  have e0 : (.tuple [.int 0, .int 1] : D) = pr 0 := rfl
  have b0 : Sm 0 := ⟨by decide +kernel, by decide +kernel⟩
  have e1 := v_sum_two (k + 1) 0 p st b0 (hp.sm (by decide +kernel) (by decide +kernel))
  rw [Rat.zero_add] at e1
  have e2 := v_sum_two (k + 1) p q st (hp.sm (by decide +kernel) (by decide +kernel)) (hq.sm (by decide +kernel) (by decide +kernel))
  simp [runF, f_sum_of, slots, rdRaw, rdVar, fin, v_need_ratios _ _ _ _ hp hq, sizeLine, e0, forL, e1, e2]
theorem v_product_of (k : Nat) (p q : Rat) (st : Store) (hp : Bd p (10 ^ 60) (10 ^ 60)) (hq : Bd q (10 ^ 60) (10 ^ 60)) : fns T (k + 4) i_product_of [.d (.tuple [pr p, pr q])] st = some (P (p * q), st) := by
  rw [s_product_of]
  have e0 : (.tuple [.int 1, .int 1] : D) = pr 1 := rfl
  have sp : Sm p := hp.sm (by decide +kernel) (by decide +kernel)
  have sq : Sm q := hq.sm (by decide +kernel) (by decide +kernel)
  have a1 : binD .Mult (.int 1) (.int p.num) = some (.int (1 * p.num)) := mul_i (mulOk_l (by decide))
  have a2 : binD .Mult (.int 1) (.int p.den) = some (.int (1 * p.den)) := mul_i (mulOk_l (by decide))
  have e1 := v_cut (k + 2) p.num p.den st (den_pos' p) (big1 sp.d')
  rw [Rat.num_divInt_den] at e1
  have e2 := v_cut (k + 2) (p.num * q.num) (p.den * q.den) st (Int.mul_pos (den_pos' p) (den_pos' q)) (Sm.dd sp sq)
  rw [mul_div] at e2
  have n1 : (1 : Rat).num = 1 := rfl
  have n2 : (1 : Rat).den = 1 := rfl
  simp [runF, f_product_of, slots, rdRaw, rdVar, fin, v_need_ratios _ _ _ _ hp hq, sizeLine, e0, forL, n1, n2, a1, a2, e1, e2, Sm.mul_ok sp.n sq.n, Sm.mul_ok sp.d' sq.d']
def sg (p q : Rat) : Int := if q < p then 1 else if p < q then -1 else 0
theorem v_order_of (k : Nat) (p q : Rat) (st : Store) (hp : Bd p (10 ^ 60) (10 ^ 60)) (hq : Bd q (10 ^ 60) (10 ^ 60)) : fns T (k + 4) i_order_of [P p, P q] st = some (I (sg p q), st) := by
  rw [s_order_of]
  have sp : Sm p := hp.sm (by decide +kernel) (by decide +kernel)
  have sq : Sm q := hq.sm (by decide +kernel) (by decide +kernel)
  have a1 : (0 : Int) < p.num * q.den - q.num * p.den ↔ q < p := by
    rw [Rat.lt_iff]
    omega
  have a2 : p.num * q.den - q.num * p.den < 0 ↔ p < q := by
    rw [Rat.lt_iff]
    omega
  unfold sg
  have e0 := v_side (k + 2) p q st sp sq
  have n1 := v_need_ratio k p st hp
  have n2 := v_need_ratio k q st hq
  generalize p.num * q.den - q.num * p.den = z at *
  by_cases c1 : (0 : Int) < z
  · rw [if_pos (a1.mp c1)]
    simp [runF, f_order_of, slots, rdRaw, rdVar, fin, n1, n2, e0, c1]
  · by_cases c2 : z < 0
    · rw [if_neg (fun z => c1 (a1.mpr z)), if_pos (a2.mp c2)]
      simp [runF, f_order_of, slots, rdRaw, rdVar, fin, n1, n2, e0, c1, c2]
    · rw [if_neg (fun z => c1 (a1.mpr z)), if_neg (fun z => c2 (a2.mpr z))]
      simp [runF, f_order_of, slots, rdRaw, rdVar, fin, n1, n2, e0, c1, c2]
theorem v_rest_part (k : Nat) (p : Rat) (st : Store) (hp : Bd p (10 ^ 60) (10 ^ 60)) : fns T (k + 4) i_rest_part [P p] st = some (P (fr p), st) := by
  rw [s_rest_part]
  have sp : Sm p := hp.sm (by decide +kernel) (by decide +kernel)
  have e1 := v_cut (k + 2) (p.num % p.den) p.den st (den_pos' p) (big1 sp.d')
  rw [fr_div] at e1
  simp [runF, f_rest_part, slots, rdRaw, rdVar, fin, v_need_ratio _ _ _ hp, mod_i (den_pos' p), e1]
theorem v_fits_time (k : Nat) (q : Rat) (st : Store) (h : Bd q (10 ^ 12) (10 ^ 6)) : fns T (k + 3) i_fits_time [P q] st = some (.d (.bool true), st) := by
  rw [s_fits_time]
  have h1 := h.n
  have h2 := h.d
  have e1 : decide (-1000000000000 ≤ q.num) = true := decide_eq_true (by omega)
  have e2 : decide (q.num ≤ 1000000000000) = true := decide_eq_true (by omega)
  have e4 : decide ((q.den : Int) ≤ 1000000) = true := decide_eq_true (by omega)
  simp [runF, f_fits_time, slots, rdRaw, rdVar, fin, v_is_ratio _ _ _ (h.mono (by decide) (by decide)), e1, e2, e4]
theorem v_need_time (k : Nat) (q : Rat) (st : Store) (h : Bd q (10 ^ 12) (10 ^ 6)) : fns T (k + 4) i_need_time [P q] st = some (.d .none, st) := by
  rw [s_need_time]
  simp [runF, f_need_time, slots, rdRaw, rdVar, fin, v_fits_time _ _ _ h]
/-- a time of the day -/
structure Tm (q : Rat) : Prop where
  lo : 0 ≤ q
  hi : q < 1
  d : q.den ≤ 10 ^ 6
theorem Tm.num {q : Rat} (h : Tm q) : 0 ≤ q.num ∧ q.num < q.den := by
  refine ⟨Rat.num_nonneg.mpr h.lo, ?_⟩
  have := (Rat.lt_iff q 1).mp h.hi
  simpa using this
theorem Tm.bd {q : Rat} (h : Tm q) : Bd q (10 ^ 6) (10 ^ 6) := ⟨by have := h.num; have := h.d; omega, h.d⟩
theorem v_need_both (k : Nat) (n : Int) (q : Rat) (st : Store) (h1 : 2 ≤ n) (h2 : n ≤ 1000) (h : Tm q) : fns T (k + 5) i_need_both [I n, P q] st = some (.d .none, st) := by
  rw [s_need_both]
  have e1 := v_need_whole (k + 2) n 2 1000 st h1 h2
  have h3 := h.num
  have e2 : decide ((0 : Int) ≤ q.num) = true := decide_eq_true h3.1
  have e3 : decide (q.num ≤ (q.den : Int) - 1) = true := decide_eq_true (by omega)
  simp [runF, f_need_both, slots, rdRaw, rdVar, fin, e1, v_need_time _ _ _ (h.bd.mono (by decide) (by decide)), v_is_whole, h.lo, e3]
theorem v_swaps_of (k : Nat) (n : Int) (st : Store) (h1 : 2 ≤ n) (h2 : n ≤ 1000) : fns T (k + 1) i_swaps_of [I n] st = some (I (n * n - 1), st) := by
  rw [s_swaps_of]
  have e1 : binD .Mult (.int n) (.int n) = some (.int (n * n)) := mul_i (mulOk_l (by omega))
  simp [runF, f_swaps_of, slots, rdRaw, rdVar, fin, e1]
theorem v_count_swaps (k : Nat) (n : Int) (st : Store) (h1 : 2 ≤ n) (h2 : n ≤ 1000) : fns T (k + 3) i_count_swaps [I n] st = some (I (n * n - 1), st) := by
  rw [s_count_swaps]
  simp [runF, f_count_swaps, slots, rdRaw, rdVar, fin, v_need_whole _ n 2 1000 _ h1 h2, v_swaps_of _ n _ h1 h2]
theorem v_count_alike (k : Nat) (n : Int) (st : Store) (h1 : 2 ≤ n) (h2 : n ≤ 1000) : fns T (k + 3) i_count_alike [I n] st = some (I (n - 1), st) := by
  rw [s_count_alike]
  simp [runF, f_count_alike, slots, rdRaw, rdVar, fin, v_need_whole _ n 2 1000 _ h1 h2]
theorem v_count_doubtful (k : Nat) (n : Int) (st : Store) (h1 : 2 ≤ n) (h2 : n ≤ 1000) : fns T (k + 3) i_count_doubtful [I n] st = some (I (n * n - n), st) := by
  rw [s_count_doubtful]
  have e1 : binD .Mult (.int n) (.int n) = some (.int (n * n)) := mul_i (mulOk_l (by omega))
  simp [runF, f_count_doubtful, slots, rdRaw, rdVar, fin, v_need_whole _ n 2 1000 _ h1 h2, e1]
theorem sq_bd {n : Int} (h1 : 2 ≤ n) (h2 : n ≤ 1000) : 3 ≤ n * n - 1 ∧ n * n - 1 ≤ 999999 := by
  have a : 2 * 2 ≤ n * n := Int.mul_le_mul h1 h1 (by omega) (by omega)
  have b : n * n ≤ 1000 * 1000 := Int.mul_le_mul h2 h2 (by omega) (by omega)
  omega
theorem v_swap_time (k : Nat) (n t : Int) (st : Store) (h1 : 2 ≤ n) (h2 : n ≤ 1000) (h3 : 0 ≤ t) (h4 : t < n * n - 1) : fns T (k + 3) i_swap_time [I n, I t] st = some (P (Rat.divInt t (n * n - 1)), st) := by
  rw [s_swap_time]
  have b := sq_bd h1 h2
  have e1 := v_need_whole k t 0 (n * n - 1 - 1) st h3 (by omega)
  have e2 := v_cut (k + 1) t (n * n - 1) st (by omega) (small_big (by omega))
  simp [runF, f_swap_time, slots, rdRaw, rdVar, fin, v_need_whole _ n 2 1000 _ h1 h2, v_swaps_of _ n _ h1 h2, e1, e2]
end WM.K94
namespace WM.K94
open PySem PySem.Spec PyProof.Rows L2 RT
def sw (c : Int) (q : Rat) : Bool := decide (fr (q * (c : Rat)) = 0)
theorem sw_eq (c : Int) (q : Rat) : decide ((q.num * c) % q.den = 0) = sw c q := by
  unfold sw
  by_cases h : (q.num * c) % q.den = 0
  · rw [decide_eq_true h, decide_eq_true (fr_mul_zero.mpr h)]
  · rw [decide_eq_false h, decide_eq_false (fun z => h (fr_mul_zero.mp z))]
theorem sw_eq' (c : Int) (q : Rat) : decide ((c * q.num) % q.den = 0) = sw c q := by rw [Int.mul_comm, sw_eq]
def partner (n : Int) (q : Rat) : D := if sw (n * n - 1) q then pr (fr (q * (n : Rat))) else .none
theorem v_partner_of (k : Nat) (n : Int) (q : Rat) (st : Store) (h1 : 2 ≤ n) (h2 : n ≤ 1000) (h : Tm q) : fns T (k + 6) i_partner_of [I n, P q] st = some (.d (partner n q), st) := by
  rw [s_partner_of]
  have b := sq_bd h1 h2
  have sq := (h.bd.sm (by decide +kernel) (by decide +kernel))
  have e0 := v_need_both k n q st h1 h2 h
  have e1 : binD .Mult (.int (n * n - 1)) (.int q.num) = some (.int ((n * n - 1) * q.num)) := mul_i (mulOk_l (by omega))
  have e2 : binD .Mult (.int n) (.int q.num) = some (.int (n * q.num)) := mul_i (mulOk_l (by omega))
  have e3 := v_cut (k + 4) ((n * q.num) % q.den) q.den st (den_pos' q) (big1 sq.d')
  have e5 : Rat.divInt ((n * q.num) % q.den) q.den = fr (q * (n : Rat)) := by rw [fr_muli, Int.mul_comm]
  rw [e5] at e3
  have e4 := sw_eq' (n * n - 1) q
  unfold partner
  generalize hz : (n * n - 1) * q.num = z at *
  cases hs : sw (n * n - 1) q with
  | true =>
    rw [hs] at e4
    have e4 := of_decide_eq_true e4
    simp [runF, f_partner_of, slots, rdRaw, rdVar, fin, e0, v_swaps_of _ n _ h1 h2, e1, mod_i (den_pos' q), e2, e3, e4]
  | false =>
    rw [hs] at e4
    have e4 := of_decide_eq_false e4
    simp [runF, f_partner_of, slots, rdRaw, rdVar, fin, e0, v_swaps_of _ n _ h1 h2, e1, mod_i (den_pos' q), e2, e3, e4]
theorem v_are_alike (k : Nat) (n : Int) (q : Rat) (st : Store) (h1 : 2 ≤ n) (h2 : n ≤ 1000) (h : Tm q) : fns T (k + 6) i_are_alike [I n, P q] st = some (.d (.bool (sw (n - 1) q)), st) := by
  rw [s_are_alike]
  have e0 := v_need_both k n q st h1 h2 h
  have e1 : binD .Mult (.int (n - 1)) (.int q.num) = some (.int ((n - 1) * q.num)) := mul_i (mulOk_l (by omega))
  have e4 := sw_eq' (n - 1) q
  generalize (n - 1) * q.num = z at *
  rw [← e4]
  simp [runF, f_are_alike, slots, rdRaw, rdVar, fin, e0, e1, mod_i (den_pos' q)]
/-- the number of the next swap -/
def nx (n : Int) (q : Rat) : Int := -((-(n * n - 1) * q.num) / q.den)
def later (n : Int) (q : Rat) : D := if nx n q < n * n - 1 then pr (Rat.divInt (nx n q) (n * n - 1)) else .none
theorem v_next_swap (k : Nat) (n : Int) (q : Rat) (st : Store) (h1 : 2 ≤ n) (h2 : n ≤ 1000) (h : Tm q) : fns T (k + 6) i_next_swap [I n, P q] st = some (.d (later n q), st) := by
  rw [s_next_swap]
  have b := sq_bd h1 h2
  have sq := (h.bd.sm (by decide +kernel) (by decide +kernel))
  have e0 := v_need_both k n q st h1 h2 h
  have e1 : binD .Mult (.int (-(n * n - 1))) (.int q.num) = some (.int (-(n * n - 1) * q.num)) := mul_i (mulOk_l (by omega))
  have e3 := v_cut (k + 4) (nx n q) (n * n - 1) st (by omega) (small_big (by omega))
  have e6 := v_swaps_of (k + 4) n st h1 h2
  unfold nx at e3
  unfold later nx
  generalize hz : n * n - 1 = z at *
  generalize hy : (-z * q.num) / q.den = y at *
  have e2 : binD .FloorDiv (.int (-z * q.num)) (.int q.den) = some (.int y) := by rw [div_i (den_pos' q) (big1 sq.d'), hy]
  by_cases c : -y < z
  · rw [if_pos c]
    simp only [runF, f_next_swap, slots, rdRaw, rdVar, fin, runS, runSs, runE, runEs, e0, e6, andW_s, andD_s, ixW_d, ixpr_0, ixpr_1, e1, e2, e3, c, okD_s, okB_s, neg_i, lt_i, decide_eq_true c, truW_b, List.map, List.length]
    simp [e6, e0, e1, e2, e3, decide_eq_true c]
    done
  · rw [if_neg c]
    simp [runF, f_next_swap, slots, rdRaw, rdVar, fin, e0, e6, e1, e2, e3, c]
end WM.K94
namespace WM.K94
open PySem PySem.Spec PyProof.Rows L2 RT
theorem num_bounds {q : Rat} (h0 : 0 ≤ q) (h1 : q < 1) : 0 ≤ q.num ∧ q.num < q.den := by
  refine ⟨Rat.num_nonneg.mpr h0, ?_⟩
  have := (Rat.lt_iff q 1).mp h1
  simpa using this
theorem v_is_part (k : Nat) (q : Rat) (m : Int) (st : Store) (h0 : 0 ≤ q) (h1 : q < 1) (h2 : (q.den : Int) ≤ m) (h3 : q.den ≤ 10 ^ 60) : fns T (k + 3) i_is_part [P q, I m] st = some (.d (.bool true), st) := by
  rw [s_is_part]
  have nb := num_bounds h0 h1
  have bd : Bd q (10 ^ 60) (10 ^ 60) := ⟨by omega, h3⟩
  simp [runF, f_is_part, slots, rdRaw, rdVar, fin, v_is_ratio _ _ _ bd, h0, nb.2, h2]
theorem v_need_found (k : Nat) (a b : Int) (p q : Rat) (st : Store) (a1 : 1 ≤ a) (a2 : a ≤ 1000) (b1 : 1 ≤ b) (b2 : b ≤ 1000) (hp : Tm p) (hq : Tm q) : fns T (k + 4) i_need_found [I a, I b, P p, P q] st = some (.d .none, st) := by
  rw [s_need_found]
  have dp := hp.d
  have dq := hq.d
  simp [runF, f_need_found, slots, rdRaw, rdVar, fin, v_need_whole _ a 1 1000 _ a1 a2, v_need_whole _ b 1 1000 _ b1 b2, v_is_part _ p 1000000 _ hp.lo hp.hi (by omega) (Nat.le_trans dp (by decide)), v_is_part _ q 1000000 _ hq.lo hq.hi (by omega) (Nat.le_trans dq (by decide))]
theorem v_rest_of (k : Nat) (p : Rat) (st : Store) (sp : Sm p) : fns T (k + 2) i_rest_of [P p] st = some (P (fr p), st) := by
  rw [s_rest_of]
  have e1 := v_cut k (p.num % p.den) p.den st (den_pos' p) (big1 sp.d')
  rw [fr_div] at e1
  simp [runF, f_rest_of, slots, rdRaw, rdVar, fin, mod_i (den_pos' p), e1]
theorem v_times (k : Nat) (p : Rat) (n : Int) (st : Store) (sp : Sm p) (hn : n.natAbs < 2 ^ 1000) : fns T (k + 2) i_times [P p, I n] st = some (P (p * (n : Rat)), st) := by
  rw [s_times]
  have e1 := v_cut k (p.num * n) p.den st (den_pos' p) (big1 sp.d')
  rw [muli_div] at e1
  simp [runF, f_times, slots, rdRaw, rdVar, fin, Sm.mul_ok sp.n hn, e1]
theorem half_iff (q : Rat) : 2 * q.num < q.den ↔ q < 1 / 2 := by
  rw [Rat.lt_iff]
  have h1 : ((1 : Rat) / 2).num = 1 := by decide +kernel
  have h2 : ((1 : Rat) / 2).den = 2 := by decide +kernel
  rw [h1, h2]
  omega
theorem v_way_to (k : Nat) (p q : Rat) (st : Store) {N D M E : Nat} (hp : Bd p N D) (hq : Bd q M E) (c1 : N < 2 ^ 400) (c2 : D < 2 ^ 400) (c3 : M < 2 ^ 400) (c4 : E < 2 ^ 400) : fns T (k + 3) i_way_to [P p, P q] st = some (P (wy (p - q)), st) := by
  rw [s_way_to]
  have big : (2 : Nat) ^ 400 ≤ 2 ^ 1000 := Nat.pow_le_pow_right (by omega) (by omega)
  have sp : Sm p := hp.sm (by omega) (by omega)
  have sq : Sm q := hq.sm (by omega) (by omega)
  have e1 := v_times k q (-1) st sq (by decide +kernel)
  have en : q * ((-1 : Int) : Rat) = -q := by
    rw [Rat.intCast_neg, Rat.intCast_one]
    grind
  rw [en] at e1
  have sn : Sm (-q) := hq.neg.sm (by omega) (by omega)
  have e2 := v_sum_two k p (-q) st sp sn
  have ep : p + -q = p - q := by grind
  rw [ep] at e2
  have bs := hp.add hq.neg
  rw [ep] at bs
  have sm : ∀ {a b : Nat}, a < 2 ^ 400 → b < 2 ^ 400 → a * b ≤ 2 ^ 800 := fun {a b} x y => by
    have := Nat.mul_le_mul (Nat.le_of_lt x) (Nat.le_of_lt y)
    rwa [← Nat.pow_add] at this
  have g1 : (2 : Nat) ^ 800 < 2 ^ 999 := Nat.pow_lt_pow_right (by omega) (by omega)
  have g2 : (2 : Nat) ^ 1000 = 2 * 2 ^ 999 := by rw [show 1000 = 999 + 1 from rfl, Nat.pow_succ, Nat.mul_comm]
  have z1 := sm c1 c4
  have z2 := sm c3 c2
  have z3 := sm c2 c4
  have ss : Sm (p - q) := bs.sm (by omega) (by omega)
  have e3 := v_rest_of (k) (p - q) st ss
  have sf : Sm (fr (p - q)) := bs.fr.sm (by omega) (by omega)
  have e5 : (.tuple [.int (-1), .int 1] : PyData) = pr (-1) := rfl
  have e6 := v_sum_two k (fr (p - q)) (-1) st sf ⟨by decide +kernel, by decide +kernel⟩
  have e7 : fr (p - q) + -1 = fr (p - q) - 1 := by grind
  rw [e7] at e6
  have e8 : binD .Mult (.int 2) (.int (fr (p - q)).num) = some (.int (2 * (fr (p - q)).num)) := mul_i (mulOk_l (by decide))
  have hh := half_iff (fr (p - q))
  unfold wy
  by_cases c : fr (p - q) < 1 / 2
  · rw [if_pos c]
    have c' := hh.mpr c
    simp [runF, f_way_to, slots, rdRaw, rdVar, fin, e1, e2, e3, e8, c']
  · rw [if_neg c]
    have c' : ¬ 2 * (fr (p - q)).num < (fr (p - q)).den := fun z => c (hh.mp z)
    simp only [Int.not_lt] at c'
    have c'' : decide (2 * (fr (p - q)).num < (fr (p - q)).den) = false := decide_eq_false (by omega)
    simp [runF, f_way_to, slots, rdRaw, rdVar, fin, e1, e2, e3, e8, c'', e5, e6, sizeLine]
theorem v_apart (k : Nat) (p q : Rat) (st : Store) {N D M E : Nat} (hp : Bd p N D) (hq : Bd q M E) (c1 : N < 2 ^ 400) (c2 : D < 2 ^ 400) (c3 : M < 2 ^ 400) (c4 : E < 2 ^ 400) : fns T (k + 4) i_apart [P p, P q] st = some (P (ab (wy (p - q))), st) := by
  rw [s_apart]
  have e1 := v_way_to k p q st hp hq c1 c2 c3 c4
  have e2 : (.tuple [.int (if (wy (p - q)).num < 0 then -(wy (p - q)).num else (wy (p - q)).num), .int (wy (p - q)).den] : PyData) = pr (ab (wy (p - q))) := by
    unfold pr
    rw [ab_num, ab_den]
  simp only [runF, f_apart, slots, rdRaw, rdVar, fin, runS, runSs, runE, runEs, e1, andW_s, andD_s, ixW_d, ixpr_0, ixpr_1, okD_s, abs_b, bltW, allD_d, allD_nil, Option.map, List.map, List.length]
  simp [e1, abs_b, e2, sizeLine]
theorem v_greater (k : Nat) (p q : Rat) (st : Store) (sp : Sm p) (sq : Sm q) : fns T (k + 2) i_greater [P p, P q] st = some (P (if q ≤ p then p else q), st) := by
  rw [s_greater]
  have e1 := v_side k p q st sp sq
  have hs := side_le p q
  generalize p.num * q.den - q.num * p.den = z at *
  by_cases c : q ≤ p
  · rw [if_pos c]
    have := hs.mpr c
    simp [runF, f_greater, slots, rdRaw, rdVar, fin, e1, this]
  · rw [if_neg c]
    have : ¬ 0 ≤ z := fun w => c (hs.mp w)
    simp [runF, f_greater, slots, rdRaw, rdVar, fin, e1, this]
end WM.K94
namespace WM.K94
open PySem PySem.Spec PyProof.Rows L2 RT
def t3 (a s t : Int) : W := .d (.tuple [.int a, .int s, .int t])
def pfC : E := .cmp .NotEq (.ix (.raw 3) (.lit (.int 0))) (.lit (.int 0))
def pfB : Ss := .cons (.set 4 (.bin .FloorDiv (.ix (.raw 2) (.lit (.int 0))) (.ix (.raw 3) (.lit (.int 0))))) (.cons (.unp (.cons (.v 2) (.cons (.v 3) .nil)) (.tup (.cons (.var 3) (.cons (.blt .tuple (.cons (.comp (.v 5) (.rng1 (.lit (.int 3))) .none [5] (.bin .Sub (.ix (.raw 2) (.var 5)) (.bin .Mult (.var 4) (.ix (.raw 3) (.var 5))))) .nil)) .nil)))) .nil)
theorem rng3 : rngI (.int 0) (.int 3) = some [.int 0, .int 1, .int 2] := rfl
theorem pf_body (Φ : Fn) (o1 o2 : W) (a s t b u v : Int) (x4 : Option W) (st : Store) (hb : 0 < b) (ha : 0 ≤ a) (ha2 : a < 2 ^ 63) (hb2 : b < 2 ^ 63) :
    runSs Φ pfB [some o1, some o2, some (t3 a s t), some (t3 b u v), x4, none] st = some (.nx, [some o1, some o2, some (t3 b u v), some (t3 (a - a / b * b) (s - a / b * u) (t - a / b * v)), some (.d (.int (a / b))), none], st) := by
  have e1 : binD .FloorDiv (.int a) (.int b) = some (.int (a / b)) := div_i hb (small_big (by omega))
  have h1 : 0 ≤ a / b := Int.ediv_nonneg ha (by omega)
  have h2 : a / b ≤ a := Int.ediv_le_self _ ha
  have m : ∀ j : Int, binD .Mult (.int (a / b)) (.int j) = some (.int (a / b * j)) := fun j => mul_i (mulOk_l (by omega))
  unfold t3
  simp only [pfB, runSs, runS, runE, runEs, runI, runC, rdRaw, rdVar, andW_s, andD_s, ixW_d, ix3_0, ix3_1, ix3_2, okD_s, e1, okL_s, rng3, compL, stTg, stTgs, wipeS, m, sub_i, List.getElem?_cons_zero, List.getElem?_cons_succ, List.set_cons_zero, List.set_cons_succ, truW, truD, mkTup, allD_d, allD_nil, Option.map, bltW, tup_l, okC, okN, List.length]
  simp [e1, rng3, compL, wipeS, m, truW, truD, bltW, sizeLine, rdVar, rdRaw, ix3_0]
theorem pf_loop (Φ : Fn) (o1 o2 : W) (A B : Int) (st : Store) : ∀ (n : Nat) (a s t b u v : Int) (x4 : Option W), b.toNat ≤ n → 0 ≤ b → 0 ≤ a → a < 2 ^ 63 → b < 2 ^ 63 → a = s * A + t * B → b = u * A + v * B →
    ∃ m g s' t' x3 x4', whlN (fun sl st => runE Φ pfC sl st) (fun sl st => runSs Φ pfB sl st) m [some o1, some o2, some (t3 a s t), some (t3 b u v), x4, none] st = some (.nx, [some o1, some o2, some (t3 g s' t'), some x3, x4', none], st) ∧ g = s' * A + t' * B ∧ g = Int.gcd a b
  | n, a, s, t, b, u, v, x4, hn, hb, ha, ha2, hb2, ea, eb => by
    by_cases h0 : b = 0
    · subst h0
      refine ⟨1, a, s, t, t3 0 u v, x4, ?_, ea, ?_⟩
      · simp [whlN, pfC, rdRaw, t3]
      · rw [Int.gcd_zero_right]
        omega
    · match n, hn with
      | 0, hn => omega
      | n + 1, hn =>
        have hbp : 0 < b := by omega
        have e0 : a - a / b * b = a % b := by
          have := Int.emod_add_mul_ediv a b
          rw [Int.mul_comm] at this
          omega
        have q1 := Int.emod_nonneg a h0
        have q2 := Int.emod_lt_of_pos a hbp
        obtain ⟨m, g, s', t', x3, x4', e1, e2, e3⟩ := pf_loop Φ o1 o2 A B st n b u v (a - a / b * b) (s - a / b * u) (t - a / b * v) (some (.d (.int (a / b)))) (by omega) (by omega) (by omega) hb2 (by omega) eb (by
          have : (s - a / b * u) * A + (t - a / b * v) * B = (s * A + t * B) - a / b * (u * A + v * B) := by grind
          rw [this, ← ea, ← eb])
        refine ⟨m + 1, g, s', t', x3, x4', ?_, e2, ?_⟩
        · unfold whlN
          have hc : runE Φ pfC [some o1, some o2, some (t3 a s t), some (t3 b u v), x4, none] st = some (.d (.bool true), st) := by
            simp [pfC, rdRaw, t3, h0]
          simp only [hc, andW_s, truW_b, pf_body Φ o1 o2 a s t b u v x4 st hbp ha ha2 hb2]
          exact e1
        · rw [e3, Int.gcd_comm]
          simp
theorem v_parts_for (k : Nat) (A B : Int) (st : Store) (h1 : 0 ≤ A) (h2 : A < 2 ^ 63) (h3 : 0 ≤ B) (h4 : B < 2 ^ 63) : ∃ s t : Int, fns T (k + 1) i_parts_for [.d (.int A), .d (.int B)] st = some (t3 (Int.gcd A B) s t, st) ∧ (Int.gcd A B : Int) = s * A + t * B := by
  obtain ⟨m, g, s', t', x3, x4', e1, e2, e3⟩ := pf_loop (fns T k) (.d (.int A)) (.d (.int B)) A B st B.toNat A 1 0 B 0 1 none (Nat.le_refl _) h3 h1 h2 h4 (by omega) (by omega)
  refine ⟨s', t', ?_, by rw [← e3]; exact e2⟩
  rw [s_parts_for, ← e3]
  have e5 := whlW_of e1
  have e6 : f_parts_for.body = (.cons (.unp (.cons (.v 2) (.cons (.v 3) .nil)) (.tup (.cons (.tup (.cons (.var 0) (.cons (.lit (.int 1)) (.cons (.lit (.int 0)) .nil)))) (.cons (.tup (.cons (.var 1) (.cons (.lit (.int 0)) (.cons (.lit (.int 1)) .nil)))) .nil)))) (.cons (.whl pfC pfB) (.cons (.ret (.var 2)) .nil))) := rfl
  unfold runF
  rw [e6]
  have e7 : f_parts_for.n = 6 := rfl
  have e8 : f_parts_for.ps = 2 := rfl
  unfold t3 at e5
  simp [slots, e7, e8, rdVar, sizeLine, e5, fin, t3]
theorem v_parts_for_1 (k : Nat) (n : Int) (st : Store) (h1 : 2 ≤ n) (h2 : n ≤ 1000) : fns T (k + 1) i_parts_for [.d (.int 1), .d (.int n)] st = some (t3 1 1 0, st) := by
  have c : ∀ (a s t b u v : Int) (x4 : Option W), runE (fns T k) pfC [some (.d (.int 1)), some (.d (.int n)), some (t3 a s t), some (t3 b u v), x4, none] st = some (.d (.bool (!decide (b = 0))), st) := by
    intro a s t b u v x4
    simp [pfC, rdRaw, t3]
  have b1 := pf_body (fns T k) (.d (.int 1)) (.d (.int n)) 1 1 0 n 0 1 none st (by omega) (by omega) (by omega) (by omega)
  have d1 : (1 : Int) / n = 0 := Int.ediv_eq_zero_of_lt (by omega) (by omega)
  rw [d1] at b1
  have b2 := pf_body (fns T k) (.d (.int 1)) (.d (.int n)) n 0 1 1 1 0 (some (.d (.int 0))) st (by omega) (by omega) (by omega) (by omega)
  rw [Int.ediv_one] at b2
  have e1 : whlN (fun sl st => runE (fns T k) pfC sl st) (fun sl st => runSs (fns T k) pfB sl st) 3 [some (.d (.int 1)), some (.d (.int n)), some (t3 1 1 0), some (t3 n 0 1), none, none] st = some (.nx, [some (.d (.int 1)), some (.d (.int n)), some (t3 1 1 0), some (t3 0 (-n) 1), some (.d (.int n)), none], st) := by
    have n0 : n ≠ 0 := by omega
    simp [whlN, c, b1, b2, n0]
  have e5 := whlW_of e1
  have e6 : f_parts_for.body = (.cons (.unp (.cons (.v 2) (.cons (.v 3) .nil)) (.tup (.cons (.tup (.cons (.var 0) (.cons (.lit (.int 1)) (.cons (.lit (.int 0)) .nil)))) (.cons (.tup (.cons (.var 1) (.cons (.lit (.int 0)) (.cons (.lit (.int 1)) .nil)))) .nil)))) (.cons (.whl pfC pfB) (.cons (.ret (.var 2)) .nil))) := rfl
  rw [s_parts_for]
  unfold runF
  rw [e6]
  have e7 : f_parts_for.n = 6 := rfl
  have e8 : f_parts_for.ps = 2 := rfl
  unfold t3 at e5
  simp [slots, e7, e8, rdVar, sizeLine, e5, fin, t3]
end WM.K94
namespace WM.K94
open PySem PySem.Spec PyProof.Rows L2 RT
def way (n : Int) (p q : Rat) : Rat := wy (p * (n : Rat) - q)
def wr (n : Int) (p q : Rat) : Rat := -way n p q / ((n : Rat) + 1)
def near (n : Int) (p q : Rat) : Rat := fr (p + wr n p q)
theorem ncast {n : Int} (h1 : 2 ≤ n) : (2 : Rat) ≤ (n : Rat) := by
  have := Rat.intCast_le_intCast.mpr h1
  simpa using this
theorem wr_div (n : Int) (p q : Rat) (h1 : 2 ≤ n) : Rat.divInt (-(way n p q).num) ((way n p q).den * (1 + n)) = wr n p q := by
  unfold wr
  generalize way n p q = w
  rw [Rat.divInt_eq_div, Rat.intCast_neg, Rat.intCast_mul, Rat.intCast_add, Rat.intCast_one]
  have a := eq_div w
  have b := den_ne w
  have c := ncast h1
  grind
theorem Tm.fr {q : Rat} (h : q.den ≤ 10 ^ 6) : Tm (RT.fr q) := ⟨fr_nn q, fr_lt q, by
  have : Bd q q.num.natAbs (10 ^ 6) := ⟨Nat.le_refl _, h⟩
  exact this.fr.d⟩
theorem way_bd {n : Int} {p q : Rat} (h1 : 2 ≤ n) (h2 : n ≤ 1000) (hp : Tm p) (hq : Tm q) : Bd (way n p q) (2 * 10 ^ 12) (10 ^ 12) := by
  unfold way
  have b1 := (hp.bd.muli (n := n) (M := 1000) (by omega)).add hq.bd.neg
  have e : p * (n : Rat) - q = p * (n : Rat) + -q := by grind
  rw [e]
  exact b1.wy.mono (by decide) (by decide)
theorem wr_bd {n : Int} {p q : Rat} (h1 : 2 ≤ n) (h2 : n ≤ 1000) (hp : Tm p) (hq : Tm q) : Bd (wr n p q) (2 * 10 ^ 12) (1001 * 10 ^ 12) := by
  rw [← wr_div n p q h1]
  have b := way_bd h1 h2 hp hq
  refine Bd.of_divInt (Int.mul_pos (den_pos' _) (by omega)) (by rw [Int.natAbs_neg]; exact b.n) ?_
  rw [Int.natAbs_mul, Nat.mul_comm]
  exact Nat.mul_le_mul (by omega) (by simpa using b.d)
theorem near_bd {n : Int} {p q : Rat} (h1 : 2 ≤ n) (h2 : n ≤ 1000) (hp : Tm p) (hq : Tm q) : Bd (near n p q) (1001 * 10 ^ 18) (1001 * 10 ^ 18) := by
  unfold near
  have := (hp.bd.add (wr_bd h1 h2 hp hq)).fr
  exact this.mono (by decide) (by decide)
theorem v_settled (k : Nat) (n : Int) (p q : Rat) (st : Store) (h1 : 2 ≤ n) (h2 : n ≤ 1000) (hp : Tm p) (hq : Tm q) : fns T (k + 6) i_settled [I 1, I n, P p, P q] st = some (.d (.tuple [pr (near n p q), pr (ab (wr n p q))]), st) := by
  rw [s_settled]
  have e1 := v_parts_for_1 (k + 4) n st h1 h2
  unfold t3 at e1
  have f1 : binD .FloorDiv (.int 1) (.int 1) = some (.int 1) := div_i (by omega) (small_big (by decide))
  have f2 : binD .FloorDiv (.int n) (.int 1) = some (.int n) := by rw [div_i (by omega) (small_big (by decide)), Int.ediv_one]
  have sp : Sm p := hp.bd.sm (by decide +kernel) (by decide +kernel)
  have sq : Sm q := hq.bd.sm (by decide +kernel) (by decide +kernel)
  have nl : n.natAbs < 2 ^ 1000 := Nat.lt_of_le_of_lt (show n.natAbs ≤ 1000 by omega) (by decide +kernel)
  have g1 := v_times (k + 3) p n st sp nl
  have g2 := v_times (k + 3) q (-1) st sq (by decide +kernel)
  have m1 : ∀ z : Rat, z * ((-1 : Int) : Rat) = -z := fun z => by
    rw [Rat.intCast_neg, Rat.intCast_one]
    grind
  rw [m1] at g2
  have b1 := hp.bd.muli (n := n) (M := 1000) (by omega)
  have b2 := hq.bd.neg
  have g3 := v_sum_two (k + 3) (p * (n : Rat)) (-q) st (b1.sm (by decide +kernel) (by decide +kernel)) (b2.sm (by decide +kernel) (by decide +kernel))
  have b3 := b1.add b2
  have b0 : Bd (0 : Rat) 1 1 := ⟨by decide, by decide⟩
  have g4 := v_way_to (k + 2) (p * (n : Rat) + -q) 0 st b3 b0 (by decide +kernel) (by decide +kernel) (by decide +kernel) (by decide +kernel)
  have ew : wy (p * (n : Rat) + -q - 0) = way n p q := by
    unfold way
    congr 1
    grind
  rw [ew] at g4
  have bw := way_bd h1 h2 hp hq
  have sw : Sm (way n p q) := bw.sm (by decide +kernel) (by decide +kernel)
  have f3 : binD .Mult (.int (way n p q).den) (.int (1 + n)) = some (.int ((way n p q).den * (1 + n))) := mul_i (mulOk_r (by omega))
  have bz : ((way n p q).den * (1 + n) : Int).natAbs < BIG := by
    rw [Int.natAbs_mul]
    have := Nat.mul_le_mul (show ((way n p q).den : Int).natAbs ≤ 10 ^ 12 by simpa using bw.d) (show (1 + n).natAbs ≤ 1001 by omega)
    exact lt_big (Nat.lt_of_le_of_lt this (by decide +kernel))
  have g5 := v_cut (k + 4) (-(way n p q).num) ((way n p q).den * (1 + n)) st (Int.mul_pos (den_pos' _) (by omega)) bz
  rw [wr_div n p q h1] at g5
  have bwr := wr_bd h1 h2 hp hq
  have swr : Sm (wr n p q) := bwr.sm (by decide +kernel) (by decide +kernel)
  have g6 := v_sum_two (k + 3) p (wr n p q) st sp swr
  have g7 := v_times (k + 3) (wr n p q) (-1) st swr (by decide +kernel)
  rw [m1] at g7
  have g8 := v_sum_two (k + 3) q (-(wr n p q)) st sq (bwr.neg.sm (by decide +kernel) (by decide +kernel))
  have b4 := hp.bd.add bwr
  have b5 := hq.bd.add bwr.neg
  have g9 := v_times (k + 3) (p + wr n p q) 1 st (b4.sm (by decide +kernel) (by decide +kernel)) (by decide +kernel)
  have ga := v_times (k + 3) (q + -(wr n p q)) 0 st (b5.sm (by decide +kernel) (by decide +kernel)) (by decide +kernel)
  rw [Rat.intCast_one, Rat.mul_one] at g9
  rw [Rat.intCast_zero, Rat.mul_zero] at ga
  have gb := v_sum_two (k + 3) (p + wr n p q) 0 st (b4.sm (by decide +kernel) (by decide +kernel)) (b0.sm (by decide +kernel) (by decide +kernel))
  rw [Rat.add_zero] at gb
  have gc := v_rest_of (k + 3) (p + wr n p q) st (b4.sm (by decide +kernel) (by decide +kernel))
  have b6 := b4.fr
  have s6 : Sm (fr (p + wr n p q)) := b6.sm (by decide +kernel) (by decide +kernel)
  have f4 : binD .Mult (.int (fr (p + wr n p q)).den) (.int 1) = some (.int ((fr (p + wr n p q)).den * 1)) := mul_i (mulOk_r (by decide))
  rw [Int.mul_one] at f4
  have gd := v_cut (k + 4) (fr (p + wr n p q)).num (fr (p + wr n p q)).den st (den_pos' _) (big1 s6.d')
  rw [Rat.num_divInt_den] at gd
  have ge := v_rest_of (k + 3) (fr (p + wr n p q)) st s6
  rw [fr_of (fr_nn _) (fr_lt _)] at ge
  have e0 : (.tuple [.int 0, .int 1] : PyData) = pr 0 := rfl
  have ee : (.tuple [.int (if (wr n p q).num < 0 then -(wr n p q).num else (wr n p q).num), .int (wr n p q).den] : PyData) = pr (ab (wr n p q)) := by
    unfold pr
    rw [ab_num, ab_den]
  unfold near
  simp only [runF, f_settled, slots, List.length, List.map, List.replicate, List.append, runSs, runS, runE, runEs, rdRaw, rdVar, andW_s, andD_s, e1, okN, stTg, stTgs]
  simp [rdVar, rdRaw, f1, f2, g1, g2, g3, e0, sizeLine, g4, f3, g5, g6, g7, g8, g9, ga, gb, gc, f4, gd, ge, abs_b, ee, bltW, fin, e1]
end WM.K94
namespace WM.K94
open PySem PySem.Spec PyProof.Rows L2 RT
theorem v_least_error (k : Nat) (n : Int) (p q : Rat) (st : Store) (h1 : 2 ≤ n) (h2 : n ≤ 1000) (hp : Tm p) (hq : Tm q) : fns T (k + 7) i_least_error [I 1, I n, P p, P q] st = some (P (ab (wr n p q)), st) := by
  rw [s_least_error]
  have e1 := v_need_found (k + 2) 1 n p q st (by omega) (by omega) (by omega) h2 hp hq
  have e2 := v_settled k n p q st h1 h2 hp hq
  simp [runF, f_least_error, slots, rdRaw, rdVar, fin, e1, e2]
theorem v_nearest_time (k : Nat) (n : Int) (p q : Rat) (st : Store) (h1 : 2 ≤ n) (h2 : n ≤ 1000) (hp : Tm p) (hq : Tm q) : fns T (k + 7) i_nearest_time [I 1, I n, P p, P q] st = some (P (near n p q), st) := by
  rw [s_nearest_time]
  have e1 := v_need_found (k + 2) 1 n p q st (by omega) (by omega) (by omega) h2 hp hq
  have e2 := v_settled k n p q st h1 h2 hp hq
  simp [runF, f_nearest_time, slots, rdRaw, rdVar, fin, e1, e2]
theorem wr_lt {n : Int} {p q : Rat} (h1 : 2 ≤ n) : -(1 / 2) ≤ wr n p q ∧ wr n p q < 1 / 2 ∧ -(1 / 2) ≤ -wr n p q ∧ -wr n p q < 1 / 2 := by
  have a := wy_lo (p * (n : Rat) - q)
  have b := wy_hi (p * (n : Rat) - q)
  have c := ncast h1
  unfold wr
  change -(1 / 2) ≤ way n p q at a
  change way n p q < 1 / 2 at b
  generalize way n p q = w at *
  have hpos : (0 : Rat) < (n : Rat) + 1 := by grind
  have key : ∀ z : Rat, z / ((n : Rat) + 1) < 1 / 2 ↔ z < 1 / 2 * ((n : Rat) + 1) := fun z => Rat.div_lt_iff hpos
  have k1 : -w / ((n : Rat) + 1) < 1 / 2 := (key _).mpr (by grind)
  have k2 : w / ((n : Rat) + 1) < 1 / 2 := (key _).mpr (by grind)
  have k3 : -w / ((n : Rat) + 1) = -(w / ((n : Rat) + 1)) := by grind
  rw [k3] at *
  refine ⟨by grind, by grind, by grind, by grind⟩
theorem wy_slow {n : Int} {p q : Rat} (h1 : 2 ≤ n) : wy (fr (near n p q * ((1 : Int) : Rat)) - p) = wr n p q := by
  obtain ⟨i, hi⟩ := fr_ex (near n p q * ((1 : Int) : Rat))
  obtain ⟨j, hj⟩ := fr_ex (p + wr n p q)
  have e : fr (near n p q * ((1 : Int) : Rat)) - p = wr n p q + ((i + j : Int) : Rat) := by
    rw [hi]
    unfold near
    rw [hj, Rat.intCast_add, Rat.intCast_one]
    grind
  rw [wy_congr e]
  exact wy_of (wr_lt h1).1 (wr_lt h1).2.1
theorem wy_fast {n : Int} {p q : Rat} (h1 : 2 ≤ n) : wy (fr (near n p q * (n : Rat)) - q) = -wr n p q := by
  obtain ⟨i, hi⟩ := fr_ex (near n p q * (n : Rat))
  obtain ⟨j, hj⟩ := fr_ex (p + wr n p q)
  obtain ⟨m, hm⟩ := wy_ex (p * (n : Rat) - q)
  have c := ncast h1
  have ew : way n p q = -(wr n p q * ((n : Rat) + 1)) := by
    unfold wr
    grind
  change way n p q = p * (n : Rat) - q + (m : Rat) at hm
  have e : fr (near n p q * (n : Rat)) - q = -wr n p q + ((i + j * n - m : Int) : Rat) := by
    rw [hi]
    unfold near
    rw [hj, Rat.intCast_sub, Rat.intCast_add, Rat.intCast_mul]
    grind
  rw [wy_congr e]
  exact wy_of (wr_lt h1).2.2.1 (wr_lt h1).2.2.2
theorem v_error_of (k : Nat) (n : Int) (p q : Rat) (st : Store) (h1 : 2 ≤ n) (h2 : n ≤ 1000) (hp : Tm p) (hq : Tm q) : fns T (k + 5) i_error_of [I 1, I n, P p, P q, P (near n p q)] st = some (P (ab (wr n p q)), st) := by
  rw [s_error_of]
  have bt := near_bd h1 h2 hp hq
  have st' : Sm (near n p q) := bt.sm (by decide +kernel) (by decide +kernel)
  have nl : n.natAbs < 2 ^ 1000 := Nat.lt_of_le_of_lt (show n.natAbs ≤ 1000 by omega) (by decide +kernel)
  have e1 := v_times (k + 2) (near n p q) 1 st st' (by decide +kernel)
  have e2 := v_times (k + 2) (near n p q) n st st' nl
  have b1 := bt.muli (n := 1) (M := 1) (by decide)
  have b2 := bt.muli (n := n) (M := 1000) (by omega)
  have e3 := v_rest_of (k + 2) _ st (b1.sm (by decide +kernel) (by decide +kernel))
  have e4 := v_rest_of (k + 2) _ st (b2.sm (by decide +kernel) (by decide +kernel))
  have e5 := v_apart k _ p st b1.fr hp.bd (by decide +kernel) (by decide +kernel) (by decide +kernel) (by decide +kernel)
  have e6 := v_apart k _ q st b2.fr hq.bd (by decide +kernel) (by decide +kernel) (by decide +kernel) (by decide +kernel)
  rw [wy_slow h1] at e5
  rw [wy_fast h1, ab_neg] at e6
  have sw : Sm (ab (wr n p q)) := (wr_bd h1 h2 hp hq).ab.sm (by decide +kernel) (by decide +kernel)
  have e7 := v_greater (k + 2) _ _ st sw sw
  rw [if_pos Rat.le_refl] at e7
  simp only [runF, f_error_of, slots, List.length, List.map, List.replicate, List.append, runSs, runS, runE, runEs, rdRaw, rdVar, andW_s, andD_s]
  rw [Rat.intCast_one, Rat.mul_one] at e1 e3 e5
  simp [rdRaw, e1, e2, e3, e4, e5, e6, e7, fin]
theorem near_part {n : Int} {p q : Rat} (h1 : 2 ≤ n) (h2 : n ≤ 1000) (hp : Tm p) (hq : Tm q) (k : Nat) (st : Store) : fns T (k + 3) i_is_part [P (near n p q), .d (.int 1000000000000000000000000)] st = some (.d (.bool true), st) := by
  have b := (near_bd h1 h2 hp hq).d
  exact v_is_part k _ _ st (fr_nn _) (fr_lt _) (by omega) (by omega)
theorem v_error_at (k : Nat) (n : Int) (p q : Rat) (st : Store) (h1 : 2 ≤ n) (h2 : n ≤ 1000) (hp : Tm p) (hq : Tm q) : fns T (k + 7) i_error_at [I 1, I n, P p, P q, P (near n p q)] st = some (P (ab (wr n p q)), st) := by
  rw [s_error_at]
  have e1 := v_need_found (k + 2) 1 n p q st (by omega) (by omega) (by omega) h2 hp hq
  have e2 := v_error_of (k + 1) n p q st h1 h2 hp hq
  have e3 := near_part h1 h2 hp hq (k + 3) st
  simp [runF, f_error_at, slots, rdRaw, rdVar, fin, e1, e2, e3]
theorem v_is_nearest (k : Nat) (n : Int) (p q : Rat) (st : Store) (h1 : 2 ≤ n) (h2 : n ≤ 1000) (hp : Tm p) (hq : Tm q) : fns T (k + 7) i_is_nearest [I 1, I n, P p, P q, P (near n p q)] st = some (.d (.bool true), st) := by
  rw [s_is_nearest]
  have e1 := v_need_found (k + 2) 1 n p q st (by omega) (by omega) (by omega) h2 hp hq
  have e2 := v_error_of (k + 1) n p q st h1 h2 hp hq
  have e3 := near_part h1 h2 hp hq (k + 3) st
  have e4 := v_settled k n p q st h1 h2 hp hq
  simp [runF, f_is_nearest, slots, rdRaw, rdVar, fin, e1, e2, e3, e4]
theorem v_place (k : Nat) (n : Int) (q : Rat) (st : Store) (h1 : 2 ≤ n) (h2 : n ≤ 1000) (h : Tm q) : fns T (k + 5) i__law_place [I n, P q] st = some (P (fr (q * (n : Rat))), st) := by
  rw [s__law_place]
  have e1 := v_ratio (k + 1) n 1 st (by omega) (by omega) (by omega)
  have en : Rat.divInt n 1 = (n : Rat) := by
    rw [Rat.divInt_eq_div, Rat.intCast_one]
    grind
  rw [en] at e1
  have bn : Bd (n : Rat) 1000 1 := (Bd.int n).mono (by omega) (Nat.le_refl _)
  have e2 := v_product_of k (n : Rat) q st (bn.mono (by decide) (by decide)) (h.bd.mono (by decide) (by decide))
  have b2 := bn.mul h.bd
  have e3 := v_rest_part k ((n : Rat) * q) st (b2.mono (by decide) (by decide))
  rw [Rat.mul_comm] at e2 e3
  simp [runF, f__law_place, slots, rdRaw, rdVar, fin, e1, e2, e3, sizeLine]
theorem v_law_apart (k : Nat) (p : Rat) (st : Store) (h0 : 0 ≤ p) (h1 : p < 1) (hb : Bd p (10 ^ 6) (10 ^ 6)) : fns T (k + 5) i__law_apart [P p, .d (pr 0)] st = some (P (if p ≤ 1 - p then p else 1 - p), st) := by
  rw [s__law_apart]
  have b0 : Bd (0 : Rat) (10 ^ 60) (10 ^ 60) := ⟨by decide, by decide⟩
  have b1 : Bd (1 : Rat) 1 1 := ⟨by decide, by decide⟩
  have e0 : (.tuple [.int (-(0 : Rat).num), .int (0 : Rat).den] : PyData) = pr 0 := rfl
  have e1 := v_sum_of k p 0 st (hb.mono (by decide) (by decide)) b0
  rw [Rat.add_zero] at e1
  have e2 := v_rest_part k p st (hb.mono (by decide) (by decide))
  rw [fr_of h0 h1] at e2
  have e3 : (.tuple [.int 1, .int 1] : PyData) = pr 1 := rfl
  have e4 : (.tuple [.int (-p.num), .int p.den] : PyData) = pr (-p) := rfl
  have e5 := v_sum_of k 1 (-p) st (b1.mono (by decide) (by decide)) (hb.neg.mono (by decide) (by decide))
  have e6 : 1 + -p = 1 - p := by grind
  have bb := b1.add hb.neg
  rw [e6] at e5 bb
  have e7 := v_order_of k p (1 - p) st (hb.mono (by decide) (by decide)) (bb.mono (by decide) (by decide))
  have e8 : decide (sg p (1 - p) < 1) = decide (p ≤ 1 - p) := by
    unfold sg
    by_cases c : 1 - p < p
    · rw [if_pos c, decide_eq_false (by omega), decide_eq_false (Rat.not_le.mpr c)]
    · rw [if_neg c, decide_eq_true (Rat.not_lt.mp c)]
      split <;> decide
  have e9 : (pr 0) = (.tuple [.int 0, .int 1] : PyData) := rfl
  by_cases c : p ≤ 1 - p
  · rw [if_pos c]
    rw [decide_eq_true c] at e8
    simp only [runF, f__law_apart, slots, List.length, List.map, List.replicate, List.append, runSs, runS, runE, runEs, rdRaw, rdVar, andW_s, andD_s]
    simp only [List.getElem?_cons_zero, List.getElem?_cons_succ, andW_s, andD_s, ixW_d, ixpr_0, ixpr_1, neg_i, okD_s, mkTup, allD_d, allD_nil, Option.map, List.length, sizeLine, e0, e1, e2, List.set_cons_zero, List.set_cons_succ, List.cons_append, List.nil_append, rdVar, rdRaw]
    simp [e0, e1, e2, e3, e4, e5, e7, e8, rdVar, rdRaw, fin]
  · rw [if_neg c]
    rw [decide_eq_false c] at e8
    simp only [runF, f__law_apart, slots, List.length, List.map, List.replicate, List.append, runSs, runS, runE, runEs, rdRaw, rdVar, andW_s, andD_s]
    simp only [List.getElem?_cons_zero, List.getElem?_cons_succ, andW_s, andD_s, ixW_d, ixpr_0, ixpr_1, neg_i, okD_s, mkTup, allD_d, allD_nil, Option.map, List.length, sizeLine, e0, e1, e2, List.set_cons_zero, List.set_cons_succ, List.cons_append, List.nil_append, rdVar, rdRaw]
    simp [e0, e1, e2, e3, e4, e5, e7, e8, rdVar, rdRaw, fin]
end WM.K94
namespace WM.K94
open PySem PySem.Spec PyProof.Rows L2 RT
section
variable {n : Int} {q : Rat}
theorem csq (n : Int) : ((n * n - 1 : Int) : Rat) = (n : Rat) * (n : Rat) - 1 := by
  rw [Rat.intCast_sub, Rat.intCast_mul, Rat.intCast_one]
theorem way_F : way n (fr (q * (n : Rat))) q = wy (q * ((n * n - 1 : Int) : Rat)) := by
  obtain ⟨i, hi⟩ := fr_ex (q * (n : Rat))
  unfold way
  refine wy_congr (n := i * n) ?_
  rw [hi, csq, Rat.intCast_mul]
  grind
theorem way_q : way n q q = wy (q * ((n - 1 : Int) : Rat)) := by
  unfold way
  congr 1
  rw [Rat.intCast_sub, Rat.intCast_one]
  grind
theorem ab_wr (h1 : 2 ≤ n) (p q : Rat) : ab (wr n p q) = ab (way n p q) * Rat.divInt 1 (n + 1) := by
  have c := ncast h1
  have hpos : (0 : Rat) < (n : Rat) + 1 := by grind
  have e : Rat.divInt 1 (n + 1) = 1 / ((n : Rat) + 1) := by
    rw [Rat.divInt_eq_div, Rat.intCast_add, Rat.intCast_one]
  rw [e]
  unfold wr
  generalize way n p q = w
  have key : w / ((n : Rat) + 1) < 0 ↔ w < 0 := by
    have : w / ((n : Rat) + 1) < 0 ↔ w < 0 * ((n : Rat) + 1) := Rat.div_lt_iff hpos
    rwa [Rat.zero_mul] at this
  have key2 : -w / ((n : Rat) + 1) < 0 ↔ -w < 0 := by
    have : -w / ((n : Rat) + 1) < 0 ↔ -w < 0 * ((n : Rat) + 1) := Rat.div_lt_iff hpos
    rwa [Rat.zero_mul] at this
  unfold ab
  by_cases c1 : -w < 0
  · rw [if_pos (key2.mpr c1), if_neg (by grind)]
    grind
  · by_cases c2 : w < 0
    · rw [if_neg (fun z => c1 (key2.mp z)), if_pos c2]
      grind
    · have : w = 0 := by grind
      subst this
      rw [if_neg (fun z => c1 (key2.mp z)), if_neg c2]
      grind
theorem wr_zero (h1 : 2 ≤ n) (p q : Rat) : wr n p q = 0 ↔ way n p q = 0 := by
  have c := ncast h1
  unfold wr
  constructor <;> intro h <;> grind
theorem least_zero (h1 : 2 ≤ n) : (ab (wr n (fr (q * (n : Rat))) q) = 0) ↔ sw (n * n - 1) q = true := by
  rw [ab_zero, wr_zero h1, way_F, wy_zero]
  unfold sw
  rw [decide_eq_true_iff]
theorem least_zero_q (h1 : 2 ≤ n) : (ab (wr n q q) = 0) ↔ sw (n - 1) q = true := by
  rw [ab_zero, wr_zero h1, way_q, wy_zero]
  unfold sw
  rw [decide_eq_true_iff]
theorem near_sw (h1 : 2 ≤ n) (s : sw (n * n - 1) q = true) : near n (fr (q * (n : Rat))) q = fr (q * (n : Rat)) := by
  have : wr n (fr (q * (n : Rat))) q = 0 := ab_zero.mp ((least_zero h1).mpr s)
  unfold near
  rw [this, Rat.add_zero]
  exact fr_of (fr_nn _) (fr_lt _)
theorem place_sw (h : Tm q) (s : sw (n * n - 1) q = true) : fr (fr (q * (n : Rat)) * (n : Rat)) = q := by
  obtain ⟨i, hi⟩ := fr_ex (q * (n : Rat))
  obtain ⟨m, hm⟩ := fr_zero (of_decide_eq_true s)
  rw [csq] at hm
  have e : fr (q * (n : Rat)) * (n : Rat) = q + ((m + i * n : Int) : Rat) := by
    rw [hi, Rat.intCast_add, Rat.intCast_mul]
    grind
  rw [fr_congr e]
  exact fr_of h.lo h.hi
theorem sw_F (s : sw (n * n - 1) q = true) : sw (n * n - 1) (fr (q * (n : Rat))) = true := by
  obtain ⟨i, hi⟩ := fr_ex (q * (n : Rat))
  obtain ⟨m, hm⟩ := fr_zero (of_decide_eq_true s)
  unfold sw
  refine decide_eq_true ?_
  have e : fr (q * (n : Rat)) * ((n * n - 1 : Int) : Rat) = ((m * n + i * (n * n - 1) : Int) : Rat) := by
    rw [hi, Rat.intCast_add, Rat.intCast_mul, Rat.intCast_mul, ← hm]
    grind
  rw [e, fr_int]
theorem alike_iff (h : Tm q) : sw (n - 1) q = decide (fr (q * (n : Rat)) = q) := by
  unfold sw
  by_cases c : fr (q * (n : Rat)) = q
  · rw [decide_eq_true c]
    refine decide_eq_true ?_
    obtain ⟨i, hi⟩ := fr_ex (q * (n : Rat))
    have e : q * ((n - 1 : Int) : Rat) = ((-i : Int) : Rat) := by
      rw [Rat.intCast_sub, Rat.intCast_one, Rat.intCast_neg]
      grind
    rw [e, fr_int]
  · rw [decide_eq_false c]
    refine decide_eq_false fun z => c ?_
    obtain ⟨m, hm⟩ := fr_zero z
    rw [Rat.intCast_sub, Rat.intCast_one] at hm
    have e : q * (n : Rat) = q + (m : Rat) := by grind
    rw [fr_congr e]
    exact fr_of h.lo h.hi
theorem sw_of_alike (s : sw (n - 1) q = true) : sw (n * n - 1) q = true := by
  obtain ⟨m, hm⟩ := fr_zero (of_decide_eq_true s)
  unfold sw
  refine decide_eq_true ?_
  rw [Rat.intCast_sub, Rat.intCast_one] at hm
  have e : q * ((n * n - 1 : Int) : Rat) = ((m * (n + 1) : Int) : Rat) := by
    rw [csq, Rat.intCast_mul, Rat.intCast_add, Rat.intCast_one]
    grind
  rw [e, fr_int]
theorem nx_ge : (n * n - 1) * q.num ≤ nx n q * q.den := by
  unfold nx
  have hp := den_pos' q
  have := Int.ediv_mul_le (-(n * n - 1) * q.num) (show (q.den : Int) ≠ 0 by omega)
  generalize (-(n * n - 1) * q.num) / (q.den : Int) = z at *
  have e : -(n * n - 1) * q.num = -((n * n - 1) * q.num) := by grind
  rw [e] at this
  have e2 : -z * (q.den : Int) = -(z * q.den) := by grind
  omega
theorem nx_sw (s : sw (n * n - 1) q = true) : nx n q * q.den = (n * n - 1) * q.num := by
  rw [← sw_eq'] at s
  have s := of_decide_eq_true s
  unfold nx
  have e : -(n * n - 1) * q.num = -((n * n - 1) * q.num) := by grind
  rw [e]
  obtain ⟨z, hz⟩ := Int.dvd_of_emod_eq_zero s
  rw [hz]
  have hp := den_pos' q
  have : -((q.den : Int) * z) = (q.den : Int) * (-z) := by grind
  rw [this, Int.mul_ediv_cancel_left _ (by omega)]
  grind
theorem nx_eq (h1 : 2 ≤ n) (h2 : n ≤ 1000) : Rat.divInt (nx n q) (n * n - 1) = q ↔ nx n q * q.den = (n * n - 1) * q.num := by
  have b := sq_bd h1 h2
  have hp := den_pos' q
  have a := den_ne q
  have a2 := cast_ne (b := n * n - 1) (by omega)
  have e := eq_div q
  rw [Rat.divInt_eq_div]
  constructor
  · intro h
    refine Rat.intCast_inj.mp ?_
    rw [Rat.intCast_mul, Rat.intCast_mul]
    grind
  · intro h
    have h := congrArg (fun z : Int => (z : Rat)) h
    simp only [Rat.intCast_mul] at h
    grind
theorem nx_le (h1 : 2 ≤ n) (h2 : n ≤ 1000) : q ≤ Rat.divInt (nx n q) (n * n - 1) := by
  have b := sq_bd h1 h2
  have h := nx_ge (n := n) (q := q)
  have h := Rat.intCast_le_intCast.mpr h
  rw [Rat.intCast_mul, Rat.intCast_mul] at h
  rw [Rat.divInt_eq_div]
  have cp : (0 : Rat) < ((n * n - 1 : Int) : Rat) := by
    have := Rat.intCast_lt_intCast.mpr (show (0 : Int) < n * n - 1 by omega)
    rwa [Rat.intCast_zero] at this
  have dp : (0 : Rat) < ((q.den : Int) : Rat) := by
    have := Rat.intCast_lt_intCast.mpr (den_pos' q)
    rwa [Rat.intCast_zero] at this
  refine Rat.not_lt.mp fun z => ?_
  have z := (Rat.div_lt_iff cp).mp z
  have e := eq_div q
  have z2 := (Rat.mul_lt_mul_right dp).mpr z
  have e2 : q * ((n * n - 1 : Int) : Rat) * ((q.den : Int) : Rat) = ((n * n - 1 : Int) : Rat) * (q.num : Rat) := by
    have a := den_ne q
    grind
  rw [e2] at z2
  exact absurd z2 (Rat.not_lt.mpr h)
theorem nx_lt (h : Tm q) (h1 : 2 ≤ n) (h2 : n ≤ 1000) (s : sw (n * n - 1) q = true) : nx n q < n * n - 1 := by
  have b := sq_bd h1 h2
  have e := nx_sw s
  have hn := h.num
  have hp := den_pos' q
  refine Int.not_le.mp fun z => ?_
  have a1 : (n * n - 1) * q.den ≤ nx n q * q.den := Int.mul_le_mul_of_nonneg_right z (by omega)
  have a2 : (n * n - 1) * q.num < (n * n - 1) * q.den := Int.mul_lt_mul_of_pos_left hn.2 (by omega)
  omega
theorem later_eq (h : Tm q) (h1 : 2 ≤ n) (h2 : n ≤ 1000) : cmpD .Eq (later n q) (pr q) = some (sw (n * n - 1) q) := by
  unfold later
  by_cases c : nx n q < n * n - 1
  · rw [if_pos c, eq_pr]
    congr 1
    cases s : sw (n * n - 1) q with
    | true => exact decide_eq_true ((nx_eq h1 h2).mpr (nx_sw s))
    | false =>
      refine decide_eq_false fun z => ?_
      have z := (nx_eq h1 h2).mp z
      have : sw (n * n - 1) q = true := by
        rw [← sw_eq']
        refine decide_eq_true ?_
        rw [← z]
        exact Int.mul_emod_left _ _
      rw [this] at s
      cases s
  · rw [if_neg c]
    have : sw (n * n - 1) q = false := by
      cases s : sw (n * n - 1) q with
      | true => exact absurd (nx_lt h h1 h2 s) c
      | false => rfl
    rw [this, eq_d (by simp) (by simp)]
    rfl
end
end WM.K94
namespace WM.K94
open PySem PySem.Spec PyProof.Rows L2 RT
theorem bool_dec (a b : Bool) (p : Prop) [Decidable p] (h : p ↔ b = true) : decide p = b := by
  cases b with
  | true => exact decide_eq_true (h.mpr rfl)
  | false => exact decide_eq_false (fun z => by have := h.mp z; cases this)
theorem v_time_right (k : Nat) (n : Int) (q : Rat) (st : Store) (h1 : 2 ≤ n) (h2 : n ≤ 1000) (h : Tm q) : fns T (k + 8) i__law_time_right [I n, P q] st = some (.d (.bool true), st) := by
  rw [s__law_time_right]
  have b := sq_bd h1 h2
  have hb := h.bd
  have hF : Tm (fr (q * (n : Rat))) := Tm.fr (hb.muli (n := n) (M := 1000) (by omega)).d
  have e1 := v_place (k + 2) n q st h1 h2 h
  have e2 := v_partner_of (k + 1) n q st h1 h2 h
  have e3 := v_least_error k n _ q st h1 h2 hF h
  have m1 : binD .Mult (.int n) (.int n) = some (.int (n * n)) := mul_i (mulOk_l (by omega))
  have m2 : binD .Mult (.int q.num) (.int (n * n - 1)) = some (.int (q.num * (n * n - 1))) := mul_i (mulOk_r (by omega))
  have m3 : binD .Mod (.int (q.num * (n * n - 1))) (.int q.den) = some (.int ((q.num * (n * n - 1)) % q.den)) := mod_i (den_pos' q)
  have sS := sw_eq (n * n - 1) q
  have e4 := v_ratio (k + 4) (n * n - 1) 1 st (by omega) (by omega) (by omega)
  have en : Rat.divInt (n * n - 1) 1 = ((n * n - 1 : Int) : Rat) := by
    rw [Rat.divInt_eq_div, Rat.intCast_one]
    grind
  rw [en] at e4
  have bc : Bd ((n * n - 1 : Int) : Rat) (10 ^ 6) 1 := (Bd.int _).mono (by omega) (Nat.le_refl _)
  have e5 := v_product_of (k + 3) _ q st (bc.mono (by decide) (by decide)) (hb.mono (by decide) (by decide))
  have b5 := bc.mul hb
  have e6 := v_rest_part (k + 3) _ st (b5.mono (by decide) (by decide))
  rw [Rat.mul_comm] at e5 e6 b5
  have b6 := b5.fr
  have e7 := v_law_apart (k + 2) (fr (q * ((n * n - 1 : Int) : Rat))) st (fr_nn _) (fr_lt _) (b6.mono (by decide) (by decide))
  rw [← ab_wy, ← way_F] at e7
  have bw := (way_bd h1 h2 hF h).ab
  have e8 := v_ratio (k + 4) 1 (n + 1) st (by omega) (by omega) (by omega)
  have b8 : Bd (Rat.divInt 1 (n + 1)) 1 1001 := Bd.of_divInt (by omega) (by omega) (by omega)
  have e9 := v_product_of (k + 3) _ _ st (bw.mono (by decide) (by decide)) (b8.mono (by decide) (by decide))
  rw [← ab_wr h1] at e9
  have ez : (.tuple [.int 0, .int 1] : PyData) = pr 0 := rfl
  have ea := v_nearest_time k n _ q st h1 h2 hF h
  have eb := v_is_nearest k n _ q st h1 h2 hF h
  have ec := v_error_at k n _ q st h1 h2 hF h
  have ed := v_are_alike (k + 1) n q st h1 h2 h
  have ee := v_least_error k n q q st h1 h2 h h
  have ef := v_next_swap (k + 1) n q st h1 h2 h
  have eg := v_place (k + 2) n (fr (q * (n : Rat))) st h1 h2 hF
  have eh := v_partner_of (k + 1) n (fr (q * (n : Rat))) st h1 h2 hF
  have d1 : decide (ab (wr n (fr (q * (n : Rat))) q) = 0) = sw (n * n - 1) q := bool_dec true _ _ (least_zero h1)
  have d2 : decide (ab (wr n q q) = 0) = sw (n - 1) q := bool_dec true _ _ (least_zero_q h1)
  have d3 := (alike_iff (n := n) h).symm
  have dl := later_eq h h1 h2
  have dn : cmpD .IsNot (partner n q) .none = some (sw (n * n - 1) q) := by
    unfold partner
    cases sw (n * n - 1) q <;> rfl
  -- the last line
  have last : ∃ c : Bool, cmpD .Is (later n q) .none = some c ∧ (c = false → fns T (k + 7) i_order_of [P q, .d (later n q)] st = some (I (sg q (Rat.divInt (nx n q) (n * n - 1))), st) ∧ decide (sg q (Rat.divInt (nx n q) (n * n - 1)) < 1) = true) := by
    unfold later
    by_cases c : nx n q < n * n - 1
    · rw [if_pos c]
      refine ⟨false, rfl, fun _ => ⟨?_, ?_⟩⟩
      · have c0 : 0 ≤ nx n q := by
          have a1 := nx_ge (n := n) (q := q)
          have a2 : 0 ≤ (n * n - 1) * q.num := Int.mul_nonneg (by omega) h.num.1
          refine Int.not_lt.mp fun z => ?_
          have := Int.mul_neg_of_neg_of_pos z (den_pos' q)
          omega
        have bl : Bd (Rat.divInt (nx n q) (n * n - 1)) (10 ^ 6) (10 ^ 6) := Bd.of_divInt (by omega) (by omega) (by omega)
        exact v_order_of (k + 3) q _ st (hb.mono (by decide) (by decide)) (bl.mono (by decide) (by decide))
      · have := nx_le (n := n) (q := q) h1 h2
        refine decide_eq_true ?_
        unfold sg
        rw [if_neg (Rat.not_lt.mpr this)]
        split <;> decide
    · rw [if_neg c]
      exact ⟨true, rfl, fun z => by cases z⟩
  obtain ⟨lc, l1, l2⟩ := last
  have n1 := near_sw (n := n) (q := q) h1
  have n2 := place_sw (n := n) h
  have n3 := sw_F (n := n) (q := q)
  have n4 := sw_of_alike (n := n) (q := q)
  generalize ab (wr n (fr (q * (n : Rat))) q) = L at *
  generalize ab (way n (fr (q * (n : Rat))) q) = Wy at *
  generalize ab (wr n q q) = L2 at *
  generalize later n q = La at *
  generalize sg q (Rat.divInt (nx n q) (n * n - 1)) = Sg at *
  generalize hz : (q.num * (n * n - 1)) % (q.den : Int) = z at *
  generalize hN : near n (fr (q * (n : Rat))) q = N at *
  generalize hG : fr (q * ((n * n - 1 : Int) : Rat)) = Gq at *
  generalize hK : q * ((n * n - 1 : Int) : Rat) = Kq at *
  generalize hC : ((n * n - 1 : Int) : Rat) = Cq at *
  generalize hR : Rat.divInt 1 (n + 1) = Rq at *
  generalize hFq : fr (q * (n : Rat)) = Fq at *
  have step : ∀ (cS cA : Bool), sw (n * n - 1) q = cS → sw (n - 1) q = cA → runF (fns T (k + 7)) f__law_time_right [I n, P q] st = some (.d (.bool true), st) := by
    intro cS cA hS hA
    rw [hS] at sS d1 dn dl
    rw [hA] at ed d2 d3
    have pS : partner n q = if cS = true then pr Fq else .none := by
      unfold partner
      rw [hS, hFq]
    rw [pS] at e2 dn
    have pF : cS = true → partner n Fq = pr q := fun c => by
      unfold partner
      rw [n3 (hS.trans c), if_pos rfl, n2 (hS.trans c)]
    cases cS with
    | true =>
      have n1 := n1 hS
      have n2 := n2 hS
      subst n1
      have pF := pF rfl
      rw [pF] at eh
      rw [n2] at eg
      rw [if_pos rfl] at e2 dn
      cases cA with
      | true =>
        cases lc with
        | true => simp [runF, f__law_time_right, slots, rdRaw, rdVar, fin, sizeLine, bltW, m1, m2, m3, hz, e1, e2, e3, e4, e5, e6, e7, e8, e9, ez, ea, eb, ec, ed, ee, ef, eg, eh, sS, d1, d2, d3, dl, dn, l1, n2]
        | false =>
          obtain ⟨l2, l3⟩ := l2 rfl
          simp [runF, f__law_time_right, slots, rdRaw, rdVar, fin, sizeLine, bltW, m1, m2, m3, hz, e1, e2, e3, e4, e5, e6, e7, e8, e9, ez, ea, eb, ec, ed, ee, ef, eg, eh, sS, d1, d2, d3, dl, dn, l1, l2, l3, n2]
      | false =>
        cases lc with
        | true => simp [runF, f__law_time_right, slots, rdRaw, rdVar, fin, sizeLine, bltW, m1, m2, m3, hz, e1, e2, e3, e4, e5, e6, e7, e8, e9, ez, ea, eb, ec, ed, ee, ef, eg, eh, sS, d1, d2, d3, dl, dn, l1, n2]
        | false =>
          obtain ⟨l2, l3⟩ := l2 rfl
          simp [runF, f__law_time_right, slots, rdRaw, rdVar, fin, sizeLine, bltW, m1, m2, m3, hz, e1, e2, e3, e4, e5, e6, e7, e8, e9, ez, ea, eb, ec, ed, ee, ef, eg, eh, sS, d1, d2, d3, dl, dn, l1, l2, l3, n2]
    | false =>
      have hA0 : cA = false := by
        cases cA with
        | true => exact absurd (n4 hA) (by rw [hS]; decide)
        | false => rfl
      subst hA0
      rw [if_neg (by decide)] at e2 dn
      cases lc with
      | true => simp [runF, f__law_time_right, slots, rdRaw, rdVar, fin, sizeLine, bltW, m1, m2, m3, hz, e1, e2, e3, e4, e5, e6, e7, e8, e9, ez, ea, eb, ec, ed, ee, ef, eg, eh, sS, d1, d2, d3, dl, dn, l1]
      | false =>
        obtain ⟨l2, l3⟩ := l2 rfl
        simp [runF, f__law_time_right, slots, rdRaw, rdVar, fin, sizeLine, bltW, m1, m2, m3, hz, e1, e2, e3, e4, e5, e6, e7, e8, e9, ez, ea, eb, ec, ed, ee, ef, eg, eh, sS, d1, d2, d3, dl, dn, l1, l2, l3]
  exact step _ _ rfl rfl
end WM.K94
namespace WM.K94
open PySem PySem.Spec PyProof.Rows L2 RT
def sortD : D → Int
  | .none => 0
  | .bool _ => 1
  | .int _ => 2
  | .str _ => 3
  | .tuple _ => 4
  | .list _ => 5
  | .dict _ => 6
/-- data without dicts or texts, at most so deep -/
def Lk : Nat → D → Prop
  | _, .none => True
  | _, .bool _ => True
  | _, .int _ => True
  | n + 1, .tuple xs => ∀ x ∈ xs, Lk n x
  | n + 1, .list xs => ∀ x ∈ xs, Lk n x
  | _, _ => False
theorem Lk.sort {n : Nat} {x : D} (h : Lk n x) : (∃ xs, x = .tuple xs) ∨ (∃ xs, x = .list xs) ∨ x = .none ∨ (∃ b, x = .bool b) ∨ (∃ i, x = .int i) := by
  cases x with
  | none => exact .inr (.inr (.inl rfl))
  | bool b => exact .inr (.inr (.inr (.inl ⟨b, rfl⟩)))
  | int i => exact .inr (.inr (.inr (.inr ⟨i, rfl⟩)))
  | str s => cases n <;> exact h.elim
  | tuple xs => exact .inl ⟨xs, rfl⟩
  | list xs => exact .inr (.inl ⟨xs, rfl⟩)
  | dict kvs => cases n <;> exact h.elim
theorem v_law_sort (k : Nat) {n : Nat} {x : D} (st : Store) (h : Lk n x) : fns T (k + 1) i__law_sort [.d x] st = some (I (sortD x), st) := by
  rw [s__law_sort]
  rcases h.sort with ⟨xs, rfl⟩ | ⟨xs, rfl⟩ | rfl | ⟨b, rfl⟩ | ⟨i, rfl⟩
  · simp [runF, f__law_sort, slots, rdRaw, rdVar, fin, isiD, sortD]
  · have : cmpD .Is (.list xs) .none = some false := rfl
    simp [runF, f__law_sort, slots, rdRaw, rdVar, fin, isiD, sortD, this]
  · simp [runF, f__law_sort, slots, rdRaw, rdVar, fin, isiD, sortD]
  · have : cmpD .Is (.bool b) .none = some false := rfl
    simp [runF, f__law_sort, slots, rdRaw, rdVar, fin, isiD, sortD, this]
  · simp [runF, f__law_sort, slots, rdRaw, rdVar, fin, isiD, sortD]
theorem comp_none {g : D → Option Sl} {c e : EM} {st : Store} : ∀ {ds : List D}, (∀ d ∈ ds, ∃ sl, g d = some sl ∧ c sl st = some (.d (.bool false), st)) → compL g c e ds st = some ([], st)
  | [], _ => rfl
  | d :: ds, h => by
    obtain ⟨sl, h1, h2⟩ := h d (List.mem_cons_self ..)
    unfold compL
    simp only [h1, h2, andW_s, truW_b]
    exact comp_none fun d hd => h d (List.mem_cons_of_mem _ hd)
theorem zip_self {xs : List D} : ∀ {d : D}, d ∈ zipD xs xs → ∃ x ∈ xs, d = .tuple [x, x] := by
  induction xs with
  | nil => intro d h; simp at h
  | cons x xs ih =>
    intro d h
    simp only [zipD, List.mem_cons] at h
    rcases h with rfl | h
    · exact ⟨x, List.mem_cons_self .., rfl⟩
    · obtain ⟨y, hy, e⟩ := ih h
      exact ⟨y, List.mem_cons_of_mem _ hy, e⟩
theorem in45 (i : Int) : cmpD .In (.int i) (.tuple [.int 4, .int 5]) = some (decide (4 = i) || decide (5 = i)) := by
  have : cmpD .In (.int i) (.tuple [.int 4, .int 5]) = (if shp (.int i) && shp (.tuple [.int 4, .int 5]) then some ([PyData.int 4, PyData.int 5].any fun z => PyData.eqv z (.int i)) else none) := rfl
  rw [this, shp_int, shp_i2]
  simp
theorem eqnil : cmpD .Eq (.list []) (.list []) = some true := by
  have : shp (.list []) = true := by simp [shp, SeqAt.shaped, PyData.canLay0, PyData.canLayAll0, PyData.depth, PyData.depthAll]
  rw [eq_d this this]
  rfl
def lkC : E := .comp (.t (.cons (.v 3) (.cons (.v 4) .nil))) (.zip (.var 0) (.var 1)) (.some (.not (.call i__law_like (.cons (.raw 3) (.cons (.raw 4) .nil))))) [3, 4] (.lit (.int 1))
theorem lk_body : f__law_like.body = (.cons (.set 2 (.call i__law_sort (.cons (.raw 1) .nil))) (.cons (.ite (.or (.cmp .NotEq (.call i__law_sort (.cons (.raw 0) .nil)) (.var 2)) (.cmp .Eq (.var 2) (.lit (.int 6)))) (.cons (.ret (.lit (.bool false))) .nil) .nil) (.cons (.ite (.cmp .In (.var 2) (.tup (.cons (.lit (.int 4)) (.cons (.lit (.int 5)) .nil)))) (.cons (.ret (.and (.cmp .Eq (.blt .len (.cons (.raw 0) .nil)) (.blt .len (.cons (.raw 1) .nil))) (.cmp .Eq lkC (.lst .nil)))) .nil) .nil) (.cons (.ret (.cmp .Eq (.var 0) (.var 1))) .nil)))) := rfl
theorem lk_comp (Φ : Fn) (x : D) (xs : List D) (i : Int) (st : Store) (hx : x = .tuple xs ∨ x = .list xs) (ih : ∀ y ∈ xs, Φ i__law_like [.d y, .d y] st = some (.d (.bool true), st)) :
    runE Φ lkC [some (.d x), some (.d x), some (I i), none, none] st = some (.d (.list []), st) := by
  have hc : compL (fun d => stTg (.t (.cons (.v 3) (.cons (.v 4) .nil))) d (wipeS [some (.d x), some (.d x), some (I i), none, none] [3, 4])) (fun sl1 st2 => runC Φ (.some (.not (.call i__law_like (.cons (.raw 3) (.cons (.raw 4) .nil))))) sl1 st2) (fun sl1 st2 => runE Φ (.lit (.int 1)) sl1 st2) (zipD xs xs) st = some ([], st) := comp_none fun d hd => by
    obtain ⟨y, hy, rfl⟩ := zip_self hd
    refine ⟨[some (.d x), some (.d x), some (I i), some (.d y), some (.d y)], rfl, ?_⟩
    simp [rdRaw, ih y hy]
  have hi : runI Φ (.zip (.var 0) (.var 1)) [some (.d x), some (.d x), some (I i), none, none] st = some (zipD xs xs, st) := by
    rcases hx with rfl | rfl <;> simp [rdVar]
  unfold lkC
  rw [runE, hi]
  simp only [hc]
  rfl
theorem v_law_like : ∀ (n k : Nat) (x : D) (st : Store), Lk n x → fns T (k + n + 2) i__law_like [.d x, .d x] st = some (.d (.bool true), st)
  | n, k, x, st, h => by
    rw [s__law_like]
    have es := v_law_sort (k + n) st h
    have e7 : f__law_like.n = 5 := rfl
    have e8 : f__law_like.ps = 2 := rfl
    rcases h.sort with ⟨xs, rfl⟩ | ⟨xs, rfl⟩ | rfl | ⟨b, rfl⟩ | ⟨i, rfl⟩
    · cases n with
      | zero => exact h.elim
      | succ n =>
        have ih : ∀ y ∈ xs, fns T (k + (n + 1) + 1) i__law_like [.d y, .d y] st = some (.d (.bool true), st) := fun y hy => v_law_like n k y st (h y hy)
        have hc := lk_comp (fns T (k + (n + 1) + 1)) _ xs 4 st (.inl rfl) ih
        simp only [sortD] at es
        unfold runF
        rw [lk_body, e7, e8]
        simp [slots, es, in45, rdVar, rdRaw, bltW, hc, eqnil, fin, sizeLine]
    · cases n with
      | zero => exact h.elim
      | succ n =>
        have ih : ∀ y ∈ xs, fns T (k + (n + 1) + 1) i__law_like [.d y, .d y] st = some (.d (.bool true), st) := fun y hy => v_law_like n k y st (h y hy)
        have hc := lk_comp (fns T (k + (n + 1) + 1)) _ xs 5 st (.inr rfl) ih
        simp only [sortD] at es
        unfold runF
        rw [lk_body, e7, e8]
        simp [slots, es, in45, rdVar, rdRaw, bltW, hc, eqnil, fin, sizeLine]
    · have b : cmpD .Eq (.none : D) .none = some true := by
        rw [eq_d (by simp) (by simp)]
        rfl
      simp only [sortD] at es
      unfold runF
      rw [lk_body, e7, e8]
      simp [slots, rdRaw, rdVar, fin, es, in45, b, sizeLine]
    · simp only [sortD] at es
      unfold runF
      rw [lk_body, e7, e8]
      simp [slots, rdRaw, rdVar, fin, es, in45, sizeLine]
    · simp only [sortD] at es
      unfold runF
      rw [lk_body, e7, e8]
      simp [slots, rdRaw, rdVar, fin, es, in45, sizeLine]
def cup (a b : Int) : Cell := .lst false [.int a, .int b]
theorem v_roll (k : Nat) (many a b : Int) (st : Store) (h : 0 < many) (h2 : many < 2 ^ 63) : ∃ r a' b', fns T (k + 1) i__law_roll [.m 0, I many] (cup a b :: st) = some (I r, cup a' b' :: st) ∧ 0 ≤ r ∧ r < many := by
  rw [s__law_roll]
  by_cases c : 0 < a
  · refine ⟨a % many, a / many, b, ?_, Int.emod_nonneg _ (by omega), Int.emod_lt_of_pos _ h⟩
    have e1 : binD .Mod (.int a) (.int many) = _ := mod_i h
    have e2 : binD .FloorDiv (.int a) (.int many) = _ := div_i h (small_big (by omega))
    simp [runF, f__law_roll, slots, rdRaw, rdVar, fin, cup, ixW, c, bltW, e1, e2, putC, L2.ixN]
  · let b1 := (b * 29917 + 9103) % 2147483543
    have hb0 : 0 ≤ b1 := Int.emod_nonneg _ (by omega)
    have hb1 : b1 < 2147483543 := Int.emod_lt_of_pos _ (by omega)
    let dp := (b1 * (b1 + 307)) % 2147483587
    refine ⟨(dp / 887) % many, a, b1, ?_, Int.emod_nonneg _ (by omega), Int.emod_lt_of_pos _ h⟩
    have e1 : binD .Mult (.int b) (.int 29917) = some (.int (b * 29917)) := mul_i (mulOk_r (by decide))
    have e2 : binD .Mod (.int (b * 29917 + 9103)) (.int 2147483543) = some (.int b1) := mod_i (by omega)
    have e3 : binD .Mult (.int b1) (.int (b1 + 307)) = some (.int (b1 * (b1 + 307))) := mul_i (mulOk_l (by omega))
    have e4 : binD .Mod (.int (b1 * (b1 + 307))) (.int 2147483587) = some (.int dp) := mod_i (by omega)
    have e5 : binD .FloorDiv (.int dp) (.int 887) = some (.int (dp / 887)) := div_i (by omega) (small_big (by decide))
    have e6 : binD .Mod (.int (dp / 887)) (.int many) = some (.int (dp / 887 % many)) := mod_i h
    have c' : ¬ (0 < a) := c
    simp [runF, f__law_roll, slots, rdRaw, rdVar, fin, cup, ixW, c', bltW, e1, e2, e3, e4, e5, e6, putC, L2.ixN]
theorem v_some2 (k : Nat) (x y a b : Int) (st : Store) : ∃ a' b' z, fns T (k + 2) i__law_some [.m 0, .d (.list [.int x, .int y])] (cup a b :: st) = some (I z, cup a' b' :: st) ∧ (z = x ∨ z = y) := by
  rw [s__law_some]
  obtain ⟨r, a', b', e, h0, h1⟩ := v_roll k 2 a b st (by omega) (by omega)
  have hr : r = 0 ∨ r = 1 := by omega
  rcases hr with rfl | rfl
  · exact ⟨a', b', x, by simp [runF, f__law_some, slots, rdRaw, rdVar, fin, bltW, e], .inl rfl⟩
  · exact ⟨a', b', y, by simp [runF, f__law_some, slots, rdRaw, rdVar, fin, bltW, e], .inr rfl⟩
end WM.K94
namespace WM.K94
open PySem PySem.Spec PyProof.Rows L2 RT
def hd (a d : Int) : D := .tuple [.int a, .int d]
def rd (p : Prop) [Decidable p] (e r : Int) : D := if p then .tuple [.int e, .int r] else .none
theorem v_cycle_for (k : Nat) (a d m : Int) (st : Store) (a0 : 0 ≤ a) (a1 : a < 2 ^ 30) (d0 : 0 < d) (d1 : d < 2 ^ 30) (m0 : 0 ≤ m) (m1 : m < 2 ^ 30) : ∃ s t : Int, (Int.gcd a d : Int) = s * a + t * d ∧
    fns T (k + 2) i_cycle_for [.d (hd a d), I m] st = some (.d (rd (m % (Int.gcd a d : Int) = 0) (d / (Int.gcd a d : Int)) (m / (Int.gcd a d : Int) * s % (d / (Int.gcd a d : Int)))), st) := by
  obtain ⟨s, t, e1, e2⟩ := v_parts_for k a d st a0 (by omega) (by omega) (by omega)
  refine ⟨s, t, e2, ?_⟩
  rw [s_cycle_for]
  have g0 := gcd_pos (t := a) (b := d) (by omega)
  have g1 := gcd_le (t := a) (b := d) (by omega)
  generalize (Int.gcd a d : Nat) = gn at *
  generalize hg : (gn : Int) = g at *
  unfold t3 at e1
  have hdg : 0 < d / g := by
    have := Int.le_ediv_of_mul_le g0 (show 1 * g ≤ d by omega)
    omega
  have f1 : binD .Mod (.int m) (.int g) = some (.int (m % g)) := mod_i g0
  have f2 : binD .FloorDiv (.int d) (.int g) = some (.int (d / g)) := div_i g0 (small_big (by omega))
  have f3 : binD .FloorDiv (.int m) (.int g) = some (.int (m / g)) := div_i g0 (small_big (by omega))
  have h1 : 0 ≤ m / g := Int.ediv_nonneg m0 (by omega)
  have h2 : m / g ≤ m := Int.ediv_le_self _ m0
  have f4 : binD .Mult (.int (m / g)) (.int s) = some (.int (m / g * s)) := mul_i (mulOk_l (by omega))
  have f5 : binD .Mod (.int (m / g * s)) (.int (d / g)) = some (.int (m / g * s % (d / g))) := mod_i hdg
  unfold rd hd
  by_cases c : m % g = 0
  · rw [if_pos c]
    simp [runF, f_cycle_for, slots, rdRaw, rdVar, fin, okN, e1, f1, f2, f3, f4, f5, c, sizeLine]
  · rw [if_neg c]
    simp [runF, f_cycle_for, slots, rdRaw, rdVar, fin, okN, e1, f1, f2, f3, f4, f5, c, sizeLine]
theorem v_met (k : Nat) (e1 r1 e2 r2 : Int) (st : Store) (a0 : 0 < e1) (a1 : e1 < 2 ^ 30) (d0 : 0 < e2) (d1 : e2 < 2 ^ 30) (m0 : 0 ≤ r1) (m1 : r1 < 2 ^ 30) (n0 : 0 ≤ r2) (n1 : r2 < 2 ^ 30) : ∃ s t : Int, (Int.gcd e1 e2 : Int) = s * e1 + t * e2 ∧
    fns T (k + 2) i_met [.d (hd e1 r1), .d (hd e2 r2)] st = some (.d (rd ((r2 - r1) % (Int.gcd e1 e2 : Int) = 0) (e1 / (Int.gcd e1 e2 : Int) * e2) ((r1 + (r2 - r1) / (Int.gcd e1 e2 : Int) * s * e1) % (e1 / (Int.gcd e1 e2 : Int) * e2))), st) := by
  obtain ⟨s, t, p1, p2⟩ := v_parts_for k e1 e2 st (by omega) (by omega) (by omega) (by omega)
  refine ⟨s, t, p2, ?_⟩
  rw [s_met]
  have g0 := gcd_pos (t := e1) (b := e2) (by omega)
  have g1 := gcd_le (t := e1) (b := e2) (by omega)
  have g2 : Int.gcd e1 e2 ≤ e1.natAbs := by
    rw [Int.gcd_comm]
    exact gcd_le (by omega)
  generalize (Int.gcd e1 e2 : Nat) = gn at *
  generalize hg : (gn : Int) = g at *
  unfold t3 at p1
  have hdg : 0 < e1 / g := by
    have := Int.le_ediv_of_mul_le g0 (show 1 * g ≤ e1 by omega)
    omega
  have hde : e1 / g ≤ e1 := Int.ediv_le_self _ (by omega)
  have hev : 0 < e1 / g * e2 := Int.mul_pos hdg d0
  have f1 : binD .Mod (.int (r2 - r1)) (.int g) = some (.int ((r2 - r1) % g)) := mod_i g0
  have f2 : binD .FloorDiv (.int e1) (.int g) = some (.int (e1 / g)) := div_i g0 (small_big (by omega))
  have f3 : binD .FloorDiv (.int (r2 - r1)) (.int g) = some (.int ((r2 - r1) / g)) := div_i g0 (small_big (by omega))
  have f4 : binD .Mult (.int (e1 / g)) (.int e2) = some (.int (e1 / g * e2)) := mul_i (mulOk_r (by omega))
  have q1 : ((r2 - r1) / g).natAbs < 2 ^ 64 := by
    have := Int.natAbs_ediv_le_natAbs (r2 - r1) g
    omega
  have f5 : binD .Mult (.int ((r2 - r1) / g)) (.int s) = some (.int ((r2 - r1) / g * s)) := mul_i (mulOk_l q1)
  have f6 : binD .Mult (.int ((r2 - r1) / g * s)) (.int e1) = some (.int ((r2 - r1) / g * s * e1)) := mul_i (mulOk_r (by omega))
  have f7 : binD .Mod (.int (r1 + (r2 - r1) / g * s * e1)) (.int (e1 / g * e2)) = some (.int ((r1 + (r2 - r1) / g * s * e1) % (e1 / g * e2))) := mod_i hev
  unfold rd hd
  generalize hz : (r2 - r1) % g = z at *
  by_cases c : z = 0
  · rw [if_pos c]
    simp [runF, f_met, slots, rdRaw, rdVar, fin, okN, p1, f1, f2, f3, f4, f5, f6, f7, c, sizeLine]
  · rw [if_neg c]
    simp [runF, f_met, slots, rdRaw, rdVar, fin, okN, p1, f1, f2, f3, f4, f5, f6, f7, c, sizeLine]
theorem one_mul_mod {d m s t : Int} (m0 : 0 ≤ m) (m1 : m < d) (h : 1 = s * 1 + t * d) : m * s % d = m := by
  have e : m * s = m + d * (-(m * t)) := by
    have : s = 1 - t * d := by omega
    rw [this]
    grind
  rw [e, Int.add_mul_emod_self_left, Int.emod_eq_of_lt m0 m1]
theorem two_iff {a d m1 m2 s t : Int} (d0 : 0 < d) (h : (Int.gcd a d : Int) = s * a + t * d) :
    (m2 % (Int.gcd a d : Int) = 0 ∧ (m2 / (Int.gcd a d : Int) * s % (d / (Int.gcd a d : Int)) - m1) % (d / (Int.gcd a d : Int)) = 0) ↔ (a * m1 - m2) % d = 0 := by
  have g0 := gcd_pos (t := a) (b := d) (by omega)
  obtain ⟨a', ea⟩ := Int.gcd_dvd_left a d
  obtain ⟨d', ed⟩ := Int.gcd_dvd_right a d
  generalize hg : ((Int.gcd a d : Nat) : Int) = g at *
  have hd' : d / g = d' := by
    rw [ed]
    exact Int.mul_ediv_cancel_left _ (by omega)
  rw [hd']
  have one : 1 = s * a' + t * d' := by
    have : g * 1 = g * (s * a' + t * d') := by
      rw [ea, ed] at h
      grind
    exact Int.eq_of_mul_eq_mul_left (by omega) this
  constructor
  · rintro ⟨h1, h2⟩
    obtain ⟨m', em⟩ := Int.dvd_of_emod_eq_zero h1
    have e1 : m2 / g = m' := by
      rw [em]
      exact Int.mul_ediv_cancel_left _ (by omega)
    rw [e1] at h2
    have h3 := Int.emod_add_mul_ediv (m' * s) d'
    obtain ⟨z, hz⟩ := Int.dvd_of_emod_eq_zero h2
    have e2 : a * m1 - m2 = d * (-(t * m' + a' * (z + m' * s / d'))) := by
      have e4 : m1 = m' * s - d' * (z + m' * s / d') := by grind
      rw [ea, em, ed, e4]
      have : s * a' = 1 - t * d' := by omega
      grind
    rw [e2]
    exact Int.mul_emod_right _ _
  · intro h1
    obtain ⟨w, hw⟩ := Int.dvd_of_emod_eq_zero h1
    have em : m2 = g * (a' * m1 - d' * w) := by
      rw [ea, ed] at hw
      grind
    have e1 : m2 / g = a' * m1 - d' * w := by
      rw [em]
      exact Int.mul_ediv_cancel_left _ (by omega)
    refine ⟨by rw [em]; exact Int.mul_emod_right _ _, ?_⟩
    rw [e1]
    have h3 := Int.emod_add_mul_ediv ((a' * m1 - d' * w) * s) d'
    have e5 : ((a' * m1 - d' * w) * s) % d' - m1 = d' * (-(t * m1 + w * s) - (a' * m1 - d' * w) * s / d') := by
      have : s * a' = 1 - t * d' := by omega
      grind
    rw [e5]
    exact Int.mul_emod_right _ _
/-- what the two hands' common time is -/
def com (a d m1 m2 : Int) : D := rd ((a * m1 - m2) % d = 0) d m1
structure Dial (a d m1 m2 : Int) : Prop where
  d0 : 2 ≤ d
  d1 : d ≤ 1000
  a0 : 0 ≤ a
  a1 : a < d
  m0 : 0 ≤ m1
  m1 : m1 < d
  n0 : 0 ≤ m2
  n1 : m2 < d
theorem v_first (k : Nat) (d m : Int) (st : Store) (d0 : 2 ≤ d) (d1 : d ≤ 1000) (m0 : 0 ≤ m) (m1 : m < d) : fns T (k + 2) i_cycle_for [.d (hd 1 d), I m] st = some (.d (hd d m), st) ∧ fns T (k + 2) i_met [.d (hd 1 0), .d (hd d m)] st = some (.d (hd d m), st) := by
  have g1 : ((Int.gcd 1 d : Nat) : Int) = 1 := by
    rw [Int.gcd_one_left]
    rfl
  constructor
  · obtain ⟨s, t, e1, e2⟩ := v_cycle_for k 1 d m st (by omega) (by omega) (by omega) (by omega) m0 (by omega)
    rw [g1] at e1 e2
    rw [e2]
    unfold rd hd
    rw [if_pos (Int.emod_one _), Int.ediv_one, Int.ediv_one, one_mul_mod m0 m1 e1]
  · obtain ⟨s, t, e1, e2⟩ := v_met k 1 0 d m st (by omega) (by omega) (by omega) (by omega) (by omega) (by omega) m0 (by omega)
    rw [g1] at e1 e2
    rw [e2]
    unfold rd hd
    rw [if_pos (Int.emod_one _)]
    have e3 : (0 + (m - 0) / 1 * s * 1) = m * s := by
      rw [Int.ediv_one]
      grind
    have e4 : (1 : Int) / 1 * d = d := by
      rw [Int.ediv_one]
      grind
    rw [e3, e4, one_mul_mod m0 m1 e1]
/-- the second hand alone -/
theorem v_second (k : Nat) {a d m1 m2 : Int} (st : Store) (h : Dial a d m1 m2) : ∃ s t : Int, (Int.gcd a d : Int) = s * a + t * d ∧ fns T (k + 2) i_cycle_for [.d (hd a d), I m2] st = some (.d (rd (m2 % (Int.gcd a d : Int) = 0) (d / (Int.gcd a d : Int)) (m2 / (Int.gcd a d : Int) * s % (d / (Int.gcd a d : Int)))), st) ∧
    0 < d / (Int.gcd a d : Int) ∧ d / (Int.gcd a d : Int) ≤ d := by
  have h0 := h.d0
  have h1 := h.d1
  have h2 := h.a0
  have h3 := h.a1
  have h4 := h.n0
  have h5 := h.n1
  obtain ⟨s, t, e1, e2⟩ := v_cycle_for k a d m2 st h2 (by omega) (by omega) (by omega) h4 (by omega)
  refine ⟨s, t, e1, e2, ?_, Int.ediv_le_self _ (by omega)⟩
  have g0 := gcd_pos (t := a) (b := d) (by omega)
  have g1 := gcd_le (t := a) (b := d) (by omega)
  have := Int.le_ediv_of_mul_le g0 (show 1 * (Int.gcd a d : Int) ≤ d by omega)
  omega
/-- (1, 0) met with any cycle is that cycle -/
theorem v_met_1 (k : Nat) (e r : Int) (st : Store) (e0 : 0 < e) (e1 : e ≤ 1000) (r0 : 0 ≤ r) (r1 : r < e) : fns T (k + 2) i_met [.d (hd 1 0), .d (hd e r)] st = some (.d (hd e r), st) := by
  have g1 : ((Int.gcd 1 e : Nat) : Int) = 1 := by
    rw [Int.gcd_one_left]
    rfl
  obtain ⟨s, t, p1, p2⟩ := v_met k 1 0 e r st (by omega) (by omega) (by omega) (by omega) (by omega) (by omega) r0 (by omega)
  rw [g1] at p1 p2
  rw [p2]
  unfold rd hd
  rw [if_pos (Int.emod_one _)]
  have e3 : (0 + (r - 0) / 1 * s * 1) = r * s := by
    rw [Int.ediv_one]
    grind
  have e4 : (1 : Int) / 1 * e = e := by
    rw [Int.ediv_one]
    grind
  rw [e3, e4, one_mul_mod r0 r1 p1]
/-- both -/
theorem v_both (k : Nat) {a d m1 m2 s t : Int} (st : Store) (h : Dial a d m1 m2) (e : (Int.gcd a d : Int) = s * a + t * d) (c : m2 % (Int.gcd a d : Int) = 0) :
    fns T (k + 2) i_met [.d (hd d m1), .d (hd (d / (Int.gcd a d : Int)) (m2 / (Int.gcd a d : Int) * s % (d / (Int.gcd a d : Int))))] st = some (.d (com a d m1 m2), st) := by
  have h0 := h.d0
  have h1 := h.d1
  have q0 := h.m0
  have q1 := h.m1
  have g0 := gcd_pos (t := a) (b := d) (by omega)
  have g1 := gcd_le (t := a) (b := d) (by omega)
  have iff := two_iff (m1 := m1) (m2 := m2) (show 0 < d by omega) e
  have gd := Int.gcd_dvd_right a d
  generalize hg : ((Int.gcd a d : Nat) : Int) = g at *
  obtain ⟨d', ed⟩ := gd
  have hd' : d / g = d' := by
    rw [ed]
    exact Int.mul_ediv_cancel_left _ (by omega)
  rw [hd'] at iff ⊢
  have d'0 : 0 < d' := by
    refine Int.pos_of_mul_pos_right (a := g) (b := d') ?_ g0
    omega
  have d'1 : d' ≤ d := by
    have := Int.ediv_le_self (a := d) g (by omega)
    omega
  have r0 := Int.emod_nonneg (m2 / g * s) (show d' ≠ 0 by omega)
  have r1 := Int.emod_lt_of_pos (m2 / g * s) d'0
  obtain ⟨s3, t3', p1, p2⟩ := v_met k d m1 d' (m2 / g * s % d') st (by omega) (by omega) d'0 (by omega) q0 (by omega) r0 (by omega)
  have gg : (Int.gcd d d' : Int) = d' := by
    rw [ed, Int.gcd_mul_left_left]
    omega
  rw [p2, gg]
  unfold com rd
  have key : ((m2 / g * s % d' - m1) % d' = 0) ↔ (a * m1 - m2) % d = 0 := ⟨fun z => iff.mp ⟨c, z⟩, fun z => (iff.mpr z).2⟩
  by_cases cc : (a * m1 - m2) % d = 0
  · rw [if_pos cc, if_pos (key.mpr cc)]
    have e1 : d / d' * d' = d := Int.ediv_mul_cancel ⟨g, by rw [ed]; grind⟩
    rw [e1]
    have e2 : (m1 + (m2 / g * s % d' - m1) / d' * s3 * d) % d = m1 := by
      rw [Int.add_mul_emod_self_right, Int.emod_eq_of_lt q0 q1]
    rw [e2]
  · rw [if_neg cc, if_neg (fun z => cc (key.mp z))]
theorem com_none {a d m1 m2 s t : Int} (h : Dial a d m1 m2) (e : (Int.gcd a d : Int) = s * a + t * d) (c : ¬ m2 % (Int.gcd a d : Int) = 0) : com a d m1 m2 = .none := by
  have h0 := h.d0
  unfold com rd
  rw [if_neg fun z => c ((two_iff (show 0 < d by omega) e).mpr z).1]
end WM.K94
namespace WM.K94
open PySem PySem.Spec PyProof.Rows L2 RT
@[simp] theorem is_hd (a d : Int) : cmpD .Is (hd a d) .none = some false := rfl
@[simp] theorem isn_hd (a d : Int) : cmpD .IsNot (hd a d) .none = some true := rfl
theorem hd10 : (.tuple [.int 1, .int 0] : PyData) = hd 1 0 := rfl
theorem v_common2 (k : Nat) (mk : List D → D) (hmk : mk = .tuple ∨ mk = .list) {a d m1 m2 : Int} (st : Store) (h : Dial a d m1 m2) : fns T (k + 3) i_common_for [.d (mk [hd 1 d, hd a d]), .d (mk [.int m1, .int m2])] st = some (.d (com a d m1 m2), st) := by
  rw [s_common_for]
  obtain ⟨e1, e2⟩ := v_first k d m1 st h.d0 h.d1 h.m0 h.m1
  obtain ⟨s, t, g, e3, d0, d1⟩ := v_second k st h
  by_cases c : m2 % (Int.gcd a d : Int) = 0
  · have e4 := v_both k st h g c
    have e5 : rd (m2 % (Int.gcd a d : Int) = 0) (d / (Int.gcd a d : Int)) (m2 / (Int.gcd a d : Int) * s % (d / (Int.gcd a d : Int))) = hd (d / (Int.gcd a d : Int)) (m2 / (Int.gcd a d : Int) * s % (d / (Int.gcd a d : Int))) := if_pos c
    rw [e5] at e3
    generalize hd (d / (Int.gcd a d : Int)) (m2 / (Int.gcd a d : Int) * s % (d / (Int.gcd a d : Int))) = Z at *
    have e6 : cmpD .IsNot Z .none = some true := by rw [← e5] <;> (unfold rd; rw [if_pos c]; rfl)
    have e7 : ∃ b, cmpD .Is (com a d m1 m2) .none = some b ∧ (b = true → com a d m1 m2 = .none) := by
      unfold com rd
      split
      · exact ⟨false, rfl, fun z => by cases z⟩
      · exact ⟨true, rfl, fun _ => rfl⟩
    obtain ⟨b, e7, e8⟩ := e7
    rcases hmk with rfl | rfl
    · cases b with
      | true =>
        have e8 := e8 rfl
        rw [e8] at e4 ⊢
        simp [runF, f_common_for, slots, rdRaw, rdVar, fin, sizeLine, forL, hd10, e1, e2, e3, e4, e6]
      | false => simp [runF, f_common_for, slots, rdRaw, rdVar, fin, sizeLine, forL, hd10, e1, e2, e3, e4, e6, e7]
    · cases b with
      | true =>
        have e8 := e8 rfl
        rw [e8] at e4 ⊢
        simp [runF, f_common_for, slots, rdRaw, rdVar, fin, sizeLine, forL, hd10, e1, e2, e3, e4, e6]
      | false => simp [runF, f_common_for, slots, rdRaw, rdVar, fin, sizeLine, forL, hd10, e1, e2, e3, e4, e6, e7]
  · have e5 : rd (m2 % (Int.gcd a d : Int) = 0) (d / (Int.gcd a d : Int)) (m2 / (Int.gcd a d : Int) * s % (d / (Int.gcd a d : Int))) = .none := if_neg c
    rw [e5] at e3
    rw [com_none h g c]
    rcases hmk with rfl | rfl <;> simp [runF, f_common_for, slots, rdRaw, rdVar, fin, sizeLine, forL, hd10, e1, e2, e3]
theorem v_common_a (k : Nat) (d m : Int) (st : Store) (d0 : 2 ≤ d) (d1 : d ≤ 1000) (m0 : 0 ≤ m) (m1 : m < d) : fns T (k + 3) i_common_for [.d (.list [hd 1 d]), .d (.list [.int m])] st = some (.d (hd d m), st) := by
  rw [s_common_for]
  obtain ⟨e1, e2⟩ := v_first k d m st d0 d1 m0 m1
  simp [runF, f_common_for, slots, rdRaw, rdVar, fin, sizeLine, forL, hd10, e1, e2]
theorem v_common_b (k : Nat) {a d m1 m2 : Int} (st : Store) (h : Dial a d m1 m2) : ∃ (s : Int) (Z : D) (b : Bool), fns T (k + 3) i_common_for [.d (.list [hd a d]), .d (.list [.int m2])] st = some (.d Z, st) ∧ cmpD .Is Z .none = some b ∧ (b = true → com a d m1 m2 = .none) := by
  rw [s_common_for]
  obtain ⟨s, t, g, e3, d0, d1⟩ := v_second k st h
  by_cases c : m2 % (Int.gcd a d : Int) = 0
  · have e5 : rd (m2 % (Int.gcd a d : Int) = 0) (d / (Int.gcd a d : Int)) (m2 / (Int.gcd a d : Int) * s % (d / (Int.gcd a d : Int))) = hd (d / (Int.gcd a d : Int)) (m2 / (Int.gcd a d : Int) * s % (d / (Int.gcd a d : Int))) := if_pos c
    rw [e5] at e3
    have hh := h.d1
    have e4 := v_met_1 k (d / (Int.gcd a d : Int)) (m2 / (Int.gcd a d : Int) * s % (d / (Int.gcd a d : Int))) st d0 (by omega) (Int.emod_nonneg _ (by omega)) (Int.emod_lt_of_pos _ d0)
    refine ⟨s, hd (d / (Int.gcd a d : Int)) (m2 / (Int.gcd a d : Int) * s % (d / (Int.gcd a d : Int))), false, ?_, rfl, fun z => by cases z⟩
    simp [runF, f_common_for, slots, rdRaw, rdVar, fin, sizeLine, forL, hd10, e3, e4]
  · have e5 : rd (m2 % (Int.gcd a d : Int) = 0) (d / (Int.gcd a d : Int)) (m2 / (Int.gcd a d : Int) * s % (d / (Int.gcd a d : Int))) = .none := if_neg c
    rw [e5] at e3
    refine ⟨s, .none, true, ?_, rfl, fun _ => com_none h g c⟩
    simp [runF, f_common_for, slots, rdRaw, rdVar, fin, sizeLine, forL, hd10, e3]
theorem v_is_hand (k : Nat) (a d : Int) (st : Store) (d0 : 1 ≤ d) (d1 : d ≤ 1000) (a0 : 0 ≤ a) (a1 : a < d) : fns T (k + 2) i_is_hand [.d (hd a d)] st = some (.d (.bool true), st) := by
  rw [s_is_hand]
  have e1 : decide (a ≤ d - 1) = true := decide_eq_true (by omega)
  unfold hd
  simp [runF, f_is_hand, slots, rdRaw, rdVar, fin, v_is_tuple_of, v_is_whole, d0, d1, a0, e1]
theorem v_need_hands (k : Nat) (a d : Int) (st : Store) (d0 : 2 ≤ d) (d1 : d ≤ 1000) (a0 : 0 ≤ a) (a1 : a < d) : fns T (k + 4) i_need_hands [.d (.tuple [hd 1 d, hd a d])] st = some (.d .none, st) := by
  have e1 := v_is_hand k 1 d st (by omega) d1 (by omega) (by omega)
  have e2 := v_is_hand k a d st (by omega) d1 a0 a1
  have e3 : fns T (k + 3) i_are_hands [.d (.tuple [hd 1 d, hd a d])] st = some (.d (.bool true), st) := by
    rw [s_are_hands]
    simp [runF, f_are_hands, slots, rdRaw, rdVar, fin, v_is_tuple_of, compL, bltW, bltD, asBools, sizeLine, e1, e2]
  rw [s_need_hands]
  simp [runF, f_need_hands, slots, rdRaw, rdVar, fin, e3]
theorem v_need_marks (k : Nat) {a d m1 m2 : Int} (st : Store) (h : Dial a d m1 m2) : fns T (k + 5) i_need_marks [.d (.tuple [hd 1 d, hd a d]), .d (.tuple [.int m1, .int m2])] st = some (.d .none, st) := by
  have e1 := v_need_hands k a d st h.d0 h.d1 h.a0 h.a1
  have b1 := h.m1
  have b2 := h.n1
  have c1 : decide (m1 ≤ d - 1) = true := decide_eq_true (by omega)
  have c2 : decide (m2 ≤ d - 1) = true := decide_eq_true (by omega)
  have e2 : fns T (k + 4) i_are_marks [.d (.tuple [hd 1 d, hd a d]), .d (.tuple [.int m1, .int m2])] st = some (.d (.bool true), st) := by
    rw [s_are_marks]
    unfold hd
    simp [runF, f_are_marks, slots, rdRaw, rdVar, fin, v_is_tuple_of, v_is_whole, compL, bltW, bltD, asBools, sizeLine, h.m0, h.n0, c1, c2]
  rw [s_need_marks]
  simp [runF, f_need_marks, slots, rdRaw, rdVar, fin, e1, e2]
theorem v_marks_at (k : Nat) (a d t : Int) (st : Store) (d0 : 2 ≤ d) (d1 : d ≤ 1000) (a0 : 0 ≤ a) (a1 : a < d) (t0 : 0 ≤ t) (t1 : t ≤ 1000) : fns T (k + 5) i_marks_at [.d (.tuple [hd 1 d, hd a d]), I t] st = some (.d (.tuple [.int (t % d), .int (a * t % d)]), st) := by
  have e1 := v_need_hands k a d st d0 d1 a0 a1
  have f1 : binD .Mult (.int 1) (.int t) = some (.int (1 * t)) := mul_i (mulOk_l (by decide))
  rw [Int.one_mul] at f1
  have f2 : binD .Mult (.int a) (.int t) = some (.int (a * t)) := mul_i (mulOk_l (by omega))
  have f3 : binD .Mod (.int t) (.int d) = some (.int (t % d)) := mod_i (by omega)
  have f4 : binD .Mod (.int (a * t)) (.int d) = some (.int (a * t % d)) := mod_i (by omega)
  have e2 : fns T (k + 4) i_marks_of [.d (.tuple [hd 1 d, hd a d]), I t] st = some (.d (.tuple [.int (t % d), .int (a * t % d)]), st) := by
    rw [s_marks_of]
    unfold hd
    simp [runF, f_marks_of, slots, rdRaw, rdVar, fin, compL, bltW, sizeLine, f1, f2, f3, f4]
  rw [s_marks_at]
  have c1 : decide (t ≤ 1000000000000000000) = true := decide_eq_true (by omega)
  simp [runF, f_marks_at, slots, rdRaw, rdVar, fin, e1, e2, v_is_whole, t0, c1]
def tim (a d m1 m2 : Int) : D := if (a * m1 - m2) % d = 0 then .int m1 else .none
theorem v_time_of (k : Nat) {a d m1 m2 : Int} (st : Store) (h : Dial a d m1 m2) : fns T (k + 6) i_time_of [.d (.tuple [hd 1 d, hd a d]), .d (.tuple [.int m1, .int m2])] st = some (.d (tim a d m1 m2), st) := by
  rw [s_time_of]
  have e1 := v_need_marks k st h
  have e2 := v_common2 (k + 2) .tuple (.inl rfl) st h
  unfold tim
  unfold com rd at e2
  by_cases c : (a * m1 - m2) % d = 0
  · rw [if_pos c] at e2 ⊢
    simp [runF, f_time_of, slots, rdRaw, rdVar, fin, e1, e2]
  · rw [if_neg c] at e2 ⊢
    simp [runF, f_time_of, slots, rdRaw, rdVar, fin, e1, e2]
def ss2 : List D := [.tuple [.int 1, .tuple [.int 0]], .tuple [.int 1, .tuple [.int 1]], .tuple [.int 2, .tuple [.int 0, .int 1]]]
def ss3 : List D := .tuple [.int 0, .tuple []] :: ss2
theorem srt_pw : ss3.Pairwise (fun x y => PySem.W.dataLe false (id : D → D) x y = true) := by
  unfold ss3 ss2
  refine List.Pairwise.cons (fun y hy => ?_) (List.Pairwise.cons (fun y hy => ?_) (List.Pairwise.cons (fun y hy => ?_) (List.pairwise_singleton _ _)))
  all_goals
    simp only [List.mem_cons, List.not_mem_nil, or_false] at hy
  · rcases hy with rfl | rfl | rfl <;> kernel_rfl
  · rcases hy with rfl | rfl <;> kernel_rfl
  · subst hy
    kernel_rfl
theorem srt_ok : bltD .sorted [.list [.tuple [.int 0, .tuple []], .tuple [.int 1, .tuple [.int 0]], .tuple [.int 1, .tuple [.int 1]], .tuple [.int 2, .tuple [.int 0, .int 1]]]] = some (.list (.tuple [.int 0, .tuple []] :: ss2)) := by
  have e1 : sdB ss3 = true := by kernel_rfl
  have e2 : srtD ss3 = ss3 := List.mergeSort_of_pairwise srt_pw
  have e3 : asInts ss3 = none := rfl
  show (match asInts ss3 with
    | some ns => some (PyData.list ((sortI ns).map .int))
    | none => if sdB ss3 then some (PyData.list (srtD ss3)) else none) = _
  rw [e3]
  show (if sdB ss3 then some (PyData.list (srtD ss3)) else none) = _
  rw [e1, e2]
  rfl
theorem v_sets_of (k : Nat) (st : Store) : fns T (k + 1) i_sets_of [I 2] st = some (.d (.list ss2), st) := by
  rw [s_sets_of]
  have r2 : rngD 0 2 = [.int 0, .int 1] := rfl
  have a1 : binD .Add (.list [.tuple []]) (.list [.tuple [.int 0]]) = some (.list [.tuple [], .tuple [.int 0]]) := by kernel_rfl
  have a2 : binD .Add (.list [.tuple [], .tuple [.int 0]]) (.list [.tuple [.int 1], .tuple [.int 0, .int 1]]) = some (.list [.tuple [], .tuple [.int 0], .tuple [.int 1], .tuple [.int 0, .int 1]]) := by kernel_rfl
  have b1 : ∀ i : Int, binD .Add (.tuple []) (.tuple [.int i]) = some (.tuple [.int i]) := fun i => by
    simp [binD, sizeLine]
  have b2 : binD .Add (.tuple [.int 0]) (.tuple [.int 1]) = some (.tuple [.int 0, .int 1]) := by kernel_rfl
  have l1 : slD (.list (.tuple [.int 0, .tuple []] :: ss2)) (some 1) none = some (.list ss2) := by kernel_rfl
  simp [runF, f_sets_of, slots, rdRaw, rdVar, fin, sizeLine, forL, compL, bltW, r2, a1, a2, b1, b2, srt_ok, l1]
theorem min_ok1 : bltD .mn [.list [.tuple [.int 0, .int 1]]] = some (.tuple [.int 0, .int 1]) := by kernel_rfl
theorem min_ok2 : bltD .mn [.list [.tuple [.int 1], .tuple [.int 0, .int 1]]] = some (.tuple [.int 0, .int 1]) := by kernel_rfl
/-- (nothing bars them) is (they are shown together) -/
theorem v_marks_bar (k : Nat) {a d m1 m2 : Int} (st : Store) (h : Dial a d m1 m2) : ∃ Z : D, fns T (k + 6) i_marks_bar [.d (.tuple [hd 1 d, hd a d]), .d (.tuple [.int m1, .int m2])] st = some (.d Z, st) ∧ cmpD .Is Z .none = some (decide ((a * m1 - m2) % d = 0)) := by
  rw [s_marks_bar]
  have e1 := v_need_marks k (a := a) (d := d) (m1 := m1) (m2 := m2) st h
  have e0 := fun st => v_sets_of (k + 4) st
  have e2 := fun st => v_common_a (k + 2) d m1 st h.d0 h.d1 h.m0 h.m1
  have e4 := fun st => v_common2 (k + 2) .list (.inr rfl) st h
  obtain ⟨_, Z, b, e3, e5, e6⟩ := v_common_b (k + 2) (a := a) (d := d) (m1 := m1) (m2 := m2) (st ++ [.lst false []]) h
  have g1 : ∀ c : Cell, (st ++ [c])[st.length]? = some c := fun c => by simp
  have g2 : ∀ c c' : Cell, (st ++ [c]).set st.length c' = st ++ [c'] := fun c c' => by simp
  have g3 : ∀ c : Cell, (st ++ [c]).take st.length = st := fun c => by simp
  have n1 : ∀ x : D, ∀ xs : List D, shp (.list (x :: xs)) = true → cmpD .NotEq (.list (x :: xs)) (.list []) = some true := fun x xs hs => by
    rw [ne_d hs (by simp [shp, SeqAt.shaped, PyData.canLay0, PyData.canLayAll0, PyData.depth, PyData.depthAll])]
    simp [PyData.eqv, PyData.eqvAll]
  have n0 : cmpD .NotEq (.list []) (.list []) = some false := by
    have : shp (.list []) = true := by simp [shp, SeqAt.shaped, PyData.canLay0, PyData.canLayAll0, PyData.depth, PyData.depthAll]
    rw [ne_d this this]
    simp [PyData.eqv, PyData.eqvAll]
  have n2 := n1 (.tuple [.int 0, .int 1]) [] (by kernel_rfl)
  have n3 := n1 (.tuple [.int 1]) [.tuple [.int 0, .int 1]] (by kernel_rfl)
  by_cases c : (a * m1 - m2) % d = 0
  · have ec : com a d m1 m2 = hd d m1 := if_pos c
    rw [ec] at e4 e6
    have hb : b = false := by
      cases b with
      | true => exact absurd (e6 rfl) (by unfold hd; exact fun z => by cases z)
      | false => rfl
    subst hb
    refine ⟨.none, ?_, by rw [decide_eq_true c]; rfl⟩
    simp [runF, f_marks_bar, slots, rdRaw, rdVar, fin, freeze, sizeLine, forL, compL, bltW, e0, e1, e2, e3, e4, e5, ss2, n0]
  · have ec : com a d m1 m2 = .none := if_neg c
    rw [ec] at e4 e6
    refine ⟨.tuple [.int 0, .int 1], ?_, by rw [decide_eq_false c]; rfl⟩
    cases b with
    | true => simp [runF, f_marks_bar, slots, rdRaw, rdVar, fin, freeze, sizeLine, forL, compL, bltW, e0, e1, e2, e3, e4, e5, ss2, n2, n3, min_ok2]
    | false => simp [runF, f_marks_bar, slots, rdRaw, rdVar, fin, freeze, sizeLine, forL, compL, bltW, e0, e1, e2, e3, e4, e5, ss2, n2, n3, min_ok1]
end WM.K94
namespace WM.K94
open PySem PySem.Spec PyProof.Rows L2 RT
theorem comp_fil {g : D → Option Sl} {c e : EM} {p : D → Bool} {f : D → D} {st : Store} : ∀ {ds : List D}, (∀ x ∈ ds, ∃ sl, g x = some sl ∧ c sl st = some (.d (.bool (p x)), st) ∧ (p x = true → e sl st = some (.d (f x), st))) → compL g c e ds st = some ((ds.filter p).map f, st)
  | [], _ => rfl
  | d :: ds, h => by
    obtain ⟨sl, h1, h2, h3⟩ := h d (List.mem_cons_self ..)
    have ih := comp_fil (p := p) (f := f) (ds := ds) fun x hx => h x (List.mem_cons_of_mem _ hx)
    unfold compL
    cases hp : p d with
    | false =>
      rw [hp] at h2
      simp only [h1, h2, andW_s, truW_b, List.filter_cons_of_neg (p := p) (a := d) (l := ds) (by rw [hp]; decide)]
      exact ih
    | true =>
      rw [hp] at h2
      simp only [h1, h2, h3 hp, andW_s, andD_s, truW_b, List.filter_cons_of_pos (p := p) (a := d) (l := ds) hp, ih]
      rfl
theorem for_hole {g : D → Sl → Option Sl} {b : SM} {st : Store} (F : Option W → Sl) : ∀ {ds : List D} (w : Option W), (∀ x ∈ ds, ∀ w, g x (F w) = some (F (some (.d x))) ∧ b (F (some (.d x))) st = some (.nx, F (some (.d x)), st)) → ∃ w', forL g b ds (F w) st = some (.nx, F w', st)
  | [], w, _ => ⟨w, rfl⟩
  | d :: ds, w, h => by
    obtain ⟨h1, h2⟩ := h d (List.mem_cons_self ..) w
    obtain ⟨w', e⟩ := for_hole F (ds := ds) (some (.d d)) fun x hx => h x (List.mem_cons_of_mem _ hx)
    refine ⟨w', ?_⟩
    unfold forL
    simp only [h1, h2]
    exact e
theorem rng_int {lo : Int} : ∀ {n : Nat} {x : D}, x ∈ rngD lo n → ∃ i : Int, x = .int i ∧ lo ≤ i ∧ i < lo + n
  | 0, x, h => by cases h
  | n + 1, x, h => by
    simp only [rngD, List.mem_cons] at h
    rcases h with rfl | h
    · exact ⟨lo, rfl, by omega, by omega⟩
    · obtain ⟨i, e, h1, h2⟩ := rng_int h
      exact ⟨i, e, by omega, by omega⟩
theorem rng_len {lo : Int} : ∀ {n : Nat}, (rngD lo n).length = n
  | 0 => rfl
  | n + 1 => by rw [rngD, List.length_cons, rng_len]
theorem v_divisor_of (k : Nat) (x y : Int) (st : Store) (x0 : 1 ≤ x) (x1 : x ≤ 1000000) (y0 : 1 ≤ y) (y1 : y ≤ 1000000) : fns T (k + 4) i_divisor_of [.d (.tuple [.int x, .int y])] st = some (I (Int.gcd x y), st) := by
  have c1 : decide (x ≤ 1000000000000000000000000000000) = true := decide_eq_true (by omega)
  have c2 : decide (y ≤ 1000000000000000000000000000000) = true := decide_eq_true (by omega)
  have e1 : fns T (k + 3) i_need_numbers [.d (.tuple [.int x, .int y])] st = some (.d .none, st) := by
    rw [s_need_numbers]
    simp [runF, f_need_numbers, slots, rdRaw, rdVar, fin, v_is_tuple_of, v_is_whole, compL, bltW, bltD, asBools, sizeLine, x0, y0, c1, c2]
  rw [s_divisor_of]
  have g0 : (x.natAbs : Int) = x := by omega
  simp [runF, f_divisor_of, slots, rdRaw, rdVar, fin, e1, forL, bltW, g0]
theorem ne_self2 (a b : Int) : cmpD .NotEq (.tuple [.int a, .int b]) (.tuple [.int a, .int b]) = some false := by
  rw [ne_d (by simp) (by simp)]
  simp [PyData.eqv, PyData.eqvAll]
theorem dial_iff (n d r : Int) (d0 : 0 < d) : (n % d * (n % d * r % d) - r) % d = 0 ↔ (r * (n * n - 1)) % d = 0 := by
  have h1 := Int.emod_add_mul_ediv n d
  have h2 := Int.emod_add_mul_ediv (n % d * r) d
  generalize n % d = a at *
  generalize n / d = u at *
  generalize a * r % d = v at *
  generalize a * r / d = w at *
  have e : a * v - r = r * (n * n - 1) + d * (-(a * w) - r * u * (2 * a + d * u)) := by
    have hv : v = a * r - d * w := by omega
    rw [hv, ← h1]
    grind
  rw [e]
  constructor <;> intro h
  · rw [Int.add_mul_emod_self_left] at h
    exact h
  · rw [Int.add_mul_emod_self_left]
    exact h
def swi (n d r : Int) : Bool := decide ((r * (n * n - 1)) % d = 0)
theorem dial_ok {n d r : Int} (d0 : 2 ≤ d) (d1 : d ≤ 1000) (r0 : 0 ≤ r) (r1 : r < d) : Dial (n % d) d (n % d * r % d) r :=
  ⟨d0, d1, Int.emod_nonneg _ (by omega), Int.emod_lt_of_pos _ (by omega), Int.emod_nonneg _ (by omega), Int.emod_lt_of_pos _ (by omega), r0, r1⟩
theorem tim_is {n d r : Int} (d0 : 2 ≤ d) : cmpD .IsNot (tim (n % d) d (n % d * r % d) r) .none = some (swi n d r) ∧ (swi n d r = true → tim (n % d) d (n % d * r % d) r = .int (n % d * r % d)) := by
  have := dial_iff n d r (by omega)
  unfold tim swi
  by_cases c : (r * (n * n - 1)) % d = 0
  · rw [if_pos (this.mpr c), decide_eq_true c]
    exact ⟨rfl, fun _ => rfl⟩
  · rw [if_neg (fun z => c (this.mp z)), decide_eq_false c]
    exact ⟨rfl, fun z => by cases z⟩
theorem cnt : ∀ d < 61, ∀ k < 32, 2 ≤ d → 2 ≤ k → ((List.range d).filter (fun o => o * (k * k - 1) % d == 0)).length = Nat.gcd d (k * k - 1) := by decide +kernel
theorem rng_map : ∀ (n : Nat) (lo : Nat), rngD (lo : Int) n = (List.range' lo n).map fun (i : Nat) => PyData.int (i : Int)
  | 0, _ => rfl
  | n + 1, lo => by
    rw [rngD, List.range'_succ, List.map_cons]
    have := rng_map n (lo + 1)
    rw [show ((lo + 1 : Nat) : Int) = (lo : Int) + 1 from rfl] at this
    rw [this]
def pI (p : Int → Bool) : D → Bool
  | .int i => p i
  | _ => false
theorem cnt_rng {n d : Int} (n0 : 2 ≤ n) (n1 : n ≤ 31) (d0 : 2 ≤ d) (d1 : d ≤ 60) : ((rngD 0 d.toNat).filter (pI (swi n d))).length = Int.gcd d (n * n - 1) := by
  obtain ⟨dn, rfl⟩ : ∃ m : Nat, d = m := ⟨d.toNat, by omega⟩
  obtain ⟨nn, rfl⟩ : ∃ m : Nat, n = m := ⟨n.toNat, by omega⟩
  have := cnt dn (by omega) nn (by omega) (by omega) (by omega)
  have hc : ((nn : Int) * nn - 1) = ((nn * nn - 1 : Nat) : Int) := by
    have : 1 ≤ nn * nn := Nat.le_trans (show 1 ≤ 2 * 2 by omega) (Nat.mul_le_mul (show 2 ≤ nn by omega) (show 2 ≤ nn by omega))
    rw [Int.natCast_sub this]
    rfl
  rw [hc, Int.gcd_natCast_natCast, ← this]
  have e := rng_map dn 0
  rw [show ((dn : Int)).toNat = dn from rfl]
  rw [show ((0 : Nat) : Int) = 0 from rfl] at e
  rw [e, List.filter_map, List.length_map, List.range_eq_range']
  congr 1
  refine List.filter_congr fun o ho => ?_
  show pI (swi nn dn) (.int (o : Int)) = _
  unfold pI swi
  rw [hc]
  have : ((o : Int) * ((nn * nn - 1 : Nat) : Int)) % (dn : Int) = ((o * (nn * nn - 1) % dn : Nat) : Int) := by
    rw [Int.natCast_emod, Int.natCast_mul]
  show decide ((o : Int) * ((nn * nn - 1 : Nat) : Int) % (dn : Int) = 0) = _
  rw [this]
  rw [Bool.eq_iff_iff]
  simp
  try omega
end WM.K94
namespace WM.K94
open PySem PySem.Spec PyProof.Rows L2 RT
def drC : E := .comp (.v 10) (.rng1 (.var 2)) (.some (.cmp .IsNot (.call i_time_of (.cons (.raw 7) (.cons (.rev (.call i_marks_at (.cons (.raw 7) (.cons (.raw 10) .nil)))) .nil))) (.lit .none))) [10] (.var 10)
def drB : Ss := .cons (.ite (.cmp .NotEq (.call i_partner_of (.cons (.raw 1) (.cons (.call i_ratio (.cons (.raw 10) (.cons (.raw 2) .nil))) .nil))) (.call i_ratio (.cons (.bin .Mod (.blt .int (.cons (.bin .Mult (.var 1) (.var 10)) .nil)) (.var 2)) (.cons (.raw 2) .nil)))) (.cons (.ret (.lit (.bool false))) .nil) .nil) .nil
def drF : S := .for (.v 10) (.val (.sl (.var 9) .none (.some (.lit (.int 5))))) drB
theorem dr_body : f__law_dial_right.body = (.cons (.unp (.cons (.v 7) (.cons (.v 8) .nil)) (.tup (.cons (.tup (.cons (.tup (.cons (.lit (.int 1)) (.cons (.var 2) .nil))) (.cons (.tup (.cons (.bin .Mod (.blt .int (.cons (.var 1) .nil)) (.var 2)) (.cons (.var 2) .nil))) .nil))) (.cons (.call i__law_roll (.cons (.raw 0) (.cons (.raw 2) .nil))) .nil)))) (.cons (.set 3 (.call i_marks_at (.cons (.raw 7) (.cons (.raw 8) .nil)))) (.cons (.set 4 (.rev (.var 3))) (.cons (.set 5 (.cmp .Eq (.bin .Mod (.blt .int (.cons (.bin .Mult (.var 8) (.bin .Sub (.bin .Mult (.var 1) (.var 1)) (.lit (.int 1)))) .nil)) (.var 2)) (.lit (.int 0)))) (.cons (.set 6 (.call i_time_of (.cons (.raw 7) (.cons (.raw 4) .nil)))) (.cons (.ite (.or (.cmp .NotEq (.var 3) (.tup (.cons (.var 8) (.cons (.bin .Mod (.blt .int (.cons (.bin .Mult (.var 1) (.var 8)) .nil)) (.var 2)) .nil)))) (.or (.cmp .NotEq (.cmp .IsNot (.var 6) (.lit .none)) (.var 5)) (.cmp .NotEq (.cmp .Is (.call i_marks_bar (.cons (.raw 7) (.cons (.raw 4) .nil))) (.lit .none)) (.var 5)))) (.cons (.ret (.lit (.bool false))) .nil) .nil) (.cons (.ite (.and (.var 5) (.cmp .NotEq (.var 6) (.ix (.raw 3) (.lit (.int 1))))) (.cons (.ret (.lit (.bool false))) .nil) .nil) (.cons (.ite (.cmp .LtE (.var 2) (.lit (.int 60))) (.cons (.set 9 drC) (.cons (.ite (.cmp .NotEq (.blt .len (.cons (.raw 9) .nil)) (.call i_divisor_of (.cons (.tup (.cons (.var 2) (.cons (.bin .Sub (.bin .Mult (.var 1) (.var 1)) (.lit (.int 1))) .nil))) .nil))) (.cons (.ret (.lit (.bool false))) .nil) .nil) (.cons drF .nil))) .nil) (.cons (.ret (.lit (.bool true))) .nil))))))))) := rfl
/-- the slots behind the first lines -/
def drS (n d r m : Int) (back is told w9 w10 : Option W) : Sl := [some (.m 0), some (I n), some (I d), some (.d (.tuple [.int r, .int m])), back, is, told, some (.d (.tuple [hd 1 d, hd (n % d) d])), some (I r), w9, w10]
theorem dr_comp (k : Nat) (n d r m : Int) (back is told : Option W) (st : Store) (d0 : 2 ≤ d) (d1 : d ≤ 60) :
    runE (fns T (k + 7)) drC (drS n d r m back is told none none) st = some (.d (.list ((rngD 0 d.toNat).filter (pI (swi n d)))), st) := by
  have hi : runI (fns T (k + 7)) (.rng1 (.var 2)) (drS n d r m back is told none none) st = some (rngD 0 d.toNat, st) := by
    have e : rngI (.int 0) (.int d) = some (rngD 0 (d - 0).toNat) := if_pos ⟨by decide, by decide, by omega, by omega⟩
    rw [Int.sub_zero] at e
    simp only [runI, runE, drS, rdVar, List.getElem?_cons_succ, List.getElem?_cons_zero, andD_s, e, okL_s]
  have hc : compL (fun x => stTg (.v 10) x (wipeS (drS n d r m back is told none none) [10])) (fun sl1 st2 => runC (fns T (k + 7)) (.some (.cmp .IsNot (.call i_time_of (.cons (.raw 7) (.cons (.rev (.call i_marks_at (.cons (.raw 7) (.cons (.raw 10) .nil)))) .nil))) (.lit .none))) sl1 st2) (fun sl1 st2 => runE (fns T (k + 7)) (.var 10) sl1 st2) (rngD 0 d.toNat) st = some (((rngD 0 d.toNat).filter (pI (swi n d))).map id, st) := by
    refine comp_fil fun x hx => ?_
    obtain ⟨i, rfl, i0, i1⟩ := rng_int hx
    refine ⟨drS n d r m back is told none (some (I i)), rfl, ?_, fun _ => ?_⟩
    · have ok := dial_ok (n := n) (r := i) d0 (by omega) (by omega) (by omega)
      have e1 := v_marks_at (k + 2) (n % d) d i st d0 (by omega) ok.a0 ok.a1 (by omega) (by omega)
      rw [Int.emod_eq_of_lt (a := i) (by omega) (by omega)] at e1
      have e2 := v_time_of (k + 1) st ok
      have e3 := (tim_is (n := n) (r := i) d0).1
      simp [drS, rdRaw, e1, e2, e3, pI]
    · simp [drS, rdVar]
  unfold drC
  rw [runE, hi]
  simp only [hc, List.map_id]
  have hl : ((rngD 0 d.toNat).filter (pI (swi n d))).length ≤ sizeLine := by
    have := List.length_filter_le (pI (swi n d)) (rngD 0 d.toNat)
    rw [rng_len] at this
    have h : 60 ≤ sizeLine := by decide
    omega
  unfold okC
  simp only
  rw [if_pos hl]
theorem sw_div {n d r : Int} (d0 : 0 < d) (h : swi n d r = true) : sw (n * n - 1) (Rat.divInt r d) = true := by
  have h := of_decide_eq_true h
  unfold sw
  refine decide_eq_true ?_
  have e : Rat.divInt r d * ((n * n - 1 : Int) : Rat) = Rat.divInt (r * (n * n - 1)) d := by
    rw [Rat.divInt_eq_div, Rat.divInt_eq_div, Rat.intCast_mul]
    have := cast_ne (b := d) (by omega)
    grind
  rw [e, fr_divInt d0, h]
  exact Rat.zero_divInt d
theorem divInt_Tm {d r : Int} (d0 : 0 < d) (d1 : d ≤ 10 ^ 6) (r0 : 0 ≤ r) (r1 : r < d) : Tm (Rat.divInt r d) := by
  have e := fr_divInt (t := r) d0
  rw [Int.emod_eq_of_lt r0 r1] at e
  rw [← e]
  refine Tm.fr ?_
  have := divInt_den_le (t := r) d0
  omega
theorem dr_loop (k : Nat) (n d r m : Int) (back is told w9 : Option W) (st : Store) (ds : List D) (n0 : 2 ≤ n) (n1 : n ≤ 1000) (d0 : 2 ≤ d) (d1 : d ≤ 1000) (h : ∀ x ∈ ds, ∃ i : Int, x = .int i ∧ 0 ≤ i ∧ i < d ∧ swi n d i = true) :
    ∃ w', forL (fun x sl => stTg (.v 10) x sl) (fun sl st => runSs (fns T (k + 7)) drB sl st) ds (drS n d r m back is told w9 none) st = some (.nx, drS n d r m back is told w9 w', st) := by
  refine for_hole (fun w => drS n d r m back is told w9 w) none fun x hx w => ?_
  obtain ⟨i, rfl, i0, i1, hs⟩ := h x hx
  refine ⟨rfl, ?_⟩
  have e1 := v_ratio (k + 4) i d st (by omega) (by omega) (by omega)
  have tm := divInt_Tm (d := d) (r := i) (by omega) (by omega) i0 i1
  have e2 := v_partner_of (k + 1) n (Rat.divInt i d) st n0 n1 tm
  have f1 : binD .Mult (.int n) (.int i) = some (.int (n * i)) := mul_i (mulOk_l (by omega))
  have f2 : binD .Mod (.int (n * i)) (.int d) = some (.int (n * i % d)) := mod_i (by omega)
  have q0 := Int.emod_nonneg (n * i) (show d ≠ 0 by omega)
  have q1 := Int.emod_lt_of_pos (n * i) (show 0 < d by omega)
  have e3 := v_ratio (k + 4) (n * i % d) d st (by omega) (by omega) (by omega)
  have e4 : partner n (Rat.divInt i d) = pr (Rat.divInt (n * i % d) d) := by
    unfold partner
    rw [sw_div (by omega) hs, if_pos rfl]
    congr 1
    rw [← fr_divInt (by omega)]
    congr 1
    rw [Rat.divInt_eq_div, Rat.divInt_eq_div, Rat.intCast_mul]
    have := cast_ne (b := d) (by omega)
    grind
  rw [e4] at e2
  simp [drB, drS, rdRaw, rdVar, bltW, e1, e2, f1, f2, e3]
end WM.K94
namespace WM.K94
open PySem PySem.Spec PyProof.Rows L2 RT
theorem dr_for (k : Nat) (n d r m : Int) (back is told : Option W) (st : Store) (L : List D) (n0 : 2 ≤ n) (n1 : n ≤ 1000) (d0 : 2 ≤ d) (d1 : d ≤ 1000) (h : ∀ x ∈ L, ∃ i : Int, x = .int i ∧ 0 ≤ i ∧ i < d ∧ swi n d i = true) :
    ∃ w', runS (fns T (k + 7)) drF (drS n d r m back is told (some (.d (.list L))) none) st = some (.nx, drS n d r m back is told (some (.d (.list L))) w', st) := by
  obtain ⟨w', e⟩ := dr_loop k n d r m back is told (some (.d (.list L))) st (cutD L none (some 5)) n0 n1 d0 d1 fun x hx => h x (by
    unfold cutD at hx
    exact List.mem_of_mem_drop (List.mem_of_mem_take hx))
  refine ⟨w', ?_⟩
  have hi : runI (fns T (k + 7)) (.val (.sl (.var 9) .none (.some (.lit (.int 5))))) (drS n d r m back is told (some (.d (.list L))) none) st = some (cutD L none (some 5), st) := by
    simp [drS, rdVar, slD]
  unfold drF
  rw [runS, hi]
  exact e
theorem v_dial_right (k : Nat) (n d a b : Int) (st : Store) (n0 : 2 ≤ n) (n1 : n ≤ 31) (d0 : 2 ≤ d) (d1 : d ≤ 1000) : ∃ a' b', fns T (k + 8) i__law_dial_right [.m 0, I n, I d] (cup a b :: st) = some (.d (.bool true), cup a' b' :: st) := by
  obtain ⟨r, a', b', er, r0, r1⟩ := v_roll (k + 6) d a b st (by omega) (by omega)
  refine ⟨a', b', ?_⟩
  rw [s__law_dial_right]
  have ok := dial_ok (n := n) d0 d1 r0 r1
  have e1 := v_marks_at (k + 2) (n % d) d r (cup a' b' :: st) d0 d1 ok.a0 ok.a1 r0 (by omega)
  rw [Int.emod_eq_of_lt r0 r1] at e1
  have e2 := v_time_of (k + 1) (cup a' b' :: st) ok
  obtain ⟨e3, e4⟩ := tim_is (n := n) (r := r) d0
  obtain ⟨Z, e5, e6⟩ := v_marks_bar (k + 1) (cup a' b' :: st) ok
  have e7 : decide ((n % d * (n % d * r % d) - r) % d = 0) = swi n d r := by
    have := dial_iff n d r (by omega)
    unfold swi
    by_cases c : (r * (n * n - 1)) % d = 0
    · rw [decide_eq_true c, decide_eq_true (this.mpr c)]
    · rw [decide_eq_false c, decide_eq_false (fun z => c (this.mp z))]
  rw [e7] at e6
  have f1 : binD .Mod (.int n) (.int d) = some (.int (n % d)) := mod_i (by omega)
  have f2 : binD .Mult (.int n) (.int n) = some (.int (n * n)) := mul_i (mulOk_l (by omega))
  have f3 : binD .Mult (.int r) (.int (n * n - 1)) = some (.int (r * (n * n - 1))) := mul_i (mulOk_l (by omega))
  have f4 : binD .Mod (.int (r * (n * n - 1))) (.int d) = some (.int ((r * (n * n - 1)) % d)) := mod_i (by omega)
  have f5 : binD .Mult (.int n) (.int r) = some (.int (n * r)) := mul_i (mulOk_l (by omega))
  have f6 : binD .Mod (.int (n * r)) (.int d) = some (.int (n * r % d)) := mod_i (by omega)
  have f7 : n * r % d = n % d * r % d := by rw [Int.mul_emod, Int.mul_emod (n % d) r, Int.emod_emod_of_dvd n (Int.dvd_refl d)]
  rw [f7] at f6
  have f8 : cmpD .Eq (.int ((r * (n * n - 1)) % d)) (.int 0) = some (swi n d r) := eq_i _ _
  have f9 := ne_self2 r (n % d * r % d)
  have g1 : (.tuple [.tuple [.int 1, .int d], .tuple [.int (n % d), .int d]] : PyData) = .tuple [hd 1 d, hd (n % d) d] := rfl
  have b9 := sq_bd (n := n) n0 (by omega)
  have e8 := v_divisor_of (k + 3) d (n * n - 1) (cup a' b' :: st) (by omega) (by omega) (by omega) (by omega)
  have e7' : f__law_dial_right.n = 11 := rfl
  have e8' : f__law_dial_right.ps = 3 := rfl
  generalize hm : n % d * r % d = m at *
  generalize hC : (n * n - 1) = C at *
  generalize ht : tim (n % d) d m r = tv at *
  generalize hst : (cup a' b' :: st) = st' at *
  have hlen : List.length st' = List.length st + 1 := by rw [← hst]; rfl
  have htake : List.take (List.length st + 1) st' = st' := by rw [← hlen]; simp
  unfold runF
  rw [dr_body, e7', e8']
  by_cases c60 : d ≤ 60
  · have cc := fun back is told => dr_comp k n d r m back is told st' d0 c60
    have cl := cnt_rng n0 n1 d0 c60
    rw [hC] at cl
    generalize hL : (rngD 0 d.toNat).filter (pI (swi n d)) = L at *
    have hmem : ∀ x ∈ L, ∃ i : Int, x = .int i ∧ 0 ≤ i ∧ i < d ∧ swi n d i = true := fun x hx => by
      rw [← hL] at hx
      obtain ⟨h1, h2⟩ := List.mem_filter.mp hx
      obtain ⟨i, rfl, i0, i1⟩ := rng_int h1
      exact ⟨i, rfl, i0, by omega, h2⟩
    have cl' : ((L.length : Nat) : Int) = (Int.gcd d C : Int) := by rw [cl]
    have ff := fun back is told => dr_for k n d r m back is told st' L n0 (by omega) d0 d1 hmem
    unfold drS at cc ff
    cases hs : swi n d r with
    | true =>
      rw [hs] at e3 e4 e6 f8
      have e4 := e4 rfl
      rw [e4] at e2 e3
      obtain ⟨w', ff⟩ := ff (some (.d (.tuple [.int m, .int r]))) (some (.d (.bool true))) (some (I m))
      simp [slots, er, rdRaw, rdVar, sizeLine, bltW, f1, f2, f3, f4, f5, f6, f8, f9, g1, e1, e2, e3, e5, e6, hC, c60, cc, e8, cl', ff, fin, hlen, htake]
    | false =>
      rw [hs] at e3 e6 f8
      obtain ⟨w', ff⟩ := ff (some (.d (.tuple [.int m, .int r]))) (some (.d (.bool false))) (some (.d tv))
      simp [slots, er, rdRaw, rdVar, sizeLine, bltW, f1, f2, f3, f4, f5, f6, f8, f9, g1, e1, e2, e3, e5, e6, hC, c60, cc, e8, cl', ff, fin, hlen, htake]
  · cases hs : swi n d r with
    | true =>
      rw [hs] at e3 e4 e6 f8
      have e4 := e4 rfl
      rw [e4] at e2 e3
      simp [slots, er, rdRaw, rdVar, sizeLine, bltW, f1, f2, f3, f4, f5, f6, f8, f9, g1, e1, e2, e3, e5, e6, hC, c60, fin, hlen, htake]
    | false =>
      rw [hs] at e3 e6 f8
      simp [slots, er, rdRaw, rdVar, sizeLine, bltW, f1, f2, f3, f4, f5, f6, f8, f9, g1, e1, e2, e3, e5, e6, hC, c60, fin, hlen, htake]
end WM.K94
namespace WM.K94
open PySem PySem.Spec PyProof.Rows L2 RT
theorem for_hole2 {g : D → Sl → Option Sl} {b : SM} {st : Store} (F : Option W → Option W → Sl) : ∀ {ds : List D} (w v : Option W), (∀ x ∈ ds, ∀ w v, ∃ w1 v1, g x (F w v) = some (F w1 v1) ∧ b (F w1 v1) st = some (.nx, F w1 v1, st)) → ∃ w' v', forL g b ds (F w v) st = some (.nx, F w' v', st)
  | [], w, v, _ => ⟨w, v, rfl⟩
  | d :: ds, w, v, h => by
    obtain ⟨w1, v1, h1, h2⟩ := h d (List.mem_cons_self ..) w v
    obtain ⟨w', v', e⟩ := for_hole2 F (ds := ds) w1 v1 fun x hx => h x (List.mem_cons_of_mem _ hx)
    refine ⟨w', v', ?_⟩
    unfold forL
    simp only [h1, h2]
    exact e
theorem enum_mem : ∀ {xs : List D} {i : Nat} {x : D}, x ∈ enumD i xs → ∃ (j : Nat) (y : D), x = .tuple [.int ((i + j : Nat) : Int), y] ∧ xs[j]? = some y
  | [], _, _, h => by cases h
  | y :: ys, i, x, h => by
    simp only [enumD, List.mem_cons] at h
    rcases h with rfl | h
    · exact ⟨0, y, rfl, rfl⟩
    · obtain ⟨j, z, e1, e2⟩ := enum_mem h
      refine ⟨j + 1, z, ?_, by simpa using e2⟩
      rw [e1]
      congr 3
      omega
def F0 (n : Int) (i : Nat) : D := pr (Rat.divInt i (n * n - 1))
def TL (n : Int) : List D := (List.range' 0 (n * n - 1).toNat).map (F0 n)
def pA (n : Int) : D → Bool
  | .tuple [.int a, .int b] => decide ((a * (n - 1)) % b = 0)
  | _ => false
theorem pA_pr (n : Int) (q : Rat) : pA n (pr q) = sw (n - 1) q := sw_eq (n - 1) q
theorem TL_mem {n : Int} {x : D} (n0 : 2 ≤ n) (n1 : n ≤ 1000) (h : x ∈ TL n) : ∃ i : Nat, x = pr (Rat.divInt i (n * n - 1)) ∧ (i : Int) < n * n - 1 := by
  have b := sq_bd n0 n1
  obtain ⟨i, hi, rfl⟩ := List.mem_map.mp h
  have := List.mem_range'_1.mp hi
  exact ⟨i, rfl, by omega⟩
theorem TL_Tm {n : Int} {i : Nat} (n0 : 2 ≤ n) (n1 : n ≤ 1000) (h : (i : Int) < n * n - 1) : Tm (Rat.divInt i (n * n - 1)) ∧ sw (n * n - 1) (Rat.divInt i (n * n - 1)) = true := by
  have b := sq_bd n0 n1
  refine ⟨divInt_Tm (by omega) (by omega) (by omega) h, ?_⟩
  refine sw_div (by omega) ?_
  unfold swi
  exact decide_eq_true (Int.mul_emod_left _ _)
theorem cntA : ∀ n ∈ ([2, 3, 4, 7] : List Int), ((((TL n).filter (pA n)).length : Nat) : Int) = n - 1 ∧ ((((TL n).filter (fun x => !pA n x)).length : Nat) : Int) = n * n - n := by decide +kernel
theorem TL_len (n : Int) : (TL n).length = (n * n - 1).toNat := by
  unfold TL
  rw [List.length_map, List.length_range']
def arC1 : E := .comp (.v 4) (.rng1 (.var 1)) .none [4] (.call i_ratio (.cons (.raw 4) (.cons (.raw 1) .nil)))
def arB : Ss := .cons (.ite (.or (.cmp .NotEq (.call i_swap_time (.cons (.raw 0) (.cons (.raw 4) .nil))) (.var 5)) (.not (.call i__law_time_right (.cons (.raw 0) (.cons (.raw 5) .nil))))) (.cons (.ret (.lit (.bool false))) .nil) .nil) .nil
def arF : S := .for (.t (.cons (.v 4) (.cons (.v 5) .nil))) (.enum (.var 2)) arB
def arC2 : E := .comp (.v 5) (.val (.var 2)) (.some (.call i_are_alike (.cons (.raw 0) (.cons (.raw 5) .nil)))) [5] (.var 5)
def arC3 : E := .comp (.v 5) (.val (.var 2)) (.some (.cmp .NotEq (.call i_partner_of (.cons (.raw 0) (.cons (.raw 5) .nil))) (.var 5))) [5] (.var 5)
theorem ar_body : f__law_all_right.body = (.cons (.set 1 (.bin .Sub (.bin .Mult (.var 0) (.var 0)) (.lit (.int 1)))) (.cons (.set 2 arC1) (.cons (.ite (.not (.call i__law_like (.cons (.lst (.cons (.call i_count_swaps (.cons (.raw 0) .nil)) (.cons (.call i_count_alike (.cons (.raw 0) .nil)) (.cons (.call i_count_doubtful (.cons (.raw 0) .nil)) .nil)))) (.cons (.lst (.cons (.var 1) (.cons (.bin .Sub (.var 0) (.lit (.int 1))) (.cons (.bin .Add (.bin .Sub (.var 1) (.var 0)) (.lit (.int 1))) .nil)))) .nil)))) (.cons (.ret (.lit (.bool false))) .nil) .nil) (.cons arF (.cons (.set 3 arC2) (.cons (.ret (.and (.cmp .Eq (.blt .len (.cons (.raw 3) .nil)) (.bin .Sub (.var 0) (.lit (.int 1)))) (.cmp .Eq (.blt .len (.cons arC3 .nil)) (.call i_count_doubtful (.cons (.raw 0) .nil))))) .nil)))))) := rfl
def arS (n : Int) (tl al w4 w5 : Option W) : Sl := [some (I n), some (I (n * n - 1)), tl, al, w4, w5]
theorem TL_szl {n : Int} (n0 : 2 ≤ n) (n1 : n ≤ 1000) : (TL n).length ≤ sizeLine := by
  have b := sq_bd n0 n1
  rw [TL_len]
  have : 1000000 ≤ sizeLine := by decide
  omega
theorem ar_1 (k : Nat) (n : Int) (st : Store) (n0 : 2 ≤ n) (n1 : n ≤ 1000) : runE (fns T (k + 8)) arC1 (arS n none none none none) st = some (.d (.list (TL n)), st) := by
  have b := sq_bd n0 n1
  have hi : runI (fns T (k + 8)) (.rng1 (.var 1)) (arS n none none none none) st = some (rngD 0 (n * n - 1).toNat, st) := by
    have e : rngI (.int 0) (.int (n * n - 1)) = some (rngD 0 (n * n - 1 - 0).toNat) := if_pos ⟨by decide, by decide, by omega, by omega⟩
    rw [Int.sub_zero] at e
    simp only [runI, runE, arS, rdVar, List.getElem?_cons_succ, List.getElem?_cons_zero, andD_s, e, okL_s]
  let f : D → D := fun x => match x with
    | .int i => pr (Rat.divInt i (n * n - 1))
    | x => x
  have hc : compL (fun x => stTg (.v 4) x (wipeS (arS n none none none none) [4])) (fun sl1 st2 => runC (fns T (k + 8)) .none sl1 st2) (fun sl1 st2 => runE (fns T (k + 8)) (.call i_ratio (.cons (.raw 4) (.cons (.raw 1) .nil))) sl1 st2) (rngD 0 (n * n - 1).toNat) st = some (((rngD 0 (n * n - 1).toNat).filter (fun _ => true)).map f, st) := by
    refine comp_fil fun x hx => ?_
    obtain ⟨i, rfl, i0, i1⟩ := rng_int hx
    refine ⟨arS n none none (some (I i)) none, rfl, rfl, fun _ => ?_⟩
    have e1 := v_ratio (k + 5) i (n * n - 1) st (by omega) (by omega) (by omega)
    simp [arS, rdRaw, e1, f]
  have ef : ((rngD 0 (n * n - 1).toNat).filter (fun _ => true)).map f = TL n := by
    rw [List.filter_eq_self.mpr (fun _ _ => rfl)]
    have := rng_map (n * n - 1).toNat 0
    rw [show ((0 : Nat) : Int) = 0 from rfl] at this
    rw [this, List.map_map]
    rfl
  rw [ef] at hc
  unfold arC1
  rw [runE, hi]
  simp only [hc]
  unfold okC
  simp only
  rw [if_pos (TL_szl n0 n1)]
theorem ar_2 (k : Nat) (n : Int) (w4 w5 : Option W) (st : Store) (n0 : 2 ≤ n) (n1 : n ≤ 1000) : runE (fns T (k + 8)) arC2 (arS n (some (.d (.list (TL n)))) none w4 w5) st = some (.d (.list ((TL n).filter (pA n))), st) := by
  have hi : runI (fns T (k + 8)) (.val (.var 2)) (arS n (some (.d (.list (TL n)))) none w4 w5) st = some (TL n, st) := by
    simp [arS, rdVar]
  have hc : compL (fun x => stTg (.v 5) x (wipeS (arS n (some (.d (.list (TL n)))) none w4 w5) [5])) (fun sl1 st2 => runC (fns T (k + 8)) (.some (.call i_are_alike (.cons (.raw 0) (.cons (.raw 5) .nil)))) sl1 st2) (fun sl1 st2 => runE (fns T (k + 8)) (.var 5) sl1 st2) (TL n) st = some (((TL n).filter (pA n)).map id, st) := by
    refine comp_fil fun x hx => ?_
    obtain ⟨i, rfl, i1⟩ := TL_mem n0 n1 hx
    obtain ⟨tm, hs⟩ := TL_Tm n0 n1 i1
    refine ⟨arS n (some (.d (.list (TL n)))) none w4 (some (P (Rat.divInt i (n * n - 1)))), rfl, ?_, fun _ => ?_⟩
    · have e1 := v_are_alike (k + 2) n _ st n0 n1 tm
      rw [pA_pr]
      simp [arS, rdRaw, e1]
    · simp [arS, rdVar]
  unfold arC2
  rw [runE, hi]
  simp only [hc, List.map_id]
  have hl : ((TL n).filter (pA n)).length ≤ sizeLine := Nat.le_trans (List.length_filter_le _ _) (TL_szl n0 n1)
  unfold okC
  simp only
  rw [if_pos hl]
theorem ar_3 (k : Nat) (n : Int) (al w4 w5 : Option W) (st : Store) (n0 : 2 ≤ n) (n1 : n ≤ 1000) : runE (fns T (k + 8)) arC3 (arS n (some (.d (.list (TL n)))) al w4 w5) st = some (.d (.list ((TL n).filter (fun x => !pA n x))), st) := by
  have hi : runI (fns T (k + 8)) (.val (.var 2)) (arS n (some (.d (.list (TL n)))) al w4 w5) st = some (TL n, st) := by
    simp [arS, rdVar]
  have hc : compL (fun x => stTg (.v 5) x (wipeS (arS n (some (.d (.list (TL n)))) al w4 w5) [5])) (fun sl1 st2 => runC (fns T (k + 8)) (.some (.cmp .NotEq (.call i_partner_of (.cons (.raw 0) (.cons (.raw 5) .nil))) (.var 5))) sl1 st2) (fun sl1 st2 => runE (fns T (k + 8)) (.var 5) sl1 st2) (TL n) st = some (((TL n).filter (fun x => !pA n x)).map id, st) := by
    refine comp_fil fun x hx => ?_
    obtain ⟨i, rfl, i1⟩ := TL_mem n0 n1 hx
    obtain ⟨tm, hs⟩ := TL_Tm n0 n1 i1
    refine ⟨arS n (some (.d (.list (TL n)))) al w4 (some (P (Rat.divInt i (n * n - 1)))), rfl, ?_, fun _ => ?_⟩
    · have e1 := v_partner_of (k + 2) n _ st n0 n1 tm
      unfold partner at e1
      rw [hs, if_pos rfl] at e1
      have e2 := alike_iff (n := n) tm
      rw [pA_pr, e2]
      generalize Rat.divInt i (n * n - 1) = q at *
      generalize fr (q * (n : Rat)) = u at *
      simp [arS, rdRaw, rdVar, e1]
    · simp [arS, rdVar]
  unfold arC3
  rw [runE, hi]
  simp only [hc, List.map_id]
  have hl : ((TL n).filter (fun x => !pA n x)).length ≤ sizeLine := Nat.le_trans (List.length_filter_le _ _) (TL_szl n0 n1)
  unfold okC
  simp only
  rw [if_pos hl]
theorem TL_at {n : Int} {j : Nat} {y : D} (h : (TL n)[j]? = some y) : y = F0 n j ∧ j < (n * n - 1).toNat := by
  have hj : j < (n * n - 1).toNat := by
    have := (List.getElem?_eq_some_iff.mp h).1
    rwa [TL_len] at this
  refine ⟨?_, hj⟩
  unfold TL at h
  rw [List.getElem?_map, List.getElem?_range' hj] at h
  have := Option.some.inj h
  rw [← this]
  congr 1
  omega
theorem ar_for (k : Nat) (n : Int) (st : Store) (n0 : 2 ≤ n) (n1 : n ≤ 1000) : ∃ w4 w5, runS (fns T (k + 8)) arF (arS n (some (.d (.list (TL n)))) none none none) st = some (.nx, arS n (some (.d (.list (TL n)))) none w4 w5, st) := by
  obtain ⟨w4, w5, e⟩ := for_hole2 (g := fun x sl => stTg (.t (.cons (.v 4) (.cons (.v 5) .nil))) x sl) (b := fun sl st => runSs (fns T (k + 8)) arB sl st) (st := st) (fun w v => arS n (some (.d (.list (TL n)))) none w v) (ds := enumD 0 (TL n)) none none (fun x hx w v => by
    obtain ⟨j, y, rfl, hy⟩ := enum_mem hx
    obtain ⟨rfl, hj⟩ := TL_at hy
    have b := sq_bd n0 n1
    have j1 : (j : Int) < n * n - 1 := by omega
    obtain ⟨tm, hs⟩ := TL_Tm n0 n1 j1
    rw [Nat.zero_add]
    refine ⟨some (I j), some (P (Rat.divInt j (n * n - 1))), rfl, ?_⟩
    have e1 := v_swap_time (k + 5) n j st n0 n1 (by omega) j1
    have e2 := v_time_right k n _ st n0 n1 tm
    generalize Rat.divInt j (n * n - 1) = q at *
    simp [arB, arS, rdRaw, rdVar, e1, e2])
  refine ⟨w4, w5, ?_⟩
  have hi : runI (fns T (k + 8)) (.enum (.var 2)) (arS n (some (.d (.list (TL n)))) none none none) st = some (enumD 0 (TL n), st) := by
    simp [arS, rdVar]
  unfold arF
  rw [runS, hi]
  exact e
theorem v_all_right (k : Nat) (n : Int) (st : Store) (h : n ∈ ([2, 3, 4, 7] : List Int)) : fns T (k + 9) i__law_all_right [I n] st = some (.d (.bool true), st) := by
  have n0 : 2 ≤ n ∧ n ≤ 7 := by
    simp only [List.mem_cons, List.not_mem_nil, or_false] at h
    omega
  obtain ⟨c1, c2⟩ := cntA n h
  obtain ⟨n0, n1⟩ := n0
  rw [s__law_all_right]
  have m1 : binD .Mult (.int n) (.int n) = some (.int (n * n)) := mul_i (mulOk_l (by omega))
  have e1 := ar_1 k n st n0 (by omega)
  obtain ⟨w4, w5, e2⟩ := ar_for k n st n0 (by omega)
  have e3 := ar_2 k n w4 w5 st n0 (by omega)
  have e4 := ar_3 k n (some (.d (.list ((TL n).filter (pA n))))) w4 w5 st n0 (by omega)
  have f1 := v_count_swaps (k + 5) n st n0 (by omega)
  have f2 := v_count_alike (k + 5) n st n0 (by omega)
  have f3 := v_count_doubtful (k + 5) n st n0 (by omega)
  have lk := v_law_like 1 (k + 5) (.list [.int (n * n - 1), .int (n - 1), .int (n * n - n)]) st (fun x hx => by
    simp only [List.mem_cons, List.not_mem_nil, or_false] at hx
    rcases hx with rfl | rfl | rfl <;> exact trivial)
  have ea : n * n - 1 - n + 1 = n * n - n := by omega
  have e7 : f__law_all_right.n = 6 := rfl
  have e8 : f__law_all_right.ps = 1 := rfl
  unfold arS at e1 e2 e3 e4
  generalize (TL n).filter (pA n) = A1 at *
  generalize (TL n).filter (fun x => !pA n x) = A2 at *
  generalize TL n = A0 at *
  unfold runF
  rw [ar_body, e7, e8]
  simp [slots, rdRaw, rdVar, sizeLine, bltW, m1, e1, f1, f2, f3, ea, lk, e2, e3, e4, c1, c2, fin]
end WM.K94
namespace WM.K94
open PySem PySem.Spec PyProof.Rows L2 RT
def lwB1 : Ss := (.cons (.set 4 (.bin .Add (.lit (.int 2)) (.call i__law_some (.cons (.raw 1) (.cons (.lst (.cons (.call i__law_roll (.cons (.raw 1) (.cons (.lit (.int 30)) .nil))) (.cons (.call i__law_roll (.cons (.raw 1) (.cons (.lit (.int 999)) .nil))) .nil))) .nil))))) (.cons (.set 5 (.bin .Add (.lit (.int 1)) (.call i__law_roll (.cons (.raw 1) (.cons (.lit (.int 1000)) .nil))))) (.cons (.set 6 (.call i_ratio (.cons (.call i__law_roll (.cons (.raw 1) (.cons (.raw 5) .nil))) (.cons (.raw 5) .nil)))) (.cons (.ite (.not (.call i__law_time_right (.cons (.raw 4) (.cons (.raw 6) .nil)))) (.cons (.ret (.lit (.bool false))) .nil) .nil) (.cons (.set 4 (.bin .Add (.lit (.int 2)) (.call i__law_roll (.cons (.raw 1) (.cons (.lit (.int 30)) .nil))))) (.cons (.ite (.not (.call i__law_time_right (.cons (.raw 4) (.cons (.call i_ratio (.cons (.call i__law_roll (.cons (.raw 1) (.cons (.bin .Sub (.bin .Mult (.var 4) (.var 4)) (.lit (.int 1))) .nil))) (.cons (.bin .Sub (.bin .Mult (.var 4) (.var 4)) (.lit (.int 1))) .nil))) .nil)))) (.cons (.ret (.lit (.bool false))) .nil) .nil) (.cons (.ite (.or (.not (.call i__law_dial_right (.cons (.raw 1) (.cons (.raw 4) (.cons (.bin .Add (.lit (.int 2)) (.call i__law_roll (.cons (.raw 1) (.cons (.lit (.int 59)) .nil)))) .nil))))) (.not (.call i__law_dial_right (.cons (.raw 1) (.cons (.raw 4) (.cons (.bin .Sub (.bin .Mult (.var 4) (.var 4)) (.lit (.int 1))) .nil)))))) (.cons (.ret (.lit (.bool false))) .nil) .nil) .nil)))))))
def lwF1 : S := .for (.v 2) (.rng1 (.lit (.int 6))) lwB1
def lwB2 : Ss := (.cons (.ite (.not (.call i__law_all_right (.cons (.raw 4) .nil))) (.cons (.ret (.lit (.bool false))) .nil) .nil) .nil)
def lwF2 : S := .for (.v 4) (.val (.tup (.cons (.lit (.int 2)) (.cons (.lit (.int 3)) (.cons (.lit (.int 4)) (.cons (.lit (.int 7)) .nil)))))) lwB2
def lwB3 : Ss := (.cons (.ite (.not (.call i__law_dial_right (.cons (.raw 1) (.cons (.raw 4) (.cons (.raw 7) .nil))))) (.cons (.ret (.lit (.bool false))) .nil) .nil) .nil)
def lwF3 : S := .for (.t (.cons (.v 4) (.cons (.v 7) .nil))) (.val (.tup (.cons (.tup (.cons (.lit (.int 12)) (.cons (.lit (.int 143)) .nil))) (.cons (.tup (.cons (.lit (.int 12)) (.cons (.lit (.int 60)) .nil))) (.cons (.tup (.cons (.lit (.int 2)) (.cons (.lit (.int 3)) .nil))) (.cons (.tup (.cons (.lit (.int 31)) (.cons (.lit (.int 960)) .nil))) (.cons (.tup (.cons (.lit (.int 5)) (.cons (.lit (.int 24)) .nil))) (.cons (.tup (.cons (.lit (.int 7)) (.cons (.lit (.int 50)) .nil))) .nil)))))))) lwB3
theorem lw_body : b_law = (.cons lwF1 (.cons (.set 3 (.lst (.cons (.call i_partner_of (.cons (.lit (.int 12)) (.cons (.tup (.cons (.lit (.int 1)) (.cons (.lit (.int 143)) .nil))) .nil))) (.cons (.call i_least_error (.cons (.lit (.int 1)) (.cons (.lit (.int 12)) (.cons (.tup (.cons (.lit (.int 12)) (.cons (.lit (.int 143)) .nil))) (.cons (.tup (.cons (.lit (.int 1)) (.cons (.lit (.int 143)) .nil))) .nil))))) .nil)))) (.cons (.set 3 (.bin .Add (.var 3) (.lst (.cons (.call i_least_error (.cons (.lit (.int 1)) (.cons (.lit (.int 12)) (.cons (.tup (.cons (.lit (.int 0)) (.cons (.lit (.int 1)) .nil))) (.cons (.tup (.cons (.lit (.int 1)) (.cons (.lit (.int 2)) .nil))) .nil))))) (.cons (.call i_partner_of (.cons (.lit (.int 12)) (.cons (.tup (.cons (.lit (.int 1)) (.cons (.lit (.int 2)) .nil))) .nil))) .nil))))) (.cons (.set 3 (.bin .Add (.var 3) (.lst (.cons (.call i_nearest_time (.cons (.lit (.int 1)) (.cons (.lit (.int 2)) (.cons (.tup (.cons (.lit (.int 2)) (.cons (.lit (.int 3)) .nil))) (.cons (.tup (.cons (.lit (.int 1)) (.cons (.lit (.int 3)) .nil))) .nil))))) (.cons (.call i_least_error (.cons (.lit (.int 1)) (.cons (.lit (.int 2)) (.cons (.tup (.cons (.lit (.int 1)) (.cons (.lit (.int 2)) .nil))) (.cons (.tup (.cons (.lit (.int 1)) (.cons (.lit (.int 4)) .nil))) .nil))))) .nil))))) (.cons (.set 3 (.bin .Add (.var 3) (.lst (.cons (.call i_time_of (.cons (.tup (.cons (.tup (.cons (.lit (.int 1)) (.cons (.lit (.int 60)) .nil))) (.cons (.tup (.cons (.lit (.int 12)) (.cons (.lit (.int 60)) .nil))) .nil))) (.cons (.tup (.cons (.lit (.int 0)) (.cons (.lit (.int 5)) .nil))) .nil))) (.cons (.call i_time_of (.cons (.tup (.cons (.tup (.cons (.lit (.int 1)) (.cons (.lit (.int 143)) .nil))) (.cons (.tup (.cons (.lit (.int 12)) (.cons (.lit (.int 143)) .nil))) .nil))) (.cons (.tup (.cons (.lit (.int 12)) (.cons (.lit (.int 1)) .nil))) .nil))) .nil))))) (.cons (.ite (.not (.call i__law_like (.cons (.raw 3) (.cons (.lst (.cons (.tup (.cons (.lit (.int 12)) (.cons (.lit (.int 143)) .nil))) (.cons (.tup (.cons (.lit (.int 0)) (.cons (.lit (.int 1)) .nil))) (.cons (.tup (.cons (.lit (.int 1)) (.cons (.lit (.int 26)) .nil))) (.cons (.lit .none) (.cons (.tup (.cons (.lit (.int 2)) (.cons (.lit (.int 3)) .nil))) (.cons (.tup (.cons (.lit (.int 1)) (.cons (.lit (.int 12)) .nil))) (.cons (.lit .none) (.cons (.lit (.int 12)) .nil))))))))) .nil)))) (.cons (.ret (.lit (.bool false))) .nil) .nil) (.cons lwF2 (.cons lwF3 (.cons (.ret (.and (.call i__law_time_right (.cons (.lit (.int 1000)) (.cons (.tup (.cons (.lit (.int 1)) (.cons (.lit (.int 999)) .nil))) .nil))) (.and (.call i__law_time_right (.cons (.lit (.int 1000)) (.cons (.tup (.cons (.lit (.int 500)) (.cons (.lit (.int 999)) .nil))) .nil))) (.call i__law_time_right (.cons (.lit (.int 31)) (.cons (.tup (.cons (.lit (.int 1)) (.cons (.lit (.int 960)) .nil))) .nil)))))) .nil))))))))) := rfl
theorem for_inv {g : D → Sl → Option Sl} {b : SM} (J : Sl → Store → Prop) : ∀ {ds : List D} {sl : Sl} {st : Store}, (∀ x ∈ ds, ∀ sl st, J sl st → ∃ sl1 sl2 st2, g x sl = some sl1 ∧ b sl1 st = some (.nx, sl2, st2) ∧ J sl2 st2) → J sl st → ∃ sl' st', forL g b ds sl st = some (.nx, sl', st') ∧ J sl' st'
  | [], sl, st, _, j => ⟨sl, st, rfl, j⟩
  | d :: ds, sl, st, h, j => by
    obtain ⟨sl1, sl2, st2, h1, h2, j2⟩ := h d (List.mem_cons_self ..) sl st j
    obtain ⟨sl', st', e, j'⟩ := for_inv J (ds := ds) (fun x hx => h x (List.mem_cons_of_mem _ hx)) j2
    refine ⟨sl', st', ?_, j'⟩
    unfold forL
    simp only [h1, h2]
    exact e
def lwS (w2 w3 w4 w5 w6 w7 : Option W) : Sl := [none, some (.m 0), w2, w3, w4, w5, w6, w7]
def lwJ (w3 : Option W) (sl : Sl) (st : Store) : Prop := (∃ w2 w4 w5 w6 w7, sl = lwS w2 w3 w4 w5 w6 w7) ∧ ∃ a b, st = [cup a b]
theorem lw_b1 (k : Nat) (x : D) (w3 w4 w5 w6 w7 : Option W) (a b : Int) : ∃ w4' w5' w6' a' b', runSs (fns T (k + 10)) lwB1 (lwS (some (.d x)) w3 w4 w5 w6 w7) [cup a b] = some (.nx, lwS (some (.d x)) w3 w4' w5' w6' w7, [cup a' b']) := by
  obtain ⟨r1, a1, b1, e1, l1, u1⟩ := v_roll (k + 9) 30 a b [] (by omega) (by omega)
  obtain ⟨r2, a2, b2, e2, l2, u2⟩ := v_roll (k + 9) 999 a1 b1 [] (by omega) (by omega)
  obtain ⟨a3, b3, z, e3, hz⟩ := v_some2 (k + 8) r1 r2 a2 b2 []
  obtain ⟨r4, a4, b4, e4, l4, u4⟩ := v_roll (k + 9) 1000 a3 b3 [] (by omega) (by omega)
  obtain ⟨r5, a5, b5, e5, l5, u5⟩ := v_roll (k + 9) (1 + r4) a4 b4 [] (by omega) (by omega)
  have z0 : 0 ≤ z ∧ z < 999 := by omega
  have e6 := v_ratio (k + 7) r5 (1 + r4) [cup a5 b5] (by omega) (by omega) (by omega)
  have tm := divInt_Tm (d := 1 + r4) (r := r5) (by omega) (by omega) l5 u5
  have e7 := v_time_right (k + 2) (2 + z) _ [cup a5 b5] (by omega) (by omega) tm
  obtain ⟨r8, a8, b8, e8, l8, u8⟩ := v_roll (k + 9) 30 a5 b5 [] (by omega) (by omega)
  have sb := sq_bd (n := 2 + r8) (by omega) (by omega)
  have sb2 : (2 + r8) * (2 + r8) - 1 ≤ 960 := by
    have : (2 + r8) * (2 + r8) ≤ 31 * 31 := Int.mul_le_mul (by omega) (by omega) (by omega) (by omega)
    omega
  obtain ⟨r9, a9, b9, e9, l9, u9⟩ := v_roll (k + 9) ((2 + r8) * (2 + r8) - 1) a8 b8 [] (by omega) (by omega)
  have ea := v_ratio (k + 7) r9 ((2 + r8) * (2 + r8) - 1) [cup a9 b9] (by omega) (by omega) (by omega)
  have tm2 := divInt_Tm (d := (2 + r8) * (2 + r8) - 1) (r := r9) (by omega) (by omega) l9 u9
  have eb := v_time_right (k + 2) (2 + r8) _ [cup a9 b9] (by omega) (by omega) tm2
  obtain ⟨rc, ac, bc, ec, lc, uc⟩ := v_roll (k + 9) 59 a9 b9 [] (by omega) (by omega)
  obtain ⟨ad, bd, ed⟩ := v_dial_right (k + 2) (2 + r8) (2 + rc) ac bc [] (by omega) (by omega) (by omega) (by omega)
  obtain ⟨ae, be, ee⟩ := v_dial_right (k + 2) (2 + r8) ((2 + r8) * (2 + r8) - 1) ad bd [] (by omega) (by omega) (by omega) (by omega)
  have m1 : binD .Mult (.int (2 + r8)) (.int (2 + r8)) = some (.int ((2 + r8) * (2 + r8))) := mul_i (mulOk_l (by omega))
  refine ⟨some (I (2 + r8)), some (I (1 + r4)), some (P (Rat.divInt r5 (1 + r4))), ae, be, ?_⟩
  generalize hn : (2 + r8) * (2 + r8) = N at *
  simp [lwB1, lwS, rdRaw, rdVar, sizeLine, e1, e2, e3, e4, e5, e6, e7, e8, m1, hn, e9, ea, eb, ec, ed, ee]
end WM.K94
namespace WM.K94
open PySem PySem.Spec PyProof.Rows L2 RT
theorem lw_f1 (k : Nat) (w2 w3 w4 w5 w6 w7 : Option W) (a b : Int) : ∃ w2' w4' w5' w6' a' b', runS (fns T (k + 10)) lwF1 (lwS w2 w3 w4 w5 w6 w7) [cup a b] = some (.nx, lwS w2' w3 w4' w5' w6' w7, [cup a' b']) := by
  obtain ⟨sl', st', e, ⟨u2, u4, u5, u6, rfl⟩, a', b', rfl⟩ := for_inv (g := fun x sl => stTg (.v 2) x sl) (b := fun sl st => runSs (fns T (k + 10)) lwB1 sl st) (fun sl st => (∃ w2 w4 w5 w6, sl = lwS w2 w3 w4 w5 w6 w7) ∧ ∃ a b, st = [cup a b]) (ds := rngD 0 6) (sl := lwS w2 w3 w4 w5 w6 w7) (st := [cup a b]) (fun x hx sl st hj => by
    obtain ⟨⟨u2, u4, u5, u6, rfl⟩, a, b, rfl⟩ := hj
    obtain ⟨v4, v5, v6, a', b', e⟩ := lw_b1 k x w3 u4 u5 u6 w7 a b
    exact ⟨_, _, _, rfl, e, ⟨_, _, _, _, rfl⟩, _, _, rfl⟩) ⟨⟨_, _, _, _, rfl⟩, _, _, rfl⟩
  refine ⟨u2, u4, u5, u6, a', b', ?_⟩
  have hi : runI (fns T (k + 10)) (.rng1 (.lit (.int 6))) (lwS w2 w3 w4 w5 w6 w7) [cup a b] = some (rngD 0 6, [cup a b]) := by
    have e : rngI (.int 0) (.int 6) = some (rngD 0 6) := rfl
    rw [runI, runE]
    simp only [andD_s, e, okL_s]
  unfold lwF1
  rw [runS, hi]
  exact e
theorem lw_f2' (Φ : Fn) (w2 w3 w4 w5 w6 w7 : Option W) (a b : Int) (h : ∀ n ∈ ([2, 3, 4, 7] : List Int), Φ i__law_all_right [I n] [cup a b] = some (.d (.bool true), [cup a b])) : ∃ w4', runS Φ lwF2 (lwS w2 w3 w4 w5 w6 w7) [cup a b] = some (.nx, lwS w2 w3 w4' w5 w6 w7, [cup a b]) := by
  have h2 := h 2 (by simp)
  have h3 := h 3 (by simp)
  have h4 := h 4 (by simp)
  have h7 := h 7 (by simp)
  refine ⟨some (I 7), ?_⟩
  simp [lwF2, lwB2, lwS, rdRaw, rdVar, sizeLine, forL, h2, h3, h4, h7]
theorem lw_f2 (k : Nat) (w2 w3 w4 w5 w6 w7 : Option W) (a b : Int) : ∃ w4', runS (fns T (k + 10)) lwF2 (lwS w2 w3 w4 w5 w6 w7) [cup a b] = some (.nx, lwS w2 w3 w4' w5 w6 w7, [cup a b]) :=
  lw_f2' _ w2 w3 w4 w5 w6 w7 a b fun n hn => v_all_right (k + 1) n [cup a b] hn
theorem lw_f3 (k : Nat) (w2 w3 w4 w5 w6 w7 : Option W) (a b : Int) : ∃ w4' w7' a' b', runS (fns T (k + 10)) lwF3 (lwS w2 w3 w4 w5 w6 w7) [cup a b] = some (.nx, lwS w2 w3 w4' w5 w6 w7', [cup a' b']) := by
  obtain ⟨a1, b1, e1⟩ := v_dial_right (k + 2) 12 143 a b [] (by omega) (by omega) (by omega) (by omega)
  obtain ⟨a2, b2, e2⟩ := v_dial_right (k + 2) 12 60 a1 b1 [] (by omega) (by omega) (by omega) (by omega)
  obtain ⟨a3, b3, e3⟩ := v_dial_right (k + 2) 2 3 a2 b2 [] (by omega) (by omega) (by omega) (by omega)
  obtain ⟨a4, b4, e4⟩ := v_dial_right (k + 2) 31 960 a3 b3 [] (by omega) (by omega) (by omega) (by omega)
  obtain ⟨a5, b5, e5⟩ := v_dial_right (k + 2) 5 24 a4 b4 [] (by omega) (by omega) (by omega) (by omega)
  obtain ⟨a6, b6, e6⟩ := v_dial_right (k + 2) 7 50 a5 b5 [] (by omega) (by omega) (by omega) (by omega)
  refine ⟨some (I 7), some (I 50), a6, b6, ?_⟩
  simp [lwF3, lwB3, lwS, rdRaw, rdVar, sizeLine, forL, e1, e2, e3, e4, e5, e6]
theorem Tm_of {t d : Int} (h : 0 < d ∧ d ≤ 10 ^ 6 ∧ 0 ≤ t ∧ t < d) : Tm (Rat.divInt t d) := divInt_Tm h.1 h.2.1 h.2.2.1 h.2.2.2
theorem x1 (k : Nat) (st : Store) : fns T (k + 6) i_partner_of [I 12, .d (.tuple [.int 1, .int 143])] st = some (.d (.tuple [.int 12, .int 143]), st) := by
  have e : (.tuple [.int 1, .int 143] : PyData) = pr (Rat.divInt 1 143) := by kernel_rfl
  have e2 : partner 12 (Rat.divInt 1 143) = .tuple [.int 12, .int 143] := by kernel_rfl
  rw [e, v_partner_of k 12 _ st (by omega) (by omega) (Tm_of (by decide)), e2]
theorem x2 (k : Nat) (st : Store) : fns T (k + 7) i_least_error [I 1, I 12, .d (.tuple [.int 12, .int 143]), .d (.tuple [.int 1, .int 143])] st = some (.d (.tuple [.int 0, .int 1]), st) := by
  have e : (.tuple [.int 1, .int 143] : PyData) = pr (Rat.divInt 1 143) := by kernel_rfl
  have e1 : (.tuple [.int 12, .int 143] : PyData) = pr (Rat.divInt 12 143) := by kernel_rfl
  have e2 : pr (ab (wr 12 (Rat.divInt 12 143) (Rat.divInt 1 143))) = .tuple [.int 0, .int 1] := by kernel_rfl
  rw [e, e1, v_least_error k 12 _ _ st (by omega) (by omega) (Tm_of (by decide)) (Tm_of (by decide)), ← e2]
theorem x3 (k : Nat) (st : Store) : fns T (k + 7) i_least_error [I 1, I 12, .d (.tuple [.int 0, .int 1]), .d (.tuple [.int 1, .int 2])] st = some (.d (.tuple [.int 1, .int 26]), st) := by
  have e : (.tuple [.int 0, .int 1] : PyData) = pr (Rat.divInt 0 1) := by kernel_rfl
  have e1 : (.tuple [.int 1, .int 2] : PyData) = pr (Rat.divInt 1 2) := by kernel_rfl
  have e2 : pr (ab (wr 12 (Rat.divInt 0 1) (Rat.divInt 1 2))) = .tuple [.int 1, .int 26] := by kernel_rfl
  rw [e, e1, v_least_error k 12 _ _ st (by omega) (by omega) (Tm_of (by decide)) (Tm_of (by decide)), ← e2]
theorem x4 (k : Nat) (st : Store) : fns T (k + 6) i_partner_of [I 12, .d (.tuple [.int 1, .int 2])] st = some (.d .none, st) := by
  have e : (.tuple [.int 1, .int 2] : PyData) = pr (Rat.divInt 1 2) := by kernel_rfl
  have e2 : partner 12 (Rat.divInt 1 2) = .none := by kernel_rfl
  rw [e, v_partner_of k 12 _ st (by omega) (by omega) (Tm_of (by decide)), e2]
theorem x5 (k : Nat) (st : Store) : fns T (k + 7) i_nearest_time [I 1, I 2, .d (.tuple [.int 2, .int 3]), .d (.tuple [.int 1, .int 3])] st = some (.d (.tuple [.int 2, .int 3]), st) := by
  have e : (.tuple [.int 2, .int 3] : PyData) = pr (Rat.divInt 2 3) := by kernel_rfl
  have e1 : (.tuple [.int 1, .int 3] : PyData) = pr (Rat.divInt 1 3) := by kernel_rfl
  have e2 : near 2 (Rat.divInt 2 3) (Rat.divInt 1 3) = Rat.divInt 2 3 := by kernel_rfl
  rw [e, e1, v_nearest_time k 2 _ _ st (by omega) (by omega) (Tm_of (by decide)) (Tm_of (by decide)), e2]
theorem x6 (k : Nat) (st : Store) : fns T (k + 7) i_least_error [I 1, I 2, .d (.tuple [.int 1, .int 2]), .d (.tuple [.int 1, .int 4])] st = some (.d (.tuple [.int 1, .int 12]), st) := by
  have e : (.tuple [.int 1, .int 2] : PyData) = pr (Rat.divInt 1 2) := by kernel_rfl
  have e1 : (.tuple [.int 1, .int 4] : PyData) = pr (Rat.divInt 1 4) := by kernel_rfl
  have e2 : pr (ab (wr 2 (Rat.divInt 1 2) (Rat.divInt 1 4))) = .tuple [.int 1, .int 12] := by kernel_rfl
  rw [e, e1, v_least_error k 2 _ _ st (by omega) (by omega) (Tm_of (by decide)) (Tm_of (by decide)), ← e2]
theorem x7 (k : Nat) (st : Store) : fns T (k + 6) i_time_of [.d (.tuple [.tuple [.int 1, .int 60], .tuple [.int 12, .int 60]]), .d (.tuple [.int 0, .int 5])] st = some (.d .none, st) :=
  v_time_of k (a := 12) (d := 60) (m1 := 0) (m2 := 5) st ⟨by decide, by decide, by decide, by decide, by decide, by decide, by decide, by decide⟩
theorem x8 (k : Nat) (st : Store) : fns T (k + 6) i_time_of [.d (.tuple [.tuple [.int 1, .int 143], .tuple [.int 12, .int 143]]), .d (.tuple [.int 12, .int 1])] st = some (.d (.int 12), st) :=
  v_time_of k (a := 12) (d := 143) (m1 := 12) (m2 := 1) st ⟨by decide, by decide, by decide, by decide, by decide, by decide, by decide, by decide⟩
theorem y1 (k : Nat) (st : Store) : fns T (k + 8) i__law_time_right [I 1000, .d (.tuple [.int 1, .int 999])] st = some (.d (.bool true), st) := by
  have e : (.tuple [.int 1, .int 999] : PyData) = pr (Rat.divInt 1 999) := by kernel_rfl
  rw [e, v_time_right k 1000 _ st (by omega) (by omega) (Tm_of (by decide))]
theorem y2 (k : Nat) (st : Store) : fns T (k + 8) i__law_time_right [I 1000, .d (.tuple [.int 500, .int 999])] st = some (.d (.bool true), st) := by
  have e : (.tuple [.int 500, .int 999] : PyData) = pr (Rat.divInt 500 999) := by kernel_rfl
  rw [e, v_time_right k 1000 _ st (by omega) (by omega) (Tm_of (by decide))]
theorem y3 (k : Nat) (st : Store) : fns T (k + 8) i__law_time_right [I 31, .d (.tuple [.int 1, .int 960])] st = some (.d (.bool true), st) := by
  have e : (.tuple [.int 1, .int 960] : PyData) = pr (Rat.divInt 1 960) := by kernel_rfl
  rw [e, v_time_right k 31 _ st (by omega) (by omega) (Tm_of (by decide))]
def ex : D := .list [.tuple [.int 12, .int 143], .tuple [.int 0, .int 1], .tuple [.int 1, .int 26], .none, .tuple [.int 2, .int 3], .tuple [.int 1, .int 12], .none, .int 12]
theorem ex_lk : Lk 2 ex := fun x hx => by
  simp only [List.mem_cons, List.not_mem_nil, or_false] at hx
  rcases hx with rfl | rfl | rfl | rfl | rfl | rfl | rfl | rfl
  all_goals first
    | exact trivial
    | (intro y hy; simp only [List.mem_cons, List.not_mem_nil, or_false] at hy; rcases hy with rfl | rfl <;> exact trivial)
theorem cat_l (xs ys : List D) (h : xs.length + ys.length ≤ sizeLine) : binD .Add (.list xs) (.list ys) = some (.list (xs ++ ys)) := if_pos h
theorem law_pure' (Φ : Fn) (c0 c1 : Int) (h1 : ∀ w2 w3 w4 w5 w6 w7 a b, ∃ w2' w4' w5' w6' a' b', runS Φ lwF1 (lwS w2 w3 w4 w5 w6 w7) [cup a b] = some (.nx, lwS w2' w3 w4' w5' w6' w7, [cup a' b']))
    (h2 : ∀ w2 w3 w4 w5 w6 w7 a b, ∃ w4', runS Φ lwF2 (lwS w2 w3 w4 w5 w6 w7) [cup a b] = some (.nx, lwS w2 w3 w4' w5 w6 w7, [cup a b]))
    (h3 : ∀ w2 w3 w4 w5 w6 w7 a b, ∃ w4' w7' a' b', runS Φ lwF3 (lwS w2 w3 w4 w5 w6 w7) [cup a b] = some (.nx, lwS w2 w3 w4' w5 w6 w7', [cup a' b']))
    (lk : ∀ st, Φ i__law_like [.d ex, .d ex] st = some (.d (.bool true), st))
    (p1 : ∀ st, Φ i_partner_of [I 12, .d (.tuple [.int 1, .int 143])] st = some (.d (.tuple [.int 12, .int 143]), st))
    (p2 : ∀ st, Φ i_least_error [I 1, I 12, .d (.tuple [.int 12, .int 143]), .d (.tuple [.int 1, .int 143])] st = some (.d (.tuple [.int 0, .int 1]), st))
    (p3 : ∀ st, Φ i_least_error [I 1, I 12, .d (.tuple [.int 0, .int 1]), .d (.tuple [.int 1, .int 2])] st = some (.d (.tuple [.int 1, .int 26]), st))
    (p4 : ∀ st, Φ i_partner_of [I 12, .d (.tuple [.int 1, .int 2])] st = some (.d .none, st))
    (p5 : ∀ st, Φ i_nearest_time [I 1, I 2, .d (.tuple [.int 2, .int 3]), .d (.tuple [.int 1, .int 3])] st = some (.d (.tuple [.int 2, .int 3]), st))
    (p6 : ∀ st, Φ i_least_error [I 1, I 2, .d (.tuple [.int 1, .int 2]), .d (.tuple [.int 1, .int 4])] st = some (.d (.tuple [.int 1, .int 12]), st))
    (p7 : ∀ st, Φ i_time_of [.d (.tuple [.tuple [.int 1, .int 60], .tuple [.int 12, .int 60]]), .d (.tuple [.int 0, .int 5])] st = some (.d .none, st))
    (p8 : ∀ st, Φ i_time_of [.d (.tuple [.tuple [.int 1, .int 143], .tuple [.int 12, .int 143]]), .d (.tuple [.int 12, .int 1])] st = some (.d (.int 12), st))
    (q1 : ∀ st, Φ i__law_time_right [I 1000, .d (.tuple [.int 1, .int 999])] st = some (.d (.bool true), st))
    (q2 : ∀ st, Φ i__law_time_right [I 1000, .d (.tuple [.int 500, .int 999])] st = some (.d (.bool true), st))
    (q3 : ∀ st, Φ i__law_time_right [I 31, .d (.tuple [.int 1, .int 960])] st = some (.d (.bool true), st)) :
    ∃ sl' st', runSs Φ b_law (slot1 8) [.lst false [.int c0, .int c1]] = some (.ret (.d (.bool true)), sl', st') := by
  obtain ⟨u2, u4, u5, u6, a1, b1, e1⟩ := h1 none none none none none none c0 c1
  obtain ⟨v4, e2⟩ := h2 u2 (some (.d ex)) u4 u5 u6 none a1 b1
  obtain ⟨z4, z7, a2, b2, e3⟩ := h3 u2 (some (.d ex)) v4 u5 u6 none a1 b1
  refine ⟨lwS u2 (some (.d ex)) z4 u5 u6 z7, [cup a2 b2], ?_⟩
  have hs : slot1 8 = lwS none none none none none none := rfl
  have hc : [Cell.lst false [.int c0, .int c1]] = [cup c0 c1] := rfl
  rw [hs, hc, lw_body]
  have g1 := cat_l [.tuple [.int 12, .int 143], .tuple [.int 0, .int 1]] [.tuple [.int 1, .int 26], .none] (by decide)
  have g2 := cat_l [.tuple [.int 12, .int 143], .tuple [.int 0, .int 1], .tuple [.int 1, .int 26], .none] [.tuple [.int 2, .int 3], .tuple [.int 1, .int 12]] (by decide)
  have g3 := cat_l [.tuple [.int 12, .int 143], .tuple [.int 0, .int 1], .tuple [.int 1, .int 26], .none, .tuple [.int 2, .int 3], .tuple [.int 1, .int 12]] [.none, .int 12] (by decide)
  simp only [List.cons_append, List.nil_append] at g1 g2 g3
  unfold lwS ex at *
  simp [e1, rdRaw, rdVar, sizeLine, p1, p2, p3, p4, p5, p6, p7, p8, g1, g2, g3, lk, e2, e3, q1, q2, q3]
theorem law_pure (k : Nat) (c0 c1 : Int) : ∃ sl' st', runSs (fns T (k + 10)) b_law (slot1 8) [.lst false [.int c0, .int c1]] = some (.ret (.d (.bool true)), sl', st') :=
  law_pure' _ c0 c1 (lw_f1 k) (lw_f2 k) (lw_f3 k) (fun st => v_law_like 2 (k + 6) ex st ex_lk) (x1 (k + 4)) (x2 (k + 3)) (x3 (k + 3)) (x4 (k + 4)) (x5 (k + 3)) (x6 (k + 3)) (x7 (k + 4)) (x8 (k + 4)) (y1 (k + 2)) (y2 (k + 2)) (y3 (k + 2))
end WM.K94
theorem PySem.Challenge.cw_wheelmark_k94_whole_exchanged_hands_read_holds : PySem.Challenge.rw_wheelmark_k94_whole_exchanged_hands_read.Holds := by
  exact WM.K94.holds fun c0 c1 _ _ => WM.K94.law_pure 30 c0 c1
