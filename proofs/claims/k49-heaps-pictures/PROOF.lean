import PyProof.Rows.All
import Wide.All
import OpenK.AllK
import Wide.FinOn
import HandS.ForMost
import HandS.IsInst
import HandS.Codes
import HandS.Walk
import HandS.Flow
import HandS.Defaults
import PyProof.AutoSeq1
import KE.GoesEnum
import KE.GoesMore
import KE.KDictList
import KE.KDictWalk
import HandS.ListItems
import HandS.DictComp
import HandS.AnyAll
import PyProof.GenCompT
import HandS.EndTab
import HandS.TupAny
import HandS.NoneIn
import HandS.Conv
import PySem.Challenge.RW_fullymade_k49_heaps_reached_and_pictured
set_option Elab.async false
set_option maxRecDepth 100000
set_option maxHeartbeats 4000000
namespace My
open PySem L2

/-! ### heaps -/
/-- all that was tracked stays, but at f -/
def Kp (f : Addr) (H H' : Hp) : Prop := ∀ b o, H b = some o → b ≠ f → H' b = some o
theorem Kp.refl (f : Addr) (H : Hp) : Kp f H H := fun _ _ h _ => h
theorem Kp.trans {f : Addr} {H H1 H2 : Hp} (a : Kp f H H1) (b : Kp f H1 H2) : Kp f H H2 := fun c o h hn => b c o (a c o h hn) hn
theorem Kp.of {f : Addr} {H H' : Hp} (a : Same H H') : Kp f H H' := fun c o h _ => a c o h
theorem Kp.upd {f : Addr} {H H' : Hp} {o : HO} (a : Kp f H H') : Kp f H (upd H' f o) := fun c u h hn => by
  rw [upd_ne hn]
  exact a c u h hn
theorem Kp.new {f p : Addr} {H H' : Hp} {o : HO} (a : Kp f H H') (hp : H' p = none) : Kp f H (L2.upd H' p o) := fun c u h hn => by
  rw [upd_ne (ne_of_none (a c u h hn) hp)]
  exact a c u h hn
theorem Same.new {H : Hp} {p : Addr} {o : HO} (h : H p = none) : Same H (upd H p o) := fun b x e => by
  rw [upd_ne (ne_of_none e h)]
  exact e
theorem Same.mut {H H' : Hp} {p : Addr} {o : HO} (s : Same H H') (h : H p = none) : Same H (upd H' p o) := fun b x e => by
  rw [upd_ne (ne_of_none e h)]
  exact s b x e
theorem Kp.seqL {K : PySem.W.Frag} {f a : Addr} {H H' : Hp} {xs : List V} (e : Kp f H H') (h : SqL K H a xs) (hn : a ≠ f) : SqL K H' a xs := by
  rcases h with (h | ⟨o, h⟩) | h
  · exact .inl (.inl (e _ _ h hn))
  · exact .inl (.inr ⟨o, e _ _ h hn⟩)
  · exact .inr h

theorem SqT_k {K : PySem.W.Frag} {H : Hp} {e : Addr} {od : Option Addr} {n : Nat} {sl : Array (Option Value)} (h : K.lookup e = some ⟨.type "tuple", od, .seq #[] n, sl⟩) : SqT K H e [] :=
  .inr ⟨_, #[], n, h, rfl, rfl, Nat.zero_le _, .nil⟩
/-- a def with defaults, from which no exception leaves -/
theorem okD {P : Program} {w : World} {K : PySem.W.Frag} {mg : Str → Option Value} {base : Heap} {x qual : Str} {params : Arguments} {body : List Stmt} {scope : Scope} {dvs : List V} {kws : List (Str × V)} {f : Addr} {fd : FuncData} {N ps : List Str} {k : Nat} {sp : Sp}
    (F : FunD K x qual params body scope dvs kws f fd) (S : FnScope N ps scope) (len : ∀ vs H Q E, sp vs H Q E → vs.length = ps.length)
    (hbody : ∀ (cdv : Value) (A : Around) (outer : List Env) (s : Shared) (H : Hp) (vs : List V) (Q : VK) (E : XK), Room k (A.deeper (PyProof.Rows.envOfC qual scope s.heap.objs.size f cdv)) → sp vs H Q E →
      ∃ t, PSs (cxOf CX0 P w K mg base N qual scope f cdv A outer s H E).nox body t ∧ t { nx := fun _ H' => Q .non H', rt := Q } (L2.start N vs) H) : FnOk P w K mg base CX0 (k + 1) f fd ps sp :=
  F.ok S len fun cdv A outer s H vs Q E hr hsp => by
    obtain ⟨t, h, q⟩ := hbody cdv A outer s H vs Q E hr hsp
    exact ⟨t, h.nox, q⟩

/-- a promise that asks for what cannot be -/
theorem okNo {P : Program} {w : World} {K : PySem.W.Frag} {mg : Str → Option Value} {base : Heap} {CX : CXT} {k : Nat} {f : Addr} {fd : FuncData} {ps : List Str} {sp : Sp} (h : ∀ vs H Q E, ¬ sp vs H Q E) : FnOk P w K mg base CX k f fd ps sp :=
  ⟨fun _ _ _ _ q => (h _ _ _ _ q).elim, fun _ _ _ _ _ _ _ _ _ _ _ _ _ q => (h _ _ _ _ q).elim⟩

/-! ### the feed -/
/-- at f the feed of a law's draws stands, its numbers at l; at most n draws have been made -/
def FeedAt (H : Hp) (f l : Addr) (n : Nat) : Prop :=
  ∃ (ns : List Int) (i tot : Int), H f = some (.lst [.ref l, .int i, .int tot, .int 0, .int 20]) ∧ H l = some (.lst (ns.map V.int)) ∧ l ≠ f ∧
    (∀ x ∈ ns, 0 ≤ x) ∧ 0 ≤ i ∧ i ≤ n ∧ 0 ≤ tot ∧ tot < 2147483648
theorem FeedAt.mono {H : Hp} {f l : Addr} {n m : Nat} (h : FeedAt H f l n) (hm : n ≤ m) : FeedAt H f l m := by
  obtain ⟨ns, i, tot, h1, h2, h3, h4, h5, h6, h7, h8⟩ := h
  exact ⟨ns, i, tot, h1, h2, h3, h4, h5, by omega, h7, h8⟩
/-- nothing that the feed leans on has changed -/
theorem FeedAt.same {H H' : Hp} {f l : Addr} {n : Nat} (h : FeedAt H f l n) (s : Same H H') : FeedAt H' f l n := by
  obtain ⟨ns, i, tot, h1, h2, h3⟩ := h
  exact ⟨ns, i, tot, s _ _ h1, s _ _ h2, h3⟩
theorem FeedAt.ne {H : Hp} {f l p : Addr} {n : Nat} (h : FeedAt H f l n) (hp : H p = none) : p ≠ f := by
  obtain ⟨ns, i, tot, h1, _⟩ := h
  exact (ne_of_none h1 hp).symm
theorem FeedAt.nl {H : Hp} {f l p : Addr} {n : Nat} (h : FeedAt H f l n) (hp : H p = none) : p ≠ l := by
  obtain ⟨ns, i, tot, _, h1, _⟩ := h
  exact (ne_of_none h1 hp).symm
/-- a new object -/
theorem FeedAt.upd {H : Hp} {f l p : Addr} {n : Nat} {o : HO} (h : FeedAt H f l n) (hp : H p = none) : FeedAt (L2.upd H p o) f l n := h.same (My.Same.new hp)
/-- another object is changed -/
theorem FeedAt.oth {H : Hp} {f l p : Addr} {n : Nat} {o : HO} (h : FeedAt H f l n) (h1 : p ≠ f) (h2 : p ≠ l) : FeedAt (L2.upd H p o) f l n := by
  obtain ⟨ns, i, tot, g1, g2, h3⟩ := h
  exact ⟨ns, i, tot, by rw [upd_ne h1.symm]; exact g1, by rw [upd_ne h2.symm]; exact g2, h3⟩
/-- the new object at p grows, the rest is kept -/
theorem Kp.grow {f p : Addr} {H H' : Hp} {o : HO} (a : Kp f H H') (hp : H p = none) : Kp f H (L2.upd H' p o) := fun c u h hn => by
  rw [upd_ne (ne_of_none h hp)]
  exact a c u h hn

/-- a draw: some number below many -/
def spDraw : Sp := fun vs H Q _ => ∃ (f l : Addr) (m : Int) (n : Nat), vs = [.ref f, .int m] ∧ FeedAt H f l n ∧ n ≤ 1000000 ∧ 0 < m ∧
  ∀ (v : Int) (H' : Hp), 0 ≤ v → v < m → Kp f H H' → FeedAt H' f l (n + 1) → Q (.int v) H'
/-- the feed is made out of the script -/
def spFeed (K : PySem.W.Frag) : Sp := fun vs H Q _ => ∃ (a : Addr) (ns : List Int), vs = [.ref a] ∧ SqL K H a (ns.map V.int) ∧ ns.length ≤ 63 ∧
  ∀ (f l : Addr) (H' : Hp), Same H H' → H f = none → FeedAt H' f l 0 → Q (.ref f) H'
/-! ### readings, step by step -/
section
variable {CX : CXT} {P : Program} {w : World} {K : PySem.W.Frag} {mg : Str → Option Value} {base : Heap} {N : List Str} {qual : Str} {scope : Scope} {f : Addr} {cd : Value} {A : Around} {outer : List Env} {s : Shared} {H : Hp} {E : XK}
theorem cxK : (cxOf CX P w K mg base N qual scope f cd A outer s H E).K = K := rfl
theorem cxKn : (cxOf CX P w K mg base N qual scope f cd A outer s H E).nox.K = K := rfl
end
theorem sig {t : TS} {D : Ends} {σ : St} {H : Hp} (σ' : St) (e : σ = σ') (h : t D σ' H) : t D σ H := e ▸ h
theorem seqCut {t u : TS} {D : Ends} {σ : St} {H : Hp} (h : ∀ N : St → Hp → Prop, N = u D → t { D with nx := N } σ H) : tSeq t u D σ H := h _ rfl
theorem lastCut {t : TS} {D : Ends} {σ : St} {H : Hp} (h : ∀ N : St → Hp → Prop, N = D.nx → t { D with nx := N } σ H) : t D σ H := h _ rfl
theorem gN {i : Nat} {v : V} {σ : St} {H : Hp} {Q : St → Hp → Prop} (h : Q (σ.set i (some v)) H) : gName i v σ H Q := h
theorem scal_ii (i j : Int) : scal (.int i) (.int j) = true := rfl
theorem scal_ss (x y : Str) : scal (.str x) (.str y) = true := rfl
theorem scal_bb (x y : Bool) : scal (.bl x) (.bl y) = true := rfl
theorem truv_str {K : PySem.W.Frag} {y : Str} {H : Hp} {k : Bool} : TruV K (.str y) H k ↔ (y.length ≤ sizeLine ∧ k = ((y.length : Int) != 0)) := Iff.rfl
theorem truv_int {K : PySem.W.Frag} {i : Int} {H : Hp} {k : Bool} : TruV K (.int i) H k ↔ k = (i != 0) := Iff.rfl
theorem truv_bl {K : PySem.W.Frag} {b : Bool} {H : Hp} {k : Bool} : TruV K (.bl b) H k ↔ k = b := Iff.rfl
theorem truv_non {K : PySem.W.Frag} {H : Hp} {k : Bool} : TruV K .non H k ↔ k = false := Iff.rfl
theorem sgn_inj (a b : Nat) : ((⟨#[a]⟩ : Str) = ⟨#[b]⟩) = (a = b) := by
  refine propext ⟨fun h => ?_, fun h => by rw [h]⟩
  injection h with h
  injection h with h
  injection h
theorem ifCut {c : TT} {t u : TS} {D : Ends} {σ : St} {H : Hp} (h : ∀ A B : St → Hp → Prop, A = t D → B = u D → c σ H fun b H1 => if b = true then A σ H1 else B σ H1) : tIfS c t u D σ H := h _ _ rfl rfl
/-- an if without else, something behind -/
theorem ifRet {c : TT} {t u : TS} {D : Ends} {σ : St} {H : Hp} (h : ∀ A B : St → Hp → Prop, A = t { D with nx := u D } → B = u D → c σ H fun b H1 => if b = true then A σ H1 else B σ H1) : tSeq (tIfS c t tNext) u D σ H := h _ _ rfl rfl
theorem retCut {te : TE} {D : Ends} {σ : St} {H : Hp} (h : ∀ N : VK, N = D.rt → te σ H N) : tRet te D σ H := h _ rfl

/-! ### loops -/
section
variable {J : It} {n : Nat} {G : Hp → Prop} {Y : Nat → Hp → V → Hp → Prop} {wi : TI} {g : TG} {tb : TS} {tt : TT} {te : TE} {vs : List Nat} {D : Ends} {σ : St} {H : Hp}
/-- a for's turns -/
def ForW (J : It) (g : TG) (tb : TS) (D : Ends) (σ : St) (H : Hp) : Prop := ∃ W : Nat → Nat → St → Hp → Prop, (∃ m, W 0 m σ H) ∧ ∀ i m σ H, W i m σ H →
  (J.stop i H ∧ D.nx σ H) ∨ (J.go i H ∧ ∃ N : St → Hp → Prop, (∀ σ' H', N σ' H' → ∃ m', m' < m ∧ W (i + 1) m' σ' H') ∧ ∀ x H', J.yld i H x H' → g x σ H' fun σ2 H2 => tb { D with nx := N, ct := N, bk := D.nx } σ2 H2)
theorem forCut (h : ∀ B N, B = tb → N = D.nx → wi σ H fun J H1 => ForW J g B { D with nx := N } σ H1) : tFor wi g tb D σ H := h _ _ rfl rfl
theorem ForW.by (w : Walk J n G Y) (Pv : Nat → St → Hp → Prop) (h0 : Pv 0 σ H) (hG : ∀ i σ H, i ≤ n → Pv i σ H → G H)
    (hs : ∀ i x σ H H', i < n → Pv i σ H → Y i H x H' → g x σ H' fun σ2 H2 => tb { D with nx := Pv (i + 1), ct := Pv (i + 1), bk := D.nx } σ2 H2) (hd : ∀ σ H, Pv n σ H → D.nx σ H) : ForW J g tb D σ H := for_it w Pv h0 hG hs hd
theorem ForW.rng {lo : Int} (Pv : Nat → St → Hp → Prop) (h0 : Pv 0 σ H) (hs : ∀ i σ H, i < n → Pv i σ H → g (.int (lo + i)) σ H fun σ2 H2 => tb { D with nx := Pv (i + 1), ct := Pv (i + 1), bk := D.nx } σ2 H2) (hd : ∀ σ H, Pv n σ H → D.nx σ H) : ForW (Itr lo n) g tb D σ H := for_range Pv h0 hs hd
/-- a comprehension's turns -/
def LcW (J : It) (g : TG) (tt : TT) (te : TE) (vs : List Nat) (σ : St) (H1 : Hp) (D : Addr) (Q : VK) : Prop := ∃ W : Nat → Nat → Hp → Prop, (∃ m, W 0 m (upd H1 D (.lst []))) ∧ ∀ i m H, W i m H →
  (J.stop i H ∧ Q (.ref D) H) ∨ (J.go i H ∧ ∃ Nx : Hp → Prop, (∀ H', Nx H' → ∃ m', m' < m ∧ W (i + 1) m' H') ∧ ∀ x H', J.yld i H x H' → g x (wipe σ vs) H' fun σ2 H2 => wipe σ2 vs = wipe σ vs ∧ tt σ2 H2 fun b H3 =>
    if b = true then te σ2 H3 fun y H4 => ∃ acc, H4 D = some (.lst acc) ∧ acc.length < sizeLine ∧ Nx (upd H4 D (.lst (acc ++ [y]))) else Nx H3)
theorem tLc_eq : tLc wi g tt te vs = fun σ H Q => wi σ H fun J H1 => ∀ D, H1 D = none → LcW J g tt te vs σ H1 D Q := rfl
theorem LcW.by {Da : Addr} {Q : VK} (w : Walk J n G Y) (Pv : Nat → Hp → Prop) (h0 : Pv 0 (upd H Da (.lst []))) (hG : ∀ i H, i ≤ n → Pv i H → G H)
    (hs : ∀ i x H H', i < n → Pv i H → Y i H x H' → g x (wipe σ vs) H' fun σ2 H2 => wipe σ2 vs = wipe σ vs ∧ tt σ2 H2 fun b H3 =>
      if b = true then te σ2 H3 fun y H4 => ∃ acc, H4 Da = some (.lst acc) ∧ acc.length < sizeLine ∧ Pv (i + 1) (upd H4 Da (.lst (acc ++ [y]))) else Pv (i + 1) H3) (hd : ∀ H, Pv n H → Q (.ref Da) H) : LcW J g tt te vs σ H Da Q := lc_it w Pv h0 hG hs hd
theorem LcW.rng {Da : Addr} {Q : VK} {lo : Int} (Pv : Nat → Hp → Prop) (h0 : Pv 0 (upd H Da (.lst [])))
    (hs : ∀ i H, i < n → Pv i H → g (.int (lo + i)) (wipe σ vs) H fun σ2 H2 => wipe σ2 vs = wipe σ vs ∧ tt σ2 H2 fun b H3 =>
      if b = true then te σ2 H3 fun y H4 => ∃ acc, H4 Da = some (.lst acc) ∧ acc.length < sizeLine ∧ Pv (i + 1) (upd H4 Da (.lst (acc ++ [y]))) else Pv (i + 1) H3) (hd : ∀ H, Pv n H → Q (.ref Da) H) : LcW (Itr lo n) g tt te vs σ H Da Q := lc_range Pv h0 hs hd
end

/-! ### draws -/
/-- an item of a text or a list is drawn -/
def spPick (K : PySem.W.Frag) : Sp := fun vs H Q _ => ∃ (f l : Addr) (row : V) (n : Nat), vs = [.ref f, row] ∧ FeedAt H f l n ∧ n ≤ 1000000 ∧
  ((∃ z : Str, row = .str z ∧ 0 < z.length ∧ z.length ≤ 1000 ∧ ∀ (c : Nat) (H' : Hp), c ∈ z.cps.toList → Kp f H H' → FeedAt H' f l (n + 1) → Q (.str ⟨#[c]⟩) H') ∨
   (∃ (a : Addr) (xs : List V), row = .ref a ∧ a ≠ f ∧ SqL K H a xs ∧ 0 < xs.length ∧ ∀ (v : V) (H' : Hp), v ∈ xs → Kp f H H' → FeedAt H' f l (n + 1) → Q v H'))
theorem at_mem {α : Type} {xs : List α} {v : Int} (h0 : 0 ≤ v) (h1 : v < xs.length) : ∃ x, atI xs v = some x ∧ x ∈ xs := by
  obtain ⟨j, rfl⟩ : ∃ j : Nat, v = (j : Int) := ⟨v.toNat, by omega⟩
  have hj : j < xs.length := by omega
  exact ⟨xs[j], atI_nat (List.getElem?_eq_getElem hj), List.getElem_mem hj⟩
end My

namespace My
open PySem L2

/-! ### data that never changes: None, truth values, numbers, texts, tuples of such -/
mutual
def imm : PyData → Bool
  | .tuple ds => immL ds
  | .list _ => false
  | .dict _ => false
  | .none => true
  | .bool _ => true
  | .int _ => true
  | .str _ => true
def immL : List PyData → Bool
  | [] => true
  | d :: r => imm d && immL r
end
theorem immL_iff : ∀ {ds : List PyData}, immL ds = true ↔ ∀ d ∈ ds, imm d = true
  | [] => by simp [immL]
  | d :: r => by
    rw [immL, Bool.and_eq_true, immL_iff (ds := r)]
    simp
/-- every tuple that stood stands -/
def KeepT (K : PySem.W.Frag) (H H' : Hp) : Prop := ∀ a xs, SqT K H a xs → SqT K H' a xs
theorem KeepT.refl {K : PySem.W.Frag} (H : Hp) : KeepT K H H := fun _ _ h => h
theorem KeepT.trans {K : PySem.W.Frag} {H H1 H2 : Hp} (a : KeepT K H H1) (b : KeepT K H1 H2) : KeepT K H H2 := fun p xs h => b p xs (a p xs h)
theorem KeepT.of {K : PySem.W.Frag} {H H' : Hp} (s : Same H H') : KeepT K H H' := fun a xs h => by
  rcases h with (h | ⟨o, h⟩) | h
  · exact .inl (.inl (s _ _ h))
  · exact .inl (.inr ⟨o, s _ _ h⟩)
  · exact .inr h
/-- no tuple stands at a -/
def NoTup (H : Hp) (a : Addr) : Prop := (∀ xs, H a ≠ some (.tup xs)) ∧ ∀ o xs, H a ≠ some (.frz o (.tup xs))
theorem NoTup.lst {H : Hp} {a : Addr} {xs : List V} (h : H a = some (.lst xs)) : NoTup H a := ⟨fun _ e => (by rw [h] at e; cases e), fun _ _ e => (by rw [h] at e; cases e)⟩
theorem NoTup.ins {H : Hp} {a C dx : Addr} {fs : List (Str × V)} (h : H a = some (.ins C dx fs)) : NoTup H a := ⟨fun _ e => (by rw [h] at e; cases e), fun _ _ e => (by rw [h] at e; cases e)⟩
theorem NoTup.dK {H : Hp} {a : Addr} {kvs : List (Key × V)} (h : H a = some (.dK kvs)) : NoTup H a := ⟨fun _ e => (by rw [h] at e; cases e), fun _ _ e => (by rw [h] at e; cases e)⟩
theorem NoTup.dT {H : Hp} {a : Addr} {kvs : List (List Key × V)} (h : H a = some (.dT kvs)) : NoTup H a := ⟨fun _ e => (by rw [h] at e; cases e), fun _ _ e => (by rw [h] at e; cases e)⟩
theorem NoTup.none {H : Hp} {a : Addr} (h : H a = none) : NoTup H a := ⟨fun _ e => (by rw [h] at e; cases e), fun _ _ e => (by rw [h] at e; cases e)⟩
theorem KeepT.upd {K : PySem.W.Frag} {H : Hp} {a : Addr} {o : HO} (n : NoTup H a) : KeepT K H (L2.upd H a o) := fun b xs h => by
  rcases h with (h | ⟨u, h⟩) | h
  · have hb : b ≠ a := fun e => n.1 xs (e ▸ h)
    exact .inl (.inl (by rw [upd_ne hb]; exact h))
  · have hb : b ≠ a := fun e => n.2 u xs (e ▸ h)
    exact .inl (.inr ⟨u, by rw [upd_ne hb]; exact h⟩)
  · exact .inr h
theorem Kp.keepT {K : PySem.W.Frag} {f : Addr} {H H' : Hp} (k : Kp f H H') (n : NoTup H f) : KeepT K H H' := fun b xs h => by
  rcases h with (h | ⟨u, h⟩) | h
  · exact .inl (.inl (k _ _ h fun e => n.1 xs (e ▸ h)))
  · exact .inl (.inr ⟨u, k _ _ h fun e => n.2 u xs (e ▸ h)⟩)
  · exact .inr h
theorem FeedAt.noTup {H : Hp} {f l : Addr} {n : Nat} (h : FeedAt H f l n) : NoTup H f := by
  obtain ⟨ns, i, tot, h1, _⟩ := h
  exact .lst h1
mutual
theorem Dp.keep {K : PySem.W.Frag} {H H' : Hp} (k : KeepT K H H') : ∀ {d : PyData} {v : V}, imm d = true → Dp K H v d → Dp K H' v d
  | _, _, _, .non => .non
  | _, _, _, .bl b => .bl b
  | _, _, _, .int i => .int i
  | _, _, _, .str x => .str x
  | _, _, hi, .lst _ _ => by simp [imm] at hi
  | _, _, hi, .tup h r => .tup (k _ _ h) (DpAll.keep k (by simpa [imm] using hi) r)
theorem DpAll.keep {K : PySem.W.Frag} {H H' : Hp} (k : KeepT K H H') : ∀ {ds : List PyData} {vs : List V}, immL ds = true → DpAll K H vs ds → DpAll K H' vs ds
  | _, _, _, .nil => .nil
  | _, _, hi, .cons a r => by
    rw [immL, Bool.and_eq_true] at hi
    exact .cons (Dp.keep k hi.1 a) (DpAll.keep k hi.2 r)
end
/-- v is the data d, for good -/
def Rp (K : PySem.W.Frag) (H : Hp) (v : V) (d : PyData) : Prop := Dp K H v d ∧ imm d = true
def RpL (K : PySem.W.Frag) (H : Hp) (vs : List V) (ds : List PyData) : Prop := DpAll K H vs ds ∧ immL ds = true
section
variable {K : PySem.W.Frag} {H H' : Hp} {v : V} {d : PyData} {vs : List V} {ds : List PyData}
theorem Rp.keep (h : Rp K H v d) (k : KeepT K H H') : Rp K H' v d := ⟨Dp.keep k h.2 h.1, h.2⟩
theorem RpL.keep (h : RpL K H vs ds) (k : KeepT K H H') : RpL K H' vs ds := ⟨DpAll.keep k h.2 h.1, h.2⟩
theorem Rp.same (h : Rp K H v d) (s : Same H H') : Rp K H' v d := h.keep (.of s)
theorem RpL.same (h : RpL K H vs ds) (s : Same H H') : RpL K H' vs ds := h.keep (.of s)
theorem Rp.non : Rp K H .non .none := ⟨.non, rfl⟩
theorem Rp.bl (b : Bool) : Rp K H (.bl b) (.bool b) := ⟨.bl b, rfl⟩
theorem Rp.int (i : Int) : Rp K H (.int i) (.int i) := ⟨.int i, rfl⟩
theorem Rp.str (x : Str) : Rp K H (.str x) (.str x) := ⟨.str x, rfl⟩
theorem RpL.nil : RpL K H [] [] := ⟨.nil, rfl⟩
theorem RpL.cons (h : Rp K H v d) (r : RpL K H vs ds) : RpL K H (v :: vs) (d :: ds) := ⟨.cons h.1 r.1, by rw [immL, h.2, r.2]; rfl⟩
theorem Rp.tup {a : Addr} (h : SqT K H a vs) (r : RpL K H vs ds) : Rp K H (.ref a) (.tuple ds) := ⟨.tup h r.1, by rw [imm]; exact r.2⟩
theorem Rp.inv (h : Rp K H v (.tuple ds)) : ∃ a vs, v = .ref a ∧ SqT K H a vs ∧ RpL K H vs ds := by
  obtain ⟨h, hi⟩ := h
  cases h with
  | tup h r => exact ⟨_, _, rfl, h, r, by simpa [imm] using hi⟩
theorem Rp.inv_int {i : Int} (h : Rp K H v (.int i)) : v = .int i := by
  obtain ⟨h, _⟩ := h
  cases h
  rfl
theorem Rp.inv_str {x : Str} (h : Rp K H v (.str x)) : v = .str x := by
  obtain ⟨h, _⟩ := h
  cases h
  rfl
theorem Rp.inv_non (h : Rp K H v .none) : v = .non := by
  obtain ⟨h, _⟩ := h
  cases h
  rfl
theorem Rp.inv_bl {b : Bool} (h : Rp K H v (.bool b)) : v = .bl b := by
  obtain ⟨h, _⟩ := h
  cases h
  rfl
theorem RpL.inv_cons (h : RpL K H vs (d :: ds)) : ∃ v r, vs = v :: r ∧ Rp K H v d ∧ RpL K H r ds := by
  obtain ⟨h, hi⟩ := h
  rw [immL, Bool.and_eq_true] at hi
  cases h with
  | cons a r => exact ⟨_, _, rfl, ⟨a, hi.1⟩, r, hi.2⟩
theorem RpL.inv_nil (h : RpL K H vs []) : vs = [] := by
  obtain ⟨h, _⟩ := h
  cases h
  rfl
theorem RpL.len : ∀ {vs : List V} {ds : List PyData}, RpL K H vs ds → vs.length = ds.length
  | _, [], h => by rw [h.inv_nil]; rfl
  | _, d :: ds, h => by
    obtain ⟨v, r, rfl, _, hr⟩ := h.inv_cons
    rw [List.length_cons, List.length_cons, RpL.len hr]
theorem RpL.get : ∀ {vs : List V} {ds : List PyData} {i : Nat} {d : PyData}, RpL K H vs ds → ds[i]? = some d → ∃ v, vs[i]? = some v ∧ Rp K H v d
  | _, [], _, _, _, e => by simp at e
  | _, d :: ds, 0, _, h, e => by
    obtain ⟨v, r, rfl, hv, _⟩ := h.inv_cons
    have e : d = _ := Option.some.inj e
    subst e
    exact ⟨v, rfl, hv⟩
  | _, d :: ds, i + 1, _, h, e => by
    obtain ⟨v, r, rfl, _, hr⟩ := h.inv_cons
    obtain ⟨w, e1, e2⟩ := RpL.get (i := i) hr (by simpa using e)
    exact ⟨w, by simpa using e1, e2⟩
theorem RpL.append : ∀ {vs ws : List V} {ds es : List PyData}, RpL K H vs ds → RpL K H ws es → RpL K H (vs ++ ws) (ds ++ es)
  | _, _, [], _, h, g => by
    rw [h.inv_nil]
    exact g
  | _, _, d :: ds, _, h, g => by
    obtain ⟨v, r, rfl, hv, hr⟩ := h.inv_cons
    exact .cons hv (RpL.append hr g)
theorem RpL.snoc (h : RpL K H vs ds) (g : Rp K H v d) : RpL K H (vs ++ [v]) (ds ++ [d]) := h.append (.cons g .nil)
theorem RpL.mem {ds : List PyData} (h : RpL K H vs ds) {v : V} (m : v ∈ vs) : ∃ d ∈ ds, Rp K H v d := by
  obtain ⟨i, hi⟩ := List.getElem?_of_mem m
  have hl : i < ds.length := by
    rw [← h.len]
    exact (List.getElem?_eq_some_iff.mp hi).1
  obtain ⟨v', e, r⟩ := h.get (List.getElem?_eq_getElem hl)
  rw [hi] at e
  cases e
  exact ⟨_, List.getElem_mem hl, r⟩
/-- an item of a tuple that stands -/
theorem Rp.at {ds : List PyData} (h : Rp K H v (.tuple ds)) {i : Nat} {d : PyData} (e : ds[i]? = some d) : ∃ a xs w, v = .ref a ∧ SqT K H a xs ∧ atI xs (i : Int) = some w ∧ Rp K H w d := by
  obtain ⟨a, xs, rfl, hT, hL⟩ := h.inv
  obtain ⟨w, e1, e2⟩ := hL.get e
  exact ⟨a, xs, w, rfl, hT, atI_nat e1, e2⟩
/-- a new tuple -/
theorem Rp.new {p : Addr} (hp : H p = none) (h : RpL K H vs ds) : Rp K (upd H p (.tup vs)) (.ref p) (.tuple ds) := .tup (SqT.of upd_same) (h.keep (.upd (.none hp)))
theorem RpL.map {α : Type} {f : α → V} {g : α → PyData} : ∀ {xs : List α}, (∀ x ∈ xs, Rp K H (f x) (g x)) → RpL K H (xs.map f) (xs.map g)
  | [], _ => .nil
  | x :: r, h => .cons (h x List.mem_cons_self) (RpL.map fun y hy => h y (List.mem_cons_of_mem _ hy))
/-- a list of data stands at a -/
def LsAt (K : PySem.W.Frag) (H : Hp) (a : Addr) (ds : List PyData) : Prop := ∃ vs, H a = some (.lst vs) ∧ RpL K H vs ds
end

/-! ### how deep, how wide -/
mutual
def depD : PyData → Nat
  | .tuple ds => depL ds + 1
  | .list _ => 0
  | .dict _ => 0
  | .none => 0
  | .bool _ => 0
  | .int _ => 0
  | .str _ => 0
def depL : List PyData → Nat
  | [] => 0
  | d :: r => max (depD d) (depL r)
end
theorem depL_mem : ∀ {ds : List PyData} {d : PyData}, d ∈ ds → depD d ≤ depL ds
  | d :: r, e, h => by
    rw [depL]
    rcases List.mem_cons.mp h with rfl | h
    · exact Nat.le_max_left _ _
    · exact Nat.le_trans (depL_mem h) (Nat.le_max_right _ _)
theorem depL_le {n : Nat} : ∀ {ds : List PyData}, (∀ d ∈ ds, depD d ≤ n) → depL ds ≤ n
  | [], _ => Nat.zero_le _
  | d :: r, h => by
    rw [depL]
    exact Nat.max_le.mpr ⟨h d List.mem_cons_self, depL_le fun e he => h e (List.mem_cons_of_mem _ he)⟩
mutual
def szD : PyData → Nat
  | .tuple ds => szL ds + 1
  | .list _ => 1
  | .dict _ => 1
  | .none => 1
  | .bool _ => 1
  | .int _ => 1
  | .str _ => 1
def szL : List PyData → Nat
  | [] => 0
  | d :: r => szD d + szL r
end
theorem szD_pos (d : PyData) : 1 ≤ szD d := by
  cases d <;> simp [szD]
theorem szL_len : ∀ {ds : List PyData}, ds.length ≤ szL ds
  | [] => Nat.zero_le _
  | d :: r => by
    have h1 := szD_pos d
    have h2 := szL_len (ds := r)
    rw [szL, List.length_cons]
    omega
theorem szL_mem : ∀ {ds : List PyData} {d : PyData}, d ∈ ds → szD d ≤ szL ds
  | d :: r, e, h => by
    rw [szL]
    rcases List.mem_cons.mp h with rfl | h
    · omega
    · have := szL_mem h
      omega
theorem szL_append : ∀ {ds es : List PyData}, szL (ds ++ es) = szL ds + szL es
  | [], es => by simp [szL]
  | d :: r, es => by
    show szL (d :: (r ++ es)) = _
    rw [szL, szL, szL_append]
    omega
theorem szL_le {n : Nat} : ∀ {ds : List PyData}, (∀ d ∈ ds, szD d ≤ n) → szL ds ≤ n * ds.length
  | [], _ => Nat.zero_le _
  | d :: r, h => by
    have h1 := h d List.mem_cons_self
    have h2 := szL_le (ds := r) fun e he => h e (List.mem_cons_of_mem _ he)
    rw [szL, List.length_cons, Nat.mul_succ]
    omega
theorem tyx_sqT {K : PySem.W.Frag} {H : Hp} {a : Addr} {xs : List V} (h : SqT K H a xs) : TyX K H (.ref a) (.type "tuple") := by
  rcases h with (h | ⟨o, h⟩) | ⟨o, its, n, h1, h2, _⟩
  · exact .base (.tup h)
  · exact .fTuple h
  · exact .kTuple h1 h2
/-- what a datum's class is -/
def tyD : PyData → String
  | .none => "NoneType" | .bool _ => "bool" | .int _ => "int" | .str _ => "str" | .tuple _ => "tuple" | .list _ => "list" | .dict _ => "dict"
theorem Rp.ty {K : PySem.W.Frag} {H : Hp} {v : V} {d : PyData} (h : Rp K H v d) : TyX K H v (.type (tyD d)) := by
  obtain ⟨h, hi⟩ := h
  cases h with
  | non => exact .base .non
  | bl b => exact .base (.bl b)
  | int i => exact .base (.int i)
  | str x => exact .base (.str x)
  | lst h r => simp [imm] at hi
  | tup h r => exact tyx_sqT h
end My

namespace My
open PySem L2 PySem.AutoSeq1
theorem extend_tuple (l : Addr) (items : Array Value) (n : Nat) (b : Addr) (items2 : Array Value) (n2 : Nat) (od : Option Addr) (sl : Array (Option Value)) (hs0 : ¬(!items.isEmpty && Builtin.List.listTooLong (items.size + items2.size)) = true) (hs1 : items.size ≤ sizeLine) (hs2 : items.size + items2.size ≤ sizeLine + 1) :
    Meets (Builtin.«list.extend» ⟨[.ref l, .ref b], []⟩) (fun _ R s => s.heap.get? l = some { cls := .type "list", dict := none, data := .seq items n, slots := #[] } ∧ s.heap.get? b = some { cls := .type "tuple", dict := od, data := .seq items2 n2, slots := sl } ∧ R (.ok (.ret Value.none)) { s with heap := s.heap.update l (Obj.mapSeq fun x => x ++ items2), toks := s.toks }) :=
  .of_wp fun prog w A R s h => by
    obtain ⟨hp, g, d, tk, os⟩ := s; obtain ⟨hl, hb, h⟩ := h; have f1 := idx_int; have f2 := sub_tuple_tuple; have f3 := sub_list_list; have f4 := sub_tuple_list; have f5 := sub_list_tuple;
    have hz' : (items ++ items2).size ≤ sizeLine + 1 := by rw [Array.size_append]; exact hs2
    wp_walk using (wpAny_updateSeq hl rfl (hz := hs1) (_hz' := hz')), wpAny_loadPart' hl, wpAny_loadPart' hb; exact ⟨_, rfl, h⟩
section
variable {X : Cx}
/-- xs.extend(t), t a tuple -/
def rExtendT (K : PySem.W.Frag) : V → List V → Hp → VK → Prop := fun x vs H Q => ∃ l b xs zs, x = .ref l ∧ vs = [.ref b] ∧ H l = some (.lst xs) ∧ SqT K H b zs ∧ xs.length + zs.length ≤ sizeLine ∧ Q .non (upd H l (.lst (xs ++ zs)))
theorem mt_extendT : MtM X "list.extend" (rExtendT X.K) := by
  intro pins s σ H x vs v us Q I rx rv h
  obtain ⟨l, b, xs, zs, rfl, rfl, hH, hB, hz, q⟩ := h
  cases rx
  obtain ⟨u, rfl, ru⟩ := rv.one
  cases ru
  obtain ⟨z, its, n, r, hl, e⟩ := I.lstM hH
  obtain ⟨its2, r2, ⟨o, e2, hc, n2, hd⟩, hl2⟩ := I.tuple hB
  obtain ⟨oc, od, dt, sl⟩ := o
  simp only at hc hd
  subst hc hd
  have hl3 := r2.length
  have hsz : its.toArray.size + its2.toArray.size ≤ sizeLine := by rw [List.size_toArray, List.size_toArray]; omega
  have hlong : ¬ (!its.toArray.isEmpty && Builtin.List.listTooLong (its.toArray.size + its2.toArray.size)) = true := by
    rw [notLongL hsz, Bool.and_false]
    exact Bool.false_ne_true
  refine call_meets PySem.F.slot_list_extend ⟨_, e, rfl⟩ PySem.F.entry_list_extend (PySem.F.args_list_extend_2 _ _)
    (extend_tuple l its.toArray n b its2.toArray n2 od sl hlong (by rw [List.size_toArray]; omega) (by omega)) ⟨e, e2, ?_⟩
  refine ⟨.non, _, I.lset (its' := its ++ its2) hH e (by simp) (r.append r2) ?_, rfl, q⟩
  rw [List.length_append]
  omega
end
end My

namespace My
open PySem PySem.Spec PyProof.Rows L2
/-! ### enumerate(tuple) -/
set_option maxHeartbeats 1000000 in
theorem meets_enumerate_new1 {v : Value} {o : Obj} {H : Heap → Prop} (B : Begins v o H) :
    Meets (Builtin.«enumerate.__new__» ⟨[.type "enumerate", v], []⟩) (fun _ R s => H s.heap ∧
      R (.ok (.ret (.ref (s.heap.push o).objs.size))) { s with heap := (s.heap.push o).push { cls := .type "enumerate", data := .fields #[.none, .bool false, .ref s.heap.objs.size, rawInt 0, .none, .none] } }) :=
  .of_wp fun prog w A R s h => by
    obtain ⟨hp, g, d, tk, os⟩ := s; obtain ⟨h1, h⟩ := h
    have hsub := sub_enumerate
    have q1 : ∀ {A' : Around} {E : Value → Shared → Prop} {Q : Value → Shared → Prop}, Q (.ref hp.objs.size) ⟨hp.push o, g, d, tk, os⟩ → wpAny (model prog w) A' (pyIter v) Q E ⟨hp, g, d, tk, os⟩ :=
      fun q => B.iter prog w _ _ ⟨hp, g, d, tk, os⟩ _ h1 q
    wp_walk using q1
    refine wpAny_stack_any fun st => wpAny_pure ?_
    split
    · rename_i c _ _ _ _ _
      cases (c == Value.type "enumerate")
      · wp_walk using q1
        exact ⟨_, rfl, h⟩
      · wp_walk using q1
        exact ⟨_, rfl, h⟩
    · wp_walk using q1
      exact ⟨_, rfl, h⟩
section
variable {prog : Program} {w : World} {A : Around} {E : Value → Shared → Prop} {s : Shared}
theorem enum_begins1 {v : Value} {o : Obj} {H : Heap → Prop} {Q : Value → Shared → Prop} (B : Begins v o H) (h1 : H s.heap)
    (h : ∀ h', IsEnum h' (s.heap.objs.size + 1) s.heap.objs.size 0 .none → h'.get? s.heap.objs.size = some o → h'.objs.size = s.heap.objs.size + 2 →
      (∀ b o, s.heap.get? b = some o → h'.get? b = some o) → Q (.ref (s.heap.objs.size + 1)) { s with heap := h' }) :
    wpAny (model prog w) A (call (.type "enumerate") [v]) Q E s := by
  refine callType_new F.called_enumerate (by decide) (F.typeCall_enumerate_1 _) (F.newCall_enumerate_1 _) (fun obj => F.args_object_init_2 obj _) F.entry_enumerate_new
    (meets_enumerate_new1 B) ⟨h1, ?_⟩
  have hz : (s.heap.push o).objs.size = s.heap.objs.size + 1 := Heap.size_push ..
  show _ ∧ _
  rw [hz]
  have he : IsEnum ((s.heap.push o).push { cls := .type "enumerate", data := .fields #[.none, .bool false, .ref s.heap.objs.size, rawInt 0, .none, .none] }) (s.heap.objs.size + 1) s.heap.objs.size 0 .none := by
    have := Heap.get?_push_size (s.heap.push o) (o := { cls := .type "enumerate", data := .fields #[.none, .bool false, .ref s.heap.objs.size, rawInt 0, .none, .none] }) rfl
    rw [hz] at this; exact this
  refine ⟨⟨_, he, rfl⟩, h _ he (Heap.get?_push_of_some _ (Heap.get?_push_size _ B.free)) (by rw [Heap.size_push, hz]) fun b o x => Heap.get?_push_of_some _ (Heap.get?_push_of_some _ x)⟩
end
section
variable {prog : Program} {w : World} {A : Around} {E : Value → Shared → Prop} {s : Shared}
theorem wpAny_pyNext_enum_endT {e it l : Addr} {i : Nat} {items : Array Value} {j : Int} {old : Value} {Q : Option Value → Shared → Prop} (hh : A.handled = none)
    (he : IsEnum s.heap e it j old) (hit : s.heap.IsTupleIter it l i) (hl : s.heap.IsTuple l items) (hx : items[i]? = none)
    (hQ : ∀ h', Heap.ExtBut it s.heap h' → Q none { s with heap := h' }) : wpAny (model prog w) A (pyNext (.ref e)) Q E s := by
  have hT : s.TypeIs (.ref e) "enumerate" := ⟨_, he, rfl⟩
  unfold pyNext
  refine wpAny_bind (wpAny_attempt (wpAny_callSpecial?_slot (name := Str.ofString "__next__") hT F.slot_enumerate_next
    (wpAny_call_entry F.slot_enumerate_next hT F.entry_enumerate_next ?_ (F.args_enumerate_next_1 _))))
  show wpAny _ _ (field (.ref e) 2 >>= _) _ _ _
  refine wpAny_bind (wpAny_field he rfl (x := .ref it) rfl ?_)
  refine wpAny_bind (wpAny_nextOf_tuple_end hh hit hl hx fun h' x he' hx' => ?_)
  obtain ⟨o, ho, hc⟩ := hx'
  refine wpAny_bind (wpAny_isInstance (T := "StopIteration") (b := true) ⟨o, ho, hc⟩ isSubtype_stop ?_)
  exact wpAny_pure (hQ _ he')
end
/-- the tuple at a, each item in a new pair behind its number -/
def IteT (K : PySem.W.Frag) (a : Addr) : It :=
  ⟨fun i H => ∃ (xs : List V) (x : V), SqT K H a xs ∧ xs[i]? = some x, fun i H v H' => ∃ T x, v = .ref T ∧ H T = none ∧ H' = L2.upd H T (.tup [.int (i : Nat), x]) ∧ ∀ xs, SqT K H a xs → xs[i]? = some x, fun i H => ∃ xs : List V, SqT K H a xs ∧ xs.length ≤ i⟩
theorem turn_enumT {P : Program} {w : World} {K : PySem.W.Frag} {elts : List Expr} {kk : Nat} {tpos : Pos} (a e it : Addr) (hae : a ≠ e) (hai : a ≠ it) :
    Turn P w K (.Tuple elts kk tpos) (IteT K a) [e, it] e (fun i h => (∃ old, IsEnum h e it ((i : Nat) : Int) old) ∧ h.IsTupleIter it a i ∧ e ≠ it) where
  mem := by simp
  obj := fun i h st b hb => by
    obtain ⟨⟨old, he⟩, ⟨o, ho, hc, hd⟩, _⟩ := st
    have e' : b = e ∨ b = it := by simpa using hb
    rcases e' with z | z
    · rw [z]; exact ⟨_, he, fun v q => nomatch q⟩
    · rw [z]; exact ⟨o, ho, fun v q => by rw [hd] at q; cases q⟩
  keep := fun i h h' st k => let ⟨⟨old, he⟩, hi, hne⟩ := st; ⟨⟨old, k e (by simp) _ he⟩, hi.at fun o q => k it (by simp) o q, hne⟩
  item := by
    intro X hP hw hK hc i pins s σ H E I hf st hg
    subst hP hw hK
    obtain ⟨⟨old, he⟩, hit, hne⟩ := st
    obtain ⟨xs, x, hq, hx⟩ := hg
    obtain ⟨its, rv, p, hz⟩ := I.tuple hq
    obtain ⟨u, hu, ru⟩ := rv.get hx
    have hel : e < s.heap.objs.size := Heap.lt_size he
    have hil : it < s.heap.objs.size := by obtain ⟨_, q, _⟩ := hit; exact Heap.lt_size q
    have hi : i < its.toArray.size := by
      have := (List.getElem?_eq_some_iff.mp hu).1
      simpa using this
    refine wpAny_pyNext_enum_itemD (Draws.tuple (prog := X.prog) (w := X.w) (A := X.A.in1) (show X.A.in1.handled = none from I.ok.hd hc) it a hai its.toArray) he ⟨hit, show s.heap.IsTuple a its.toArray from p⟩ hi hne (by simp [hne, Ne.symm hae]) fun x' h' tk hx' ho hit' hT hsz hk => ?_
    have ex : x' = u := by
      rw [List.getElem?_toArray, hu] at hx'
      exact (Option.some.inj hx').symm
    subst ex
    refine ⟨_, rfl, wpAny_letOwnedTupleGo_enum (s := { s with heap := h', toks := tk + 1 }) ho fun h'' he' sb => ?_⟩
    have hT2 : h''.get? s.heap.objs.size = some { cls := .type "tuple", data := .seq #[.int i tk, x'] } := (sb.2 _ (Nat.ne_of_gt hel)).trans hT
    have new : ObjOk X.prog X.w (L2.upd H s.heap.objs.size (.tup [.int (i : Nat), x])) h'' s.heap.objs.size (.tup [.int (i : Nat), x]) :=
      ⟨by show 2 ≤ sizeLine; decide, [.int i tk, x'], .cons ⟨_, rfl⟩ (.cons ru .nil), ⟨_, hT2, rfl, _, rfl⟩⟩
    have I1 : Inv X pins σ (L2.upd H s.heap.objs.size (.tup [.int (i : Nat), x])) { s with heap := h'', toks := tk + 1 } :=
      I.turnedNew (ch := [e, it]) (fun b ob hb q => (sb.2 b (fun z => hb (by simp [z]))).trans (hk b ob (fun z => hb (by simp [z])) (fun z => hb (by simp [z])) q)) hf (Nat.le_refl _) new
    refine ⟨.ref s.heap.objs.size, _, I1, rfl, ⟨_, x, rfl, I.hok.fresh (Nat.le_refl _), rfl, fun ys hy => by rw [I.tuple_inj hy hq]; exact hx⟩, ⟨⟨x', ?_⟩, hit'.1.at fun o q => (sb.2 it (Ne.symm hne)).trans q, hne⟩, fun b hb => ?_⟩
    · have e1 : ((i + 1 : Nat) : Int) = (i : Int) + 1 := by omega
      rw [e1]; exact he'
    · have hb' : b < s.heap.objs.size := by
        have e' : b = e ∨ b = it := by simpa using hb
        rcases e' with z | z
        · rw [z]; exact hel
        · rw [z]; exact hil
      rw [upd_ne (Nat.ne_of_lt hb')]
      exact (hf b hb).1
  done := by
    intro X hP hw hK hc i pins s σ H E I hf st hg
    subst hP hw hK
    obtain ⟨⟨old, he⟩, hit, hne⟩ := st
    obtain ⟨xs, hq, hx⟩ := hg
    obtain ⟨its, rv, p, hz⟩ := I.tuple hq
    obtain ⟨f0, f1, f2, f3, f4, f5⟩ := hf it (by simp)
    have hl := rv.length
    refine wpAny_pyNext_enum_endT (I.ok.hd hc) he hit p (by simp; omega) fun h' eb => ⟨rfl, I.turned (t' := s.toks) (fun b o hb q => eb b o hb q) f0 f1 f3 f4 f5⟩
  self := fun A i s Q E st h => let ⟨⟨_, he⟩, _⟩ := st; wpAny_pyIter_enum he h
def iEnumT (K : PySem.W.Frag) (ta : TA) : TI := fun σ H R => ta σ H fun vs H1 => ∃ a xs, vs = [.ref a] ∧ SqT K H1 a xs ∧ R (IteT K a) H1
theorem pi_enumT {X : Cx} {e : Expr} {ta : TA} {p pos tpos : Pos} {elts : List Expr} {kk : Nat} (hg : Gl X "enumerate") (hm : X.mg "enumerate" = none) (ha : PA X [e] ta) (hs : starEach [e] X.env = [(false, eval e X.env)] := by rfl) :
    PI X (.Tuple elts kk tpos) (.Call (.Name "enumerate" p) [e] [] pos) (iEnumT X.K ta) := by
  refine ⟨fun pins s σ H R I h => ?_⟩
  refine Call_ (ld_blt I hg hm boot_enumerate (PyProof.Rows.callWith_type1 (thn (ha.run pos pins s σ H _ I h) fun us s1 ⟨vs, H1, I1, r1, q1⟩ => ?_) hs rfl))
  obtain ⟨a, xs, ex, hq, q⟩ := q1
  subst ex
  cases r1 with
  | cons r rr =>
    cases rr
    cases r
    obtain ⟨its, rv, p', hz⟩ := I1.tuple hq
    have hal : a < s1.heap.objs.size := by
      obtain ⟨_, q, _⟩ := p'
      exact Heap.lt_size q
    refine enum_begins1 (begins_tuple a its.toArray) p' fun h' he hit hsz hk => wpAny_pyIter_enum he ?_
    have I2 : Inv X pins σ H1 { s1 with heap := h' } := I1.kept (t' := s1.toks) hk
    refine ⟨s1.heap.objs.size + 1, [s1.heap.objs.size + 1, s1.heap.objs.size], _, _, H1, rfl, I2, turn_enumT a (s1.heap.objs.size + 1) s1.heap.objs.size (Nat.ne_of_lt (Nat.lt_succ_of_lt hal)) (Nat.ne_of_lt hal), ⟨⟨.none, he⟩, ⟨_, hit, rfl, rfl⟩, Nat.succ_ne_self _⟩, fun b hb => ?_, q⟩
    have e' : b = s1.heap.objs.size + 1 ∨ b = s1.heap.objs.size := by simpa using hb
    have hle : s1.heap.objs.size ≤ b := by
      rcases e' with z | z
      · rw [z]; exact Nat.le_add_right _ _
      · rw [z]; exact Nat.le_refl _
    exact I1.fpOk hle (I1.hok.fresh hle)
theorem walk_enumT {K : PySem.W.Frag} {a : Addr} {xs : List V} : Walk (IteT K a) xs.length (fun H => SqT K H a xs) (YPair (fun i => some (.int (i : Nat))) (fun i => xs[i]?)) := by
  refine ⟨fun i _ hi q => ⟨xs, xs[i], q, by simp [hi]⟩, fun _ q => ⟨xs, q, Nat.le_refl _⟩, fun i H v H' _ q y => ?_⟩
  obtain ⟨T, x, h1, h2, h3, h4⟩ := y
  exact ⟨T, .int (i : Nat), x, h1, h2, h3, rfl, h4 xs q⟩
end My

namespace My
open PySem PySem.Spec PyProof.Rows PySem.W L2
theorem src_values_raw {prog : Program} {w : World} {d r : Addr} {es : Array DictEntry} {ep : Nat} : KdlSrc prog w "dict_values" r d es.size (fun i v => ∃ hi : i < es.size, v = es[i].val) (fun h => h.IsValuesView r d ∧ h.DictRaw d es ep) where
  type := fun _ hm => hm.1.typeIs
  there := fun _ hm => ⟨let ⟨_, ho, _⟩ := hm.1; Heap.lt_size ho, let ⟨_, ho, _⟩ := hm.2; Heap.lt_size ho⟩
  keep := fun _ _ hm hk => ⟨let ⟨o, ho, x⟩ := hm.1; ⟨o, hk r (.inl rfl) o ho, x⟩, hm.2.at fun o e => hk d (.inr rfl) o e⟩
  notList := by decide
  notTuple := by decide
  hint := fun _ _ _ _ hm hq => kdl_hint_values hm.1.typeIs hq
  iter := fun _ _ hh hm => ⟨_, _, (fun _ _ hq => wpAny_pyIter_values_raw hm.1 hm.2 hq), Walks.rawValues hh _ d (Nat.ne_of_lt (let ⟨_, ho, _⟩ := hm.2; Heap.lt_size ho)) es ep, ⟨⟨_, Heap.get?_push_size _ rfl, rfl, rfl⟩, hm.2.at fun o e => Heap.get?_push_of_some _ e⟩⟩
/-- the items of a dict whose keys are tuples -/
def rValsT : V → Hp → VK → Prop := fun x H Q => ∃ (d : Addr) (kvs : List (List L2.Key × V)), x = .ref d ∧ H d = some (.dT kvs) ∧ ∀ p, H p = none → Q (.ref p) (upd H p (.lst (kvs.map Prod.snd)))
def tListValsT (te : TE) : TE := fun σ H Q => te σ H fun x H1 => rValsT x H1 Q
section
variable {X : Cx} {e : Expr} {te : TE} {p apos cpos pos : Pos}
theorem relLs_of {H : Hp} {kvs : List (List L2.Key × V)} {xs : List (List L2.Key × Addr × Value)} {acc : List Value} (r : KT H kvs xs) (e : acc = xs.map fun y => y.2.2) : Vals (kvs.map Prod.snd) acc := by
  subst e
  induction r with
  | nil => exact .nil
  | cons h t ih => exact .cons h.2.2 ih
/-- list(e.values()) -/
theorem pe_listValsT (hc : X.calm = true) (he : PE X e te) (hg : Gl X "list") (hm : X.mg "list" = none) (hv : bootBuiltins "list" = some (.type "list")) (hbase : attributeBase e "values" X.env (eval e X.env) = eval e X.env := by rfl) (hline : (apos.endLine == cpos.line) = true := by rfl)
    (hs : starEach [.Call (.Attribute e "values" apos) [] [] cpos] X.env = (false, eval (.Call (.Attribute e "values" apos) [] [] cpos) X.env) :: starEach [] X.env := by rfl) :
    PE X (.Call (.Name "list" p) [.Call (.Attribute e "values" apos) [] [] cpos] [] pos) (tListValsT te) := by
  refine ⟨fun pins s σ H Q I hq => ?_⟩
  refine wpAny_Call_Name_kw (ld_blt I hg hm hv ?_)
  refine PyProof.Rows.callWith_type1 ?_ hs rfl
  rw [hs]
  show wpAny _ _ (spliced ((false, eval (.Call (.Attribute e "values" apos) [] [] cpos) X.env) :: backTo pos (starEach [] X.env))) _ _ s
  refine Calls.spliced_cons ?_
  refine wpAny_Call_method (T := "dict") (id := "dict.values") hbase rfl hline F.plainAttrs_dict F.slot_dict_values F.type_dict_values (thn (he.run pins s σ H _ I hq) fun u s1 ⟨x, H1, I1, rx, d, kvs, ex, hd, q⟩ => ?_)
  subst ex
  obtain rfl : u = Value.ref d := rx
  obtain ⟨hz, hs0, xs, kv, hdo⟩ := dt_of I1.hok hd
  obtain ⟨es, ep, hraw, hsz, hes⟩ := hdo.raw
  have lk : kvs.length = xs.length := Paired.length kv
  have I2 : Inv X pins σ H1 { s1 with heap := s1.heap.push { cls := .type "dict_values", data := .fields #[.ref d] } } := I1.kept (t' := s1.toks) fun b ob q => Heap.get?_push_of_some _ q
  refine ⟨hraw.typeIs, (by obtain ⟨o, ho, hx, hdd⟩ := hraw; intro a ea; cases ea; exact ⟨o, ho, hx.2.1⟩), ?_⟩
  show wpAny _ _ (callWith cpos (.builtin "dict.values") [.ref d] [] []) _ X.xe s1
  refine method_meetsIn F.slot_dict_values F.entry_dict_values rfl (PySem.evalArgs_none ⟨rfl, hraw.typeIs, F.args_dict_values_1 _, _, meets_dict_values_raw d hs0, ⟨es, ep, hraw⟩, ?_⟩)
  refine Calls.spliced_nil ?_
  refine kdl_call (src_values_raw (es := es) (ep := ep)) (I1.ok.hd hc) ⟨⟨_, Heap.get?_push_size _ rfl, rfl, rfl⟩, hraw.at fun o e => Heap.get?_push_of_some _ e⟩ (by omega) fun h' tk acc c hk hS hacc => ?_
  have hacc2 : acc.toList = xs.map fun y => y.2.2 := by
    apply List.ext_getElem?
    intro i
    rw [List.getElem?_map]
    by_cases hi : i < es.size
    · obtain ⟨y, h1, h2, h3, h4⟩ := hes i hi
      have hi2 : i < acc.size := by rw [hacc.1]; exact hi
      obtain ⟨_, h5⟩ := hacc.2 i acc[i] (Array.getElem?_eq_getElem hi2)
      rw [Array.getElem?_toList, Array.getElem?_eq_getElem hi2, h5, h3, h1]
      rfl
    · rw [Array.getElem?_toList, Array.getElem?_eq_none (by rw [hacc.1]; omega), List.getElem?_eq_none (by omega)]
      rfl
  generalize hD : (s1.heap.push { cls := .type "dict_values", data := .fields #[.ref d] }).objs.size = D at hS ⊢
  have I3 : Inv X pins σ (upd H1 D (.lst (kvs.map Prod.snd))) { s1 with heap := h', toks := tk } := I2.laid (t' := tk) hk (Nat.le_of_eq hD)
    ⟨by rw [List.length_map]; exact hz, acc.toList, c, relLs_of kv hacc2, by rw [Array.toArray_toList]; exact hS⟩
  exact ⟨.ref D, _, I3, rfl, q D (I2.hok.fresh (Nat.le_of_eq hD))⟩
end
end My

namespace My
open PySem PySem.Spec PyProof.Rows L2
section
variable {X : Cx}
/-- name = {..: ..} on one line, the name a local -/
theorem ps_setDc {i : Nat} {y : Str} {py : Pos} {kx vx tg iter : Expr} {ifs : List Expr} {scope : Scope} {own : List (Str × Nat)} {pos spos : Pos} {wi : TI} {g : TG} {tt : TT} {tk tv : TE} (hc : X.calm = true) (hN : X.N.Nodup) (hy : X.N[i]? = some y) (hyl : X.env.scope.names.lookup y = some .local)
    (hsw : swapsWith (.DictComp kx vx [⟨tg, iter, ifs, 0⟩] scope pos) (some (.Name y py)) spos.line X.env = pure true) (hi : PI X tg iter wi) (ok : BlkOk X.N X.env.scope scope own)
    (hg : ∀ (s : Shared) (H : Hp) (C : Addr) (cl : List (Str × Addr)) (fp : List Addr), PG (X.blk s H scope (compEnvC scope cl C X.env) fp) tg g) (ht : ∀ (s : Shared) (H : Hp) (C : Addr) (cl : List (Str × Addr)) (fp : List Addr), PTs (X.blk s H scope (compEnvC scope cl C X.env) fp) ifs tt)
    (hk : ∀ (s : Shared) (H : Hp) (C : Addr) (cl : List (Str × Addr)) (fp : List Addr), PE (X.blk s H scope (compEnvC scope cl C X.env) fp) kx tk)
    (he : ∀ (s : Shared) (H : Hp) (C : Addr) (cl : List (Str × Addr)) (fp : List Addr), PE (X.blk s H scope (compEnvC scope cl C X.env) fp) vx tv) (hs : ∀ x, foldedSetIterable iter X.env x = pure x := by intro _; rfl) :
    PS X (.Assign [.Name y py] (.DictComp kx vx [⟨tg, iter, ifs, 0⟩] scope pos) spos) (tAsg (tDc wi g tt tk tv (own.map (·.2))) (gName i)) := by
  refine ⟨fun pins s σ H D I h => ?_⟩
  rw [exec_Assign_Name_used _ _ _ _ hsw]
  refine wpAny_bind (wpAny_standAt (wpAny_bind ?_))
  show wpAny _ X.A (do let _ ← comprehension (.DictComp kx vx [⟨tg, iter, ifs, 0⟩] scope pos) scope X.env (firstIterPos [⟨tg, iter, ifs, 0⟩] pos) newDict false (eval iter X.env) (some (assign (.Name y py) X.env))) _ _ s
  have h : tDc wi g tt tk tv (own.map (·.2)) σ H (fun x H1 => gName i x σ H1 D.nx) := h
  refine wpAny_bind (thn (dc_core (Qf := fun _ s' => SP X pins D .next s') hc hN I hi ok hg ht hk he hs h fun L C s' m H' I' q hn f => ?_) fun _ s' hq => wpAny_pure (wpAny_pure hq))
  show wpAny _ _ (assign (.Name y py) X.env (.ref L)) _ _ _
  refine wpAny_assign_Name (store_ok2 (v := V.ref L) I' hN hy (.inl hyl) rfl (fun s2 I2 ⟨a, sb, ha⟩ => ?_) (.inr hyl))
  obtain ⟨f0, f1, f2, f3, f4, f5⟩ := f
  have haC : C ≠ a := by
    rcases ha with z | z
    · rw [z]; exact f1
    · exact fun e => f4 y a z e.symm
  refine ⟨m, hn.sameBut sb haC, fun h3 sb3 => ?_⟩
  exact ⟨_, H', I2.turned (t' := s2.toks) (fun b o hb e => (sb3.2 b hb).trans e) f0 f1 f3 f4 f5, q⟩
theorem sw_trueD {kx vx : Expr} {gs : List Comprehension} {scope : Scope} {pos py : Pos} {y : Str} {l : Nat} {env : Env} (hk : env.scope.kind = .function) (hy : env.scope.names.lookup y = some .local) (hl : (py.line == pos.line) = true)
    (ha : (scope.names.any fun (n, k) => n == y && (k == .local || k == .cell)) = false) : swapsWith (.DictComp kx vx gs scope pos) (some (.Name y py)) l env = pure true := by
  have ky : env.kindOf y = some .local := hy
  have hb : env.blockKind = .function := by unfold Env.blockKind; rw [hk]; rfl
  unfold swapsWith
  simp only [hb, ky, ha, Expr.pos, hl]
  rfl
end
/-- a dict comprehension's turns -/
def DcW (J : It) (g : TG) (tt : TT) (tk tv : TE) (vs : List Nat) (σ : L2.St) (H1 : Hp) (D : Addr) (Q : VK) : Prop := ∃ W : Nat → Nat → Hp → Prop, (∃ m, W 0 m (upd H1 D (.dK []))) ∧ ∀ i m H, W i m H →
  (J.stop i H ∧ Q (.ref D) H) ∨ (J.go i H ∧ ∃ Nx : Hp → Prop, (∀ H', Nx H' → ∃ m', m' < m ∧ W (i + 1) m' H') ∧ ∀ x H', J.yld i H x H' → g x (wipe σ vs) H' fun σ2 H2 => wipe σ2 vs = wipe σ vs ∧ tt σ2 H2 fun b H3 =>
    if b = true then tk σ2 H3 fun y H4 => tv σ2 H4 fun z H5 => ∃ kvs k, y = kV k ∧ H5 D = some (.dK kvs) ∧ kvs.length < sizeLine ∧ Nx (upd H5 D (.dK (putK kvs k z))) else Nx H3)
theorem tDc_eq {wi : TI} {g : TG} {tt : TT} {tk tv : TE} {vs : List Nat} : tDc wi g tt tk tv vs = fun σ H Q => wi σ H fun J H1 => ∀ D, H1 D = none → DcW J g tt tk tv vs σ H1 D Q := rfl
theorem DcW.by {J : It} {n : Nat} {G : Hp → Prop} {Y : Nat → Hp → V → Hp → Prop} {g : TG} {tt : TT} {tk tv : TE} {vs : List Nat} {σ : L2.St} {H : Hp} {Da : Addr} {Q : VK} (w : Walk J n G Y) (Pv : Nat → Hp → Prop) (h0 : Pv 0 (upd H Da (.dK []))) (hG : ∀ i H, i ≤ n → Pv i H → G H)
    (hs : ∀ i x H H', i < n → Pv i H → Y i H x H' → g x (wipe σ vs) H' fun σ2 H2 => wipe σ2 vs = wipe σ vs ∧ tt σ2 H2 fun b H3 =>
      if b = true then tk σ2 H3 fun y H4 => tv σ2 H4 fun z H5 => ∃ kvs k, y = kV k ∧ H5 Da = some (.dK kvs) ∧ kvs.length < sizeLine ∧ Pv (i + 1) (upd H5 Da (.dK (putK kvs k z))) else Pv (i + 1) H3) (hd : ∀ H, Pv n H → Q (.ref Da) H) : DcW J g tt tk tv vs σ H Da Q := by
  refine ⟨fun i m H => m = n - i ∧ i ≤ n ∧ Pv i H, ⟨n, by simp, Nat.zero_le _, h0⟩, ?_⟩
  rintro i m H ⟨rfl, hi, p⟩
  have q := hG i H hi p
  by_cases hlt : i < n
  · refine .inr ⟨w.goes i H hlt q, Pv (i + 1), fun H' p' => ⟨n - (i + 1), by omega, rfl, hlt, p'⟩, fun x H' y => ?_⟩
    exact hs i x H H' hlt p (w.yields i H x H' hlt q y)
  · have e : i = n := by omega
    subst e
    exact .inl ⟨w.stops H q, hd H p⟩
end My

namespace My
open PySem PySem.Spec PyProof.Rows L2
section
variable {X : Cx} {tg : Expr}
/-- a list or a tuple walked -/
def iBoth (K : PySem.W.Frag) (tl : TE) : TI := fun σ H R => tl σ H fun x H1 => ∃ a, x = .ref a ∧ (((∃ xs, SqL K H1 a xs) ∧ R (Itl K a) H1) ∨ ((∃ xs, SqT K H1 a xs) ∧ R (Itt K a) H1))
theorem pi_both {l : Expr} {tl : TE} (hl : PE X l tl) : PI X tg l (iBoth X.K tl) := by
  refine ⟨fun pins s σ H R I h => ?_⟩
  refine thn (hl.run pins s σ H _ I h) fun v s1 ⟨x, H1, I1, r1, q1⟩ => ?_
  obtain ⟨a, e, ⟨⟨xs, hq⟩, q⟩ | ⟨⟨xs, hq⟩, q⟩⟩ := q1
  · subst e
    cases r1
    obtain ⟨its, rv, p, hz⟩ := I1.list hq
    refine wpAny_pyIter_list p.isList ?_
    refine ⟨s1.heap.objs.size, [s1.heap.objs.size], _, _, H1, rfl, I1.kept (t' := s1.toks) fun b o e => Heap.get?_push_of_some _ e, turn_list a _, ⟨_, Heap.get?_push_size _ rfl, rfl, rfl⟩, fun b hb => ?_, q⟩
    have e : b = s1.heap.objs.size := by simpa using hb
    subst e
    exact I1.fpOk (Nat.le_refl _) (I1.hok.fresh (Nat.le_refl _))
  · subst e
    cases r1
    obtain ⟨its, rv, p, hz⟩ := I1.tuple hq
    refine wpAny_pyIter_tuple (show s1.heap.IsTuple a its.toArray from p) ?_
    refine ⟨s1.heap.objs.size, [s1.heap.objs.size], _, _, H1, rfl, I1.kept (t' := s1.toks) fun b o e => Heap.get?_push_of_some _ e, turn_tuple a _, ⟨_, Heap.get?_push_size _ rfl, rfl, rfl⟩, fun b hb => ?_, q⟩
    have e : b = s1.heap.objs.size := by simpa using hb
    subst e
    exact I1.fpOk (Nat.le_refl _) (I1.hok.fresh (Nat.le_refl _))
end
end My

namespace My
open PySem PySem.Spec PyProof.Rows L2 GxR
/-- the pairs of a tuple, one after another -/
theorem walks_pairs {prog : Program} {w : World} {A : Around} (hh : A.handled = none) (I ax : Addr) (hne : ax ≠ I) (Ts : List Addr) (ps : List (Value × Value)) (hI : I ∉ Ts) (hl : Ts.length = ps.length) :
    WalksU prog w A I (I :: ax :: Ts) [I] Ts.length (fun i vals => ∃ p, ps[i]? = some p ∧ vals = #[p.1, p.2])
      (fun i h => (h.IsTupleIter I ax i ∧ h.IsTuple ax (Ts.map Value.ref).toArray) ∧ ∀ (j : Nat) (T : Addr) (p : Value × Value), Ts[j]? = some T → ps[j]? = some p → h.IsTuple T #[p.1, p.2])
      (fun i T h => ((h.IsTupleIter I ax (i + 1) ∧ h.IsTuple ax (Ts.map Value.ref).toArray) ∧ ∀ (j : Nat) (T : Addr) (p : Value × Value), Ts[j]? = some T → ps[j]? = some p → h.IsTuple T #[p.1, p.2]) ∧ T ∈ Ts) where
  sub := fun b hb => by
    rw [List.mem_singleton.mp hb]
    exact List.mem_cons_self
  frame := fun i h h' st hk => ⟨⟨st.1.1.at fun o e => hk I List.mem_cons_self o e, st.1.2.at fun o e => hk ax (List.mem_cons_of_mem _ List.mem_cons_self) o e⟩,
    fun j T p hT hp => (st.2 j T p hT hp).at fun o e => hk T (List.mem_cons_of_mem _ (List.mem_cons_of_mem _ (List.mem_of_getElem? hT))) o e⟩
  item := fun i s Q E hi st hQ => by
    have hi2 : i < ps.length := by omega
    refine wpAny_pyNext_tuple_item st.1.1 st.1.2 (x := .ref Ts[i]) (by simp [hi]) fun h' hit' hs' => ?_
    have kp : ∀ b o, b ≠ I → s.heap.get? b = some o → h'.get? b = some o := fun b o hb e => hs'.extBut b o hb e
    have tup : ∀ (j : Nat) (T : Addr) (p : Value × Value), Ts[j]? = some T → ps[j]? = some p → h'.IsTuple T #[p.1, p.2] := fun j T p hT hp => (st.2 j T p hT hp).at fun o e => kp T o (fun z => hI (z ▸ List.mem_of_getElem? hT)) e
    exact hQ Ts[i] #[(ps[i]).1, (ps[i]).2] h' s.toks ⟨ps[i], List.getElem?_eq_getElem hi2, rfl⟩ (tup i _ _ (List.getElem?_eq_getElem hi) (List.getElem?_eq_getElem hi2))
      ⟨⟨⟨hit', st.1.2.extBut hs'.extBut hne⟩, tup⟩, List.getElem_mem hi⟩ fun b o hb e => kp b o (fun z => hb (by rw [z]; exact List.mem_singleton.mpr rfl)) e
  go := fun elts k pos i T s Q E hm hQ => by
    obtain ⟨o, e, c, d⟩ := hm.1.1.1
    exact go_of e c d (by decide) (hQ s.heap hm.1 fun b o _ e => e)
  apart := fun i T h hm z => hI (by rw [← List.mem_singleton.mp z]; exact hm.2)
  done := fun s Q E st hQ => wpAny_pyNext_tuple_end hh st.1.1 st.1.2 (by simp) fun h' he' => hQ h' s.toks fun b o hb e => he' b o (fun z => hb (by rw [z]; exact List.mem_singleton.mpr rfl)) e
  self := fun _ _ _ _ st hQ => wpAny_pyIter_tupleiter st.1.1 hQ

/-- the generator expression's own scope: its two names, the walked thing at «.0» -/
structure GenS2 (env : Env) (scope : Scope) (xa xb : Str) : Prop where
  kind : scope.kind = .function
  co : scope.isCoroutine = false
  cell : ∀ y ∈ scope.names, y.2 ≠ .cell
  dot : scope.names.lookup (".0" : Str) = some NameKind.local
  la : scope.names.lookup xa = some .local
  lb : scope.names.lookup xb = some .local
  ab : xa ≠ xb
  free : ∀ y ∈ scope.names, y.2 = .free → ∃ c, env.cells.lookup y.1 = some c
/-- the element: a test of the pair -/
def EltP2 (prog : Program) (w : World) (scope : Scope) (xa xb : Str) (elt : Expr) (pb : V → V → Bool) : Prop :=
  ∀ (cenv : Env) (A' : Around) (E' : Value → Shared → Prop) (y z : V) (va vb : Value) (s₂ : Shared) (m₂ : Str → Option Value), RelV y va → RelV z vb → cenv.scope = scope → s₂.heap.Ns cenv.locals m₂ → m₂ xa = some va → m₂ xb = some vb →
    wpAny (model prog w) A' (eval elt cenv) (fun r s₃ => r = .bool (pb y z) ∧ Keeps s₂ s₃) E' s₂
/-- xb is None -/
theorem elt2_isN {prog : Program} {w : World} {scope : Scope} {xa xb : Str} {j : Nat} {p1 p2 p3 : Pos} (hk : scope.kind = .function) (hl : scope.names.lookup xb = some .local) (hd : (xb == ("__debug__" : Str)) = false := by decide) :
    EltP2 prog w scope xa xb (.Compare (.Name xb p1) [.Is] [.Constant .none j p2] p3) (fun _ z => decide (z = .non)) := by
  intro cenv A' E' y z va vb s₂ m₂ ra rb hs hn hma hmb
  refine wpAny_Compare1 ?_
  refine wpAny_Name (wpAny_loadName_local (by rw [hs]; exact hk) (show cenv.scope.names.lookup xb = some .local by rw [hs]; exact hl) hn hmb ?_) hd
  refine Constant_none (is_none_gen ⟨?_, keeps_refl _⟩)
  rw [rb.none_iff]
/-- the test of the j-th pair -/
def trP (pb : V → V → Bool) (l : List (V × V)) (j : Nat) : Bool := match l[j]? with
  | some p => pb p.1 p.2
  | none => false
theorem any_trP (pb : V → V → Bool) : ∀ l : List (V × V), (List.range l.length).any (trP pb l) = l.any fun p => pb p.1 p.2 := by
  intro l
  rw [Bool.eq_iff_iff, List.any_eq_true, List.any_eq_true]
  constructor
  · rintro ⟨j, hj, h⟩
    have hj2 : j < l.length := List.mem_range.mp hj
    refine ⟨l[j], List.getElem_mem hj2, ?_⟩
    unfold trP at h
    rw [List.getElem?_eq_getElem hj2] at h
    exact h
  · rintro ⟨p, hp, h⟩
    obtain ⟨j, hj⟩ := List.getElem?_of_mem hp
    refine ⟨j, List.mem_range.mpr (List.getElem?_eq_some_iff.mp hj).1, ?_⟩
    unfold trP
    rw [hj]
    exact h
section
variable {X : Cx} {pins : List (Addr × Obj)} {σ : L2.St} {H : Hp} {s : Shared}
/-- the generator g over the pairs, ready to be walked, in the state s5; H1: what was held before -/
def Ready2 (X : Cx) (pins : List (Addr × Obj)) (σ : L2.St) (H1 : Hp) (P : Addr) (l : List (V × V)) (pb : V → V → Bool) (g : Addr) (s5 : Shared) : Prop :=
  ∃ (fp wr : List Addr) (G : Array GenState → Array GenState → Prop) (F : Nat → Value → Prop) (St : Nat → Shared → Prop) (n : Nat), n = l.length ∧
    WalksS X.prog X.w X.A.in1 g fp wr G n F St ∧ St 0 s5 ∧
    TruthOf X.prog X.w X.A.in1 F (trP pb l) ∧
    ∀ s', Moved wr G s5 s' → ∃ H2, Tabbed P H1 H2 ∧ Inv X pins σ H2 s'
/-- xs are the tuples of these pairs -/
def PairsAt (K : PySem.W.Frag) (H : Hp) (xs : List V) (l : List (V × V)) : Prop := Paired (fun x (p : V × V) => ∃ T, x = V.ref T ∧ SqT K H T [p.1, p.2]) xs l
theorem pairs_vals (I : Inv X pins σ H s) : ∀ {xs : List V} {l : List (V × V)} {its : List Value}, PairsAt X.K H xs l → Vals xs its →
    ∃ (Ts : List Addr) (ps : List (Value × Value)), its = Ts.map Value.ref ∧ Ts.length = l.length ∧ ps.length = l.length ∧ (∀ (j : Nat) (T : Addr) (p : Value × Value), Ts[j]? = some T → ps[j]? = some p → s.heap.IsTuple T #[p.1, p.2]) ∧
      ∀ (j : Nat) (q : V × V) (p : Value × Value), l[j]? = some q → ps[j]? = some p → RelV q.1 p.1 ∧ RelV q.2 p.2
  | _, _, _, .nil, .nil => ⟨[], [], rfl, rfl, rfl, fun _ _ _ h => by simp at h, fun _ _ _ h => by simp at h⟩
  | _, _, _, .cons (a := x) (b := q) hx hr, .cons r t => by
    obtain ⟨T, rfl, hT⟩ := hx
    obtain ⟨Ts, ps, e1, e2, e3, e4, e5⟩ := pairs_vals I hr t
    obtain ⟨its2, r2, h2, _⟩ := I.tuple hT
    cases r2 with
    | cons ra r3 =>
      cases r3 with
      | cons rb r4 =>
        cases r4
        cases r
        rename_i va vb
        refine ⟨T :: Ts, (va, vb) :: ps, by rw [e1]; rfl, by rw [List.length_cons, List.length_cons, e2], by rw [List.length_cons, List.length_cons, e3], ?_, ?_⟩
        · intro j T' p hT' hp
          cases j with
          | zero =>
            have a1 : T = T' := Option.some.inj hT'
            have a2 : (va, vb) = p := Option.some.inj hp
            subst a1 a2
            exact h2
          | succ j => exact e4 j T' p (by simpa using hT') (by simpa using hp)
        · intro j q' p hq' hp
          cases j with
          | zero =>
            have a1 : q = q' := Option.some.inj hq'
            have a2 : (va, vb) = p := Option.some.inj hp
            subst a1 a2
            exact ⟨ra, rb⟩
          | succ j => exact e5 j q' p (by simpa using hq') (by simpa using hp)
theorem gen_pair {c P : Addr} {elt iter : Expr} {xa xb : Str} {pa pb pt gpos : Pos} {kt : Nat} {scope : Scope} {pz : V → V → Bool} {te : TE} {k : Nat} {Q' : Value → Shared → Prop} {R : List (V × V) → Hp → Prop}
    (hr : Room k X.A) (TB : TabB X.base X.mg c P) (hcode : X.env.code = .ref c) (S : GenS2 X.env scope xa xb) (hi : PE X iter te) (hel : EltP2 X.prog X.w scope xa xb elt pz)
    (hs : ∀ v, genFold iter X.env v = pure v) (I : Inv X pins σ H s) (h : te σ H fun v H1 => ∃ (a : Addr) (xs : List V) (l : List (V × V)), v = .ref a ∧ SqT X.K H1 a xs ∧ PairsAt X.K H1 xs l ∧ TabG H1 P ∧ R l H1)
    (hQ : ∀ l H1 g s5, R l H1 → Ready2 X pins σ H1 P l pz g s5 → Q' (.ref g) s5) :
    wpAny (model X.prog X.w) X.A (eval (.GeneratorExp elt [⟨.Tuple [.Name xa pa, .Name xb pb] kt pt, iter, [], 0⟩] scope gpos) X.env) Q' X.xe s := by
  refine wpAny_GeneratorExp_walksQT hr.hd S.co (closure_ok S.free) S.cell S.dot S.la S.lb S.ab S.kind (by have := hr.dp; omega) ?_ hs
  refine thn (hi.run pins s σ H _ I h) fun xv s1 ⟨v, H1, I1, r1, q1⟩ => ?_
  obtain ⟨a, xs, l, rfl, hT, hPr, ⟨ps, hP, ht⟩, q1⟩ := q1
  cases (show xv = Value.ref a from r1)
  obtain ⟨its, rv, hTa, hzl⟩ := I1.tuple hT
  obtain ⟨Ts, vv, eT, l1, l2, hIs, hRel⟩ := pairs_vals I1 hPr rv
  subst eT
  have hTa2 : s1.heap.IsTuple a (Ts.map Value.ref).toArray := hTa
  refine wpAny_pyIter_tuple hTa2 ?_
  generalize ho : ({ cls := .type "tuple_iterator", data := .fields #[.ref a, .int 0 0] } : Obj) = o
  have hPs : s1.heap.get? P = some { cls := .none, data := .fields ps } := I1.hok P _ hP
  have hPlt : P < s1.heap.objs.size := Heap.lt_size hPs
  have hP2 : (s1.heap.push o).get? P = some { cls := .none, data := .fields ps } := Heap.get?_push_of_some _ hPs
  have cd : PySem.W.CodeHd (s1.heap.push o) c P := TB.code.keeps fun b u e => Heap.get?_push_of_some _ (I1.bk b u e)
  have lim2 : (s1.heap.push o).NoLimit := I1.nolimit.push o
  have nTup : ∀ b its, s1.heap.IsTuple b its → b ≠ P := fun b its ⟨ob, e, cl, _⟩ z => by
    rw [z, hPs] at e
    cases e
    cases cl
  have ltT : ∀ T, T ∈ Ts → T < s1.heap.objs.size ∧ T ≠ P := fun T hT' => by
    obtain ⟨j, hj⟩ := List.getElem?_of_mem hT'
    have hj2 : j < vv.length := by
      have := (List.getElem?_eq_some_iff.mp hj).1
      omega
    have q := hIs j T vv[j] hj (List.getElem?_eq_getElem hj2)
    exact ⟨let ⟨_, e, _⟩ := q; Heap.lt_size e, nTup _ _ q⟩
  have hIn : s1.heap.objs.size ∉ Ts := fun z => Nat.lt_irrefl _ (ltT _ z).1
  have hax : a < s1.heap.objs.size := let ⟨_, e, _⟩ := hTa2; Heap.lt_size e
  have hst : ((s1.heap.push o).IsTupleIter s1.heap.objs.size a 0 ∧ (s1.heap.push o).IsTuple a (Ts.map Value.ref).toArray) ∧ ∀ (j : Nat) (T : Addr) (p : Value × Value), Ts[j]? = some T → vv[j]? = some p → (s1.heap.push o).IsTuple T #[p.1, p.2] := by
    subst ho
    exact ⟨⟨⟨_, Heap.get?_push_size _ rfl, rfl, rfl⟩, hTa2.push _⟩, fun j T p h1 h2 => (hIs j T p h1 h2).push _⟩
  have cont : ∀ (code : Value) (h3 : Heap) (tk : Nat) (ps' : Array Value), Heap.ExtBut P (s1.heap.push o) h3 → (s1.heap.push o).objs.size ≤ h3.objs.size → h3.get? P = some { cls := .none, data := .fields ps' } → (∃ more, ps' = ps ++ more) → TriplesOk ps'.toList →
      wpAny (model X.prog X.w) X.A (builtinsFor X.env.globals X.env.builtins) (fun bi s₄ =>
        ∃ Ia fp wr n₀ Pt St₀ Mid py F, Value.ref s1.heap.objs.size = .ref Ia ∧ (∀ A' : Around, A'.handled = none → WalksU X.prog X.w A' Ia fp wr n₀ Pt St₀ Mid) ∧ (∀ i vals, Pt i vals → ∃ va vb, vals = #[va, vb]) ∧ St₀ 0 s₄.heap ∧ (∀ b ∈ fp, b < s₄.heap.objs.size) ∧ s₄.heap.NoLimit ∧ cStatics ∉ wr ∧
          (∀ href : Heap, (∀ b o, s₄.heap.get? b = some o → href.get? b = some o) →
            QuietGenT X.prog X.w (genEnv scope (cloFrom X.env.cells scope.names []) s₄.heap.objs.size code bi X.env) xa xb [] elt (List.range s₄.heap.objs.size) wr Pt py F href) ∧
          (∀ a h₅ tk gs, gs.bare = true → s₄.heap.objs.size < a → h₅.objs.size = a + 1 → (∀ b o, s₄.heap.get? b = some o → h₅.get? b = some o) →
            WalksS X.prog X.w X.A.in4 a (a :: s₄.heap.objs.size :: List.range s₄.heap.objs.size) (s₄.heap.objs.size :: wr) (GenOnlyQ s₄.gens.size) (passing py n₀ 0).length
              (fun j y => ∃ i, (passing py n₀ 0)[j]? = some i ∧ F i y) (GenAt X.prog X.w X.A.in4 a s₄.gens.size s₄.heap.objs.size (List.range s₄.heap.objs.size) wr py n₀ F) →
            GenAt X.prog X.w X.A.in4 a s₄.gens.size s₄.heap.objs.size (List.range s₄.heap.objs.size) wr py n₀ F 0 { s₄ with gens := s₄.gens.push gs, toks := tk, heap := h₅ } →
            Q' (.ref a) { s₄ with gens := s₄.gens.push gs, toks := tk, heap := h₅ })) X.xe { s1 with heap := h3, toks := tk } := by
    intro code h3 tk ps' hx hsz hP3 hmore ht3
    obtain ⟨bm, ob, e1, e2, e3, e4, e5, e6, e7, e8⟩ := TB.bm
    have hcP : cStatics ≠ P := fun e => by
      obtain ⟨_, hns, _⟩ := I1.nolimit
      obtain ⟨o', es, ep, ho, hd, _⟩ := hns
      rw [e, hPs] at ho
      cases ho
      cases hd
    have hcl : cStatics < s1.heap.objs.size := let ⟨_, hns, _⟩ := I1.nolimit; hns.lt
    have sz2 : (s1.heap.push o).objs.size = s1.heap.objs.size + 1 := Heap.size_push ..
    have keep3 : ∀ b u, b ≠ P → s1.heap.get? b = some u → h3.get? b = some u := fun b u hb e => hx b u hb (Heap.get?_push_of_some _ e)
    have W : ∀ A' : Around, A'.handled = none → WalksU X.prog X.w A' s1.heap.objs.size (s1.heap.objs.size :: a :: Ts) [s1.heap.objs.size] Ts.length _ _ _ := fun A' hA' => walks_pairs hA' s1.heap.objs.size a (Nat.ne_of_lt hax) Ts vv hIn (by omega)
    refine wpAny_builtinsFor (m := X.mg) (by rw [I1.ok.glob]; exact ((I1.mod.glob.keeps I1.bk).push o).extBut hx TB.gP) e1 e2 (keep3 _ _ e4 (I1.bk _ _ e5)) e6 e7 e8 ?_
    refine ⟨s1.heap.objs.size, (s1.heap.objs.size :: a :: Ts), [s1.heap.objs.size], Ts.length, _, _, _, (fun _ => true), (fun i y => ∃ q, l[i]? = some q ∧ y = .bool (pz q.1 q.2)), rfl, W, ?_, ?_, ?_, lim2.extBut hx hcP, ?_, ?_, ?_⟩
    · rintro i vals ⟨p, _, e⟩
      exact ⟨_, _, e⟩
    · refine (W X.A hr.hd).frame _ _ _ hst fun b hb u e => hx b u (fun z => ?_) e
      rcases List.mem_cons.mp hb with z2 | z2
      · exact Nat.ne_of_lt hPlt (z.symm.trans z2)
      · rcases List.mem_cons.mp z2 with z2 | z2
        · exact nTup _ _ hTa2 (z2.symm.trans z)
        · exact (ltT _ z2).2 z
    · intro b hb
      have sz3 : s1.heap.objs.size < h3.objs.size := by omega
      rcases List.mem_cons.mp hb with z | z
      · rw [z]
        exact sz3
      · rcases List.mem_cons.mp z with z | z
        · rw [z]
          exact Nat.lt_trans hax sz3
        · exact Nat.lt_trans (ltT _ z).1 sz3
    · intro z
      rcases List.mem_cons.mp z with z | z
      · exact Nat.ne_of_lt hcl z
      · cases z
    · intro href hhref
      refine ⟨fun A' E' i va vb s₂ m₂ hA hPv hn hm1 hm2 hk => ?_, fun A' E' i va vb s₂ m₂ hA hPv hp hn hm1 hm2 hk => ?_⟩
      · simp only [List.forIn_nil]
        exact wpAny_pure ⟨rfl, keeps_refl _⟩
      · obtain ⟨p, hp1, hp2⟩ := hPv
        obtain ⟨ea, eb⟩ : va = p.1 ∧ vb = p.2 := by simpa using congrArg Array.toList hp2
        have hi3 : i < l.length := by
          have := (List.getElem?_eq_some_iff.mp hp1).1
          omega
        obtain ⟨ra, rb⟩ := hRel i l[i] p (List.getElem?_eq_getElem hi3) hp1
        rw [← ea] at ra
        rw [← eb] at rb
        exact wpAny_mono (hel _ A' E' _ _ va vb s₂ m₂ ra rb rfl hn hm1 hm2) (fun y s3 r => ⟨⟨l[i], List.getElem?_eq_getElem hi3, r.1⟩, r.2⟩) fun _ _ e => e
    · intro g h5 tk5 gs hgb hag hsz5 hk5 W5 hat
      simp only [GxR.passing_true, List.length_range] at W5
      refine hQ l H1 g _ q1 ⟨_, _, _, _, _, _, l1, W5.in4_1, hat, ?_, fun s' hm => ?_⟩
      · intro j y sj Qj Ej hy hQj
        obtain ⟨i, hij, q, hq, rfl⟩ := hy
        obtain ⟨hj, ej⟩ := List.getElem?_eq_some_iff.mp hij
        rw [List.getElem_range] at ej
        subst ej
        have hQ2 : Qj (trP pz l j) sj := hQj
        unfold trP at hQ2
        rw [hq] at hQ2
        exact wpAny_truthy_bool hQ2
      · obtain ⟨more, em⟩ := hmore
        have nwr : ∀ b u, s1.heap.get? b = some u → b ∉ h3.objs.size :: [s1.heap.objs.size] := fun b u e hb => by
          have hl := Heap.lt_size e
          rcases List.mem_cons.mp hb with z | z
          · rw [z] at hl
            have h9 : (h3.objs.size : Nat) < s1.heap.objs.size := hl
            omega
          · rcases List.mem_cons.mp z with z | z
            · rw [z] at hl
              exact Nat.lt_irrefl _ hl
            · cases z
        have J := inv_tab (more := more) (h' := s'.heap) (g' := s'.gens) (d' := s'.drawn) (t' := s'.toks) I1 hP (fun b u hb e => hm.heap b u (nwr b u e) (hk5 b u (keep3 b u hb e)))
          (by rw [← em]; exact hm.heap P _ (nwr P _ hPs) (hk5 P _ hP3)) (AllBare.movedS (I1.bare.push hgb) hm)
        rw [sh_eta s1 s' hm.os] at J
        refine ⟨upd H1 P (.tbl (ps ++ more)), ⟨⟨ps ++ more, upd_same, by rw [← em]; exact ht3⟩, fun b hb => upd_ne hb⟩, J⟩
  refine ⟨lim2, ?_⟩
  cases hf : codeAmong gpos ps.toList with
  | none =>
    refine wpAny_genexprCodeX hcode (cd.code hP2 ht) (cd.tab hP2) hf fun c' h' tk hx hge hlt hco' _ htab' _ => ?_
    obtain ⟨o1, vs, f1, tf, fl, tg, inF, tx, tt, op, _, _, _, _, _, _, _, _, _, htr, _⟩ := hco'
    exact cont _ h' tk _ hx (Nat.le_trans hge (Nat.le_of_lt hlt)) htab'.2 ⟨_, rfl⟩ htr
  | some cv =>
    refine wpAny_genexprCode_hit hcode (cd.code hP2 ht) hf ?_
    exact cont cv (s1.heap.push o) s1.toks ps (Heap.ExtBut.refl _ _) (Nat.le_refl _) hP2 ⟨#[], by simp⟩ ht
/-- any(test for xa, xb in e), e a tuple of pairs; behind it the def's table may have grown -/
def tAnyP (K : PySem.W.Frag) (P : Addr) (pz : V → V → Bool) (te : TE) : TE := fun σ H Q => te σ H fun v H1 => ∃ (a : Addr) (xs : List V) (l : List (V × V)), v = .ref a ∧ SqT K H1 a xs ∧ PairsAt K H1 xs l ∧ TabG H1 P ∧ ∀ H2, Tabbed P H1 H2 → Q (.bl (l.any fun p => pz p.1 p.2)) H2
theorem pe_anyP {c P : Addr} {elt iter : Expr} {xa xb : Str} {pa pb pt p pos gpos : Pos} {kt : Nat} {scope : Scope} {pz : V → V → Bool} {te : TE} {k : Nat}
    (hr : Room k X.A) (hg : Gl X "any") (hm : X.mg "any" = none) (TB : TabB X.base X.mg c P) (hcode : X.env.code = .ref c) (S : GenS2 X.env scope xa xb) (hi : PE X iter te) (hel : EltP2 X.prog X.w scope xa xb elt pz)
    (hs : ∀ v, genFold iter X.env v = pure v)
    (he : starEach [.GeneratorExp elt [⟨.Tuple [.Name xa pa, .Name xb pb] kt pt, iter, [], 0⟩] scope gpos] X.env = (false, eval (.GeneratorExp elt [⟨.Tuple [.Name xa pa, .Name xb pb] kt pt, iter, [], 0⟩] scope gpos) X.env) :: starEach [] X.env := by rfl) :
    PE X (.Call (.Name "any" p) [.GeneratorExp elt [⟨.Tuple [.Name xa pa, .Name xb pb] kt pt, iter, [], 0⟩] scope gpos] [] pos) (tAnyP X.K P pz te) := by
  refine ⟨fun pins s σ H Q I h => ?_⟩
  refine wpAny_Call_Name_kw (ld_blt I hg hm boot_any ?_)
  refine PyProof.Rows.callWith_builtin1 ?_ he (by rfl)
  rw [he]
  show wpAny _ _ (spliced ((false, eval (.GeneratorExp elt [⟨.Tuple [.Name xa pa, .Name xb pb] kt pt, iter, [], 0⟩] scope gpos) X.env) :: backTo pos (starEach [] X.env))) _ _ s
  refine Calls.spliced_cons (gen_pair (R := fun l H1 => ∀ H2, Tabbed P H1 H2 → Q (.bl (l.any fun p => pz p.1 p.2)) H2) hr TB hcode S hi hel hs I h fun l H1 g s5 hR hG => ?_)
  obtain ⟨fp, wr, G, F, St, n, hn, W, hst, htr, hI⟩ := hG
  subst hn
  refine Calls.spliced_nil ?_
  refine call_any_walkS (W.self 0 _ _ _ hst ⟨g, fp, wr, G, _, F, St, _, rfl, W, hst, htr, fun s' hmv => ?_⟩)
  obtain ⟨H2, hT, J⟩ := hI s' hmv
  refine ⟨.bl _, H2, J, rfl, ?_⟩
  rw [any_trP pz l]
  exact hR H2 hT
end
end My

namespace My
open PySem PySem.Spec PyProof.Rows L2
/-- a def of the text whose code object is known -/
structure FunC (K : PySem.W.Frag) (x qual : Str) (st : Stmt) (f : Addr) (fd : FuncData) (cdv : Value) : Prop where
  ex : ∃ (oc : Value) (od : Option Addr) (kV doc pm : Value) (an : Option Addr) (ct : Value) (osl : Array (Option Value)),
    fd = PySem.W.fnOf x qual (defArgs st) (defBody st) (defScope st) .none kV doc pm an cdv ct ∧ K.lookup f = some ⟨oc, od, .func fd, osl⟩ ∧ PySem.W.codeIn K cdv qual = true
  kp : PySem.W.keepIn K (.ref f) = true
section
variable {P : Program} {w : World} {K : PySem.W.Frag} {mg : Str → Option Value} {base : Heap}
theorem FunC.ok {x qual : Str} {st : Stmt} {f : Addr} {fd : FuncData} {cdv : Value} {N ps : List Str} {k : Nat} {sp : Sp} (F : FunC K x qual st f fd cdv) (S : FnScope N ps (defScope st)) (len : ∀ vs H Q E, sp vs H Q E → vs.length = ps.length)
    (hbody : ∀ (A : Around) (outer : List Env) (s : Shared) (H : Hp) (vs : List V) (Q : VK) (E : XK), Room k (A.deeper (envOfC qual (defScope st) s.heap.objs.size f cdv)) → sp vs H Q E →
      ∃ t, PSs (cxOf CX0 P w K mg base N qual (defScope st) f cdv A outer s H E).nox (defBody st) t ∧ t { nx := fun _ H' => Q .non H', rt := Q } (L2.start N vs) H) : FnOk P w K mg base CX0 (k + 1) f fd ps sp := by
  obtain ⟨oc, od, kV, doc, pm, an, ct, osl, rfl, lk, hcd⟩ := F.ex
  refine fn_of lk hcd S len fun A outer s H vs Q E hr hsp => ?_
  obtain ⟨t, h, q⟩ := hbody A outer s H vs Q E hr hsp
  exact ⟨t, h.nox, q⟩
end
theorem gs2_of {env : Env} {scope : Scope} {xa xb : Str} (h1 : scope.kind = .function) (h2 : scope.isCoroutine = false) (h3 : scope.names.all (fun y => y.2 == .local || y.2 == .globalImplicit) = true) (h4 : scope.names.lookup (".0" : Str) = some NameKind.local)
    (h5 : scope.names.lookup xa = some .local) (h6 : scope.names.lookup xb = some .local) (h7 : xa ≠ xb) : GenS2 env scope xa xb :=
  have no : ∀ y ∈ scope.names, y.2 ≠ .cell ∧ y.2 ≠ .free := fun y hy => by
    have := List.all_eq_true.mp h3 y hy
    constructor
    · intro e
      rw [e] at this
      cases this
    · intro e
      rw [e] at this
      cases this
  ⟨h1, h2, fun y hy => (no y hy).1, h4, h5, h6, h7, fun y hy e => absurd e (no y hy).2⟩
theorem gx_of {base : Heap} {mg : Str → Option Value} {c P : Addr} (h : LamX.TabB base mg c P) : GxR.TabB base mg c P := ⟨h.code, h.bm, h.gP⟩
theorem tabIn_mk {K : PySem.W.Frag} {x : Str} {f c P : Addr} {oc occ : Value} {od odc : Option Addr} {fd : FuncData} {sl slc : Array (Option Value)} {vs : Array Value} (a : PySem.W.nsIn K mainGlobals x = some (some (.ref f))) (l : K.lookup f = some ⟨oc, od, .func fd, sl⟩)
    (hc : fd.code = .ref c) (lc : K.lookup c = some ⟨occ, odc, .fields vs, slc⟩) (hp : (vs[11]? : Option Value) = some (.ref P)) : PySem.W.tabIn K x = some (c, P) := by
  unfold PySem.W.tabIn
  simp only [a, l, hc, lc, hp]
/-- the end, the tables of the defs' code objects told by the top -/
theorem walk_ofP {l : PySem.W.OpenLaw} {n k : Nat} {q : Program} {loose : List Str} {XP : (Str → Option Value) → Heap → Prop} {YP : World → Heap → Prop} {d : DefRec} {K : Params → PySem.W.Frag} {CX : World → CXT} {x : Str}
    (hn : l.most = some n) (hn2 : n ≤ sizeLine) (hdf : d.params.defaults = []) (hr : Room k callerA) (hY : ∀ (w : World) (h : Heap), YP w h → (K w.params).In h)
    (F : ∀ (w : World) (lo : List Str) (mean : PySem.ExcName → Option Value) (mg mb : Str → Option Value) (fa : Addr) (h : Heap), PyProof.Rows.Top q lo mean mg mb h → (K w.params).In h → h.Ns mainGlobals mg → mg d.name = some (.ref fa) → LamX.LawAtS l w (K w.params) (CX w) k n x mg fa h)
    (hCX : ∀ (w : World) (H : Hp) (s : Shared) (e : Value) (s' : Shared), CX w [] H s (fun _ _ _ => False) e s' → False) :
    PySem.W.WalkO q loose XP YP l.row.toRowW d [] (fun f vs => PySem.call f vs) := by
  refine Att.attach_callB hn hdf fun w s₀ s₁ mg mb fa o pm cd doc a vs ns G Y ho hd hcd hmg hobj hints hlen hbits hg => ?_
  have KX := hY w _ Y
  obtain ⟨fd, cs, sp, hT, nT, C, hb, hsp, hF⟩ := F w _ _ mg mb fa _ G.T KX G.T.g hmg
  exact LamX.law_callTs KX G.T.g G.T.b G.T.builtins G.T.nolimit hg hT nT C G.T.bmain hobj hints (Nat.le_trans hlen hn2) hr hF hb (fun H hH hS => hsp H a ns hlen hbits hH hS) fun H e s' => hCX w H s₁ e s'
end My

local macro_rules | `(tactic| walk_at "rd") => `(tactic| simp only [L2.tAsg, L2.tRet, L2.tRetN, L2.tDrop, L2.tNext, L2.gName, L2.gSub, L2.gTup, L2.gCons, L2.gNil, L2.tOp, L2.tUn, L2.tVar, L2.tC, L2.tCB, L2.tCons, L2.tNil, L2.tTest, L2.tB, L2.tAnd, L2.tOr, L2.tNot, L2.tAndV, L2.tOrV, L2.tNotV, L2.tIf,
  L2.rI, L2.rI0, L2.rU, L2.rEq, L2.rNe, L2.rIxL, L2.rIxT, L2.rIxS, L2.rSetL, L2.tBM, L2.tBM0, L2.tM0, L2.tM1, L2.rAppend, L2.tTup, L2.tLst, L2.tCall, L2.tSl, L2.rSlS, L2.CMul, L2.CDiv, L2.CPow, L2.tChain, L2.iRng1, L2.iRng2, L2.iList, L2.iTup, L2.iStr, My.tLc_eq, My.tDc_eq, L2.tAug, L2.ipI, L2.tCont, L2.tBreak, My.tListValsT, My.rValsT, My.iEnumT, L2.iEnum, My.iBoth, L2.tDGet, L2.tDIn, L2.tDNotIn, L2.sDPut, L2.tDNewK, L2.tDNewT, L2.tDisp, L2.tPairs, L2.tDGet1, L2.tDGet2, L2.tFld, L2.sFld, L2.tMeth, L2.tMake, L2.rIndex, L2.rSorted, L2.tLstRg, L2.tRg1, L2.tRg2, L2.rCatA, My.rExtendT, L2.rReverse, L2.rPopAt, L2.rNoneIn, L2.gUnl, L2.tYes, L2.tNoPart, L2.tPart, L2.tNotT, L2.tOrT, L2.tAndT, L2.rAll, L2.rAny, L2.rIx, L2.wipe, L2.rCat, L2.rCatT, L2.rIn, L2.rSlL, L2.rSlT, L2.rExtend, L2.rIsi, L2.rPop, L2.rEqD, L2.rNeD, My.truv_str, My.truv_int, My.truv_bl, My.truv_non, My.sgn_inj, My.scal_ii, My.scal_ss, My.scal_bb, My.cxK, My.cxKn,
  List.getElem?_cons_zero, List.getElem?_cons_succ, List.set_cons_zero, List.set_cons_succ, Option.some.injEq, L2.V.int.injEq, L2.V.str.injEq, L2.V.ref.injEq, L2.V.bl.injEq, List.cons.injEq, exists_eq_left', exists_eq_left, exists_and_left, exists_eq, exists_eq', and_true, true_and, and_assoc, List.cons_append, List.nil_append, List.append_nil, List.map_cons, List.map_nil, exists_const, if_true, if_false, ↓reduceIte, reduceCtorEq, false_or, or_false, false_and, and_false, exists_false])
local macro_rules | `(tactic| walk_at "s") => `(tactic| ((try dsimp only); refine My.seqCut fun N hN => ?_; walk_at "rd"; try subst hN))
local macro_rules | `(tactic| walk_at "r") => `(tactic| ((try dsimp only); refine My.retCut fun N hN => ?_; walk_at "rd"; try subst hN))
local macro_rules | `(tactic| walk_at "i") => `(tactic| ((try dsimp only); refine My.ifCut fun A B hA hB => ?_; walk_at "rd"; try (subst hA hB)))
local macro_rules | `(tactic| walk_at "f") => `(tactic| ((try dsimp only); refine My.forCut fun B N hB hN => ?_; walk_at "rd"; try (subst hB hN)))
local macro_rules | `(tactic| walk_at "l") => `(tactic| ((try dsimp only); refine My.lastCut fun N hN => ?_; walk_at "rd"; try subst hN))
local macro_rules | `(tactic| walk_at "g") => `(tactic| (refine My.gN ?_; simp only [List.set_cons_zero, List.set_cons_succ]))
local macro_rules | `(tactic| walk_at "j") => `(tactic| ((try dsimp only); refine My.ifRet fun A B hA hB => ?_; walk_at "rd"; try (subst hA hB)))

namespace My
open PySem L2
def top (i : Nat) : Stmt := PySem.Challenge.pw_fullymade_k49_heaps_reached_and_pictured.main.body.getD i (.Pass ⟨0, 0, 0, 0⟩)
abbrev s_wall : Stmt := top 0
abbrev s_holds_object : Stmt := top 2
abbrev s_held_rows : Stmt := top 3
abbrev s_search_order : Stmt := top 4
abbrev s_reached_rows : Stmt := top 5
abbrev s_deep : Stmt := top 6
abbrev s_picture : Stmt := top 7
abbrev s_blocks_in : Stmt := top 9
abbrev s_places : Stmt := top 10
abbrev s_uses_flags : Stmt := top 11
abbrev s_Program_init : Stmt := inClass (top 12) 0
abbrev s_Program_inherit : Stmt := inClass (top 12) 1
abbrev s_Program_parent : Stmt := inClass (top 12) 2
abbrev s_Program_lineage : Stmt := inClass (top 12) 3
abbrev s_Program_below : Stmt := inClass (top 12) 4
abbrev s_Program_heirs : Stmt := inClass (top 12) 5
abbrev s_Program_fields : Stmt := inClass (top 12) 6
abbrev s_Program_field : Stmt := inClass (top 12) 7
abbrev s_Program_zeros : Stmt := inClass (top 12) 8
abbrev s_Program_find : Stmt := inClass (top 12) 9
abbrev s_Program_body : Stmt := inClass (top 12) 10
abbrev s_Program_bodies : Stmt := inClass (top 12) 11
abbrev s_Program_roots : Stmt := inClass (top 12) 12
abbrev s_law_feed : Stmt := top 14
abbrev s_law_draw : Stmt := top 15
abbrev s_law_pick : Stmt := top 16
abbrev s_law_same : Stmt := top 17
abbrev s_law_world : Stmt := top 18
abbrev s_law_homes : Stmt := top 19
abbrev s_law_rows : Stmt := top 20
abbrev s_law_spoil : Stmt := top 21
abbrev s_law_laid : Stmt := top 22
abbrev s_law_shuffled : Stmt := top 23
abbrev s_law_held : Stmt := top 24
abbrev s_law_search : Stmt := top 25
abbrev s_law_deep : Stmt := top 26
abbrev s_law_picture : Stmt := top 27
abbrev s_law_asked : Stmt := top 28
abbrev s_law : Stmt := top 29
theorem sc_wall : FnScope ["k"] ["k"] (defScope s_wall) := ⟨rfl, rfl, rfl, by decide +kernel, rfl, by decide +kernel, by decide +kernel⟩
theorem sc_holds_object : FnScope ["program", "name", "field"] ["program", "name", "field"] (defScope s_holds_object) := ⟨rfl, rfl, rfl, by decide +kernel, rfl, by decide +kernel, by decide +kernel⟩
theorem sc_held_rows : FnScope ["program", "row", "cls", "_", "pairs", "name", "value"] ["program", "row"] (defScope s_held_rows) := ⟨rfl, rfl, rfl, by decide +kernel, rfl, by decide +kernel, by decide +kernel⟩
theorem sc_search_order : FnScope ["program", "heap", "indexes", "order", "seen", "index", "at"] ["program", "heap", "indexes"] (defScope s_search_order) := ⟨rfl, rfl, rfl, by decide +kernel, rfl, by decide +kernel, by decide +kernel⟩
theorem sc_reached_rows : FnScope ["program", "heap", "indexes"] ["program", "heap", "indexes"] (defScope s_reached_rows) := ⟨rfl, rfl, rfl, by decide +kernel, rfl, by decide +kernel, by decide +kernel⟩
theorem sc_deep : FnScope ["program", "heap", "row", "_", "value", "index"] ["program", "heap"] (defScope s_deep) := ⟨rfl, rfl, rfl, by decide +kernel, rfl, by decide +kernel, by decide +kernel⟩
theorem sc_picture : FnScope ["program", "heap", "indexes", "order", "index", "numbers", "rows", "cls", "complete", "pairs", "drawn", "name", "value", "held", "number"] ["program", "heap", "indexes"] (defScope s_picture) := ⟨rfl, rfl, rfl, by decide +kernel, rfl, by decide +kernel, by decide +kernel⟩
theorem sc_blocks_in : FnScope ["statement"] ["statement"] (defScope s_blocks_in) := ⟨rfl, rfl, rfl, by decide +kernel, rfl, by decide +kernel, by decide +kernel⟩
theorem sc_places : FnScope ["block", "above", "found", "at", "statement", "path", "turn", "inner"] ["block", "above"] (defScope s_places) := ⟨rfl, rfl, rfl, by decide +kernel, rfl, by decide +kernel, by decide +kernel⟩
theorem sc_uses_flags : FnScope ["params", "block", "_", "statement"] ["params", "block"] (defScope s_uses_flags) := ⟨rfl, rfl, rfl, by decide +kernel, rfl, by decide +kernel, by decide +kernel⟩
theorem sc_Program_init : FnScope ["self", "classes", "units", "main", "row", "method"] ["self", "classes", "units", "main"] (defScope s_Program_init) := ⟨rfl, rfl, rfl, by decide +kernel, rfl, by decide +kernel, by decide +kernel⟩
theorem sc_Program_inherit : FnScope ["self", "cls", "names", "above", "field", "method"] ["self", "cls"] (defScope s_Program_inherit) := ⟨rfl, rfl, rfl, by decide +kernel, rfl, by decide +kernel, by decide +kernel⟩
theorem sc_Program_parent : FnScope ["self", "cls"] ["self", "cls"] (defScope s_Program_parent) := ⟨rfl, rfl, rfl, by decide +kernel, rfl, by decide +kernel, by decide +kernel⟩
theorem sc_Program_lineage : FnScope ["self", "cls", "names", "_", "parent"] ["self", "cls"] (defScope s_Program_lineage) := ⟨rfl, rfl, rfl, by decide +kernel, rfl, by decide +kernel, by decide +kernel⟩
theorem sc_Program_below : FnScope ["self", "cls", "other"] ["self", "cls", "other"] (defScope s_Program_below) := ⟨rfl, rfl, rfl, by decide +kernel, rfl, by decide +kernel, by decide +kernel⟩
theorem sc_Program_heirs : FnScope ["self", "cls"] ["self", "cls"] (defScope s_Program_heirs) := ⟨rfl, rfl, rfl, by decide +kernel, rfl, by decide +kernel, by decide +kernel⟩
theorem sc_Program_fields : FnScope ["self", "name"] ["self", "name"] (defScope s_Program_fields) := ⟨rfl, rfl, rfl, by decide +kernel, rfl, by decide +kernel, by decide +kernel⟩
theorem sc_Program_field : FnScope ["self", "cls", "name"] ["self", "cls", "name"] (defScope s_Program_field) := ⟨rfl, rfl, rfl, by decide +kernel, rfl, by decide +kernel, by decide +kernel⟩
theorem sc_Program_zeros : FnScope ["self", "cls"] ["self", "cls"] (defScope s_Program_zeros) := ⟨rfl, rfl, rfl, by decide +kernel, rfl, by decide +kernel, by decide +kernel⟩
theorem sc_Program_find : FnScope ["self", "cls", "method"] ["self", "cls", "method"] (defScope s_Program_find) := ⟨rfl, rfl, rfl, by decide +kernel, rfl, by decide +kernel, by decide +kernel⟩
theorem sc_Program_body : FnScope ["self", "owner", "name"] ["self", "owner", "name"] (defScope s_Program_body) := ⟨rfl, rfl, rfl, by decide +kernel, rfl, by decide +kernel, by decide +kernel⟩
theorem sc_Program_bodies : FnScope ["self"] ["self"] (defScope s_Program_bodies) := ⟨rfl, rfl, rfl, by decide +kernel, rfl, by decide +kernel, by decide +kernel⟩
theorem sc_Program_roots : FnScope ["self"] ["self"] (defScope s_Program_roots) := ⟨rfl, rfl, rfl, by decide +kernel, rfl, by decide +kernel, by decide +kernel⟩
theorem sc_law_feed : FnScope ["script", "numbers", "total", "k", "cell", "turn"] ["script"] (defScope s_law_feed) := ⟨rfl, rfl, rfl, by decide +kernel, rfl, by decide +kernel, by decide +kernel⟩
theorem sc_law_draw : FnScope ["feed", "many", "at", "mixed"] ["feed", "many"] (defScope s_law_draw) := ⟨rfl, rfl, rfl, by decide +kernel, rfl, by decide +kernel, by decide +kernel⟩
theorem sc_law_pick : FnScope ["feed", "row"] ["feed", "row"] (defScope s_law_pick) := ⟨rfl, rfl, rfl, by decide +kernel, rfl, by decide +kernel, by decide +kernel⟩
theorem sc_law_same : FnScope ["told", "due", "k"] ["told", "due"] (defScope s_law_same) := ⟨rfl, rfl, rfl, by decide +kernel, rfl, by decide +kernel, by decide +kernel⟩
theorem sc_law_world : FnScope ["feed", "pool", "turn", "k", "names", "node", "side", "root", "heir", "letters", "own", "name", "rows", "kind", "cls", "every", "world"] ["feed"] (defScope s_law_world) := ⟨rfl, rfl, rfl, by decide +kernel, rfl, by decide +kernel, by decide +kernel⟩
theorem sc_law_homes : FnScope ["feed", "homes", "k", "fields", "complete", "pairs", "field"] ["feed"] (defScope s_law_homes) := ⟨rfl, rfl, rfl, by decide +kernel, rfl, by decide +kernel, by decide +kernel⟩
theorem sc_law_rows : FnScope ["feed", "world", "size", "closed", "k", "picked", "rows", "pairs", "field", "near", "value", "j"] ["feed", "world", "size"] (defScope s_law_rows) := ⟨rfl, rfl, rfl, by decide +kernel, rfl, by decide +kernel, by decide +kernel⟩
theorem sc_law_spoil : FnScope ["feed", "rows", "row", "complete", "menu", "pair", "raw", "k"] ["feed", "rows"] (defScope s_law_spoil) := ⟨rfl, rfl, rfl, by decide +kernel, rfl, by decide +kernel, by decide +kernel⟩
theorem sc_law_laid : FnScope ["homes", "rows", "order", "spot", "k", "heap", "pairs", "field", "value", "cls"] ["homes", "rows", "order"] (defScope s_law_laid) := ⟨rfl, rfl, rfl, by decide +kernel, rfl, by decide +kernel, by decide +kernel⟩
theorem sc_law_shuffled : FnScope ["feed", "size", "left", "order", "k"] ["feed", "size"] (defScope s_law_shuffled) := ⟨rfl, rfl, rfl, by decide +kernel, rfl, by decide +kernel, by decide +kernel⟩
theorem sc_law_held : FnScope ["world", "row", "kinds", "field", "value"] ["world", "row"] (defScope s_law_held) := ⟨rfl, rfl, rfl, by decide +kernel, rfl, by decide +kernel, by decide +kernel⟩
theorem sc_law_search : FnScope ["world", "heap", "indexes", "order", "index", "at"] ["world", "heap", "indexes"] (defScope s_law_search) := ⟨rfl, rfl, rfl, by decide +kernel, rfl, by decide +kernel, by decide +kernel⟩
theorem sc_law_deep : FnScope ["world", "heap", "k", "complete", "pair"] ["world", "heap"] (defScope s_law_deep) := ⟨rfl, rfl, rfl, by decide +kernel, rfl, by decide +kernel, by decide +kernel⟩
theorem sc_law_picture : FnScope ["world", "heap", "indexes", "order", "rows", "index", "held", "kinds", "field", "pairs", "value", "linked"] ["world", "heap", "indexes"] (defScope s_law_picture) := ⟨rfl, rfl, rfl, by decide +kernel, rfl, by decide +kernel, by decide +kernel⟩
theorem sc_law_asked : FnScope ["program", "world", "heap", "indexes", "picked"] ["program", "world", "heap", "indexes", "picked"] (defScope s_law_asked) := ⟨rfl, rfl, rfl, by decide +kernel, rfl, by decide +kernel, by decide +kernel⟩
theorem sc_law : FnScope ["script", "feed", "world", "homes", "size", "rows", "orders", "asks", "turn", "total", "units", "program", "order", "heaps", "ids", "found", "due", "heap", "row", "k", "pair", "one"] ["script"] (defScope s_law) := ⟨rfl, rfl, rfl, by decide +kernel, rfl, by decide +kernel, by decide +kernel⟩
/-- a constant of the module -/
structure Con1 (mg : Str → Option Value) (x : Str) (v : V) : Type where
  u : Value
  g : mg x = some u
  r : RelV v u
/-- what the top has written -/
structure Txt (K : PySem.W.Frag) (mg : Str → Option Value) : Type where
  C_Program : Addr
  cl_Program : Cls K C_Program
  mg_Program : mg "Program" = some (.ref C_Program)
  n_Program_classes : NoAttr K C_Program "classes"
  n_Program_units : NoAttr K C_Program "units"
  n_Program_main : NoAttr K C_Program "main"
  n_Program_class_rows : NoAttr K C_Program "class_rows"
  n_Program_unit_rows : NoAttr K C_Program "unit_rows"
  n_Program_field_lists : NoAttr K C_Program "field_lists"
  n_Program_field_kinds : NoAttr K C_Program "field_kinds"
  n_Program_owners : NoAttr K C_Program "owners"
  n_Program_body_rows : NoAttr K C_Program "body_rows"
  n_Program_flagged : NoAttr K C_Program "flagged"
  a_wall : Addr
  d_wall : FuncData
  F_wall : Fun K "_wall" "_wall" s_wall a_wall d_wall
  b_wall : Binds K d_wall ["k"] []
  g_wall : mg "_wall" = some (.ref a_wall)
  a_holds_object : Addr
  d_holds_object : FuncData
  F_holds_object : Fun K "holds_object" "holds_object" s_holds_object a_holds_object d_holds_object
  b_holds_object : Binds K d_holds_object ["program", "name", "field"] []
  g_holds_object : mg "holds_object" = some (.ref a_holds_object)
  a_held_rows : Addr
  d_held_rows : FuncData
  F_held_rows : Fun K "held_rows" "held_rows" s_held_rows a_held_rows d_held_rows
  b_held_rows : Binds K d_held_rows ["program", "row"] []
  g_held_rows : mg "held_rows" = some (.ref a_held_rows)
  a_search_order : Addr
  d_search_order : FuncData
  F_search_order : Fun K "search_order" "search_order" s_search_order a_search_order d_search_order
  b_search_order : Binds K d_search_order ["program", "heap", "indexes"] []
  g_search_order : mg "search_order" = some (.ref a_search_order)
  a_reached_rows : Addr
  d_reached_rows : FuncData
  F_reached_rows : Fun K "reached_rows" "reached_rows" s_reached_rows a_reached_rows d_reached_rows
  b_reached_rows : Binds K d_reached_rows ["program", "heap", "indexes"] []
  g_reached_rows : mg "reached_rows" = some (.ref a_reached_rows)
  a_deep : Addr
  d_deep : FuncData
  F_deep : Fun K "deep" "deep" s_deep a_deep d_deep
  b_deep : Binds K d_deep ["program", "heap"] []
  g_deep : mg "deep" = some (.ref a_deep)
  a_picture : Addr
  d_picture : FuncData
  F_picture : Fun K "picture" "picture" s_picture a_picture d_picture
  b_picture : Binds K d_picture ["program", "heap", "indexes"] []
  g_picture : mg "picture" = some (.ref a_picture)
  a_blocks_in : Addr
  d_blocks_in : FuncData
  F_blocks_in : Fun K "blocks_in" "blocks_in" s_blocks_in a_blocks_in d_blocks_in
  b_blocks_in : Binds K d_blocks_in ["statement"] []
  g_blocks_in : mg "blocks_in" = some (.ref a_blocks_in)
  a_places : Addr
  d_places : FuncData
  e0_places : Addr
  x0_places : ∀ H : Hp, SqT K H e0_places []
  F_places : FunD K "places" "places" (defArgs s_places) (defBody s_places) (defScope s_places) [.ref e0_places] [] a_places d_places
  ds1_places : List Value
  vd1_places : Vals [.ref e0_places] ds1_places
  bd1_places : Binds K d_places ["block", "above"] ds1_places
  b_places : Binds K d_places ["block", "above"] []
  g_places : mg "places" = some (.ref a_places)
  a_uses_flags : Addr
  d_uses_flags : FuncData
  c_uses_flags : Addr
  P_uses_flags : Addr
  F_uses_flags : FunC K "uses_flags" "uses_flags" s_uses_flags a_uses_flags d_uses_flags (.ref c_uses_flags)
  b_uses_flags : Binds K d_uses_flags ["params", "block"] []
  g_uses_flags : mg "uses_flags" = some (.ref a_uses_flags)
  a_Program_init : Addr
  d_Program_init : FuncData
  F_Program_init : Fun K "__init__" "Program.__init__" s_Program_init a_Program_init d_Program_init
  b_Program_init : Binds K d_Program_init ["self", "classes", "units", "main"] []
  M_Program : Mk K C_Program a_Program_init
  a_Program_inherit : Addr
  d_Program_inherit : FuncData
  F_Program_inherit : Fun K "inherit" "Program.inherit" s_Program_inherit a_Program_inherit d_Program_inherit
  b_Program_inherit : Binds K d_Program_inherit ["self", "cls"] []
  m_Program_inherit : Meth K C_Program "inherit" a_Program_inherit
  a_Program_parent : Addr
  d_Program_parent : FuncData
  F_Program_parent : Fun K "parent" "Program.parent" s_Program_parent a_Program_parent d_Program_parent
  b_Program_parent : Binds K d_Program_parent ["self", "cls"] []
  m_Program_parent : Meth K C_Program "parent" a_Program_parent
  a_Program_lineage : Addr
  d_Program_lineage : FuncData
  F_Program_lineage : Fun K "lineage" "Program.lineage" s_Program_lineage a_Program_lineage d_Program_lineage
  b_Program_lineage : Binds K d_Program_lineage ["self", "cls"] []
  m_Program_lineage : Meth K C_Program "lineage" a_Program_lineage
  a_Program_below : Addr
  d_Program_below : FuncData
  F_Program_below : Fun K "below" "Program.below" s_Program_below a_Program_below d_Program_below
  b_Program_below : Binds K d_Program_below ["self", "cls", "other"] []
  m_Program_below : Meth K C_Program "below" a_Program_below
  a_Program_heirs : Addr
  d_Program_heirs : FuncData
  F_Program_heirs : Fun K "heirs" "Program.heirs" s_Program_heirs a_Program_heirs d_Program_heirs
  b_Program_heirs : Binds K d_Program_heirs ["self", "cls"] []
  m_Program_heirs : Meth K C_Program "heirs" a_Program_heirs
  a_Program_fields : Addr
  d_Program_fields : FuncData
  F_Program_fields : Fun K "fields" "Program.fields" s_Program_fields a_Program_fields d_Program_fields
  b_Program_fields : Binds K d_Program_fields ["self", "name"] []
  m_Program_fields : Meth K C_Program "fields" a_Program_fields
  a_Program_field : Addr
  d_Program_field : FuncData
  F_Program_field : Fun K "field" "Program.field" s_Program_field a_Program_field d_Program_field
  b_Program_field : Binds K d_Program_field ["self", "cls", "name"] []
  m_Program_field : Meth K C_Program "field" a_Program_field
  a_Program_zeros : Addr
  d_Program_zeros : FuncData
  F_Program_zeros : Fun K "zeros" "Program.zeros" s_Program_zeros a_Program_zeros d_Program_zeros
  b_Program_zeros : Binds K d_Program_zeros ["self", "cls"] []
  m_Program_zeros : Meth K C_Program "zeros" a_Program_zeros
  a_Program_find : Addr
  d_Program_find : FuncData
  F_Program_find : Fun K "find" "Program.find" s_Program_find a_Program_find d_Program_find
  b_Program_find : Binds K d_Program_find ["self", "cls", "method"] []
  m_Program_find : Meth K C_Program "find" a_Program_find
  a_Program_body : Addr
  d_Program_body : FuncData
  F_Program_body : Fun K "body" "Program.body" s_Program_body a_Program_body d_Program_body
  b_Program_body : Binds K d_Program_body ["self", "owner", "name"] []
  m_Program_body : Meth K C_Program "body" a_Program_body
  a_Program_bodies : Addr
  d_Program_bodies : FuncData
  F_Program_bodies : Fun K "bodies" "Program.bodies" s_Program_bodies a_Program_bodies d_Program_bodies
  b_Program_bodies : Binds K d_Program_bodies ["self"] []
  m_Program_bodies : Meth K C_Program "bodies" a_Program_bodies
  a_Program_roots : Addr
  d_Program_roots : FuncData
  F_Program_roots : Fun K "roots" "Program.roots" s_Program_roots a_Program_roots d_Program_roots
  b_Program_roots : Binds K d_Program_roots ["self"] []
  m_Program_roots : Meth K C_Program "roots" a_Program_roots
  a_law_feed : Addr
  d_law_feed : FuncData
  F_law_feed : Fun K "_law_feed" "_law_feed" s_law_feed a_law_feed d_law_feed
  b_law_feed : Binds K d_law_feed ["script"] []
  g_law_feed : mg "_law_feed" = some (.ref a_law_feed)
  a_law_draw : Addr
  d_law_draw : FuncData
  F_law_draw : Fun K "_law_draw" "_law_draw" s_law_draw a_law_draw d_law_draw
  b_law_draw : Binds K d_law_draw ["feed", "many"] []
  g_law_draw : mg "_law_draw" = some (.ref a_law_draw)
  a_law_pick : Addr
  d_law_pick : FuncData
  F_law_pick : Fun K "_law_pick" "_law_pick" s_law_pick a_law_pick d_law_pick
  b_law_pick : Binds K d_law_pick ["feed", "row"] []
  g_law_pick : mg "_law_pick" = some (.ref a_law_pick)
  a_law_same : Addr
  d_law_same : FuncData
  F_law_same : Fun K "_law_same" "_law_same" s_law_same a_law_same d_law_same
  b_law_same : Binds K d_law_same ["told", "due"] []
  g_law_same : mg "_law_same" = some (.ref a_law_same)
  a_law_world : Addr
  d_law_world : FuncData
  F_law_world : Fun K "_law_world" "_law_world" s_law_world a_law_world d_law_world
  b_law_world : Binds K d_law_world ["feed"] []
  g_law_world : mg "_law_world" = some (.ref a_law_world)
  a_law_homes : Addr
  d_law_homes : FuncData
  F_law_homes : Fun K "_law_homes" "_law_homes" s_law_homes a_law_homes d_law_homes
  b_law_homes : Binds K d_law_homes ["feed"] []
  g_law_homes : mg "_law_homes" = some (.ref a_law_homes)
  a_law_rows : Addr
  d_law_rows : FuncData
  F_law_rows : Fun K "_law_rows" "_law_rows" s_law_rows a_law_rows d_law_rows
  b_law_rows : Binds K d_law_rows ["feed", "world", "size"] []
  g_law_rows : mg "_law_rows" = some (.ref a_law_rows)
  a_law_spoil : Addr
  d_law_spoil : FuncData
  F_law_spoil : Fun K "_law_spoil" "_law_spoil" s_law_spoil a_law_spoil d_law_spoil
  b_law_spoil : Binds K d_law_spoil ["feed", "rows"] []
  g_law_spoil : mg "_law_spoil" = some (.ref a_law_spoil)
  a_law_laid : Addr
  d_law_laid : FuncData
  F_law_laid : Fun K "_law_laid" "_law_laid" s_law_laid a_law_laid d_law_laid
  b_law_laid : Binds K d_law_laid ["homes", "rows", "order"] []
  g_law_laid : mg "_law_laid" = some (.ref a_law_laid)
  a_law_shuffled : Addr
  d_law_shuffled : FuncData
  F_law_shuffled : Fun K "_law_shuffled" "_law_shuffled" s_law_shuffled a_law_shuffled d_law_shuffled
  b_law_shuffled : Binds K d_law_shuffled ["feed", "size"] []
  g_law_shuffled : mg "_law_shuffled" = some (.ref a_law_shuffled)
  a_law_held : Addr
  d_law_held : FuncData
  F_law_held : Fun K "_law_held" "_law_held" s_law_held a_law_held d_law_held
  b_law_held : Binds K d_law_held ["world", "row"] []
  g_law_held : mg "_law_held" = some (.ref a_law_held)
  a_law_search : Addr
  d_law_search : FuncData
  F_law_search : Fun K "_law_search" "_law_search" s_law_search a_law_search d_law_search
  b_law_search : Binds K d_law_search ["world", "heap", "indexes"] []
  g_law_search : mg "_law_search" = some (.ref a_law_search)
  a_law_deep : Addr
  d_law_deep : FuncData
  F_law_deep : Fun K "_law_deep" "_law_deep" s_law_deep a_law_deep d_law_deep
  b_law_deep : Binds K d_law_deep ["world", "heap"] []
  g_law_deep : mg "_law_deep" = some (.ref a_law_deep)
  a_law_picture : Addr
  d_law_picture : FuncData
  F_law_picture : Fun K "_law_picture" "_law_picture" s_law_picture a_law_picture d_law_picture
  b_law_picture : Binds K d_law_picture ["world", "heap", "indexes"] []
  g_law_picture : mg "_law_picture" = some (.ref a_law_picture)
  a_law_asked : Addr
  d_law_asked : FuncData
  F_law_asked : Fun K "_law_asked" "_law_asked" s_law_asked a_law_asked d_law_asked
  b_law_asked : Binds K d_law_asked ["program", "world", "heap", "indexes", "picked"] []
  g_law_asked : mg "_law_asked" = some (.ref a_law_asked)
  a_law : Addr
  d_law : FuncData
  F_law : Fun K "law" "law" s_law a_law d_law
  b_law : Binds K d_law ["script"] []
  g_law : mg "law" = some (.ref a_law)
  z_abs : mg "abs" = none
  z_any : mg "any" = none
  z_bool : mg "bool" = none
  z_enumerate : mg "enumerate" = none
  z_int : mg "int" = none
  z_isinstance : mg "isinstance" = none
  z_len : mg "len" = none
  z_list : mg "list" = none
  z_min : mg "min" = none
  z_of : mg "of" = none
  z_range : mg "range" = none
  z_sorted : mg "sorted" = none
  z_str : mg "str" = none
  z_tuple : mg "tuple" = none
/-- the tables of the code objects that generator expressions grow -/
structure TBs {K : PySem.W.Frag} {mg : Str → Option Value} (base : Heap) (T : Txt K mg) : Prop where
  t_uses_flags : GxR.TabB base mg T.c_uses_flags T.P_uses_flags
structure TabsH {K : PySem.W.Frag} {mg : Str → Option Value} (T : Txt K mg) (H : Hp) : Prop where
  h_uses_flags : H T.P_uses_flags = some (.tbl #[])
section
variable {P : Program} {w : World} {K : PySem.W.Frag} {mg : Str → Option Value} {base : Heap}
/-! ### heaps of rows, as data -/
structure HR where
  c : Str
  b : Bool
  ps : List (Str × Option Int)
def optI : Option Int → PyData
  | none => .none
  | some i => .int i
def optV : Option Int → V
  | none => .non
  | some i => .int i
theorem Rp.optI {H : Hp} : ∀ o : Option Int, Rp K H (optV o) (optI o)
  | none => .non
  | some i => .int i
theorem Rp.inv_optI {H : Hp} {v : V} : ∀ {o : Option Int}, Rp K H v (My.optI o) → v = optV o
  | none, h => h.inv_non
  | some _, h => h.inv_int
def prD (q : Str × Option Int) : PyData := .tuple [.str q.1, optI q.2]
def HR.d (r : HR) : PyData := .tuple [.str r.c, .bool r.b, .tuple (r.ps.map prD)]
def hpD (rs : List HR) : PyData := .tuple (rs.map HR.d)
abbrev Holds := Str → Str → Bool
def heldP (h : Str → Bool) (q : Str × Option Int) : Option Int := match q.2 with
  | none => none
  | some i => if h q.1 then some i else none
def heldR (h : Holds) (r : HR) : List Int := r.ps.filterMap (heldP (h r.c))
/-- the program at p answers, whether a field holds objects -/
structure PgH (K : PySem.W.Frag) (C : Addr) (H : Hp) (p : Addr) (h : Holds) (dom : Str → Str → Prop) : Prop where
  ex : ∃ dx fs a1 a2 cr kd, H p = some (.ins C dx fs) ∧ fs.lookup ("class_rows" : Str) = some (.ref a1) ∧ fs.lookup ("field_kinds" : Str) = some (.ref a2) ∧ fs.lookup ("field" : Str) = none ∧ H a1 = some (.dK cr) ∧ H a2 = some (.dT kd) ∧
    ∀ c f, dom c f → (valV cr (.inr c) = none ∧ h c f = false) ∨ ∃ v0 t xs k, valV cr (.inr c) = some v0 ∧ valV kd [.inr c, .inr f] = some (.ref t) ∧ SqT K H t xs ∧ atI xs 1 = some k ∧ h c f = !decide (k = .non)
theorem PgH.same {C : Addr} {H H' : Hp} {p : Addr} {h : Holds} {dom : Str → Str → Prop} (x : PgH K C H p h dom) (s : Same H H') : PgH K C H' p h dom := by
  obtain ⟨dx, fs, a1, a2, cr, kd, e1, e2, e3, e4, e5, e6, e7⟩ := x.ex
  refine ⟨dx, fs, a1, a2, cr, kd, s _ _ e1, e2, e3, e4, s _ _ e5, s _ _ e6, fun c f d => ?_⟩
  rcases e7 c f d with q | ⟨v0, t, xs, k, g1, g2, g3, g4, g5⟩
  · exact .inl q
  · exact .inr ⟨v0, t, xs, k, g1, g2, (KeepT.of s) _ _ g3, g4, g5⟩
/-- a row whose fields are known -/
def RowOk (n : Nat) (h : Holds) (dom : Str → Str → Prop) (r : HR) : Prop := r.ps.length ≤ 1000 ∧ (∀ q ∈ r.ps, q.2 ≠ none → dom r.c q.1) ∧ ∀ i ∈ heldR h r, 0 ≤ i ∧ i < n
/-! ### the search, as data -/
def addN (o xs : List Int) : List Int := xs.foldl (fun o x => if x ∈ o then o else o ++ [x]) o
theorem addN_snoc (o xs : List Int) (x : Int) : addN o (xs ++ [x]) = if x ∈ addN o xs then addN o xs else addN o xs ++ [x] := by
  unfold addN
  rw [List.foldl_append]
  rfl
/-- one turn: the row at place k of the order -/
def stepN (h : Holds) (rs : List HR) (k : Nat) (o : List Int) : List Int := match o[k]? with
  | none => o
  | some i => match rs[i.toNat]? with
    | none => o
    | some r => addN o (heldR h r)
def turnsN (h : Holds) (rs : List HR) (o : List Int) : Nat → List Int
  | 0 => o
  | k + 1 => stepN h rs k (turnsN h rs o k)
def srch (h : Holds) (rs : List HR) (ids : List Int) : List Int := turnsN h rs (addN [] ids) rs.length
theorem addN_mem (o : List Int) : ∀ (xs : List Int) (x : Int), x ∈ addN o xs ↔ x ∈ o ∨ x ∈ xs := by
  intro xs
  induction xs generalizing o with
  | nil => intro x; simp [addN]
  | cons y r ih =>
    intro x
    show x ∈ addN (if y ∈ o then o else o ++ [y]) r ↔ _
    rw [ih]
    split
    · rename_i hy
      simp only [List.mem_cons]
      constructor
      · rintro (a | b)
        · exact .inl a
        · exact .inr (.inr b)
      · rintro (a | b | c)
        · exact .inl a
        · exact .inl (b ▸ hy)
        · exact .inr c
    · simp only [List.mem_append, List.mem_cons, List.not_mem_nil, or_false]
      constructor
      · rintro ((a | b) | c)
        · exact .inl a
        · exact .inr (.inl b)
        · exact .inr (.inr c)
      · rintro (a | b | c)
        · exact .inl (.inl a)
        · exact .inl (.inr b)
        · exact .inr c
theorem addN_nodup : ∀ (xs : List Int) {o : List Int}, o.Nodup → (addN o xs).Nodup := by
  intro xs
  induction xs with
  | nil => intro o h; exact h
  | cons y r ih =>
    intro o h
    show (addN (if y ∈ o then o else o ++ [y]) r).Nodup
    refine ih ?_
    split
    · exact h
    · rename_i hy
      rw [List.nodup_append]
      exact ⟨h, by simp, fun a ha b hb => by rw [List.mem_singleton.mp hb]; exact fun e => hy (e ▸ ha)⟩
/-- all below n, each once -/
def Blw (n : Nat) (o : List Int) : Prop := o.Nodup ∧ ∀ i ∈ o, 0 ≤ i ∧ i < n
theorem Blw.len : ∀ {n : Nat} {o : List Int}, Blw n o → o.length ≤ n
  | 0, o, h => by
    cases o with
    | nil => exact Nat.le_refl _
    | cons a r =>
      have := h.2 a List.mem_cons_self
      omega
  | n + 1, o, h => by
    by_cases hn : (n : Int) ∈ o
    · have h1 : Blw n (o.erase n) := ⟨h.1.erase _, fun i hi => by
        have h2 := (h.1.mem_erase_iff).mp hi
        have h3 := h.2 i h2.2
        have := h2.1
        omega⟩
      have := h1.len
      rw [List.length_erase_of_mem hn] at this
      omega
    · have h1 : Blw n o := ⟨h.1, fun i hi => by
        have h3 := h.2 i hi
        have : i ≠ n := fun e => hn (e ▸ hi)
        omega⟩
      have := h1.len
      omega
theorem Blw.add {n : Nat} {o xs : List Int} (h : Blw n o) (hx : ∀ i ∈ xs, 0 ≤ i ∧ i < n) : Blw n (addN o xs) :=
  ⟨addN_nodup xs h.1, fun i hi => ((addN_mem o xs i).mp hi).elim (h.2 i) (hx i)⟩
theorem Blw.step {n : Nat} {o : List Int} {h : Holds} {rs : List HR} {k : Nat} (b : Blw n o) (hr : ∀ r ∈ rs, ∀ i ∈ heldR h r, 0 ≤ i ∧ i < n) : Blw n (stepN h rs k o) := by
  unfold stepN
  split
  · exact b
  · split
    · exact b
    · rename_i r e
      exact b.add (hr r (List.mem_of_getElem? e))
theorem Blw.turns {n : Nat} {o : List Int} {h : Holds} {rs : List HR} (b : Blw n o) (hr : ∀ r ∈ rs, ∀ i ∈ heldR h r, 0 ≤ i ∧ i < n) : ∀ k, Blw n (turnsN h rs o k)
  | 0 => b
  | k + 1 => (Blw.turns b hr k).step hr
theorem turns_stop {h : Holds} {rs : List HR} {o : List Int} {k : Nat} (hk : (turnsN h rs o k).length ≤ k) : ∀ j, turnsN h rs o (k + j) = turnsN h rs o k
  | 0 => rfl
  | j + 1 => by
    have e := turns_stop hk j
    show stepN h rs (k + j) (turnsN h rs o (k + j)) = _
    rw [e]
    unfold stepN
    rw [List.getElem?_eq_none (by omega)]
/-! ### while -/
theorem whN {n k : Nat} {Pv : Nat → St → Hp → Prop} (hk : k < n) : ∀ σ' H', Pv (k + 1) σ' H' → ∃ m', m' < n - k ∧ ∃ j, m' = n - j ∧ Pv j σ' H' := fun _ _ h => ⟨n - (k + 1), by omega, k + 1, rfl, h⟩
theorem whileK {c : TT} {tb : TS} {D : Ends} {σ : St} {H : Hp} (n : Nat) (Pv : Nat → St → Hp → Prop) (h0 : Pv 0 σ H)
    (hs : ∀ k σ H, Pv k σ H → c σ H fun b H1 => if b = true then ∃ N : St → Hp → Prop, (∀ σ' H', N σ' H' → ∃ m', m' < n - k ∧ ∃ j, m' = n - j ∧ Pv j σ' H') ∧ tb { D with nx := N, ct := N, bk := D.nx } σ H1 else D.nx σ H1) : tWhile c tb D σ H := by
  refine ⟨fun m σ H => ∃ k, m = n - k ∧ Pv k σ H, ⟨_, 0, rfl, h0⟩, ?_⟩
  rintro m σ H ⟨k, rfl, h⟩
  exact hs k σ H h
/-! ### an order of rows with the dict of those seen -/
structure OrdAt (H0 H : Hp) (oa sa : Addr) (o : List Int) : Prop where
  same : Same H0 H
  no : H0 oa = none
  ns : H0 sa = none
  ne : oa ≠ sa
  ls : H oa = some (.lst (o.map V.int))
  ex : ∃ kvs, H sa = some (.dK kvs) ∧ kvs.length ≤ o.length ∧ ∀ i : Int, (valV kvs (Sum.inl i)).isSome = decide (i ∈ o)
/-- a new one -/
theorem OrdAt.put {H0 H : Hp} {oa sa : Addr} {o : List Int} {i : Int} {kvs : List (Key × V)} (x : OrdAt H0 H oa sa o) (hk : H sa = some (.dK kvs)) (hi : valV kvs (Sum.inl i) = none) :
    OrdAt H0 (upd (upd H sa (.dK (putK kvs (Sum.inl i) (.bl true)))) oa (.lst (o.map V.int ++ [.int i]))) oa sa (o ++ [i]) := by
  obtain ⟨kvs', e, hl, hv⟩ := x.ex
  rw [hk] at e
  cases e
  refine ⟨My.Same.mut (My.Same.mut x.same x.ns) x.no, x.no, x.ns, x.ne, by rw [upd_same, List.map_append]; rfl, putK kvs (Sum.inl i) (.bl true), by rw [upd_ne x.ne.symm, upd_same], ?_, fun j => ?_⟩
  · rw [putK_new _ hi, List.length_append, List.length_append]
    simpa using hl
  · rw [valV_put]
    by_cases hj : (Sum.inl j : Key) = Sum.inl i
    · cases hj
      simp
    · have hj2 : j ≠ i := fun e => hj (by rw [e])
      rw [if_neg hj, hv j]
      simp [hj2]
theorem OrdAt.step {H0 H H' : Hp} {oa sa : Addr} {o : List Int} (x : OrdAt H0 H oa sa o) (s : Same H H') : OrdAt H0 H' oa sa o := by
  obtain ⟨kvs', e, hl, hv⟩ := x.ex
  exact ⟨x.same.trans s, x.no, x.ns, x.ne, s _ _ x.ls, kvs', s _ _ e, hl, hv⟩
theorem tyL {H : Hp} {a : Addr} {xs : List V} (h : H a = some (.lst xs)) : tyV K "list" (.ref a) H := .inl ⟨rfl, _, .inl (.inl h)⟩
theorem addN_pre (o : List Int) : ∀ xs : List Int, o <+: addN o xs := by
  intro xs
  induction xs generalizing o with
  | nil => exact List.prefix_refl o
  | cons y r ih =>
    show o <+: addN (if y ∈ o then o else o ++ [y]) r
    split
    · exact ih o
    · exact (List.prefix_append o [y]).trans (ih _)
theorem stepN_pre (h : Holds) (rs : List HR) (k : Nat) (o : List Int) : o <+: stepN h rs k o := by
  unfold stepN
  split
  · exact List.prefix_refl o
  · split
    · exact List.prefix_refl o
    · exact addN_pre o _
theorem turnsN_pre (h : Holds) (rs : List HR) (o : List Int) (k : Nat) : ∀ j, turnsN h rs o k <+: turnsN h rs o (k + j)
  | 0 => List.prefix_refl _
  | j + 1 => (turnsN_pre h rs o k j).trans (stepN_pre h rs (k + j) _)
/-- what the rows of the search hold is in it -/
theorem srch_closed {h : Holds} {rs : List HR} {ids : List Int} (hl : (srch h rs ids).length ≤ rs.length) {i : Int} {r : HR} (hi : i ∈ srch h rs ids) (hr : rs[i.toNat]? = some r) : ∀ z ∈ heldR h r, z ∈ srch h rs ids := by
  intro z hz
  obtain ⟨k, hk, e⟩ := List.getElem_of_mem hi
  have hkn : k < rs.length := by omega
  have p1 := turnsN_pre h rs (addN [] ids) k (rs.length - k)
  have p2 := turnsN_pre h rs (addN [] ids) (k + 1) (rs.length - (k + 1))
  rw [show k + (rs.length - k) = rs.length by omega] at p1
  rw [show k + 1 + (rs.length - (k + 1)) = rs.length by omega] at p2
  by_cases hlt : k < (turnsN h rs (addN [] ids) k).length
  · have e2 : (turnsN h rs (addN [] ids) k)[k]? = some i := by
      obtain ⟨t, ht⟩ := p1
      have e3 : (srch h rs ids)[k]? = some i := by rw [List.getElem?_eq_getElem hk, e]
      unfold srch at e3
      rw [← ht, List.getElem?_append_left hlt] at e3
      exact e3
    have e4 : turnsN h rs (addN [] ids) (k + 1) = addN (turnsN h rs (addN [] ids) k) (heldR h r) := by
      show stepN h rs k (turnsN h rs (addN [] ids) k) = _
      unfold stepN
      rw [e2]
      dsimp only
      rw [hr]
    refine p2.subset ?_
    rw [e4]
    exact (addN_mem _ _ _).mpr (.inr hz)
  · have := turns_stop (h := h) (rs := rs) (o := addN [] ids) (k := k) (by omega) (rs.length - k)
    rw [show k + (rs.length - k) = rs.length by omega] at this
    have : (srch h rs ids).length = (turnsN h rs (addN [] ids) k).length := by rw [srch, this]
    omega
/-- the ids are in it -/
theorem srch_ids {h : Holds} {rs : List HR} {ids : List Int} {i : Int} (hi : i ∈ ids) : i ∈ srch h rs ids := by
  have p := turnsN_pre h rs (addN [] ids) 0 rs.length
  rw [Nat.zero_add] at p
  exact p.subset ((addN_mem [] ids i).mpr (.inr hi))

def spField (C : Addr) : Sp := fun vs H Q _ => ∃ (p : Addr) (c f : Str) (dx : Addr) (fs : List (Str × V)) (a2 : Addr) (kd : List (List L2.Key × V)) (v : V), vs = [.ref p, .str c, .str f] ∧ H p = some (.ins C dx fs) ∧ fs.lookup ("field_kinds" : Str) = some (.ref a2) ∧ H a2 = some (.dT kd) ∧
  valV kd [.inr c, .inr f] = some v ∧ ∀ H', Same H H' → Q v H'
theorem ok_Program_field (T : Txt K mg) : FnOk P w K mg base CX0 1 T.a_Program_field T.d_Program_field ["self", "cls", "name"] (spField T.C_Program) :=
  T.F_Program_field.ok sc_Program_field (fun vs H Q E h => by obtain ⟨p, c, f, dx, fs, a2, kd, v, rfl, _⟩ := h; rfl) fun cdv A outer s H vs Q E hr h => by
    obtain ⟨p, c, f, dx, fs, a2, kd, v, rfl, hp, h1, h2, h3, k⟩ := h
    refine ⟨_,
      -- return self.field_kinds[cls, name]
      (pss_one (ps_ret (pe_dget (hu_of hr) (pe_fld (pv 0) rfl) (pe_tup (pa_cons (pv 1) (pa_cons (pv 2) pa_nil))) (fun _ _ => rfl))))
      , ?_⟩
    refine sig [some (.ref p), some (.str c), some (.str f)] rfl ?_
    walk_at "r"
    refine ⟨_, _, _, hp, T.cl_Program, T.n_Program_field_kinds, _, h1, by show 2 ≤ sizeLine; decide, fun t ht => ⟨_, rfl, _, ?_, k _ (My.Same.new ht)⟩⟩
    rw [← h3]
    exact DGet.t (k := [.inr c, .inr f]) (Same.new ht _ _ h2) upd_same
def spHolds (K : PySem.W.Frag) (C : Addr) : Sp := fun vs H Q _ => ∃ (p : Addr) (c f : Str) (h : Holds) (dom : Str → Str → Prop), vs = [.ref p, .str c, .str f] ∧ PgH K C H p h dom ∧ dom c f ∧ ∀ H', Same H H' → Q (.bl (h c f)) H'
theorem ok_holds_object (T : Txt K mg) : FnOk P w K mg base CX0 2 T.a_holds_object T.d_holds_object ["program", "name", "field"] (spHolds K T.C_Program) :=
  T.F_holds_object.ok sc_holds_object (fun vs H Q E h => by obtain ⟨p, c, f, h, dom, rfl, _⟩ := h; rfl) fun cdv A outer s H vs Q E hr h => by
    obtain ⟨p, c, f, h, dom, rfl, hp, hd, k⟩ := h
    obtain ⟨dx, fs, a1, a2, cr, kd, e1, e2, e3, e4, e5, e6, e7⟩ := hp.ex
    refine ⟨_,
      -- return name in program.class_rows and program.field(name, field)[1] is not None
      (pss_one (ps_ret (pe_and (pe_cmp (pc_din (hu_of hr) (pv 1) (pe_fld (pv 0) rfl))) (pe_one (pe_cmpR op_notN (pe_ix ix_tup (pe_meth (pv 0) T.cl_Program T.m_Program_field (ok_Program_field T) (hr.mono (by first | decide | omega)) T.b_Program_field .nil pass0 (pa_cons (pv 1) (pa_cons (pv 2) pa_nil))) pe_int (fun _ _ => rfl)) pe_non (nomark _))))))
      , ?_⟩
    refine sig [some (.ref p), some (.str c), some (.str f)] rfl ?_
    walk_at "r"
    refine ⟨_, _, _, e1, T.cl_Program, T.n_Program_class_rows, _, e2, _, rfl, _, DGet.k (k := .inr c) e5, ?_⟩
    rcases e7 c f hd with ⟨g1, g2⟩ | ⟨v0, t, xs, kk, g0, g1, g2, g3, g4⟩
    · rw [g1]
      refine iteF ?_
      rw [← g2]
      exact k _ (.refl H)
    · rw [g0]
      refine iteT ?_
      refine ⟨_, _, e1, e4, p, c, f, dx, fs, a2, kd, _, rfl, e1, e3, e6, g1, fun H' sm => ⟨_, rfl, _, (KeepT.of sm) _ _ g2, _, g3, ?_⟩⟩
      rw [← g4]
      exact k _ sm

def spHeldR (K : PySem.W.Frag) (C : Addr) : Sp := fun vs H Q _ => ∃ (p : Addr) (v : V) (r : HR) (n : Nat) (h : Holds) (dom : Str → Str → Prop), vs = [.ref p, v] ∧ PgH K C H p h dom ∧ Rp K H v r.d ∧ RowOk n h dom r ∧
  ∀ (H' : Hp) (l : Addr), Same H H' → H l = none → H' l = some (.lst ((heldR h r).map V.int)) → Q (.ref l) H'
theorem ok_held_rows (T : Txt K mg) : FnOk P w K mg base CX0 3 T.a_held_rows T.d_held_rows ["program", "row"] (spHeldR K T.C_Program) :=
  T.F_held_rows.ok sc_held_rows (fun vs H Q E h => by obtain ⟨p, v, r, n, h, dom, rfl, _⟩ := h; rfl) fun cdv A outer s H vs Q E hr h => by
    obtain ⟨p, v, r, n, h, dom, rfl, hp, hv, ok, k⟩ := h
    refine ⟨_,
      -- cls, _, pairs = row
      (pss_cons (ps_asg (pv 1) (pg_tup rfl (pgs_cons (pg_name (i := 2) sc_held_rows.nd rfl (Or.inr rfl)) (pgs_cons (pg_name (i := 3) sc_held_rows.nd rfl (Or.inl rfl)) (pgs_cons (pg_name (i := 4) sc_held_rows.nd rfl (Or.inl rfl)) pgs_nil)))))
      -- return [value for name, value in pairs if value is not None and holds_object(program, cls, name)]
      (pss_one (ps_ret (pe_lc (own := [("name", 5), ("value", 6)]) (g := gTup K 2 (gCons (gName 5) (gCons (gName 6) gNil)))  rfl sc_held_rows.nd (pi_tup (pv 4)) (blkOk_by (N := ["program", "row", "cls", "_", "pairs", "name", "value"]) (sc := defScope s_held_rows) (by decide +kernel)) (fun _ _ _ _ _ => (pg_tup rfl (pgs_cons (pg_name (i := 5) sc_held_rows.nd rfl (Or.inl rfl)) (pgs_cons (pg_name (i := 6) sc_held_rows.nd rfl (Or.inl rfl)) pgs_nil)))) (fun _ _ _ _ _ => (pts_one (PW.pt (pw_and (pt_cmpR op_notN (pv 6) pe_non (nomark _)) (pw_and1 (pt_val (pe_call (ok_holds_object T) (hr.mono (by first | decide | omega)) (by rfl) T.g_holds_object T.F_holds_object.kp T.b_holds_object .nil pass0 (pa_cons (pv 0) (pa_cons (pv 2) (pa_cons (pv 5) pa_nil)))))))))) (fun _ _ _ _ _ => (pv 6))))))
      , ?_⟩
    refine sig [some (.ref p), some v, none, none, none, none, none] rfl ?_
    walk_at "s"
    obtain ⟨a, xs, rfl, hT, hL⟩ := hv.inv
    obtain ⟨v1, xs, rfl, h1, hL⟩ := hL.inv_cons
    obtain ⟨v2, xs, rfl, h2, hL⟩ := hL.inv_cons
    obtain ⟨v3, xs, rfl, h3, hL⟩ := hL.inv_cons
    cases hL.inv_nil
    cases h1.inv_str
    obtain ⟨pa, ps, rfl, hP, hQ⟩ := h3.inv
    have hlen : ps.length = r.ps.length := by rw [hQ.len, List.length_map]
    refine ⟨_, rfl, _, hT, rfl, _, _, rfl, _, _, rfl, _, _, rfl, rfl, ?_⟩
    walk_at "r"
    refine ⟨⟨_, hP⟩, fun D hD => LcW.by walk_tup (fun i H1 => Same H H1 ∧ H1 D = some (.lst (((r.ps.take i).filterMap (heldP (h r.c))).map V.int))) ⟨My.Same.new hD, upd_same⟩ (fun i H1 _ hh => (KeepT.of hh.1) _ _ hP) ?_ ?_⟩
    · rintro i x H1 H' hi ⟨s1, hl⟩ ⟨rfl, hx⟩
      have hi2 : i < r.ps.length := by omega
      obtain ⟨x', ex, rx⟩ := hQ.get (i := i) (d := prD r.ps[i]) (by rw [List.getElem?_map, List.getElem?_eq_getElem hi2]; rfl)
      rw [hx] at ex
      cases ex
      obtain ⟨qa, qs, rfl, hq, hqL⟩ := (rx.same s1).inv
      obtain ⟨w1, qs, rfl, g1, hqL⟩ := hqL.inv_cons
      obtain ⟨w2, qs, rfl, g2, hqL⟩ := hqL.inv_cons
      cases hqL.inv_nil
      cases g1.inv_str
      have e2 := g2.inv_optI
      subst e2
      have tk : r.ps.take (i + 1) = r.ps.take i ++ [r.ps[i]] := by rw [List.take_add_one, List.getElem?_eq_getElem hi2]; rfl
      walk_at "rd"
      refine ⟨_, hq, rfl, _, _, rfl, _, _, rfl, rfl, ?_⟩
      rw [tk, List.filterMap_append, List.map_append]
      cases hw : r.ps[i].2 with
      | none =>
        refine iteF ?_
        have e : heldP (h r.c) r.ps[i] = none := by rw [heldP, hw]
        rw [List.filterMap_cons, e]
        exact ⟨s1, by simpa using hl⟩
      | some z =>
        refine iteT ?_
        refine ⟨p, r.c, _, h, dom, rfl, hp.same s1, ok.2.1 _ (List.getElem_mem hi2) (by rw [hw]; simp), fun H2 s2 => ⟨_, rfl, ?_⟩⟩
        have l2 := s2 _ _ hl
        cases hh : h r.c r.ps[i].1 with
        | false =>
          refine iteF ?_
          have e : heldP (h r.c) r.ps[i] = none := by rw [heldP, hw]; simp [hh]
          rw [List.filterMap_cons, e]
          exact ⟨s1.trans s2, by simpa using l2⟩
        | true =>
          refine iteT ?_
          have e : heldP (h r.c) r.ps[i] = some z := by rw [heldP, hw]; simp [hh]
          rw [List.filterMap_cons, e]
          refine ⟨_, l2, ?_, My.Same.mut (s1.trans s2) hD, upd_same⟩
          have h9 := ok.1
          have h10 : ((r.ps.take i).filterMap (heldP (h r.c))).length ≤ r.ps.length := Nat.le_trans (List.length_filterMap_le _ _) (by rw [List.length_take]; omega)
          rw [List.length_map, sizeLine_eq]
          omega
    · rintro H1 ⟨s1, hl⟩
      refine k _ _ s1 hD ?_
      rw [hl, hlen, List.take_length]
      rfl

def spSearch (K : PySem.W.Frag) (C : Addr) : Sp := fun vs H Q _ => ∃ (p : Addr) (hv iv : V) (rs : List HR) (ids : List Int) (h : Holds) (dom : Str → Str → Prop), vs = [.ref p, hv, iv] ∧ PgH K C H p h dom ∧ Rp K H hv (hpD rs) ∧ Rp K H iv (.tuple (ids.map .int)) ∧ (∀ r ∈ rs, RowOk rs.length h dom r) ∧
  rs.length ≤ 1000 ∧ (∀ i ∈ ids, 0 ≤ i ∧ i < rs.length) ∧ ∀ (H' : Hp) (l : Addr), Same H H' → H l = none → H' l = some (.lst ((srch h rs ids).map V.int)) → Q (.ref l) H'
theorem seenTurn {D : Ends} {H0 H1 : Hp} {oa sa : Addr} {o : List Int} {x : Int} {a0 a1 a2 a6 : Option V} (od : OrdAt H0 H1 oa sa o) (hl : o.length ≤ 1000)
    (h : ∀ H2, OrdAt H0 H2 oa sa (addN o [x]) → (∀ b, b ≠ oa → b ≠ sa → H2 b = H1 b) → D.nx [a0, a1, a2, some (.ref oa), some (.ref sa), some (.int x), a6] H2) :
    tIfS (tB (tDNotIn (tVar 5) (tVar 4))) (tSeq (sDPut (tVar 4) (tVar 5) (tC (V.bl true))) (tDrop (tBM K "list" rAppend (tVar 3) (tCons (tVar 5) tNil)))) tNext D [a0, a1, a2, some (.ref oa), some (.ref sa), some (.int x), a6] H1 := by
  obtain ⟨kvs, hk, hkl, hv⟩ := od.ex
  walk_at "i"
  refine ⟨_, DGet.k (k := Sum.inl x) hk, ?_⟩
  rw [hv x]
  by_cases hx : x ∈ o
  · rw [decide_eq_true hx]
    refine iteF ?_
    have e : addN o [x] = o := by show (if x ∈ o then o else o ++ [x]) = o; rw [if_pos hx]
    rw [e] at h
    exact h _ od fun _ _ _ => rfl
  · rw [decide_eq_false hx]
    refine iteT ?_
    have e : addN o [x] = o ++ [x] := by show (if x ∈ o then o else o ++ [x]) = _; rw [if_neg hx]
    rw [e] at h
    have hn : valV kvs (Sum.inl x) = none := by
      have := hv x
      rw [decide_eq_false hx] at this
      simpa using this
    walk_at "s"
    refine ⟨_, DPut.k (k := Sum.inl x) hk (by rw [sizeLine_eq]; omega), ?_⟩
    walk_at "l"
    refine ⟨?_, _, by rw [upd_ne od.ne]; exact od.ls, ?_, h _ (od.put hk hn) fun b h1 h2 => by rw [upd_ne h1, upd_ne h2]⟩
    · exact tyL (by rw [upd_ne od.ne]; exact od.ls)
    · rw [List.length_map, sizeLine_eq]
      omega
theorem ok_search_order (T : Txt K mg) : FnOk P w K mg base CX0 4 T.a_search_order T.d_search_order ["program", "heap", "indexes"] (spSearch K T.C_Program) :=
  T.F_search_order.ok sc_search_order (fun vs H Q E h => by obtain ⟨p, hv, iv, rs, ids, h, dom, rfl, _⟩ := h; rfl) fun cdv A outer s H vs Q E hr h => by
    obtain ⟨p, hv, iv, rs, ids, h, dom, rfl, hp, hh, hi, ok, hn, hb, k⟩ := h
    refine ⟨_,
      -- order = []
      (pss_cons (ps_set (i := 3) sc_search_order.nd rfl (Or.inl rfl) (pe_lst pa_nil))
      -- seen = {}
      (pss_cons (ps_set (i := 4) sc_search_order.nd rfl (Or.inl rfl) pe_dnewK)
      -- for index in indexes:
      (pss_cons (ps_for PassesOwn.never rfl (pi_tup (pv 2)) (pg_name (i := 5) sc_search_order.nd rfl (Or.inl rfl)) 
        -- if index not in seen:
        (pss_one (ps_if (pt_cmp (pc_dnotin (hu_of hr) (pv 5) (pv 4))) 
          -- seen[index] = True
          (pss_cons (ps_dput (hu_of hr) (pv 4) (pv 5) pe_bl rfl)
          -- order.append(index)
          (pss_one (ps_expr (pe_bm PySem.F.plainAttrs_list PySem.F.slot_list_append PySem.F.type_list_append mt_append (pv 3) (pa_cons (pv 5) pa_nil))))) pss_nil)))
      -- at = 0
      (pss_cons (ps_set (i := 6) sc_search_order.nd rfl (Or.inl rfl) pe_int)
      -- while at < len(order):
      (pss_cons (ps_while PassesOwn.never (pt_cmpR op_lt (pv 6) (pe_callB call_len_seq (by rfl) T.z_len (by decide +kernel) (pa_cons (pv 3) pa_nil)) (nomark _)) 
        -- for index in held_rows(program, heap[order[at]]):
        (pss_cons (ps_for PassesOwn.never rfl (pi_list (pe_call (ok_held_rows T) (hr.mono (by first | decide | omega)) (by rfl) T.g_held_rows T.F_held_rows.kp T.b_held_rows .nil pass0 (pa_cons (pv 0) (pa_cons (pe_ix ix_tup (pv 1) (pe_ix ix_list (pv 3) (pv 6) (fun _ _ => rfl)) (fun _ _ => rfl)) pa_nil)))) (pg_name (i := 5) sc_search_order.nd rfl (Or.inl rfl)) 
          -- if index not in seen:
          (pss_one (ps_if (pt_cmp (pc_dnotin (hu_of hr) (pv 5) (pv 4))) 
            -- seen[index] = True
            (pss_cons (ps_dput (hu_of hr) (pv 4) (pv 5) pe_bl rfl)
            -- order.append(index)
            (pss_one (ps_expr (pe_bm PySem.F.plainAttrs_list PySem.F.slot_list_append PySem.F.type_list_append mt_append (pv 3) (pa_cons (pv 5) pa_nil))))) pss_nil)))
        -- at += 1
        (pss_one (ps_aug (i := 6) sc_search_order.nd rfl (Or.inl rfl) pe_int ip_add))))
      -- return order
      (pss_one (ps_ret (pv 3))))))))
      , ?_⟩
    refine sig [some (.ref p), some hv, some iv, none, none, none, none] rfl ?_
    obtain ⟨ia, is, rfl, hI, hIL⟩ := hi.inv
    obtain ⟨ha, hs, rfl, hH, hHL⟩ := hh.inv
    have hin : is.length = ids.length := by rw [hIL.len, List.length_map]
    have hhn : hs.length = rs.length := by rw [hHL.len, List.length_map]
    walk_at "s"
    refine ⟨Nat.zero_le _, fun oa hoa => ?_⟩
    walk_at "s"
    intro sa hsa
    have ne : oa ≠ sa := fun e => by
      rw [← e, upd_same] at hsa
      cases hsa
    rw [upd_ne (Ne.symm ne)] at hsa
    refine seqCut fun N hN => ?_
    walk_at "f"
    refine ⟨⟨_, (KeepT.of ((My.Same.new hoa).trans (My.Same.new (by rw [upd_ne (Ne.symm ne)]; exact hsa)))) _ _ hI⟩, ForW.by walk_tup (fun i σ H1 => ∃ v, σ = [some (.ref p), some (.ref ha), some (.ref ia), some (.ref oa), some (.ref sa), v, none] ∧ OrdAt H H1 oa sa (addN [] (ids.take i))) ?_ (fun i σ H1 _ hh => (KeepT.of hh.choose_spec.2.same) _ _ hI) ?_ ?_⟩
    · refine ⟨none, rfl, (My.Same.new hoa).trans (My.Same.new (by rw [upd_ne (Ne.symm ne)]; exact hsa)), hoa, hsa, ne, ?_, [], upd_same, Nat.zero_le _, fun i => ?_⟩
      · rw [upd_ne ne, upd_same]
        rfl
      · rfl
    · rintro i x σ H1 H' hi ⟨v, rfl, od⟩ ⟨rfl, hx⟩
      have hi2 : i < ids.length := by omega
      obtain ⟨x', ex, rx⟩ := hIL.get (i := i) (d := .int ids[i]) (by rw [List.getElem?_map, List.getElem?_eq_getElem hi2]; rfl)
      rw [hx] at ex
      cases ex
      have e2 := rx.inv_int
      subst e2
      have tk : ids.take (i + 1) = ids.take i ++ [ids[i]] := by rw [List.take_add_one, List.getElem?_eq_getElem hi2]; rfl
      walk_at "g"
      have b1 : Blw rs.length (addN [] (ids.take i)) := Blw.add ⟨.nil, fun _ h => nomatch h⟩ fun j hj => hb j (List.mem_of_mem_take hj)
      refine seenTurn od (Nat.le_trans b1.len hn) fun H2 od2 _ => ⟨_, rfl, ?_⟩
      rw [tk, addN_snoc]
      exact od2
    · rintro σ H1 ⟨v, rfl, od⟩
      rw [hin, List.take_length] at od
      subst hN
      walk_at "s"
      have b0 : Blw rs.length (addN [] ids) := Blw.add ⟨.nil, fun _ h => nomatch h⟩ hb
      have hr' : ∀ r ∈ rs, ∀ i ∈ heldR h r, 0 ≤ i ∧ i < rs.length := fun r hr => (ok r hr).2.2
      refine seqCut fun N hN => whileK rs.length (fun k σ H1 => ∃ v, σ = [some (.ref p), some (.ref ha), some (.ref ia), some (.ref oa), some (.ref sa), v, some (.int (k : Nat))] ∧ OrdAt H H1 oa sa (turnsN h rs (addN [] ids) k) ∧ k ≤ rs.length) ⟨v, rfl, od, Nat.zero_le _⟩ ?_
      rintro j σ H2 ⟨v, rfl, od, hj⟩
      have bj := b0.turns hr' j
      walk_at "rd"
      refine ⟨_, .inl (.inl (.inl od.ls)), ?_⟩
      rw [List.length_map]
      by_cases hlt : (j : Int) < (turnsN h rs (addN [] ids) j).length
      · rw [decide_eq_true hlt]
        refine iteT ?_
        have hlt2 : j < (turnsN h rs (addN [] ids) j).length := by omega
        have hjn : j < rs.length := Nat.lt_of_lt_of_le hlt2 bj.len
        have hz := bj.2 _ (List.getElem_mem hlt2)
        generalize hzz : (turnsN h rs (addN [] ids) j)[j] = z at hz
        have hz2 : z.toNat < rs.length := by omega
        obtain ⟨rv, erv, rrv⟩ := (hHL.same od.same).get (i := z.toNat) (d := (rs[z.toNat]).d) (by rw [List.getElem?_map, List.getElem?_eq_getElem hz2]; rfl)
        have hat : atI hs z = some rv := by
          have := atI_nat erv
          rwa [show ((z.toNat : Nat) : Int) = z by omega] at this
        have est : turnsN h rs (addN [] ids) (j + 1) = addN (turnsN h rs (addN [] ids) j) (heldR h rs[z.toNat]) := by
          show stepN h rs j (turnsN h rs (addN [] ids) j) = _
          unfold stepN
          rw [List.getElem?_eq_getElem hlt2, hzz]
          dsimp only
          rw [List.getElem?_eq_getElem hz2]
        have okz := ok _ (List.getElem_mem hz2)
        refine ⟨_, whN (Pv := fun k σ H1 => ∃ v, σ = [some (.ref p), some (.ref ha), some (.ref ia), some (.ref oa), some (.ref sa), v, some (.int (k : Nat))] ∧ OrdAt H H1 oa sa (turnsN h rs (addN [] ids) k) ∧ k ≤ rs.length) hjn, ?_⟩
        refine seqCut fun N2 hN2 => ?_
        walk_at "f"
        refine ⟨_, .inl (.inl od.ls), _, atI_nat (by rw [List.getElem?_map, List.getElem?_eq_getElem hlt2, hzz]; rfl), _, _, rfl, (KeepT.of od.same) _ _ hH, _, hat, p, rv, rs[z.toNat], rs.length, h, dom, rfl, hp.same od.same, rrv, okz, fun H3 l s3 hl3 e3 => ⟨_, rfl, ⟨_, .inl (.inl e3)⟩, ?_⟩⟩
        have od3 := od.step s3
        have lo : l ≠ oa := (ne_of_none od.ls hl3).symm
        have ls : l ≠ sa := by
          obtain ⟨kvs, hk, _⟩ := od.ex
          exact (ne_of_none hk hl3).symm
        refine ForW.by walk_list (fun i σ H1 => ∃ v, σ = [some (.ref p), some (.ref ha), some (.ref ia), some (.ref oa), some (.ref sa), v, some (.int (j : Nat))] ∧ OrdAt H H1 oa sa (addN (turnsN h rs (addN [] ids) j) ((heldR h rs[z.toNat]).take i)) ∧ H1 l = some (.lst ((heldR h rs[z.toNat]).map V.int))) ⟨v, rfl, od3, e3⟩ (fun i σ H1 _ hh => .inl (.inl hh.choose_spec.2.2)) ?_ ?_
        · rintro i x σ H1 H' hi ⟨v, rfl, od4, e4⟩ ⟨rfl, hx⟩
          have hi2 : i < (heldR h rs[z.toNat]).length := by simpa using hi
          rw [List.getElem?_map, List.getElem?_eq_getElem hi2] at hx
          cases hx
          have tk : (heldR h rs[z.toNat]).take (i + 1) = (heldR h rs[z.toNat]).take i ++ [(heldR h rs[z.toNat])[i]] := by rw [List.take_add_one, List.getElem?_eq_getElem hi2]; rfl
          walk_at "g"
          have b1 : Blw rs.length (addN (turnsN h rs (addN [] ids) j) ((heldR h rs[z.toNat]).take i)) := bj.add fun q hq => okz.2.2 _ (List.mem_of_mem_take hq)
          refine seenTurn od4 (Nat.le_trans b1.len hn) fun H2 od2 ot => ⟨_, rfl, ?_, by rw [ot _ lo ls]; exact e4⟩
          rw [tk, addN_snoc]
          exact od2
        · rintro σ H1 ⟨v, rfl, od4, e4⟩
          rw [List.length_map, List.take_length, ← est] at od4
          subst hN2
          walk_at "rd"
          exact ⟨by omega, od4, hjn⟩
      · rw [decide_eq_false hlt]
        refine iteF ?_
        subst hN
        walk_at "r"
        refine k _ _ od.same hoa ?_
        rw [od.ls]
        have := turns_stop (h := h) (rs := rs) (o := addN [] ids) (k := j) (by omega) (rs.length - j)
        rw [show j + (rs.length - j) = rs.length by omega] at this
        rw [srch, this]

/-- the numbers of a list, sorted -/
def spReached (K : PySem.W.Frag) (C : Addr) : Sp := fun vs H Q _ => ∃ (p : Addr) (hv iv : V) (rs : List HR) (ids : List Int) (h : Holds) (dom : Str → Str → Prop), vs = [.ref p, hv, iv] ∧ PgH K C H p h dom ∧ Rp K H hv (hpD rs) ∧ Rp K H iv (.tuple (ids.map .int)) ∧ (∀ r ∈ rs, RowOk rs.length h dom r) ∧
  rs.length ≤ 60 ∧ (∀ i ∈ ids, 0 ≤ i ∧ i < rs.length) ∧ ∀ (H' : Hp) (l : Addr) (ns : List Int), Same H H' → H' l = some (.tup (ns.map V.int)) → ns.Perm (srch h rs ids) → ns.Pairwise (· ≤ ·) → Q (.ref l) H'
theorem ok_reached_rows (T : Txt K mg) : FnOk P w K mg base CX0 5 T.a_reached_rows T.d_reached_rows ["program", "heap", "indexes"] (spReached K T.C_Program) :=
  T.F_reached_rows.ok sc_reached_rows (fun vs H Q E h => by obtain ⟨p, hv, iv, rs, ids, h, dom, rfl, _⟩ := h; rfl) fun cdv A outer s H vs Q E hr h => by
    obtain ⟨p, hv, iv, rs, ids, h, dom, rfl, hp, hh, hi, ok, hn, hb, k⟩ := h
    refine ⟨_,
      -- return tuple(sorted(search_order(program, heap, indexes)))
      (pss_one (ps_ret (pe_callTy call_tuple_of (by rfl) T.z_tuple (by decide +kernel) (pa_cons (pe_callB cr_sorted (by rfl) T.z_sorted (by decide +kernel) (pa_cons (pe_call (ok_search_order T) (hr.mono (by first | decide | omega)) (by rfl) T.g_search_order T.F_search_order.kp T.b_search_order .nil pass0 (pa_cons (pv 0) (pa_cons (pv 1) (pa_cons (pv 2) pa_nil)))) pa_nil)) pa_nil))))
      , ?_⟩
    refine sig [some (.ref p), some hv, some iv] rfl ?_
    walk_at "r"
    have b0 : Blw rs.length (addN [] ids) := Blw.add ⟨.nil, fun _ h => nomatch h⟩ hb
    have bn := b0.turns (h := h) (rs := rs) (fun r hr => (ok r hr).2.2) rs.length
    refine ⟨p, hv, iv, rs, ids, h, dom, rfl, hp, hh, hi, ok, by omega, hb, fun H1 l s1 hl e1 => ⟨_, rfl, _, .inl (.inl e1), Nat.lt_of_le_of_lt bn.len (by omega), fun ns' q pm srt hq => ⟨_, .inl ⟨.inl (.inl upd_same), fun l2 hl2 => ?_⟩⟩⟩⟩
    exact k _ _ ns' ((s1.trans (My.Same.new hq)).trans (My.Same.new hl2)) upd_same pm srt
/-- complete rows have no None and hold complete rows only -/
def deepR (h : Holds) (rs : List HR) (r : HR) : Bool := !r.b || (r.ps.all (fun q => q.2.isSome) && (heldR h r).all fun i => ((rs[i.toNat]?).map HR.b).getD false)
def deepB (h : Holds) (rs : List HR) : Bool := rs.all (deepR h rs)
theorem deepF {h : Holds} {rs : List HR} {r : HR} (m : r ∈ rs) (e : deepR h rs r = false) : deepB h rs = false := by
  cases hh : deepB h rs with
  | false => rfl
  | true =>
    have := List.all_eq_true.mp hh r m
    rw [e] at this
    exact absurd this Bool.false_ne_true
def spDeep (K : PySem.W.Frag) (C : Addr) : Sp := fun vs H Q _ => ∃ (p : Addr) (hv : V) (rs : List HR) (h : Holds) (dom : Str → Str → Prop), vs = [.ref p, hv] ∧ PgH K C H p h dom ∧ Rp K H hv (hpD rs) ∧ (∀ r ∈ rs, RowOk rs.length h dom r) ∧
  rs.length ≤ 1000 ∧ ∀ (H' : Hp), Same H H' → Q (.bl (deepB h rs)) H'
theorem ok_deep (T : Txt K mg) : FnOk P w K mg base CX0 4 T.a_deep T.d_deep ["program", "heap"] (spDeep K T.C_Program) :=
  T.F_deep.ok sc_deep (fun vs H Q E h => by obtain ⟨p, hv, rs, h, dom, rfl, _⟩ := h; rfl) fun cdv A outer s H vs Q E hr h => by
    obtain ⟨p, hv, rs, h, dom, rfl, hp, hh, ok, hn, k⟩ := h
    refine ⟨_,
      -- for row in heap:
      (pss_cons (ps_for PassesOwn.never rfl (pi_tup (pv 1)) (pg_name (i := 2) sc_deep.nd rfl (Or.inl rfl)) 
        -- if not row[1]:
        (pss_cons (ps_if (pt_not (pt_val (pe_ix ix_tup (pv 2) pe_int (fun _ _ => rfl)))) 
          -- continue
          (pss_one ps_continue) pss_nil)
        -- for _, value in row[2]:
        (pss_cons (ps_for PassesOwn.never rfl (pi_tup (pe_ix ix_tup (pv 2) pe_int (fun _ _ => rfl))) (pg_tup rfl (pgs_cons (pg_name (i := 3) sc_deep.nd rfl (Or.inl rfl)) (pgs_cons (pg_name (i := 4) sc_deep.nd rfl (Or.inl rfl)) pgs_nil))) 
          -- if value is None:
          (pss_one (ps_if (pt_cmpR op_isN (pv 4) pe_non (nomark _)) 
            -- return False
            (pss_one (ps_ret pe_bl)) pss_nil)))
        -- for index in held_rows(program, row):
        (pss_one (ps_for PassesOwn.never rfl (pi_list (pe_call (ok_held_rows T) (hr.mono (by first | decide | omega)) (by rfl) T.g_held_rows T.F_held_rows.kp T.b_held_rows .nil pass0 (pa_cons (pv 0) (pa_cons (pv 2) pa_nil)))) (pg_name (i := 5) sc_deep.nd rfl (Or.inl rfl)) 
          -- if not heap[index][1]:
          (pss_one (ps_if (pt_not (pt_val (pe_ix ix_tup (pe_ix ix_tup (pv 1) (pv 5) (fun _ _ => rfl)) pe_int (fun _ _ => rfl)))) 
            -- return False
            (pss_one (ps_ret pe_bl)) pss_nil)))))))
      -- return True
      (pss_one (ps_ret pe_bl)))
      , ?_⟩
    refine sig [some (.ref p), some hv, none, none, none, none] rfl ?_
    obtain ⟨ha, hs, rfl, hH, hHL⟩ := hh.inv
    have hhn : hs.length = rs.length := by rw [hHL.len, List.length_map]
    refine seqCut fun N hN => ?_
    walk_at "f"
    refine ⟨⟨_, hH⟩, ForW.by walk_tup (fun i σ H1 => ∃ v2 v3 v4 v5, σ = [some (.ref p), some (.ref ha), v2, v3, v4, v5] ∧ Same H H1 ∧ (rs.take i).all (deepR h rs) = true) ⟨_, _, _, _, rfl, .refl H, rfl⟩ (fun i σ H1 _ hh => (KeepT.of hh.choose_spec.choose_spec.choose_spec.choose_spec.2.1) _ _ hH) ?_ ?_⟩
    · rintro i x σ H1 H' hi ⟨v2, v3, v4, v5, rfl, s1, al⟩ ⟨rfl, hx⟩
      have hi2 : i < rs.length := by omega
      obtain ⟨x', ex, rx⟩ := hHL.get (i := i) (d := rs[i].d) (by rw [List.getElem?_map, List.getElem?_eq_getElem hi2]; rfl)
      rw [hx] at ex
      cases ex
      have tk : rs.take (i + 1) = rs.take i ++ [rs[i]] := by rw [List.take_add_one, List.getElem?_eq_getElem hi2]; rfl
      have rx := rx.same s1
      obtain ⟨a, xs, rfl, hT, hL⟩ := rx.inv
      obtain ⟨w1, xs, rfl, h1, hL⟩ := hL.inv_cons
      obtain ⟨w2, xs, rfl, h2, hL⟩ := hL.inv_cons
      obtain ⟨w3, xs, rfl, h3, hL⟩ := hL.inv_cons
      cases hL.inv_nil
      cases h1.inv_str
      cases h2.inv_bl
      obtain ⟨pa, ps, rfl, hP, hQ⟩ := h3.inv
      walk_at "g"
      walk_at "j"
      refine ⟨_, hT, _, rfl, _, rfl, ?_⟩
      rw [tk, List.all_append]
      have e0 : (rs.take i).all (deepR h rs) = true := al
      rw [e0]
      cases hb : rs[i].b with
      | false =>
        refine iteT ?_
        refine ⟨_, _, _, _, rfl, s1, ?_⟩
        simp [deepR, hb]
      | true =>
        refine iteF ?_
        refine seqCut fun N2 hN2 => ?_
        walk_at "f"
        have hlen : ps.length = rs[i].ps.length := by rw [hQ.len, List.length_map]
        have mi : rs[i] ∈ rs := List.getElem_mem hi2
        have oki := ok _ mi
        refine ⟨_, hT, _, rfl, _, rfl, ⟨_, hP⟩, ForW.by walk_tup (fun j σ H1 => H1 = H' ∧ (∃ u3 u4, σ = [some (.ref p), some (.ref ha), some (.ref a), u3, u4, v5]) ∧ (rs[i].ps.take j).all (fun q => q.2.isSome) = true) ⟨rfl, ⟨_, _, rfl⟩, rfl⟩ (fun j σ H1 _ hh => by rw [hh.1]; exact hP) ?_ ?_⟩
        · rintro j x σ H1 H2 hj ⟨rfl, ⟨u3, u4, rfl⟩, al2⟩ ⟨rfl, hx2⟩
          have hj2 : j < rs[i].ps.length := by omega
          obtain ⟨x', ex, rx2⟩ := hQ.get (i := j) (d := prD rs[i].ps[j]) (by rw [List.getElem?_map, List.getElem?_eq_getElem hj2]; rfl)
          rw [hx2] at ex
          cases ex
          obtain ⟨qa, qs, rfl, hq, hqL⟩ := rx2.inv
          obtain ⟨y1, qs, rfl, g1, hqL⟩ := hqL.inv_cons
          obtain ⟨y2, qs, rfl, g2, hqL⟩ := hqL.inv_cons
          cases hqL.inv_nil
          have e2 := g2.inv_optI
          subst e2
          have tk2 : rs[i].ps.take (j + 1) = rs[i].ps.take j ++ [rs[i].ps[j]] := by rw [List.take_add_one, List.getElem?_eq_getElem hj2]; rfl
          refine ⟨_, _, rfl, hq, rfl, ?_⟩
          walk_at "rd"
          walk_at "i"
          cases hw : rs[i].ps[j].2 with
          | none =>
            refine iteT ?_
            walk_at "r"
            have e : deepR h rs rs[i] = false := by
              have : rs[i].ps.all (fun q => q.2.isSome) = false := List.all_eq_false.mpr ⟨_, List.getElem_mem hj2, by rw [hw]; decide⟩
              simp [deepR, hb, this]
            have := k _ s1
            rw [deepF mi e] at this
            exact this
          | some z =>
            refine iteF ?_
            refine ⟨rfl, ⟨_, _, rfl⟩, ?_⟩
            rw [tk2, List.all_append, al2]
            simp [hw]
        · rintro σ H1 ⟨rfl, ⟨u3, u4, rfl⟩, al2⟩
          rw [hlen, List.take_length] at al2
          subst hN2
          walk_at "f"
          refine ⟨p, .ref a, rs[i], rs.length, h, dom, rfl, hp.same s1, rx, oki, fun H3 l s3 hl3 e3 => ⟨_, rfl, ⟨_, .inl (.inl e3)⟩, ForW.by walk_list (fun j σ H1 => H1 = H3 ∧ (∃ u5, σ = [some (.ref p), some (.ref ha), some (.ref a), u3, u4, u5]) ∧ ((heldR h rs[i]).take j).all (fun i => ((rs[i.toNat]?).map HR.b).getD false) = true) ⟨rfl, ⟨_, rfl⟩, rfl⟩ (fun j σ H1 _ hh => by rw [hh.1]; exact .inl (.inl e3)) ?_ ?_⟩⟩
          · rintro j x σ H4 H5 hj ⟨rfl, ⟨u5, rfl⟩, al3⟩ ⟨rfl, hx2⟩
            have hj2 : j < (heldR h rs[i]).length := by simpa using hj
            rw [List.getElem?_map, List.getElem?_eq_getElem hj2] at hx2
            cases hx2
            have tk2 : (heldR h rs[i]).take (j + 1) = (heldR h rs[i]).take j ++ [(heldR h rs[i])[j]] := by rw [List.take_add_one, List.getElem?_eq_getElem hj2]; rfl
            have mz : (heldR h rs[i])[j] ∈ heldR h rs[i] := List.getElem_mem hj2
            generalize (heldR h rs[i])[j] = z at tk2 mz
            have hz := oki.2.2 z mz
            have hz2 : z.toNat < rs.length := by omega
            obtain ⟨rv, erv, rrv⟩ := (hHL.same (s1.trans s3)).get (i := z.toNat) (d := (rs[z.toNat]).d) (by rw [List.getElem?_map, List.getElem?_eq_getElem hz2]; rfl)
            have hat : atI hs z = some rv := by
              have := atI_nat erv
              rwa [show ((z.toNat : Nat) : Int) = z by omega] at this
            obtain ⟨za, zs, rfl, hzT, hzL⟩ := rrv.inv
            obtain ⟨y1, zs, rfl, g1, hzL⟩ := hzL.inv_cons
            obtain ⟨y2, zs, rfl, g2, hzL⟩ := hzL.inv_cons
            obtain ⟨y3, zs, rfl, g3, hzL⟩ := hzL.inv_cons
            cases hzL.inv_nil
            cases g2.inv_bl
            walk_at "g"
            walk_at "i"
            refine ⟨_, (KeepT.of (s1.trans s3)) _ _ hH, _, hat, _, rfl, _, hzT, _, rfl, _, rfl, ?_⟩
            cases hzb : rs[z.toNat].b with
            | false =>
              refine iteT ?_
              walk_at "r"
              have e : deepR h rs rs[i] = false := by
                have : ((heldR h rs[i]).all fun i => ((rs[i.toNat]?).map HR.b).getD false) = false := List.all_eq_false.mpr ⟨z, mz, by rw [List.getElem?_eq_getElem hz2]; simp [hzb]⟩
                simp [deepR, hb, this]
              have := k _ (s1.trans s3)
              rw [deepF mi e] at this
              exact this
            | true =>
              refine iteF ?_
              refine ⟨rfl, ⟨_, rfl⟩, ?_⟩
              rw [tk2, List.all_append, al3, List.all_cons, List.getElem?_eq_getElem hz2]
              simp [hzb]
          · rintro σ H4 ⟨rfl, ⟨u5, rfl⟩, al3⟩
            rw [List.length_map, List.take_length] at al3
            refine ⟨_, _, _, _, rfl, s1.trans s3, ?_⟩
            simp [deepR, hb, al2, al3]
    · rintro σ H1 ⟨v2, v3, v4, v5, rfl, s1, al⟩
      subst hN
      walk_at "r"
      have e : deepB h rs = true := by
        rw [hhn, List.take_length] at al
        exact al
      rw [e] at k
      exact k _ s1

/-- at which place of the order -/
def idxI (o : List Int) (i : Int) : Int := (o.idxOf i : Nat)
def pairD (h : Str → Bool) (o : List Int) (q : Str × Option Int) : PyData := .tuple [.str q.1, match q.2 with
  | none => .none
  | some i => .int (if h q.1 then idxI o i else i)]
def rowD (h : Holds) (o : List Int) (r : HR) : PyData := .tuple [.str r.c, .bool r.b, .tuple (r.ps.map (pairD (h r.c) o))]
def rowAt (h : Holds) (o : List Int) (rs : List HR) (i : Int) : PyData := ((rs[i.toNat]?).map (rowD h o)).getD .none
def pictO (h : Holds) (rs : List HR) (o ids : List Int) : PyData := .tuple [.tuple (ids.map fun i => .int (idxI o i)), .tuple (o.map (rowAt h o rs))]
def pictD (h : Holds) (rs : List HR) (ids : List Int) : PyData := pictO h rs (srch h rs ids) ids
theorem idx_at {o : List Int} {i : Nat} (nd : o.Nodup) (hi : i < o.length) : idxI o o[i] = i := by
  unfold idxI
  rw [List.Nodup.idxOf_getElem nd]
/-- the dict of the numbers -/
def NumAt (H : Hp) (D : Addr) (o : List Int) : Prop := ∃ kvs, H D = some (.dK kvs) ∧ ∀ j : Int, j ∈ o → valV kvs (Sum.inl j) = some (.int (idxI o j))
theorem NumAt.same {H H' : Hp} {D : Addr} {o : List Int} (h : NumAt H D o) (s : Same H H') : NumAt H' D o := by
  obtain ⟨kvs, e, q⟩ := h
  exact ⟨kvs, s _ _ e, q⟩
theorem NumAt.get {H : Hp} {D : Addr} {o : List Int} {j : Int} (h : NumAt H D o) (hj : j ∈ o) : DGet H D (.int j) (some (.int (idxI o j))) := by
  obtain ⟨kvs, e, q⟩ := h
  rw [← q j hj]
  exact DGet.k (k := Sum.inl j) e
def spPict (K : PySem.W.Frag) (C : Addr) : Sp := fun vs H Q _ => ∃ (p : Addr) (hv iv : V) (rs : List HR) (ids : List Int) (h : Holds) (dom : Str → Str → Prop), vs = [.ref p, hv, iv] ∧ PgH K C H p h dom ∧ Rp K H hv (hpD rs) ∧ Rp K H iv (.tuple (ids.map .int)) ∧ (∀ r ∈ rs, RowOk rs.length h dom r) ∧
  rs.length ≤ 1000 ∧ (∀ i ∈ ids, 0 ≤ i ∧ i < rs.length) ∧ ids.length ≤ 1000 ∧ ∀ (H' : Hp) (v : V), Same H H' → Rp K H' v (pictD h rs ids) → Q v H'
theorem ok_picture (T : Txt K mg) : FnOk P w K mg base CX0 5 T.a_picture T.d_picture ["program", "heap", "indexes"] (spPict K T.C_Program) :=
  T.F_picture.ok sc_picture (fun vs H Q E h => by obtain ⟨p, hv, iv, rs, ids, h, dom, rfl, _⟩ := h; rfl) fun cdv A outer s H vs Q E hr h => by
    obtain ⟨p, hv, iv, rs, ids, h, dom, rfl, hp, hh, hi, ok, hn, hb, hil, k⟩ := h
    refine ⟨_,
      -- order = search_order(program, heap, indexes)
      (pss_cons (ps_set (i := 3) sc_picture.nd rfl (Or.inl rfl) (pe_call (ok_search_order T) (hr.mono (by first | decide | omega)) (by rfl) T.g_search_order T.F_search_order.kp T.b_search_order .nil pass0 (pa_cons (pv 0) (pa_cons (pv 1) (pa_cons (pv 2) pa_nil)))))
      -- numbers = {index: number for number, index in enumerate(order)}
      (pss_cons (ps_set (i := 5) sc_picture.nd rfl (Or.inr rfl) (pe_dc (own := [("number", 14), ("index", 4)]) (g := gTup K 2 (gCons (gName 14) (gCons (gName 4) gNil))) (tt := tYes) rfl sc_picture.nd (pi_enum (by rfl) T.z_enumerate (pa_cons (pv 3) pa_nil)) (blkOk_by (N := ["program", "heap", "indexes", "order", "index", "numbers", "rows", "cls", "complete", "pairs", "drawn", "name", "value", "held", "number"]) (sc := defScope s_picture) (by decide +kernel)) (fun _ _ _ _ _ => (pg_tup rfl (pgs_cons (pg_name (i := 14) sc_picture.nd rfl (Or.inl rfl)) (pgs_cons (pg_name (i := 4) sc_picture.nd rfl (Or.inl rfl)) pgs_nil)))) (fun _ _ _ _ _ => pts_nil) (fun _ _ _ _ _ => (pv 4)) (fun _ _ _ _ _ => (pv 14))))
      -- rows = []
      (pss_cons (ps_set (i := 6) sc_picture.nd rfl (Or.inl rfl) (pe_lst pa_nil))
      -- for index in order:
      (pss_cons (ps_for PassesOwn.never rfl (pi_list (pv 3)) (pg_name (i := 4) sc_picture.nd rfl (Or.inl rfl)) 
        -- cls, complete, pairs = heap[index]
        (pss_cons (ps_asg (pe_ix ix_tup (pv 1) (pv 4) (fun _ _ => rfl)) (pg_tup rfl (pgs_cons (pg_name (i := 7) sc_picture.nd rfl (Or.inl rfl)) (pgs_cons (pg_name (i := 8) sc_picture.nd rfl (Or.inl rfl)) (pgs_cons (pg_name (i := 9) sc_picture.nd rfl (Or.inl rfl)) pgs_nil)))))
        -- drawn = []
        (pss_cons (ps_set (i := 10) sc_picture.nd rfl (Or.inl rfl) (pe_lst pa_nil))
        -- for name, value in pairs:
        (pss_cons (ps_for PassesOwn.never rfl (pi_tup (pv 9)) (pg_tup rfl (pgs_cons (pg_name (i := 11) sc_picture.nd rfl (Or.inl rfl)) (pgs_cons (pg_name (i := 12) sc_picture.nd rfl (Or.inl rfl)) pgs_nil))) 
          -- held = value is not None and holds_object(program, cls, name)
          (pss_cons (ps_set (i := 13) sc_picture.nd rfl (Or.inl rfl) (pe_and (pe_cmpR op_notN (pv 12) pe_non (nomark _)) (pe_one (pe_call (ok_holds_object T) (hr.mono (by first | decide | omega)) (by rfl) T.g_holds_object T.F_holds_object.kp T.b_holds_object .nil pass0 (pa_cons (pv 0) (pa_cons (pv 7) (pa_cons (pv 11) pa_nil)))))))
          -- drawn.append((name, numbers[value] if held else value))
          (pss_one (ps_expr (pe_bm PySem.F.plainAttrs_list PySem.F.slot_list_append PySem.F.type_list_append mt_append (pv 10) (pa_cons (pe_tup (pa_cons (pv 11) (pa_cons (pe_ifExp (pt_val (pv 13)) (pe_dget (hu_of hr) (pv 5) (pv 12) (fun _ _ => rfl)) (pv 12)) pa_nil))) pa_nil))))))
        -- rows.append((cls, complete, tuple(drawn)))
        (pss_one (ps_expr (pe_bm PySem.F.plainAttrs_list PySem.F.slot_list_append PySem.F.type_list_append mt_append (pv 6) (pa_cons (pe_tup (pa_cons (pv 7) (pa_cons (pv 8) (pa_cons (pe_callTy call_tuple_of (by rfl) T.z_tuple (by decide +kernel) (pa_cons (pv 10) pa_nil)) pa_nil)))) pa_nil))))))))
      -- return (tuple([numbers[index] for index in indexes]), tuple(rows))
      (pss_one (ps_ret (pe_tup (pa_cons (pe_callTy call_tuple_of (by rfl) T.z_tuple (by decide +kernel) (pa_cons (pe_lc (own := [("index", 4)]) (g := gName 4) (tt := tYes) rfl sc_picture.nd (pi_tup (pv 2)) (blkOk_by (N := ["program", "heap", "indexes", "order", "index", "numbers", "rows", "cls", "complete", "pairs", "drawn", "name", "value", "held", "number"]) (sc := defScope s_picture) (by decide +kernel)) (fun _ _ _ _ _ => pg_name (i := 4) sc_picture.nd rfl (Or.inl rfl)) (fun _ _ _ _ _ => pts_nil) (fun _ _ _ _ _ => (pe_dget (hu_of hr) (pv 5) (pv 4) (fun _ _ => rfl)))) pa_nil)) (pa_cons (pe_callTy call_tuple_of (by rfl) T.z_tuple (by decide +kernel) (pa_cons (pv 6) pa_nil)) pa_nil)))))))))
      , ?_⟩
    refine sig [some (.ref p), some hv, some iv, none, none, none, none, none, none, none, none, none, none, none, none] rfl ?_
    obtain ⟨ia, is, rfl, hI, hIL⟩ := hi.inv
    obtain ⟨ha, hs, rfl, hH, hHL⟩ := hh.inv
    have hin : is.length = ids.length := by rw [hIL.len, List.length_map]
    have hhn : hs.length = rs.length := by rw [hHL.len, List.length_map]
    have b0 : Blw rs.length (addN [] ids) := Blw.add ⟨.nil, fun _ h => nomatch h⟩ hb
    have bn : Blw rs.length (srch h rs ids) := b0.turns (h := h) (rs := rs) (fun r hr => (ok r hr).2.2) rs.length
    refine seqCut fun N hN => ?_
    walk_at "rd"
    refine ⟨p, .ref ha, .ref ia, rs, ids, h, dom, rfl, hp, hh, hi, ok, hn, hb, fun H1 oa s1 hoa e1 => ?_⟩
    generalize ho : srch h rs ids = o at bn e1
    subst hN
    refine seqCut fun N hN => ?_
    walk_at "rd"
    refine ⟨_, .inl (.inl e1), fun D hD => DcW.by walk_enum (fun i H2 => Same H1 H2 ∧ ∃ kvs, H2 D = some (.dK kvs) ∧ kvs.length ≤ i ∧ ∀ j : Int, valV kvs (Sum.inl j) = if j ∈ o.take i then some (.int (idxI o j)) else none) ⟨My.Same.new hD, [], upd_same, Nat.zero_le _, fun j => by simp [valV_nil]⟩ (fun i H2 _ hh => .inl (.inl (hh.1 _ _ e1))) ?_ ?_⟩
    · rintro i x H2 H3 hi ⟨s2, kvs, hk, hkl, hv⟩ ⟨T1, y1, y2, rfl, hT1, rfl, hy1, hy2⟩
      cases hy1
      have hi2 : i < o.length := by simpa using hi
      dsimp only at hy2
      rw [List.getElem?_map, List.getElem?_eq_getElem hi2] at hy2
      cases hy2
      have tk : o.take (i + 1) = o.take i ++ [o[i]] := by rw [List.take_add_one, List.getElem?_eq_getElem hi2]; rfl
      have hno : o[i] ∉ o.take i := fun hm => by
        obtain ⟨j, hj, e⟩ := List.getElem_of_mem hm
        rw [List.getElem_take] at e
        rw [List.length_take] at hj
        have := (List.getElem_inj bn.1).mp e
        omega
      have hD2 : D ≠ T1 := ne_of_none hk hT1
      walk_at "rd"
      refine ⟨_, SqT.of upd_same, rfl, _, _, rfl, _, _, rfl, rfl, kvs, Sum.inl o[i], rfl, by rw [upd_ne hD2]; exact hk, ?_, My.Same.mut (s2.trans (My.Same.new hT1)) hD, _, upd_same, ?_, fun j => ?_⟩
      · have h1 := bn.len
        have h2 : kvs.length ≤ o.length := by omega
        rw [sizeLine_eq]
        omega
      · have := hv o[i]
        rw [if_neg hno] at this
        rw [putK_new _ this, List.length_append]
        simpa using hkl
      · rw [valV_put, hv j, tk]
        by_cases hj : j = o[i]
        · subst hj
          rw [if_pos rfl, if_pos (List.mem_append_right _ (List.mem_singleton.mpr rfl)), idx_at bn.1 hi2]
        · rw [if_neg (fun e => hj (by cases e; rfl))]
          have e3 : (j ∈ o.take i ++ [o[i]]) ↔ j ∈ o.take i := by
            rw [List.mem_append, List.mem_singleton]
            exact ⟨fun h => h.resolve_right hj, .inl⟩
          simp only [e3]
    · rintro H2 ⟨s2, kvs, hk, hkl, hv⟩
      have nu : NumAt H2 D o := ⟨kvs, hk, fun j hj => by rw [hv j, if_pos (by rw [List.length_map, List.take_length]; exact hj)]⟩
      have s02 := s1.trans s2
      have e2 := s2 _ _ e1
      clear hv hk hkl kvs
      subst hN
      walk_at "s"
      refine ⟨Nat.zero_le _, fun ra hra => ?_⟩
      have s3 := My.Same.new (o := .lst []) hra
      refine seqCut fun N hN => ?_
      walk_at "f"
      refine ⟨⟨_, .inl (.inl (s3 _ _ e2))⟩, ForW.by walk_list (fun i σ H4 => ∃ x4 x7 x8 x9 x10 x11 x12 x13 x14, σ = [some (.ref p), some (.ref ha), some (.ref ia), some (.ref oa), x4, some (.ref D), some (.ref ra), x7, x8, x9, x10, x11, x12, x13, x14] ∧ Same H2 H4 ∧ ∃ vs, H4 ra = some (.lst vs) ∧ RpL K H4 vs ((o.take i).map (rowAt h o rs)))
        ⟨_, _, _, _, _, _, _, _, _, rfl, s3, _, upd_same, .nil⟩ (fun i σ H4 _ hh => by obtain ⟨x4, x7, x8, x9, x10, x11, x12, x13, x14, rfl, s4, _⟩ := hh; exact .inl (.inl (s4 _ _ e2))) ?_ ?_⟩
      · rintro i x σ H3 H4 hi ⟨x4, x7, x8, x9, x10, x11, x12, x13, x14, rfl, s4, vs, hvs, hvr⟩ ⟨rfl, hx⟩
        have hi2 : i < o.length := by simpa using hi
        rw [List.getElem?_map, List.getElem?_eq_getElem hi2] at hx
        cases hx
        have tk : o.take (i + 1) = o.take i ++ [o[i]] := by rw [List.take_add_one, List.getElem?_eq_getElem hi2]; rfl
        have hz := bn.2 _ (List.getElem_mem hi2)
        have hzo : o[i] ∈ o := List.getElem_mem hi2
        generalize o[i] = z at tk hz hzo
        have hz2 : z.toNat < rs.length := by omega
        have okz := ok _ (List.getElem_mem hz2)
        have clo : ∀ u ∈ heldR h rs[z.toNat], u ∈ o := by
          rw [← ho]
          exact srch_closed (by rw [ho]; exact bn.len) (by rw [ho]; exact hzo) (List.getElem?_eq_getElem hz2)
        obtain ⟨rv, erv, rrv⟩ := (hHL.same (s02.trans s4)).get (i := z.toNat) (d := (rs[z.toNat]).d) (by rw [List.getElem?_map, List.getElem?_eq_getElem hz2]; rfl)
        have hat : atI hs z = some rv := by
          have := atI_nat erv
          rwa [show ((z.toNat : Nat) : Int) = z by omega] at this
        have erow : rowAt h o rs z = rowD h o rs[z.toNat] := by
          unfold rowAt
          rw [List.getElem?_eq_getElem hz2]
          rfl
        rw [tk, List.map_append, List.map_cons, List.map_nil, erow]
        generalize rs[z.toNat] = r at okz rrv clo
        obtain ⟨a, xs, rfl, hT, hL⟩ := rrv.inv
        obtain ⟨v1, xs, rfl, h1, hL⟩ := hL.inv_cons
        obtain ⟨v2, xs, rfl, h2, hL⟩ := hL.inv_cons
        obtain ⟨v3, xs, rfl, h3, hL⟩ := hL.inv_cons
        cases hL.inv_nil
        cases h1.inv_str
        obtain ⟨pa, ps, rfl, hP, hQ⟩ := h3.inv
        have hlen : ps.length = r.ps.length := by rw [hQ.len, List.length_map]
        walk_at "g"
        walk_at "s"
        refine ⟨_, (KeepT.of (s02.trans s4)) _ _ hH, _, hat, _, rfl, _, hT, rfl, _, _, rfl, _, _, rfl, _, _, rfl, rfl, ?_⟩
        walk_at "s"
        refine ⟨Nat.zero_le _, fun da hda => ?_⟩
        have dr : ra ≠ da := ne_of_none hvs hda
        have s5 := My.Same.new (o := .lst []) hda
        refine seqCut fun N2 hN2 => ?_
        walk_at "f"
        refine ⟨⟨_, (KeepT.of s5) _ _ hP⟩, ForW.by walk_tup (fun j σ H5 => ∃ y11 y12 y13 y14, σ = [some (.ref p), some (.ref ha), some (.ref ia), some (.ref oa), some (.int z), some (.ref D), some (.ref ra), some (.str r.c), some v2, some (.ref pa), some (.ref da), y11, y12, y13, y14] ∧ Same H4 H5 ∧ ∃ ws, H5 da = some (.lst ws) ∧ RpL K H5 ws ((r.ps.take j).map (pairD (h r.c) o)))
          ⟨_, _, _, _, rfl, s5, _, upd_same, .nil⟩ (fun j σ H5 _ hh => by obtain ⟨y11, y12, y13, y14, rfl, s6, _⟩ := hh; exact (KeepT.of s6) _ _ hP) ?_ ?_⟩
        · rintro j x σ H6 H5 hj ⟨y11, y12, y13, y14, rfl, s6, ws, hws, hwr⟩ ⟨rfl, hx⟩
          have hj2 : j < r.ps.length := by omega
          obtain ⟨x', ex, rx⟩ := hQ.get (i := j) (d := prD r.ps[j]) (by rw [List.getElem?_map, List.getElem?_eq_getElem hj2]; rfl)
          rw [hx] at ex
          cases ex
          obtain ⟨qa, qs, rfl, hq, hqL⟩ := (rx.same s6).inv
          obtain ⟨w1, qs, rfl, g1, hqL⟩ := hqL.inv_cons
          obtain ⟨w2, qs, rfl, g2, hqL⟩ := hqL.inv_cons
          cases hqL.inv_nil
          cases g1.inv_str
          have e2 := g2.inv_optI
          subst e2
          have tk2 : r.ps.take (j + 1) = r.ps.take j ++ [r.ps[j]] := by rw [List.take_add_one, List.getElem?_eq_getElem hj2]; rfl
          refine ⟨_, _, rfl, hq, rfl, ?_⟩
          walk_at "rd"
          rw [tk2, List.map_append, List.map_cons, List.map_nil]
          walk_at "s"
          -- what is left: the new pair
          have fin : ∀ (H6 : Hp) (b : Bool) (y14 : Option V) (D2 : Ends), Same H5 H6 → (b = true → ∃ u, r.ps[j].2 = some u ∧ h r.c r.ps[j].1 = true) → (b = false → pairD (h r.c) o r.ps[j] = prD r.ps[j]) →
              (∀ H7 ws, Same H4 H7 → H7 da = some (.lst ws) → RpL K H7 ws (List.map (pairD (h r.c) o) (List.take j r.ps) ++ [pairD (h r.c) o r.ps[j]]) →
                D2.nx [some (.ref p), some (.ref ha), some (.ref ia), some (.ref oa), some (.int z), some (.ref D), some (.ref ra), some (.str r.c), some v2, some (.ref pa), some (.ref da), some (.str r.ps[j].1), some (optV r.ps[j].2), some (.bl b), y14] H7) →
              tDrop (tBM K "list" rAppend (tVar 10) (tCons (tTup (tCons (tVar 11) (tCons (tIf (tB (tVar 13)) (tDGet (tVar 5) (tVar 12)) (tVar 12)) tNil))) tNil)) D2
                [some (.ref p), some (.ref ha), some (.ref ia), some (.ref oa), some (.int z), some (.ref D), some (.ref ra), some (.str r.c), some v2, some (.ref pa), some (.ref da), some (.str r.ps[j].1), some (optV r.ps[j].2), some (.bl b), y14] H6 := by
            intro H6 b y14 D2 s7 hb1 hb2 kk
            have done : ∀ (v : V), Rp K H6 v (match r.ps[j].2 with | none => .none | some i => .int (if h r.c r.ps[j].1 then idxI o i else i)) → ∀ q, H6 q = none →
                D2.nx [some (.ref p), some (.ref ha), some (.ref ia), some (.ref oa), some (.int z), some (.ref D), some (.ref ra), some (.str r.c), some v2, some (.ref pa), some (.ref da), some (.str r.ps[j].1), some (optV r.ps[j].2), some (.bl b), y14] (upd (upd H6 q (.tup [.str r.ps[j].1, v])) da (.lst (ws ++ [.ref q]))) := by
              intro v hv q hq
              have sq : Same H5 (upd H6 q (.tup [.str r.ps[j].1, v])) := s7.trans (My.Same.new hq)
              refine kk _ _ (My.Same.mut (s6.trans sq) hda) upd_same (RpL.keep (RpL.snoc (hwr.same sq) ?_) (.upd (.lst (sq _ _ hws))))
              exact Rp.tup (SqT.of upd_same) (.cons (.str _) (.cons (hv.same (My.Same.new hq)) .nil))
            have lw : ws.length < sizeLine := by
              have := hwr.len
              rw [this, List.length_map, sizeLine_eq]
              have := List.length_take_le j r.ps
              have := okz.1
              omega
            walk_at "l"
            refine ⟨tyL (s7 _ _ hws), ?_⟩
            cases b with
            | false =>
              refine iteF ?_
              refine ⟨by show 2 ≤ sizeLine; decide, fun q hq => ⟨ws, by rw [upd_ne (ne_of_none (s7 _ _ hws) hq)]; exact s7 _ _ hws, lw, done _ ?_ q hq⟩⟩
              have e := hb2 rfl
              unfold pairD prD at e
              injection e with e
              injection e with _ e
              injection e with e _
              rw [e]
              exact Rp.optI _
            | true =>
              refine iteT ?_
              obtain ⟨u, hu, hh1⟩ := hb1 rfl
              have hm : u ∈ o := clo u (by
                unfold heldR
                refine List.mem_filterMap.mpr ⟨_, List.getElem_mem hj2, ?_⟩
                rw [heldP, hu]
                simp [hh1])
              have hg : DGet H6 D (optV r.ps[j].2) (some (.int (idxI o u))) := by
                rw [hu]
                exact (((nu.same s4).same s6).same s7).get hm
              refine ⟨_, hg, by show 2 ≤ sizeLine; decide, fun q hq => ⟨ws, by rw [upd_ne (ne_of_none (s7 _ _ hws) hq)]; exact s7 _ _ hws, lw, done _ ?_ q hq⟩⟩
              rw [hu]
              dsimp only
              rw [if_pos hh1]
              exact .int _
          cases hw : r.ps[j].2 with
          | none =>
            refine iteF ?_
            rw [← hw]
            refine fin H5 false _ _ (.refl _) (fun e => nomatch e) (fun _ => ?_) fun H7 ws2 s7 e7 r7 => ⟨_, _, _, _, rfl, s7, ws2, e7, r7⟩
            unfold pairD prD
            rw [hw]
            rfl
          | some u =>
            refine iteT ?_
            rw [← hw]
            refine ⟨p, r.c, _, h, dom, rfl, hp.same (((s02.trans s4).trans s6)), okz.2.1 _ (List.getElem_mem hj2) (by rw [hw]; simp), fun H6 s7 => ?_⟩
            refine fin H6 _ _ _ s7 (fun e => ⟨u, hw, e⟩) (fun e => ?_) fun H7 ws2 s7 e7 r7 => ⟨_, _, _, _, rfl, s7, ws2, e7, r7⟩
            unfold pairD prD
            rw [hw]
            simp [e, optI]
        · rintro σ H5 ⟨y11, y12, y13, y14, rfl, s6, ws, hws, hwr⟩
          rw [hlen, List.take_length] at hwr
          subst hN2
          walk_at "l"
          refine ⟨tyL (s6 _ _ hvs), _, .inl ⟨.inl (.inl hws), fun l hl => ⟨by show 3 ≤ sizeLine; decide, fun q hq => ⟨vs, ?_, ?_, ?_⟩⟩⟩⟩
          · rw [upd_ne (ne_of_none (My.Same.new hl _ _ (s6 _ _ hvs)) hq), upd_ne (ne_of_none (s6 _ _ hvs) hl)]
            exact s6 _ _ hvs
          · have := hvr.len
            rw [this, List.length_map, sizeLine_eq]
            have := List.length_take_le i o
            have := bn.len
            omega
          · have sq : Same H4 (upd (upd H5 l (.tup ws)) q (.tup [.str r.c, v2, .ref l])) := (s6.trans (My.Same.new hl)).trans (My.Same.new hq)
            have hraN : NoTup (upd (upd H5 l (.tup ws)) q (.tup [.str r.c, v2, .ref l])) ra := .lst (sq _ _ hvs)
            refine ⟨_, _, _, _, _, _, _, _, _, rfl, My.Same.mut (s4.trans sq) hra, _, upd_same, ?_⟩
            refine RpL.keep (RpL.snoc (hvr.same sq) ?_) (.upd hraN)
            refine Rp.tup (SqT.of upd_same) (.cons (.str _) (.cons ((h2.same s6).same ((My.Same.new hl).trans (My.Same.new hq))) (.cons ?_ .nil)))
            refine Rp.tup (SqT.of (My.Same.new hq _ _ upd_same)) (hwr.same ((My.Same.new hl).trans (My.Same.new hq)))
      · rintro σ H4 ⟨x4, x7, x8, x9, x10, x11, x12, x13, x14, rfl, s4, vs, hvs, hvr⟩
        rw [List.length_map, List.take_length] at hvr
        subst hN
        walk_at "r"
        have sA := s02.trans s4
        refine ⟨⟨_, (KeepT.of sA) _ _ hI⟩, fun E1 hE1 => ?_⟩
        refine LcW.by walk_tup (fun i H5 => Same H4 H5 ∧ H5 E1 = some (.lst ((ids.take i).map fun j => .int (idxI o j)))) ⟨My.Same.new hE1, upd_same⟩ (fun i H5 _ hh => (KeepT.of (sA.trans hh.1)) _ _ hI) ?_ ?_
        · rintro i x H6 H5 hi ⟨s5, e5⟩ ⟨rfl, hx⟩
          have hi2 : i < ids.length := by omega
          obtain ⟨x', ex, rx⟩ := hIL.get (i := i) (d := .int ids[i]) (by rw [List.getElem?_map, List.getElem?_eq_getElem hi2]; rfl)
          rw [hx] at ex
          cases ex
          have e2 := rx.inv_int
          subst e2
          have tk : ids.take (i + 1) = ids.take i ++ [ids[i]] := by rw [List.take_add_one, List.getElem?_eq_getElem hi2]; rfl
          have hm : ids[i] ∈ o := by
            rw [← ho]
            exact srch_ids (List.getElem_mem hi2)
          walk_at "rd"
          refine ⟨_, ((nu.same s4).same s5).get hm, _, e5, ?_, My.Same.mut s5 hE1, ?_⟩
          · rw [List.length_map, sizeLine_eq]
            have := List.length_take_le i ids
            omega
          · rw [upd_same, tk, List.map_append]
            rfl
        · rintro H5 ⟨s5, e5⟩
          rw [hin, List.take_length] at e5
          refine ⟨_, rfl, _, .inl ⟨.inl (.inl e5), fun l hl => ⟨_, .inl ⟨.inl (.inl (My.Same.new hl _ _ (s5 _ _ hvs))), fun l2 hl2 => ⟨by show 2 ≤ sizeLine; decide, fun q hq => k _ _ ?_ ?_⟩⟩⟩⟩⟩
          · exact (((sA.trans s5).trans (My.Same.new hl)).trans (My.Same.new hl2)).trans (My.Same.new hq)
          · have sq := My.Same.new (o := HO.tup [V.ref l, V.ref l2]) hq
            have sl := My.Same.new (o := HO.tup vs) hl2
            unfold pictD pictO
            rw [ho]
            refine Rp.tup (SqT.of upd_same) (.cons ?_ (.cons ?_ .nil))
            · exact Rp.tup (SqT.of (sq _ _ (sl _ _ upd_same))) (RpL.map fun j _ => .int _)
            · exact Rp.tup (SqT.of (sq _ _ upd_same)) (hvr.same (((s5.trans (My.Same.new hl)).trans sl).trans sq))

/-! ### the world of a law -/
structure Fld where
  f : Str
  kd : Str
  cls : Option Str
def optS : Option Str → PyData
  | none => .none
  | some x => .str x
def optSV : Option Str → V
  | none => .non
  | some x => .str x
theorem Rp.inv_optS {H : Hp} {v : V} : ∀ {o : Option Str}, Rp K H v (My.optS o) → v = optSV o
  | none, h => h.inv_non
  | some _, h => h.inv_str
theorem Rp.optS {H : Hp} : ∀ o : Option Str, Rp K H (optSV o) (My.optS o)
  | none => .non
  | some x => .str x
def Fld.d (q : Fld) : PyData := .tuple [.str q.f, .str q.kd, optS q.cls]
def lastC (fs : List Fld) (f : Str) : Option Str := fs.foldl (fun acc q => if q.f = f then q.cls else acc) none
theorem lastC_snoc (fs : List Fld) (q : Fld) (f : Str) : lastC (fs ++ [q]) f = if q.f = f then q.cls else lastC fs f := by
  unfold lastC
  rw [List.foldl_append]
  rfl
/-- whether the last field of that name tells a class -/
def holdW (ev : Str → Option (List Fld)) : Holds := fun c f => match ev c with
  | none => false
  | some fs => (lastC fs f).isSome
/-- world["every"] -/
structure EvAt (K : PySem.W.Frag) (H : Hp) (wd : Addr) (ev : Str → Option (List Fld)) : Prop where
  ex : ∃ wk ea kvs, H wd = some (.dK wk) ∧ valV wk (Sum.inr "every") = some (.ref ea) ∧ H ea = some (.dK kvs) ∧
    ∀ c, (valV kvs (Sum.inr c) = none ∧ ev c = none) ∨ ∃ la fs vs, valV kvs (Sum.inr c) = some (.ref la) ∧ ev c = some fs ∧ H la = some (.lst vs) ∧ RpL K H vs (fs.map Fld.d) ∧ fs.length ≤ 1000
theorem EvAt.same {H H' : Hp} {wd : Addr} {ev : Str → Option (List Fld)} (x : EvAt K H wd ev) (s : Same H H') : EvAt K H' wd ev := by
  obtain ⟨wk, ea, kvs, e1, e2, e3, e4⟩ := x.ex
  refine ⟨wk, ea, kvs, s _ _ e1, e2, s _ _ e3, fun c => ?_⟩
  rcases e4 c with q | ⟨la, fs, vs, g1, g2, g3, g4, g5⟩
  · exact .inl q
  · exact .inr ⟨la, fs, vs, g1, g2, s _ _ g3, g4.same s, g5⟩
/-- the dict of the kinds of some fields -/
def KindAt (H : Hp) (ka : Addr) (fs : List Fld) : Prop := ∃ kvs, H ka = some (.dK kvs) ∧ kvs.length ≤ fs.length ∧ ∀ f : Str, (valV kvs (Sum.inr f)).getD .non = optSV (lastC fs f)
theorem KindAt.same {H H' : Hp} {ka : Addr} {fs : List Fld} (h : KindAt H ka fs) (s : Same H H') : KindAt H' ka fs := by
  obtain ⟨kvs, e, q⟩ := h
  exact ⟨kvs, s _ _ e, q⟩
theorem KindAt.put {H : Hp} {ka : Addr} {fs : List Fld} {kvs : List (Key × V)} (q : Fld) (e : H ka = some (.dK kvs)) (hl : kvs.length ≤ fs.length) (h : ∀ f : Str, (valV kvs (Sum.inr f)).getD .non = optSV (lastC fs f)) : KindAt (upd H ka (.dK (putK kvs (Sum.inr q.f) (optSV q.cls)))) ka (fs ++ [q]) := by
  refine ⟨_, upd_same, ?_, fun f => ?_⟩
  · rw [List.length_append]
    have : (putK kvs (Sum.inr q.f) (optSV q.cls)).length ≤ kvs.length + 1 := length_putK kvs _ _
    simp only [List.length_cons, List.length_nil]
    omega
  · rw [valV_put, lastC_snoc]
    by_cases hf : q.f = f
    · subst hf
      rw [if_pos rfl, if_pos rfl]
      rfl
    · rw [if_neg (fun e => hf (by cases e; rfl)), if_neg hf]
      exact h f
theorem inr_s (c : Str) : (V.str c) = kV (Sum.inr c : Key) := rfl
theorem none_of_same {H H' : Hp} {a : Addr} (s : Same H H') (h : H' a = none) : H a = none := by
  cases e : H a with
  | none => rfl
  | some o => rw [s _ _ e] at h; cases h
def RowLen (r : HR) : Prop := r.ps.length ≤ 1000
def spLHeld (K : PySem.W.Frag) : Sp := fun vs H Q _ => ∃ (wd : Addr) (v : V) (r : HR) (ev : Str → Option (List Fld)), vs = [.ref wd, v] ∧ EvAt K H wd ev ∧ Rp K H v r.d ∧ RowLen r ∧
  ∀ (H' : Hp) (l : Addr), Same H H' → H l = none → H' l = some (.lst ((heldR (holdW ev) r).map V.int)) → Q (.ref l) H'
theorem ok_law_held (T : Txt K mg) : FnOk P w K mg base CX0 3 T.a_law_held T.d_law_held ["world", "row"] (spLHeld K) :=
  T.F_law_held.ok sc_law_held (fun vs H Q E h => by obtain ⟨p, v, r, ev, rfl, _⟩ := h; rfl) fun cdv A outer s H vs Q E hr h => by
    obtain ⟨wd, v, r, ev, rfl, hw, hv, ok, k⟩ := h
    refine ⟨_,
      -- kinds = {}
      (pss_cons (ps_set (i := 2) sc_law_held.nd rfl (Or.inr rfl) pe_dnewK)
      -- for field in world['every'].get(row[0], []):
      (pss_cons (ps_for PassesOwn.never rfl (pi_list (pe_dget2 (hu_of hr) (pe_dget (hu_of hr) (pv 0) pe_str (fun _ _ => rfl)) (pe_ix ix_tup (pv 1) pe_int (fun _ _ => rfl)) (pe_lst pa_nil) ⟨by rfl, by rfl, by rfl, by rfl⟩)) (pg_name (i := 3) sc_law_held.nd rfl (Or.inl rfl)) 
        -- kinds[field[0]] = field[2]
        (pss_one (ps_dput (hu_of hr) (pv 2) (pe_ix ix_tup (pv 3) pe_int (fun _ _ => rfl)) (pe_ix ix_tup (pv 3) pe_int (fun _ _ => rfl)) rfl)))
      -- return [value for field, value in row[2] if value is not None and kinds.get(field, None) is not None]
      (pss_one (ps_ret (pe_lc (own := [("field", 3), ("value", 4)]) (g := gTup K 2 (gCons (gName 3) (gCons (gName 4) gNil)))  rfl sc_law_held.nd (pi_tup (pe_ix ix_tup (pv 1) pe_int (fun _ _ => rfl))) (blkOk_by (N := ["world", "row", "kinds", "field", "value"]) (sc := defScope s_law_held) (by decide +kernel)) (fun _ _ _ _ _ => (pg_tup rfl (pgs_cons (pg_name (i := 3) sc_law_held.nd rfl (Or.inl rfl)) (pgs_cons (pg_name (i := 4) sc_law_held.nd rfl (Or.inl rfl)) pgs_nil)))) (fun _ _ _ _ _ => (pts_one (PW.pt (pw_and (pt_cmpR op_notN (pv 4) pe_non (nomark _)) (pw_and1 (pt_cmpR op_notN (pe_dget2 (hu_of hr) (pv 2) (pv 3) pe_non ⟨by rfl, by rfl, by rfl, by rfl⟩) pe_non (nomark _))))))) (fun _ _ _ _ _ => (pv 4)))))))
      , ?_⟩
    refine sig [some (.ref wd), some v, none, none, none] rfl ?_
    obtain ⟨a, xs, rfl, hT, hL⟩ := hv.inv
    obtain ⟨v1, xs, rfl, h1, hL⟩ := hL.inv_cons
    obtain ⟨v2, xs, rfl, h2, hL⟩ := hL.inv_cons
    obtain ⟨v3, xs, rfl, h3, hL⟩ := hL.inv_cons
    cases hL.inv_nil
    cases h1.inv_str
    obtain ⟨pa, ps, rfl, hP, hQ⟩ := h3.inv
    have hlen : ps.length = r.ps.length := by rw [hQ.len, List.length_map]
    walk_at "s"
    intro ka hka
    have s1 := My.Same.new (o := .dK []) hka
    refine seqCut fun N hN => ?_
    -- the fields of the row's class: at la
    have key : ∀ (H2 : Hp) (la : Addr) (fs : List Fld) (fvs : List V), Same (upd H ka (.dK [])) H2 → H2 la = some (.lst fvs) → RpL K H2 fvs (fs.map Fld.d) → fs.length ≤ 1000 → holdW ev r.c = (fun f => (lastC fs f).isSome) →
        ForW (Itl K la) (gName 3) (sDPut (tVar 2) (tOp (rIxT K) (tVar 3) (tC (.int 0))) (tOp (rIxT K) (tVar 3) (tC (.int 2)))) { nx := N, rt := Q } [some (.ref wd), some (.ref a), some (.ref ka), none, none] H2 := by
      intro H2 la fs fvs s2 hla hfl hfn hho
      have hne : la ≠ ka := fun e => by
        rw [e, s2 _ _ upd_same] at hla
        cases hla
      have hfn2 : fvs.length = fs.length := by rw [hfl.len, List.length_map]
      refine ForW.by walk_list (fun i σ H3 => ∃ u3, σ = [some (.ref wd), some (.ref a), some (.ref ka), u3, none] ∧ Same H H3 ∧ H3 la = some (.lst fvs) ∧ RpL K H3 fvs (fs.map Fld.d) ∧ KindAt H3 ka (fs.take i)) ⟨_, rfl, s1.trans s2, hla, hfl, [], s2 _ _ upd_same, Nat.zero_le _, fun f => rfl⟩ (fun i σ H3 _ hh => .inl (.inl hh.choose_spec.2.2.1)) ?_ ?_
      · rintro i x σ H4 H3 hi ⟨u3, rfl, s3, hl3, hf3, kvs3, hk3, hkl, hkv⟩ ⟨rfl, hx⟩
        have hi2 : i < fs.length := by omega
        obtain ⟨x', ex, rx⟩ := hf3.get (i := i) (d := fs[i].d) (by rw [List.getElem?_map, List.getElem?_eq_getElem hi2]; rfl)
        rw [hx] at ex
        cases ex
        obtain ⟨qa, qs, rfl, hq, hqL⟩ := rx.inv
        obtain ⟨w1, qs, rfl, g1, hqL⟩ := hqL.inv_cons
        obtain ⟨w2, qs, rfl, g2, hqL⟩ := hqL.inv_cons
        obtain ⟨w3, qs, rfl, g3, hqL⟩ := hqL.inv_cons
        cases hqL.inv_nil
        cases g1.inv_str
        have e3 := g3.inv_optS
        subst e3
        have tk : fs.take (i + 1) = fs.take i ++ [fs[i]] := by rw [List.take_add_one, List.getElem?_eq_getElem hi2]; rfl
        walk_at "g"
        walk_at "rd"
        refine ⟨_, hq, _, rfl, _, hq, _, rfl, _, DPut.k (k := Sum.inr fs[i].f) hk3 ?_, ?_⟩
        · have := List.length_take_le i fs
          rw [sizeLine_eq]
          omega
        · rw [tk]
          exact ⟨My.Same.mut s3 hka, by rw [upd_ne hne]; exact hl3, hf3.keep (.upd (.dK hk3)), KindAt.put fs[i] hk3 hkl hkv⟩
      · rintro σ H3 ⟨u3, rfl, s3, hl3, hf3, hk3⟩
        rw [hfn2, List.take_length] at hk3
        subst hN
        walk_at "r"
        refine ⟨_, (KeepT.of s3) _ _ hT, _, rfl, _, rfl, ⟨_, (KeepT.of s3) _ _ hP⟩, fun D hD => LcW.by walk_tup (fun i H1 => Same H3 H1 ∧ H1 D = some (.lst (((r.ps.take i).filterMap (heldP (holdW ev r.c))).map V.int))) ⟨My.Same.new hD, upd_same⟩ (fun i H1 _ hh => (KeepT.of (s3.trans hh.1)) _ _ hP) ?_ ?_⟩
        · rintro i x H1 H' hi ⟨s4, hl⟩ ⟨rfl, hx⟩
          have hi2 : i < r.ps.length := by omega
          obtain ⟨x', ex, rx⟩ := hQ.get (i := i) (d := prD r.ps[i]) (by rw [List.getElem?_map, List.getElem?_eq_getElem hi2]; rfl)
          rw [hx] at ex
          cases ex
          obtain ⟨qa, qs, rfl, hq, hqL⟩ := (rx.same (s3.trans s4)).inv
          obtain ⟨w1, qs, rfl, g1, hqL⟩ := hqL.inv_cons
          obtain ⟨w2, qs, rfl, g2, hqL⟩ := hqL.inv_cons
          cases hqL.inv_nil
          cases g1.inv_str
          have e2 := g2.inv_optI
          subst e2
          have tk : r.ps.take (i + 1) = r.ps.take i ++ [r.ps[i]] := by rw [List.take_add_one, List.getElem?_eq_getElem hi2]; rfl
          walk_at "rd"
          refine ⟨_, hq, rfl, _, _, rfl, _, _, rfl, rfl, ?_⟩
          rw [tk, List.filterMap_append, List.map_append]
          cases hw : r.ps[i].2 with
          | none =>
            refine iteF ?_
            have e : heldP (holdW ev r.c) r.ps[i] = none := by rw [heldP, hw]
            rw [List.filterMap_cons, e]
            exact ⟨s4, by simpa using hl⟩
          | some z =>
            refine iteT ?_
            obtain ⟨kvs3, e3, _, hkv⟩ := hk3
            refine ⟨.inl ⟨_, .inl (s4 _ _ e3)⟩, _, DGet.k (k := Sum.inr r.ps[i].1) (s4 _ _ e3), ?_⟩
            rw [hkv]
            cases hh : lastC fs r.ps[i].1 with
            | none =>
              refine iteF ?_
              have e : heldP (holdW ev r.c) r.ps[i] = none := by rw [heldP, hw, hho]; simp [hh]
              rw [List.filterMap_cons, e]
              exact ⟨s4, by simpa using hl⟩
            | some cc =>
              refine iteT ?_
              have e : heldP (holdW ev r.c) r.ps[i] = some z := by rw [heldP, hw, hho]; simp [hh]
              rw [List.filterMap_cons, e]
              refine ⟨_, hl, ?_, My.Same.mut s4 hD, upd_same⟩
              have h9 : r.ps.length ≤ 1000 := ok
              have h10 : ((r.ps.take i).filterMap (heldP (holdW ev r.c))).length ≤ r.ps.length := Nat.le_trans (List.length_filterMap_le _ _) (by rw [List.length_take]; omega)
              rw [List.length_map, sizeLine_eq]
              omega
        · rintro H1 ⟨s4, hl⟩
          refine k _ _ (s3.trans s4) (none_of_same s3 hD) ?_
          rw [hl, hlen, List.take_length]
          rfl
    walk_at "f"
    obtain ⟨wk, ea, kvs, e1, e2, e3, e4⟩ := (hw.same s1).ex
    refine ⟨_, by rw [← e2]; exact DGet.k (k := Sum.inr "every") e1, _, rfl, .inl ⟨_, .inl e3⟩, _, (KeepT.of s1) _ _ hT, _, rfl, Nat.zero_le _, fun q hq => ?_⟩
    have sq := My.Same.new (o := .lst []) hq
    rcases e4 r.c with ⟨g1, g2⟩ | ⟨la, fs, fvs, g1, g2, g3, g4, g5⟩
    · refine ⟨none, by rw [← g1]; exact DGet.k (k := Sum.inr r.c) (sq _ _ e3), q, rfl, ⟨_, .inl (.inl upd_same)⟩, ?_⟩
      exact key _ q [] [] sq upd_same .nil (Nat.zero_le _) (by funext f; unfold holdW; rw [g2]; rfl)
    · refine ⟨some (.ref la), by rw [← g1]; exact DGet.k (k := Sum.inr r.c) (sq _ _ e3), la, rfl, ⟨_, .inl (.inl (sq _ _ g3))⟩, ?_⟩
      exact key _ la fs fvs sq (sq _ _ g3) (g4.same sq) g5 (by funext f; unfold holdW; rw [g2])

/-- what a law's search asks of its rows -/
def RowsL (h : Holds) (rs : List HR) : Prop := rs.length ≤ 1000 ∧ ∀ r ∈ rs, r.ps.length ≤ 1000 ∧ ∀ i ∈ heldR h r, 0 ≤ i ∧ i < rs.length
/-- numbers in a list or a tuple -/
def IntsAt (K : PySem.W.Frag) (H : Hp) (v : V) (ids : List Int) : Prop := ∃ a, v = .ref a ∧ (SqL K H a (ids.map V.int) ∨ SqT K H a (ids.map V.int))
theorem sql_same {H H' : Hp} {a : Addr} {xs : List V} (s : Same H H') (h : SqL K H a xs) : SqL K H' a xs := by
  rcases h with (h | ⟨o, h⟩) | h
  · exact .inl (.inl (s _ _ h))
  · exact .inl (.inr ⟨o, s _ _ h⟩)
  · exact .inr h
theorem IntsAt.same {H H' : Hp} {v : V} {ids : List Int} (h : IntsAt K H v ids) (s : Same H H') : IntsAt K H' v ids := by
  obtain ⟨a, e, h | h⟩ := h
  · exact ⟨a, e, .inl (sql_same s h)⟩
  · exact ⟨a, e, .inr ((KeepT.of s) _ _ h)⟩
def spLSearch (K : PySem.W.Frag) : Sp := fun vs H Q _ => ∃ (wd : Addr) (hv iv : V) (rs : List HR) (ids : List Int) (ev : Str → Option (List Fld)), vs = [.ref wd, hv, iv] ∧ EvAt K H wd ev ∧ Rp K H hv (hpD rs) ∧ IntsAt K H iv ids ∧ RowsL (holdW ev) rs ∧
  (∀ i ∈ ids, 0 ≤ i ∧ i < rs.length) ∧ ∀ (H' : Hp) (l : Addr), Same H H' → H l = none → H' l = some (.lst ((srch (holdW ev) rs ids).map V.int)) → Q (.ref l) H'
/-- an order grows -/
theorem inV_int (x : Int) : ∀ o : List Int, inV (.int x) (o.map V.int) = decide (x ∈ o)
  | [] => rfl
  | y :: r => by
    show (eqV (.int y) (.int x) || inV (.int x) (r.map V.int)) = _
    rw [inV_int x r]
    show ((y == x) || decide (x ∈ r)) = _
    by_cases h : x = y
    · subst h
      simp
    · have h2 : ¬ y = x := fun e => h e.symm
      simp [h, h2]
theorem flat_ints (o : List Int) : (o.map V.int).all flatV = true := by
  rw [List.all_map]
  exact List.all_eq_true.mpr fun _ _ => rfl
theorem ordTurn {D : Ends} {H0 H1 : Hp} {oa : Addr} {o : List Int} {x : Int} {a0 a1 a2 a5 : Option V} (no : H0 oa = none) (s1 : Same H0 H1) (hls : H1 oa = some (.lst (o.map V.int))) (hl : o.length ≤ 1000)
    (h : ∀ H2, Same H0 H2 → H2 oa = some (.lst ((addN o [x]).map V.int)) → (∀ b, b ≠ oa → H2 b = H1 b) → D.nx [a0, a1, a2, some (.ref oa), some (.int x), a5] H2) :
    tIfS (tTest (tOp (rIn K true) (tVar 4) (tVar 3))) (tDrop (tBM K "list" rAppend (tVar 3) (tCons (tVar 4) tNil))) tNext D [a0, a1, a2, some (.ref oa), some (.int x), a5] H1 := by
  walk_at "i"
  refine ⟨_, .inl (.inl (.inl hls)), rfl, flat_ints o, ?_⟩
  rw [inV_int]
  by_cases hx : x ∈ o
  · rw [decide_eq_true hx]
    refine iteF ?_
    have e : addN o [x] = o := by show (if x ∈ o then o else o ++ [x]) = o; rw [if_pos hx]
    rw [e] at h
    exact h _ s1 hls fun _ _ => rfl
  · rw [decide_eq_false hx]
    refine iteT ?_
    have e : addN o [x] = o ++ [x] := by show (if x ∈ o then o else o ++ [x]) = _; rw [if_neg hx]
    rw [e] at h
    walk_at "l"
    refine ⟨tyL hls, _, hls, ?_, h _ (My.Same.mut s1 no) (by rw [upd_same, List.map_append]; rfl) fun b hb => upd_ne hb⟩
    rw [List.length_map, sizeLine_eq]
    omega
theorem ok_law_search (T : Txt K mg) : FnOk P w K mg base CX0 4 T.a_law_search T.d_law_search ["world", "heap", "indexes"] (spLSearch K) :=
  T.F_law_search.ok sc_law_search (fun vs H Q E h => by obtain ⟨wd, hv, iv, rs, ids, ev, rfl, _⟩ := h; rfl) fun cdv A outer s H vs Q E hr h => by
    obtain ⟨wd, hv, iv, rs, ids, ev, rfl, hw, hh, hi, ok, hb, k⟩ := h
    refine ⟨_,
      -- order = []
      (pss_cons (ps_set (i := 3) sc_law_search.nd rfl (Or.inl rfl) (pe_lst pa_nil))
      -- for index in indexes:
      (pss_cons (ps_for PassesOwn.never rfl (My.pi_both (pv 2)) (pg_name (i := 4) sc_law_search.nd rfl (Or.inl rfl)) 
        -- if index not in order:
        (pss_one (ps_if (pt_cmpR op_notIn_seq (pv 4) (pv 3) rfl) 
          -- order.append(index)
          (pss_one (ps_expr (pe_bm PySem.F.plainAttrs_list PySem.F.slot_list_append PySem.F.type_list_append mt_append (pv 3) (pa_cons (pv 4) pa_nil)))) pss_nil)))
      -- for at in range(len(heap)):
      (pss_cons (ps_for PassesOwn.never rfl (pi_range1 (by rfl) T.z_range (pa_cons (pe_callB call_len_seq (by rfl) T.z_len (by decide +kernel) (pa_cons (pv 1) pa_nil)) pa_nil)) (pg_name (i := 5) sc_law_search.nd rfl (Or.inl rfl)) 
        -- if at < len(order):
        (pss_one (ps_if (pt_cmpR op_lt (pv 5) (pe_callB call_len_seq (by rfl) T.z_len (by decide +kernel) (pa_cons (pv 3) pa_nil)) (nomark _)) 
          -- for index in _law_held(world, heap[order[at]]):
          (pss_one (ps_for PassesOwn.never rfl (pi_list (pe_call (ok_law_held T) (hr.mono (by first | decide | omega)) (by rfl) T.g_law_held T.F_law_held.kp T.b_law_held .nil pass0 (pa_cons (pv 0) (pa_cons (pe_ix ix_tup (pv 1) (pe_ix ix_list (pv 3) (pv 5) (fun _ _ => rfl)) (fun _ _ => rfl)) pa_nil)))) (pg_name (i := 4) sc_law_search.nd rfl (Or.inl rfl)) 
            -- if index not in order:
            (pss_one (ps_if (pt_cmpR op_notIn_seq (pv 4) (pv 3) rfl) 
              -- order.append(index)
              (pss_one (ps_expr (pe_bm PySem.F.plainAttrs_list PySem.F.slot_list_append PySem.F.type_list_append mt_append (pv 3) (pa_cons (pv 4) pa_nil)))) pss_nil)))) pss_nil)))
      -- return order
      (pss_one (ps_ret (pv 3))))))
      , ?_⟩
    refine sig [some (.ref wd), some hv, some iv, none, none, none] rfl ?_
    obtain ⟨ha, hs, rfl, hH, hHL⟩ := hh.inv
    have hhn : hs.length = rs.length := by rw [hHL.len, List.length_map]
    have hn := ok.1
    walk_at "s"
    refine ⟨Nat.zero_le _, fun oa hoa => ?_⟩
    have s1 := My.Same.new (o := .lst []) hoa
    refine seqCut fun N hN => ?_
    have first : ∀ {J : It} {G : Hp → Prop} (ia : Addr), Walk J ids.length G (YAt (ids.map V.int)) → (∀ H1, Same H H1 → G H1) →
        ForW J (gName 4) (tIfS (tTest (tOp (rIn K true) (tVar 4) (tVar 3))) (tDrop (tBM K "list" rAppend (tVar 3) (tCons (tVar 4) tNil))) tNext) { nx := N, rt := Q } [some (.ref wd), some (.ref ha), some (.ref ia), some (.ref oa), none, none] (upd H oa (.lst [])) := by
      intro J G ia W hG
      refine ForW.by W (fun i σ H1 => ∃ v, σ = [some (.ref wd), some (.ref ha), some (.ref ia), some (.ref oa), v, none] ∧ Same H H1 ∧ H1 oa = some (.lst ((addN [] (ids.take i)).map V.int))) ⟨none, rfl, s1, upd_same⟩ (fun i σ H1 _ hh => hG _ hh.choose_spec.2.1) ?_ ?_
      · rintro i x σ H4 H3 hi ⟨v, rfl, s3, e3⟩ ⟨rfl, hx⟩
        have hi2 : i < ids.length := hi
        rw [List.getElem?_map, List.getElem?_eq_getElem hi2] at hx
        cases hx
        have tk : ids.take (i + 1) = ids.take i ++ [ids[i]] := by rw [List.take_add_one, List.getElem?_eq_getElem hi2]; rfl
        walk_at "g"
        have b1 : Blw rs.length (addN [] (ids.take i)) := Blw.add ⟨.nil, fun _ h => nomatch h⟩ fun j hj => hb j (List.mem_of_mem_take hj)
        refine ordTurn hoa s3 e3 (Nat.le_trans b1.len hn) fun H2 s5 e5 _ => ⟨_, rfl, s5, ?_⟩
        rw [tk, addN_snoc]
        exact e5
      · rintro σ H3 ⟨v, rfl, s3, e3⟩
        rw [List.take_length] at e3
        subst hN
        dsimp only
        refine seqCut fun N hN => ?_
        have b0 : Blw rs.length (addN [] ids) := Blw.add ⟨.nil, fun _ h => nomatch h⟩ hb
        have hr' : ∀ r ∈ rs, ∀ i ∈ heldR (holdW ev) r, 0 ≤ i ∧ i < rs.length := fun r hr => (ok.2 r hr).2
        have last : ∀ σ H1, (∃ v w5, σ = [some (.ref wd), some (.ref ha), some (.ref ia), some (.ref oa), v, w5] ∧ Same H H1 ∧ H1 oa = some (.lst ((turnsN (holdW ev) rs (addN [] ids) rs.length).map V.int))) → N σ H1 := by
          rintro σ H1 ⟨v, w5, rfl, s4, e4⟩
          subst hN
          walk_at "r"
          exact k _ _ s4 hoa e4
        walk_at "f"
        refine ⟨hs, .inr ((KeepT.of s3) _ _ hH), by omega, by omega, ?_⟩
        rw [show ((hs.length : Nat) : Int).toNat = rs.length by omega]
        refine ForW.rng (fun k σ H1 => ∃ v w5, σ = [some (.ref wd), some (.ref ha), some (.ref ia), some (.ref oa), v, w5] ∧ Same H H1 ∧ H1 oa = some (.lst ((turnsN (holdW ev) rs (addN [] ids) k).map V.int))) ⟨_, _, rfl, s3, e3⟩ ?_ last
        rintro j σ H2 hj ⟨v, w5, rfl, s4, e4⟩
        have bj := b0.turns hr' j
        rw [Int.zero_add]
        walk_at "g"
        walk_at "i"
        refine ⟨_, .inl (.inl (.inl e4)), ?_⟩
        rw [List.length_map]
        by_cases hlt : (j : Int) < (turnsN (holdW ev) rs (addN [] ids) j).length
        · rw [decide_eq_true hlt]
          refine iteT ?_
          have hlt2 : j < (turnsN (holdW ev) rs (addN [] ids) j).length := by omega
          have hz := bj.2 _ (List.getElem_mem hlt2)
          generalize hzz : (turnsN (holdW ev) rs (addN [] ids) j)[j] = z at hz
          have hz2 : z.toNat < rs.length := by omega
          obtain ⟨rv, erv, rrv⟩ := (hHL.same s4).get (i := z.toNat) (d := (rs[z.toNat]).d) (by rw [List.getElem?_map, List.getElem?_eq_getElem hz2]; rfl)
          have hat : atI hs z = some rv := by
            have := atI_nat erv
            rwa [show ((z.toNat : Nat) : Int) = z by omega] at this
          have est : turnsN (holdW ev) rs (addN [] ids) (j + 1) = addN (turnsN (holdW ev) rs (addN [] ids) j) (heldR (holdW ev) rs[z.toNat]) := by
            show stepN (holdW ev) rs j (turnsN (holdW ev) rs (addN [] ids) j) = _
            unfold stepN
            rw [List.getElem?_eq_getElem hlt2, hzz]
            dsimp only
            rw [List.getElem?_eq_getElem hz2]
          have okz := ok.2 _ (List.getElem_mem hz2)
          walk_at "f"
          refine ⟨_, .inl (.inl e4), _, atI_nat (by rw [List.getElem?_map, List.getElem?_eq_getElem hlt2, hzz]; rfl), _, _, rfl, (KeepT.of s4) _ _ hH, _, hat, wd, rv, rs[z.toNat], ev, rfl, hw.same s4, rrv, okz.1, fun H3 l s5 hl3 e5 => ⟨_, rfl, ⟨_, .inl (.inl e5)⟩, ?_⟩⟩
          have lo : l ≠ oa := (ne_of_none e4 hl3).symm
          refine ForW.by walk_list (fun i σ H1 => ∃ v, σ = [some (.ref wd), some (.ref ha), some (.ref ia), some (.ref oa), v, some (.int (j : Nat))] ∧ Same H H1 ∧ H1 oa = some (.lst ((addN (turnsN (holdW ev) rs (addN [] ids) j) ((heldR (holdW ev) rs[z.toNat]).take i)).map V.int)) ∧ H1 l = some (.lst ((heldR (holdW ev) rs[z.toNat]).map V.int))) ⟨v, rfl, s4.trans s5, s5 _ _ e4, e5⟩ (fun i σ H1 _ hh => .inl (.inl hh.choose_spec.2.2.2)) ?_ ?_
          · rintro i x σ H6 H1 hi ⟨v, rfl, s6, e6, e7⟩ ⟨rfl, hx⟩
            have hi2 : i < (heldR (holdW ev) rs[z.toNat]).length := by simpa using hi
            rw [List.getElem?_map, List.getElem?_eq_getElem hi2] at hx
            cases hx
            have tk : (heldR (holdW ev) rs[z.toNat]).take (i + 1) = (heldR (holdW ev) rs[z.toNat]).take i ++ [(heldR (holdW ev) rs[z.toNat])[i]] := by rw [List.take_add_one, List.getElem?_eq_getElem hi2]; rfl
            walk_at "g"
            have b1 : Blw rs.length (addN (turnsN (holdW ev) rs (addN [] ids) j) ((heldR (holdW ev) rs[z.toNat]).take i)) := bj.add fun q hq => okz.2 _ (List.mem_of_mem_take hq)
            refine ordTurn hoa s6 e6 (Nat.le_trans b1.len hn) fun H2 s8 e8 ot => ⟨_, rfl, s8, ?_, by rw [ot _ lo]; exact e7⟩
            rw [tk, addN_snoc]
            exact e8
          · rintro σ H1 ⟨v, rfl, s6, e6, e7⟩
            rw [List.length_map, List.take_length, ← est] at e6
            exact ⟨_, _, rfl, s6, e6⟩
        · rw [decide_eq_false hlt]
          refine iteF ?_
          refine ⟨_, _, rfl, s4, ?_⟩
          have := turns_stop (h := holdW ev) (rs := rs) (o := addN [] ids) (k := j) (by omega) 1
          rw [this]
          exact e4
    walk_at "f"
    obtain ⟨ia, rfl, hI | hI⟩ := hi
    · exact ⟨ia, rfl, .inl ⟨⟨_, sql_same s1 hI⟩, first ia (by have := walk_list (K := K) (a := ia) (xs := ids.map V.int); rwa [List.length_map] at this) fun H1 s => sql_same s hI⟩⟩
    · exact ⟨ia, rfl, .inr ⟨⟨_, (KeepT.of s1) _ _ hI⟩, first ia (by have := walk_tup (K := K) (a := ia) (xs := ids.map V.int); rwa [List.length_map] at this) fun H1 s => (KeepT.of s) _ _ hI⟩⟩

def spLDeep (K : PySem.W.Frag) : Sp := fun vs H Q _ => ∃ (wd : Addr) (hv : V) (rs : List HR) (ev : Str → Option (List Fld)), vs = [.ref wd, hv] ∧ EvAt K H wd ev ∧ Rp K H hv (hpD rs) ∧ RowsL (holdW ev) rs ∧
  ∀ (H' : Hp), Same H H' → Q (.bl (deepB (holdW ev) rs)) H'
/-- the complete rows -/
def compl (rs : List HR) (k : Nat) : List Int := (List.range k).filterMap fun j => match rs[j]? with
  | none => none
  | some r => if r.b then some (j : Int) else none
def fullR (r : HR) : Bool := r.b && r.ps.all fun q => q.2.isSome
theorem compl_mem {rs : List HR} {k : Nat} {i : Int} : i ∈ compl rs k ↔ ∃ j r, j < k ∧ rs[j]? = some r ∧ r.b = true ∧ i = (j : Nat) := by
  unfold compl
  rw [List.mem_filterMap]
  constructor
  · rintro ⟨j, hj, e⟩
    cases hr : rs[j]? with
    | none => rw [hr] at e; cases e
    | some r =>
      rw [hr] at e
      dsimp only at e
      split at e
      · rename_i hb
        cases e
        exact ⟨j, r, List.mem_range.mp hj, hr, hb, rfl⟩
      · cases e
  · rintro ⟨j, r, hj, hr, hb, rfl⟩
    exact ⟨j, List.mem_range.mpr hj, by rw [hr]; simp [hb]⟩
theorem compl_snoc {rs : List HR} {k : Nat} {r : HR} (hr : rs[k]? = some r) : compl rs (k + 1) = compl rs k ++ (if r.b then [(k : Int)] else []) := by
  unfold compl
  rw [List.range_succ, List.filterMap_append, List.filterMap_cons, hr]
  cases hb : r.b <;> simp [hb]
/-- a search from complete rows: all deep, or a row that is not full is found -/
theorem deep_eq {h : Holds} {rs : List HR} (hr : RowsL h rs) : deepB h rs = (srch h rs (compl rs rs.length)).all fun i => ((rs[i.toNat]?).map fullR).getD true := by
  have hi : ∀ i ∈ compl rs rs.length, 0 ≤ i ∧ i < rs.length := fun i hi => by
    obtain ⟨j, r, h1, _, _, rfl⟩ := compl_mem.mp hi
    omega
  have b0 : Blw rs.length (addN [] (compl rs rs.length)) := Blw.add ⟨.nil, fun _ h => nomatch h⟩ hi
  have hx : ∀ r ∈ rs, ∀ i ∈ heldR h r, 0 ≤ i ∧ i < rs.length := fun r m => (hr.2 r m).2
  have bn : Blw rs.length (srch h rs (compl rs rs.length)) := b0.turns hx rs.length
  rw [Bool.eq_iff_iff]
  unfold deepB
  rw [List.all_eq_true, List.all_eq_true]
  constructor
  · -- all rows of the search are complete: the ids are, and what complete rows hold is
    intro hd i hi2
    have all : ∀ k, ∀ i ∈ turnsN h rs (addN [] (compl rs rs.length)) k, ((rs[i.toNat]?).map HR.b).getD false = true := by
      intro k
      induction k with
      | zero =>
        intro i hi
        have h1 : i ∈ compl rs rs.length := by
          have h2 : i ∈ addN [] (compl rs rs.length) := hi
          rw [addN_mem] at h2
          exact h2.resolve_left (fun e => nomatch e)
        obtain ⟨j, r, _, hr, hb, rfl⟩ := compl_mem.mp h1
        rw [show ((j : Nat) : Int).toNat = j by omega, hr]
        exact hb
      | succ k ih =>
        intro i hi
        have hi : i ∈ stepN h rs k (turnsN h rs (addN [] (compl rs rs.length)) k) := hi
        unfold stepN at hi
        split at hi
        · exact ih i hi
        · rename_i z hz
          split at hi
          · exact ih i hi
          · rename_i r hr'
            rw [addN_mem] at hi
            rcases hi with hi | hi
            · exact ih i hi
            · have h1 := ih z (List.mem_of_getElem? hz)
              rw [hr'] at h1
              have h2 := hd r (List.mem_of_getElem? hr')
              unfold deepR at h2
              rw [show r.b = true from h1] at h2
              simp only [Bool.not_true, Bool.false_or, Bool.and_eq_true] at h2
              exact List.all_eq_true.mp h2.2 i hi
    have h1 := all rs.length i hi2
    have hlt := bn.2 i hi2
    have hz : i.toNat < rs.length := by omega
    rw [List.getElem?_eq_getElem hz] at h1 ⊢
    have hb : rs[i.toNat].b = true := h1
    have h2 := hd _ (List.getElem_mem hz)
    unfold deepR at h2
    rw [hb] at h2
    simp only [Bool.not_true, Bool.false_or, Bool.and_eq_true] at h2
    show fullR _ = true
    unfold fullR
    rw [hb, h2.1]
    rfl
  · intro hd r hm
    unfold deepR
    cases hb : r.b with
    | false => rfl
    | true =>
      obtain ⟨j, hj, e⟩ := List.getElem_of_mem hm
      have hjr : rs[j]? = some r := by rw [List.getElem?_eq_getElem hj, e]
      have h1 : (j : Int) ∈ srch h rs (compl rs rs.length) := srch_ids (compl_mem.mpr ⟨j, r, hj, hjr, hb, rfl⟩)
      have h2 := hd _ h1
      rw [show ((j : Nat) : Int).toNat = j by omega, hjr] at h2
      have h2 : fullR r = true := h2
      unfold fullR at h2
      rw [Bool.and_eq_true] at h2
      rw [h2.2]
      show ((heldR h r).all fun i => ((rs[i.toNat]?).map HR.b).getD false) = true
      rw [List.all_eq_true]
      intro z hz
      have h3 := srch_closed bn.len h1 (by rw [show ((j : Nat) : Int).toNat = j by omega]; exact hjr) z hz
      have h4 := hd _ h3
      have hzl := bn.2 _ h3
      have hz2 : z.toNat < rs.length := by omega
      rw [List.getElem?_eq_getElem hz2] at h4 ⊢
      have h4 : fullR rs[z.toNat] = true := h4
      unfold fullR at h4
      rw [Bool.and_eq_true] at h4
      exact h4.1
theorem ok_law_deep (T : Txt K mg) : FnOk P w K mg base CX0 5 T.a_law_deep T.d_law_deep ["world", "heap"] (spLDeep K) :=
  T.F_law_deep.ok sc_law_deep (fun vs H Q E h => by obtain ⟨wd, hv, rs, ev, rfl, _⟩ := h; rfl) fun cdv A outer s H vs Q E hr h => by
    obtain ⟨wd, hv, rs, ev, rfl, hw, hh, ok, k⟩ := h
    refine ⟨_,
      -- complete = [k for k in range(len(heap)) if heap[k][1]]
      (pss_cons (ps_setLc (i := 3) (own := [("k", 2)]) (g := gName 2)  rfl sc_law_deep.nd rfl rfl (sw_true rfl rfl rfl (by decide +kernel)) (pi_range1 (by rfl) T.z_range (pa_cons (pe_callB call_len_seq (by rfl) T.z_len (by decide +kernel) (pa_cons (pv 1) pa_nil)) pa_nil)) (blkOk_by (N := ["world", "heap", "k", "complete", "pair"]) (sc := defScope s_law_deep) (by decide +kernel)) (fun _ _ _ _ _ => pg_name (i := 2) sc_law_deep.nd rfl (Or.inl rfl)) (fun _ _ _ _ _ => (pts_one (pt_val (pe_ix (ix_tup : IxR _ (rIxT K)) (pe_ix (ix_tup : IxR _ (rIxT K)) (pv 1) (pv 2) (fun _ _ => rfl)) pe_int (fun _ _ => rfl))))) (fun _ _ _ _ _ => (pv 2)))
      -- for k in _law_search(world, heap, complete):
      (pss_cons (ps_for PassesOwn.never rfl (pi_list (pe_call (ok_law_search T) (hr.mono (by first | decide | omega)) (by rfl) T.g_law_search T.F_law_search.kp T.b_law_search .nil pass0 (pa_cons (pv 0) (pa_cons (pv 1) (pa_cons (pv 3) pa_nil))))) (pg_name (i := 2) sc_law_deep.nd rfl (Or.inl rfl)) 
        -- if not heap[k][1] or None in [pair[1] for pair in heap[k][2]]:
        (pss_one (ps_if (PW.pt (pw_or (pt_not (pt_val (pe_ix ix_tup (pe_ix ix_tup (pv 1) (pv 2) (fun _ _ => rfl)) pe_int (fun _ _ => rfl)))) (pw_or1 (pt_cmpR op_in_seq pe_non (pe_lc (own := [("pair", 4)]) (g := gName 4) (tt := tYes) rfl sc_law_deep.nd (pi_tup (pe_ix ix_tup (pe_ix ix_tup (pv 1) (pv 2) (fun _ _ => rfl)) pe_int (fun _ _ => rfl))) (blkOk_by (N := ["world", "heap", "k", "complete", "pair"]) (sc := defScope s_law_deep) (by decide +kernel)) (fun _ _ _ _ _ => pg_name (i := 4) sc_law_deep.nd rfl (Or.inl rfl)) (fun _ _ _ _ _ => pts_nil) (fun _ _ _ _ _ => (pe_ix (ix_tup : IxR _ (rIxT K)) (pv 4) pe_int (fun _ _ => rfl)))) rfl)))) 
          -- return False
          (pss_one (ps_ret pe_bl)) pss_nil)))
      -- return True
      (pss_one (ps_ret pe_bl))))
      , ?_⟩
    refine sig [some (.ref wd), some hv, none, none, none] rfl ?_
    obtain ⟨ha, hs, rfl, hH, hHL⟩ := hh.inv
    have hhn : hs.length = rs.length := by rw [hHL.len, List.length_map]
    have hn := ok.1
    refine seqCut fun N hN => ?_
    walk_at "rd"
    refine ⟨hs, .inr hH, by omega, by omega, fun D hD => ?_⟩
    rw [show ((hs.length : Nat) : Int).toNat = rs.length by omega]
    refine LcW.rng (fun i H1 => Same H H1 ∧ H1 D = some (.lst ((compl rs i).map V.int))) ⟨My.Same.new hD, upd_same⟩ ?_ ?_
    · rintro i H1 hi ⟨s1, e1⟩
      obtain ⟨rv, erv, rrv⟩ := (hHL.same s1).get (i := i) (d := (rs[i]).d) (by rw [List.getElem?_map, List.getElem?_eq_getElem hi]; rfl)
      obtain ⟨za, zs, rfl, hzT, hzL⟩ := rrv.inv
      obtain ⟨y1, zs, rfl, g1, hzL⟩ := hzL.inv_cons
      obtain ⟨y2, zs, rfl, g2, hzL⟩ := hzL.inv_cons
      obtain ⟨y3, zs, rfl, g3, hzL⟩ := hzL.inv_cons
      cases hzL.inv_nil
      cases g2.inv_bl
      rw [Int.zero_add]
      have cs := compl_snoc (k := i) (List.getElem?_eq_getElem hi)
      walk_at "rd"
      refine ⟨_, (KeepT.of s1) _ _ hH, _, atI_nat erv, _, rfl, _, hzT, _, rfl, _, rfl, ?_⟩
      cases hb : rs[i].b with
      | false =>
        refine iteF ?_
        rw [cs, hb]
        exact ⟨s1, by simpa using e1⟩
      | true =>
        refine iteT ?_
        refine ⟨_, e1, ?_, My.Same.mut s1 hD, ?_⟩
        · rw [List.length_map, sizeLine_eq]
          have : (compl rs i).length ≤ i := Nat.le_trans (List.length_filterMap_le _ _) (by rw [List.length_range]; exact Nat.le_refl _)
          omega
        · rw [upd_same, cs, hb, List.map_append]
          rfl
    · rintro H1 ⟨s1, e1⟩
      have hci : ∀ i ∈ compl rs rs.length, 0 ≤ i ∧ i < rs.length := fun i hi => by
        obtain ⟨j, r, h1, _, _, rfl⟩ := compl_mem.mp hi
        omega
      have b0 : Blw rs.length (addN [] (compl rs rs.length)) := Blw.add ⟨.nil, fun _ h => nomatch h⟩ hci
      have bn : Blw rs.length (srch (holdW ev) rs (compl rs rs.length)) := b0.turns (fun r m => (ok.2 r m).2) rs.length
      have de := deep_eq ok
      generalize ho : srch (holdW ev) rs (compl rs rs.length) = o at bn de
      subst hN
      refine seqCut fun N hN => ?_
      have last : ∀ σ H1, (∃ v, σ = [some (.ref wd), some (.ref ha), v, some (.ref D), none] ∧ Same H H1 ∧ (o.take o.length).all (fun i => ((rs[i.toNat]?).map fullR).getD true) = true) → N σ H1 := by
        rintro σ H1 ⟨v, rfl, s4, e4⟩
        subst hN
        walk_at "r"
        rw [List.take_length, ← de] at e4
        rw [e4] at k
        exact k _ s4
      walk_at "f"
      refine ⟨wd, .ref ha, .ref D, rs, compl rs rs.length, ev, rfl, hw.same s1, hh.same s1, ⟨D, rfl, .inl (.inl (.inl e1))⟩, ok, hci, fun H2 l s2 hl e2 => ⟨_, rfl, ⟨_, .inl (.inl e2)⟩, ?_⟩⟩
      rw [ho] at e2
      have s02 := s1.trans s2
      refine ForW.by walk_list (fun i σ H3 => ∃ v, σ = [some (.ref wd), some (.ref ha), v, some (.ref D), none] ∧ Same H2 H3 ∧ (o.take i).all (fun i => ((rs[i.toNat]?).map fullR).getD true) = true) ⟨_, rfl, .refl _, rfl⟩ (fun i σ H3 _ hh => .inl (.inl (hh.choose_spec.2.1 _ _ e2))) ?_ (fun σ H1 hh => last σ H1 (by obtain ⟨v, h1, h2, h3⟩ := hh; rw [List.length_map] at h3; exact ⟨v, h1, s02.trans h2, h3⟩))
      rintro i x σ H4 H3 hi ⟨v, rfl, s3, al⟩ ⟨rfl, hx⟩
      have hi2 : i < o.length := by simpa using hi
      rw [List.getElem?_map, List.getElem?_eq_getElem hi2] at hx
      cases hx
      have tk : o.take (i + 1) = o.take i ++ [o[i]] := by rw [List.take_add_one, List.getElem?_eq_getElem hi2]; rfl
      have hz := bn.2 _ (List.getElem_mem hi2)
      have mz : o[i] ∈ o := List.getElem_mem hi2
      generalize o[i] = z at tk hz mz
      have hz2 : z.toNat < rs.length := by omega
      have s03 := s02.trans s3
      obtain ⟨rv, erv, rrv⟩ := (hHL.same s03).get (i := z.toNat) (d := (rs[z.toNat]).d) (by rw [List.getElem?_map, List.getElem?_eq_getElem hz2]; rfl)
      have hat : atI hs z = some rv := by
        have := atI_nat erv
        rwa [show ((z.toNat : Nat) : Int) = z by omega] at this
      obtain ⟨za, zs, rfl, hzT, hzL⟩ := rrv.inv
      obtain ⟨y1, zs, rfl, g1, hzL⟩ := hzL.inv_cons
      obtain ⟨y2, zs, rfl, g2, hzL⟩ := hzL.inv_cons
      obtain ⟨y3, zs, rfl, g3, hzL⟩ := hzL.inv_cons
      cases hzL.inv_nil
      cases g2.inv_bl
      obtain ⟨pa, ps, rfl, hP, hQ⟩ := g3.inv
      have hlen : ps.length = rs[z.toNat].ps.length := by rw [hQ.len, List.length_map]
      have fails : fullR rs[z.toNat] = false → ∀ H5, Same H H5 → Q (.bl false) H5 := fun hf H5 s5 => by
        have e : deepB (holdW ev) rs = false := by
          rw [de]
          refine List.all_eq_false.mpr ⟨z, mz, ?_⟩
          rw [List.getElem?_eq_getElem hz2]
          simp [hf]
        rw [e] at k
        exact k _ s5
      have hx9 := (ok.2 _ (List.getElem_mem hz2)).1
      walk_at "g"
      walk_at "i"
      refine ⟨_, (KeepT.of s03) _ _ hH, _, hat, _, rfl, _, hzT, _, rfl, _, rfl, ?_⟩
      cases hb : rs[z.toNat].b with
      | false =>
        refine iteT ?_
        walk_at "r"
        exact fails (by unfold fullR; rw [hb]; rfl) _ s03
      | true =>
        refine iteF ?_
        refine ⟨_, (KeepT.of s03) _ _ hH, _, hat, _, rfl, _, hzT, _, rfl, _, rfl, ⟨_, hP⟩, fun E1 hE1 => ?_⟩
        refine LcW.by walk_tup (fun i H5 => Same H3 H5 ∧ H5 E1 = some (.lst ((rs[z.toNat].ps.take i).map fun q => optV q.2))) ⟨My.Same.new hE1, upd_same⟩ (fun i H5 _ hh => (KeepT.of hh.1) _ _ hP) ?_ ?_
        · rintro j x H6 H5 hj ⟨s5, e5⟩ ⟨rfl, hx⟩
          have hj2 : j < rs[z.toNat].ps.length := by omega
          obtain ⟨x', ex, rx⟩ := hQ.get (i := j) (d := prD rs[z.toNat].ps[j]) (by rw [List.getElem?_map, List.getElem?_eq_getElem hj2]; rfl)
          rw [hx] at ex
          cases ex
          obtain ⟨qa, qs, rfl, hq, hqL⟩ := (rx.same s5).inv
          obtain ⟨w1, qs, rfl, g1, hqL⟩ := hqL.inv_cons
          obtain ⟨w2, qs, rfl, g2, hqL⟩ := hqL.inv_cons
          cases hqL.inv_nil
          have e2 := g2.inv_optI
          subst e2
          have tk2 : rs[z.toNat].ps.take (j + 1) = rs[z.toNat].ps.take j ++ [rs[z.toNat].ps[j]] := by rw [List.take_add_one, List.getElem?_eq_getElem hj2]; rfl
          walk_at "rd"
          refine ⟨_, hq, _, rfl, _, e5, ?_, My.Same.mut s5 hE1, ?_⟩
          · rw [List.length_map, sizeLine_eq]
            have := List.length_take_le j rs[z.toNat].ps
            omega
          · rw [upd_same, tk2, List.map_append]
            rfl
        · rintro H5 ⟨s5, e5⟩
          rw [hlen, List.take_length] at e5
          have fl : ∀ ps : List (Str × Option Int), (ps.map fun q => optV q.2).all flatV = true ∧ inV .non (ps.map fun q => optV q.2) = !(ps.all fun q => q.2.isSome) := by
            intro ps
            induction ps with
            | nil => exact ⟨rfl, rfl⟩
            | cons q r ih =>
              obtain ⟨f, u⟩ := q
              cases u with
              | none => exact ⟨by rw [List.map_cons, List.all_cons, ih.1]; rfl, rfl⟩
              | some u =>
                refine ⟨by rw [List.map_cons, List.all_cons, ih.1]; rfl, ?_⟩
                show (false || inV .non (r.map fun q => optV q.2)) = _
                rw [ih.2]
                rfl
          obtain ⟨f1, f2⟩ := fl rs[z.toNat].ps
          refine ⟨_, rfl, _, .inl (.inl (.inl e5)), rfl, f1, ?_⟩
          rw [f2]
          cases ha2 : (rs[z.toNat].ps.all fun q => q.2.isSome) with
          | false =>
            refine iteT ?_
            walk_at "r"
            exact fails (by unfold fullR; rw [ha2, Bool.and_false]) _ (s03.trans s5)
          | true =>
            refine iteF ?_
            refine ⟨_, rfl, s3.trans s5, ?_⟩
            rw [tk, List.all_append, al, List.all_cons, List.getElem?_eq_getElem hz2]
            show (true && (fullR rs[z.toNat] && true)) = true
            unfold fullR
            rw [hb, ha2]
            rfl

theorem idx_first (o : List Int) {z : Int} (hz : z ∈ o) : (o.map V.int)[o.idxOf z]? = some (.int z) := by
  have hl : o.idxOf z < o.length := List.idxOf_lt_length_of_mem hz
  rw [List.getElem?_map, List.getElem?_eq_getElem hl, List.getElem_idxOf hl]
  rfl
theorem idx_ne : ∀ (o : List Int) (z : Int) (i : Nat), i < o.idxOf z → o[i]? ≠ some z
  | [], _, _, h => by simp at h
  | y :: r, z, i, h => by
    rw [List.idxOf_cons] at h
    by_cases e : y = z
    · subst e
      simp at h
    · rw [show (y == z) = false by simpa using e] at h
      cases i with
      | zero =>
        intro q
        exact e (by simpa using q)
      | succ i =>
        rw [List.getElem?_cons_succ]
        exact idx_ne r z i (by simpa using h)
theorem idx_before (o : List Int) {z : Int} : ∀ (i : Nat) (y : V), i < o.idxOf z → (o.map V.int)[i]? = some y → eqV y (.int z) = false := by
  intro i y hi hy
  rw [List.getElem?_map] at hy
  cases hx : o[i]? with
  | none => rw [hx] at hy; cases hy
  | some u =>
    rw [hx] at hy
    cases hy
    show (u == z) = false
    have := idx_ne o z i hi
    rw [hx] at this
    simpa using this
def secD (h : Str → Bool) (o : List Int) (q : Str × Option Int) : PyData := match q.2 with
  | none => .none
  | some i => .int (if h q.1 then idxI o i else i)
theorem pairD_sec (h : Str → Bool) (o : List Int) (q : Str × Option Int) : pairD h o q = .tuple [.str q.1, secD h o q] := by
  unfold pairD secD
  cases q.2 <;> rfl
def spLPict (K : PySem.W.Frag) : Sp := fun vs H Q _ => ∃ (wd : Addr) (hv iv : V) (rs : List HR) (ids : List Int) (ev : Str → Option (List Fld)), vs = [.ref wd, hv, iv] ∧ EvAt K H wd ev ∧ Rp K H hv (hpD rs) ∧ Rp K H iv (.tuple (ids.map .int)) ∧ RowsL (holdW ev) rs ∧
  (∀ i ∈ ids, 0 ≤ i ∧ i < rs.length) ∧ ids.length ≤ 1000 ∧ ∀ (H' : Hp) (v : V), Same H H' → Rp K H' v (pictD (holdW ev) rs ids) → Q v H'
theorem RpL.ints {H : Hp} : ∀ {ids : List Int} {vs : List V}, RpL K H vs (ids.map .int) → vs = ids.map V.int
  | [], _, h => h.inv_nil
  | i :: r, _, h => by
    obtain ⟨v, w, rfl, h1, h2⟩ := h.inv_cons
    rw [h1.inv_int, RpL.ints h2]
    rfl
theorem ok_law_picture (T : Txt K mg) : FnOk P w K mg base CX0 5 T.a_law_picture T.d_law_picture ["world", "heap", "indexes"] (spLPict K) :=
  T.F_law_picture.ok sc_law_picture (fun vs H Q E h => by obtain ⟨wd, hv, iv, rs, ids, ev, rfl, _⟩ := h; rfl) fun cdv A outer s H vs Q E hr h => by
    obtain ⟨wd, hv, iv, rs, ids, ev, rfl, hw, hh, hi, ok, hb, hil, k⟩ := h
    refine ⟨_,
      -- order = _law_search(world, heap, indexes)
      (pss_cons (ps_set (i := 3) sc_law_picture.nd rfl (Or.inr rfl) (pe_call (ok_law_search T) (hr.mono (by first | decide | omega)) (by rfl) T.g_law_search T.F_law_search.kp T.b_law_search .nil pass0 (pa_cons (pv 0) (pa_cons (pv 1) (pa_cons (pv 2) pa_nil)))))
      -- rows = []
      (pss_cons (ps_set (i := 4) sc_law_picture.nd rfl (Or.inl rfl) (pe_lst pa_nil))
      -- for index in order:
      (pss_cons (ps_for PassesOwn.never rfl (pi_list (pv 3)) (pg_name (i := 5) sc_law_picture.nd rfl (Or.inl rfl)) 
        -- held = _law_held(world, heap[index])
        (pss_cons (ps_set (i := 6) sc_law_picture.nd rfl (Or.inl rfl) (pe_call (ok_law_held T) (hr.mono (by first | decide | omega)) (by rfl) T.g_law_held T.F_law_held.kp T.b_law_held .nil pass0 (pa_cons (pv 0) (pa_cons (pe_ix ix_tup (pv 1) (pv 5) (fun _ _ => rfl)) pa_nil))))
        -- kinds = {}
        (pss_cons (ps_set (i := 7) sc_law_picture.nd rfl (Or.inl rfl) pe_dnewK)
        -- for field in world['every'].get(heap[index][0], []):
        (pss_cons (ps_for PassesOwn.never rfl (pi_list (pe_dget2 (hu_of hr) (pe_dget (hu_of hr) (pv 0) pe_str (fun _ _ => rfl)) (pe_ix ix_tup (pe_ix ix_tup (pv 1) (pv 5) (fun _ _ => rfl)) pe_int (fun _ _ => rfl)) (pe_lst pa_nil) ⟨by rfl, by rfl, by rfl, by rfl⟩)) (pg_name (i := 8) sc_law_picture.nd rfl (Or.inl rfl)) 
          -- kinds[field[0]] = field[2]
          (pss_one (ps_dput (hu_of hr) (pv 7) (pe_ix ix_tup (pv 8) pe_int (fun _ _ => rfl)) (pe_ix ix_tup (pv 8) pe_int (fun _ _ => rfl)) rfl)))
        -- pairs = []
        (pss_cons (ps_set (i := 9) sc_law_picture.nd rfl (Or.inl rfl) (pe_lst pa_nil))
        -- for field, value in heap[index][2]:
        (pss_cons (ps_for PassesOwn.never rfl (pi_tup (pe_ix ix_tup (pe_ix ix_tup (pv 1) (pv 5) (fun _ _ => rfl)) pe_int (fun _ _ => rfl))) (pg_tup rfl (pgs_cons (pg_name (i := 8) sc_law_picture.nd rfl (Or.inl rfl)) (pgs_cons (pg_name (i := 10) sc_law_picture.nd rfl (Or.inl rfl)) pgs_nil))) 
          -- linked = value is not None and kinds.get(field, None) is not None
          (pss_cons (ps_set (i := 11) sc_law_picture.nd rfl (Or.inl rfl) (pe_and (pe_cmpR op_notN (pv 10) pe_non (nomark _)) (pe_one (pe_cmpR op_notN (pe_dget2 (hu_of hr) (pv 7) (pv 8) pe_non ⟨by rfl, by rfl, by rfl, by rfl⟩) pe_non (nomark _)))))
          -- pairs.append((field, order.index(value) if linked else value))
          (pss_one (ps_expr (pe_bm PySem.F.plainAttrs_list PySem.F.slot_list_append PySem.F.type_list_append mt_append (pv 9) (pa_cons (pe_tup (pa_cons (pv 8) (pa_cons (pe_ifExp (pt_val (pv 11)) (pe_bm PySem.F.plainAttrs_list PySem.F.slot_list_index PySem.F.type_list_index mt_index (pv 3) (pa_cons (pv 10) pa_nil)) (pv 10)) pa_nil))) pa_nil))))))
        -- rows.append((heap[index][0], heap[index][1], tuple(pairs)))
        (pss_one (ps_expr (pe_bm PySem.F.plainAttrs_list PySem.F.slot_list_append PySem.F.type_list_append mt_append (pv 4) (pa_cons (pe_tup (pa_cons (pe_ix ix_tup (pe_ix ix_tup (pv 1) (pv 5) (fun _ _ => rfl)) pe_int (fun _ _ => rfl)) (pa_cons (pe_ix ix_tup (pe_ix ix_tup (pv 1) (pv 5) (fun _ _ => rfl)) pe_int (fun _ _ => rfl)) (pa_cons (pe_callTy call_tuple_of (by rfl) T.z_tuple (by decide +kernel) (pa_cons (pv 9) pa_nil)) pa_nil)))) pa_nil))))))))))
      -- return (tuple([order.index(index) for index in indexes]), tuple(rows))
      (pss_one (ps_ret (pe_tup (pa_cons (pe_callTy call_tuple_of (by rfl) T.z_tuple (by decide +kernel) (pa_cons (pe_lc (own := [("index", 5)]) (g := gName 5) (tt := tYes) rfl sc_law_picture.nd (pi_tup (pv 2)) (blkOk_by (N := ["world", "heap", "indexes", "order", "rows", "index", "held", "kinds", "field", "pairs", "value", "linked"]) (sc := defScope s_law_picture) (by decide +kernel)) (fun _ _ _ _ _ => pg_name (i := 5) sc_law_picture.nd rfl (Or.inl rfl)) (fun _ _ _ _ _ => pts_nil) (fun _ _ _ _ _ => ((pe_bm PySem.F.plainAttrs_list PySem.F.slot_list_index PySem.F.type_list_index (mt_index : MtR _ "list.index" (rIndex K)) (pv 3) (pa_cons (pv 5) pa_nil)) : PE _ _ (tBM K _ _ _ _)))) pa_nil)) (pa_cons (pe_callTy call_tuple_of (by rfl) T.z_tuple (by decide +kernel) (pa_cons (pv 4) pa_nil)) pa_nil))))))))
      , ?_⟩
    refine sig [some (.ref wd), some hv, some iv, none, none, none, none, none, none, none, none, none] rfl ?_
    obtain ⟨ia, is, rfl, hI, hIL⟩ := hi.inv
    cases hIL.ints
    obtain ⟨ha, hs, rfl, hH, hHL⟩ := hh.inv
    have hhn : hs.length = rs.length := by rw [hHL.len, List.length_map]
    have hn := ok.1
    have b0 : Blw rs.length (addN [] ids) := Blw.add ⟨.nil, fun _ h => nomatch h⟩ hb
    have bn : Blw rs.length (srch (holdW ev) rs ids) := b0.turns (fun r hr => (ok.2 r hr).2) rs.length
    refine seqCut fun N hN => ?_
    walk_at "rd"
    refine ⟨wd, .ref ha, .ref ia, rs, ids, ev, rfl, hw, hh, ⟨ia, rfl, .inr hI⟩, ok, hb, fun H1 oa s1 hoa e1 => ?_⟩
    generalize ho : srch (holdW ev) rs ids = o at bn e1
    subst hN
    walk_at "s"
    refine ⟨Nat.zero_le _, fun ra hra => ?_⟩
    have s3 := My.Same.new (o := .lst []) hra
    refine seqCut fun N hN => ?_
    have last : ∀ σ H4, (∃ x5 x6 x7 x8 x9 x10 x11, σ = [some (.ref wd), some (.ref ha), some (.ref ia), some (.ref oa), some (.ref ra), x5, x6, x7, x8, x9, x10, x11] ∧ Same H1 H4 ∧ ∃ vs, H4 ra = some (.lst vs) ∧ RpL K H4 vs ((o.take o.length).map (rowAt (holdW ev) o rs))) → N σ H4 := by
      rintro σ H4 ⟨x5, x6, x7, x8, x9, x10, x11, rfl, s4, vs, hvs, hvr⟩
      rw [List.take_length] at hvr
      subst hN
      walk_at "r"
      have sA := s1.trans s4
      refine ⟨⟨_, (KeepT.of sA) _ _ hI⟩, fun E1 hE1 => ?_⟩
      refine LcW.by walk_tup (fun i H5 => Same H4 H5 ∧ H5 E1 = some (.lst ((ids.take i).map fun j => .int (idxI o j)))) ⟨My.Same.new hE1, upd_same⟩ (fun i H5 _ hh => (KeepT.of (sA.trans hh.1)) _ _ hI) ?_ ?_
      · rintro i x H6 H5 hi ⟨s5, e5⟩ ⟨rfl, hx⟩
        have hi2 : i < ids.length := by simpa using hi
        rw [List.getElem?_map, List.getElem?_eq_getElem hi2] at hx
        cases hx
        have tk : ids.take (i + 1) = ids.take i ++ [ids[i]] := by rw [List.take_add_one, List.getElem?_eq_getElem hi2]; rfl
        have hm : ids[i] ∈ o := by
          rw [← ho]
          exact srch_ids (List.getElem_mem hi2)
        walk_at "rd"
        have e1' := s5 _ _ (s4 _ _ e1)
        refine ⟨tyL e1', _, .inl (.inl e1'), rfl, flat_ints o, _, _, idx_first o hm, by show (_ == _) = true; simp, idx_before o, _, e5, ?_, My.Same.mut s5 hE1, ?_⟩
        · rw [List.length_map, sizeLine_eq]
          have := List.length_take_le i ids
          omega
        · rw [upd_same, tk, List.map_append]
          rfl
      · rintro H5 ⟨s5, e5⟩
        rw [List.length_map, List.take_length] at e5
        refine ⟨_, rfl, _, .inl ⟨.inl (.inl e5), fun l hl => ⟨_, .inl ⟨.inl (.inl (My.Same.new hl _ _ (s5 _ _ hvs))), fun l2 hl2 => ⟨by show 2 ≤ sizeLine; decide, fun q hq => k _ _ ?_ ?_⟩⟩⟩⟩⟩
        · exact (((sA.trans s5).trans (My.Same.new hl)).trans (My.Same.new hl2)).trans (My.Same.new hq)
        · have sq := My.Same.new (o := HO.tup [V.ref l, V.ref l2]) hq
          have sl := My.Same.new (o := HO.tup vs) hl2
          unfold pictD pictO
          rw [ho]
          refine Rp.tup (SqT.of upd_same) (.cons ?_ (.cons ?_ .nil))
          · exact Rp.tup (SqT.of (sq _ _ (sl _ _ upd_same))) (RpL.map fun j _ => .int _)
          · exact Rp.tup (SqT.of (sq _ _ upd_same)) (hvr.same (((s5.trans (My.Same.new hl)).trans sl).trans sq))
    walk_at "f"
    refine ⟨⟨_, .inl (.inl (s3 _ _ e1))⟩, ForW.by walk_list (fun i σ H4 => ∃ x5 x6 x7 x8 x9 x10 x11, σ = [some (.ref wd), some (.ref ha), some (.ref ia), some (.ref oa), some (.ref ra), x5, x6, x7, x8, x9, x10, x11] ∧ Same H1 H4 ∧ ∃ vs, H4 ra = some (.lst vs) ∧ RpL K H4 vs ((o.take i).map (rowAt (holdW ev) o rs)))
      ⟨_, _, _, _, _, _, _, rfl, s3, _, upd_same, .nil⟩ (fun i σ H4 _ hh => by obtain ⟨x5, x6, x7, x8, x9, x10, x11, rfl, s4, _⟩ := hh; exact .inl (.inl (s4 _ _ e1))) ?_ (fun σ H4 hh => last σ H4 (by rw [List.length_map] at hh; exact hh))⟩
    rintro i x σ H3 H4 hi ⟨x5, x6, x7, x8, x9, x10, x11, rfl, s4, vs, hvs, hvr⟩ ⟨rfl, hx⟩
    have hi2 : i < o.length := by simpa using hi
    rw [List.getElem?_map, List.getElem?_eq_getElem hi2] at hx
    cases hx
    have tk : o.take (i + 1) = o.take i ++ [o[i]] := by rw [List.take_add_one, List.getElem?_eq_getElem hi2]; rfl
    have hz := bn.2 _ (List.getElem_mem hi2)
    have hzo : o[i] ∈ o := List.getElem_mem hi2
    generalize o[i] = z at tk hz hzo
    have hz2 : z.toNat < rs.length := by omega
    have okz := ok.2 _ (List.getElem_mem hz2)
    have clo : ∀ u ∈ heldR (holdW ev) rs[z.toNat], u ∈ o := by
      rw [← ho]
      exact srch_closed (by rw [ho]; exact bn.len) (by rw [ho]; exact hzo) (List.getElem?_eq_getElem hz2)
    have s04 := s1.trans s4
    obtain ⟨rv, erv, rrv⟩ := (hHL.same s04).get (i := z.toNat) (d := (rs[z.toNat]).d) (by rw [List.getElem?_map, List.getElem?_eq_getElem hz2]; rfl)
    have hat : atI hs z = some rv := by
      have := atI_nat erv
      rwa [show ((z.toNat : Nat) : Int) = z by omega] at this
    have erow : rowAt (holdW ev) o rs z = rowD (holdW ev) o rs[z.toNat] := by
      unfold rowAt
      rw [List.getElem?_eq_getElem hz2]
      rfl
    rw [tk, List.map_append, List.map_cons, List.map_nil, erow]
    generalize rs[z.toNat] = r at okz rrv clo
    walk_at "g"
    refine seqCut fun N2 hN2 => ?_
    walk_at "rd"
    refine ⟨_, (KeepT.of s04) _ _ hH, _, hat, wd, rv, r, ev, rfl, hw.same s04, rrv, okz.1, fun H5 l5 s5 hl5 e5 => ?_⟩
    have rrv := rrv.same s5
    obtain ⟨a, xs, rfl, hT, hL⟩ := rrv.inv
    obtain ⟨v1, xs, rfl, h1, hL⟩ := hL.inv_cons
    obtain ⟨v2, xs, rfl, h2, hL⟩ := hL.inv_cons
    obtain ⟨v3, xs, rfl, h3, hL⟩ := hL.inv_cons
    cases hL.inv_nil
    cases h1.inv_str
    obtain ⟨pa, ps, rfl, hP, hQ⟩ := h3.inv
    have hlen : ps.length = r.ps.length := by rw [hQ.len, List.length_map]
    subst hN2
    walk_at "s"
    intro ka hka
    have s6 := My.Same.new (o := .dK []) hka
    have s46 := s5.trans s6
    have rak : ra ≠ ka := ne_of_none (s5 _ _ hvs) hka
    refine seqCut fun N2 hN2 => ?_
    -- the fields of the row's class: at la
    have key : ∀ (Bk : St → Hp → Prop) (H2 : Hp) (la : Addr) (fs : List Fld) (fvs : List V), Same (upd H5 ka (.dK [])) H2 → H2 la = some (.lst fvs) → RpL K H2 fvs (fs.map Fld.d) → fs.length ≤ 1000 → holdW ev r.c = (fun f => (lastC fs f).isSome) →
        ForW (Itl K la) (gName 8) (sDPut (tVar 7) (tOp (rIxT K) (tVar 8) (tC (.int 0))) (tOp (rIxT K) (tVar 8) (tC (.int 2)))) { nx := N2, rt := Q, bk := Bk, ct := fun σ H4_1 => ∃ x5 x6 x7 x8 x9 x10 x11, σ = [some (.ref wd), some (.ref ha), some (.ref ia), some (.ref oa), some (.ref ra), x5, x6, x7, x8, x9, x10, x11] ∧ Same H1 H4_1 ∧ ∃ vs, H4_1 ra = some (.lst vs) ∧ RpL K H4_1 vs ((o.take i).map (rowAt (holdW ev) o rs) ++ [rowD (holdW ev) o r]) } [some (.ref wd), some (.ref ha), some (.ref ia), some (.ref oa), some (.ref ra), some (.int z), some (.ref l5), some (.ref ka), x8, x9, x10, x11] H2 := by
      intro Bk H2 la fs fvs s2 hla hfl hfn hho
      have hne : la ≠ ka := fun e => by
        rw [e, s2 _ _ upd_same] at hla
        cases hla
      have hfn2 : fvs.length = fs.length := by rw [hfl.len, List.length_map]
      refine ForW.by walk_list (fun i σ H3 => ∃ u3, σ = [some (.ref wd), some (.ref ha), some (.ref ia), some (.ref oa), some (.ref ra), some (.int z), some (.ref l5), some (.ref ka), u3, x9, x10, x11] ∧ Same H5 H3 ∧ H3 la = some (.lst fvs) ∧ RpL K H3 fvs (fs.map Fld.d) ∧ KindAt H3 ka (fs.take i)) ⟨_, rfl, s6.trans s2, hla, hfl, [], s2 _ _ upd_same, Nat.zero_le _, fun f => rfl⟩ (fun i σ H3 _ hh => .inl (.inl hh.choose_spec.2.2.1)) ?_ ?_
      · rintro i x σ H4 H3 hi ⟨u3, rfl, s3, hl3, hf3, kvs3, hk3, hkl, hkv⟩ ⟨rfl, hx⟩
        have hi2 : i < fs.length := by omega
        obtain ⟨x', ex, rx⟩ := hf3.get (i := i) (d := fs[i].d) (by rw [List.getElem?_map, List.getElem?_eq_getElem hi2]; rfl)
        rw [hx] at ex
        cases ex
        obtain ⟨qa, qs, rfl, hq, hqL⟩ := rx.inv
        obtain ⟨w1, qs, rfl, g1, hqL⟩ := hqL.inv_cons
        obtain ⟨w2, qs, rfl, g2, hqL⟩ := hqL.inv_cons
        obtain ⟨w3, qs, rfl, g3, hqL⟩ := hqL.inv_cons
        cases hqL.inv_nil
        cases g1.inv_str
        have e3 := g3.inv_optS
        subst e3
        have tk : fs.take (i + 1) = fs.take i ++ [fs[i]] := by rw [List.take_add_one, List.getElem?_eq_getElem hi2]; rfl
        walk_at "g"
        walk_at "rd"
        refine ⟨_, hq, _, rfl, _, hq, _, rfl, _, DPut.k (k := Sum.inr fs[i].f) hk3 ?_, ?_⟩
        · have := List.length_take_le i fs
          rw [sizeLine_eq]
          omega
        · rw [tk]
          exact ⟨My.Same.mut s3 hka, by rw [upd_ne hne]; exact hl3, hf3.keep (.upd (.dK hk3)), KindAt.put fs[i] hk3 hkl hkv⟩
      · rintro σ H3 ⟨u3, rfl, s3, hl3, hf3, hk3⟩
        rw [hfn2, List.take_length] at hk3
        subst hN2
        walk_at "s"
        refine ⟨Nat.zero_le _, fun da hda => ?_⟩
        have s8 := My.Same.new (o := .lst []) hda
        refine seqCut fun N3 hN3 => ?_
        have s58 := s3.trans s8
        have s48 := s5.trans s58
        have fin : ∀ σ H6, (∃ y8 y10 y11, σ = [some (.ref wd), some (.ref ha), some (.ref ia), some (.ref oa), some (.ref ra), some (.int z), some (.ref l5), some (.ref ka), y8, some (.ref da), y10, y11] ∧ Same H3 H6 ∧ ∃ ws, H6 da = some (.lst ws) ∧ RpL K H6 ws ((r.ps.take r.ps.length).map (pairD (holdW ev r.c) o))) → N3 σ H6 := by
          rintro σ H6 ⟨y8, y10, y11, rfl, s9, ws, hws, hwr⟩
          rw [List.take_length] at hwr
          subst hN3
          walk_at "l"
          have s49 := (s5.trans s3).trans s9
          have hHm := (KeepT.of (s04.trans s49)) _ _ hH
          have hTm := (KeepT.of (s3.trans s9)) _ _ hT
          refine ⟨tyL (s49 _ _ hvs), _, hHm, _, hat, _, rfl, _, hTm, _, rfl, _, hHm, _, hat, _, rfl, _, hTm, _, rfl, _, .inl ⟨.inl (.inl hws), fun l hl => ⟨by show 3 ≤ sizeLine; decide, fun q hq => ⟨vs, ?_, ?_, ?_⟩⟩⟩⟩
          · rw [upd_ne (ne_of_none (My.Same.new hl _ _ (s49 _ _ hvs)) hq), upd_ne (ne_of_none (s49 _ _ hvs) hl)]
            exact s49 _ _ hvs
          · have := hvr.len
            rw [this, List.length_map, sizeLine_eq]
            have := List.length_take_le i o
            have := bn.len
            omega
          · have sq : Same H4 (upd (upd H6 l (.tup ws)) q (.tup [.str r.c, v2, .ref l])) := (s49.trans (My.Same.new hl)).trans (My.Same.new hq)
            have hraN : NoTup (upd (upd H6 l (.tup ws)) q (.tup [.str r.c, v2, .ref l])) ra := .lst (sq _ _ hvs)
            refine ⟨_, _, _, _, _, _, _, rfl, My.Same.mut (s4.trans sq) hra, _, upd_same, ?_⟩
            refine RpL.keep (RpL.snoc (hvr.same sq) ?_) (.upd hraN)
            refine Rp.tup (SqT.of upd_same) (.cons (.str _) (.cons ((h2.same (s3.trans s9)).same ((My.Same.new hl).trans (My.Same.new hq))) (.cons ?_ .nil)))
            refine Rp.tup (SqT.of (My.Same.new hq _ _ upd_same)) (hwr.same ((My.Same.new hl).trans (My.Same.new hq)))
        walk_at "f"
        have hPm := (KeepT.of s58) _ _ hP
        refine ⟨_, (KeepT.of (s04.trans s48)) _ _ hH, _, hat, _, rfl, _, (KeepT.of s58) _ _ hT, _, rfl, _, rfl, ⟨_, hPm⟩, ?_⟩
        refine ForW.by walk_tup (fun j σ H6 => ∃ y8 y10 y11, σ = [some (.ref wd), some (.ref ha), some (.ref ia), some (.ref oa), some (.ref ra), some (.int z), some (.ref l5), some (.ref ka), y8, some (.ref da), y10, y11] ∧ Same H3 H6 ∧ ∃ ws, H6 da = some (.lst ws) ∧ RpL K H6 ws ((r.ps.take j).map (pairD (holdW ev r.c) o)))
          ⟨_, _, _, rfl, s8, _, upd_same, .nil⟩ (fun j σ H6 _ hh => by obtain ⟨y8, y10, y11, rfl, s9, _⟩ := hh; exact (KeepT.of (s3.trans s9)) _ _ hP) ?_ (fun σ H6 hh => fin σ H6 (by rw [hlen] at hh; exact hh))
        rintro j x σ H8 H6 hj ⟨y8, y10, y11, rfl, s9, ws, hws, hwr⟩ ⟨rfl, hx⟩
        have hj2 : j < r.ps.length := by omega
        obtain ⟨x', ex, rx⟩ := hQ.get (i := j) (d := prD r.ps[j]) (by rw [List.getElem?_map, List.getElem?_eq_getElem hj2]; rfl)
        rw [hx] at ex
        cases ex
        obtain ⟨qa, qs, rfl, hq, hqL⟩ := (rx.same (s3.trans s9)).inv
        obtain ⟨w1, qs, rfl, g1, hqL⟩ := hqL.inv_cons
        obtain ⟨w2, qs, rfl, g2, hqL⟩ := hqL.inv_cons
        cases hqL.inv_nil
        cases g1.inv_str
        have e2 := g2.inv_optI
        subst e2
        have tk2 : r.ps.take (j + 1) = r.ps.take j ++ [r.ps[j]] := by rw [List.take_add_one, List.getElem?_eq_getElem hj2]; rfl
        refine ⟨_, _, rfl, hq, rfl, ?_⟩
        walk_at "rd"
        rw [tk2, List.map_append, List.map_cons, List.map_nil]
        walk_at "s"
        -- what is left: the new pair
        have pf : ∀ (b : Bool) (D2 : Ends), (b = true → ∃ u, r.ps[j].2 = some u ∧ holdW ev r.c r.ps[j].1 = true) → (b = false → pairD (holdW ev r.c) o r.ps[j] = prD r.ps[j]) →
            (∀ H7 ws, Same H3 H7 → H7 da = some (.lst ws) → RpL K H7 ws (List.map (pairD (holdW ev r.c) o) (List.take j r.ps) ++ [pairD (holdW ev r.c) o r.ps[j]]) →
              D2.nx [some (.ref wd), some (.ref ha), some (.ref ia), some (.ref oa), some (.ref ra), some (.int z), some (.ref l5), some (.ref ka), some (.str r.ps[j].1), some (.ref da), some (optV r.ps[j].2), some (.bl b)] H7) →
            tDrop (tBM K "list" rAppend (tVar 9) (tCons (tTup (tCons (tVar 8) (tCons (tIf (tB (tVar 11)) (tBM K "list" (rIndex K) (tVar 3) (tCons (tVar 10) tNil)) (tVar 10)) tNil))) tNil)) D2
              [some (.ref wd), some (.ref ha), some (.ref ia), some (.ref oa), some (.ref ra), some (.int z), some (.ref l5), some (.ref ka), some (.str r.ps[j].1), some (.ref da), some (optV r.ps[j].2), some (.bl b)] H6 := by
          intro b D2 hb1 hb2 kk
          have done : ∀ (v : V), Rp K H6 v (secD (holdW ev r.c) o r.ps[j]) → ∀ q, H6 q = none →
              D2.nx [some (.ref wd), some (.ref ha), some (.ref ia), some (.ref oa), some (.ref ra), some (.int z), some (.ref l5), some (.ref ka), some (.str r.ps[j].1), some (.ref da), some (optV r.ps[j].2), some (.bl b)] (upd (upd H6 q (.tup [.str r.ps[j].1, v])) da (.lst (ws ++ [.ref q]))) := by
            intro v hv q hq
            have sq : Same H6 (upd H6 q (.tup [.str r.ps[j].1, v])) := My.Same.new hq
            refine kk _ _ (My.Same.mut (s9.trans sq) hda) upd_same (RpL.keep (RpL.snoc (hwr.same sq) ?_) (.upd (.lst (sq _ _ hws))))
            rw [pairD_sec]
            exact Rp.tup (SqT.of upd_same) (.cons (.str _) (.cons (hv.same (My.Same.new hq)) .nil))
          have lw : ws.length < sizeLine := by
            have := hwr.len
            rw [this, List.length_map, sizeLine_eq]
            have := List.length_take_le j r.ps
            have := okz.1
            omega
          walk_at "l"
          refine ⟨tyL hws, ?_⟩
          cases b with
          | false =>
            refine iteF ?_
            refine ⟨by show 2 ≤ sizeLine; decide, fun q hq => ⟨ws, by rw [upd_ne (ne_of_none hws hq)]; exact hws, lw, done _ ?_ q hq⟩⟩
            have e := hb2 rfl
            rw [pairD_sec] at e
            unfold prD at e
            injection e with e
            injection e with _ e
            injection e with e _
            rw [e]
            exact Rp.optI _
          | true =>
            refine iteT ?_
            obtain ⟨u, hu, hh1⟩ := hb1 rfl
            have hm : u ∈ o := clo u (by
              unfold heldR
              refine List.mem_filterMap.mpr ⟨_, List.getElem_mem hj2, ?_⟩
              rw [heldP, hu]
              simp [hh1])
            have e1' := ((s4.trans s5).trans s3).trans s9 _ _ e1
            have e3 : secD (holdW ev r.c) o r.ps[j] = .int (idxI o u) := by
              unfold secD
              rw [hu]
              dsimp only
              rw [if_pos hh1]
            rw [e3] at done
            rw [hu] at done kk ⊢
            refine ⟨tyL e1', _, .inl (.inl e1'), rfl, flat_ints o, _, _, idx_first o hm, by show (_ == _) = true; simp, idx_before o, by show 2 ≤ sizeLine; decide, fun q hq => ⟨ws, by rw [upd_ne (ne_of_none hws hq)]; exact hws, lw, done _ (.int _) q hq⟩⟩
        cases hw2 : r.ps[j].2 with
        | none =>
          refine iteF ?_
          rw [← hw2]
          refine pf false _ (fun e => nomatch e) (fun _ => ?_) fun H7 ws2 s7 e7 r7 => ⟨_, _, _, rfl, s7, ws2, e7, r7⟩
          rw [pairD_sec]
          unfold secD prD
          rw [hw2]
          rfl
        | some u =>
          refine iteT ?_
          obtain ⟨kvs3, e3, _, hkv⟩ := hk3
          refine ⟨.inl ⟨_, .inl (s9 _ _ e3)⟩, _, DGet.k (k := Sum.inr r.ps[j].1) (s9 _ _ e3), ?_⟩
          rw [hkv]
          rw [← hw2]
          have hb3 : (!decide (optSV (lastC fs r.ps[j].1) = V.non)) = holdW ev r.c r.ps[j].1 := by
            rw [hho]
            dsimp only
            cases lastC fs r.ps[j].1 <;> rfl
          rw [hb3]
          refine pf _ _ (fun e => ⟨u, hw2, e⟩) (fun e => ?_) fun H7 ws2 s7 e7 r7 => ⟨_, _, _, rfl, s7, ws2, e7, r7⟩
          rw [pairD_sec]
          unfold secD prD
          rw [hw2]
          simp [e, optI]
    walk_at "f"
    obtain ⟨wk, ea, kvs, e1, e2, e3, e4⟩ := (hw.same (s04.trans s46)).ex
    have hHm := (KeepT.of (s04.trans s46)) _ _ hH
    refine ⟨_, by rw [← e2]; exact DGet.k (k := Sum.inr "every") e1, _, rfl, .inl ⟨_, .inl e3⟩, _, hHm, _, hat, _, rfl, _, (KeepT.of s6) _ _ hT, _, rfl, Nat.zero_le _, fun q hq => ?_⟩
    have sq := My.Same.new (o := .lst []) hq
    rcases e4 r.c with ⟨g1, g2⟩ | ⟨la, fs, fvs, g1, g2, g3, g4, g5⟩
    · refine ⟨none, by rw [← g1]; exact DGet.k (k := Sum.inr r.c) (sq _ _ e3), q, rfl, ⟨_, .inl (.inl upd_same)⟩, ?_⟩
      exact key _ _ q [] [] sq upd_same .nil (Nat.zero_le _) (by funext f; unfold holdW; rw [g2]; rfl)
    · refine ⟨some (.ref la), by rw [← g1]; exact DGet.k (k := Sum.inr r.c) (sq _ _ e3), la, rfl, ⟨_, .inl (.inl (sq _ _ g3))⟩, ?_⟩
      exact key _ _ la fs fvs sq (sq _ _ g3) (g4.same sq) g5 (by funext f; unfold holdW; rw [g2])

/-! ### program.py -/
/-- a statement that holds no block and asks no flag -/
def plainS (s : Str) : Prop := s ≠ "if" ∧ s ≠ "loop" ∧ s ≠ "flag"
def stD (s : Str) (ds : List PyData) : PyData := .tuple (.str s :: ds)
def spBlocks (K : PySem.W.Frag) : Sp := fun vs H Q _ => ∃ (v : V) (s : Str) (ds : List PyData), vs = [v] ∧ Rp K H v (stD s ds) ∧ plainS s ∧ ∀ (e : Addr) (H' : Hp), Same H H' → SqT K H' e [] → Q (.ref e) H'
theorem ok_blocks_in (T : Txt K mg) : FnOk P w K mg base CX0 1 T.a_blocks_in T.d_blocks_in ["statement"] (spBlocks K) :=
  T.F_blocks_in.ok sc_blocks_in (fun vs H Q E h => by obtain ⟨v, s, ds, rfl, _⟩ := h; rfl) fun cdv A outer s H vs Q E hr h => by
    obtain ⟨v, s, ds, rfl, hv, hp, k⟩ := h
    refine ⟨_,
      -- if statement[0] == 'if':
      (pss_cons (ps_if (pt_cmpR op_eq (pe_ix ix_tup (pv 0) pe_int (fun _ _ => rfl)) pe_str (nomark _)) 
        -- return (statement[2], statement[3])
        (pss_one (ps_ret (pe_tup (pa_cons (pe_ix ix_tup (pv 0) pe_int (fun _ _ => rfl)) (pa_cons (pe_ix ix_tup (pv 0) pe_int (fun _ _ => rfl)) pa_nil))))) pss_nil)
      -- if statement[0] == 'loop':
      (pss_cons (ps_if (pt_cmpR op_eq (pe_ix ix_tup (pv 0) pe_int (fun _ _ => rfl)) pe_str (nomark _)) 
        -- return (statement[2],)
        (pss_one (ps_ret (pe_tup (pa_cons (pe_ix ix_tup (pv 0) pe_int (fun _ _ => rfl)) pa_nil)))) pss_nil)
      -- return ()
      (pss_one (ps_ret (pe_tup pa_nil)))))
      , ?_⟩
    refine sig [some v] rfl ?_
    obtain ⟨a, xs, rfl, hT, hL⟩ := hv.inv
    obtain ⟨v1, xs, rfl, h1, hL⟩ := hL.inv_cons
    cases h1.inv_str
    have h0 : atI (V.str s :: xs) 0 = some (.str s) := atI_nat (xs := V.str s :: xs) (j := 0) rfl
    walk_at "j"
    refine ⟨_, hT, _, h0, rfl, ?_⟩
    have n1 : decide (V.str s = V.str "if") = false := decide_eq_false fun e => hp.1 (by injection e)
    have n2 : decide (V.str s = V.str "loop") = false := decide_eq_false fun e => hp.2.1 (by injection e)
    rw [n1]
    refine iteF ?_
    walk_at "j"
    refine ⟨_, hT, _, h0, rfl, ?_⟩
    rw [n2]
    refine iteF ?_
    walk_at "r"
    exact ⟨Nat.zero_le _, fun q hq => k q _ (My.Same.new hq) (SqT.of upd_same)⟩
/-- the statements of a flat block, each behind its path -/
def spPlaces (K : PySem.W.Frag) : Sp := fun vs H Q _ => ∃ (v : V) (e : Addr) (ss : List (Str × List PyData)), vs = [v, .ref e] ∧ SqT K H e [] ∧ Rp K H v (.tuple (ss.map fun s => stD s.1 s.2)) ∧ (∀ s ∈ ss, plainS s.1) ∧ ss.length ≤ 1000 ∧
  ∀ (H' : Hp) (l : Addr) (ps : List V), Same H H' → SqT K H' l ps → ps.length = ss.length → (∀ (j : Nat) (p : V), ps[j]? = some p → ∃ (b pa : Addr) (s : Str × List PyData) (sv : V), p = .ref b ∧ SqT K H' b [.ref pa, sv] ∧ ss[j]? = some s ∧ Rp K H' sv (stD s.1 s.2)) → Q (.ref l) H'
theorem ok_places (T : Txt K mg) : FnOk P w K mg base CX0 2 T.a_places T.d_places ["block", "above"] (spPlaces K) := by
  refine okD T.F_places sc_places (fun vs H Q E h => by obtain ⟨v, e, ss, rfl, _⟩ := h; rfl) fun cdv A outer s H vs Q E hr h => ?_
  obtain ⟨v, e, ss, rfl, he, hv, hp, hn, k⟩ := h
  have ok_places : Txt K mg → FnOk P w K mg base CX0 1 T.a_places T.d_places ["block", "above"] (fun _ _ _ _ => False) := fun _ => okNo fun _ _ _ _ h => h
  refine ⟨_,
    -- found = []
    (pss_cons (ps_set (i := 2) sc_places.nd rfl (Or.inl rfl) (pe_lst pa_nil))
    -- for at, statement in enumerate(block):
    (pss_cons (ps_for PassesOwn.never rfl (My.pi_enumT (by rfl) T.z_enumerate (pa_cons (pv 0) pa_nil)) (pg_tup rfl (pgs_cons (pg_name (i := 3) sc_places.nd rfl (Or.inl rfl)) (pgs_cons (pg_name (i := 4) sc_places.nd rfl (Or.inl rfl)) pgs_nil))) 
      -- path = above + (at,)
      (pss_cons (ps_set (i := 5) sc_places.nd rfl (Or.inl rfl) (pe_op op_catA (pv 1) (pe_tup (pa_cons (pv 3) pa_nil))))
      -- found.append((path, statement))
      (pss_cons (ps_expr (pe_bm PySem.F.plainAttrs_list PySem.F.slot_list_append PySem.F.type_list_append mt_append (pv 2) (pa_cons (pe_tup (pa_cons (pv 5) (pa_cons (pv 4) pa_nil))) pa_nil)))
      -- for turn, inner in enumerate(blocks_in(statement)):
      (pss_one (ps_for PassesOwn.never rfl (My.pi_enumT (by rfl) T.z_enumerate (pa_cons (pe_call (ok_blocks_in T) (hr.mono (by first | decide | omega)) (by rfl) T.g_blocks_in T.F_blocks_in.kp T.b_blocks_in .nil pass0 (pa_cons (pv 4) pa_nil)) pa_nil)) (pg_tup rfl (pgs_cons (pg_name (i := 6) sc_places.nd rfl (Or.inl rfl)) (pgs_cons (pg_name (i := 7) sc_places.nd rfl (Or.inl rfl)) pgs_nil))) 
        -- found.extend(places(inner, path + (turn,)))
        (pss_one (ps_expr (pe_bm PySem.F.plainAttrs_list PySem.F.slot_list_extend PySem.F.type_list_extend My.mt_extendT (pv 2) (pa_cons (pe_call (ok_places T) (hr.mono (by first | decide | omega)) (by rfl) T.g_places T.F_places.kp T.b_places .nil pass0 (pa_cons (pv 7) (pa_cons (pe_op op_catA (pv 5) (pe_tup (pa_cons (pv 6) pa_nil))) pa_nil))) pa_nil)))))))))
    -- return tuple(found)
    (pss_one (ps_ret (pe_callTy call_tuple_of (by rfl) T.z_tuple (by decide +kernel) (pa_cons (pv 2) pa_nil))))))
    , ?_⟩
  refine sig [some v, some (.ref e), none, none, none, none, none, none] rfl ?_
  obtain ⟨a, xs, rfl, hT, hL⟩ := hv.inv
  have hlen : xs.length = ss.length := by rw [hL.len, List.length_map]
  walk_at "s"
  refine ⟨Nat.zero_le _, fun fa hfa => ?_⟩
  have s1 := My.Same.new (o := .lst []) hfa
  refine seqCut fun N hN => ?_
  have last : ∀ σ H4, (∃ y3 y4 y5 y6 y7, σ = [some (.ref a), some (.ref e), some (.ref fa), y3, y4, y5, y6, y7] ∧ Same H H4 ∧ ∃ ps, H4 fa = some (.lst ps) ∧ ps.length = ss.length ∧ ∀ (j : Nat) (p : V), ps[j]? = some p → ∃ (b pa : Addr) (s : Str × List PyData) (sv : V), p = .ref b ∧ SqT K H4 b [.ref pa, sv] ∧ ss[j]? = some s ∧ Rp K H4 sv (stD s.1 s.2)) → N σ H4 := by
    rintro σ H4 ⟨y3, y4, y5, y6, y7, rfl, s4, ps, hps, hpl, hpp⟩
    subst hN
    walk_at "r"
    refine ⟨_, .inl ⟨.inl (.inl hps), fun l hl => k _ l ps (s4.trans (My.Same.new hl)) (SqT.of upd_same) hpl fun j p hj => ?_⟩⟩
    obtain ⟨b, pa, s, sv, rfl, h1, h2, h3⟩ := hpp j p hj
    exact ⟨b, pa, s, sv, rfl, (KeepT.of (My.Same.new hl)) _ _ h1, h2, h3.same (My.Same.new hl)⟩
  walk_at "f"
  refine ⟨_, (KeepT.of s1) _ _ hT, ?_⟩
  refine ForW.by walk_enumT (fun i σ H4 => ∃ y3 y4 y5 y6 y7, σ = [some (.ref a), some (.ref e), some (.ref fa), y3, y4, y5, y6, y7] ∧ Same H H4 ∧ ∃ ps, H4 fa = some (.lst ps) ∧ ps.length = i ∧ ∀ (j : Nat) (p : V), ps[j]? = some p → ∃ (b pa : Addr) (s : Str × List PyData) (sv : V), p = .ref b ∧ SqT K H4 b [.ref pa, sv] ∧ ss[j]? = some s ∧ Rp K H4 sv (stD s.1 s.2))
    ⟨_, _, _, _, _, rfl, s1, [], upd_same, rfl, fun j p h => by simp at h⟩ (fun i σ H4 _ hh => by obtain ⟨y3, y4, y5, y6, y7, rfl, s4, _⟩ := hh; exact (KeepT.of s4) _ _ hT) ?_ (fun σ H4 hh => last σ H4 (by rw [hlen] at hh; exact hh))
  rintro i x σ H3 H4 hi ⟨y3, y4, y5, y6, y7, rfl, s4, ps, hps, hpl, hpp⟩ ⟨T1, z1, z2, rfl, hT1, rfl, hz1, hz2⟩
  cases hz1
  have hi2 : i < ss.length := by omega
  obtain ⟨x', ex, rx⟩ := hL.get (i := i) (d := stD ss[i].1 ss[i].2) (by rw [List.getElem?_map, List.getElem?_eq_getElem hi2]; rfl)
  dsimp only at hz2
  rw [hz2] at ex
  cases ex
  have sT := My.Same.new (o := .tup [.int (i : Nat), z2]) hT1
  have s5 := s4.trans sT
  refine ⟨_, _, rfl, SqT.of upd_same, rfl, ?_⟩
  walk_at "rd"
  walk_at "s"
  refine ⟨by show 1 ≤ sizeLine; decide, fun q hq => ?_⟩
  have sq := My.Same.new (o := .tup [.int (i : Nat)]) hq
  have s6 := s5.trans sq
  refine ⟨[], (KeepT.of s6) _ _ he, _, SqT.of upd_same, by show 0 + 1 ≤ sizeLine; decide, fun _ => ?_, fun h => absurd rfl h, fun h => absurd rfl h⟩
  generalize hH6 : upd (upd H3 T1 (.tup [.int (i : Nat), z2])) q (.tup [.int (i : Nat)]) = H6 at s6
  have hq6 : SqT K H6 q [.int (i : Nat)] := by
    rw [← hH6]
    exact SqT.of upd_same
  have s36 : Same H3 H6 := by
    rw [← hH6]
    exact sT.trans sq
  walk_at "s"
  refine ⟨tyL (s36 _ _ hps), by show 2 ≤ sizeLine; decide, fun b hb => ⟨ps, by rw [upd_ne (ne_of_none (s36 _ _ hps) hb)]; exact s36 _ _ hps, by rw [sizeLine_eq]; omega, ?_⟩⟩
  have s7 : Same H3 (upd H6 b (.tup [.ref q, z2])) := s36.trans (My.Same.new hb)
  have fat : NoTup (upd H6 b (.tup [.ref q, z2])) fa := .lst (s7 _ _ hps)
  have inv7 : ∀ (j : Nat) (p : V), (ps ++ [.ref b])[j]? = some p → ∃ (b2 pa : Addr) (s : Str × List PyData) (sv : V), p = .ref b2 ∧ SqT K (upd (upd H6 b (.tup [.ref q, z2])) fa (.lst (ps ++ [.ref b]))) b2 [.ref pa, sv] ∧ ss[j]? = some s ∧ Rp K (upd (upd H6 b (.tup [.ref q, z2])) fa (.lst (ps ++ [.ref b]))) sv (stD s.1 s.2) := by
    intro j p hj
    by_cases hjl : j < ps.length
    · rw [List.getElem?_append_left hjl] at hj
      obtain ⟨b2, pa, s, sv, rfl, h1, h2, h3⟩ := hpp j p hj
      exact ⟨b2, pa, s, sv, rfl, (KeepT.upd fat) _ _ ((KeepT.of s7) _ _ h1), h2, (h3.same s7).keep (.upd fat)⟩
    · have hje : j = ps.length := by
        have := (List.getElem?_eq_some_iff.mp hj).1
        rw [List.length_append] at this
        simp at this
        omega
      subst hje
      rw [List.getElem?_append_right (Nat.le_refl _), Nat.sub_self] at hj
      cases hj
      refine ⟨b, q, ss[i], z2, rfl, (KeepT.upd fat) _ _ (SqT.of upd_same), by rw [hpl, List.getElem?_eq_getElem hi2], ?_⟩
      exact (rx.same (s4.trans s7)).keep (.upd fat)
  refine lastCut fun N hN => ?_
  walk_at "f"
  refine ⟨z2, ss[i].1, ss[i].2, rfl, (rx.same (s4.trans s7)).keep (.upd fat), hp _ (List.getElem_mem hi2), fun e2 H8 s8 he2 => ⟨_, rfl, [], he2, ?_⟩⟩
  refine ForW.by walk_enumT (fun _ σ H9 => H9 = H8 ∧ σ = [some (.ref a), some (.ref e), some (.ref fa), some (.int (i : Nat)), some z2, some (.ref q), y6, y7]) ⟨rfl, rfl⟩ (fun _ σ H9 _ hh => by rw [hh.1]; exact he2) (fun _ _ _ _ _ hi => absurd hi (Nat.not_lt_zero _)) ?_
  rintro σ H9 ⟨rfl, rfl⟩
  subst hN
  refine ⟨_, _, _, _, _, rfl, (My.Same.mut (s4.trans s7) hfa).trans s8, _, s8 _ _ upd_same, by rw [List.length_append, hpl]; rfl, fun j p hj => ?_⟩
  obtain ⟨b2, pa, s, sv, rfl, h1, h2, h3⟩ := inv7 j p hj
  refine ⟨b2, rfl, pa, s, sv, ?_, h2, ?_⟩
  · exact (KeepT.of s8) _ _ h1
  · exact h3.same s8
/-- a flat block without flags, no parameters: False -/
def spFlags (K : PySem.W.Frag) (Pt : Addr) : Sp := fun vs H Q _ => ∃ (e : Addr) (v : V) (ss : List (Str × List PyData)), vs = [.ref e, v] ∧ SqT K H e [] ∧ Rp K H v (.tuple (ss.map fun s => stD s.1 s.2)) ∧ (∀ s ∈ ss, plainS s.1) ∧ ss.length ≤ 1000 ∧ GxR.TabG H Pt ∧ ∀ H' : Hp, Kp Pt H H' → GxR.TabG H' Pt → Q (.bl false) H'
theorem ok_uses_flags (T : Txt K mg) (TB : TBs base T) : FnOk P w K mg base CX0 4 T.a_uses_flags T.d_uses_flags ["params", "block"] (spFlags K T.P_uses_flags) := by
  refine T.F_uses_flags.ok sc_uses_flags (fun vs H Q E h => by obtain ⟨e, v, ss, rfl, _⟩ := h; rfl) fun A outer s H vs Q E hr h => ?_
  obtain ⟨e, v, ss, rfl, he, hv, hp, hn, ht, k⟩ := h
  refine ⟨_,
    -- if any((of is None for _, of in params)):
    (pss_cons (ps_if (pt_val (pe_anyP hr (by rfl) T.z_any TB.t_uses_flags rfl (gs2_of rfl rfl (by decide +kernel) rfl rfl rfl (by decide +kernel)) (pv 0) (elt2_isN rfl rfl) (fun _ => rfl))) 
      -- return True
      (pss_one (ps_ret pe_bl)) pss_nil)
    -- for _, statement in places(block):
    (pss_cons (ps_for PassesOwn.never rfl (pi_tup (pe_call (ok_places T) (hr.mono (by first | decide | omega)) (by rfl) T.g_places T.F_places.kp T.bd1_places T.vd1_places pass0 (pa_cons (pv 1) pa_nil))) (pg_tup rfl (pgs_cons (pg_name (i := 2) sc_uses_flags.nd rfl (Or.inl rfl)) (pgs_cons (pg_name (i := 3) sc_uses_flags.nd rfl (Or.inl rfl)) pgs_nil))) 
      -- if statement[0] == 'flag':
      (pss_cons (ps_if (pt_cmpR op_eq (pe_ix ix_tup (pv 3) pe_int (fun _ _ => rfl)) pe_str (nomark _)) 
        -- return True
        (pss_one (ps_ret pe_bl)) pss_nil)
      -- if statement[0] in ('if', 'loop') and statement[1] != '?':
      (pss_one (ps_if (PW.pt (pw_and (pt_cmpR op_in_seq (pe_ix ix_tup (pv 3) pe_int (fun _ _ => rfl)) (pe_tup (pa_cons pe_str (pa_cons pe_str pa_nil))) rfl) (pw_and1 (pt_cmpR op_ne (pe_ix ix_tup (pv 3) pe_int (fun _ _ => rfl)) pe_str (nomark _))))) 
        -- return True
        (pss_one (ps_ret pe_bl)) pss_nil))))
    -- return False
    (pss_one (ps_ret pe_bl))))
    , ?_⟩
  refine sig [some (.ref e), some v, none, none] rfl ?_
  walk_at "j"
  obtain ⟨tb, htb, tok⟩ := id ht
  unfold tAnyP
  walk_at "rd"
  refine ⟨[], he, [], .nil, ht, fun H2 hT => ?_⟩
  have kp : Kp T.P_uses_flags H H2 := fun b o h hb => by rw [hT.2 b hb]; exact h
  have kt : KeepT K H H2 := kp.keepT ⟨fun xs h => (by rw [htb] at h; cases h), fun o xs h => (by rw [htb] at h; cases h)⟩
  refine iteF ?_
  refine seqCut fun N hN => ?_
  have last : ∀ σ H4, Same H2 H4 → N σ H4 := by
    intro σ H4 s4
    subst hN
    walk_at "r"
    refine k H4 (fun b o h hb => s4 _ _ (kp b o h hb)) ?_
    obtain ⟨tb2, h2, t2⟩ := hT.1
    exact ⟨tb2, s4 _ _ h2, t2⟩
  walk_at "f"
  refine ⟨v, T.e0_places, ss, rfl, T.x0_places _, hv.keep kt, hp, hn, fun H4 l ps s4 hl hpl hpp => ⟨_, rfl, ⟨_, hl⟩, ?_⟩⟩
  refine ForW.by walk_tup (fun _ σ H5 => Same H4 H5 ∧ ∃ u2 u3, σ = [some (.ref e), some v, u2, u3]) ⟨.refl _, _, _, rfl⟩ (fun _ σ H5 _ hh => (KeepT.of hh.1) _ _ hl) ?_ (fun σ H5 hh => last σ H5 (s4.trans hh.1))
  rintro i x σ H6 H5 hi ⟨s5, u2, u3, rfl⟩ ⟨rfl, hx⟩
  obtain ⟨b, pa, s, sv, rfl, h1, h2, h3⟩ := hpp i x hx
  have hps := hp s (List.mem_of_getElem? h2)
  obtain ⟨sa, sx, rfl, hs, hsL⟩ := (h3.same s5).inv
  obtain ⟨s1, sx, rfl, g1, hsL⟩ := hsL.inv_cons
  cases g1.inv_str
  have h0 : atI (V.str s.1 :: sx) 0 = some (.str s.1) := atI_nat (xs := V.str s.1 :: sx) (j := 0) rfl
  have n1 : decide (V.str s.1 = V.str "flag") = false := decide_eq_false fun e => hps.2.2 (by injection e)
  refine ⟨_, _, rfl, (KeepT.of s5) _ _ h1, rfl, ?_⟩
  walk_at "rd"
  walk_at "j"
  refine ⟨_, hs, _, h0, rfl, ?_⟩
  rw [n1]
  refine iteF ?_
  walk_at "i"
  refine ⟨_, hs, _, h0, by show 2 ≤ sizeLine; decide, fun q hq => ⟨_, .inr (SqT.of upd_same), rfl, rfl, ?_⟩⟩
  have n2 : inV (V.str s.1) [V.str "if", V.str "loop"] = false := by
    show (_ == _ || (_ == _ || false)) = false
    rw [show (Str.ofString "if" == s.1) = false from beq_false_of_ne fun e => hps.1 e.symm, show (Str.ofString "loop" == s.1) = false from beq_false_of_ne fun e => hps.2.1 e.symm]
    rfl
  rw [n2]
  refine iteF ?_
  exact ⟨s5.trans (My.Same.new hq), _, _, rfl⟩

/-! ### classes -/
structure CRow where
  nm : Str
  par : Option Str
  fs : List Fld
def bodyD : PyData := .tuple [.tuple [], .tuple [.tuple [.str "say", .int 1]]]
def crD (r : CRow) : PyData := .tuple [.str r.nm, optS r.par, .tuple (r.fs.map Fld.d), bodyD, .tuple []]
/-- the dict of the class rows -/
def CrAt (K : PySem.W.Frag) (H : Hp) (a : Addr) (row : Str → Option CRow) : Prop := ∃ kvs, H a = some (.dK kvs) ∧ ∀ c, (valV kvs (Sum.inr c) = none ∧ row c = none) ∨ ∃ v r, valV kvs (Sum.inr c) = some v ∧ row c = some r ∧ Rp K H v (crD r)
theorem CrAt.same {H H' : Hp} {a : Addr} {row : Str → Option CRow} (x : CrAt K H a row) (s : Same H H') : CrAt K H' a row := by
  obtain ⟨kvs, e, h⟩ := x
  refine ⟨kvs, s _ _ e, fun c => ?_⟩
  rcases h c with q | ⟨v, r, h1, h2, h3⟩
  · exact .inl q
  · exact .inr ⟨v, r, h1, h2, h3.same s⟩
def linG (row : Str → Option CRow) : Nat → List Str → List Str
  | 0, ns => ns
  | k + 1, ns => match ns with
    | [] => ns
    | c :: _ => match (row c).bind CRow.par with
      | none => ns
      | some p => if p ∈ ns ∨ row p = none then ns else linG row k (p :: ns)
theorem inV_str (x : Str) : ∀ o : List Str, inV (.str x) (o.map V.str) = decide (x ∈ o)
  | [] => rfl
  | y :: r => by
    show (eqV (.str y) (.str x) || inV (.str x) (r.map V.str)) = _
    rw [inV_str x r]
    show ((y == x) || decide (x ∈ r)) = _
    by_cases h : x = y
    · subst h
      simp
    · have h2 : ¬ y = x := fun e => h e.symm
      simp [h, h2]
theorem flat_strs (o : List Str) : (o.map V.str).all flatV = true := by
  rw [List.all_map]
  exact List.all_eq_true.mpr fun _ _ => rfl
def spLin (K : PySem.W.Frag) (C : Addr) : Sp := fun vs H Q _ => ∃ (p : Addr) (c : Str) (dx : Addr) (fs : List (Str × V)) (ca ra : Addr) (cs : List V) (row : Str → Option CRow), vs = [.ref p, .str c] ∧ H p = some (.ins C dx fs) ∧ fs.lookup ("classes" : Str) = some (.ref ca) ∧ fs.lookup ("class_rows" : Str) = some (.ref ra) ∧
  SqT K H ca cs ∧ CrAt K H ra row ∧ (row c).isSome = true ∧ cs.length ≤ 1000 ∧ ∀ (H' : Hp) (l : Addr), Same H H' → SqT K H' l ((linG row cs.length [c]).map V.str) → Q (.ref l) H'
theorem ok_Program_lineage (T : Txt K mg) : FnOk P w K mg base CX0 2 T.a_Program_lineage T.d_Program_lineage ["self", "cls"] (spLin K T.C_Program) :=
  T.F_Program_lineage.ok sc_Program_lineage (fun vs H Q E h => by obtain ⟨p, c, dx, fs, ca, ra, cs, row, rfl, _⟩ := h; rfl) fun cdv A outer s H vs Q E hr h => by
    obtain ⟨p, c, dx, fs, ca, ra, cs, row, rfl, hp, f1, f2, hca, hcr, hc, hn, k⟩ := h
    refine ⟨_,
      -- names = [cls]
      (pss_cons (ps_set (i := 2) sc_Program_lineage.nd rfl (Or.inl rfl) (pe_lst (pa_cons (pv 1) pa_nil)))
      -- for _ in self.classes:
      (pss_cons (ps_for PassesOwn.never rfl (pi_tup (pe_fld (pv 0) rfl)) (pg_name (i := 3) sc_Program_lineage.nd rfl (Or.inl rfl)) 
        -- parent = self.class_rows[names[0]][1]
        (pss_cons (ps_set (i := 4) sc_Program_lineage.nd rfl (Or.inl rfl) (pe_ix ix_tup (pe_dget (hu_of hr) (pe_fld (pv 0) rfl) (pe_ix ix_list (pv 2) pe_int (fun _ _ => rfl)) (fun _ _ => rfl)) pe_int (fun _ _ => rfl)))
        -- if parent is None or parent in names or parent not in self.class_rows:
        (pss_cons (ps_if (PW.pt (pw_or (pt_cmpR op_isN (pv 4) pe_non (nomark _)) (pw_or (pt_cmpR op_in_seq (pv 4) (pv 2) rfl) (pw_or1 (pt_cmp (pc_dnotin (hu_of hr) (pv 4) (pe_fld (pv 0) rfl))))))) 
          -- break
          (pss_one ps_break) pss_nil)
        -- names.insert(0, parent)
        (pss_one (ps_expr (pe_bm PySem.F.plainAttrs_list PySem.F.slot_list_insert PySem.F.type_list_insert mt_insert (pv 2) (pa_cons pe_int (pa_cons (pv 4) pa_nil))))))))
      -- return tuple(names)
      (pss_one (ps_ret (pe_callTy call_tuple_of (by rfl) T.z_tuple (by decide +kernel) (pa_cons (pv 2) pa_nil))))))
      , ?_⟩
    refine sig [some (.ref p), some (.str c), none, none, none] rfl ?_
    walk_at "s"
    refine ⟨by show 1 ≤ sizeLine; decide, fun na hna => ?_⟩
    have s1 := My.Same.new (o := .lst [.str c]) hna
    refine seqCut fun N hN => ?_
    generalize hfin : linG row cs.length [c] = fin at k
    have last : ∀ σ H4, (∃ y3 y4, σ = [some (.ref p), some (.str c), some (.ref na), y3, y4] ∧ Same H H4 ∧ H4 na = some (.lst (fin.map V.str))) → N σ H4 := by
      rintro σ H4 ⟨y3, y4, rfl, s4, h4⟩
      subst hN
      walk_at "r"
      exact ⟨_, .inl ⟨.inl (.inl h4), fun l hl => k _ l (s4.trans (My.Same.new hl)) (SqT.of upd_same)⟩⟩
    walk_at "f"
    refine ⟨_, _, _, s1 _ _ hp, T.cl_Program, T.n_Program_classes, _, f1, _, rfl, ⟨_, (KeepT.of s1) _ _ hca⟩, ?_⟩
    refine ForW.by walk_tup (fun i σ H4 => ∃ y3 y4, σ = [some (.ref p), some (.str c), some (.ref na), y3, y4] ∧ Same H H4 ∧ ∃ c0 ns, H4 na = some (.lst ((c0 :: ns).map V.str)) ∧ (c0 :: ns).length ≤ i + 1 ∧ (row c0).isSome = true ∧ linG row (cs.length - i) (c0 :: ns) = fin)
      ⟨_, _, rfl, s1, c, [], upd_same, Nat.le_refl _, hc, hfin⟩ (fun i σ H4 _ hh => by obtain ⟨y3, y4, rfl, s4, _⟩ := hh; exact (KeepT.of s4) _ _ hca) ?_ (fun σ H4 hh => last σ H4 (by
        obtain ⟨y3, y4, h1, s4, c0, ns, h4, _, _, h5⟩ := hh
        rw [Nat.sub_self] at h5
        have h5 : c0 :: ns = fin := h5
        rw [h5] at h4
        exact ⟨y3, y4, h1, s4, h4⟩))
    rintro i x σ H3 H4 hi ⟨y3, y4, rfl, s4, c0, ns, h4, hl4, hc0, hf⟩ ⟨rfl, hx⟩
    rw [show cs.length - i = (cs.length - (i + 1)) + 1 by omega] at hf
    obtain ⟨kvs, e5, e6⟩ := hcr.same s4
    rcases e6 c0 with ⟨_, g⟩ | ⟨v0, r0, g1, g2, g3⟩
    · rw [g] at hc0
      cases hc0
    have hpar : (row c0).bind CRow.par = r0.par := by rw [g2]; rfl
    unfold linG at hf
    dsimp only at hf
    rw [hpar] at hf
    obtain ⟨ra0, rx, rfl, hrT, hrL⟩ := g3.inv
    obtain ⟨w1, rx, rfl, k1, hrL⟩ := hrL.inv_cons
    obtain ⟨w2, rx, rfl, k2, hrL⟩ := hrL.inv_cons
    obtain ⟨w3, rx, rfl, k3, hrL⟩ := hrL.inv_cons
    obtain ⟨w4, rx, rfl, k4, hrL⟩ := hrL.inv_cons
    obtain ⟨w5, rx, rfl, k5, hrL⟩ := hrL.inv_cons
    cases hrL.inv_nil
    have e7 := k2.inv_optS
    subst e7
    walk_at "g"
    walk_at "s"
    refine ⟨_, _, _, s4 _ _ hp, T.cl_Program, T.n_Program_class_rows, _, f2, _, .inl (.inl h4), .str c0, atI_nat (j := 0) (by rw [List.map_cons]; rfl), _, rfl, _, by rw [← g1]; exact DGet.k (k := Sum.inr c0) e5, _, rfl, _, hrT, _, rfl, ?_⟩
    walk_at "j"
    cases hpv : r0.par with
    | none =>
      refine iteT ?_
      rw [hpv] at hf
      dsimp only at hf
      rw [← hf] at last
      exact last _ _ ⟨_, _, rfl, s4, h4⟩
    | some q =>
      refine iteF ?_
      rw [hpv] at hf
      dsimp only at hf
      refine ⟨_, .inl (.inl (.inl h4)), rfl, flat_strs _, ?_⟩
      show if inV (.str q) ((c0 :: ns).map V.str) = true then _ else _
      rw [inV_str]
      by_cases hm : q ∈ c0 :: ns
      · rw [decide_eq_true hm]
        refine iteT ?_
        rw [if_pos (.inl hm)] at hf
        rw [← hf] at last
        exact last _ _ ⟨_, _, rfl, s4, h4⟩
      · rw [decide_eq_false hm]
        refine iteF ?_
        refine ⟨_, _, _, s4 _ _ hp, T.cl_Program, T.n_Program_class_rows, _, f2, _, rfl, _, DGet.k (k := Sum.inr q) e5, ?_⟩
        rcases e6 q with ⟨g4, g5⟩ | ⟨v1, r1, g4, g5, g6⟩
        · rw [g4]
          refine iteT ?_
          rw [if_pos (.inr g5)] at hf
          rw [← hf] at last
          exact last _ _ ⟨_, _, rfl, s4, h4⟩
        · rw [g4]
          refine iteF ?_
          have hno : ¬ (q ∈ c0 :: ns ∨ row q = none) := fun e => e.elim hm (fun e => by rw [g5] at e; cases e)
          rw [if_neg hno] at hf
          walk_at "l"
          refine ⟨tyL h4, _, h4, ?_, Int.le_refl _, by decide, _, _, rfl, My.Same.mut s4 hna, q, c0 :: ns, ?_, ?_, by rw [g5]; rfl, hf⟩
          · rw [List.length_map, sizeLine_eq]
            omega
          · rw [upd_same]
            rfl
          · rw [List.length_cons]
            omega

/-- the kinds of fields, last told: (kind, class, owner) as a tuple at t -/
def KdOk (K : PySem.W.Frag) (H : Hp) (kd : List (List L2.Key × V)) (c f : Str) (cls : Option Str) : Prop := ∃ t xs, valV kd [Sum.inr c, Sum.inr f] = some (.ref t) ∧ SqT K H t xs ∧ atI xs 1 = some (optSV cls)
theorem KdOk.keep {H H' : Hp} {kd : List (List L2.Key × V)} {c f : Str} {cls : Option Str} (h : KdOk K H kd c f cls) (s : KeepT K H H') : KdOk K H' kd c f cls := by
  obtain ⟨t, xs, h1, h2, h3⟩ := h
  exact ⟨t, xs, h1, s _ _ h2, h3⟩
/-- all fields of the lineage, from the root down -/
def linF (row : Str → Option CRow) (ns : List Str) : List Fld := ns.flatMap fun c => ((row c).map CRow.fs).getD []
/-- midway: the fields done -/
structure InhAt (K : PySem.W.Frag) (c : Str) (kd : List (List L2.Key × V)) (ka na : Addr) (H2 H1 : Hp) (done : List Fld) : Prop where
  fr : ∀ b o, H2 b = some o → b ≠ ka → b ≠ na → H1 b = some o
  nm : ∃ xs, H1 na = some (.lst xs) ∧ xs.length ≤ done.length
  kx : ∃ kd1, H1 ka = some (.dT kd1) ∧ kd1.length ≤ kd.length + done.length ∧ (∀ d f, d ≠ c → valV kd1 [Sum.inr d, Sum.inr f] = valV kd [Sum.inr d, Sum.inr f]) ∧ ∀ f ∈ done.map Fld.f, KdOk K H1 kd1 c f (lastC done f)
theorem InhAt.put {c : Str} {kd : List (List L2.Key × V)} {ka na t kk : Addr} {H2 H1 : Hp} {done : List Fld} {kd1 : List (List L2.Key × V)} {xs : List V} {y w1 w3 : V} (q : Fld) (x : InhAt K c kd ka na H2 H1 done) (hne : na ≠ ka) (hk : H1 ka = some (.dT kd1)) (hn : H1 na = some (.lst xs))
    (ht : (upd H1 na (.lst (xs ++ [y]))) t = none) (hq : (upd (upd H1 na (.lst (xs ++ [y]))) t (.tup [w1, optSV q.cls, w3])) kk = none) :
    InhAt K c kd ka na H2 (upd (upd (upd (upd H1 na (.lst (xs ++ [y]))) t (.tup [w1, optSV q.cls, w3])) kk (.tup [.str c, .str q.f])) ka (.dT (putK kd1 [Sum.inr c, Sum.inr q.f] (.ref t)))) (done ++ [q]) := by
  obtain ⟨xs', e1, l1⟩ := x.nm
  rw [hn] at e1
  cases e1
  obtain ⟨kd', e2, l2, o2, k2⟩ := x.kx
  rw [hk] at e2
  cases e2
  have htn : na ≠ t := ne_of_none (upd_same (H := H1) (a := na)) ht
  have s3 := My.Same.new (o := .tup [w1, optSV q.cls, w3]) ht
  have s4 := My.Same.new (o := .tup [.str c, .str q.f]) hq
  have hka1 : (upd H1 na (.lst (xs ++ [y]))) ka = some (.dT kd1) := by rw [upd_ne hne.symm]; exact hk
  have hkn : na ≠ kk := ne_of_none (s3 _ _ upd_same) hq
  have htk : t ≠ kk := ne_of_none upd_same hq
  have hta : t ≠ ka := fun e => by rw [e, hka1] at ht; cases ht
  have kp1 : KeepT K H1 (upd H1 na (.lst (xs ++ [y]))) := .upd (.lst hn)
  have kp2 : KeepT K H1 (upd (upd (upd (upd H1 na (.lst (xs ++ [y]))) t (.tup [w1, optSV q.cls, w3])) kk (.tup [.str c, .str q.f])) ka (.dT (putK kd1 [Sum.inr c, Sum.inr q.f] (.ref t)))) :=
    ((kp1.trans (.of s3)).trans (.of s4)).trans (.upd (.dT (s4 _ _ (s3 _ _ hka1))))
  refine ⟨fun b o hb b1 b2 => ?_, ⟨xs ++ [y], ?_, by rw [List.length_append, List.length_append]; simpa using l1⟩, _, upd_same, ?_, fun d f hd => ?_, fun f hf => ?_⟩
  · rw [upd_ne b1]
    refine s4 _ _ (s3 _ _ ?_)
    rw [upd_ne b2]
    exact x.fr b o hb b1 b2
  · rw [upd_ne hne]
    exact s4 _ _ (s3 _ _ upd_same)
  · rw [List.length_append]
    have : (putK kd1 [Sum.inr c, Sum.inr q.f] (.ref t)).length ≤ kd1.length + 1 := length_putK kd1 _ _
    simp only [List.length_cons, List.length_nil]
    omega
  · rw [valV_put, if_neg (fun e => hd (by injection e with e; injection e))]
    exact o2 d f hd
  · rw [lastC_snoc]
    by_cases hqf : q.f = f
    · rw [if_pos hqf]
      refine ⟨t, [w1, optSV q.cls, w3], by rw [valV_put, hqf, if_pos rfl], SqT.of ?_, rfl⟩
      rw [upd_ne hta]
      exact s4 _ _ upd_same
    · rw [if_neg hqf]
      have hf2 : f ∈ done.map Fld.f := by
        rw [List.map_append, List.mem_append] at hf
        rcases hf with hf | hf
        · exact hf
        · exact absurd (List.mem_singleton.mp hf).symm hqf
      obtain ⟨t2, ys, g1, g2, g3⟩ := k2 f hf2
      refine ⟨t2, ys, ?_, kp2 _ _ g2, g3⟩
      rw [valV_put, if_neg (fun e => hqf (by injection e with _ e; injection e with e; injection e with e; exact e.symm))]
      exact g1
/-- what inherit leaves at the three dicts -/
def spInh (K : PySem.W.Frag) (C : Addr) : Sp := fun vs H Q _ => ∃ (p : Addr) (c : Str) (dx : Addr) (fs : List (Str × V)) (ca ra ka oa fa : Addr) (cs : List V) (row : Str → Option CRow) (kd ow : List (List L2.Key × V)) (fl : List (Key × V)),
  vs = [.ref p, .str c] ∧ H p = some (.ins C dx fs) ∧ fs.lookup ("classes" : Str) = some (.ref ca) ∧ fs.lookup ("class_rows" : Str) = some (.ref ra) ∧ fs.lookup ("field_kinds" : Str) = some (.ref ka) ∧ fs.lookup ("owners" : Str) = some (.ref oa) ∧ fs.lookup ("field_lists" : Str) = some (.ref fa) ∧ fs.lookup ("lineage" : Str) = none ∧
  SqT K H ca cs ∧ CrAt K H ra row ∧ (row c).isSome = true ∧ cs.length ≤ 100 ∧ H ka = some (.dT kd) ∧ H oa = some (.dT ow) ∧ H fa = some (.dK fl) ∧ kd.length ≤ 100000 ∧ fl.length ≤ 100000 ∧ (∀ d r, row d = some r → r.fs.length ≤ 100) ∧ (∀ d ∈ linG row cs.length [c], (row d).isSome = true) ∧ ka ≠ fa ∧ ka ≠ ra ∧ fa ≠ ra ∧
  ∀ (H' : Hp) (kd' : List (List L2.Key × V)) (fl' : List (Key × V)), (∀ b o, H b = some o → b ≠ ka → b ≠ fa → H' b = some o) → H' ka = some (.dT kd') → H' fa = some (.dK fl') → kd'.length ≤ kd.length + 100 * (linG row cs.length [c]).length → fl'.length ≤ fl.length + 1 →
    (∀ d f, d ≠ c → valV kd' [Sum.inr d, Sum.inr f] = valV kd [Sum.inr d, Sum.inr f]) → (∀ f ∈ (linF row (linG row cs.length [c])).map Fld.f, KdOk K H' kd' c f (lastC (linF row (linG row cs.length [c])) f)) → Q .non H'
theorem ok_Program_inherit (T : Txt K mg) : FnOk P w K mg base CX0 3 T.a_Program_inherit T.d_Program_inherit ["self", "cls"] (spInh K T.C_Program) :=
  T.F_Program_inherit.ok sc_Program_inherit (fun vs H Q E h => by obtain ⟨p, c, dx, fs, ca, ra, ka, oa, fa, cs, row, kd, ow, fl, rfl, _⟩ := h; rfl) fun cdv A outer s H vs Q E hr h => by
    obtain ⟨p, c, dx, fs, ca, ra, ka, oa, fa, cs, row, kd, ow, fl, rfl, hp, f1, f2, f3, f4, f5, f6, hca, hcr, hc, hcl, hka, hoa, hfa, hkl, hfl, hrl, hex, n1, n2, n3, k⟩ := h
    refine ⟨_,
      -- names = []
      (pss_cons (ps_set (i := 2) sc_Program_inherit.nd rfl (Or.inl rfl) (pe_lst pa_nil))
      -- for above in self.lineage(cls):
      (pss_cons (ps_for PassesOwn.never rfl (pi_tup (pe_meth (pv 0) T.cl_Program T.m_Program_lineage (ok_Program_lineage T) (hr.mono (by first | decide | omega)) T.b_Program_lineage .nil pass0 (pa_cons (pv 1) pa_nil))) (pg_name (i := 3) sc_Program_inherit.nd rfl (Or.inl rfl)) 
        -- for field in self.class_rows[above][2]:
        (pss_cons (ps_for PassesOwn.never rfl (pi_tup (pe_ix ix_tup (pe_dget (hu_of hr) (pe_fld (pv 0) rfl) (pv 3) (fun _ _ => rfl)) pe_int (fun _ _ => rfl))) (pg_name (i := 4) sc_Program_inherit.nd rfl (Or.inl rfl)) 
          -- names.append(field[0])
          (pss_cons (ps_expr (pe_bm PySem.F.plainAttrs_list PySem.F.slot_list_append PySem.F.type_list_append mt_append (pv 2) (pa_cons (pe_ix ix_tup (pv 4) pe_int (fun _ _ => rfl)) pa_nil)))
          -- self.field_kinds[cls, field[0]] = (field[1], field[2], above)
          (pss_one (ps_dput (hu_of hr) (pe_fld (pv 0) rfl) (pe_tup (pa_cons (pv 1) (pa_cons (pe_ix ix_tup (pv 4) pe_int (fun _ _ => rfl)) pa_nil))) (pe_tup (pa_cons (pe_ix ix_tup (pv 4) pe_int (fun _ _ => rfl)) (pa_cons (pe_ix ix_tup (pv 4) pe_int (fun _ _ => rfl)) (pa_cons (pv 3) pa_nil)))) rfl))))
        -- for method in self.class_rows[above][4]:
        (pss_one (ps_for PassesOwn.never rfl (pi_tup (pe_ix ix_tup (pe_dget (hu_of hr) (pe_fld (pv 0) rfl) (pv 3) (fun _ _ => rfl)) pe_int (fun _ _ => rfl))) (pg_name (i := 5) sc_Program_inherit.nd rfl (Or.inl rfl)) 
          -- self.owners[cls, method[0]] = above
          (pss_one (ps_dput (hu_of hr) (pe_fld (pv 0) rfl) (pe_tup (pa_cons (pv 1) (pa_cons (pe_ix ix_tup (pv 5) pe_int (fun _ _ => rfl)) pa_nil))) (pv 3) rfl))))))
      -- self.field_lists[cls] = tuple(names)
      (pss_one (ps_dput (hu_of hr) (pe_fld (pv 0) rfl) (pv 1) (pe_callTy call_tuple_of (by rfl) T.z_tuple (by decide +kernel) (pa_cons (pv 2) pa_nil)) rfl))))
      , ?_⟩
    refine sig [some (.ref p), some (.str c), none, none, none, none] rfl ?_
    walk_at "s"
    refine ⟨Nat.zero_le _, fun na hna => ?_⟩
    have s1 := My.Same.new (o := .lst []) hna
    refine seqCut fun N hN => ?_
    generalize hns : linG row cs.length [c] = ns at hex k
    have hnl : ns.length ≤ 101 := by
      rw [← hns]
      have : ∀ (n : Nat) (xs : List Str), (linG row n xs).length ≤ xs.length + n := by
        intro n
        induction n with
        | zero => intro xs; exact Nat.le_refl _
        | succ n ih =>
          intro xs
          unfold linG
          split
          · exact Nat.zero_le _
          · split
            · omega
            · split
              · omega
              · refine Nat.le_trans (ih _) ?_
                simp only [List.length_cons]
                omega
      have := this cs.length [c]
      simp only [List.length_cons, List.length_nil] at this
      omega
    have fl4' : ∀ i, (linF row (ns.take i)).length ≤ 100 * i := by
      intro i
      unfold linF
      induction i with
      | zero => simp
      | succ i ih =>
        by_cases hi : i < ns.length
        · rw [List.take_add_one, List.getElem?_eq_getElem hi, List.flatMap_append, List.length_append]
          have : (List.flatMap (fun c => ((row c).map CRow.fs).getD []) ((some ns[i]).toList)).length ≤ 100 := by
            show (((row ns[i]).map CRow.fs).getD [] ++ []).length ≤ 100
            rw [List.append_nil]
            cases hr2 : row ns[i] with
            | none => exact Nat.zero_le _
            | some r => exact hrl _ _ hr2
          omega
        · rw [List.take_of_length_le (by omega)] at ih ⊢
          omega
    have last : ∀ (H2 : Hp) σ H4, Same (upd H na (.lst [])) H2 → (∃ y3 y4 y5, σ = [some (.ref p), some (.str c), some (.ref na), y3, y4, y5] ∧ InhAt K c kd ka na H2 H4 (linF row (ns.take ns.length))) → N σ H4 := by
      rintro H2 σ H4 s2 ⟨y3, y4, y5, rfl, x⟩
      rw [List.take_length] at x
      obtain ⟨xs, hxs, hxl⟩ := x.nm
      obtain ⟨kd1, hk1, hk2, hk3, hk4⟩ := x.kx
      have nka : na ≠ ka := fun e => by rw [e, hka] at hna; cases hna
      have s02 := s1.trans s2
      have fr : ∀ b o, H b = some o → b ≠ ka → H4 b = some o := fun b o hb h1 => x.fr _ _ (s02 _ _ hb) h1 (fun e => by rw [e, hna] at hb; cases hb)
      have hp4 := fr _ _ hp (fun e => by rw [e, hka] at hp; cases hp)
      have hfa4 := fr _ _ hfa n1.symm
      subst hN
      walk_at "l"
      refine ⟨xs, .inl ⟨.inl (.inl hxs), fun l hl => ?_⟩⟩
      have sl := My.Same.new (o := .tup xs) hl
      refine ⟨_, _, _, sl _ _ hp4, T.cl_Program, T.n_Program_field_lists, _, f5, _, rfl, _, DPut.k (k := Sum.inr c) (sl _ _ hfa4) (by rw [sizeLine_eq]; omega), ?_⟩
      have hkf : KeepT K H4 (upd (upd H4 l (.tup xs)) fa (.dK (putK fl (Sum.inr c) (.ref l)))) := (KeepT.of sl).trans (.upd (.dK (sl _ _ hfa4)))
      refine k _ kd1 _ (fun b o hb b1 b2 => ?_) ?_ upd_same ?_ (length_putK fl _ _) hk3 (fun f hf => (hk4 f hf).keep hkf)
      · rw [upd_ne b2]
        exact sl _ _ (fr b o hb b1)
      · rw [upd_ne n1]
        exact sl _ _ hk1
      · have := fl4' ns.length
        rw [List.take_length] at this
        omega
    walk_at "f"
    refine ⟨_, _, s1 _ _ hp, f6, p, c, dx, fs, ca, ra, cs, row, rfl, s1 _ _ hp, f1, f2, (KeepT.of s1) _ _ hca, hcr.same s1, hc, by omega, fun H2 l s2 hl => ⟨_, rfl, ⟨_, hl⟩, ?_⟩⟩
    rw [hns] at hl
    have s02 := s1.trans s2
    have nka : na ≠ ka := fun e => by rw [e, hka] at hna; cases hna
    have fl4 : ∀ i, (linF row (ns.take i)).length ≤ 100 * i := by
      intro i
      unfold linF
      induction i with
      | zero => simp
      | succ i ih =>
        by_cases hi : i < ns.length
        · rw [List.take_add_one, List.getElem?_eq_getElem hi, List.flatMap_append, List.length_append]
          have : (List.flatMap (fun c => ((row c).map CRow.fs).getD []) ((some ns[i]).toList)).length ≤ 100 := by
            show (((row ns[i]).map CRow.fs).getD [] ++ []).length ≤ 100
            rw [List.append_nil]
            cases hr2 : row ns[i] with
            | none => exact Nat.zero_le _
            | some r => exact hrl _ _ hr2
          omega
        · rw [List.take_of_length_le (by omega)] at ih ⊢
          omega
    have keepT2 : ∀ H4 done, InhAt K c kd ka na H2 H4 done → KeepT K H2 H4 := fun H4 done x b xs hb => by
      have ha : H2 ka = some (.dT kd) := s02 _ _ hka
      have hn2 : H2 na = some (.lst []) := s2 _ _ upd_same
      rcases hb with (hb | ⟨u, hb⟩) | hb
      · exact .inl (.inl (x.fr _ _ hb (fun e => by rw [e, ha] at hb; cases hb) (fun e => by rw [e, hn2] at hb; cases hb)))
      · exact .inl (.inr ⟨u, x.fr _ _ hb (fun e => by rw [e, ha] at hb; cases hb) (fun e => by rw [e, hn2] at hb; cases hb)⟩)
      · exact .inr hb
    refine ForW.by walk_tup (fun i σ H4 => ∃ y3 y4 y5, σ = [some (.ref p), some (.str c), some (.ref na), y3, y4, y5] ∧ InhAt K c kd ka na H2 H4 (linF row (ns.take i)))
      ⟨_, _, _, rfl, fun b o h _ _ => h, ⟨[], s2 _ _ upd_same, Nat.zero_le _⟩, kd, s02 _ _ hka, Nat.le_add_right _ _, fun _ _ _ => rfl, fun f hf => by simp [linF] at hf⟩ (fun i σ H4 _ hh => by obtain ⟨y3, y4, y5, rfl, x⟩ := hh; exact keepT2 _ _ x _ _ hl) ?_ (fun σ H4 hh => last H2 σ H4 s2 (by rw [List.length_map] at hh; exact hh))
    rintro i x σ H3 H4 hi ⟨y3, y4, y5, rfl, x4⟩ ⟨rfl, hx⟩
    have hi2 : i < ns.length := by simpa using hi
    rw [List.getElem?_map, List.getElem?_eq_getElem hi2] at hx
    cases hx
    have tk : ns.take (i + 1) = ns.take i ++ [ns[i]] := by rw [List.take_add_one, List.getElem?_eq_getElem hi2]; rfl
    have hrow := hex _ (List.getElem_mem hi2)
    generalize ns[i] = d at tk hrow
    obtain ⟨kvs, e5, e6⟩ := hcr.same s02
    rcases e6 d with ⟨_, g⟩ | ⟨v0, r0, g1, g2, g3⟩
    · rw [g] at hrow
      cases hrow
    have etk : linF row (ns.take (i + 1)) = linF row (ns.take i) ++ r0.fs := by
      rw [tk]
      unfold linF
      rw [List.flatMap_append]
      show _ ++ (((row d).map CRow.fs).getD [] ++ []) = _
      rw [List.append_nil, g2]
      rfl
    rw [etk]
    have hra4 : ∀ H5 done, InhAt K c kd ka na H2 H5 done → H5 ra = some (.dK kvs) := fun H5 done x => x.fr _ _ e5 (fun e => n2 e.symm) (fun e => by rw [e, s2 _ _ upd_same] at e5; cases e5)
    have hp4 : ∀ H5 done, InhAt K c kd ka na H2 H5 done → H5 p = some (.ins T.C_Program dx fs) := fun H5 done x => x.fr _ _ (s02 _ _ hp) (fun e => by rw [e, hka] at hp; cases hp) (fun e => by rw [e, hna] at hp; cases hp)
    obtain ⟨ra0, rx, rfl, hrT, hrL⟩ := g3.inv
    obtain ⟨w1, rx, rfl, k1, hrL⟩ := hrL.inv_cons
    obtain ⟨w2, rx, rfl, k2, hrL⟩ := hrL.inv_cons
    obtain ⟨w3, rx, rfl, k3, hrL⟩ := hrL.inv_cons
    obtain ⟨w4, rx, rfl, k4, hrL⟩ := hrL.inv_cons
    obtain ⟨w5, rx, rfl, k5, hrL⟩ := hrL.inv_cons
    cases hrL.inv_nil
    obtain ⟨fta, ftx, rfl, hfT, hfL⟩ := k3.inv
    obtain ⟨mta, mtx, rfl, hmT, hmL⟩ := k5.inv
    cases hmL.inv_nil
    have hfn : ftx.length = r0.fs.length := by rw [hfL.len, List.length_map]
    walk_at "g"
    refine seqCut fun N2 hN2 => ?_
    walk_at "f"
    refine ⟨_, _, _, hp4 _ _ x4, T.cl_Program, T.n_Program_class_rows, _, f2, _, rfl, _, by rw [← g1]; exact DGet.k (k := Sum.inr d) (hra4 _ _ x4), _, rfl, _, keepT2 _ _ x4 _ _ hrT, _, rfl, _, rfl, ⟨_, keepT2 _ _ x4 _ _ hfT⟩, ?_⟩
    refine ForW.by walk_tup (fun j σ H5 => ∃ u4 u5, σ = [some (.ref p), some (.str c), some (.ref na), some (.str d), u4, u5] ∧ InhAt K c kd ka na H2 H5 (linF row (ns.take i) ++ r0.fs.take j)) ⟨_, _, rfl, by rw [List.take_zero, List.append_nil]; exact x4⟩ (fun j σ H5 _ hh => by obtain ⟨u4, u5, rfl, x⟩ := hh; exact keepT2 _ _ x _ _ hfT) ?_ ?_
    · rintro j x σ H6 H5 hj ⟨u4, u5, rfl, x5⟩ ⟨rfl, hx⟩
      have hj2 : j < r0.fs.length := by omega
      obtain ⟨x', ex, rx⟩ := hfL.get (i := j) (d := r0.fs[j].d) (by rw [List.getElem?_map, List.getElem?_eq_getElem hj2]; rfl)
      rw [hx] at ex
      cases ex
      obtain ⟨qa, qs, rfl, hq, hqL⟩ := (rx.keep (keepT2 _ _ x5)).inv
      obtain ⟨z1, qs, rfl, m1, hqL⟩ := hqL.inv_cons
      obtain ⟨z2, qs, rfl, m2, hqL⟩ := hqL.inv_cons
      obtain ⟨z3, qs, rfl, m3, hqL⟩ := hqL.inv_cons
      cases hqL.inv_nil
      cases m1.inv_str
      have e9 := m3.inv_optS
      subst e9
      have tk2 : r0.fs.take (j + 1) = r0.fs.take j ++ [r0.fs[j]] := by rw [List.take_add_one, List.getElem?_eq_getElem hj2]; rfl
      have lim : (linF row (ns.take i) ++ r0.fs.take j).length ≤ 20000 := by
        have := fl4 i
        have := List.length_take_le j r0.fs
        have := hrl d r0 g2
        rw [List.length_append]
        omega
      obtain ⟨xs, hxs, hxl⟩ := x5.nm
      obtain ⟨kd1, hk1, hk2, _⟩ := x5.kx
      walk_at "g"
      walk_at "s"
      refine ⟨tyL hxs, _, hq, _, rfl, _, hxs, by rw [sizeLine_eq]; omega, ?_⟩
      walk_at "l"
      have kpn : KeepT K H5 (upd H5 na (.lst (xs ++ [V.str r0.fs[j].f]))) := .upd (.lst hxs)
      have hpn : p ≠ na := fun e => by
        have := hp4 _ _ x5
        rw [e, hxs] at this
        cases this
      refine ⟨_, kpn _ _ hq, _, rfl, _, kpn _ _ hq, _, rfl, by show 3 ≤ sizeLine; decide, fun t ht => ?_⟩
      have st := My.Same.new (o := .tup [z2, optSV r0.fs[j].cls, V.str d]) ht
      have hpt := st _ _ (by rw [upd_ne hpn]; exact hp4 _ _ x5 : upd H5 na (.lst (xs ++ [V.str r0.fs[j].f])) p = some (.ins T.C_Program dx fs))
      refine ⟨_, _, _, hpt, T.cl_Program, T.n_Program_field_kinds, _, f3, _, (KeepT.of st) _ _ (kpn _ _ hq), _, rfl, by show 2 ≤ sizeLine; decide, fun q hq2 => ?_⟩
      have sq := My.Same.new (o := .tup [V.str c, V.str r0.fs[j].f]) hq2
      have hka2 := sq _ _ (st _ _ (by rw [upd_ne nka.symm]; exact hk1 : upd H5 na (.lst (xs ++ [V.str r0.fs[j].f])) ka = some (.dT kd1)))
      refine ⟨_, rfl, _, DPut.t (k := [Sum.inr c, Sum.inr r0.fs[j].f]) hka2 upd_same (by rw [sizeLine_eq]; omega), _, _, rfl, ?_⟩
      rw [tk2, ← List.append_assoc]
      exact x5.put r0.fs[j] nka hk1 hxs ht hq2
    · rintro σ H5 ⟨u4, u5, rfl, x5⟩
      rw [hfn, List.take_length] at x5
      subst hN2
      walk_at "f"
      refine ⟨_, _, _, hp4 _ _ x5, T.cl_Program, T.n_Program_class_rows, _, f2, _, rfl, _, by rw [← g1]; exact DGet.k (k := Sum.inr d) (hra4 _ _ x5), _, rfl, _, keepT2 _ _ x5 _ _ hrT, _, rfl, _, rfl, ⟨_, keepT2 _ _ x5 _ _ hmT⟩, ?_⟩
      refine ForW.by walk_tup (fun _ σ H6 => H6 = H5 ∧ σ = [some (.ref p), some (.str c), some (.ref na), some (.str d), u4, u5]) ⟨rfl, rfl⟩ (fun _ σ H6 _ hh => by rw [hh.1]; exact keepT2 _ _ x5 _ _ hmT) (fun _ _ _ _ _ hi => absurd hi (Nat.not_lt_zero _)) ?_
      rintro σ H6 ⟨rfl, rfl⟩
      exact ⟨_, _, _, rfl, x5⟩

theorem ok_law_draw (T : Txt K mg) : FnOk P w K mg base CX0 1 T.a_law_draw T.d_law_draw ["feed", "many"] spDraw := by
  refine T.F_law_draw.ok sc_law_draw (fun vs H Q E h => ?_) (fun cdv A outer s H vs Q E hr h => ?_)
  · obtain ⟨f, l, m, n, rfl, _⟩ := h
    rfl
  · obtain ⟨f, l, m, n, rfl, ⟨ns, i, tot, h1, h2, h3, h4, h5, h6, h7, h8⟩, hn, hm, k⟩ := h
    refine ⟨_,
      -- at = feed[1]
      (pss_cons (ps_set (i := 2) sc_law_draw.nd rfl (Or.inl rfl) (pe_ix ix_list (pv 0) pe_int (fun _ _ => rfl)))
      -- feed[1] = at + 1
      (pss_cons (ps_asg (pe_op op_add (pv 2) pe_int) (pg_sub (pv 0) pe_int set_list))
      -- if at < len(feed[0]):
      (pss_cons (ps_if (pt_cmpR op_lt (pv 2) (pe_callB call_len_seq (by rfl) T.z_len (by decide +kernel) (pa_cons (pe_ix ix_list (pv 0) pe_int (fun _ _ => rfl)) pa_nil)) (nomark _)) 
        -- return int(feed[0][at]) % many
        (pss_one (ps_ret (pe_op op_mod (pe_callTy call_int1 (by rfl) T.z_int (by decide +kernel) (pa_cons (pe_ix ix_list (pe_ix ix_list (pv 0) pe_int (fun _ _ => rfl)) (pv 2) (fun _ _ => rfl)) pa_nil)) (pv 1)))) pss_nil)
      -- mixed = int((feed[2] + 13) * (at * 40692 + 104729) + at * at * 7919) % 2147483399
      (pss_cons (ps_set (i := 3) sc_law_draw.nd rfl (Or.inl rfl) (pe_op op_mod (pe_callTy call_int1 (by rfl) T.z_int (by decide +kernel) (pa_cons (pe_op op_add (pe_op op_mul (pe_op op_add (pe_ix ix_list (pv 0) pe_int (fun _ _ => rfl)) pe_int) (pe_op op_add (pe_op op_mul (pv 2) pe_int) pe_int)) (pe_op op_mul (pe_op op_mul (pv 2) (pv 2)) pe_int)) pa_nil)) pe_int))
      -- return int(mixed * 16807 + at) % 2147483647 // 31 % many
      (pss_one (ps_ret (pe_op op_mod (pe_op op_fdiv (pe_op op_mod (pe_callTy call_int1 (by rfl) T.z_int (by decide +kernel) (pa_cons (pe_op op_add (pe_op op_mul (pv 3) pe_int) (pv 2)) pa_nil)) pe_int) pe_int) (pv 1))))))))
      , ?_⟩
    refine sig [some (.ref f), some (.int m), none, none] rfl ?_
    walk_at "s"
    refine ⟨_, SqL.of h1, _, atI_nat (j := 1) rfl, ?_⟩
    walk_at "s"
    refine ⟨_, h1, 1, rfl, ?_⟩
    refine seqCut fun N hN => ?_
    walk_at "i"
    have hl : (upd H f (.lst [.ref l, .int (i + 1), .int tot, .int 0, .int 20])) l = some (.lst (ns.map V.int)) := by
      rw [upd_ne h3]
      exact h2
    have hf : FeedAt (upd H f (.lst [.ref l, .int (i + 1), .int tot, .int 0, .int 20])) f l (n + 1) := ⟨ns, i + 1, tot, upd_same, hl, h3, h4, by omega, by omega, h7, h8⟩
    have hk : Kp f H (upd H f (.lst [.ref l, .int (i + 1), .int tot, .int 0, .int 20])) := (Kp.refl f H).upd
    refine ⟨_, SqL.of upd_same, _, atI_nat (j := 0) rfl, _, rfl, _, Or.inl (SqL.of hl), ?_⟩
    refine ite2 (fun c => ?_) (fun c => ?_)
    · walk_at "r"
      rw [decide_eq_true_eq, List.length_map] at c
      obtain ⟨j, rfl⟩ : ∃ j : Nat, i = (j : Int) := ⟨i.toNat, by omega⟩
      have hj : j < ns.length := by omega
      refine ⟨_, SqL.of upd_same, _, atI_nat (j := 0) rfl, _, rfl, _, SqL.of hl, _, atI_nat (j := j) (by rw [List.getElem?_map, List.getElem?_eq_getElem hj]; rfl), Or.inl ⟨_, rfl, hm, ?_⟩⟩
      exact k _ _ (Int.emod_nonneg _ (by omega)) (Int.emod_lt_of_pos _ hm) hk hf
    · walk_at "rd"
      subst hN
      walk_at "s"
      have b1 : (0 : Int) < 2147483399 := by decide
      refine ⟨_, SqL.of upd_same, _, atI_nat (j := 2) rfl, _, rfl, Or.inr (by decide), Or.inl ⟨by omega, by omega⟩, Or.inl ⟨by omega, by omega⟩, Or.inr (by decide), b1, ?_⟩
      walk_at "r"
      refine ⟨Or.inr (by decide), by decide, by decide, by decide, hm, ?_⟩
      exact k _ _ (Int.emod_nonneg _ (by omega)) (Int.emod_lt_of_pos _ hm) hk hf

theorem ok_law_feed (T : Txt K mg) : FnOk P w K mg base CX0 1 T.a_law_feed T.d_law_feed ["script"] (spFeed K) := by
  refine T.F_law_feed.ok sc_law_feed (fun vs H Q E h => ?_) (fun cdv A outer s H vs Q E hr h => ?_)
  · obtain ⟨a, ns, rfl, _⟩ := h
    rfl
  · obtain ⟨a, ss, rfl, hS, hlen, k⟩ := h
    refine ⟨_,
      -- numbers = []
      (pss_cons (ps_set (i := 1) sc_law_feed.nd rfl (Or.inl rfl) (pe_lst pa_nil))
      -- total = 7
      (pss_cons (ps_set (i := 2) sc_law_feed.nd rfl (Or.inl rfl) pe_int)
      -- for k in range(63):
      (pss_cons (ps_for PassesOwn.never rfl (pi_range1 (by rfl) T.z_range (pa_cons pe_int pa_nil)) (pg_name (i := 3) sc_law_feed.nd rfl (Or.inl rfl)) 
        -- if k < len(script):
        (pss_one (ps_if (pt_cmpR op_lt (pv 3) (pe_callB call_len_seq (by rfl) T.z_len (by decide +kernel) (pa_cons (pv 0) pa_nil)) (nomark _)) 
          -- cell = abs(script[k])
          (pss_cons (ps_set (i := 4) sc_law_feed.nd rfl (Or.inl rfl) (pe_callB call_abs (by rfl) T.z_abs (by decide +kernel) (pa_cons (pe_ix ix_list (pv 0) (pv 3) (fun _ _ => rfl)) pa_nil)))
          -- total = int(total * 31 + cell + 5) % 2147483629
          (pss_cons (ps_set (i := 2) sc_law_feed.nd rfl (Or.inl rfl) (pe_op op_mod (pe_callTy call_int1 (by rfl) T.z_int (by decide +kernel) (pa_cons (pe_op op_add (pe_op op_add (pe_op op_mul (pv 2) pe_int) (pv 4)) pe_int) pa_nil)) pe_int))
          -- if cell >= 10 ** 18:
          (pss_one (ps_if (pt_cmpR op_ge (pv 4) (pe_op op_pow pe_int pe_int) (nomark _)) 
            -- for turn in range(60):
            (pss_one (ps_for PassesOwn.never rfl (pi_range1 (by rfl) T.z_range (pa_cons pe_int pa_nil)) (pg_name (i := 5) sc_law_feed.nd rfl (Or.inl rfl)) 
              -- if cell > 0:
              (pss_one (ps_if (pt_cmpR op_gt (pv 4) pe_int (nomark _)) 
                -- numbers.append(int(cell) % 97)
                (pss_cons (ps_expr (pe_bm PySem.F.plainAttrs_list PySem.F.slot_list_append PySem.F.type_list_append mt_append (pv 1) (pa_cons (pe_op op_mod (pe_callTy call_int1 (by rfl) T.z_int (by decide +kernel) (pa_cons (pv 4) pa_nil)) pe_int) pa_nil)))
                -- cell = cell // 97
                (pss_one (ps_set (i := 4) sc_law_feed.nd rfl (Or.inl rfl) (pe_op op_fdiv (pv 4) pe_int)))) pss_nil)))) 
            -- for turn in range(3):
            (pss_one (ps_for PassesOwn.never rfl (pi_range1 (by rfl) T.z_range (pa_cons pe_int pa_nil)) (pg_name (i := 5) sc_law_feed.nd rfl (Or.inl rfl)) 
              -- numbers.append(int((cell + 11) * (48271 + 2 * turn) + k * 69621) % 2147483647 // 17 % 9973)
              (pss_one (ps_expr (pe_bm PySem.F.plainAttrs_list PySem.F.slot_list_append PySem.F.type_list_append mt_append (pv 1) (pa_cons (pe_op op_mod (pe_op op_fdiv (pe_op op_mod (pe_callTy call_int1 (by rfl) T.z_int (by decide +kernel) (pa_cons (pe_op op_add (pe_op op_mul (pe_op op_add (pv 4) pe_int) (pe_op op_add pe_int (pe_op op_mul pe_int (pv 5)))) (pe_op op_mul (pv 3) pe_int)) pa_nil)) pe_int) pe_int) pe_int) pa_nil)))))))))) pss_nil)))
      -- return [numbers, 0, total, 0, 20]
      (pss_one (ps_ret (pe_lst (pa_cons (pv 1) (pa_cons pe_int (pa_cons (pv 2) (pa_cons pe_int (pa_cons pe_int pa_nil)))))))))))
      , ?_⟩
    refine sig [some (.ref a), none, none, none, none, none] rfl ?_
    walk_at "s"
    refine ⟨Nat.zero_le _, fun l nl => ?_⟩
    walk_at "s"
    refine seqCut fun N1 hN1 => ?_
    walk_at "f"
    refine ⟨by decide, by decide, ?_⟩
    refine ForW.rng (fun i σ H' => ∃ (ns : List Int) (tot : Int) (v3 v4 v5 : Option V), σ = [some (.ref a), some (.ref l), some (.int tot), v3, v4, v5] ∧ Same H H' ∧ H' l = some (.lst (ns.map V.int)) ∧
      (∀ x ∈ ns, 0 ≤ x) ∧ ns.length ≤ 60 * i ∧ 0 ≤ tot ∧ tot < 2147483648) ?_ ?_ ?_
    · exact ⟨[], 7, none, none, none, rfl, My.Same.new nl, upd_same, by simp, by simp, by decide, by decide⟩
    · rintro i σ H' hi ⟨ns, tot, v3, v4, v5, rfl, sm, hl, hpos, hln, t0, t1⟩
      have hA : SqL K H' a (ss.map V.int) := sm.seq hS
      rw [Int.zero_add]
      walk_at "g"
      walk_at "i"
      refine ⟨_, Or.inl hA, ite2 (fun c => ?_) (fun c => ?_)⟩
      · rw [decide_eq_true_eq, List.length_map] at c
        have hi2 : i < ss.length := by omega
        walk_at "s"
        refine ⟨_, hA, _, atI_nat (j := i) (by rw [List.getElem?_map, List.getElem?_eq_getElem hi2]; rfl), _, rfl, ?_⟩
        have hc0 : 0 ≤ (if ss[i] < 0 then -ss[i] else ss[i]) := by split <;> omega
        generalize (if ss[i] < 0 then -ss[i] else ss[i]) = cell at hc0
        walk_at "s"
        have b1 : (0 : Int) < 2147483629 := by decide
        refine ⟨Or.inl ⟨by omega, by omega⟩, b1, ?_⟩
        have t0' : 0 ≤ (tot * 31 + cell + 5) % 2147483629 := Int.emod_nonneg _ (by decide)
        have t1' : (tot * 31 + cell + 5) % 2147483629 < 2147483648 := Int.lt_trans (Int.emod_lt_of_pos _ b1) (by decide)
        generalize (tot * 31 + cell + 5) % 2147483629 = tot' at t0' t1'
        walk_at "i"
        refine ⟨by decide, by decide, by decide, ite2 (fun c2 => ?_) (fun c2 => ?_)⟩
        · walk_at "f"
          refine ⟨by decide, by decide, ?_⟩
          refine ForW.rng (fun j σ H' => ∃ (ns : List Int) (cell : Int) (v5 : Option V), σ = [some (.ref a), some (.ref l), some (.int tot'), some (.int (i : Int)), some (.int cell), v5] ∧ Same H H' ∧ H' l = some (.lst (ns.map V.int)) ∧
            (∀ x ∈ ns, 0 ≤ x) ∧ ns.length ≤ 60 * i + j ∧ 0 ≤ cell) ?_ ?_ ?_
          · exact ⟨ns, cell, v5, rfl, sm, hl, hpos, hln, hc0⟩
          · rintro j σ H2 hj ⟨ms, c', w5, rfl, sm2, hl2, hpos2, hln2, c0⟩
            walk_at "g"
            walk_at "i"
            refine ite2 (fun c3 => ?_) (fun c3 => ?_)
            · walk_at "s"
              have b97 : (0 : Int) < 97 := by decide
              refine ⟨Or.inl ⟨rfl, _, SqL.of hl2⟩, b97, _, hl2, ?_, ?_⟩
              · rw [List.length_map]
                exact Nat.lt_of_le_of_lt (show ms.length ≤ 4000 by omega) (by decide)
              · walk_at "l"
                refine ⟨by decide, by decide, ?_⟩
                refine ⟨ms ++ [c' % 97], c' / 97, _, rfl, My.Same.mut sm2 nl, ?_, ?_, ?_, Int.ediv_nonneg c0 (by decide)⟩
                · rw [upd_same, List.map_append]
                  rfl
                · intro x hx
                  rcases List.mem_append.mp hx with hx | hx
                  · exact hpos2 x hx
                  · rw [List.mem_singleton.mp hx]
                    exact Int.emod_nonneg _ (by decide)
                · rw [List.length_append, List.length_singleton]
                  omega
            · exact ⟨ms, c', _, rfl, sm2, hl2, hpos2, by omega, c0⟩
          · rintro σ H2 ⟨ms, c', w5, rfl, sm2, hl2, hpos2, hln2, c0⟩
            exact ⟨ms, tot', _, _, _, rfl, sm2, hl2, hpos2, by omega, t0', t1'⟩
        · have c3 : cell < 1000000000000000000 := by
            have c4 : ¬ ((10 : Int) ^ ((18 : Int).toNat) ≤ cell) := fun q => c2 (decide_eq_true q)
            have c5 : (10 : Int) ^ ((18 : Int).toNat) = 1000000000000000000 := by decide
            rw [c5] at c4
            omega
          walk_at "f"
          refine ⟨by decide, by decide, ?_⟩
          refine ForW.rng (fun j σ H' => ∃ (ns : List Int) (v5 : Option V), σ = [some (.ref a), some (.ref l), some (.int tot'), some (.int (i : Int)), some (.int cell), v5] ∧ Same H H' ∧ H' l = some (.lst (ns.map V.int)) ∧
            (∀ x ∈ ns, 0 ≤ x) ∧ ns.length ≤ 60 * i + j) ?_ ?_ ?_
          · exact ⟨ns, v5, rfl, sm, hl, hpos, hln⟩
          · rintro j σ H2 hj ⟨ms, w5, rfl, sm2, hl2, hpos2, hln2⟩
            rw [Int.zero_add]
            walk_at "g"
            walk_at "l"
            refine ⟨Or.inl ⟨rfl, _, SqL.of hl2⟩, Or.inl ⟨by decide, by decide⟩, Or.inl ⟨by omega, by omega⟩, Or.inl ⟨by omega, by omega⟩, by decide, by decide, by decide, by decide, _, hl2, ?_, ?_⟩
            · rw [List.length_map]
              exact Nat.lt_of_le_of_lt (show ms.length ≤ 4000 by omega) (by decide)
            · generalize hz : (((cell + 11) * (48271 + 2 * (j : Int)) + (i : Int) * 69621) % 2147483647 / 17 % 9973) = z
              have hz0 : 0 ≤ z := by
                rw [← hz]
                exact Int.emod_nonneg _ (by decide)
              refine ⟨ms ++ [z], _, rfl, My.Same.mut sm2 nl, ?_, ?_, ?_⟩
              · rw [upd_same, List.map_append]
                rfl
              · intro x hx
                rcases List.mem_append.mp hx with hx | hx
                · exact hpos2 x hx
                · rw [List.mem_singleton.mp hx]
                  exact hz0
              · rw [List.length_append, List.length_singleton]
                omega
          · rintro σ H2 ⟨ms, w5, rfl, sm2, hl2, hpos2, hln2⟩
            exact ⟨ms, tot', _, _, _, rfl, sm2, hl2, hpos2, by omega, t0', t1'⟩
      · exact ⟨ns, tot, _, _, _, rfl, sm, hl, hpos, by omega, t0, t1⟩
    · rintro σ H' ⟨ns, tot, v3, v4, v5, rfl, sm, hl, hpos, hln, t0, t1⟩
      subst hN1
      walk_at "r"
      refine ⟨by show 5 ≤ sizeLine; decide, fun f nf => ?_⟩
      have hlf : l ≠ f := ne_of_none hl nf
      exact k f l _ (fun b o e => by rw [upd_ne (ne_of_none (sm b o e) nf)]; exact sm b o e) (sm.free nf) ⟨ns, 0, tot, upd_same, by rw [upd_ne hlf]; exact hl, hlf, hpos, by decide, by decide, t0, t1⟩

theorem ok_law_pick (T : Txt K mg) : FnOk P w K mg base CX0 2 T.a_law_pick T.d_law_pick ["feed", "row"] (spPick K) := by
  refine T.F_law_pick.ok sc_law_pick (fun vs H Q E h => ?_) (fun cdv A outer s H vs Q E hr h => ?_)
  · obtain ⟨f, fl, row, n, rfl, _⟩ := h
    rfl
  · obtain ⟨f, fl, row, n, rfl, hF, hn, hrow⟩ := h
    refine ⟨_,
      -- return row[_law_draw(feed, len(row))]
      (pss_one (ps_ret (pe_ix ix_seq (pv 1) (pe_call (ok_law_draw T) (hr.mono (by first | decide | omega)) (by rfl) T.g_law_draw T.F_law_draw.kp T.b_law_draw .nil pass0 (pa_cons (pv 0) (pa_cons (pe_callB call_len (by rfl) T.z_len (by decide +kernel) (pa_cons (pv 1) pa_nil)) pa_nil))) (fun _ _ => rfl))))
      , ?_⟩
    refine sig [some (.ref f), some row] rfl ?_
    rcases hrow with ⟨z, rfl, hz, hz2, k⟩ | ⟨a, xs, rfl, hne, hxs, h0, k⟩
    · walk_at "r"
      refine ⟨z.length, ⟨Nat.le_trans hz2 (by decide), rfl⟩, f, fl, (z.length : Int), n, rfl, hF, hn, by omega, fun v H' v0 v1 kp hF' => ?_⟩
      walk_at "rd"
      obtain ⟨c, e1, e2⟩ := at_mem (xs := z.cps.toList) v0 (by rw [Array.length_toList]; exact v1)
      exact ⟨Nat.le_trans hz2 (by decide), c, e1, k c H' e2 kp hF'⟩
    · walk_at "r"
      refine ⟨xs.length, Or.inl ⟨xs, hxs, rfl⟩, f, fl, (xs.length : Int), n, rfl, hF, hn, by omega, fun v H' v0 v1 kp hF' => ?_⟩
      walk_at "rd"
      obtain ⟨c, e1, e2⟩ := at_mem (xs := xs) v0 v1
      exact Or.inl ⟨xs, kp.seqL hxs hne, c, e1, k c H' e2 kp hF'⟩
def spSigns : Sp := fun vs H Q _ => vs = [] ∧ ∀ z : Str, z.length = 94 → Q (.str z) H

/-- the same data twice: True -/
def spSame (K : PySem.W.Frag) (n : Nat) : Sp := fun vs H Q _ => ∃ (v1 v2 : V) (d : PyData), vs = [v1, v2] ∧ Rp K H v1 d ∧ Rp K H v2 d ∧ depD d < n ∧ szD d < 2 ^ 60 ∧ ∀ H' : Hp, Same H H' → Q (.bl true) H'
theorem ok_law_same_lvl (T : Txt K mg) : ∀ n : Nat, FnOk P w K mg base CX0 (n + 1) T.a_law_same T.d_law_same ["told", "due"] (spSame K n) := by
  intro n
  induction n with
  | zero => exact okNo fun vs H Q E ⟨_, _, _, _, _, _, h, _⟩ => Nat.not_lt_zero _ h
  | succ n ih =>
    refine T.F_law_same.ok sc_law_same (fun vs H Q E h => ?_) (fun cdv A outer s H vs Q E hr h => ?_)
    · obtain ⟨v1, v2, d, rfl, _⟩ := h
      rfl
    · obtain ⟨v1, v2, d, rfl, r1, r2, hd, hs, k⟩ := h
      have ok_law_same : Txt K mg → FnOk P w K mg base CX0 (n + 1) T.a_law_same T.d_law_same ["told", "due"] (spSame K n) := fun _ => ih
      refine ⟨_,
        -- if isinstance(due, tuple):
        (pss_cons (ps_if (pt_val (pe_callB call_isi (by rfl) T.z_isinstance (by decide +kernel) (pa_cons (pv 1) (pa_cons (pe_bltn (v := .ty "tuple") (u := .type "tuple") (by rfl) T.z_tuple (by decide +kernel) rfl) pa_nil)))) 
          -- if not isinstance(told, tuple) or len(told) != len(due):
          (pss_cons (ps_if (PW.pt (pw_or (pt_not (pt_val (pe_callB call_isi (by rfl) T.z_isinstance (by decide +kernel) (pa_cons (pv 0) (pa_cons (pe_bltn (v := .ty "tuple") (u := .type "tuple") (by rfl) T.z_tuple (by decide +kernel) rfl) pa_nil))))) (pw_or1 (pt_cmpR op_ne (pe_callB call_len_seq (by rfl) T.z_len (by decide +kernel) (pa_cons (pv 0) pa_nil)) (pe_callB call_len_seq (by rfl) T.z_len (by decide +kernel) (pa_cons (pv 1) pa_nil)) (nomark _))))) 
            -- return False
            (pss_one (ps_ret pe_bl)) pss_nil)
          -- for k in range(len(due)):
          (pss_cons (ps_for PassesOwn.never rfl (pi_range1 (by rfl) T.z_range (pa_cons (pe_callB call_len_seq (by rfl) T.z_len (by decide +kernel) (pa_cons (pv 1) pa_nil)) pa_nil)) (pg_name (i := 2) sc_law_same.nd rfl (Or.inl rfl)) 
            -- if not _law_same(told[k], due[k]):
            (pss_one (ps_if (pt_not (pt_val (pe_call (ok_law_same T) (hr.mono (by first | decide | omega)) (by rfl) T.g_law_same T.F_law_same.kp T.b_law_same .nil pass0 (pa_cons (pe_ix ix_tup (pv 0) (pv 2) (fun _ _ => rfl)) (pa_cons (pe_ix ix_tup (pv 1) (pv 2) (fun _ _ => rfl)) pa_nil))))) 
              -- return False
              (pss_one (ps_ret pe_bl)) pss_nil)))
          -- return True
          (pss_one (ps_ret pe_bl)))) pss_nil)
        -- if due is None:
        (pss_cons (ps_if (pt_cmpR op_isN (pv 1) pe_non (nomark _)) 
          -- return told is None
          (pss_one (ps_ret (pe_cmpR op_isN (pv 0) pe_non (nomark _)))) pss_nil)
        -- if isinstance(due, str):
        (pss_cons (ps_if (pt_val (pe_callB call_isi (by rfl) T.z_isinstance (by decide +kernel) (pa_cons (pv 1) (pa_cons (pe_bltn (v := .ty "str") (u := .type "str") (by rfl) T.z_str (by decide +kernel) rfl) pa_nil)))) 
          -- return isinstance(told, str) and told == due
          (pss_one (ps_ret (pe_and (pe_callB call_isi (by rfl) T.z_isinstance (by decide +kernel) (pa_cons (pv 0) (pa_cons (pe_bltn (v := .ty "str") (u := .type "str") (by rfl) T.z_str (by decide +kernel) rfl) pa_nil))) (pe_one (pe_cmpR op_eq (pv 0) (pv 1) (nomark _)))))) pss_nil)
        -- return isinstance(told, int) and isinstance(told, bool) == isinstance(due, bool) and (told == due)
        (pss_one (ps_ret (pe_and (pe_callB call_isi (by rfl) T.z_isinstance (by decide +kernel) (pa_cons (pv 0) (pa_cons (pe_bltn (v := .ty "int") (u := .type "int") (by rfl) T.z_int (by decide +kernel) rfl) pa_nil))) (pe_and (pe_cmpR op_eq (pe_callB call_isi (by rfl) T.z_isinstance (by decide +kernel) (pa_cons (pv 0) (pa_cons (pe_bltn (v := .ty "bool") (u := .type "bool") (by rfl) T.z_bool (by decide +kernel) rfl) pa_nil))) (pe_callB call_isi (by rfl) T.z_isinstance (by decide +kernel) (pa_cons (pv 1) (pa_cons (pe_bltn (v := .ty "bool") (u := .type "bool") (by rfl) T.z_bool (by decide +kernel) rfl) pa_nil))) (nomark _)) (pe_one (pe_cmpR op_eq (pv 0) (pv 1) (nomark _))))))))))
        , ?_⟩
      refine sig [some v1, some v2, none] rfl ?_
      refine ifRet fun A B hA hB => ?_
      walk_at "rd"
      have t1 := r1.ty
      have t2 := r2.ty
      have other : (∀ ds, d ≠ .tuple ds) → B [some v1, some v2, none] H := by
        intro hn
        subst hB
        walk_at "j"
        cases d with
        | tuple ds => exact absurd rfl (hn ds)
        | list b => exact absurd r1.2 (by simp [imm])
        | dict b => exact absurd r1.2 (by simp [imm])
        | none =>
          rw [r2.inv_non, r1.inv_non]
          refine iteT ?_
          walk_at "r"
          exact k H (Same.refl H)
        | bool b =>
          rw [r2.inv_bl, r1.inv_bl]
          refine iteF ?_
          walk_at "j"
          refine ⟨_, _, ClsV.ty _, .base (.bl b), false, kit_ty (by decide +kernel), iteF ?_⟩
          walk_at "r"
          refine ⟨_, _, ClsV.ty _, .base (.bl b), true, kit_ty (by decide +kernel), iteT ?_⟩
          refine ⟨_, _, ClsV.ty _, .base (.bl b), true, kit_ty (by decide +kernel), _, _, ClsV.ty _, .base (.bl b), true, kit_ty (by decide +kernel), iteT ?_⟩
          exact k H (Same.refl H)
        | int i =>
          rw [r2.inv_int, r1.inv_int]
          refine iteF ?_
          walk_at "j"
          refine ⟨_, _, ClsV.ty _, .base (.int i), false, kit_ty (by decide +kernel), iteF ?_⟩
          walk_at "r"
          refine ⟨_, _, ClsV.ty _, .base (.int i), true, kit_ty (by decide +kernel), iteT ?_⟩
          refine ⟨_, _, ClsV.ty _, .base (.int i), false, kit_ty (by decide +kernel), _, _, ClsV.ty _, .base (.int i), false, kit_ty (by decide +kernel), iteT ?_⟩
          exact k H (Same.refl H)
        | str x =>
          rw [r2.inv_str, r1.inv_str]
          refine iteF ?_
          walk_at "j"
          refine ⟨_, _, ClsV.ty _, .base (.str x), true, kit_ty (by decide +kernel), iteT ?_⟩
          walk_at "r"
          refine ⟨_, _, ClsV.ty _, .base (.str x), true, kit_ty (by decide +kernel), iteT ?_⟩
          exact k H (Same.refl H)
      have tups : ∀ ds, d = .tuple ds → A [some v1, some v2, none] H := by
        intro ds e
        subst e
        subst hA
        obtain ⟨a1, xs1, rfl, h1, l1⟩ := r1.inv
        obtain ⟨a2, xs2, rfl, h2, l2⟩ := r2.inv
        have hds : ds.length < 2 ^ 62 := by
          have := szL_len (ds := ds)
          rw [szD] at hs
          omega
        walk_at "j"
        refine ⟨_, _, ClsV.ty _, t1, true, kit_ty (a := "tuple") (by decide +kernel), iteF ?_⟩
        refine ⟨_, Or.inr h1, _, Or.inr h2, ?_⟩
        rw [l1.len, l2.len, decide_eq_true rfl]
        refine iteF ?_
        refine seqCut fun N hN => ?_
        walk_at "f"
        refine ⟨_, Or.inr h2, ?_⟩
        rw [l2.len]
        refine ⟨by omega, by omega, ?_⟩
        refine ForW.rng (fun i σ H' => ∃ v, σ = [some (.ref a1), some (.ref a2), v] ∧ Same H H') ?_ ?_ ?_
        · exact ⟨_, rfl, Same.refl H⟩
        · rintro i σ H' hi ⟨v, rfl, sm⟩
          have hi2 : i < ds.length := by omega
          walk_at "g"
          rw [Int.zero_add]
          walk_at "i"
          obtain ⟨w1, e1, g1⟩ := l1.get (List.getElem?_eq_getElem hi2)
          obtain ⟨w2, e2, g2⟩ := l2.get (List.getElem?_eq_getElem hi2)
          have hde : depD ds[i] < n := by
            have := depL_mem (List.getElem_mem hi2)
            rw [depD] at hd
            omega
          have hse : szD ds[i] < 2 ^ 60 := by
            have := szL_mem (List.getElem_mem hi2)
            rw [szD] at hs
            omega
          refine ⟨_, (KeepT.of sm) _ _ h1, _, atI_nat e1, _, (KeepT.of sm) _ _ h2, _, atI_nat e2, w1, w2, _, rfl, g1.same sm, g2.same sm, hde, hse, fun H2 sm2 => ⟨true, rfl, iteF ?_⟩⟩
          exact ⟨_, rfl, sm.trans sm2⟩
        · rintro σ H' ⟨v, rfl, sm⟩
          subst hN
          walk_at "r"
          exact k H' sm
      cases d with
      | tuple ds => exact ⟨_, _, ClsV.ty _, t2, true, kit_ty (a := "tuple") (by decide +kernel), iteT (tups ds rfl)⟩
      | none => exact ⟨_, _, ClsV.ty _, t2, false, kit_ty (a := "NoneType") (by decide +kernel), iteF (other (by intro ds e; cases e))⟩
      | bool b => exact ⟨_, _, ClsV.ty _, t2, false, kit_ty (a := "bool") (by decide +kernel), iteF (other (by intro ds e; cases e))⟩
      | int b => exact ⟨_, _, ClsV.ty _, t2, false, kit_ty (a := "int") (by decide +kernel), iteF (other (by intro ds e; cases e))⟩
      | str b => exact ⟨_, _, ClsV.ty _, t2, false, kit_ty (a := "str") (by decide +kernel), iteF (other (by intro ds e; cases e))⟩
      | list b => exact absurd r1.2 (by simp [imm])
      | dict b => exact absurd r1.2 (by simp [imm])

/-- a drawn order of 0 .. n - 1 -/
def spShuf : Sp := fun vs H Q _ => ∃ (f l : Addr) (m n : Nat), vs = [.ref f, .int (m : Nat)] ∧ FeedAt H f l n ∧ n + m ≤ 1000000 ∧ m ≤ 1000 ∧
  ∀ (a : Addr) (os : List Int) (H' : Hp), Kp f H H' → H a = none → H' a = some (.lst (os.map V.int)) → os.Perm ((List.range m).map fun i => ((i : Nat) : Int)) → FeedAt H' f l (n + m) → Q (.ref a) H'
theorem erase_map {α β : Type} (g : α → β) : ∀ (ls : List α) (k : Nat), (ls.map g).eraseIdx k = (ls.eraseIdx k).map g
  | [], _ => rfl
  | _ :: _, 0 => rfl
  | a :: r, k + 1 => by
    show g a :: (r.map g).eraseIdx k = g a :: (r.eraseIdx k).map g
    rw [erase_map g r k]
theorem erase_perm {α : Type} : ∀ (ls : List α) (k : Nat) (h : k < ls.length), (ls[k] :: ls.eraseIdx k).Perm ls
  | [], _, h => absurd h (Nat.not_lt_zero _)
  | _ :: _, 0, _ => .refl _
  | a :: r, k + 1, h => by
    have h2 : k < r.length := by simpa using h
    show (r[k] :: a :: r.eraseIdx k).Perm (a :: r)
    exact (List.Perm.swap a r[k] _).trans ((erase_perm r k h2).cons a)
theorem ok_law_shuffled (T : Txt K mg) : FnOk P w K mg base CX0 2 T.a_law_shuffled T.d_law_shuffled ["feed", "size"] spShuf :=
  T.F_law_shuffled.ok sc_law_shuffled (fun vs H Q E h => by obtain ⟨f, l, m, n, rfl, _⟩ := h; rfl) fun cdv A outer s H vs Q E hr h => by
    obtain ⟨f, l, m, n, rfl, hf, hnm, hm, k⟩ := h
    refine ⟨_,
      -- left = list(range(size))
      (pss_cons (ps_set (i := 2) sc_law_shuffled.nd rfl (Or.inl rfl) (pe_listRg rfl (by rfl) T.z_list (prg_1 (by rfl) T.z_range (pv 1))))
      -- order = []
      (pss_cons (ps_set (i := 3) sc_law_shuffled.nd rfl (Or.inl rfl) (pe_lst pa_nil))
      -- for k in range(size):
      (pss_cons (ps_for PassesOwn.never rfl (pi_range1 (by rfl) T.z_range (pa_cons (pv 1) pa_nil)) (pg_name (i := 4) sc_law_shuffled.nd rfl (Or.inl rfl)) 
        -- order.append(left.pop(_law_draw(feed, len(left))))
        (pss_one (ps_expr (pe_bm PySem.F.plainAttrs_list PySem.F.slot_list_append PySem.F.type_list_append mt_append (pv 3) (pa_cons (pe_bm PySem.F.plainAttrs_list PySem.F.slot_list_pop PySem.F.type_list_pop mt_popAt (pv 2) (pa_cons (pe_call (ok_law_draw T) (hr.mono (by first | decide | omega)) (by rfl) T.g_law_draw T.F_law_draw.kp T.b_law_draw .nil pass0 (pa_cons (pv 0) (pa_cons (pe_callB call_len_seq (by rfl) T.z_len (by decide +kernel) (pa_cons (pv 2) pa_nil)) pa_nil))) pa_nil)) pa_nil)))))
      -- return order
      (pss_one (ps_ret (pv 3))))))
      , ?_⟩
    refine sig [some (.ref f), some (.int m), none, none, none] rfl ?_
    walk_at "s"
    refine ⟨RgOk.of_le (by omega) (by omega) (by omega) (by omega), fun la hla => ?_⟩
    have s1 := My.Same.new (o := .lst (rgV 0 m)) hla
    have hr0 : rgV 0 m = ((List.range m).map fun i => ((i : Nat) : Int)).map V.int := by
      unfold rgV
      rw [List.map_map, show (((m : Nat) : Int) - 0).toNat = m by omega]
      exact List.map_congr_left fun i _ => by show V.int (0 + (i : Int)) = V.int i; rw [Int.zero_add]
    rw [hr0] at s1 ⊢
    generalize hR : (List.range m).map (fun i => ((i : Nat) : Int)) = R at s1 k ⊢
    have hRl : R.length = m := by rw [← hR, List.length_map, List.length_range]
    walk_at "s"
    refine ⟨Nat.zero_le _, fun oa hoa => ?_⟩
    have s2 := My.Same.new (o := .lst []) hoa
    have hoaH : H oa = none := by
      cases e : H oa with
      | none => rfl
      | some o => rw [s1 _ _ e] at hoa; cases hoa
    have nlo : la ≠ oa := ne_of_none upd_same hoa
    have nf : la ≠ f := hf.ne hla
    have nl : la ≠ l := hf.nl hla
    have of : oa ≠ f := hf.ne hoaH
    have ol : oa ≠ l := hf.nl hoaH
    refine seqCut fun N hN => ?_
    walk_at "f"
    refine ⟨by omega, by omega, ?_⟩
    rw [show ((m : Nat) : Int).toNat = m by omega]
    refine ForW.rng (fun i σ H1 => ∃ v ls os, σ = [some (.ref f), some (.int m), some (.ref la), some (.ref oa), v] ∧ H1 la = some (.lst (ls.map V.int)) ∧ H1 oa = some (.lst (os.map V.int)) ∧ (os ++ ls).Perm R ∧ os.length = i ∧ Kp f H H1 ∧ FeedAt H1 f l (n + i))
      ⟨none, R, [], rfl, s2 _ _ upd_same, upd_same, .refl _, rfl, .of (s1.trans s2), (hf.upd hla).upd hoa⟩ ?_ ?_
    · rintro i σ H1 hi ⟨v, ls, os, rfl, hL, hO, pm, hol, kp, hf1⟩
      have hll : ls.length = m - i := by
        have := pm.length_eq
        rw [List.length_append] at this
        omega
      walk_at "g"
      walk_at "l"
      refine ⟨tyL hO, tyL hL, _, .inl (.inl (.inl hL)), f, l, ((ls.map V.int).length : Nat), n + i, rfl, hf1, by omega, by rw [List.length_map]; omega, fun x H2 x0 x1 kp2 hf2 => ?_⟩
      rw [List.length_map] at x1
      have hL2 := kp2 _ _ hL nf
      have hO2 := kp2 _ _ hO of
      have hxl : x.toNat < ls.length := by omega
      have hsi : seqIndex? x (ls.map V.int).length = some x.toNat := by
        have h0 : ¬ x < 0 := by omega
        rw [List.length_map]
        simp [seqIndex?, h0, x0, x1]
      refine ⟨_, _, rfl, hL2, by omega, by omega, _, hsi, .int ls[x.toNat], by rw [List.getElem?_map, List.getElem?_eq_getElem hxl]; rfl, _, by rw [upd_ne nlo.symm]; exact hO2, by rw [List.length_map, sizeLine_eq]; omega, ?_⟩
      refine ⟨_, ls.eraseIdx x.toNat, os ++ [ls[x.toNat]], rfl, ?_, ?_, ?_, ?_, ?_, ?_⟩
      · rw [upd_ne nlo, upd_same, erase_map]
      · rw [upd_same, List.map_append]
        rfl
      · refine List.Perm.trans ?_ pm
        rw [List.append_assoc]
        exact (erase_perm ls x.toNat hxl).append_left os
      · rw [List.length_append, hol]
        rfl
      · exact ((kp.trans kp2).grow hla).grow hoaH
      · have := hf2.oth (o := .lst ((ls.map V.int).eraseIdx x.toNat)) nf nl
        exact (this.oth of ol).mono (by omega)
    · rintro σ H1 ⟨v, ls, os, rfl, hL, hO, pm, hol, kp, hf1⟩
      have hl0 : ls = [] := by
        have := pm.length_eq
        rw [List.length_append] at this
        exact List.length_eq_zero_iff.mp (by omega)
      subst hl0
      rw [List.append_nil] at pm
      subst hN
      walk_at "r"
      exact k oa os H1 kp hoaH hO pm hf1

theorem sorted_same : ∀ {xs ys : List Int}, xs.Perm ys → xs.Pairwise (· ≤ ·) → ys.Pairwise (· ≤ ·) → xs = ys
  | [], ys, p, _, _ => (List.Perm.nil_eq p)
  | x :: xs, [], p, _, _ => by
    have := p.length_eq
    simp at this
  | x :: xs, y :: ys, p, h1, h2 => by
    have a1 := List.pairwise_cons.mp h1
    have a2 := List.pairwise_cons.mp h2
    have e : x = y := by
      have m1 : x ∈ y :: ys := p.subset List.mem_cons_self
      have m2 : y ∈ x :: xs := p.symm.subset List.mem_cons_self
      rcases List.mem_cons.mp m1 with e | m1
      · exact e
      · rcases List.mem_cons.mp m2 with e | m2
        · exact e.symm
        · have := a2.1 x m1
          have := a1.1 y m2
          omega
    subst e
    rw [sorted_same ((List.perm_cons x).mp p) a1.2 a2.2]
def dataInts (ns : List Int) : PyData := .tuple (ns.map .int)
def spAsked (K : PySem.W.Frag) (C : Addr) : Sp := fun vs H Q _ => ∃ (p wd : Addr) (hv iv dv : V) (rs : List HR) (ids : List Int) (ev : Str → Option (List Fld)) (dom : Str → Str → Prop), vs = [.ref p, .ref wd, hv, iv, dv] ∧ PgH K C H p (holdW ev) dom ∧ EvAt K H wd ev ∧ Rp K H hv (hpD rs) ∧ Rp K H iv (dataInts ids) ∧
  Rp K H dv (pictD (holdW ev) rs ids) ∧ (∀ r ∈ rs, RowOk rs.length (holdW ev) dom r) ∧ rs.length ≤ 60 ∧ (∀ i ∈ ids, 0 ≤ i ∧ i < rs.length) ∧ ids.length ≤ 60 ∧ depD (pictD (holdW ev) rs ids) < 9 ∧ szD (pictD (holdW ev) rs ids) < 2 ^ 60 ∧ ∀ H', Same H H' → Q (.bl true) H'
theorem ok_law_asked (T : Txt K mg) : FnOk P w K mg base CX0 12 T.a_law_asked T.d_law_asked ["program", "world", "heap", "indexes", "picked"] (spAsked K T.C_Program) :=
  T.F_law_asked.ok sc_law_asked (fun vs H Q E h => by obtain ⟨p, wd, hv, iv, dv, rs, ids, ev, dom, rfl, _⟩ := h; rfl) fun cdv A outer s H vs Q E hr h => by
    obtain ⟨p, wd, hv, iv, dv, rs, ids, ev, dom, rfl, hp, hw, hh, hi, hd, ok, hn, hb, hil, hdep, hsz, k⟩ := h
    have ok_law_same : ∀ T : Txt K mg, FnOk P w K mg base CX0 10 T.a_law_same T.d_law_same ["told", "due"] (spSame K 9) := fun T => ok_law_same_lvl T 9
    refine ⟨_,
      -- if not _law_same(reached_rows(program, heap, indexes), tuple(sorted(_law_search(world, heap, indexes)))):
      (pss_cons (ps_if (pt_not (pt_val (pe_call (ok_law_same T) (hr.mono (by first | decide | omega)) (by rfl) T.g_law_same T.F_law_same.kp T.b_law_same .nil pass0 (pa_cons (pe_call (ok_reached_rows T) (hr.mono (by first | decide | omega)) (by rfl) T.g_reached_rows T.F_reached_rows.kp T.b_reached_rows .nil pass0 (pa_cons (pv 0) (pa_cons (pv 2) (pa_cons (pv 3) pa_nil)))) (pa_cons (pe_callTy call_tuple_of (by rfl) T.z_tuple (by decide +kernel) (pa_cons (pe_callB cr_sorted (by rfl) T.z_sorted (by decide +kernel) (pa_cons (pe_call (ok_law_search T) (hr.mono (by first | decide | omega)) (by rfl) T.g_law_search T.F_law_search.kp T.b_law_search .nil pass0 (pa_cons (pv 1) (pa_cons (pv 2) (pa_cons (pv 3) pa_nil)))) pa_nil)) pa_nil)) pa_nil))))) 
        -- return False
        (pss_one (ps_ret pe_bl)) pss_nil)
      -- return _law_same(picture(program, heap, indexes), picked)
      (pss_one (ps_ret (pe_call (ok_law_same T) (hr.mono (by first | decide | omega)) (by rfl) T.g_law_same T.F_law_same.kp T.b_law_same .nil pass0 (pa_cons (pe_call (ok_picture T) (hr.mono (by first | decide | omega)) (by rfl) T.g_picture T.F_picture.kp T.b_picture .nil pass0 (pa_cons (pv 0) (pa_cons (pv 2) (pa_cons (pv 3) pa_nil)))) (pa_cons (pv 4) pa_nil))))))
      , ?_⟩
    refine sig [some (.ref p), some (.ref wd), some hv, some iv, some dv] rfl ?_
    walk_at "j"
    obtain ⟨ia, is, rfl, hI, hIL⟩ := (show Rp K H iv (.tuple (ids.map .int)) from hi).inv
    have eis := My.RpL.ints (ids := ids) hIL
    subst eis
    have okl : RowsL (holdW ev) rs := ⟨by omega, fun r hr => ⟨(ok r hr).1, (ok r hr).2.2⟩⟩
    have b0 : Blw rs.length (addN [] ids) := Blw.add ⟨.nil, fun _ h => nomatch h⟩ hb
    have bn : Blw rs.length (srch (holdW ev) rs ids) := b0.turns (fun r hr => (ok r hr).2.2) rs.length
    refine ⟨p, hv, .ref ia, rs, ids, holdW ev, dom, rfl, hp, hh, hi, ok, hn, hb, fun H1 l1 ns s1 e1 pm1 so1 => ?_⟩
    refine ⟨wd, hv, .ref ia, rs, ids, ev, rfl, hw.same s1, hh.same s1, ⟨ia, rfl, .inr ((KeepT.of s1) _ _ hI)⟩, okl, hb, fun H2 l2 s2 hl2 e2 => ?_⟩
    refine ⟨_, rfl, _, .inl (.inl e2), Nat.lt_of_le_of_lt bn.len (by omega), fun ns' q pm2 so2 hq => ⟨_, .inl ⟨.inl (.inl upd_same), fun l hl => ?_⟩⟩⟩
    have en : ns' = ns := sorted_same (pm2.trans pm1.symm) so2 so1
    subst en
    have sq := My.Same.new (o := .lst (ns'.map V.int)) hq
    have sl := My.Same.new (o := .tup (ns'.map V.int)) hl
    have s3 := (s2.trans sq).trans sl
    have nl : ns'.length ≤ 60 := by
      have := pm1.length_eq
      have := bn.len
      omega
    have hid : ∀ ns : List Int, depD (dataInts ns) < 9 := fun ns => by
      have : depL (ns.map PyData.int) ≤ 0 := depL_le fun d hd => by
        obtain ⟨i, _, rfl⟩ := List.mem_map.mp hd
        exact Nat.le_refl _
      show depL (ns.map PyData.int) + 1 < 9
      omega
    have his : szD (dataInts ns') < 2 ^ 60 := by
      have : szL (ns'.map PyData.int) ≤ 1 * (ns'.map PyData.int).length := szL_le fun d hd => by
        obtain ⟨i, _, rfl⟩ := List.mem_map.mp hd
        exact Nat.le_refl _
      rw [List.length_map] at this
      show szL (ns'.map PyData.int) + 1 < 2 ^ 60
      omega
    refine ⟨_, _, dataInts ns', rfl, ?_, ?_, hid _, his, fun H3 s4 => ⟨_, rfl, ?_⟩⟩
    · exact Rp.tup (SqT.of (s3 _ _ e1)) (RpL.map fun i _ => .int i)
    · exact Rp.tup (SqT.of upd_same) (RpL.map fun i _ => .int i)
    · refine iteF ?_
      walk_at "r"
      have sA := (s1.trans s3).trans s4
      refine ⟨p, hv, .ref ia, rs, ids, holdW ev, dom, rfl, hp.same sA, hh.same sA, hi.same sA, ok, by omega, hb, by omega, fun H4 v s5 hv4 => ?_⟩
      exact ⟨_, _, _, rfl, hv4, hd.same (sA.trans s5), hdep, hsz, fun H5 s6 => k _ ((sA.trans s5).trans s6)⟩

/-! ### a heap under another numbering -/
/-- the row r, what it holds renamed -/
def mapR (h : Holds) (g : Int → Int) (r : HR) : HR := ⟨r.c, r.b, r.ps.map fun q => (q.1, match q.2 with
  | none => none
  | some i => some (if h r.c q.1 then g i else i))⟩
/-- rs' is rs renamed by g -/
structure Iso (h : Holds) (g : Int → Int) (rs rs' : List HR) : Prop where
  len : rs'.length = rs.length
  inj : ∀ i j : Int, 0 ≤ i → i < rs.length → 0 ≤ j → j < rs.length → g i = g j → i = j
  at_ : ∀ (i : Nat) r, rs[i]? = some r → 0 ≤ g i ∧ g i < rs.length ∧ rs'[(g i).toNat]? = some (mapR h g r)
theorem held_map (h : Holds) (g : Int → Int) (r : HR) : heldR h (mapR h g r) = (heldR h r).map g := by
  unfold heldR mapR
  dsimp only
  rw [List.filterMap_map, List.map_filterMap]
  congr 1
  funext q
  obtain ⟨f, v⟩ := q
  cases v with
  | none => rfl
  | some i =>
    show (if h r.c f then some (if h r.c f then g i else i) else none) = Option.map g (if h r.c f then some i else none)
    cases h r.c f <;> rfl
theorem addN_map {g : Int → Int} {P : Int → Prop} (inj : ∀ i j, P i → P j → g i = g j → i = j) : ∀ (xs o : List Int), (∀ i ∈ o, P i) → (∀ i ∈ xs, P i) → addN (o.map g) (xs.map g) = (addN o xs).map g
  | [], o, _, _ => rfl
  | x :: r, o, ho, hx => by
    have hm : g x ∈ o.map g ↔ x ∈ o := by
      rw [List.mem_map]
      constructor
      · rintro ⟨y, hy, e⟩
        rw [← inj y x (ho y hy) (hx x List.mem_cons_self) e]
        exact hy
      · exact fun hy => ⟨x, hy, rfl⟩
    show addN (if g x ∈ o.map g then o.map g else o.map g ++ [g x]) (r.map g) = (addN (if x ∈ o then o else o ++ [x]) r).map g
    by_cases hxo : x ∈ o
    · rw [if_pos (hm.mpr hxo), if_pos hxo]
      exact addN_map inj r o ho fun i hi => hx i (List.mem_cons_of_mem _ hi)
    · rw [if_neg (fun e => hxo (hm.mp e)), if_neg hxo]
      rw [show o.map g ++ [g x] = (o ++ [x]).map g by rw [List.map_append]; rfl]
      refine addN_map inj r (o ++ [x]) (fun i hi => ?_) fun i hi => hx i (List.mem_cons_of_mem _ hi)
      rcases List.mem_append.mp hi with hi | hi
      · exact ho i hi
      · rw [List.mem_singleton.mp hi]
        exact hx x List.mem_cons_self
theorem idx_map {g : Int → Int} {P : Int → Prop} (inj : ∀ i j, P i → P j → g i = g j → i = j) : ∀ (o : List Int) (z : Int), (∀ i ∈ o, P i) → P z → (o.map g).idxOf (g z) = o.idxOf z
  | [], _, _, _ => rfl
  | y :: r, z, ho, hz => by
    rw [List.map_cons, List.idxOf_cons, List.idxOf_cons, idx_map inj r z (fun i hi => ho i (List.mem_cons_of_mem _ hi)) hz]
    by_cases e : y = z
    · subst e
      rw [show (g y == g y) = true from beq_self_eq_true _, show (y == y) = true from beq_self_eq_true _]
    · have e2 : g y ≠ g z := fun q => e (inj y z (ho y List.mem_cons_self) hz q)
      rw [show (g y == g z) = false from beq_false_of_ne e2, show (y == z) = false from beq_false_of_ne e]
theorem step_map {h : Holds} {g : Int → Int} {rs rs' : List HR} (I : Iso h g rs rs') (hr : ∀ r ∈ rs, ∀ i ∈ heldR h r, 0 ≤ i ∧ i < rs.length) (k : Nat) {o : List Int} (ho : ∀ i ∈ o, 0 ≤ i ∧ i < (rs.length : Int)) : stepN h rs' k (o.map g) = (stepN h rs k o).map g := by
  unfold stepN
  rw [List.getElem?_map]
  cases hk : o[k]? with
  | none => rfl
  | some i =>
    have hi := ho i (List.mem_of_getElem? hk)
    have hlt : i.toNat < rs.length := by omega
    have hat := I.at_ i.toNat rs[i.toNat] (List.getElem?_eq_getElem hlt)
    rw [show ((i.toNat : Nat) : Int) = i by omega] at hat
    show (match rs'[(g i).toNat]? with | none => o.map g | some r => addN (o.map g) (heldR h r)) = _
    rw [hat.2.2]
    dsimp only
    rw [List.getElem?_eq_getElem hlt, held_map]
    dsimp only
    exact addN_map (P := fun i => 0 ≤ i ∧ i < (rs.length : Int)) (fun i j a b e => I.inj i j a.1 a.2 b.1 b.2 e) _ _ ho (hr _ (List.getElem_mem hlt))
theorem srch_map {h : Holds} {g : Int → Int} {rs rs' : List HR} (I : Iso h g rs rs') (hr : ∀ r ∈ rs, ∀ i ∈ heldR h r, 0 ≤ i ∧ i < rs.length) {ids : List Int} (hi : ∀ i ∈ ids, 0 ≤ i ∧ i < rs.length) : srch h rs' (ids.map g) = (srch h rs ids).map g := by
  have b0 : Blw rs.length (addN [] ids) := Blw.add ⟨.nil, fun _ h => nomatch h⟩ hi
  have e0 : addN [] (ids.map g) = (addN [] ids).map g := addN_map (P := fun i => 0 ≤ i ∧ i < (rs.length : Int)) (fun i j a b e => I.inj i j a.1 a.2 b.1 b.2 e) ids [] (fun _ h => nomatch h) hi
  have all : ∀ k, turnsN h rs' ((addN [] ids).map g) k = (turnsN h rs (addN [] ids) k).map g := by
    intro k
    induction k with
    | zero => rfl
    | succ k ih =>
      show stepN h rs' k (turnsN h rs' ((addN [] ids).map g) k) = (stepN h rs k (turnsN h rs (addN [] ids) k)).map g
      rw [ih]
      exact step_map I hr k (b0.turns hr k).2
  unfold srch
  rw [e0, I.len, all]
/-- the picture is the same under another numbering -/
theorem pict_map {h : Holds} {g : Int → Int} {rs rs' : List HR} (I : Iso h g rs rs') (hr : ∀ r ∈ rs, ∀ i ∈ heldR h r, 0 ≤ i ∧ i < rs.length) {ids : List Int} (hi : ∀ i ∈ ids, 0 ≤ i ∧ i < rs.length) : pictD h rs' (ids.map g) = pictD h rs ids := by
  have b0 : Blw rs.length (addN [] ids) := Blw.add ⟨.nil, fun _ h => nomatch h⟩ hi
  have bn : Blw rs.length (srch h rs ids) := b0.turns hr rs.length
  have clo := fun (i : Int) (r : HR) (a : i ∈ srch h rs ids) (b : rs[i.toNat]? = some r) => srch_closed bn.len a b
  have ids' : ∀ i ∈ ids, i ∈ srch h rs ids := fun i a => srch_ids a
  unfold pictD
  rw [srch_map I hr hi]
  generalize srch h rs ids = o at bn clo ids'
  have ix : ∀ z, z ∈ o → idxI (o.map g) (g z) = idxI o z := fun z hz => by
    unfold idxI
    rw [idx_map (P := fun i => 0 ≤ i ∧ i < (rs.length : Int)) (fun i j a b e => I.inj i j a.1 a.2 b.1 b.2 e) o z bn.2 (bn.2 z hz)]
  unfold pictO
  congr 2
  · rw [List.map_map]
    congr 1
    exact List.map_congr_left fun i hi2 => by
      show PyData.int (idxI (o.map g) (g i)) = _
      rw [ix i (ids' i hi2)]
  · congr 1
    rw [List.map_map]
    congr 1
    refine List.map_congr_left fun i hio => ?_
    show rowAt h (o.map g) rs' (g i) = rowAt h o rs i
    have hb := bn.2 i hio
    have hlt : i.toNat < rs.length := by omega
    have hat := I.at_ i.toNat rs[i.toNat] (List.getElem?_eq_getElem hlt)
    rw [show ((i.toNat : Nat) : Int) = i by omega] at hat
    have hc := clo i _ hio (List.getElem?_eq_getElem hlt)
    unfold rowAt
    rw [hat.2.2, List.getElem?_eq_getElem hlt]
    show rowD h (o.map g) (mapR h g rs[i.toNat]) = rowD h o rs[i.toNat]
    generalize rs[i.toNat] = r at hc
    have key : ∀ q ∈ r.ps, (pairD (h r.c) (o.map g) ∘ fun q => (q.1, match q.2 with
      | none => none
      | some i => some (if h r.c q.1 then g i else i))) q = pairD (h r.c) o q := by
      rintro ⟨f, v⟩ hq
      cases v with
      | none => rfl
      | some u =>
        show PyData.tuple [.str f, .int (if h r.c f then idxI (o.map g) (if h r.c f then g u else u) else (if h r.c f then g u else u))] = PyData.tuple [.str f, .int (if h r.c f then idxI o u else u)]
        cases hf : h r.c f with
        | false => rfl
        | true =>
          have hu : u ∈ o := hc u (List.mem_filterMap.mpr ⟨(f, some u), hq, by simp [heldP, hf]⟩)
          rw [if_pos rfl, if_pos rfl, if_pos rfl, ix u hu]
    have e : rowD h (o.map g) (mapR h g r) = .tuple [.str r.c, .bool r.b, .tuple ((r.ps.map fun q => (q.1, match q.2 with
      | none => none
      | some i => some (if h r.c q.1 then g i else i))).map (pairD (h r.c) (o.map g)))] := rfl
    rw [e, List.map_map, List.map_congr_left key]
    rfl

/-! ### rows laid in an order -/
structure PR where
  f : Str
  v : Option Int
  cls : Option Str
structure RR where
  c : Str
  b : Bool
  ps : List PR
def spotI (h : Nat) (os : List Int) (i : Int) : Int := h + (os.idxOf i : Nat)
def layP (g : Int → Int) (q : PR) : Str × Option Int := (q.f, match q.v with
  | none => none
  | some i => some (if q.cls.isSome then g i else i))
def layR (g : Int → Int) (r : RR) : HR := ⟨r.c, r.b, r.ps.map (layP g)⟩
def layAt (g : Int → Int) (rs : List RR) (k : Int) : HR := ((rs[k.toNat]?).map (layR g)).getD ⟨"", false, []⟩
def laidD (hs : List HR) (rs : List RR) (os : List Int) : List HR := hs ++ os.map (layAt (spotI hs.length os) rs)
def foundD (h : Nat) (os : List Int) (i : Int) : Int := if i < h then i else h + (os.idxOf (i - h) : Nat)
structure RowsFit (ho : Holds) (dom : Str → Str → Prop) (hs : List HR) (rs : List RR) : Prop where
  hom : ∀ r ∈ hs, r.ps.length ≤ 100 ∧ (∀ f, ho r.c f = false) ∧ ∀ f, dom r.c f
  row : ∀ r ∈ rs, r.ps.length ≤ 100 ∧ ∀ q ∈ r.ps, dom r.c q.f ∧ ho r.c q.f = q.cls.isSome ∧ (q.cls.isSome = true → ∀ i, q.v = some i → 0 ≤ i ∧ i < rs.length)
def Ord (m : Nat) (os : List Int) : Prop := os.Perm ((List.range m).map fun i => ((i : Nat) : Int))
theorem Ord.mem {m : Nat} {os : List Int} (h : Ord m os) {i : Int} : i ∈ os ↔ 0 ≤ i ∧ i < m := by
  rw [List.Perm.mem_iff h, List.mem_map]
  constructor
  · rintro ⟨j, hj, rfl⟩
    have := List.mem_range.mp hj
    omega
  · rintro ⟨a, b⟩
    exact ⟨i.toNat, List.mem_range.mpr (by omega), by omega⟩
theorem Ord.len {m : Nat} {os : List Int} (h : Ord m os) : os.length = m := by
  rw [List.Perm.length_eq h, List.length_map, List.length_range]
theorem Ord.nodup {m : Nat} {os : List Int} (h : Ord m os) : os.Nodup := by
  refine (List.Perm.nodup_iff h).mpr ?_
  refine List.pairwise_map.mpr ((List.nodup_range (n := m)).imp fun {a b} hab e => hab ?_)
  omega
theorem Ord.idx {m : Nat} {os : List Int} (h : Ord m os) {i : Int} (h0 : 0 ≤ i) (h1 : i < m) : os.idxOf i < m := by
  have := List.idxOf_lt_length_of_mem (h.mem.mpr ⟨h0, h1⟩)
  rwa [h.len] at this
section
variable {ho : Holds} {dom : Str → Str → Prop} {hs : List HR} {rs : List RR} {os os1 os2 : List Int}
theorem laid_len (o : Ord rs.length os) : (laidD hs rs os).length = hs.length + rs.length := by
  unfold laidD
  rw [List.length_append, List.length_map, o.len]
theorem layAt_eq {g : Int → Int} {k : Int} (hi : k.toNat < rs.length) : layAt g rs k = layR g rs[k.toNat] := by
  unfold layAt
  rw [List.getElem?_eq_getElem hi]
  rfl
theorem held_lay {g : Int → Int} {r : RR} (hq : ∀ q ∈ r.ps, ho r.c q.f = q.cls.isSome) {i : Int} (hi : i ∈ heldR ho (layR g r)) : ∃ q ∈ r.ps, ∃ j, q.cls.isSome = true ∧ q.v = some j ∧ i = g j := by
  obtain ⟨a, ha, e⟩ := List.mem_filterMap.mp hi
  obtain ⟨q, hq2, rfl⟩ := List.mem_map.mp ha
  have h1 := hq q hq2
  obtain ⟨f, v, cls⟩ := q
  cases v with
  | none => cases e
  | some j =>
    have e : (if ho r.c f = true then some (if cls.isSome = true then g j else j) else none) = some i := e
    have h1 : ho r.c f = cls.isSome := h1
    rw [h1] at e
    cases hc : cls.isSome with
    | false => rw [hc] at e; cases e
    | true =>
      rw [hc] at e
      cases e
      exact ⟨_, hq2, j, hc, rfl, rfl⟩
theorem home_held (F : RowsFit ho dom hs rs) {r : HR} (hr : r ∈ hs) : heldR ho r = [] := by
  refine List.filterMap_eq_nil_iff.mpr fun q _ => ?_
  obtain ⟨f, v⟩ := q
  cases v with
  | none => rfl
  | some i =>
    show (if ho r.c f = true then some i else none) = none
    rw [(F.hom r hr).2.1 f]
    rfl
theorem laid_ok (F : RowsFit ho dom hs rs) (o : Ord rs.length os) : ∀ r ∈ laidD hs rs os, RowOk (laidD hs rs os).length ho dom r := by
  intro r hr
  rw [laid_len o]
  rcases List.mem_append.mp hr with h | h
  · refine ⟨Nat.le_trans (F.hom r h).1 (by decide), fun q _ _ => (F.hom r h).2.2 _, fun i hi => ?_⟩
    rw [home_held F h] at hi
    cases hi
  · obtain ⟨k, hk, rfl⟩ := List.mem_map.mp h
    have hb := o.mem.mp hk
    have hlt : k.toNat < rs.length := by omega
    rw [layAt_eq hlt]
    have fr := F.row _ (List.getElem_mem hlt)
    generalize rs[k.toNat] = R at fr
    refine ⟨?_, fun q hq _ => ?_, fun i hi => ?_⟩
    · show (R.ps.map _).length ≤ 1000
      rw [List.length_map]
      exact Nat.le_trans fr.1 (by decide)
    · obtain ⟨z, hz, rfl⟩ := List.mem_map.mp hq
      exact (fr.2 z hz).1
    · obtain ⟨q, hq, j, hc, hv, rfl⟩ := held_lay (fun q hq => (fr.2 q hq).2.1) hi
      have hj := (fr.2 q hq).2.2 hc j hv
      have := o.idx hj.1 hj.2
      unfold spotI
      omega
theorem found_in (o : Ord rs.length os) {i : Int} (h0 : 0 ≤ i) (h1 : i < hs.length + rs.length) : 0 ≤ foundD hs.length os i ∧ foundD hs.length os i < (laidD hs rs os).length := by
  rw [laid_len o]
  unfold foundD
  split
  · omega
  · rename_i h
    have := o.idx (i := i - hs.length) (by omega) (by omega)
    omega
/-- from the places of one order to those of another -/
def mvI (h : Nat) (os1 os2 : List Int) (i : Int) : Int := if i < h then i else h + (os2.idxOf (os1.getD (i - h).toNat 0) : Nat)
theorem mv_lo {h : Nat} {i : Int} (hi : i < h) : mvI h os1 os2 i = i := if_pos hi
theorem mv_hi {h k : Nat} (hk : k < os1.length) : mvI h os1 os2 (h + k : Nat) = h + (os2.idxOf os1[k] : Nat) := by
  unfold mvI
  rw [if_neg (by omega), show (((h + k : Nat) : Int) - h).toNat = k by omega, List.getD_eq_getElem?_getD, List.getElem?_eq_getElem hk]
  rfl
theorem mv_spot {h : Nat} {i : Int} (hi : i ∈ os1) : mvI h os1 os2 (spotI h os1 i) = spotI h os2 i := by
  have hl := List.idxOf_lt_length_of_mem hi
  have := mv_hi (h := h) (os2 := os2) hl
  rw [List.getElem_idxOf hl] at this
  unfold spotI
  rw [← this]
  rfl
theorem mv_found {h : Nat} {m : Nat} (o1 : Ord m os1) {i : Int} (h0 : 0 ≤ i) (h1 : i < h + m) : mvI h os1 os2 (foundD h os1 i) = foundD h os2 i := by
  by_cases hi : i < h
  · rw [show foundD h os1 i = i from if_pos hi, show foundD h os2 i = i from if_pos hi, mv_lo hi]
  · rw [show foundD h os1 i = spotI h os1 (i - h) from if_neg hi, show foundD h os2 i = spotI h os2 (i - h) from if_neg hi]
    exact mv_spot (o1.mem.mpr ⟨by omega, by omega⟩)
theorem laid_iso (F : RowsFit ho dom hs rs) (o1 : Ord rs.length os1) (o2 : Ord rs.length os2) : Iso ho (mvI hs.length os1 os2) (laidD hs rs os1) (laidD hs rs os2) where
  len := by rw [laid_len o1, laid_len o2]
  inj := by
    intro i j i0 i1 j0 j1 e
    rw [laid_len o1] at i1 j1
    by_cases hi : i < hs.length
    · rw [mv_lo hi] at e
      by_cases hj : j < hs.length
      · rw [mv_lo hj] at e
        exact e
      · unfold mvI at e
        rw [if_neg hj] at e
        omega
    · obtain ⟨a, rfl⟩ : ∃ a : Nat, i = (hs.length + a : Nat) := ⟨(i - hs.length).toNat, by omega⟩
      have ha : a < os1.length := by rw [o1.len]; omega
      rw [mv_hi ha] at e
      by_cases hj : j < hs.length
      · rw [mv_lo hj] at e
        omega
      · obtain ⟨b, rfl⟩ : ∃ b : Nat, j = (hs.length + b : Nat) := ⟨(j - hs.length).toNat, by omega⟩
        have hb : b < os1.length := by rw [o1.len]; omega
        rw [mv_hi hb] at e
        have e2 : os2.idxOf os1[a] = os2.idxOf os1[b] := by omega
        have ma : os1[a] ∈ os2 := o2.mem.mpr (o1.mem.mp (List.getElem_mem ha))
        have mb : os1[b] ∈ os2 := o2.mem.mpr (o1.mem.mp (List.getElem_mem hb))
        have la := List.idxOf_lt_length_of_mem ma
        have lb := List.idxOf_lt_length_of_mem mb
        have e3 : os1[a] = os1[b] := by
          have h1 := List.getElem_idxOf la
          have h2 := List.getElem_idxOf lb
          rw [← h1, ← h2]
          congr 1
        have e4 := (List.Nodup.idxOf_getElem o1.nodup a ha).symm.trans ((congrArg os1.idxOf e3).trans (List.Nodup.idxOf_getElem o1.nodup b hb))
        rw [e4]
  at_ := by
    intro i r hr
    have hn : (laidD hs rs os1).length = hs.length + rs.length := laid_len o1
    have hlt : i < hs.length + rs.length := by
      rw [← hn]
      exact (List.getElem?_eq_some_iff.mp hr).1
    rw [hn]
    by_cases hi : i < hs.length
    · rw [mv_lo (by omega)]
      unfold laidD at hr ⊢
      rw [List.getElem?_append_left hi] at hr
      refine ⟨by omega, by omega, ?_⟩
      rw [show ((i : Nat) : Int).toNat = i by omega, List.getElem?_append_left hi, hr]
      congr 1
      have fh := (F.hom r (List.mem_of_getElem? hr)).2.1
      obtain ⟨c, b, ps⟩ := r
      unfold mapR
      congr 1
      refine (List.map_id ps).symm.trans (List.map_congr_left fun q _ => ?_)
      obtain ⟨f, v⟩ := q
      cases v with
      | none => rfl
      | some u =>
        show (f, some u) = (f, some (if ho c f = true then _ else u))
        rw [show ho c f = false from fh f]
        rfl
    · obtain ⟨a, rfl⟩ : ∃ a : Nat, i = hs.length + a := ⟨i - hs.length, by omega⟩
      have ha : a < os1.length := by rw [o1.len]; omega
      rw [mv_hi ha]
      have mk := o1.mem.mp (List.getElem_mem ha)
      have hx := o2.idx mk.1 mk.2
      refine ⟨by omega, by omega, ?_⟩
      unfold laidD at hr ⊢
      rw [List.getElem?_append_right (by omega), show hs.length + a - hs.length = a by omega, List.getElem?_map, List.getElem?_eq_getElem ha] at hr
      have hr : some (layAt (spotI hs.length os1) rs os1[a]) = some r := hr
      cases hr
      have hx2 : os2.idxOf os1[a] < os2.length := by rw [o2.len]; exact hx
      rw [show ((hs.length : Int) + ((os2.idxOf os1[a] : Nat) : Int)).toNat = hs.length + os2.idxOf os1[a] by omega, List.getElem?_append_right (by omega), show hs.length + os2.idxOf os1[a] - hs.length = os2.idxOf os1[a] by omega,
        List.getElem?_map, List.getElem?_eq_getElem hx2, List.getElem_idxOf hx2]
      have hlt2 : (os1[a]).toNat < rs.length := by omega
      show some (layAt (spotI hs.length os2) rs os1[a]) = _
      rw [layAt_eq hlt2, layAt_eq hlt2]
      have fr := F.row _ (List.getElem_mem hlt2)
      generalize rs[(os1[a]).toNat] = R at fr
      congr 1
      unfold mapR layR
      dsimp only
      congr 1
      rw [List.map_map]
      refine List.map_congr_left fun q hq => ?_
      have f1 := (fr.2 q hq).2.1
      have f2 := (fr.2 q hq).2.2
      obtain ⟨f, v, cls⟩ := q
      cases v with
      | none => rfl
      | some u =>
        show (f, some (if cls.isSome = true then spotI hs.length os2 u else u)) = (f, some (if ho R.c f = true then mvI hs.length os1 os2 (if cls.isSome = true then spotI hs.length os1 u else u) else (if cls.isSome = true then spotI hs.length os1 u else u)))
        rw [show ho R.c f = cls.isSome from f1]
        cases hc : cls.isSome with
        | false => rfl
        | true =>
          have hu := f2 hc u rfl
          rw [if_pos rfl, if_pos rfl, if_pos rfl, mv_spot (o1.mem.mpr hu)]
/-- one picture for both orders -/
theorem pict_orders (F : RowsFit ho dom hs rs) (o1 : Ord rs.length os1) (o2 : Ord rs.length os2) {ids : List Int} (hi : ∀ i ∈ ids, 0 ≤ i ∧ i < hs.length + rs.length) :
    pictD ho (laidD hs rs os2) (ids.map (foundD hs.length os2)) = pictD ho (laidD hs rs os1) (ids.map (foundD hs.length os1)) := by
  have e : ids.map (foundD hs.length os2) = (ids.map (foundD hs.length os1)).map (mvI hs.length os1 os2) := by
    rw [List.map_map]
    exact List.map_congr_left fun i h => (mv_found o1 (hi i h).1 (hi i h).2).symm
  rw [e]
  refine pict_map (laid_iso F o1 o2) (fun r hr => (laid_ok F o1 r hr).2.2) fun i h => ?_
  obtain ⟨j, hj, rfl⟩ := List.mem_map.mp h
  exact found_in o1 (hi j hj).1 (hi j hj).2
end
/-! ### how deep and wide a picture is -/
theorem pict_dep (h : Holds) (rs : List HR) (ids : List Int) : depD (pictD h rs ids) < 9 := by
  have hpr : ∀ (f : Str → Bool) (o : List Int) q, depD (pairD f o q) ≤ 1 := fun f o q => by
    obtain ⟨x, v⟩ := q
    cases v with
    | none => exact Nat.le_refl _
    | some i => exact Nat.le_refl _
  have hrow : ∀ i, depD (rowAt h (srch h rs ids) rs i) ≤ 3 := fun i => by
    unfold rowAt
    cases rs[i.toNat]? with
    | none => exact Nat.zero_le _
    | some r =>
      show max 0 (max 0 (max (depL _ + 1) 0)) + 1 ≤ 3
      have : depL (r.ps.map (pairD (h r.c) (srch h rs ids))) ≤ 1 := depL_le fun d hd => by
        obtain ⟨q, _, rfl⟩ := List.mem_map.mp hd
        exact hpr _ _ _
      omega
  show max (depL _ + 1) (max (depL _ + 1) 0) + 1 < 9
  have h1 : depL (ids.map fun i => PyData.int (idxI (srch h rs ids) i)) ≤ 0 := depL_le fun d hd => by
    obtain ⟨q, _, rfl⟩ := List.mem_map.mp hd
    exact Nat.le_refl _
  have h2 : depL ((srch h rs ids).map (rowAt h (srch h rs ids) rs)) ≤ 3 := depL_le fun d hd => by
    obtain ⟨q, _, rfl⟩ := List.mem_map.mp hd
    exact hrow _
  omega
theorem pict_sz {h : Holds} {rs : List HR} {ids : List Int} (hr : ∀ r ∈ rs, r.ps.length ≤ 1000) (ho : (srch h rs ids).length ≤ 1000) (hi : ids.length ≤ 1000) : szD (pictD h rs ids) < 2 ^ 60 := by
  have hpr : ∀ (f : Str → Bool) (o : List Int) q, szD (pairD f o q) ≤ 3 := fun f o q => by
    obtain ⟨x, v⟩ := q
    cases v with
    | none => exact Nat.le_refl _
    | some i => exact Nat.le_refl _
  have hrow : ∀ i, szD (rowAt h (srch h rs ids) rs i) ≤ 4000 := fun i => by
    unfold rowAt
    cases e : rs[i.toNat]? with
    | none => exact (by decide : (1 : Nat) ≤ 4000)
    | some r =>
      show 1 + (1 + ((szL _ + 1) + 0)) + 1 ≤ 4000
      have : szL (r.ps.map (pairD (h r.c) (srch h rs ids))) ≤ 3 * (r.ps.map (pairD (h r.c) (srch h rs ids))).length := szL_le fun d hd => by
        obtain ⟨q, _, rfl⟩ := List.mem_map.mp hd
        exact hpr _ _ _
      rw [List.length_map] at this
      have := hr r (List.mem_of_getElem? e)
      omega
  show (szL _ + 1) + ((szL _ + 1) + 0) + 1 < 2 ^ 60
  have h1 : szL (ids.map fun i => PyData.int (idxI (srch h rs ids) i)) ≤ 1 * (ids.map fun i => PyData.int (idxI (srch h rs ids) i)).length := szL_le fun d hd => by
    obtain ⟨q, _, rfl⟩ := List.mem_map.mp hd
    exact Nat.le_refl _
  have h2 : szL ((srch h rs ids).map (rowAt h (srch h rs ids) rs)) ≤ 4000 * ((srch h rs ids).map (rowAt h (srch h rs ids) rs)).length := szL_le fun d hd => by
    obtain ⟨q, _, rfl⟩ := List.mem_map.mp hd
    exact hrow _
  rw [List.length_map] at h1 h2
  have : (2 : Nat) ^ 60 = 1152921504606846976 := by decide
  omega

/-! ### what may change: the feed, tables, cells of rows -/
def Loose (rc : Bool) (o : HO) : Prop := (∃ l i t, o = .lst [.ref l, .int i, .int t, .int 0, .int 20]) ∨ (rc = true ∧ ∃ s v w, o = .lst [.str s, v, w] ∧ ∀ t, v ≠ .str t)
def Fr (rc : Bool) (H H' : Hp) : Prop := ∀ b o, H b = some o → ¬ Loose rc o → H' b = some o
theorem nl_strs {rc : Bool} (xs : List Str) : ¬ Loose rc (.lst (xs.map V.str)) := by
  rintro (⟨_, _, _, e⟩ | ⟨_, s, v, w, e, h⟩)
  · cases xs with
    | nil => cases e
    | cons a r => injection e with e; injection e with e _; cases e
  · cases xs with
    | nil => cases e
    | cons a r =>
      cases r with
      | nil => cases e
      | cons b r =>
        injection e with e
        injection e with _ e
        injection e with e _
        exact h b e.symm
theorem nl_ints {rc : Bool} (xs : List Int) : ¬ Loose rc (.lst (xs.map V.int)) := by
  rintro (⟨_, _, _, e⟩ | ⟨_, s, v, w, e, h⟩)
  · cases xs with
    | nil => cases e
    | cons a r => injection e with e; injection e with e _; cases e
  · cases xs with
    | nil => cases e
    | cons a r => injection e with e; injection e with e _; cases e
theorem nl_refs {rc : Bool} (xs : List Addr) : ¬ Loose rc (.lst (xs.map V.ref)) := by
  rintro (⟨_, _, _, e⟩ | ⟨_, s, v, w, e, h⟩)
  · cases xs with
    | nil => cases e
    | cons a r =>
      cases r with
      | nil => cases e
      | cons b r =>
        injection e with e
        injection e with _ e
        injection e with e _
        cases e
  · cases xs with
    | nil => cases e
    | cons a r => injection e with e; injection e with e _; cases e
theorem nl_dK {rc : Bool} {kvs : List (Key × V)} : ¬ Loose rc (.dK kvs) := by
  rintro (⟨_, _, _, e⟩ | ⟨_, s, v, w, e, h⟩) <;> cases e
theorem nl_dT {rc : Bool} {kvs : List (List Key × V)} : ¬ Loose rc (.dT kvs) := by
  rintro (⟨_, _, _, e⟩ | ⟨_, s, v, w, e, h⟩) <;> cases e
theorem nl_tup {rc : Bool} {xs : List V} : ¬ Loose rc (.tup xs) := by
  rintro (⟨_, _, _, e⟩ | ⟨_, s, v, w, e, h⟩) <;> cases e
theorem nl_ins {rc : Bool} {c d : Addr} {fs : List (Str × V)} : ¬ Loose rc (.ins c d fs) := by
  rintro (⟨_, _, _, e⟩ | ⟨_, s, v, w, e, h⟩) <;> cases e
/-- the cell of a row or a pair: loose only where rows are -/
theorem nl_three {u v w : V} (hu : ∃ s, u = .str s) : ¬ Loose false (.lst [u, v, w]) := by
  rintro (⟨_, _, _, e⟩ | ⟨h, _⟩) 
  · obtain ⟨s, rfl⟩ := hu
    cases e
  · cases h
section
variable {rc : Bool} {H H' H1 : Hp} {f l p : Addr} {n : Nat} {o : HO}
theorem Fr.refl (H : Hp) : Fr rc H H := fun _ _ h _ => h
theorem Fr.of (s : Same H H') : Fr rc H H' := fun b o h _ => s b o h
theorem Fr.trans (a : Fr rc H H1) (b : Fr rc H1 H') : Fr rc H H' := fun c o h n => b c o (a c o h n) n
theorem Fr.mono (a : Fr false H H') : Fr rc H H' := fun c o h n => a c o h fun hl => n (by
  rcases hl with hl | ⟨hl, _⟩
  · exact .inl hl
  · cases hl)
theorem FeedAt.cell (h : FeedAt H f l n) : ∃ i t, H f = some (.lst [.ref l, .int i, .int t, .int 0, .int 20]) := by
  obtain ⟨ns, i, tot, h1, _⟩ := h
  exact ⟨i, tot, h1⟩
theorem Fr.kp (h : FeedAt H f l n) (k : Kp f H H') : Fr rc H H' := fun b o hb hn => k b o hb fun e => by
  obtain ⟨i, t, h1⟩ := h.cell
  rw [e, h1] at hb
  cases hb
  exact hn (.inl ⟨_, _, _, rfl⟩)
theorem Fr.mut (a : Fr rc H H') (hp : H p = none) : Fr rc H (upd H' p o) := fun b x h n => by
  rw [upd_ne (ne_of_none h hp)]
  exact a b x h n
theorem Fr.new (a : Fr rc H H') (hp : H' p = none) : Fr rc H (upd H' p o) := a.trans (.of (My.Same.new hp))
theorem Fr.keepT (a : Fr rc H H') : KeepT K H H' := fun b xs h => by
  rcases h with (h | ⟨u, h⟩) | h
  · exact .inl (.inl (a _ _ h nl_tup))
  · refine .inl (.inr ⟨u, a _ _ h ?_⟩)
    rintro (⟨_, _, _, e⟩ | ⟨_, s, v, w, e, h⟩) <;> cases e
  · exact .inr h
/-- the feed stays where other things change -/
theorem FeedAt.fro (h : FeedAt H f l n) (a : ∀ b o, H b = some o → (∃ xs, o = .lst xs ∧ (xs.length = 5 ∨ ∃ ns : List Int, xs = ns.map V.int)) → H' b = some o) : FeedAt H' f l n := by
  obtain ⟨ns, i, tot, h1, h2, h3⟩ := h
  exact ⟨ns, i, tot, a _ _ h1 ⟨_, rfl, .inl rfl⟩, a _ _ h2 ⟨_, rfl, .inr ⟨_, rfl⟩⟩, h3⟩
end
theorem refsOf {H : Hp} : ∀ {ds : List PyData} {vs : List V}, (∀ d ∈ ds, ∃ es, d = .tuple es) → RpL K H vs ds → ∃ as : List Addr, vs = as.map V.ref
  | [], _, _, h => ⟨[], h.inv_nil⟩
  | d :: ds, _, hd, h => by
    obtain ⟨v, r, rfl, h1, h2⟩ := h.inv_cons
    obtain ⟨es, rfl⟩ := hd d List.mem_cons_self
    obtain ⟨a, _, rfl, _⟩ := h1.inv
    obtain ⟨as, rfl⟩ := refsOf (fun e he => hd e (List.mem_cons_of_mem _ he)) h2
    exact ⟨a :: as, rfl⟩
theorem flds_tup (fs : List Fld) : ∀ d ∈ fs.map Fld.d, ∃ es, d = .tuple es := fun d hd => by
  obtain ⟨q, _, rfl⟩ := List.mem_map.mp hd
  exact ⟨_, rfl⟩
theorem EvAt.fr {rc : Bool} {H H' : Hp} {wd : Addr} {ev : Str → Option (List Fld)} (x : EvAt K H wd ev) (a : Fr rc H H') : EvAt K H' wd ev := by
  obtain ⟨wk, ea, kvs, e1, e2, e3, e4⟩ := x.ex
  refine ⟨wk, ea, kvs, a _ _ e1 nl_dK, e2, a _ _ e3 nl_dK, fun c => ?_⟩
  rcases e4 c with q | ⟨la, fs, vs, g1, g2, g3, g4, g5⟩
  · exact .inl q
  · obtain ⟨as, rfl⟩ := refsOf (flds_tup fs) g4
    exact .inr ⟨la, fs, _, g1, g2, a _ _ g3 (nl_refs _), g4.keep a.keepT, g5⟩
/-! ### two lists, item by item -/
inductive All2 {α β : Type} (R : α → β → Prop) : List α → List β → Prop
  | nil : All2 R [] []
  | cons {a : α} {b : β} {as : List α} {bs : List β} : R a b → All2 R as bs → All2 R (a :: as) (b :: bs)
section
variable {α β γ : Type} {R S : α → β → Prop}
theorem All2.len {as : List α} {bs : List β} (h : All2 R as bs) : as.length = bs.length := by
  induction h with
  | nil => rfl
  | cons _ _ ih => rw [List.length_cons, List.length_cons, ih]
theorem All2.imp {as : List α} {bs : List β} (h : All2 R as bs) (f : ∀ a b, R a b → S a b) : All2 S as bs := by
  induction h with
  | nil => exact .nil
  | cons h _ ih => exact .cons (f _ _ h) ih
theorem All2.snoc {as : List α} {bs : List β} {a : α} {b : β} (h : All2 R as bs) (g : R a b) : All2 R (as ++ [a]) (bs ++ [b]) := by
  induction h with
  | nil => exact .cons g .nil
  | cons h _ ih => exact .cons h ih
theorem All2.get {as : List α} {bs : List β} (h : All2 R as bs) : ∀ {i : Nat} {b : β}, bs[i]? = some b → ∃ a, as[i]? = some a ∧ R a b := by
  induction h with
  | nil => intro i b e; simp at e
  | cons h _ ih =>
    intro i b e
    cases i with
    | zero => cases e; exact ⟨_, rfl, h⟩
    | succ i =>
      rw [List.getElem?_cons_succ] at e
      obtain ⟨a, h1, h2⟩ := ih e
      exact ⟨a, by rw [List.getElem?_cons_succ]; exact h1, h2⟩
theorem All2.getl {as : List α} {bs : List β} (h : All2 R as bs) : ∀ {i : Nat} {a : α}, as[i]? = some a → ∃ b, bs[i]? = some b ∧ R a b := by
  induction h with
  | nil => intro i b e; simp at e
  | cons h _ ih =>
    intro i b e
    cases i with
    | zero => cases e; exact ⟨_, rfl, h⟩
    | succ i =>
      rw [List.getElem?_cons_succ] at e
      obtain ⟨a, h1, h2⟩ := ih e
      exact ⟨a, by rw [List.getElem?_cons_succ]; exact h1, h2⟩
theorem All2.mem {as : List α} {bs : List β} (h : All2 R as bs) {a : α} (m : a ∈ as) : ∃ b ∈ bs, R a b := by
  obtain ⟨i, hi⟩ := List.getElem?_of_mem m
  obtain ⟨b, h1, h2⟩ := h.getl hi
  exact ⟨b, List.mem_of_getElem? h1, h2⟩
theorem All2.choose {S : α → γ → Prop} {U : γ → β → Prop} (f : ∀ a b, R a b → ∃ x, S a x ∧ U x b) {as : List α} {bs : List β} (h : All2 R as bs) : ∃ xs, All2 S as xs ∧ All2 U xs bs := by
  induction h with
  | nil => exact ⟨[], .nil, .nil⟩
  | cons h _ ih =>
    obtain ⟨x, h1, h2⟩ := f _ _ h
    obtain ⟨xs, g1, g2⟩ := ih
    exact ⟨x :: xs, .cons h1 g1, .cons h2 g2⟩
end
/-! ### rows made by hand: lists in lists -/
def PrSh (n : Nat) (H : Hp) (a : Addr) (z : Str × Option Str) : Prop := ∃ v : Option Int, H a = some (.lst [.str z.1, optV v, optSV z.2]) ∧ (z.2.isSome = true → ∀ i, v = some i → 0 ≤ i ∧ i < n)
def RrSh (n : Nat) (H : Hp) (a : Addr) (c : Str × List (Str × Option Str)) : Prop := ∃ b pa as, H a = some (.lst [.str c.1, .bl b, .ref pa]) ∧ H pa = some (.lst (as.map V.ref)) ∧ All2 (PrSh n H) as c.2
def RowsSh (n : Nat) (H : Hp) (ra : Addr) (cs : List (Str × List (Str × Option Str))) : Prop := ∃ as, H ra = some (.lst (as.map V.ref)) ∧ All2 (RrSh n H) as cs
/-- the shapes stay -/
structure CellKeep (n : Nat) (H H' : Hp) : Prop where
  pr : ∀ a z, PrSh n H a z → PrSh n H' a z
  rr : ∀ a c b pa, H a = some (.lst [.str c, .bl b, .ref pa]) → ∃ b', H' a = some (.lst [.str c, .bl b', .ref pa])
  rf : ∀ a (as : List Addr), H a = some (.lst (as.map V.ref)) → H' a = some (.lst (as.map V.ref))
section
variable {n : Nat} {H H' H1 : Hp} {a ra : Addr}
theorem CellKeep.trans (x : CellKeep n H H1) (y : CellKeep n H1 H') : CellKeep n H H' :=
  ⟨fun a z h => y.pr a z (x.pr a z h), fun a c b pa h => by obtain ⟨b', h'⟩ := x.rr a c b pa h; exact y.rr a c b' pa h', fun a as h => y.rf a as (x.rf a as h)⟩
theorem CellKeep.fr (x : Fr false H H') : CellKeep n H H' :=
  ⟨fun a z ⟨v, h, q⟩ => ⟨v, x _ _ h (nl_three ⟨_, rfl⟩), q⟩, fun a c b pa h => ⟨b, x _ _ h (nl_three ⟨_, rfl⟩)⟩, fun a as h => x _ _ h (nl_refs _)⟩
theorem RrSh.keep (k : CellKeep n H H') {c : Str × List (Str × Option Str)} (h : RrSh n H a c) : RrSh n H' a c := by
  obtain ⟨b, pa, as, h1, h2, h3⟩ := h
  obtain ⟨b', h4⟩ := k.rr _ _ _ _ h1
  exact ⟨b', pa, as, h4, k.rf _ _ h2, h3.imp fun _ _ => k.pr _ _⟩
theorem RowsSh.keep (k : CellKeep n H H') {cs : List (Str × List (Str × Option Str))} (h : RowsSh n H ra cs) : RowsSh n H' ra cs := by
  obtain ⟨as, h1, h2⟩ := h
  exact ⟨as, k.rf _ _ h1, h2.imp fun _ _ => RrSh.keep k⟩
theorem optV_bl {v : Option Int} {b : Bool} : optV v ≠ .bl b := by cases v <;> exact fun e => by cases e
theorem three_refs {u v w : V} {s : Str} (hu : u = .str s) (as : List Addr) : as.map V.ref ≠ [u, v, w] := by
  subst hu
  cases as with
  | nil => exact fun e => by cases e
  | cons a r => exact fun e => by injection e with e _; cases e
theorem CellKeep.row {c : Str} {b b' : Bool} {pa : Addr} (h : H a = some (.lst [.str c, .bl b, .ref pa])) : CellKeep n H (upd H a (.lst [.str c, .bl b', .ref pa])) := by
  refine ⟨fun x z hx => ?_, fun x c2 b2 pa2 hx => ?_, fun x as hx => ?_⟩
  · obtain ⟨v, h1, h2⟩ := hx
    refine ⟨v, ?_, h2⟩
    rw [upd_ne]
    · exact h1
    · intro e
      rw [e, h] at h1
      injection h1 with h1
      injection h1 with h1
      injection h1 with _ h1
      injection h1 with h1 _
      exact optV_bl h1.symm
  · by_cases e : x = a
    · subst e
      rw [h] at hx
      cases hx
      exact ⟨b', upd_same⟩
    · exact ⟨b2, by rw [upd_ne e]; exact hx⟩
  · rw [upd_ne]
    · exact hx
    · intro e
      rw [e, h] at hx
      injection hx with hx
      injection hx with hx
      exact three_refs rfl as hx.symm
theorem CellKeep.pair {z : Str × Option Str} {v : Option Int} (h : PrSh n H a z) (hv : z.2.isSome = true → ∀ i, v = some i → 0 ≤ i ∧ i < n) : CellKeep n H (upd H a (.lst [.str z.1, optV v, optSV z.2])) := by
  obtain ⟨v0, h, _⟩ := h
  refine ⟨fun x y hx => ?_, fun x c2 b2 pa2 hx => ?_, fun x as hx => ?_⟩
  · by_cases e : x = a
    · subst e
      obtain ⟨v1, h1, h2⟩ := hx
      rw [h] at h1
      injection h1 with h1
      injection h1 with h1
      injection h1 with e1 h1
      injection h1 with _ h1
      injection h1 with e2 _
      injection e1 with e1
      have e3 : z.2 = y.2 := by
        cases hz : z.2 <;> cases hy : y.2 <;> rw [hz, hy] at e2 <;> first | rfl | (cases e2; done) | (injection e2 with e2; rw [e2])
      exact ⟨v, by rw [upd_same, e1, e3], by rw [← e3]; exact hv⟩
    · obtain ⟨v1, h1, h2⟩ := hx
      exact ⟨v1, by rw [upd_ne e]; exact h1, h2⟩
  · refine ⟨b2, ?_⟩
    rw [upd_ne]
    · exact hx
    · intro e
      rw [e, h] at hx
      injection hx with hx
      injection hx with hx
      injection hx with _ hx
      injection hx with hx _
      exact optV_bl hx
  · rw [upd_ne]
    · exact hx
    · intro e
      rw [e, h] at hx
      injection hx with hx
      injection hx with hx
      exact three_refs rfl as hx.symm
end
def PrAt (H : Hp) (a : Addr) (q : PR) : Prop := H a = some (.lst [.str q.f, optV q.v, optSV q.cls])
def RrAt (H : Hp) (a : Addr) (r : RR) : Prop := ∃ pa as, H a = some (.lst [.str r.c, .bl r.b, .ref pa]) ∧ H pa = some (.lst (as.map V.ref)) ∧ All2 (PrAt H) as r.ps
def RowsAt (H : Hp) (ra : Addr) (rs : List RR) : Prop := ∃ as, H ra = some (.lst (as.map V.ref)) ∧ All2 (RrAt H) as rs
def FitP (n : Nat) (q : PR) (z : Str × Option Str) : Prop := q.f = z.1 ∧ q.cls = z.2 ∧ (z.2.isSome = true → ∀ i, q.v = some i → 0 ≤ i ∧ i < n)
def FitR (n : Nat) (r : RR) (c : Str × List (Str × Option Str)) : Prop := r.c = c.1 ∧ All2 (FitP n) r.ps c.2
theorem RowsSh.at_ {n : Nat} {H : Hp} {ra : Addr} {cs : List (Str × List (Str × Option Str))} (h : RowsSh n H ra cs) : ∃ rs, RowsAt H ra rs ∧ All2 (FitR n) rs cs := by
  obtain ⟨as, h1, h2⟩ := h
  obtain ⟨rs, g1, g2⟩ := h2.choose (S := RrAt H) (U := FitR n) fun a c hr => by
    obtain ⟨b, pa, ps, e1, e2, e3⟩ := hr
    obtain ⟨qs, k1, k2⟩ := e3.choose (S := PrAt H) (U := FitP n) fun a z hz => by
      obtain ⟨v, e4, e5⟩ := hz
      exact ⟨⟨z.1, v, z.2⟩, e4, rfl, rfl, e5⟩
    exact ⟨⟨c.1, b, qs⟩, ⟨pa, ps, e1, e2, k1⟩, rfl, k2⟩
  exact ⟨rs, ⟨as, h1, g1⟩, g2⟩
theorem RowsAt.fr {H H' : Hp} {ra : Addr} {rs : List RR} (h : RowsAt H ra rs) (x : Fr false H H') : RowsAt H' ra rs := by
  obtain ⟨as, h1, h2⟩ := h
  refine ⟨as, x _ _ h1 (nl_refs _), h2.imp fun a r hr => ?_⟩
  obtain ⟨pa, ps, e1, e2, e3⟩ := hr
  exact ⟨pa, ps, x _ _ e1 (nl_three ⟨_, rfl⟩), x _ _ e2 (nl_refs _), e3.imp fun a q hq => x _ _ hq (nl_three ⟨_, rfl⟩)⟩

def unD (u : Str × List Str) : PyData := .tuple [.str u.1, .tuple (u.2.map .str), .tuple []]
def rowF (crs : List CRow) (c : Str) : Option CRow := crs.find? fun r => decide (r.nm = c)
/-- all fields of a class, its parents' first -/
def allF (crs : List CRow) (c : Str) : List Fld := linF (rowF crs) (linG (rowF crs) crs.length [c])
def holdP (crs : List CRow) : Holds := fun c f => (rowF crs c).isSome && (lastC (allF crs c) f).isSome
def domP (crs : List CRow) (c f : Str) : Prop := rowF crs c = none ∨ f ∈ (allF crs c).map Fld.f
def spInit (K : PySem.W.Frag) (C Pt : Addr) : Sp := fun vs H Q _ => ∃ (p dx ca ua ma : Addr) (cs us ms : List V) (crs : List CRow) (uns : List (Str × List Str)),
  vs = [.ref p, .ref ca, .ref ua, .ref ma] ∧ H p = some (.ins C dx []) ∧ SqT K H ca cs ∧ RpL K H cs (crs.map crD) ∧ SqT K H ua us ∧ RpL K H us (uns.map unD) ∧ SqT K H ma ms ∧ RpL K H ms [stD "say" [.int 2]] ∧ (crs.map CRow.nm).Nodup ∧ crs.length ≤ 10 ∧ uns.length ≤ 10 ∧ (∀ r ∈ crs, r.fs.length ≤ 100) ∧ (∀ u ∈ uns, u.2.length ≤ 100) ∧
  (∀ r ∈ crs, ∀ q, r.par = some q → (rowF crs q).isSome = true) ∧ GxR.TabG H Pt ∧ ∀ H' : Hp, (∀ b o, H b = some o → b ≠ p → b ≠ Pt → H' b = some o) → GxR.TabG H' Pt → PgH K C H' p (holdP crs) (domP crs) → Q .non H'
theorem fld_new {x y : Str} {v : V} {fs : List (Str × V)} : (putF x v fs).lookup y = if y = x then some v else fs.lookup y := lookup_putF x y v fs
theorem rowF_snoc {xs : List CRow} {r : CRow} (h : r.nm ∉ xs.map CRow.nm) (c : Str) : rowF (xs ++ [r]) c = if c = r.nm then some r else rowF xs c := by
  unfold rowF
  rw [List.find?_append]
  by_cases e : c = r.nm
  · rw [if_pos e]
    have h0 : xs.find? (fun r => decide (r.nm = c)) = none := List.find?_eq_none.mpr fun z hz hd => h (List.mem_map.mpr ⟨z, hz, by rw [of_decide_eq_true hd, e]⟩)
    rw [h0, Option.none_or]
    rw [List.find?_cons_of_pos (by rw [e]; exact decide_eq_true rfl)]
  · rw [if_neg e]
    cases hx : xs.find? (fun r => decide (r.nm = c)) with
    | some z => rfl
    | none =>
      rw [Option.none_or, List.find?_cons_of_neg (by simpa using fun e2 => e e2.symm)]
      rfl
theorem rowF_mem {crs : List CRow} {c : Str} {r : CRow} (h : rowF crs c = some r) : r ∈ crs ∧ r.nm = c := ⟨List.mem_of_find?_eq_some h, of_decide_eq_true (List.find?_some (p := fun r : CRow => decide (r.nm = c)) h)⟩
theorem rowF_of {crs : List CRow} {r : CRow} (h : r ∈ crs) : (rowF crs r.nm).isSome = true := by
  unfold rowF
  rw [List.find?_isSome]
  exact ⟨r, h, decide_eq_true rfl⟩
theorem linG_some {row : Str → Option CRow} : ∀ (n : Nat) (ns : List Str), (∀ d ∈ ns, (row d).isSome = true) → ∀ d ∈ linG row n ns, (row d).isSome = true
  | 0, ns, h => h
  | n + 1, ns, h => by
    unfold linG
    split
    · exact h
    · split
      · exact h
      · split
        · exact h
        · rename_i p _ hp
          refine linG_some n _ fun d hd => ?_
          rcases List.mem_cons.mp hd with rfl | hd
          · cases e : row d with
            | none => exact absurd (.inr e) hp
            | some _ => rfl
          · exact h d hd
theorem linG_len {row : Str → Option CRow} : ∀ (n : Nat) (ns : List Str), (linG row n ns).length ≤ ns.length + n
  | 0, ns => Nat.le_refl _
  | n + 1, ns => by
    unfold linG
    split
    · exact Nat.zero_le _
    · split
      · omega
      · split
        · omega
        · refine Nat.le_trans (linG_len n _) ?_
          simp only [List.length_cons]
          omega
/-- a body without flags -/
def BodyOk (K : PySem.W.Frag) (H : Hp) (v : V) : Prop := ∃ (t e : Addr) (v2 : V) (ss : List (Str × List PyData)), v = .ref t ∧ SqT K H t [.ref e, v2] ∧ SqT K H e [] ∧ Rp K H v2 (.tuple (ss.map fun s => stD s.1 s.2)) ∧ (∀ s ∈ ss, plainS s.1) ∧ ss.length ≤ 1000
theorem BodyOk.keep {H H' : Hp} {v : V} (h : BodyOk K H v) (k : KeepT K H H') : BodyOk K H' v := by
  obtain ⟨t, e, v2, ss, e1, e2, e3, e4, e5⟩ := h
  exact ⟨t, e, v2, ss, e1, k _ _ e2, k _ _ e3, e4.keep k, e5⟩
theorem stage {C p a dx : Addr} {H : Hp} {o : HO} {fs fs' : List (Str × V)} (hp : H p = some (.ins C dx fs)) (ha : H a = none) :
    Kp p H (upd (upd H a o) p (.ins C dx fs')) ∧ KeepT K H (upd (upd H a o) p (.ins C dx fs')) ∧ (upd (upd H a o) p (.ins C dx fs')) p = some (.ins C dx fs') ∧ (upd (upd H a o) p (.ins C dx fs')) a = some o ∧ a ≠ p := by
  have np : a ≠ p := (ne_of_none hp ha).symm
  have hp2 : (upd H a o) p = some (.ins C dx fs) := My.Same.new ha _ _ hp
  refine ⟨fun b x hb hn => ?_, (KeepT.of (My.Same.new ha)).trans (.upd (.ins hp2)), upd_same, by rw [upd_ne np, upd_same], np⟩
  rw [upd_ne hn]
  exact My.Same.new ha _ _ hb
theorem CrAt.kp {H H' : Hp} {a p : Addr} {row : Str → Option CRow} (h : CrAt K H a row) (k : Kp p H H') (t : KeepT K H H') (n : a ≠ p) : CrAt K H' a row := by
  obtain ⟨kvs, e, q⟩ := h
  exact ⟨kvs, k _ _ e n, fun c => (q c).imp_right fun ⟨v, r, h1, h2, h3⟩ => ⟨v, r, h1, h2, h3.keep t⟩⟩
theorem mem_putK {κ : Type} [DecidableEq κ] {kvs : List (κ × V)} {k : κ} {v : V} {x : κ × V} (h : x ∈ putK kvs k v) : x ∈ kvs ∨ x.2 = v := by
  unfold putK at h
  split at h
  · obtain ⟨y, hy, e⟩ := List.mem_map.mp h
    split at e
    · rw [← e]
      exact .inr rfl
    · rw [← e]
      exact .inl hy
  · rcases List.mem_append.mp h with h | h
    · exact .inl h
    · rw [List.mem_singleton.mp h]
      exact .inr rfl
theorem keepT2 {H H' : Hp} {a1 a2 : Addr} (h : ∀ b o, H b = some o → b ≠ a1 → b ≠ a2 → H' b = some o) (n1 : NoTup H a1) (n2 : NoTup H a2) : KeepT K H H' := fun b xs hb => by
  rcases hb with (hb | ⟨u, hb⟩) | hb
  · exact .inl (.inl (h _ _ hb (fun e => n1.1 xs (e ▸ hb)) (fun e => n2.1 xs (e ▸ hb))))
  · exact .inl (.inr ⟨u, h _ _ hb (fun e => n1.2 u xs (e ▸ hb)) (fun e => n2.2 u xs (e ▸ hb))⟩)
  · exact .inr hb
theorem plain_say : plainS "say" := ⟨by decide, by decide, by decide⟩
theorem BodyOk.of {H : Hp} {v v2 : V} {t e : Addr} {i : Int} (h1 : v = .ref t) (h2 : SqT K H t [.ref e, v2]) (h3 : SqT K H e []) (h4 : Rp K H v2 (.tuple [stD "say" [.int i]])) : BodyOk K H v :=
  ⟨t, e, v2, [("say", [.int i])], h1, h2, h3, h4, fun s hs => by rw [List.mem_singleton.mp hs]; exact plain_say, by show 1 ≤ 1000; decide⟩
theorem BodyOk.ofD {H : Hp} {v : V} (h : Rp K H v bodyD) : BodyOk K H v := by
  obtain ⟨t, xs, rfl, hT, hL⟩ := (show Rp K H v (.tuple [.tuple [], .tuple [.tuple [.str "say", .int 1]]]) from h).inv
  obtain ⟨v1, xs, rfl, h1, hL⟩ := hL.inv_cons
  obtain ⟨v2, xs, rfl, h2, hL⟩ := hL.inv_cons
  cases hL.inv_nil
  obtain ⟨e, xs, rfl, hE, hEL⟩ := h1.inv
  cases hEL.inv_nil
  exact .of rfl hT hE h2
theorem none_kp {H H' : Hp} {a p : Addr} (k : Kp p H H') (n : a ≠ p) (h : H' a = none) : H a = none := by
  cases e : H a with
  | none => rfl
  | some o => rw [k _ _ e n] at h; cases h
theorem body_put {H H7 : Hp} {ba e t q : Addr} {bd : List (List Key × V)} {v2 k1 k2 : V} {ss : List (Str × List PyData)} {key : List Key} (f4 : ∀ b o, H b = some o → b ≠ ba → H7 b = some o) (t4 : KeepT K H H7) (hbd : H7 ba = some (.dT bd)) (qbd : ∀ x ∈ bd, BodyOk K H7 x.2)
    (he : H7 e = none) (ht : (upd H7 e (.tup [])) t = none) (hq : (upd (upd H7 e (.tup [])) t (.tup [.ref e, v2])) q = none) (hv : Rp K H7 v2 (.tuple (ss.map fun s => stD s.1 s.2))) (hs : ∀ s ∈ ss, plainS s.1) (hl : ss.length ≤ 1000) :
    let H8 := upd (upd (upd (upd H7 e (.tup [])) t (.tup [.ref e, v2])) q (.tup [k1, k2])) ba (.dT (putK bd key (.ref t)))
    (∀ b o, H b = some o → b ≠ ba → H8 b = some o) ∧ KeepT K H H8 ∧ H8 ba = some (.dT (putK bd key (.ref t))) ∧ ∀ x ∈ putK bd key (.ref t), BodyOk K H8 x.2 := by
  have s1 := My.Same.new (o := .tup []) he
  have s2 := s1.trans (My.Same.new (o := .tup [.ref e, v2]) ht)
  have s3 := s2.trans (My.Same.new (o := .tup [k1, k2]) hq)
  have s13 := (My.Same.new (o := .tup [.ref e, v2]) ht).trans (My.Same.new (o := .tup [k1, k2]) hq)
  have s23 := My.Same.new (o := .tup [k1, k2]) hq
  have t8 : KeepT K H7 (upd (upd (upd (upd H7 e (.tup [])) t (.tup [.ref e, v2])) q (.tup [k1, k2])) ba (.dT (putK bd key (.ref t)))) := (KeepT.of s3).trans (.upd (.dT (s3 _ _ hbd)))
  have u8 : ∀ a xs, SqT K (upd (upd (upd H7 e (.tup [])) t (.tup [.ref e, v2])) q (.tup [k1, k2])) a xs → SqT K (upd (upd (upd (upd H7 e (.tup [])) t (.tup [.ref e, v2])) q (.tup [k1, k2])) ba (.dT (putK bd key (.ref t)))) a xs := KeepT.upd (.dT (s3 _ _ hbd))
  refine ⟨fun b o hb hn => ?_, t4.trans t8, upd_same, fun x hx => ?_⟩
  · rw [upd_ne hn]
    exact s3 _ _ (f4 _ _ hb hn)
  · rcases mem_putK hx with hx | hx
    · exact (qbd x hx).keep t8
    · rw [hx]
      exact ⟨t, e, v2, ss, rfl, u8 _ _ (SqT.of (s23 _ _ upd_same)), u8 _ _ (SqT.of (s13 _ _ upd_same)), hv.keep t8, hs, hl⟩
/-- midway through the classes -/
structure CcAt (K : PySem.W.Frag) (C : Addr) (crs : List CRow) (p dx ka oa fa ba ra : Addr) (fs : List (Str × V)) (i : Nat) (H H1 : Hp) : Prop where
  kp : Kp p H H1
  kt : KeepT K H H1
  pp : H1 p = some (.ins C dx fs)
  cr : CrAt K H1 ra (rowF crs)
  ko : H1 oa = some (.dT [])
  kf : ∃ fl, H1 fa = some (.dK fl) ∧ fl.length ≤ 10 + i
  kk : ∃ kd, H1 ka = some (.dT kd) ∧ kd.length ≤ 2000 * i ∧ ∀ c ∈ (crs.take i).map CRow.nm, ∀ f ∈ (allF crs c).map Fld.f, KdOk K H1 kd c f (lastC (allF crs c) f)
  kb : ∃ bd, H1 ba = some (.dT bd) ∧ bd.length ≤ i ∧ ∀ x ∈ bd, BodyOk K H1 x.2
theorem ok_Program_init (T : Txt K mg) (TB : TBs base T) : FnOk P w K mg base CX0 6 T.a_Program_init T.d_Program_init ["self", "classes", "units", "main"] (spInit K T.C_Program T.P_uses_flags) :=
  T.F_Program_init.ok sc_Program_init (fun vs H Q E h => by obtain ⟨p, dx, ca, ua, ma, cs, us, ms, crs, uns, rfl, _⟩ := h; rfl) fun cdv A outer s H vs Q E hr h => by
    obtain ⟨p, dx, ca, ua, ma, cs, us, ms, crs, uns, rfl, hp, hca, hcl, hua, hul, hma, hml, nd, hc10, hu10, hf100, hu100, hpar, htab, k⟩ := h
    refine ⟨_,
      -- self.classes = tuple(classes)
      (pss_cons (ps_fld (pv 0) (pe_callTy call_tuple_of (by rfl) T.z_tuple (by decide +kernel) (pa_cons (pv 1) pa_nil)) rfl)
      -- self.units = tuple(units)
      (pss_cons (ps_fld (pv 0) (pe_callTy call_tuple_of (by rfl) T.z_tuple (by decide +kernel) (pa_cons (pv 2) pa_nil)) rfl)
      -- self.main = tuple(main)
      (pss_cons (ps_fld (pv 0) (pe_callTy call_tuple_of (by rfl) T.z_tuple (by decide +kernel) (pa_cons (pv 3) pa_nil)) rfl)
      -- self.class_rows = {row[0]: row for row in self.classes}
      (pss_cons (ps_fld (pv 0) (pe_dc (own := [("row", 4)]) (g := gName 4) (tt := tYes) rfl sc_Program_init.nd (pi_tup (pe_fld (pv 0) rfl)) (blkOk_by (N := ["self", "classes", "units", "main", "row", "method"]) (sc := defScope s_Program_init) (by decide +kernel)) (fun _ _ _ _ _ => pg_name (i := 4) sc_Program_init.nd rfl (Or.inl rfl)) (fun _ _ _ _ _ => pts_nil) (fun _ _ _ _ _ => (pe_ix (ix_tup : IxR _ (rIxT K)) (pv 4) pe_int (fun _ _ => rfl))) (fun _ _ _ _ _ => (pv 4))) rfl)
      -- self.unit_rows = {row[0]: row for row in self.units}
      (pss_cons (ps_fld (pv 0) (pe_dc (own := [("row", 4)]) (g := gName 4) (tt := tYes) rfl sc_Program_init.nd (pi_tup (pe_fld (pv 0) rfl)) (blkOk_by (N := ["self", "classes", "units", "main", "row", "method"]) (sc := defScope s_Program_init) (by decide +kernel)) (fun _ _ _ _ _ => pg_name (i := 4) sc_Program_init.nd rfl (Or.inl rfl)) (fun _ _ _ _ _ => pts_nil) (fun _ _ _ _ _ => (pe_ix (ix_tup : IxR _ (rIxT K)) (pv 4) pe_int (fun _ _ => rfl))) (fun _ _ _ _ _ => (pv 4))) rfl)
      -- self.field_lists = {row[0]: tuple(row[1]) for row in self.units}
      (pss_cons (ps_fld (pv 0) (pe_dc (own := [("row", 4)]) (g := gName 4) (tt := tYes) rfl sc_Program_init.nd (pi_tup (pe_fld (pv 0) rfl)) (blkOk_by (N := ["self", "classes", "units", "main", "row", "method"]) (sc := defScope s_Program_init) (by decide +kernel)) (fun _ _ _ _ _ => pg_name (i := 4) sc_Program_init.nd rfl (Or.inl rfl)) (fun _ _ _ _ _ => pts_nil) (fun _ _ _ _ _ => (pe_ix (ix_tup : IxR _ (rIxT K)) (pv 4) pe_int (fun _ _ => rfl))) (fun _ _ _ _ _ => (pe_callTy (call_tuple_of : CallR _ (.type "tuple") (fun xs H Q => ∃ p ys, xs = [.ref p] ∧ ((SqL K H p ys ∧ ∀ l, H l = none → Q (.ref l) (L2.upd H l (.tup ys))) ∨ (SqT K H p ys ∧ Q (.ref p) H)))) (by rfl) T.z_tuple (by decide +kernel) (pa_cons (pe_ix (ix_tup : IxR _ (rIxT K)) (pv 4) pe_int (fun _ _ => rfl)) pa_nil)))) rfl)
      -- self.field_kinds = {}
      (pss_cons (ps_fld (pv 0) pe_dnewT rfl)
      -- self.owners = {}
      (pss_cons (ps_fld (pv 0) pe_dnewT rfl)
      -- self.body_rows = {}
      (pss_cons (ps_fld (pv 0) pe_dnewT rfl)
      -- for row in self.classes:
      (pss_cons (ps_for PassesOwn.never rfl (pi_tup (pe_fld (pv 0) rfl)) (pg_name (i := 4) sc_Program_init.nd rfl (Or.inl rfl)) 
        -- self.inherit(row[0])
        (pss_cons (ps_expr (pe_meth (pv 0) T.cl_Program T.m_Program_inherit (ok_Program_inherit T) (hr.mono (by first | decide | omega)) T.b_Program_inherit .nil pass0 (pa_cons (pe_ix ix_tup (pv 4) pe_int (fun _ _ => rfl)) pa_nil)))
        -- self.body_rows[row[0], 'init'] = row[3]
        (pss_cons (ps_dput (hu_of hr) (pe_fld (pv 0) rfl) (pe_tup (pa_cons (pe_ix ix_tup (pv 4) pe_int (fun _ _ => rfl)) (pa_cons pe_str pa_nil))) (pe_ix ix_tup (pv 4) pe_int (fun _ _ => rfl)) rfl)
        -- for method in row[4]:
        (pss_one (ps_for PassesOwn.never rfl (pi_tup (pe_ix ix_tup (pv 4) pe_int (fun _ _ => rfl))) (pg_name (i := 5) sc_Program_init.nd rfl (Or.inl rfl)) 
          -- self.body_rows[row[0], method[0]] = (method[1], method[2])
          (pss_one (ps_dput (hu_of hr) (pe_fld (pv 0) rfl) (pe_tup (pa_cons (pe_ix ix_tup (pv 4) pe_int (fun _ _ => rfl)) (pa_cons (pe_ix ix_tup (pv 5) pe_int (fun _ _ => rfl)) pa_nil))) (pe_tup (pa_cons (pe_ix ix_tup (pv 5) pe_int (fun _ _ => rfl)) (pa_cons (pe_ix ix_tup (pv 5) pe_int (fun _ _ => rfl)) pa_nil))) rfl)))))))
      -- for row in self.units:
      (pss_cons (ps_for PassesOwn.never rfl (pi_tup (pe_fld (pv 0) rfl)) (pg_name (i := 4) sc_Program_init.nd rfl (Or.inl rfl)) 
        -- self.body_rows[row[0], 'start'] = ((), row[2])
        (pss_one (ps_dput (hu_of hr) (pe_fld (pv 0) rfl) (pe_tup (pa_cons (pe_ix ix_tup (pv 4) pe_int (fun _ _ => rfl)) (pa_cons pe_str pa_nil))) (pe_tup (pa_cons (pe_tup pa_nil) (pa_cons (pe_ix ix_tup (pv 4) pe_int (fun _ _ => rfl)) pa_nil))) rfl)))
      -- self.body_rows['', 'main'] = ((), self.main)
      (pss_cons (ps_dput (hu_of hr) (pe_fld (pv 0) rfl) (pe_tup (pa_cons pe_str (pa_cons pe_str pa_nil))) (pe_tup (pa_cons (pe_tup pa_nil) (pa_cons (pe_fld (pv 0) rfl) pa_nil))) rfl)
      -- self.flagged = any([uses_flags(row[0], row[1]) for row in list(self.body_rows.values())])
      (pss_one (ps_fld (pv 0) (pe_callB (cr_any rfl) (by rfl) T.z_any (by decide +kernel) (pa_cons (pe_lc (own := [("row", 4)]) (g := gName 4) (tt := tYes) rfl sc_Program_init.nd (pi_list (My.pe_listValsT rfl (pe_fld (pv 0) rfl) (by rfl) T.z_list (by rfl))) (blkOk_by (N := ["self", "classes", "units", "main", "row", "method"]) (sc := defScope s_Program_init) (by decide +kernel)) (fun _ _ _ _ _ => pg_name (i := 4) sc_Program_init.nd rfl (Or.inl rfl)) (fun _ _ _ _ _ => pts_nil) (fun _ _ _ _ _ => (pe_call (ok_uses_flags T TB) (hr.mono (by first | decide | omega)) (by rfl) T.g_uses_flags T.F_uses_flags.kp T.b_uses_flags .nil pass0 (pa_cons (pe_ix (ix_tup : IxR _ (rIxT K)) (pv 4) pe_int (fun _ _ => rfl)) (pa_cons (pe_ix (ix_tup : IxR _ (rIxT K)) (pv 4) pe_int (fun _ _ => rfl)) pa_nil))))) pa_nil)) rfl))))))))))))))
      , ?_⟩
    refine sig [some (.ref p), some (.ref ca), some (.ref ua), some (.ref ma), none, none] rfl ?_
    have two : ∀ o o' : HO, upd (upd H p o) p o' = upd H p o' := fun o o' => by
      funext b
      by_cases hb : b = p
      · subst hb
        rw [upd_same, upd_same]
      · rw [upd_ne hb, upd_ne hb, upd_ne hb]
    have kpt : ∀ fs : List (Str × V), KeepT K H (upd H p (.ins T.C_Program dx fs)) := fun fs => .upd (.ins hp)
    walk_at "s"
    refine ⟨_, .inr ⟨hca, _, _, _, hp, T.cl_Program, T.n_Program_classes, by decide, ?_⟩⟩
    generalize hf1 : putF (Str.ofString "classes") (V.ref ca) [] = f1
    have l1 : f1.length ≤ 1 := by rw [← hf1]; exact length_putF _ _ _
    walk_at "s"
    refine ⟨_, .inr ⟨kpt _ _ _ hua, _, _, _, upd_same, T.cl_Program, T.n_Program_units, by omega, ?_⟩⟩
    rw [two]
    generalize hf2 : putF (Str.ofString "units") (V.ref ua) f1 = f2
    have l2 : f2.length ≤ 2 := by rw [← hf2]; exact Nat.le_trans (length_putF _ _ _) (by omega)
    walk_at "s"
    refine ⟨_, .inr ⟨kpt _ _ _ hma, _, _, _, upd_same, T.cl_Program, T.n_Program_main, by omega, ?_⟩⟩
    rw [two]
    generalize hf3 : putF (Str.ofString "main") (V.ref ma) f2 = f3
    have l3 : f3.length ≤ 3 := by rw [← hf3]; exact Nat.le_trans (length_putF _ _ _) (by omega)
    have c3 : f3.lookup ("classes" : Str) = some (.ref ca) := by rw [← hf3, fld_new, if_neg (by decide), ← hf2, fld_new, if_neg (by decide), ← hf1, fld_new, if_pos rfl]
    have u3 : f3.lookup ("units" : Str) = some (.ref ua) := by rw [← hf3, fld_new, if_neg (by decide), ← hf2, fld_new, if_pos rfl]
    have m3 : f3.lookup ("main" : Str) = some (.ref ma) := by rw [← hf3, fld_new, if_pos rfl]
    have n3 : ∀ x : Str, x ≠ "main" → x ≠ "units" → x ≠ "classes" → f3.lookup x = none := fun x a b c => by rw [← hf3, fld_new, if_neg a, ← hf2, fld_new, if_neg b, ← hf1, fld_new, if_neg c]; rfl
    have k3 : Kp p H (upd H p (.ins T.C_Program dx f3)) := (Kp.refl p H).upd
    generalize hH3 : upd H p (.ins T.C_Program dx f3) = H3 at k3
    have p3 : H3 p = some (.ins T.C_Program dx f3) := by rw [← hH3]; exact upd_same
    have t3 : KeepT K H H3 := by rw [← hH3]; exact kpt _
    have hn : cs.length = crs.length := by rw [hcl.len, List.length_map]
    refine seqCut fun N hN => ?_
    walk_at "rd"
    refine ⟨_, _, _, p3, T.cl_Program, T.n_Program_classes, _, c3, _, rfl, ⟨_, t3 _ _ hca⟩, fun D hD => ?_⟩
    refine DcW.by walk_tup (fun i H4 => Same H3 H4 ∧ ∃ kv, H4 D = some (.dK kv) ∧ kv.length ≤ i ∧ ∀ c, (valV kv (Sum.inr c) = none ∧ rowF (crs.take i) c = none) ∨ ∃ v r, valV kv (Sum.inr c) = some v ∧ rowF (crs.take i) c = some r ∧ Rp K H4 v (crD r))
      ⟨My.Same.new hD, [], upd_same, Nat.le_refl _, fun c => .inl ⟨rfl, rfl⟩⟩ (fun i H4 _ hh => (KeepT.of hh.1) _ _ (t3 _ _ hca)) ?_ ?_
    · rintro i x H5 H4 hi ⟨s4, kv, e4, l4, q4⟩ ⟨rfl, hx⟩
      have hi2 : i < crs.length := by omega
      obtain ⟨x', ex, rx⟩ := hcl.get (i := i) (d := crD crs[i]) (by rw [List.getElem?_map, List.getElem?_eq_getElem hi2]; rfl)
      rw [hx] at ex
      cases ex
      have rx := (rx.keep t3).same s4
      obtain ⟨ra0, rx0, rfl, hrT, hrL⟩ := id rx.inv
      obtain ⟨w1, r2, rfl, g1, _⟩ := hrL.inv_cons
      cases g1.inv_str
      have tk : crs.take (i + 1) = crs.take i ++ [crs[i]] := by rw [List.take_add_one, List.getElem?_eq_getElem hi2]; rfl
      have hno : crs[i].nm ∉ (crs.take i).map CRow.nm := by
        have h2 : (crs.take (i + 1)).map CRow.nm <+: crs.map CRow.nm := (List.take_prefix _ _).map _
        have h3 := nd.sublist h2.sublist
        rw [tk, List.map_append, List.nodup_append] at h3
        exact fun hm => h3.2.2 _ hm _ (List.mem_singleton.mpr rfl) rfl
      walk_at "rd"
      have kt4 : KeepT K H4 (upd H4 D (.dK (putK kv (Sum.inr crs[i].nm) (V.ref ra0)))) := .upd (.dK e4)
      refine ⟨_, hrT, .str crs[i].nm, atI_nat (j := 0) rfl, kv, Sum.inr crs[i].nm, rfl, e4, by rw [sizeLine_eq]; omega, My.Same.mut s4 hD, _, upd_same, Nat.le_trans (length_putK _ _ _) (by omega), fun c => ?_⟩
      rw [tk, rowF_snoc hno, valV_put]
      by_cases e : c = crs[i].nm
      · subst e
        rw [if_pos rfl, if_pos rfl]
        exact .inr ⟨_, rfl, _, rfl, rx.keep kt4⟩
      · rw [if_neg e, if_neg (fun h => e (by injection h))]
        rcases q4 c with q | ⟨v, r, a1, a2, a3⟩
        · exact .inl q
        · exact .inr ⟨v, a1, r, a2, a3.keep kt4⟩
    · rintro H4 ⟨s4, kv, e4, l4, q4⟩
      rw [hn, List.take_length] at q4
      have cr4 : CrAt K H4 D (rowF crs) := ⟨kv, e4, fun c => (q4 c).imp_right fun ⟨v, r, h⟩ => ⟨v, r, h⟩⟩
      have p4 := s4 _ _ p3
      refine ⟨_, _, _, p4, T.cl_Program, T.n_Program_class_rows, by omega, ?_⟩
      have crl : ∀ H5, Same H4 H5 → CrAt K (upd H5 p (.ins T.C_Program dx (putF (Str.ofString "class_rows") (.ref D) f3))) D (rowF crs) := fun H5 s5 => by
        refine ⟨kv, ?_, fun c => (q4 c).imp_right fun ⟨v, r, h1, h2, h3⟩ => ⟨v, r, h1, h2, (h3.same s5).keep (.upd (.ins (s5 _ _ p4)))⟩⟩
        rw [upd_ne (ne_of_none p3 hD).symm]
        exact s5 _ _ e4
      have cr5 := crl H4 (.refl _)
      clear crl
      generalize hf4 : putF (Str.ofString "class_rows") (V.ref D) f3 = f4 at cr5 ⊢
      have l4 : f4.length ≤ 4 := by rw [← hf4]; exact Nat.le_trans (length_putF _ _ _) (by omega)
      have c4 : f4.lookup ("classes" : Str) = some (.ref ca) := by rw [← hf4, fld_new, if_neg (by decide)]; exact c3
      have u4 : f4.lookup ("units" : Str) = some (.ref ua) := by rw [← hf4, fld_new, if_neg (by decide)]; exact u3
      have m4 : f4.lookup ("main" : Str) = some (.ref ma) := by rw [← hf4, fld_new, if_neg (by decide)]; exact m3
      have r4 : f4.lookup ("class_rows" : Str) = some (.ref D) := by rw [← hf4, fld_new, if_pos rfl]
      have n4 : ∀ x : Str, x ≠ "class_rows" → x ≠ "main" → x ≠ "units" → x ≠ "classes" → f4.lookup x = none := fun x a b c d => by rw [← hf4, fld_new, if_neg a]; exact n3 x b c d
      have k5 : Kp p H (upd H4 p (.ins T.C_Program dx f4)) := (k3.trans (.of s4)).upd
      have t5 : KeepT K H (upd H4 p (.ins T.C_Program dx f4)) := (t3.trans (.of s4)).trans (.upd (.ins p4))
      have p5 : (upd H4 p (.ins T.C_Program dx f4)) p = some (.ins T.C_Program dx f4) := upd_same
      generalize upd H4 p (.ins T.C_Program dx f4) = H5 at cr5 k5 t5 p5 ⊢
      have D0 : H D = none := none_kp k3 (ne_of_none p3 hD).symm hD
      clear cr4 q4 e4 s4 hD
      subst hN
      refine seqCut fun N hN => ?_
      have hun : us.length = uns.length := by rw [hul.len, List.length_map]
      walk_at "rd"
      refine ⟨_, _, _, p5, T.cl_Program, T.n_Program_units, _, u4, _, rfl, ⟨_, t5 _ _ hua⟩, fun D2 hD2 => ?_⟩
      refine DcW.by walk_tup (fun i H4 => Same H5 H4 ∧ ∃ kv, H4 D2 = some (.dK kv) ∧ kv.length ≤ i) ⟨My.Same.new hD2, [], upd_same, Nat.le_refl _⟩ (fun i H4 _ hh => (KeepT.of hh.1) _ _ (t5 _ _ hua)) ?_ ?_
      · rintro i x H6 H7 hi ⟨s4, kv, e4, l4⟩ ⟨rfl, hx⟩
        have hi2 : i < uns.length := by omega
        obtain ⟨x', ex, rx⟩ := hul.get (i := i) (d := unD uns[i]) (by rw [List.getElem?_map, List.getElem?_eq_getElem hi2]; rfl)
        rw [hx] at ex
        cases ex
        have rx := (rx.keep t5).same s4
        obtain ⟨ra0, rx0, rfl, hrT, hrL⟩ := id rx.inv
        obtain ⟨w1, r2, rfl, g1, _⟩ := hrL.inv_cons
        cases g1.inv_str
        walk_at "rd"
        exact ⟨_, hrT, .str uns[i].1, atI_nat (j := 0) rfl, kv, Sum.inr uns[i].1, rfl, e4, by rw [sizeLine_eq]; omega, My.Same.mut s4 hD2, _, upd_same, Nat.le_trans (length_putK _ _ _) (by omega)⟩
      · rintro H4 ⟨s4, kv, e4, _⟩
        have p4 := s4 _ _ p5
        refine ⟨_, _, _, p4, T.cl_Program, T.n_Program_unit_rows, by omega, ?_⟩
        have nD : p ≠ D := fun e => by
          obtain ⟨kv, e1, _⟩ := cr5
          rw [← e, p5] at e1
          cases e1
        have pu : ∀ {H6 : Hp} {fs : List (Str × V)}, H6 p = some (.ins T.C_Program dx fs) → CrAt K H6 D (rowF crs) → ∀ fs', CrAt K (upd H6 p (.ins T.C_Program dx fs')) D (rowF crs) := fun {H6 fs} h6 c6 fs' => by
          obtain ⟨kv, e1, e2⟩ := c6
          refine ⟨kv, by rw [upd_ne nD.symm]; exact e1, fun c => (e2 c).imp_right fun ⟨v, r, h1, h2, h3⟩ => ⟨v, r, h1, h2, h3.keep (.upd (.ins h6))⟩⟩
        generalize hf5 : putF (Str.ofString "unit_rows") (V.ref D2) f4 = f5
        have l5 : f5.length ≤ 5 := by rw [← hf5]; exact Nat.le_trans (length_putF _ _ _) (by omega)
        have c5 : f5.lookup ("classes" : Str) = some (.ref ca) := by rw [← hf5, fld_new, if_neg (by decide)]; exact c4
        have u5 : f5.lookup ("units" : Str) = some (.ref ua) := by rw [← hf5, fld_new, if_neg (by decide)]; exact u4
        have m5 : f5.lookup ("main" : Str) = some (.ref ma) := by rw [← hf5, fld_new, if_neg (by decide)]; exact m4
        have r5 : f5.lookup ("class_rows" : Str) = some (.ref D) := by rw [← hf5, fld_new, if_neg (by decide)]; exact r4
        have n5 : ∀ x : Str, x ≠ "unit_rows" → x ≠ "class_rows" → x ≠ "main" → x ≠ "units" → x ≠ "classes" → f5.lookup x = none := fun x a b c d e => by rw [← hf5, fld_new, if_neg a]; exact n4 x b c d e
        have k6 : Kp p H (upd H4 p (.ins T.C_Program dx f5)) := (k5.trans (.of s4)).upd
        have t6 : KeepT K H (upd H4 p (.ins T.C_Program dx f5)) := (t5.trans (.of s4)).trans (.upd (.ins p4))
        have p6 : (upd H4 p (.ins T.C_Program dx f5)) p = some (.ins T.C_Program dx f5) := upd_same
        have cr6 := pu p4 (cr5.same s4) f5
        generalize upd H4 p (.ins T.C_Program dx f5) = H6 at cr6 k6 t6 p6 ⊢
        clear s4 e4 hD2 cr5 k5 t5 p5
        subst hN
        refine seqCut fun N hN => ?_
        walk_at "rd"
        refine ⟨_, _, _, p6, T.cl_Program, T.n_Program_units, _, u5, _, rfl, ⟨_, t6 _ _ hua⟩, fun D3 hD3 => ?_⟩
        refine DcW.by walk_tup (fun i H4 => Same H6 H4 ∧ ∃ kv, H4 D3 = some (.dK kv) ∧ kv.length ≤ i) ⟨My.Same.new hD3, [], upd_same, Nat.le_refl _⟩ (fun i H4 _ hh => (KeepT.of hh.1) _ _ (t6 _ _ hua)) ?_ ?_
        · rintro i x H6 H7 hi ⟨s4, kv, e4, l4⟩ ⟨rfl, hx⟩
          have hi2 : i < uns.length := by omega
          obtain ⟨x', ex, rx⟩ := hul.get (i := i) (d := unD uns[i]) (by rw [List.getElem?_map, List.getElem?_eq_getElem hi2]; rfl)
          rw [hx] at ex
          cases ex
          have rx := (rx.keep t6).same s4
          obtain ⟨ra0, rx0, rfl, hrT, hrL⟩ := id rx.inv
          obtain ⟨w1, r2, rfl, g1, hrL⟩ := hrL.inv_cons
          obtain ⟨w2, r2, rfl, g2, hrL⟩ := hrL.inv_cons
          cases g1.inv_str
          obtain ⟨fa, fx, rfl, hfT, hfL⟩ := g2.inv
          walk_at "rd"
          exact ⟨_, hrT, .str uns[i].1, atI_nat (j := 0) rfl, _, hrT, _, atI_nat (j := 1) rfl, _, rfl, _, .inr ⟨hfT, kv, Sum.inr uns[i].1, rfl, e4, by rw [sizeLine_eq]; omega, My.Same.mut s4 hD3, _, upd_same, Nat.le_trans (length_putK _ _ _) (by omega)⟩⟩
        · rintro H4 ⟨s4, fl, e4, hfl⟩
          have p4 := s4 _ _ p6
          refine ⟨_, _, _, p4, T.cl_Program, T.n_Program_field_lists, by omega, ?_⟩
          generalize hf6 : putF (Str.ofString "field_lists") (V.ref D3) f5 = f6
          have l6 : f6.length ≤ 6 := by rw [← hf6]; exact Nat.le_trans (length_putF _ _ _) (by omega)
          have c6 : f6.lookup ("classes" : Str) = some (.ref ca) := by rw [← hf6, fld_new, if_neg (by decide)]; exact c5
          have u6 : f6.lookup ("units" : Str) = some (.ref ua) := by rw [← hf6, fld_new, if_neg (by decide)]; exact u5
          have m6 : f6.lookup ("main" : Str) = some (.ref ma) := by rw [← hf6, fld_new, if_neg (by decide)]; exact m5
          have r6 : f6.lookup ("class_rows" : Str) = some (.ref D) := by rw [← hf6, fld_new, if_neg (by decide)]; exact r5
          have q6 : f6.lookup ("field_lists" : Str) = some (.ref D3) := by rw [← hf6, fld_new, if_pos rfl]
          have n6 : ∀ x : Str, x ≠ "field_lists" → x ≠ "unit_rows" → x ≠ "class_rows" → x ≠ "main" → x ≠ "units" → x ≠ "classes" → f6.lookup x = none := fun x h a b c d e => by rw [← hf6, fld_new, if_neg h]; exact n5 x a b c d e
          have k7 : Kp p H (upd H4 p (.ins T.C_Program dx f6)) := (k6.trans (.of s4)).upd
          have t7 : KeepT K H (upd H4 p (.ins T.C_Program dx f6)) := (t6.trans (.of s4)).trans (.upd (.ins p4))
          have p7 : (upd H4 p (.ins T.C_Program dx f6)) p = some (.ins T.C_Program dx f6) := upd_same
          have cr7 := pu p4 (cr6.same s4) f6
          have d37 : (upd H4 p (.ins T.C_Program dx f6)) D3 = some (.dK fl) := by rw [upd_ne (ne_of_none p6 hD3).symm]; exact e4
          rw [hun] at hfl
          have D30 : H D3 = none := none_kp k6 (ne_of_none p6 hD3).symm hD3
          have D3D : D3 ≠ D := by obtain ⟨kv, e1, _⟩ := cr6; exact (ne_of_none e1 hD3).symm
          generalize upd H4 p (.ins T.C_Program dx f6) = H7 at cr7 k7 t7 p7 d37 ⊢
          clear s4 e4 hD3 cr6 k6 t6 p6
          subst hN
          walk_at "s"
          intro ka hka
          refine ⟨_, _, _, My.Same.new hka _ _ p7, T.cl_Program, T.n_Program_field_kinds, by omega, ?_⟩
          generalize hf7 : putF (Str.ofString "field_kinds") (V.ref ka) f6 = f7
          have l7 : f7.length ≤ 7 := by rw [← hf7]; exact Nat.le_trans (length_putF _ _ _) (by omega)
          obtain ⟨a1, a2, p8, ka8, nka⟩ := stage (K := K) (o := .dT []) (fs' := f7) p7 hka
          have k8 := k7.trans a1
          have t8 := t7.trans a2
          have cr8 := cr7.kp a1 a2 nD.symm
          have nD3 : D3 ≠ p := fun e => by rw [e, p7] at d37; cases d37
          have d38 := a1 _ _ d37 nD3
          have ka0 : H ka = none := none_kp k7 nka hka
          have kaD3 : ka ≠ D3 := (ne_of_none d37 hka).symm
          have kaD : ka ≠ D := by obtain ⟨kv, e1, _⟩ := cr7; exact (ne_of_none e1 hka).symm
          generalize upd (upd H7 ka (.dT [])) p (.ins T.C_Program dx f7) = H8 at k8 t8 p8 ka8 cr8 d38 ⊢
          clear a1 a2 hka k7 t7 p7 d37 cr7
          walk_at "s"
          intro oa hoa
          refine ⟨_, _, _, My.Same.new hoa _ _ p8, T.cl_Program, T.n_Program_owners, by omega, ?_⟩
          generalize hf8 : putF (Str.ofString "owners") (V.ref oa) f7 = f8
          have l8 : f8.length ≤ 8 := by rw [← hf8]; exact Nat.le_trans (length_putF _ _ _) (by omega)
          obtain ⟨a1, a2, p9, oa9, noa⟩ := stage (K := K) (o := .dT []) (fs' := f8) p8 hoa
          have k9 := k8.trans a1
          have t9 := t8.trans a2
          have cr9 := cr8.kp a1 a2 nD.symm
          have d39 := a1 _ _ d38 nD3
          have ka9 := a1 _ _ ka8 nka
          have oaka : oa ≠ ka := (ne_of_none ka8 hoa).symm
          have oaD3 : oa ≠ D3 := (ne_of_none d38 hoa).symm
          generalize upd (upd H8 oa (.dT [])) p (.ins T.C_Program dx f8) = H9 at k9 t9 p9 oa9 cr9 d39 ka9 ⊢
          clear a1 a2 hoa k8 t8 p8 d38 cr8 ka8
          walk_at "s"
          intro ba hba
          refine ⟨_, _, _, My.Same.new hba _ _ p9, T.cl_Program, T.n_Program_body_rows, by omega, ?_⟩
          generalize hf9 : putF (Str.ofString "body_rows") (V.ref ba) f8 = f9
          have l9 : f9.length ≤ 9 := by rw [← hf9]; exact Nat.le_trans (length_putF _ _ _) (by omega)
          obtain ⟨a1, a2, p10, ba10, nba⟩ := stage (K := K) (o := .dT []) (fs' := f9) p9 hba
          have k10 := k9.trans a1
          have t10 := t9.trans a2
          have cr10 := cr9.kp a1 a2 nD.symm
          have d310 := a1 _ _ d39 nD3
          have ka10 := a1 _ _ ka9 nka
          have oa10 := a1 _ _ oa9 noa
          have ba0 : H ba = none := none_kp k9 nba hba
          have baka : ba ≠ ka := (ne_of_none ka9 hba).symm
          have baoa : ba ≠ oa := (ne_of_none oa9 hba).symm
          have baD3 : ba ≠ D3 := (ne_of_none d39 hba).symm
          have baD : ba ≠ D := by obtain ⟨kv, e1, _⟩ := cr9; exact (ne_of_none e1 hba).symm
          generalize upd (upd H9 ba (.dT [])) p (.ins T.C_Program dx f9) = H10 at k10 t10 p10 oa10 cr10 d310 ka10 ba10 ⊢
          clear a1 a2 hba k9 t9 p9 d39 cr9 ka9 oa9
          have c9 : f9.lookup ("classes" : Str) = some (.ref ca) := by rw [← hf9, fld_new, if_neg (by decide), ← hf8, fld_new, if_neg (by decide), ← hf7, fld_new, if_neg (by decide)]; exact c6
          have u9 : f9.lookup ("units" : Str) = some (.ref ua) := by rw [← hf9, fld_new, if_neg (by decide), ← hf8, fld_new, if_neg (by decide), ← hf7, fld_new, if_neg (by decide)]; exact u6
          have m9 : f9.lookup ("main" : Str) = some (.ref ma) := by rw [← hf9, fld_new, if_neg (by decide), ← hf8, fld_new, if_neg (by decide), ← hf7, fld_new, if_neg (by decide)]; exact m6
          have r9 : f9.lookup ("class_rows" : Str) = some (.ref D) := by rw [← hf9, fld_new, if_neg (by decide), ← hf8, fld_new, if_neg (by decide), ← hf7, fld_new, if_neg (by decide)]; exact r6
          have q9 : f9.lookup ("field_lists" : Str) = some (.ref D3) := by rw [← hf9, fld_new, if_neg (by decide), ← hf8, fld_new, if_neg (by decide), ← hf7, fld_new, if_neg (by decide)]; exact q6
          have kk9 : f9.lookup ("field_kinds" : Str) = some (.ref ka) := by rw [← hf9, fld_new, if_neg (by decide), ← hf8, fld_new, if_neg (by decide), ← hf7, fld_new, if_pos rfl]
          have oo9 : f9.lookup ("owners" : Str) = some (.ref oa) := by rw [← hf9, fld_new, if_neg (by decide), ← hf8, fld_new, if_pos rfl]
          have bb9 : f9.lookup ("body_rows" : Str) = some (.ref ba) := by rw [← hf9, fld_new, if_pos rfl]
          have n9 : ∀ x : Str, x ≠ "body_rows" → x ≠ "owners" → x ≠ "field_kinds" → x ≠ "field_lists" → x ≠ "unit_rows" → x ≠ "class_rows" → x ≠ "main" → x ≠ "units" → x ≠ "classes" → f9.lookup x = none := fun x g1 g2 g3 h a b c d e => by rw [← hf9, fld_new, if_neg g1, ← hf8, fld_new, if_neg g2, ← hf7, fld_new, if_neg g3]; exact n6 x h a b c d e
          clear hf1 hf2 hf3 hf4 hf5 hf6 hf7 hf8 hf9 c3 u3 m3 n3 c4 u4 m4 r4 n4 c5 u5 m5 r5 n5 c6 u6 m6 r6 q6 n6 pu two kpt
          refine seqCut fun N hN => ?_
          have cc0 : CcAt K T.C_Program crs p dx ka oa D3 ba D f9 0 H H10 := ⟨k10, t10, p10, cr10, oa10, ⟨fl, d310, by omega⟩, ⟨[], ka10, Nat.le_refl _, fun c hc => nomatch hc⟩, ⟨[], ba10, Nat.le_refl _, fun x hx => nomatch hx⟩⟩
          have last : ∀ σ H11, (∃ y4 y5, σ = [some (.ref p), some (.ref ca), some (.ref ua), some (.ref ma), y4, y5] ∧ CcAt K T.C_Program crs p dx ka oa D3 ba D f9 crs.length H H11) → N σ H11 := by
            rintro σ H11 ⟨y4, y5, rfl, cc⟩
            obtain ⟨fl1, hfl1, lfl1⟩ := cc.kf
            obtain ⟨kd1, hkd1, lkd1, qkd1⟩ := cc.kk
            obtain ⟨bd1, hbd1, lbd1, qbd1⟩ := cc.kb
            rw [List.take_length] at qkd1
            have pg : ∀ H12, (∀ b o, H11 b = some o → b ≠ p → b ≠ ba → b ≠ T.P_uses_flags → H12 b = some o) → KeepT K H11 H12 → T.P_uses_flags ≠ ka → T.P_uses_flags ≠ D → ∀ fs', H12 p = some (.ins T.C_Program dx fs') → fs'.lookup ("class_rows" : Str) = some (.ref D) → fs'.lookup ("field_kinds" : Str) = some (.ref ka) → fs'.lookup ("field" : Str) = none → PgH K T.C_Program H12 p (holdP crs) (domP crs) := by
              intro H12 f12 t12 np1 np2 fs' p12 l1 l2 l3
              obtain ⟨kv, e1, e2⟩ := cc.cr
              refine ⟨dx, fs', D, ka, kv, kd1, p12, l1, l2, l3, f12 _ _ e1 nD.symm baD.symm np2.symm, f12 _ _ hkd1 nka baka.symm np1.symm, fun c f hd => ?_⟩
              rcases e2 c with ⟨h1, h2⟩ | ⟨v, r, h1, h2, h3⟩
              · refine .inl ⟨h1, ?_⟩
                unfold holdP
                rw [h2]
                rfl
              · have hf : f ∈ (allF crs c).map Fld.f := hd.resolve_left (fun e => by rw [h2] at e; cases e)
                have hc : c ∈ crs.map CRow.nm := List.mem_map.mpr ⟨r, (rowF_mem h2).1, (rowF_mem h2).2⟩
                obtain ⟨t, xs, g1, g2, g3⟩ := qkd1 c hc f hf
                refine .inr ⟨v, t, xs, _, h1, g1, t12 _ _ g2, g3, ?_⟩
                unfold holdP
                rw [h2]
                cases lastC (allF crs c) f with
                | none => rfl
                | some z => rfl
            subst hN
            refine seqCut fun N hN => ?_
            have last2 : ∀ σ H4, (∃ y4, σ = [some (.ref p), some (.ref ca), some (.ref ua), some (.ref ma), y4, y5] ∧ (∀ b o, H11 b = some o → b ≠ ba → H4 b = some o) ∧ KeepT K H11 H4 ∧ ∃ bd, H4 ba = some (.dT bd) ∧ bd.length ≤ 20 ∧ ∀ x ∈ bd, BodyOk K H4 x.2) → N σ H4 := by
              rintro σ H4 ⟨y4, rfl, f4, t4, bd, hbd, lbd, qbd⟩
              subst hN
              walk_at "s"
              obtain ⟨m1, mx, em, h1, hmx⟩ := hml.inv_cons
              refine ⟨Nat.zero_le _, fun e he => ?_⟩
              have s1 := My.Same.new (o := .tup []) he
              have p4 := f4 _ _ cc.pp nba.symm
              have hmR : Rp K H4 (.ref ma) (.tuple ([(("say" : Str), [PyData.int 2])].map fun s => stD s.1 s.2)) := (Rp.tup hma hml).keep (cc.kt.trans t4)
              refine ⟨_, _, _, s1 _ _ p4, T.cl_Program, T.n_Program_main, _, m9, by show 2 ≤ sizeLine; decide, fun tt ht => ?_⟩
              have s2 := s1.trans (My.Same.new (o := .tup [.ref e, .ref ma]) ht)
              refine ⟨_, _, _, s2 _ _ p4, T.cl_Program, T.n_Program_body_rows, _, bb9, by show 2 ≤ sizeLine; decide, fun q hq => ?_⟩
              have s3 := s2.trans (My.Same.new (o := .tup [.str "", .str "main"]) hq)
              refine ⟨_, rfl, _, DPut.t (k := [Sum.inr "", Sum.inr "main"]) (s3 _ _ hbd) upd_same (by rw [sizeLine_eq]; omega), ?_⟩
              obtain ⟨b1, b2, b3, b4⟩ := body_put (k1 := .str "") (k2 := .str "main") (key := [Sum.inr "", Sum.inr "main"]) f4 t4 hbd qbd he ht hq hmR (fun s hs => by rw [List.mem_singleton.mp hs]; exact plain_say) (by decide)
              have lb : (putK bd [Sum.inr ("" : Str), Sum.inr "main"] (.ref tt)).length ≤ 30 := Nat.le_trans (length_putK _ _ _) (by omega)
              generalize putK bd [Sum.inr ("" : Str), Sum.inr "main"] (.ref tt) = bd5 at b1 b2 b3 b4 lb ⊢
              generalize upd (upd (upd (upd H4 e (.tup [])) tt (.tup [.ref e, .ref ma])) q (.tup [.str "", .str "main"])) ba (.dT bd5) = H5 at b1 b2 b3 b4 ⊢
              clear s1 s2 s3 he ht hq hbd qbd f4 p4 hmR
              have p5 := b1 _ _ cc.pp nba.symm
              obtain ⟨tb, htb, tok⟩ := htab
              have nPp : T.P_uses_flags ≠ p := fun e => by rw [e, hp] at htb; cases htb
              have nPb := ne_of_none htb ba0
              have tb5 := b1 _ _ (cc.kp _ _ htb nPp) nPb
              walk_at "l"
              refine ⟨_, _, _, p5, T.cl_Program, T.n_Program_body_rows, _, bb9, _, rfl, bd5, b3, fun l hl => ?_⟩
              have s6 := My.Same.new (o := .lst (bd5.map Prod.snd)) hl
              refine ⟨⟨_, SqL.of upd_same⟩, fun R hR => ?_⟩
              have s7 := s6.trans (My.Same.new (o := .lst []) hR)
              have nlR : l ≠ R := ne_of_none upd_same hR
              have nRP : R ≠ T.P_uses_flags := (ne_of_none (s6 _ _ tb5) hR).symm
              have nlP : l ≠ T.P_uses_flags := (ne_of_none tb5 hl).symm
              have kt8 : ∀ {H8 : Hp}, (∀ b o, H5 b = some o → b ≠ T.P_uses_flags → H8 b = some o) → KeepT K H5 H8 := fun {H8} f8 => keepT2 (a2 := T.P_uses_flags) (fun b o hb n _ => f8 b o hb n) ⟨fun xs h => (by rw [tb5] at h; cases h), fun o xs h => (by rw [tb5] at h; cases h)⟩ ⟨fun xs h => (by rw [tb5] at h; cases h), fun o xs h => (by rw [tb5] at h; cases h)⟩
              refine LcW.by walk_list (fun i H8 => (∀ b o, H5 b = some o → b ≠ T.P_uses_flags → H8 b = some o) ∧ H8 l = some (.lst (bd5.map Prod.snd)) ∧ (∃ bs : List Bool, H8 R = some (.lst (bs.map V.bl)) ∧ bs.length ≤ i) ∧ GxR.TabG H8 T.P_uses_flags)
                ⟨fun b o hb _ => s7 _ _ hb, by rw [upd_ne nlR, upd_same], ⟨[], upd_same, Nat.le_refl _⟩, ⟨tb, s7 _ _ tb5, tok⟩⟩ (fun i H8 _ hh => SqL.of hh.2.1) ?_ ?_
              · rintro i x H9 H8 hi ⟨f8, l8, ⟨bs, hbs, lbs⟩, g8⟩ ⟨rfl, hx⟩
                obtain ⟨xx, hm, rfl⟩ := List.mem_map.mp (List.mem_of_getElem? hx)
                obtain ⟨t5, e5, v5, ss, hv5, hT5, hE5, hR5, hs5, hl5⟩ := (b4 xx hm).keep (kt8 f8)
                rw [hv5]
                rw [List.length_map] at hi
                walk_at "rd"
                refine ⟨_, hT5, _, rfl, _, hT5, _, rfl, e5, v5, ss, rfl, hE5, hR5, hs5, hl5, g8, fun H10 kp10 g10 => ?_⟩
                refine ⟨_, kp10 _ _ hbs nRP, by rw [List.length_map, sizeLine_eq]; omega, fun b o hb n => ?_, ?_, ⟨bs ++ [false], ?_, ?_⟩, ?_⟩
                · have hbR : b ≠ R := ne_of_none (s6 _ _ hb) hR
                  rw [upd_ne hbR]
                  exact kp10 _ _ (f8 _ _ hb n) n
                · rw [upd_ne nlR]
                  exact kp10 _ _ l8 nlP
                · rw [upd_same, List.map_append]
                  rfl
                · rw [List.length_append]
                  simpa using lbs
                · obtain ⟨tb2, h2, t2⟩ := g10
                  exact ⟨tb2, by rw [upd_ne nRP.symm]; exact h2, t2⟩
              · rintro H8 ⟨f8, l8, ⟨bs, hbs, lbs⟩, g8⟩
                have p8 := f8 _ _ p5 nPp.symm
                refine ⟨_, rfl, _, SqL.of hbs, _, _, _, p8, T.cl_Program, T.n_Program_flagged, by omega, ?_⟩
                have t9 : KeepT K H8 (upd H8 p (.ins T.C_Program dx (putF (Str.ofString "flagged") (.bl (bs.any id)) f9))) := .upd (.ins p8)
                refine k _ (fun b o hb n1 n2 => ?_) ?_ (pg _ (fun b o hb n0 n1 n2 => ?_) ((b2.trans (kt8 f8)).trans t9) (ne_of_none htb ka0) (ne_of_none htb D0) _ upd_same ?_ ?_ ?_)
                · rw [upd_ne n1]
                  exact f8 _ _ (b1 _ _ (cc.kp _ _ hb n1) (ne_of_none hb ba0)) n2
                · obtain ⟨tb2, h2, t2⟩ := g8
                  exact ⟨tb2, by rw [upd_ne nPp]; exact h2, t2⟩
                · rw [upd_ne n0]
                  exact f8 _ _ (b1 _ _ hb n1) n2
                · rw [fld_new, if_neg (by decide)]; exact r9
                · rw [fld_new, if_neg (by decide)]; exact kk9
                · rw [fld_new, if_neg (by decide)]; exact n9 _ (by decide) (by decide) (by decide) (by decide) (by decide) (by decide) (by decide) (by decide) (by decide)
            walk_at "f"
            refine ⟨_, _, _, cc.pp, T.cl_Program, T.n_Program_units, _, u9, _, rfl, ⟨_, cc.kt _ _ hua⟩, ?_⟩
            refine ForW.by walk_tup (fun i σ H4 => ∃ y4, σ = [some (.ref p), some (.ref ca), some (.ref ua), some (.ref ma), y4, y5] ∧ (∀ b o, H11 b = some o → b ≠ ba → H4 b = some o) ∧ KeepT K H11 H4 ∧ ∃ bd, H4 ba = some (.dT bd) ∧ bd.length ≤ 10 + i ∧ ∀ x ∈ bd, BodyOk K H4 x.2)
              ⟨_, rfl, fun b o h _ => h, .refl _, bd1, hbd1, by omega, qbd1⟩ (fun i σ H4 _ hh => by obtain ⟨_, _, _, hh, _⟩ := hh; exact hh _ _ (cc.kt _ _ hua)) ?_ (fun σ H4 hh => last2 σ H4 (by obtain ⟨y4, h1, h2, h3, bd, h4, h5, h6⟩ := hh; exact ⟨y4, h1, h2, h3, bd, h4, by omega, h6⟩))
            rintro i x σ H6 H7 hi ⟨y4, rfl, f4, t4, bd, hbd, lbd, qbd⟩ ⟨rfl, hx⟩
            have hi2 : i < uns.length := by omega
            obtain ⟨x', ex, rx⟩ := hul.get (i := i) (d := unD uns[i]) (by rw [List.getElem?_map, List.getElem?_eq_getElem hi2]; rfl)
            rw [hx] at ex
            cases ex
            obtain ⟨ra0, rx0, rfl, hrT, hrL⟩ := (rx.keep (cc.kt.trans t4)).inv
            obtain ⟨w1, r2, rfl, g1, hrL⟩ := hrL.inv_cons
            obtain ⟨w2, r2, rfl, g2, hrL⟩ := hrL.inv_cons
            obtain ⟨w3, r2, rfl, g3, hrL⟩ := hrL.inv_cons
            cases hrL.inv_nil
            cases g1.inv_str
            walk_at "g"
            walk_at "l"
            refine ⟨Nat.zero_le _, fun e he => ?_⟩
            have s1 := My.Same.new (o := .tup []) he
            refine ⟨_, (KeepT.of s1) _ _ hrT, _, rfl, by show 2 ≤ sizeLine; decide, fun tt ht => ?_⟩
            have s2 := s1.trans (My.Same.new (o := .tup [.ref e, w3]) ht)
            refine ⟨_, _, _, s2 _ _ (f4 _ _ cc.pp nba.symm), T.cl_Program, T.n_Program_body_rows, _, bb9, _, (KeepT.of s2) _ _ hrT, .str uns[i].1, rfl, by show 2 ≤ sizeLine; decide, fun q hq => ?_⟩
            have s3 := s2.trans (My.Same.new (o := .tup [.str uns[i].1, .str "start"]) hq)
            refine ⟨_, rfl, _, DPut.t (k := [Sum.inr uns[i].1, Sum.inr "start"]) (s3 _ _ hbd) upd_same (by rw [sizeLine_eq]; omega), ?_⟩
            obtain ⟨b1, b2, b3, b4⟩ := body_put (k1 := .str uns[i].1) (k2 := .str "start") (key := [Sum.inr uns[i].1, Sum.inr "start"]) (ss := []) f4 t4 hbd qbd he ht hq g3 (fun _ h => nomatch h) (Nat.zero_le _)
            exact ⟨_, rfl, b1, b2, _, b3, Nat.le_trans (length_putK _ _ _) (by omega), b4⟩
          walk_at "f"
          refine ⟨_, _, _, p10, T.cl_Program, T.n_Program_classes, _, c9, _, rfl, ⟨_, t10 _ _ hca⟩, ?_⟩
          refine ForW.by walk_tup (fun i σ H11 => ∃ y4 y5, σ = [some (.ref p), some (.ref ca), some (.ref ua), some (.ref ma), y4, y5] ∧ CcAt K T.C_Program crs p dx ka oa D3 ba D f9 i H H11) ⟨_, _, rfl, cc0⟩ (fun i σ H11 _ hh => by obtain ⟨_, _, _, hh⟩ := hh; exact hh.kt _ _ hca) ?_ (fun σ H11 hh => last σ H11 (by rw [hn] at hh; exact hh))
          rintro i x σ H12 H11 hi ⟨y4, y5, rfl, cc⟩ ⟨rfl, hx⟩
          have hi2 : i < crs.length := by omega
          obtain ⟨x', ex, rx⟩ := hcl.get (i := i) (d := crD crs[i]) (by rw [List.getElem?_map, List.getElem?_eq_getElem hi2]; rfl)
          rw [hx] at ex
          cases ex
          have hmem : crs[i] ∈ crs := List.getElem_mem hi2
          have tk : crs.take (i + 1) = crs.take i ++ [crs[i]] := by rw [List.take_add_one, List.getElem?_eq_getElem hi2]; rfl
          have hno : crs[i].nm ∉ (crs.take i).map CRow.nm := by
            have h2 : (crs.take (i + 1)).map CRow.nm <+: crs.map CRow.nm := (List.take_prefix _ _).map _
            have h3 := nd.sublist h2.sublist
            rw [tk, List.map_append, List.nodup_append] at h3
            exact fun hm => h3.2.2 _ hm _ (List.mem_singleton.mpr rfl) rfl
          generalize crs[i] = r0 at rx hmem tk hno
          have rx := rx.keep cc.kt
          obtain ⟨ra0, rx0, rfl, hrT, hrL⟩ := id rx.inv
          obtain ⟨w1, r2, rfl, g1, hrL⟩ := hrL.inv_cons
          obtain ⟨w2, r2, rfl, g2, hrL⟩ := hrL.inv_cons
          obtain ⟨w3, r2, rfl, g3, hrL⟩ := hrL.inv_cons
          obtain ⟨w4, r2, rfl, g4, hrL⟩ := hrL.inv_cons
          obtain ⟨w5, r2, rfl, g5, hrL⟩ := hrL.inv_cons
          cases hrL.inv_nil
          cases g1.inv_str
          walk_at "g"
          walk_at "s"
          obtain ⟨fl1, hfl1, lfl1⟩ := cc.kf
          obtain ⟨kd1, hkd1, lkd1, qkd1⟩ := cc.kk
          obtain ⟨bd1, hbd1, lbd1, qbd1⟩ := cc.kb
          have hll := linG_len (row := rowF crs) cs.length [r0.nm]
          have hll : (linG (rowF crs) cs.length [r0.nm]).length ≤ 11 := by simp only [List.length_cons, List.length_nil] at hll; omega
          refine ⟨_, _, cc.pp, n9 _ (by decide) (by decide) (by decide) (by decide) (by decide) (by decide) (by decide) (by decide) (by decide), _, hrT, .str r0.nm, rfl, p, r0.nm, dx, f9, ca, D, ka, oa, D3, cs, rowF crs, kd1, [], fl1, rfl, cc.pp, c9, r9, kk9, oo9, q9,
            n9 _ (by decide) (by decide) (by decide) (by decide) (by decide) (by decide) (by decide) (by decide) (by decide), cc.kt _ _ hca, cc.cr, rowF_of hmem, by omega, hkd1, cc.ko, hfl1, by omega, by omega, fun d r hd => hf100 r (rowF_mem hd).1,
            fun d hd => linG_some _ _ (fun z hz => by rw [List.mem_singleton.mp hz]; exact rowF_of hmem) d hd, kaD3, kaD, D3D, fun H12 kd2 fl2 fr2 hkd2 hfl2 lkd2 lfl2 okd2 qkd2 => ?_⟩
          have t12 : KeepT K H11 H12 := keepT2 fr2 (.dT hkd1) (.dK hfl1)
          have p12 := fr2 _ _ cc.pp nka.symm nD3.symm
          have b12 := fr2 _ _ hbd1 baka baD3
          walk_at "s"
          have hrT2 := t12 _ _ hrT
          refine ⟨_, hrT2, _, rfl, _, _, _, p12, T.cl_Program, T.n_Program_body_rows, _, bb9, _, hrT2, .str r0.nm, rfl, by show 2 ≤ sizeLine; decide, fun q hq => ?_⟩
          have sq := My.Same.new (o := .tup [V.str r0.nm, V.str (Str.ofString "init")]) hq
          refine ⟨_, rfl, _, DPut.t (k := [Sum.inr r0.nm, Sum.inr "init"]) (sq _ _ b12) upd_same (by rw [sizeLine_eq]; omega), ?_⟩
          have t13 : KeepT K H12 (upd (upd H12 q (.tup [V.str r0.nm, V.str (Str.ofString "init")])) ba (.dT (putK bd1 [Sum.inr r0.nm, Sum.inr "init"] w4))) := (KeepT.of sq).trans (.upd (.dT (sq _ _ b12)))
          have f13 : ∀ b o, H12 b = some o → b ≠ ba → (upd (upd H12 q (.tup [V.str r0.nm, V.str (Str.ofString "init")])) ba (.dT (putK bd1 [Sum.inr r0.nm, Sum.inr "init"] w4))) b = some o := fun b o hb hn => by
            rw [upd_ne hn]
            exact sq _ _ hb
          have cc2 : CcAt K T.C_Program crs p dx ka oa D3 ba D f9 (i + 1) H (upd (upd H12 q (.tup [V.str r0.nm, V.str (Str.ofString "init")])) ba (.dT (putK bd1 [Sum.inr r0.nm, Sum.inr "init"] w4))) := by
            refine ⟨fun b o hb hn => ?_, (cc.kt.trans t12).trans t13, f13 _ _ p12 nba.symm, ?_, f13 _ _ (fr2 _ _ cc.ko oaka oaD3) baoa.symm, ⟨fl2, f13 _ _ hfl2 baD3.symm, by omega⟩, ⟨kd2, f13 _ _ hkd2 baka.symm, by omega, ?_⟩, ⟨_, upd_same, Nat.le_trans (length_putK _ _ _) (by omega), ?_⟩⟩
            · have h11 := cc.kp _ _ hb hn
              exact f13 _ _ (fr2 _ _ h11 (ne_of_none hb ka0) (ne_of_none hb D30)) (ne_of_none hb ba0)
            · obtain ⟨kv, e1, e2⟩ := cc.cr
              exact ⟨kv, f13 _ _ (fr2 _ _ e1 kaD.symm D3D.symm) baD.symm, fun c => (e2 c).imp_right fun ⟨v, r, h1, h2, h3⟩ => ⟨v, r, h1, h2, (h3.keep t12).keep t13⟩⟩
            · intro c hc f hf
              rw [tk, List.map_append, List.mem_append] at hc
              by_cases e : c = r0.nm
              · subst e
                rw [hn] at qkd2
                exact (qkd2 f hf).keep t13
              · rcases hc with hc | hc
                · obtain ⟨t, xs, h1, h2, h3⟩ := qkd1 c hc f hf
                  exact ⟨t, xs, by rw [okd2 c f e]; exact h1, t13 _ _ (t12 _ _ h2), h3⟩
                · exact absurd (List.mem_singleton.mp hc) e
            · intro x hx
              rcases mem_putK hx with hx | hx
              · exact ((qbd1 x hx).keep t12).keep t13
              · rw [hx]
                exact ((BodyOk.ofD g4).keep t12).keep t13
          walk_at "f"
          obtain ⟨mta, mtx, rfl, hmT, hmL⟩ := g5.inv
          cases hmL.inv_nil
          refine ⟨_, t13 _ _ hrT2, _, rfl, _, rfl, ⟨_, t13 _ _ (t12 _ _ hmT)⟩, ?_⟩
          refine ForW.by walk_tup (fun _ σ H6 => H6 = _ ∧ σ = [some (.ref p), some (.ref ca), some (.ref ua), some (.ref ma), some (.ref ra0), y5]) ⟨rfl, rfl⟩ (fun _ σ H6 _ hh => by rw [hh.1]; exact t13 _ _ (t12 _ _ hmT)) (fun _ _ _ _ _ hi => absurd hi (Nat.not_lt_zero _)) ?_
          rintro σ H6 ⟨rfl, rfl⟩
          exact ⟨_, _, rfl, cc2⟩

theorem cutV_map {α : Type} (g : α → V) (xs : List α) (lo hi : Option Int) : ∃ ys : List α, cutV (xs.map g) lo hi = ys.map g ∧ ys.length ≤ xs.length := by
  unfold cutV
  refine ⟨_, by rw [← List.map_drop, ← List.map_take], ?_⟩
  rw [List.length_take, List.length_drop]
  omega
def HomeOk (r : HR) : Prop := (r.c = "Wo" ∨ r.c = "Ua" ∨ r.c = "Vat") ∧ r.ps.length ≤ 4
def spHomes (K : PySem.W.Frag) : Sp := fun vs H Q _ => ∃ (f l : Addr) (n : Nat), vs = [.ref f] ∧ FeedAt H f l n ∧ n ≤ 1000 ∧
  ∀ (ha : Addr) (hs : List HR) (H' : Hp), Fr false H H' → LsAt K H' ha (hs.map HR.d) → hs.length ≤ 3 → (∀ r ∈ hs, HomeOk r) → FeedAt H' f l (n + 50) → Q (.ref ha) H'
theorem ok_law_homes (T : Txt K mg) : FnOk P w K mg base CX0 2 T.a_law_homes T.d_law_homes ["feed"] (spHomes K) :=
  T.F_law_homes.ok sc_law_homes (fun vs H Q E h => by obtain ⟨f, l, n, rfl, _⟩ := h; rfl) fun cdv A outer s H vs Q E hr h => by
    obtain ⟨f, l, n, rfl, hf, hn, k⟩ := h
    refine ⟨_,
      -- homes = []
      (pss_cons (ps_set (i := 1) sc_law_homes.nd rfl (Or.inl rfl) (pe_lst pa_nil))
      -- for k in range(_law_draw(feed, 4)):
      (pss_cons (ps_for PassesOwn.never rfl (pi_range1 (by rfl) T.z_range (pa_cons (pe_call (ok_law_draw T) (hr.mono (by first | decide | omega)) (by rfl) T.g_law_draw T.F_law_draw.kp T.b_law_draw .nil pass0 (pa_cons (pv 0) (pa_cons pe_int pa_nil))) pa_nil)) (pg_name (i := 2) sc_law_homes.nd rfl (Or.inl rfl)) 
        -- fields = ['total', 'a', 'k2', 'b'][:_law_draw(feed, 5)]
        (pss_cons (ps_set (i := 3) sc_law_homes.nd rfl (Or.inl rfl) (pe_slice sl_list (pe_lst (pa_cons pe_str (pa_cons pe_str (pa_cons pe_str (pa_cons pe_str pa_nil))))) po_none (po_some (pe_call (ok_law_draw T) (hr.mono (by first | decide | omega)) (by rfl) T.g_law_draw T.F_law_draw.kp T.b_law_draw .nil pass0 (pa_cons (pv 0) (pa_cons pe_int pa_nil))))))
        -- complete = _law_draw(feed, 5) > 0
        (pss_cons (ps_set (i := 4) sc_law_homes.nd rfl (Or.inr rfl) (pe_cmpR op_gt (pe_call (ok_law_draw T) (hr.mono (by first | decide | omega)) (by rfl) T.g_law_draw T.F_law_draw.kp T.b_law_draw .nil pass0 (pa_cons (pv 0) (pa_cons pe_int pa_nil))) pe_int (nomark _)))
        -- pairs = [(field, _law_draw(feed, 40) - 5 if complete or _law_draw(feed, 2) == 0 else None) for field in fields]
        (pss_cons (ps_setLc (i := 5) (own := [("field", 6)]) (g := gName 6) (tt := tYes) rfl sc_law_homes.nd rfl rfl (sw_true rfl rfl rfl (by decide +kernel)) (pi_list (pv 3)) (blkOk_by (N := ["feed", "homes", "k", "fields", "complete", "pairs", "field"]) (sc := defScope s_law_homes) (by decide +kernel)) (fun _ _ _ _ _ => pg_name (i := 6) sc_law_homes.nd rfl (Or.inl rfl)) (fun _ _ _ _ _ => pts_nil) (fun _ _ _ _ _ => (pe_tup (pa_cons (pv 6) (pa_cons (pe_ifExp (PW.pt (pw_or (pt_val (pv 4)) (pw_or1 (pt_cmpR op_eq (pe_call (ok_law_draw T) (hr.mono (by first | decide | omega)) (by rfl) T.g_law_draw T.F_law_draw.kp T.b_law_draw .nil pass0 (pa_cons (pv 0) (pa_cons pe_int pa_nil))) pe_int (nomark _))))) (pe_op op_sub (pe_call (ok_law_draw T) (hr.mono (by first | decide | omega)) (by rfl) T.g_law_draw T.F_law_draw.kp T.b_law_draw .nil pass0 (pa_cons (pv 0) (pa_cons pe_int pa_nil))) pe_int) pe_non) pa_nil)))))
        -- homes.append((['Wo', 'Ua', 'Vat'][k], complete, tuple(pairs)))
        (pss_one (ps_expr (pe_bm PySem.F.plainAttrs_list PySem.F.slot_list_append PySem.F.type_list_append mt_append (pv 1) (pa_cons (pe_tup (pa_cons (pe_ix ix_list (pe_lst (pa_cons pe_str (pa_cons pe_str (pa_cons pe_str pa_nil)))) (pv 2) (fun _ _ => rfl)) (pa_cons (pv 4) (pa_cons (pe_callTy call_tuple_of (by rfl) T.z_tuple (by decide +kernel) (pa_cons (pv 5) pa_nil)) pa_nil)))) pa_nil))))))))
      -- return homes
      (pss_one (ps_ret (pv 1)))))
      , ?_⟩
    refine sig [some (.ref f), none, none, none, none, none, none] rfl ?_
    walk_at "s"
    refine ⟨Nat.zero_le _, fun ha hha => ?_⟩
    have hne : ha ≠ f := hf.ne hha
    have hnl : ha ≠ l := hf.nl hha
    refine seqCut fun N hN => ?_
    have last : ∀ σ H1, (∃ y2 y3 y4 y5 y6, σ = [some (.ref f), some (.ref ha), y2, y3, y4, y5, y6] ∧ Fr false H H1 ∧ FeedAt H1 f l (n + 50) ∧ ∃ (vs : List V) (hs : List HR), H1 ha = some (.lst vs) ∧ RpL K H1 vs (hs.map HR.d) ∧ hs.length ≤ 3 ∧ ∀ r ∈ hs, HomeOk r) → N σ H1 := by
      rintro σ H1 ⟨y2, y3, y4, y5, y6, rfl, fr, hf1, vs, hs, h1, h2, h3, h4⟩
      subst hN
      walk_at "r"
      exact k ha hs _ fr ⟨vs, h1, h2⟩ h3 h4 hf1
    walk_at "f"
    refine ⟨f, l, 4, n, rfl, hf.upd hha, by omega, by decide, fun j H1 j0 j1 kp1 hf1 => ⟨_, rfl, by omega, by omega, ?_⟩⟩
    refine ForW.rng (fun i σ H1 => ∃ y2 y3 y4 y5 y6, σ = [some (.ref f), some (.ref ha), y2, y3, y4, y5, y6] ∧ Fr false H H1 ∧ FeedAt H1 f l (n + 1 + 16 * i) ∧ ∃ (vs : List V) (hs : List HR), H1 ha = some (.lst vs) ∧ RpL K H1 vs (hs.map HR.d) ∧ hs.length = i ∧ ∀ r ∈ hs, HomeOk r)
      ⟨_, _, _, _, _, rfl, (Fr.of (My.Same.new hha)).trans (Fr.kp (hf.upd hha) kp1), hf1, [], [], kp1 _ _ upd_same hne, .nil, rfl, fun r hr => nomatch hr⟩ ?_ (fun σ H1 hh => last σ H1 (by obtain ⟨y2, y3, y4, y5, y6, h1, fr, hf1, vs, hs, h2, h3, h4, h5⟩ := hh; exact ⟨y2, y3, y4, y5, y6, h1, fr, hf1.mono (by omega), vs, hs, h2, h3, by omega, h5⟩))
    rintro i σ H2 hi ⟨y2, y3, y4, y5, y6, rfl, fr2, hf2, vs, hs, h1, h2, h3, h4⟩
    have hi3 : i < 3 := by omega
    rw [Int.zero_add]
    walk_at "g"
    walk_at "s"
    refine ⟨by show 4 ≤ sizeLine; decide, fun q hq => ?_⟩
    refine ⟨f, l, 5, _, rfl, hf2.upd hq, by omega, by decide, fun m H3 m0 m1 kp3 hf3 => ⟨_, rfl, _, SqL.of (kp3 _ _ upd_same (hf2.ne hq)), fun r hr => ?_⟩⟩
    have fr3 : Fr false H2 H3 := (Fr.of (My.Same.new hq)).trans (Fr.kp (hf2.upd hq) kp3)
    obtain ⟨gs, egs, lgs⟩ := cutV_map V.str ["total", "a", "k2", "b"] none (some m)
    have lgs : gs.length ≤ 4 := lgs
    walk_at "s"
    have egs : cutV [V.str "total", V.str "a", V.str "k2", V.str "b"] none (some m) = gs.map V.str := egs
    rw [egs]
    refine ⟨f, l, 5, _, rfl, hf3.upd hr, by omega, by decide, fun j5 H4 _ _ kp4 hf4 => ⟨_, rfl, ?_⟩⟩
    have fr4 : Fr false H3 H4 := (Fr.of (My.Same.new hr)).trans (Fr.kp (hf3.upd hr) kp4)
    have hr4 := kp4 _ _ upd_same (hf3.ne hr)
    generalize decide ((0 : Int) < j5) = cb
    refine seqCut fun N2 hN2 => ?_
    walk_at "rd"
    refine ⟨⟨_, SqL.of hr4⟩, fun D hD => ?_⟩
    have hDf := hf4.ne hD
    refine LcW.by walk_list (fun c H5 => Fr false H4 H5 ∧ H5 r = some (.lst (gs.map V.str)) ∧ FeedAt H5 f l (n + 1 + 16 * i + 1 + 1 + 2 * c) ∧ ∃ us ps, H5 D = some (.lst us) ∧ RpL K H5 us (ps.map prD) ∧ ps.length = c)
      ⟨Fr.of (My.Same.new hD), My.Same.new hD _ _ hr4, hf4.upd hD, [], [], upd_same, .nil, rfl⟩ (fun c H5 _ hh => SqL.of hh.2.1) ?_ ?_
    · rintro c x H6 H5 hc ⟨fr5, hr5, hf5, us, ps, h6, h7, h8⟩ ⟨rfl, hx⟩
      rw [List.getElem?_map] at hx
      obtain ⟨y, hy, ey⟩ := Option.map_eq_some_iff.mp hx
      subst ey
      rw [List.length_map] at hc
      walk_at "rd"
      have fin : ∀ (H7 : Hp) (vo : Option Int), Kp f H5 H7 → FeedAt H7 f l (n + 1 + 16 * i + 1 + 1 + 2 * (c + 1)) → [V.str y, optV vo].length ≤ sizeLine ∧ ∀ p, H7 p = none → ∃ acc, upd H7 p (.tup [V.str y, optV vo]) D = some (.lst acc) ∧ acc.length < sizeLine ∧
          Fr false H4 (upd (upd H7 p (.tup [V.str y, optV vo])) D (.lst (acc ++ [.ref p]))) ∧ (upd (upd H7 p (.tup [V.str y, optV vo])) D (.lst (acc ++ [.ref p]))) r = some (.lst (gs.map V.str)) ∧ FeedAt (upd (upd H7 p (.tup [V.str y, optV vo])) D (.lst (acc ++ [.ref p]))) f l (n + 1 + 16 * i + 1 + 1 + 2 * (c + 1)) ∧
          ∃ us, (upd (upd H7 p (.tup [V.str y, optV vo])) D (.lst (acc ++ [.ref p]))) D = some (.lst us) ∧ ∃ ps : List (Str × Option Int), RpL K (upd (upd H7 p (.tup [V.str y, optV vo])) D (.lst (acc ++ [.ref p]))) us (ps.map prD) ∧ ps.length = c + 1 := by
        intro H7 vo kp7 hf7
        refine ⟨by show 2 ≤ sizeLine; decide, fun p hp => ?_⟩
        have sp := My.Same.new (o := .tup [V.str y, optV vo]) hp
        have h6' := sp _ _ (kp7 _ _ h6 hDf)
        have rD : r ≠ D := ne_of_none hr4 hD
        have kt : KeepT K H5 (upd (upd H7 p (.tup [V.str y, optV vo])) D (.lst (us ++ [.ref p]))) := (kp7.keepT hf5.noTup).trans ((KeepT.of sp).trans (.upd (.lst h6')))
        refine ⟨us, h6', ?_, ?_, ?_, ?_, us ++ [.ref p], upd_same, ps ++ [(y, vo)], ?_, ?_⟩
        · rw [h7.len, List.length_map, sizeLine_eq]
          omega
        · exact ((fr5.trans (Fr.kp hf5 kp7)).trans (.of sp)).mut hD
        · rw [upd_ne rD]
          exact sp _ _ (kp7 _ _ hr5 (hf3.ne hr))
        · exact (hf7.upd hp).oth hDf (hf4.nl hD)
        · rw [List.map_append]
          refine (h7.keep kt).snoc ?_
          refine Rp.tup (KeepT.upd (.lst h6') _ _ (SqT.of upd_same)) (.cons (.str y) (.cons (Rp.optI vo) .nil))
        · rw [List.length_append, h8]
          rfl
      refine ite2 (fun _ => ?_) (fun _ => ?_)
      · refine ⟨f, l, 40, _, rfl, hf5, by omega, by decide, fun j H7 _ _ kp7 hf7 => ⟨_, rfl, ?_⟩⟩
        exact fin H7 (some (j - 5)) kp7 (hf7.mono (by omega))
      · refine ⟨f, l, 2, _, rfl, hf5, by omega, by decide, fun j2 H7 _ _ kp7 hf7 => ⟨rfl, ?_⟩⟩
        refine ite2 (fun _ => ?_) (fun _ => ?_)
        · refine ⟨f, l, 40, _, rfl, hf7, by omega, by decide, fun j H8 _ _ kp8 hf8 => ⟨_, rfl, ?_⟩⟩
          exact fin H8 (some (j - 5)) (kp7.trans kp8) (hf8.mono (by omega))
        · exact fin H7 none kp7 (hf7.mono (by omega))
    · rintro H5 ⟨fr5, hr5, hf5, us, ps, h6, h7, h8⟩
      subst hN2
      rw [List.length_map] at hf5 h8
      walk_at "l"
      have kt5 : KeepT K H2 H5 := (fr3.trans (fr4.trans fr5)).keepT
      have hR2 : RpL K H5 vs (hs.map HR.d) := h2.keep kt5
      obtain ⟨as, eas⟩ := refsOf (fun d hd => by obtain ⟨q, _, rfl⟩ := List.mem_map.mp hd; exact ⟨_, rfl⟩) h2
      have ha5 : H5 ha = some (.lst vs) := by
        rw [eas] at h1 ⊢
        exact (fr3.trans (fr4.trans fr5)) _ _ h1 (nl_refs _)
      refine ⟨tyL ha5, by show 3 ≤ sizeLine; decide, fun p hp => ?_⟩
      have s6 := My.Same.new (o := .lst [V.str "Wo", V.str "Ua", V.str "Vat"]) hp
      obtain ⟨wn, hw1, hw2⟩ : ∃ wn : Str, atI [V.str "Wo", V.str "Ua", V.str "Vat"] ((i : Nat) : Int) = some (.str wn) ∧ (wn = "Wo" ∨ wn = "Ua" ∨ wn = "Vat") := by
        rcases (by omega : i = 0 ∨ i = 1 ∨ i = 2) with rfl | rfl | rfl
        · exact ⟨"Wo", rfl, .inl rfl⟩
        · exact ⟨"Ua", rfl, .inr (.inl rfl)⟩
        · exact ⟨"Vat", rfl, .inr (.inr rfl)⟩
      refine ⟨_, SqL.of upd_same, .str wn, hw1, us, .inl ⟨SqL.of (s6 _ _ h6), fun t ht => ⟨by show 3 ≤ sizeLine; decide, fun z hz => ?_⟩⟩⟩
      have s7 := s6.trans (My.Same.new (o := .tup us) ht)
      have s8 := s7.trans (My.Same.new (o := .tup [V.str wn, V.bl cb, V.ref t]) hz)
      have ha8 := s8 _ _ ha5
      have kt9 : KeepT K H5 (upd (upd (upd (upd H5 p (.lst [V.str "Wo", V.str "Ua", V.str "Vat"])) t (.tup us)) z (.tup [V.str wn, V.bl cb, V.ref t])) ha (.lst (vs ++ [.ref z]))) := (KeepT.of s8).trans (.upd (.lst ha8))
      have kt9' := fun a xs => (KeepT.upd (K := K) (o := .lst (vs ++ [.ref z])) (.lst ha8)) a xs
      refine ⟨vs, ha8, ?_, _, _, _, _, _, rfl, ?_, ?_, vs ++ [.ref z], hs ++ [⟨wn, cb, ps⟩], upd_same, ?_, ?_, ?_⟩
      · rw [h2.len, List.length_map, sizeLine_eq]
        omega
      · exact (fr2.trans (fr3.trans (fr4.trans (fr5.trans (.of s8))))).mut hha
      · exact (((((hf5.upd hp).upd ht).upd hz).oth hne hnl).mono (by omega))
      · rw [List.map_append]
        refine (hR2.keep kt9).snoc ?_
        refine Rp.tup (kt9' _ _ (SqT.of upd_same)) (.cons (.str wn) (.cons (.bl cb) (.cons ?_ .nil)))
        exact Rp.tup (kt9' _ _ ((KeepT.of (My.Same.new hz)) _ _ (SqT.of upd_same))) (h7.keep kt9)
      · rw [List.length_append, h3]
        rfl
      · intro r1 hr1
        rcases List.mem_append.mp hr1 with h | h
        · exact h4 r1 h
        · rw [List.mem_singleton.mp h]
          refine ⟨hw2, ?_⟩
          show ps.length ≤ 4
          omega

def digAt (j : Nat) : Str := (["3", "0", "4x", "1", "2yz"] : List Str).getD j ""
def fname (L : Str) (j : Nat) : Str := L ++ digAt j
/-- the own fields of a class -/
def FOk (L : Str) (F : List Fld) : Prop := ∃ k, k ≤ 5 ∧ F.map Fld.f = (List.range k).map (fname L)
theorem FOk.len {L : Str} {F : List Fld} (h : FOk L F) : F.length ≤ 5 := by
  obtain ⟨k, hk, e⟩ := h
  have := congrArg List.length e
  rw [List.length_map, List.length_map, List.length_range] at this
  omega
theorem fname_inj {L : Str} (hL : L = "h" ∨ L = "c" ∨ L = "f" ∨ L = "a") : ∀ j, j < 5 → ∀ k, k < 5 → fname L j = fname L k → j = k := by
  rcases hL with rfl | rfl | rfl | rfl <;> decide +kernel
theorem fname_fa : ∀ j, j < 5 → ∀ k, k < 5 → fname "f" j ≠ fname "a" k := by decide +kernel
theorem FOk.nd {L : Str} {F : List Fld} (hL : L = "h" ∨ L = "c" ∨ L = "f" ∨ L = "a") (h : FOk L F) : (F.map Fld.f).Nodup := by
  obtain ⟨k, hk, e⟩ := h
  rw [e]
  refine List.pairwise_map.mpr ?_
  refine (List.nodup_range (n := k)).imp_of_mem fun {a b} ha hb hab e => hab ?_
  exact fname_inj hL a (by have := List.mem_range.mp ha; omega) b (by have := List.mem_range.mp hb; omega) e
theorem FOk.fa {F2 F3 : List Fld} (h2 : FOk "f" F2) (h3 : FOk "a" F3) : ((F2 ++ F3).map Fld.f).Nodup := by
  rw [List.map_append, List.nodup_append]
  refine ⟨h2.nd (.inr (.inr (.inl rfl))), h3.nd (.inr (.inr (.inr rfl))), ?_⟩
  obtain ⟨k2, hk2, e2⟩ := h2
  obtain ⟨k3, hk3, e3⟩ := h3
  rw [e2, e3]
  intro a ha b hb
  obtain ⟨i, hi, rfl⟩ := List.mem_map.mp ha
  obtain ⟨j, hj, rfl⟩ := List.mem_map.mp hb
  exact fname_fa i (by have := List.mem_range.mp hi; omega) j (by have := List.mem_range.mp hj; omega)
theorem nodup_inj : ∀ {crs : List CRow} {r q : CRow}, (crs.map CRow.nm).Nodup → r ∈ crs → q ∈ crs → r.nm = q.nm → r = q
  | [], _, _, _, h, _, _ => nomatch h
  | x :: xs, r, q, nd, hr, hq, e => by
    rw [List.map_cons, List.nodup_cons] at nd
    rcases List.mem_cons.mp hr with a | a
    · rcases List.mem_cons.mp hq with b | b
      · rw [a, b]
      · exact absurd (List.mem_map.mpr ⟨q, b, by rw [← e, a]⟩) nd.1
    · rcases List.mem_cons.mp hq with b | b
      · exact absurd (List.mem_map.mpr ⟨r, a, by rw [e, b]⟩) nd.1
      · exact nodup_inj nd.2 a b e
theorem rowF_nd {crs : List CRow} {r : CRow} (nd : (crs.map CRow.nm).Nodup) (h : r ∈ crs) : rowF crs r.nm = some r := by
  cases e : rowF crs r.nm with
  | none => have := rowF_of h; rw [e] at this; cases this
  | some q => rw [nodup_inj nd (rowF_mem e).1 h (rowF_mem e).2]
structure WorldOk (crs : List CRow) (ev : Str → Option (List Fld)) (nms tgs : List Str) : Prop where
  len : crs.length = 4
  nd : (crs.map CRow.nm).Nodup
  fs : ∀ r ∈ crs, r.fs.length ≤ 100
  par : ∀ r ∈ crs, ∀ q, r.par = some q → (rowF crs q).isSome = true
  ev : ∀ c, ev c = if (rowF crs c).isSome = true then some (allF crs c) else none
  nm : ∀ c ∈ nms, (rowF crs c).isSome = true
  tg : ∀ c ∈ tgs, (rowF crs c).isSome = true
  nl : nms.length = 4
  tl : tgs.length = 3
  fd : ∀ c, (rowF crs c).isSome = true → ((allF crs c).map Fld.f).Nodup ∧ (allF crs c).length ≤ 100
  wo : ∀ c : Str, c = "Wo" ∨ c = "Ua" ∨ c = "Vat" → rowF crs c = none
def evW (n0 n1 n2 n3 : Str) (F0 F1 F2 F3 : List Fld) (c : Str) : Option (List Fld) := if c = n0 then some F0 else if c = n1 then some F1 else if c = n2 then some F2 else if c = n3 then some (F2 ++ F3) else none
theorem world_ok {n0 n1 n2 n3 L1 : Str} {F0 F1 F2 F3 : List Fld} {R crs : List CRow} (hR : ([⟨n0, none, F0⟩, ⟨n1, none, F1⟩, ⟨n2, none, F2⟩, ⟨n3, some n2, F3⟩] : List CRow) = R) (pm : crs.Perm R) (dis : n0 ≠ n1 ∧ n0 ≠ n2 ∧ n0 ≠ n3 ∧ n1 ≠ n2 ∧ n1 ≠ n3 ∧ n2 ≠ n3)
    (wo : ∀ c : Str, c = "Wo" ∨ c = "Ua" ∨ c = "Vat" → n0 ≠ c ∧ n1 ≠ c ∧ n2 ≠ c ∧ n3 ≠ c) (hL : L1 = "h" ∨ L1 = "c") (f0 : FOk "h" F0) (f1 : FOk L1 F1) (f2 : FOk "f" F2) (f3 : FOk "a" F3) :
    WorldOk crs (evW n0 n1 n2 n3 F0 F1 F2 F3) [n0, n1, n2, n3] [n0, n1, n3] := by
  obtain ⟨d1, d2, d3, d4, d5, d6⟩ := dis
  have nd : (crs.map CRow.nm).Nodup := by
    refine (List.Perm.nodup_iff (pm.map CRow.nm)).mpr ?_
    rw [← hR]
    show [n0, n1, n2, n3].Nodup
    simp [d1, d2, d3, d4, d5, d6]
  have len : crs.length = 4 := by rw [pm.length_eq, ← hR]; rfl
  have mR : ∀ r, r ∈ crs ↔ r = ⟨n0, none, F0⟩ ∨ r = ⟨n1, none, F1⟩ ∨ r = ⟨n2, none, F2⟩ ∨ r = ⟨n3, some n2, F3⟩ := fun r => by
    rw [pm.mem_iff, ← hR]
    simp
  have r0 : rowF crs n0 = some ⟨n0, none, F0⟩ := rowF_nd nd ((mR ⟨n0, none, F0⟩).mpr (.inl rfl))
  have r1 : rowF crs n1 = some ⟨n1, none, F1⟩ := rowF_nd nd ((mR ⟨n1, none, F1⟩).mpr (.inr (.inl rfl)))
  have r2 : rowF crs n2 = some ⟨n2, none, F2⟩ := rowF_nd nd ((mR ⟨n2, none, F2⟩).mpr (.inr (.inr (.inl rfl))))
  have r3 : rowF crs n3 = some ⟨n3, some n2, F3⟩ := rowF_nd nd ((mR ⟨n3, some n2, F3⟩).mpr (.inr (.inr (.inr rfl))))
  have lin1 : ∀ {c : Str} {F : List Fld}, rowF crs c = some ⟨c, none, F⟩ → allF crs c = F := fun {c F} h => by
    unfold allF
    have : linG (rowF crs) crs.length [c] = [c] := by
      rw [len]
      unfold linG
      dsimp only
      rw [h]
      rfl
    rw [this]
    unfold linF
    rw [List.flatMap_cons, h]
    simp
  have a0 := lin1 r0
  have a1 := lin1 r1
  have a2 := lin1 r2
  have a3 : allF crs n3 = F2 ++ F3 := by
    unfold allF
    have : linG (rowF crs) crs.length [n3] = [n2, n3] := by
      rw [len]
      unfold linG
      dsimp only
      rw [r3]
      show (if n2 ∈ [n3] ∨ rowF crs n2 = none then [n3] else linG (rowF crs) 3 [n2, n3]) = _
      rw [if_neg (fun e => e.elim (fun e => d6 (List.mem_singleton.mp e)) (fun e => by rw [r2] at e; cases e))]
      unfold linG
      dsimp only
      rw [r2]
      rfl
    rw [this]
    unfold linF
    rw [List.flatMap_cons, List.flatMap_cons, r2, r3]
    simp
  have one : ∀ c, (rowF crs c).isSome = true → c = n0 ∨ c = n1 ∨ c = n2 ∨ c = n3 := fun c h => by
    obtain ⟨r, hr⟩ := Option.isSome_iff_exists.mp h
    obtain ⟨m, e⟩ := rowF_mem hr
    rcases (mR r).mp m with rfl | rfl | rfl | rfl
    · exact .inl e.symm
    · exact .inr (.inl e.symm)
    · exact .inr (.inr (.inl e.symm))
    · exact .inr (.inr (.inr e.symm))
  refine ⟨len, nd, fun r hr => ?_, fun r hr q hq => ?_, fun c => ?_, fun c hc => ?_, fun c hc => ?_, rfl, rfl, fun c hc => ?_, fun c hc => ?_⟩
  · have := f0.len
    have := f1.len
    have := f2.len
    have := f3.len
    rcases (mR r).mp hr with rfl | rfl | rfl | rfl <;> dsimp only <;> omega
  · rcases (mR r).mp hr with rfl | rfl | rfl | rfl
    · cases hq
    · cases hq
    · cases hq
    · cases hq
      rw [r2]
      rfl
  · unfold evW
    by_cases e0 : c = n0
    · rw [if_pos e0, e0, r0, a0]
      rfl
    by_cases e1 : c = n1
    · rw [if_neg e0, if_pos e1, e1, r1, a1]
      rfl
    by_cases e2 : c = n2
    · rw [if_neg e0, if_neg e1, if_pos e2, e2, r2, a2]
      rfl
    by_cases e3 : c = n3
    · rw [if_neg e0, if_neg e1, if_neg e2, if_pos e3, e3, r3, a3]
      rfl
    rw [if_neg e0, if_neg e1, if_neg e2, if_neg e3, if_neg]
    intro h
    rcases one c h with e | e | e | e
    · exact e0 e
    · exact e1 e
    · exact e2 e
    · exact e3 e
  · simp only [List.mem_cons, List.not_mem_nil, or_false] at hc
    rcases hc with rfl | rfl | rfl | rfl
    · rw [r0]; rfl
    · rw [r1]; rfl
    · rw [r2]; rfl
    · rw [r3]; rfl
  · simp only [List.mem_cons, List.not_mem_nil, or_false] at hc
    rcases hc with rfl | rfl | rfl
    · rw [r0]; rfl
    · rw [r1]; rfl
    · rw [r3]; rfl
  · have := f0.len
    have := f1.len
    have := f2.len
    have := f3.len
    rcases one c hc with rfl | rfl | rfl | rfl
    · rw [a0]
      exact ⟨f0.nd (.inl rfl), by omega⟩
    · rw [a1]
      exact ⟨f1.nd (hL.imp_right .inl), by omega⟩
    · rw [a2]
      exact ⟨f2.nd (.inr (.inr (.inl rfl))), by omega⟩
    · rw [a3]
      exact ⟨f2.fa f3, by rw [List.length_append]; omega⟩
  · obtain ⟨w0, w1, w2, w3⟩ := wo c hc
    cases h : rowF crs c with
    | none => rfl
    | some r =>
      rcases one c (by rw [h]; rfl) with e | e | e | e
      · exact absurd e.symm w0
      · exact absurd e.symm w1
      · exact absurd e.symm w2
      · exact absurd e.symm w3
theorem cutV_drop {xs : List V} {k : Nat} (h : k ≤ xs.length) : cutV xs (some (k : Int)) none = xs.drop k := by
  unfold cutV
  rw [HT.sIx_nat, HT.sIx_none, Nat.min_eq_left h, List.take_of_length_le (by rw [List.length_drop]; exact Nat.le_refl _)]
theorem cutV_take {xs : List V} {k : Nat} (h : k ≤ xs.length) : cutV xs none (some (k : Int)) = xs.take k := by
  unfold cutV
  rw [HT.sIx_nat, HT.sIx_none, Nat.min_eq_left h, List.drop_zero, Nat.sub_zero]
theorem RpL.drop {H : Hp} : ∀ {k : Nat} {vs : List V} {ds : List PyData}, RpL K H vs ds → RpL K H (vs.drop k) (ds.drop k)
  | 0, _, _, h => h
  | k + 1, _, [], h => by rw [h.inv_nil]; exact .nil
  | k + 1, _, d :: ds, h => by
    obtain ⟨v, r, rfl, _, hr⟩ := h.inv_cons
    exact RpL.drop (k := k) hr
theorem RpL.take {H : Hp} : ∀ {k : Nat} {vs : List V} {ds : List PyData}, RpL K H vs ds → RpL K H (vs.take k) (ds.take k)
  | 0, _, _, _ => .nil
  | k + 1, _, [], h => by rw [h.inv_nil]; exact .nil
  | k + 1, _, d :: ds, h => by
    obtain ⟨v, r, rfl, h1, hr⟩ := h.inv_cons
    exact .cons h1 (RpL.take (k := k) hr)
theorem valV_m4 {k0 k1 k2 k3 k : Key} {a b c d : V} : valV (mergeK [] [(k0, a), (k1, b), (k2, c), (k3, d)]) k = if k = k3 then some d else if k = k2 then some c else if k = k1 then some b else if k = k0 then some a else none := by
  unfold mergeK
  simp only [List.foldl]
  rw [valV_put, valV_put, valV_put, valV_put]
  rfl
theorem valV_m3 {k0 k1 k2 k : Key} {a b c : V} : valV (mergeK [] [(k0, a), (k1, b), (k2, c)]) k = if k = k2 then some c else if k = k1 then some b else if k = k0 then some a else none := by
  unfold mergeK
  simp only [List.foldl]
  rw [valV_put, valV_put, valV_put]
  rfl

/-- the world's dict -/
structure WorldAt (K : PySem.W.Frag) (H : Hp) (wd : Addr) (crs : List CRow) (ev : Str → Option (List Fld)) (nms tgs : List Str) : Prop where
  ev : EvAt K H wd ev
  ex : ∃ wk na ta ca cs, H wd = some (.dK wk) ∧ valV wk (Sum.inr "names") = some (.ref na) ∧ valV wk (Sum.inr "targets") = some (.ref ta) ∧ valV wk (Sum.inr "classes") = some (.ref ca) ∧ H na = some (.lst (nms.map V.str)) ∧ H ta = some (.lst (tgs.map V.str)) ∧ SqT K H ca cs ∧ RpL K H cs (crs.map crD)
theorem WorldAt.fr {rc : Bool} {H H' : Hp} {wd : Addr} {crs : List CRow} {ev : Str → Option (List Fld)} {nms tgs : List Str} (x : WorldAt K H wd crs ev nms tgs) (a : Fr rc H H') : WorldAt K H' wd crs ev nms tgs := by
  obtain ⟨wk, na, ta, ca, cs, e1, e2, e3, e4, e5, e6, e7, e8⟩ := x.ex
  exact ⟨x.ev.fr a, wk, na, ta, ca, cs, a _ _ e1 nl_dK, e2, e3, e4, a _ _ e5 (nl_strs _), a _ _ e6 (nl_strs _), a.keepT _ _ e7, e8.keep a.keepT⟩
def poolAt (t j : Nat) : Str := (["Ab", "Q7", "Zeta", "M", "Kl0", "Pe"] : List Str).getD ((t + j) % 6) ""
theorem pool_ne {t : Nat} (ht : t < 6) : poolAt t 0 ≠ poolAt t 1 ∧ poolAt t 0 ≠ poolAt t 2 ∧ poolAt t 0 ≠ poolAt t 3 ∧ poolAt t 1 ≠ poolAt t 2 ∧ poolAt t 1 ≠ poolAt t 3 ∧ poolAt t 2 ≠ poolAt t 3 := by
  rcases (by omega : t = 0 ∨ t = 1 ∨ t = 2 ∨ t = 3 ∨ t = 4 ∨ t = 5) with rfl | rfl | rfl | rfl | rfl | rfl <;> decide
theorem pool_wo {t : Nat} (ht : t < 6) : ∀ c : Str, c = "Wo" ∨ c = "Ua" ∨ c = "Vat" → poolAt t 0 ≠ c ∧ poolAt t 1 ≠ c ∧ poolAt t 2 ≠ c ∧ poolAt t 3 ≠ c := by
  intro c hc
  rcases (by omega : t = 0 ∨ t = 1 ∨ t = 2 ∨ t = 3 ∨ t = 4 ∨ t = 5) with rfl | rfl | rfl | rfl | rfl | rfl <;> rcases hc with rfl | rfl | rfl <;> decide
def OwnAt (K : PySem.W.Frag) (H : Hp) (kv : List (Key × V)) (c L : Str) : Prop := ∃ o vs F, valV kv (Sum.inr c) = some (.ref o) ∧ H o = some (.lst vs) ∧ RpL K H vs (F.map Fld.d) ∧ FOk L F
theorem OwnAt.fr {rc : Bool} {H H' : Hp} {kv : List (Key × V)} {c L : Str} (h : OwnAt K H kv c L) (a : Fr rc H H') : OwnAt K H' kv c L := by
  obtain ⟨o, vs, F, h1, h2, h3, h4⟩ := h
  obtain ⟨as, rfl⟩ := refsOf (flds_tup F) h3
  exact ⟨o, _, F, h1, a _ _ h2 (nl_refs _), h3.keep a.keepT, h4⟩
theorem OwnAt.put {H : Hp} {kv : List (Key × V)} {c d L : Str} {v : V} (h : OwnAt K H kv c L) (n : c ≠ d) : OwnAt K H (putK kv (Sum.inr d) v) c L := by
  obtain ⟨o, vs, F, h1, h2, h3, h4⟩ := h
  exact ⟨o, vs, F, by rw [valV_put, if_neg (fun e => n (by injection e))]; exact h1, h2, h3, h4⟩
theorem OwnAt.upd {H : Hp} {kv kv' : List (Key × V)} {ow : Addr} {o : HO} {c L : Str} (h : OwnAt K H kv c L) (e : H ow = some (.dK kv')) : OwnAt K (L2.upd H ow o) kv c L := by
  obtain ⟨a, vs, F, h1, h2, h3, h4⟩ := h
  refine ⟨a, vs, F, h1, ?_, h3.keep (.upd (.dK e)), h4⟩
  rw [upd_ne]
  · exact h2
  · intro q
    rw [q, e] at h2
    cases h2
theorem dig_at {c : Nat} (h : c < 5) : atI [V.str "3", V.str "0", V.str "4x", V.str "1", V.str "2yz"] ((c : Nat) : Int) = some (.str (digAt c)) ∧ (digAt c).length ≤ 3 := by
  rcases (by omega : c = 0 ∨ c = 1 ∨ c = 2 ∨ c = 3 ∨ c = 4) with rfl | rfl | rfl | rfl | rfl <;> exact ⟨rfl, by decide⟩
def spWorld (K : PySem.W.Frag) : Sp := fun vs H Q _ => ∃ (f l : Addr) (n : Nat), vs = [.ref f] ∧ FeedAt H f l n ∧ n ≤ 1000 ∧
  ∀ (wd : Addr) (crs : List CRow) (ev : Str → Option (List Fld)) (nms tgs : List Str) (H' : Hp), Fr false H H' → WorldAt K H' wd crs ev nms tgs → WorldOk crs ev nms tgs → FeedAt H' f l (n + 100) → Q (.ref wd) H'
theorem ok_law_world (T : Txt K mg) : FnOk P w K mg base CX0 3 T.a_law_world T.d_law_world ["feed"] (spWorld K) :=
  T.F_law_world.ok sc_law_world (fun vs H Q E h => by obtain ⟨f, l, n, rfl, _⟩ := h; rfl) fun cdv A outer s H vs Q E hr h => by
    obtain ⟨f, l, n, rfl, hf, hn, k⟩ := h
    refine ⟨_,
      -- pool = ['Ab', 'Q7', 'Zeta', 'M', 'Kl0', 'Pe']
      (pss_cons (ps_set (i := 1) sc_law_world.nd rfl (Or.inr rfl) (pe_lst (pa_cons pe_str (pa_cons pe_str (pa_cons pe_str (pa_cons pe_str (pa_cons pe_str (pa_cons pe_str pa_nil))))))))
      -- turn = _law_draw(feed, 6)
      (pss_cons (ps_set (i := 2) sc_law_world.nd rfl (Or.inr rfl) (pe_call (ok_law_draw T) (hr.mono (by first | decide | omega)) (by rfl) T.g_law_draw T.F_law_draw.kp T.b_law_draw .nil pass0 (pa_cons (pv 0) (pa_cons pe_int pa_nil))))
      -- names = [pool[int(turn + k) % 6] for k in range(4)]
      (pss_cons (ps_setLc (i := 4) (own := [("k", 3)]) (g := gName 3) (tt := tYes) rfl sc_law_world.nd rfl rfl (sw_true rfl rfl rfl (by decide +kernel)) (pi_range1 (by rfl) T.z_range (pa_cons pe_int pa_nil)) (blkOk_by (N := ["feed", "pool", "turn", "k", "names", "node", "side", "root", "heir", "letters", "own", "name", "rows", "kind", "cls", "every", "world"]) (sc := defScope s_law_world) (by decide +kernel)) (fun _ _ _ _ _ => pg_name (i := 3) sc_law_world.nd rfl (Or.inl rfl)) (fun _ _ _ _ _ => pts_nil) (fun _ _ _ _ _ => (pe_ix (ix_list : IxR _ (rIxL K)) (pv 1) (pe_op op_mod (pe_callTy call_int1 (by rfl) T.z_int (by decide +kernel) (pa_cons (pe_op op_add (pv 2) (pv 3)) pa_nil)) pe_int) (fun _ _ => rfl))))
      -- node, side, root, heir = names
      (pss_cons (ps_asg (pv 4) (pg_unl rfl (pgs_cons (pg_name (i := 5) sc_law_world.nd rfl (Or.inl rfl)) (pgs_cons (pg_name (i := 6) sc_law_world.nd rfl (Or.inl rfl)) (pgs_cons (pg_name (i := 7) sc_law_world.nd rfl (Or.inr rfl)) (pgs_cons (pg_name (i := 8) sc_law_world.nd rfl (Or.inr rfl)) pgs_nil))))))
      -- letters = {node: 'h', side: ['h', 'c'][_law_draw(feed, 2)], root: 'f', heir: 'a'}
      (pss_cons (ps_set (i := 9) sc_law_world.nd rfl (Or.inl rfl) (pe_disp (pps_cons (pv 5) pe_str (pps_cons (pv 6) (pe_ix ix_list (pe_lst (pa_cons pe_str (pa_cons pe_str pa_nil))) (pe_call (ok_law_draw T) (hr.mono (by first | decide | omega)) (by rfl) T.g_law_draw T.F_law_draw.kp T.b_law_draw .nil pass0 (pa_cons (pv 0) (pa_cons pe_int pa_nil))) (fun _ _ => rfl)) (pps_cons (pv 7) pe_str (pps_cons (pv 8) pe_str pps_nil)))) (by rfl) (by rfl) (fun z => by cases z) (by decide)))
      -- own = {}
      (pss_cons (ps_set (i := 10) sc_law_world.nd rfl (Or.inr rfl) pe_dnewK)
      -- for name in names:
      (pss_cons (ps_for PassesOwn.never rfl (pi_list (pv 4)) (pg_name (i := 11) sc_law_world.nd rfl (Or.inl rfl)) 
        -- rows = []
        (pss_cons (ps_set (i := 12) sc_law_world.nd rfl (Or.inl rfl) (pe_lst pa_nil))
        -- for k in range([1, 1, 0, 0][names.index(name)] + _law_draw(feed, 5)):
        (pss_cons (ps_for PassesOwn.never rfl (pi_range1 (by rfl) T.z_range (pa_cons (pe_op op_add (pe_ix ix_list (pe_lst (pa_cons pe_int (pa_cons pe_int (pa_cons pe_int (pa_cons pe_int pa_nil))))) (pe_bm PySem.F.plainAttrs_list PySem.F.slot_list_index PySem.F.type_list_index mt_index (pv 4) (pa_cons (pv 11) pa_nil)) (fun _ _ => rfl)) (pe_call (ok_law_draw T) (hr.mono (by first | decide | omega)) (by rfl) T.g_law_draw T.F_law_draw.kp T.b_law_draw .nil pass0 (pa_cons (pv 0) (pa_cons pe_int pa_nil)))) pa_nil)) (pg_name (i := 3) sc_law_world.nd rfl (Or.inl rfl)) 
          -- kind = _law_pick(feed, ['num', 'zero', 'ref', 'link', 'link'])
          (pss_cons (ps_set (i := 13) sc_law_world.nd rfl (Or.inl rfl) (pe_call (ok_law_pick T) (hr.mono (by first | decide | omega)) (by rfl) T.g_law_pick T.F_law_pick.kp T.b_law_pick .nil pass0 (pa_cons (pv 0) (pa_cons (pe_lst (pa_cons pe_str (pa_cons pe_str (pa_cons pe_str (pa_cons pe_str (pa_cons pe_str pa_nil)))))) pa_nil))))
          -- cls = _law_pick(feed, [node, side, heir]) if kind in ['ref', 'link'] else None
          (pss_cons (ps_set (i := 14) sc_law_world.nd rfl (Or.inl rfl) (pe_ifExp (pt_cmpR op_in_seq (pv 13) (pe_lst (pa_cons pe_str (pa_cons pe_str pa_nil))) rfl) (pe_call (ok_law_pick T) (hr.mono (by first | decide | omega)) (by rfl) T.g_law_pick T.F_law_pick.kp T.b_law_pick .nil pass0 (pa_cons (pv 0) (pa_cons (pe_lst (pa_cons (pv 5) (pa_cons (pv 6) (pa_cons (pv 8) pa_nil)))) pa_nil))) pe_non))
          -- rows.append((letters[name] + ['3', '0', '4x', '1', '2yz'][k], kind, cls))
          (pss_one (ps_expr (pe_bm PySem.F.plainAttrs_list PySem.F.slot_list_append PySem.F.type_list_append mt_append (pv 12) (pa_cons (pe_tup (pa_cons (pe_op op_add_str (pe_dget (hu_of hr) (pv 9) (pv 11) (fun _ _ => rfl)) (pe_ix ix_list (pe_lst (pa_cons pe_str (pa_cons pe_str (pa_cons pe_str (pa_cons pe_str (pa_cons pe_str pa_nil)))))) (pv 3) (fun _ _ => rfl))) (pa_cons (pv 13) (pa_cons (pv 14) pa_nil)))) pa_nil)))))))
        -- own[name] = rows
        (pss_one (ps_dput (hu_of hr) (pv 10) (pv 11) (pv 12) rfl)))))
      -- every = {node: own[node], side: own[side], root: own[root], heir: own[root] + own[heir]}
      (pss_cons (ps_set (i := 15) sc_law_world.nd rfl (Or.inl rfl) (pe_disp (pps_cons (pv 5) (pe_dget (hu_of hr) (pv 10) (pv 5) (fun _ _ => rfl)) (pps_cons (pv 6) (pe_dget (hu_of hr) (pv 10) (pv 6) (fun _ _ => rfl)) (pps_cons (pv 7) (pe_dget (hu_of hr) (pv 10) (pv 7) (fun _ _ => rfl)) (pps_cons (pv 8) (pe_op op_cat (pe_dget (hu_of hr) (pv 10) (pv 7) (fun _ _ => rfl)) (pe_dget (hu_of hr) (pv 10) (pv 8) (fun _ _ => rfl))) pps_nil)))) (by rfl) (by rfl) (fun z => by cases z) (by decide)))
      -- world = {'names': names, 'targets': [node, side, heir], 'every': every}
      (pss_cons (ps_set (i := 16) sc_law_world.nd rfl (Or.inl rfl) (pe_disp (pps_cons pe_str (pv 4) (pps_cons pe_str (pe_lst (pa_cons (pv 5) (pa_cons (pv 6) (pa_cons (pv 8) pa_nil)))) (pps_cons pe_str (pv 15) pps_nil))) (by rfl) (by rfl) (fun z => by cases z) (by decide)))
      -- rows = [(name, root if name == heir else None, tuple(own[name]), ((), (('say', 1),)), ()) for name in names]
      (pss_cons (ps_setLc (i := 12) (own := [("name", 11)]) (g := gName 11) (tt := tYes) rfl sc_law_world.nd rfl rfl (sw_true rfl rfl rfl (by decide +kernel)) (pi_list (pv 4)) (blkOk_by (N := ["feed", "pool", "turn", "k", "names", "node", "side", "root", "heir", "letters", "own", "name", "rows", "kind", "cls", "every", "world"]) (sc := defScope s_law_world) (by decide +kernel)) (fun _ _ _ _ _ => pg_name (i := 11) sc_law_world.nd rfl (Or.inl rfl)) (fun _ _ _ _ _ => pts_nil) (fun _ _ _ _ _ => (pe_tup (pa_cons (pv 11) (pa_cons (pe_ifExp (pt_cmpR op_eq (pv 11) (pv 8) (nomark _)) (pv 7) pe_non) (pa_cons (pe_callTy (call_tuple_of : CallR _ (.type "tuple") (fun xs H Q => ∃ p ys, xs = [.ref p] ∧ ((SqL K H p ys ∧ ∀ l, H l = none → Q (.ref l) (L2.upd H l (.tup ys))) ∨ (SqT K H p ys ∧ Q (.ref p) H)))) (by rfl) T.z_tuple (by decide +kernel) (pa_cons (pe_dget (hu_of hr) (pv 10) (pv 11) (fun _ _ => rfl)) pa_nil)) (pa_cons (pe_tup (pa_cons (pe_tup pa_nil) (pa_cons (pe_tup (pa_cons (pe_tup (pa_cons pe_str (pa_cons pe_int pa_nil))) pa_nil)) pa_nil))) (pa_cons (pe_tup pa_nil) pa_nil))))))))
      -- turn = _law_draw(feed, 4)
      (pss_cons (ps_set (i := 2) sc_law_world.nd rfl (Or.inr rfl) (pe_call (ok_law_draw T) (hr.mono (by first | decide | omega)) (by rfl) T.g_law_draw T.F_law_draw.kp T.b_law_draw .nil pass0 (pa_cons (pv 0) (pa_cons pe_int pa_nil))))
      -- world['classes'] = tuple(rows[turn:] + rows[:turn])
      (pss_cons (ps_dput (hu_of hr) (pv 16) pe_str (pe_callTy call_tuple_of (by rfl) T.z_tuple (by decide +kernel) (pa_cons (pe_op op_cat (pe_slice sl_list (pv 12) (po_some (pv 2)) po_none) (pe_slice sl_list (pv 12) po_none (po_some (pv 2)))) pa_nil)) rfl)
      -- return world
      (pss_one (ps_ret (pv 16)))))))))))))))
      , ?_⟩
    refine sig [some (.ref f), none, none, none, none, none, none, none, none, none, none, none, none, none, none, none, none] rfl ?_
    walk_at "s"
    refine ⟨by show 6 ≤ sizeLine; decide, fun po hpo => ?_⟩
    walk_at "s"
    refine ⟨f, l, 6, n, rfl, hf.upd hpo, by omega, by decide, fun t H1 t0 t1 kp1 hf1 => ?_⟩
    have fr1 : Fr false H H1 := (Fr.of (My.Same.new hpo)).trans (Fr.kp (hf.upd hpo) kp1)
    have po1 := kp1 _ _ upd_same (hf.ne hpo)
    refine seqCut fun N hN => ?_
    walk_at "rd"
    refine ⟨by decide, by decide, fun na hna => ?_⟩
    refine LcW.rng (fun i H2 => Same H1 H2 ∧ H2 na = some (.lst (((List.range i).map fun j => poolAt t.toNat j).map V.str))) ⟨My.Same.new hna, upd_same⟩ ?_ ?_
    · rintro i H2 hi ⟨s2, e2⟩
      have hi : i < 4 := hi
      walk_at "rd"
      obtain ⟨tn, rfl⟩ : ∃ tn : Nat, t = (tn : Int) := ⟨t.toNat, by omega⟩
      have hat : atI (([("Ab" : Str), "Q7", "Zeta", "M", "Kl0", "Pe"]).map V.str) (((tn : Int) + (0 + (i : Int))) % 6) = some (.str (poolAt tn i)) := by
        have e : ((tn : Int) + (0 + (i : Int))) % 6 = (((tn + i) % 6 : Nat) : Int) := by omega
        rw [e]
        refine atI_nat ?_
        unfold poolAt
        rw [List.getElem?_map, List.getD_eq_getElem?_getD]
        have : (tn + i) % 6 < 6 := Nat.mod_lt _ (by decide)
        rw [List.getElem?_eq_getElem (by exact this)]
        rfl
      refine ⟨by decide, _, SqL.of (s2 _ _ po1), _, hat, _, e2, ?_, My.Same.mut s2 hna, ?_⟩
      · rw [List.length_map, List.length_map, List.length_range, sizeLine_eq]
        omega
      · rw [upd_same, List.range_succ, List.map_append, List.map_append]
        rfl
    · rintro H2 ⟨s2, e2⟩
      subst hN
      obtain ⟨tn, rfl⟩ : ∃ tn : Nat, t = (tn : Int) := ⟨t.toNat, by omega⟩
      have e2 : H2 na = some (.lst [.str (poolAt tn 0), .str (poolAt tn 1), .str (poolAt tn 2), .str (poolAt tn 3)]) := e2
      have dis := pool_ne (t := tn) (by omega)
      have wo := pool_wo (t := tn) (by omega)
      generalize poolAt tn 0 = n0 at e2 dis wo
      generalize poolAt tn 1 = n1 at e2 dis wo
      generalize poolAt tn 2 = n2 at e2 dis wo
      generalize poolAt tn 3 = n3 at e2 dis wo
      have fr2 : Fr false H H2 := fr1.trans (.of s2)
      have hf2 := hf1.same s2
      clear hpo po1 kp1 hf1 fr1 hna s2 t0 t1
      walk_at "s"
      refine ⟨_, SqL.of e2, rfl, ?_⟩
      walk_at "rd"
      walk_at "s"
      intro le hle
      have nle : le ≠ f := hf2.ne hle
      have f3 := hf2.upd (o := .dK []) hle
      refine ⟨by show 2 ≤ sizeLine; decide, fun q hq => ⟨f, l, 2, _, rfl, f3.upd hq, by omega, by decide, fun t2 H3 t20 t21 kp3 hf3 => ?_⟩⟩
      have fr3 : Fr false H2 H3 := ((Fr.of (My.Same.new hle)).trans (.of (My.Same.new hq))).trans (Fr.kp (f3.upd hq) kp3)
      obtain ⟨L1, hL1, hL2⟩ : ∃ L1 : Str, atI [V.str "h", V.str "c"] t2 = some (.str L1) ∧ (L1 = "h" ∨ L1 = "c") := by
        rcases (by omega : t2 = 0 ∨ t2 = 1) with rfl | rfl
        · exact ⟨"h", rfl, .inl rfl⟩
        · exact ⟨"c", rfl, .inr rfl⟩
      have hle3 : H3 le = some (.dK []) := kp3 _ _ (My.Same.new hq _ _ upd_same) nle
      refine ⟨_, t2, rfl, SqL.of (kp3 _ _ upd_same (f3.ne hq)), _, hL1, hle3, [(Sum.inr n0, V.str "h"), (Sum.inr n1, .str L1), (Sum.inr n2, .str "f"), (Sum.inr n3, .str "a")], rfl, by show 4 ≤ 15; decide, ?_⟩
      have fr4 : Fr false H (upd H3 le (.dK (mergeK [] [(Sum.inr n0, V.str "h"), (Sum.inr n1, .str L1), (Sum.inr n2, .str "f"), (Sum.inr n3, .str "a")]))) := fr2.trans (fr3.mut hle)
      have na4 : (upd H3 le (.dK (mergeK [] [(Sum.inr n0, V.str "h"), (Sum.inr n1, .str L1), (Sum.inr n2, .str "f"), (Sum.inr n3, .str "a")]))) na = some (.lst ([n0, n1, n2, n3].map V.str)) := (fr3.mut hle) _ _ e2 (nl_strs [n0, n1, n2, n3])
      have hf4 := hf3.oth (o := .dK (mergeK [] [(Sum.inr n0, V.str "h"), (Sum.inr n1, .str L1), (Sum.inr n2, .str "f"), (Sum.inr n3, .str "a")])) nle (hf2.nl hle)
      have le4 : (upd H3 le (.dK (mergeK [] [(Sum.inr n0, V.str "h"), (Sum.inr n1, .str L1), (Sum.inr n2, .str "f"), (Sum.inr n3, .str "a")]))) le = some (.dK (mergeK [] [(Sum.inr n0, V.str "h"), (Sum.inr n1, .str L1), (Sum.inr n2, .str "f"), (Sum.inr n3, .str "a")])) := upd_same
      generalize (upd H3 le (.dK (mergeK [] [(Sum.inr n0, V.str "h"), (Sum.inr n1, .str L1), (Sum.inr n2, .str "f"), (Sum.inr n3, .str "a")]))) = H4 at fr4 na4 le4 hf4 ⊢
      have lets : ∀ i, i < 4 → valV (mergeK [] [(Sum.inr n0, V.str "h"), (Sum.inr n1, .str L1), (Sum.inr n2, .str "f"), (Sum.inr n3, .str "a")]) (Sum.inr ([n0, n1, n2, n3].getD i "")) = some (.str ((["h", L1, "f", "a"] : List Str).getD i "")) := by
        obtain ⟨d1, d2, d3, d4, d5, d6⟩ := dis
        have q : ∀ {a b : Str}, a ≠ b → ¬ (Sum.inr a : Key) = Sum.inr b := fun h e => h (by injection e)
        intro i hi
        rw [valV_m4]
        rcases (by omega : i = 0 ∨ i = 1 ∨ i = 2 ∨ i = 3) with rfl | rfl | rfl | rfl
        · exact (if_neg (q d3)).trans ((if_neg (q d2)).trans ((if_neg (q d1)).trans ((if_pos rfl).trans rfl)))
        · exact (if_neg (q d5)).trans ((if_neg (q d4)).trans ((if_pos rfl).trans rfl))
        · exact (if_neg (q d6)).trans ((if_pos rfl).trans rfl)
        · exact (if_pos rfl).trans rfl
      have dist : ∀ i m, m < i → i < 4 → [n0, n1, n2, n3].getD m "" ≠ [n0, n1, n2, n3].getD i "" := by
        obtain ⟨d1, d2, d3, d4, d5, d6⟩ := dis
        intro i m hm hi
        rcases (by omega : (m = 0 ∧ i = 1) ∨ (m = 0 ∧ i = 2) ∨ (m = 0 ∧ i = 3) ∨ (m = 1 ∧ i = 2) ∨ (m = 1 ∧ i = 3) ∨ (m = 2 ∧ i = 3)) with ⟨rfl, rfl⟩ | ⟨rfl, rfl⟩ | ⟨rfl, rfl⟩ | ⟨rfl, rfl⟩ | ⟨rfl, rfl⟩ | ⟨rfl, rfl⟩
        · exact d1
        · exact d2
        · exact d3
        · exact d4
        · exact d5
        · exact d6
      generalize mergeK [] [(Sum.inr n0, V.str "h"), (Sum.inr n1, .str L1), (Sum.inr n2, .str "f"), (Sum.inr n3, .str "a")] = ld at le4 lets
      clear hle f3 hq kp3 fr3 hf3 hle3 e2 hf2 fr2 nle
      walk_at "s"
      intro ow how
      have nowf := hf4.ne how
      have nowl := hf4.nl how
      refine seqCut fun N hN => ?_
      have last : ∀ σ H5, (∃ y3 y11 y12 y13 y14, σ = [some (.ref f), some (.ref po), some (.int tn), y3, some (.ref na), some (.str n0), some (.str n1), some (.str n2), some (.str n3), some (.ref le), some (.ref ow), y11, y12, y13, y14, none, none] ∧ Fr false H4 H5 ∧ FeedAt H5 f l (n + 2 + 15 * 4) ∧
          ∃ kv, H5 ow = some (.dK kv) ∧ kv.length ≤ 4 ∧ ∀ j, j < 4 → OwnAt K H5 kv ([n0, n1, n2, n3].getD j "") ((["h", L1, "f", "a"] : List Str).getD j "")) → N σ H5 := by
        rintro σ H5 ⟨y3, y11, y12, y13, y14, rfl, fr5, hf5, kv, h5, h6, h7⟩
        subst hN
        obtain ⟨o0, v0, F0, g01, g02, g03, g04⟩ := h7 0 (by decide)
        obtain ⟨o1, v1, F1, g11, g12, g13, g14⟩ := h7 1 (by decide)
        obtain ⟨o2, v2, F2, g21, g22, g23, g24⟩ := h7 2 (by decide)
        obtain ⟨o3, v3, F3, g31, g32, g33, g34⟩ := h7 3 (by decide)
        have g01 : valV kv (Sum.inr n0) = some (.ref o0) := g01
        have g11 : valV kv (Sum.inr n1) = some (.ref o1) := g11
        have g21 : valV kv (Sum.inr n2) = some (.ref o2) := g21
        have g31 : valV kv (Sum.inr n3) = some (.ref o3) := g31
        have hf5 := hf5.mono (m := n + 70) (by omega)
        walk_at "s"
        intro ea hea
        have s6 := My.Same.new (o := .dK []) hea
        have ow6 := s6 _ _ h5
        refine ⟨_, by rw [← g01]; exact DGet.k (k := Sum.inr n0) ow6, _, by rw [← g11]; exact DGet.k (k := Sum.inr n1) ow6, _, by rw [← g21]; exact DGet.k (k := Sum.inr n2) ow6, _, by rw [← g21]; exact DGet.k (k := Sum.inr n2) ow6, _, by rw [← g31]; exact DGet.k (k := Sum.inr n3) ow6, _, rfl, _, rfl, _, s6 _ _ g22, _, s6 _ _ g32, ?_, fun ct hct => ?_⟩
        · have := g24.len
          have := g34.len
          rw [g23.len, g33.len, List.length_map, List.length_map, sizeLine_eq]
          omega
        have s7 := s6.trans (My.Same.new (o := .lst (v2 ++ v3)) hct)
        refine ⟨My.Same.new hct _ _ upd_same, [(Sum.inr n0, .ref o0), (Sum.inr n1, .ref o1), (Sum.inr n2, .ref o2), (Sum.inr n3, .ref ct)], rfl, by show 4 ≤ 15; decide, ?_⟩
        have nec : ct ≠ ea := (ne_of_none upd_same hct).symm
        have sm8 : Same H5 (upd (upd (upd H5 ea (.dK [])) ct (.lst (v2 ++ v3))) ea (.dK (mergeK [] [(Sum.inr n0, .ref o0), (Sum.inr n1, .ref o1), (Sum.inr n2, .ref o2), (Sum.inr n3, .ref ct)]))) := My.Same.mut s7 hea
        have ct8 : (upd (upd (upd H5 ea (.dK [])) ct (.lst (v2 ++ v3))) ea (.dK (mergeK [] [(Sum.inr n0, .ref o0), (Sum.inr n1, .ref o1), (Sum.inr n2, .ref o2), (Sum.inr n3, .ref ct)]))) ct = some (.lst (v2 ++ v3)) := by rw [upd_ne nec, upd_same]
        have ea8 : (upd (upd (upd H5 ea (.dK [])) ct (.lst (v2 ++ v3))) ea (.dK (mergeK [] [(Sum.inr n0, .ref o0), (Sum.inr n1, .ref o1), (Sum.inr n2, .ref o2), (Sum.inr n3, .ref ct)]))) ea = some (.dK (mergeK [] [(Sum.inr n0, .ref o0), (Sum.inr n1, .ref o1), (Sum.inr n2, .ref o2), (Sum.inr n3, .ref ct)])) := upd_same
        generalize (upd (upd (upd H5 ea (.dK [])) ct (.lst (v2 ++ v3))) ea (.dK (mergeK [] [(Sum.inr n0, .ref o0), (Sum.inr n1, .ref o1), (Sum.inr n2, .ref o2), (Sum.inr n3, .ref ct)]))) = H8 at sm8 ct8 ea8 ⊢
        clear s6 s7 ow6 hea hct
        walk_at "s"
        intro wd hwd
        have s9 := My.Same.new (H := H8) (o := .dK []) hwd
        refine ⟨by show 3 ≤ sizeLine; decide, fun ta hta => ?_⟩
        have s10 := s9.trans (My.Same.new (o := .lst [V.str n0, V.str n1, V.str n3]) hta)
        refine ⟨My.Same.new hta _ _ upd_same, [(Sum.inr "names", .ref na), (Sum.inr "targets", .ref ta), (Sum.inr "every", .ref ea)], rfl, by show 3 ≤ 15; decide, ?_⟩
        have net : ta ≠ wd := (ne_of_none upd_same hta).symm
        have sm11 : Same H8 (upd (upd (upd H8 wd (.dK [])) ta (.lst [V.str n0, V.str n1, V.str n3])) wd (.dK (mergeK [] [(Sum.inr "names", .ref na), (Sum.inr "targets", .ref ta), (Sum.inr "every", .ref ea)]))) := My.Same.mut s10 hwd
        have ta11 : (upd (upd (upd H8 wd (.dK [])) ta (.lst [V.str n0, V.str n1, V.str n3])) wd (.dK (mergeK [] [(Sum.inr "names", .ref na), (Sum.inr "targets", .ref ta), (Sum.inr "every", .ref ea)]))) ta = some (.lst ([n0, n1, n3].map V.str)) := by rw [upd_ne net, upd_same]; rfl
        have wd11 : (upd (upd (upd H8 wd (.dK [])) ta (.lst [V.str n0, V.str n1, V.str n3])) wd (.dK (mergeK [] [(Sum.inr "names", .ref na), (Sum.inr "targets", .ref ta), (Sum.inr "every", .ref ea)]))) wd = some (.dK (mergeK [] [(Sum.inr "names", .ref na), (Sum.inr "targets", .ref ta), (Sum.inr "every", .ref ea)])) := upd_same
        have wd5 : H5 wd = none := none_of_same sm8 hwd
        have wd8 := hwd
        generalize (upd (upd (upd H8 wd (.dK [])) ta (.lst [V.str n0, V.str n1, V.str n3])) wd (.dK (mergeK [] [(Sum.inr "names", .ref na), (Sum.inr "targets", .ref ta), (Sum.inr "every", .ref ea)]))) = H11 at sm11 ta11 wd11 ⊢
        have sm := sm8.trans sm11
        have na11 := sm _ _ (fr5 _ _ na4 (nl_strs _))
        clear s9 s10 hwd hta
        refine seqCut fun N hN => ?_
        walk_at "rd"
        refine ⟨⟨_, SqL.of na11⟩, fun D hD => ?_⟩
        have row_at : ∀ i, i < 4 → ∃ (nmx : Str) (par : Option Str) (o : Addr) (v : List V) (F : List Fld), ([n0, n1, n2, n3].map V.str)[i]? = some (.str nmx) ∧ ([⟨n0, none, F0⟩, ⟨n1, none, F1⟩, ⟨n2, none, F2⟩, ⟨n3, some n2, F3⟩] : List CRow).take (i + 1) = ([⟨n0, none, F0⟩, ⟨n1, none, F1⟩, ⟨n2, none, F2⟩, ⟨n3, some n2, F3⟩] : List CRow).take i ++ [⟨nmx, par, F⟩] ∧
            (par = if nmx = n3 then some n2 else none) ∧ valV kv (Sum.inr nmx) = some (.ref o) ∧ H5 o = some (.lst v) ∧ RpL K H5 v (F.map Fld.d) := by
          obtain ⟨d1, d2, d3, d4, d5, d6⟩ := dis
          intro i hi
          rcases (by omega : i = 0 ∨ i = 1 ∨ i = 2 ∨ i = 3) with rfl | rfl | rfl | rfl
          · exact ⟨n0, none, o0, v0, F0, rfl, rfl, (if_neg d3).symm, g01, g02, g03⟩
          · exact ⟨n1, none, o1, v1, F1, rfl, rfl, (if_neg d5).symm, g11, g12, g13⟩
          · exact ⟨n2, none, o2, v2, F2, rfl, rfl, (if_neg d6).symm, g21, g22, g23⟩
          · exact ⟨n3, some n2, o3, v3, F3, rfl, rfl, (if_pos rfl).symm, g31, g32, g33⟩
        generalize hR : ([⟨n0, none, F0⟩, ⟨n1, none, F1⟩, ⟨n2, none, F2⟩, ⟨n3, some n2, F3⟩] : List CRow) = R at row_at
        refine LcW.by (walk_list (xs := [n0, n1, n2, n3].map V.str)) (fun i H12 => Same H11 H12 ∧ ∃ vs, H12 D = some (.lst vs) ∧ RpL K H12 vs ((R.take i).map crD)) ⟨My.Same.new hD, [], upd_same, .nil⟩ (fun i H12 _ hh => SqL.of (hh.1 _ _ na11)) ?_ ?_
        · rintro i x H13 H12 hi ⟨s12, vs, e12, r12⟩ ⟨rfl, hx⟩
          have hi4 : i < 4 := hi
          obtain ⟨nmx, par, o, v, F, q1, q2, q3, q4, q5, q6⟩ := row_at i hi4
          rw [hx] at q1
          cases q1
          have smA := sm.trans s12
          walk_at "rd"
          refine ite2 (fun hd => ?_) (fun hd => ?_)
          · rw [if_pos (of_decide_eq_true hd)] at q3
            subst q3
            refine ⟨_, by rw [← q4]; exact DGet.k (k := Sum.inr nmx) (smA _ _ h5), _, rfl, v, .inl ⟨SqL.of (smA _ _ q5), fun a1 ha1 => ⟨Nat.zero_le _, fun a2 ha2 => ⟨by show 2 ≤ sizeLine; decide, fun a3 ha3 => ⟨by show 1 ≤ sizeLine; decide, fun a4 ha4 => ⟨by show 2 ≤ sizeLine; decide, fun a5 ha5 => ⟨Nat.zero_le _, fun a6 ha6 => ⟨by show 5 ≤ sizeLine; decide, fun a7 ha7 => ?_⟩⟩⟩⟩⟩⟩⟩⟩
            have z7 := My.Same.new (o := .tup [V.str nmx, V.str n2, V.ref a1, V.ref a5, V.ref a6]) ha7
            have z6 := (My.Same.new (o := .tup []) ha6).trans z7
            have z5 := (My.Same.new (o := .tup [V.ref a2, V.ref a4]) ha5).trans z6
            have z4 := (My.Same.new (o := .tup [V.ref a3]) ha4).trans z5
            have z3 := (My.Same.new (o := .tup [V.str "say", V.int 1]) ha3).trans z4
            have z2 := (My.Same.new (o := .tup []) ha2).trans z3
            have z1 := (My.Same.new (o := .tup v) ha1).trans z2
            have e13 := z1 _ _ e12
            have kq := KeepT.upd (K := K) (o := .lst (vs ++ [.ref a7])) (.lst e13)
            have kt := (KeepT.of z1).trans kq
            refine ⟨vs, e13, ?_, My.Same.mut (s12.trans z1) hD, vs ++ [.ref a7], upd_same, ?_⟩
            · rw [r12.len, List.length_map, List.length_take, sizeLine_eq]
              omega
            · rw [q2, List.map_append]
              refine (r12.keep kt).snoc ?_
              refine Rp.tup (kq _ _ (SqT.of upd_same)) (.cons (.str _) (.cons (Rp.optS (some n2)) (.cons ?_ (.cons ?_ (.cons ?_ .nil)))))
              · exact Rp.tup (kq _ _ (SqT.of (z2 _ _ upd_same))) ((q6.same (smA)).keep kt)
              · refine Rp.tup (kq _ _ (SqT.of (z6 _ _ upd_same))) (.cons (Rp.tup (kq _ _ (SqT.of (z3 _ _ upd_same))) .nil) (.cons (Rp.tup (kq _ _ (SqT.of (z5 _ _ upd_same))) (.cons ?_ .nil)) .nil))
                exact Rp.tup (kq _ _ (SqT.of (z4 _ _ upd_same))) (.cons (.str _) (.cons (.int 1) .nil))
              · exact Rp.tup (kq _ _ (SqT.of (z7 _ _ upd_same))) .nil
          · rw [if_neg (fun e => hd (decide_eq_true e))] at q3
            subst q3
            refine ⟨_, by rw [← q4]; exact DGet.k (k := Sum.inr nmx) (smA _ _ h5), _, rfl, v, .inl ⟨SqL.of (smA _ _ q5), fun a1 ha1 => ⟨Nat.zero_le _, fun a2 ha2 => ⟨by show 2 ≤ sizeLine; decide, fun a3 ha3 => ⟨by show 1 ≤ sizeLine; decide, fun a4 ha4 => ⟨by show 2 ≤ sizeLine; decide, fun a5 ha5 => ⟨Nat.zero_le _, fun a6 ha6 => ⟨by show 5 ≤ sizeLine; decide, fun a7 ha7 => ?_⟩⟩⟩⟩⟩⟩⟩⟩
            have z7 := My.Same.new (o := .tup [V.str nmx, V.non, V.ref a1, V.ref a5, V.ref a6]) ha7
            have z6 := (My.Same.new (o := .tup []) ha6).trans z7
            have z5 := (My.Same.new (o := .tup [V.ref a2, V.ref a4]) ha5).trans z6
            have z4 := (My.Same.new (o := .tup [V.ref a3]) ha4).trans z5
            have z3 := (My.Same.new (o := .tup [V.str "say", V.int 1]) ha3).trans z4
            have z2 := (My.Same.new (o := .tup []) ha2).trans z3
            have z1 := (My.Same.new (o := .tup v) ha1).trans z2
            have e13 := z1 _ _ e12
            have kq := KeepT.upd (K := K) (o := .lst (vs ++ [.ref a7])) (.lst e13)
            have kt := (KeepT.of z1).trans kq
            refine ⟨vs, e13, ?_, My.Same.mut (s12.trans z1) hD, vs ++ [.ref a7], upd_same, ?_⟩
            · rw [r12.len, List.length_map, List.length_take, sizeLine_eq]
              omega
            · rw [q2, List.map_append]
              refine (r12.keep kt).snoc ?_
              refine Rp.tup (kq _ _ (SqT.of upd_same)) (.cons (.str _) (.cons (Rp.optS none) (.cons ?_ (.cons ?_ (.cons ?_ .nil)))))
              · exact Rp.tup (kq _ _ (SqT.of (z2 _ _ upd_same))) ((q6.same (smA)).keep kt)
              · refine Rp.tup (kq _ _ (SqT.of (z6 _ _ upd_same))) (.cons (Rp.tup (kq _ _ (SqT.of (z3 _ _ upd_same))) .nil) (.cons (Rp.tup (kq _ _ (SqT.of (z5 _ _ upd_same))) (.cons ?_ .nil)) .nil))
                exact Rp.tup (kq _ _ (SqT.of (z4 _ _ upd_same))) (.cons (.str _) (.cons (.int 1) .nil))
              · exact Rp.tup (kq _ _ (SqT.of (z7 _ _ upd_same))) .nil
        · rintro H12 ⟨s12, vs, e12, r12⟩
          have r12 : RpL K H12 vs (R.map crD) := by
            have : R.take ([n0, n1, n2, n3].map V.str).length = R := by rw [← hR]; rfl
            rw [this] at r12
            exact r12
          subst hN
          walk_at "s"
          have smA := sm.trans s12
          have hf12 := hf5.same smA
          refine ⟨f, l, 4, _, rfl, hf12, by omega, by decide, fun t4 H13 t40 t41 kp13 hf13 => ?_⟩
          obtain ⟨t4n, rfl⟩ : ∃ t4n : Nat, t4 = (t4n : Int) := ⟨t4.toNat, by omega⟩
          have fr13 : Fr false H12 H13 := Fr.kp hf12 kp13
          walk_at "s"
          have lR : R.length = 4 := by rw [← hR]; rfl
          have lv : vs.length = 4 := by rw [r12.len, List.length_map, lR]
          have htv : t4n ≤ vs.length := by omega
          obtain ⟨as, eas⟩ := refsOf (fun d hd => by obtain ⟨q, _, rfl⟩ := List.mem_map.mp hd; exact ⟨_, rfl⟩) r12
          have e13 : H13 D = some (.lst vs) := by
            rw [eas] at e12 ⊢
            exact fr13 _ _ e12 (nl_refs _)
          refine ⟨vs, SqL.of e13, fun p1 hp1 => ?_⟩
          rw [cutV_drop htv]
          have y1 := My.Same.new (o := .lst (vs.drop t4n)) hp1
          refine ⟨vs, SqL.of (y1 _ _ e13), fun p2 hp2 => ?_⟩
          rw [cutV_take htv]
          have y2 := y1.trans (My.Same.new (o := .lst (vs.take t4n)) hp2)
          refine ⟨_, My.Same.new hp2 _ _ upd_same, _, upd_same, by rw [List.length_drop, List.length_take, sizeLine_eq]; omega, fun p3 hp3 => ⟨vs.drop t4n ++ vs.take t4n, .inl ⟨SqL.of upd_same, fun la hla => ?_⟩⟩⟩
          have y3 := y2.trans (My.Same.new (o := .lst (vs.drop t4n ++ vs.take t4n)) hp3)
          have y4 := y3.trans (My.Same.new (o := .tup (vs.drop t4n ++ vs.take t4n)) hla)
          have wd13 := fr13.trans (.of y4) _ _ (s12 _ _ wd11) nl_dK
          refine ⟨_, DPut.k (k := Sum.inr "classes") wd13 (Nat.lt_of_le_of_lt (length_mergeK _ _) (by show 0 + 3 < sizeLine; rw [sizeLine_eq]; decide)), ?_⟩
          walk_at "r"
          have fr8F : Fr false H8 (upd (upd (upd (upd (upd H13 p1 (.lst (vs.drop t4n))) p2 (.lst (vs.take t4n))) p3 (.lst (vs.drop t4n ++ vs.take t4n))) la (.tup (vs.drop t4n ++ vs.take t4n))) wd (.dK (putK (mergeK [] [(Sum.inr "names", V.ref na), (Sum.inr "targets", .ref ta), (Sum.inr "every", .ref ea)]) (Sum.inr "classes") (.ref la)))) :=
            ((Fr.of (sm11.trans s12)).trans (fr13.trans (.of y4))).mut wd8
          have wd13' : (upd (upd (upd (upd H13 p1 (.lst (vs.drop t4n))) p2 (.lst (vs.take t4n))) p3 (.lst (vs.drop t4n ++ vs.take t4n))) la (.tup (vs.drop t4n ++ vs.take t4n))) wd = _ := wd13
          have ktw : KeepT K (upd (upd (upd (upd H13 p1 (.lst (vs.drop t4n))) p2 (.lst (vs.take t4n))) p3 (.lst (vs.drop t4n ++ vs.take t4n))) la (.tup (vs.drop t4n ++ vs.take t4n))) (upd (upd (upd (upd (upd H13 p1 (.lst (vs.drop t4n))) p2 (.lst (vs.take t4n))) p3 (.lst (vs.drop t4n ++ vs.take t4n))) la (.tup (vs.drop t4n ++ vs.take t4n))) wd (.dK (putK (mergeK [] [(Sum.inr "names", V.ref na), (Sum.inr "targets", .ref ta), (Sum.inr "every", .ref ea)]) (Sum.inr "classes") (.ref la)))) := .upd (.dK wd13)
          have laF := ktw _ _ (SqT.of upd_same : SqT K _ la (vs.drop t4n ++ vs.take t4n))
          have kt12 := (fr13.keepT.trans (.of y4)).trans ktw
          have hfF := (hf13.same y4).oth (p := wd) (o := .dK (putK (mergeK [] [(Sum.inr "names", V.ref na), (Sum.inr "targets", .ref ta), (Sum.inr "every", .ref ea)]) (Sum.inr "classes") (.ref la))) (hf5.ne wd5) (hf5.nl wd5)
          have ta13 := (fr13.trans (.of y4)) _ _ (s12 _ _ ta11) (nl_strs _)
          have wdF : (upd (upd (upd (upd (upd H13 p1 (.lst (vs.drop t4n))) p2 (.lst (vs.take t4n))) p3 (.lst (vs.drop t4n ++ vs.take t4n))) la (.tup (vs.drop t4n ++ vs.take t4n))) wd (.dK (putK (mergeK [] [(Sum.inr "names", V.ref na), (Sum.inr "targets", .ref ta), (Sum.inr "every", .ref ea)]) (Sum.inr "classes") (.ref la)))) wd = some (.dK (putK (mergeK [] [(Sum.inr "names", V.ref na), (Sum.inr "targets", .ref ta), (Sum.inr "every", .ref ea)]) (Sum.inr "classes") (.ref la))) := upd_same
          have taF : (upd (upd (upd (upd (upd H13 p1 (.lst (vs.drop t4n))) p2 (.lst (vs.take t4n))) p3 (.lst (vs.drop t4n ++ vs.take t4n))) la (.tup (vs.drop t4n ++ vs.take t4n))) wd (.dK (putK (mergeK [] [(Sum.inr "names", V.ref na), (Sum.inr "targets", .ref ta), (Sum.inr "every", .ref ea)]) (Sum.inr "classes") (.ref la)))) ta = some (.lst ([n0, n1, n3].map V.str)) := by
            rw [upd_ne (fun e => by rw [e, wd13] at ta13; cases ta13)]
            exact ta13
          generalize (upd (upd (upd (upd (upd H13 p1 (.lst (vs.drop t4n))) p2 (.lst (vs.take t4n))) p3 (.lst (vs.drop t4n ++ vs.take t4n))) la (.tup (vs.drop t4n ++ vs.take t4n))) wd (.dK (putK (mergeK [] [(Sum.inr "names", V.ref na), (Sum.inr "targets", .ref ta), (Sum.inr "every", .ref ea)]) (Sum.inr "classes") (.ref la)))) = HF at fr8F laF hfF wdF taF kt12 ⊢
          clear wd13' ktw
          have fr5F : Fr false H5 HF := (Fr.of sm8).trans fr8F
          have vw : ∀ x : Str, x ≠ "classes" → valV (putK (mergeK [] [(Sum.inr "names", V.ref na), (Sum.inr "targets", .ref ta), (Sum.inr "every", .ref ea)]) (Sum.inr "classes") (.ref la)) (Sum.inr x : Key) = if (Sum.inr x : Key) = Sum.inr ("every" : Str) then some (.ref ea) else if (Sum.inr x : Key) = Sum.inr ("targets" : Str) then some (.ref ta) else if (Sum.inr x : Key) = Sum.inr ("names" : Str) then some (.ref na) else none := fun x hx => by
            rw [valV_put, if_neg (fun e => hx (by injection e)), valV_m3]
          have cell : ∀ {o : Addr} {v : List V} {F : List Fld}, H5 o = some (.lst v) → RpL K H5 v (F.map Fld.d) → HF o = some (.lst v) ∧ RpL K HF v (F.map Fld.d) := fun {o v F} h r => by
            obtain ⟨as, rfl⟩ := refsOf (flds_tup F) r
            exact ⟨fr5F _ _ h (nl_refs _), r.keep fr5F.keepT⟩
          refine k wd (R.drop t4n ++ R.take t4n) (evW n0 n1 n2 n3 F0 F1 F2 F3) [n0, n1, n2, n3] [n0, n1, n3] HF (fr4.trans (fr5.trans fr5F)) ⟨⟨_, ea, _, wdF, ?_, fr8F _ _ ea8 nl_dK, fun c => ?_⟩, ?_⟩ (world_ok hR (List.perm_append_comm.trans (by rw [List.take_append_drop])) dis wo hL2 g04 g14 g24 g34) (hfF.mono (by omega))
          · rw [vw _ (by decide)]
            exact if_pos rfl
          · have q : ∀ {a b : Str}, a ≠ b → ¬ (Sum.inr a : Key) = Sum.inr b := fun h e => h (by injection e)
            obtain ⟨d1, d2, d3, d4, d5, d6⟩ := dis
            rw [valV_m4]
            unfold evW
            by_cases e3 : c = n3
            · subst e3
              rw [if_pos rfl, if_neg d3.symm, if_neg d5.symm, if_neg d6.symm, if_pos rfl]
              have r8 : RpL K H8 (v2 ++ v3) ((F2 ++ F3).map Fld.d) := by
                rw [List.map_append]
                exact (g23.same sm8).append (g33.same sm8)
              obtain ⟨as8, e8⟩ := refsOf (flds_tup _) r8
              refine .inr ⟨ct, F2 ++ F3, v2 ++ v3, rfl, rfl, ?_, r8.keep fr8F.keepT, ?_⟩
              · rw [e8] at ct8 ⊢
                exact fr8F _ _ ct8 (nl_refs _)
              · have := g24.len
                have := g34.len
                rw [List.length_append]
                omega
            rw [if_neg (q e3)]
            by_cases e2 : c = n2
            · subst e2
              rw [if_pos rfl, if_neg d2.symm, if_neg d4.symm, if_pos rfl]
              exact .inr ⟨o2, F2, v2, rfl, rfl, (cell g22 g23).1, (cell g22 g23).2, Nat.le_trans g24.len (by decide)⟩
            rw [if_neg (q e2)]
            by_cases e1 : c = n1
            · subst e1
              rw [if_pos rfl, if_neg d1.symm, if_pos rfl]
              exact .inr ⟨o1, F1, v1, rfl, rfl, (cell g12 g13).1, (cell g12 g13).2, Nat.le_trans g14.len (by decide)⟩
            rw [if_neg (q e1)]
            by_cases e0 : c = n0
            · subst e0
              rw [if_pos rfl, if_pos rfl]
              exact .inr ⟨o0, F0, v0, rfl, rfl, (cell g02 g03).1, (cell g02 g03).2, Nat.le_trans g04.len (by decide)⟩
            rw [if_neg (q e0), if_neg e0, if_neg e1, if_neg e2, if_neg e3]
            exact .inl ⟨rfl, rfl⟩
          · refine ⟨_, na, ta, la, vs.drop t4n ++ vs.take t4n, wdF, ?_, ?_, by rw [valV_put, if_pos rfl], fr5F _ _ (fr5 _ _ na4 (nl_strs _)) (nl_strs _), taF, laF, ?_⟩
            · rw [vw _ (by decide), if_neg (by decide), if_neg (by decide), if_pos rfl]
            · rw [vw _ (by decide), if_neg (by decide), if_pos rfl]
            · rw [List.map_append, List.map_drop, List.map_take]
              have r13 : RpL K HF vs (R.map crD) := r12.keep kt12
              exact r13.drop.append r13.take
      walk_at "f"
      refine ⟨⟨_, SqL.of (My.Same.new how _ _ na4)⟩, ?_⟩
      refine ForW.by (walk_list (xs := [n0, n1, n2, n3].map V.str)) (fun i σ H5 => ∃ y3 y11 y12 y13 y14, σ = [some (.ref f), some (.ref po), some (.int tn), y3, some (.ref na), some (.str n0), some (.str n1), some (.str n2), some (.str n3), some (.ref le), some (.ref ow), y11, y12, y13, y14, none, none] ∧ Fr false H4 H5 ∧ FeedAt H5 f l (n + 2 + 15 * i) ∧
          ∃ kv, H5 ow = some (.dK kv) ∧ kv.length ≤ i ∧ ∀ j, j < i → OwnAt K H5 kv ([n0, n1, n2, n3].getD j "") ((["h", L1, "f", "a"] : List Str).getD j ""))
        ⟨_, _, _, _, _, rfl, .of (My.Same.new how), (hf4.upd how).mono (by omega), [], upd_same, Nat.le_refl _, fun j hj => absurd hj (Nat.not_lt_zero _)⟩ (fun i σ H5 _ hh => by obtain ⟨_, _, _, _, _, _, hh, _⟩ := hh; exact SqL.of (hh _ _ na4 (nl_strs _))) ?_ last
      rintro i x σ H6 H5 hi ⟨y3, y11, y12, y13, y14, rfl, fr5, hf5, kv, h5, h6, h7⟩ ⟨rfl, hx⟩
      have hi4 : i < 4 := hi
      have ex : x = .str ([n0, n1, n2, n3].getD i "") := by
        rw [List.getElem?_map, List.getElem?_eq_getElem (by exact hi4)] at hx
        have hx := Option.some.inj hx
        rw [← hx, List.getD_eq_getElem?_getD, List.getElem?_eq_getElem (by exact hi4)]
        rfl
      subst ex
      walk_at "g"
      walk_at "s"
      refine ⟨Nat.zero_le _, fun ro hro => ?_⟩
      refine seqCut fun N2 hN2 => ?_
      walk_at "f"
      refine ⟨by show 4 ≤ sizeLine; decide, fun bq hbq => ?_⟩
      have na5 := fr5 _ _ na4 (nl_strs _)
      have s6 := (My.Same.new (H := H5) (o := .lst []) hro).trans (My.Same.new (o := .lst [V.int 1, V.int 1, V.int 0, V.int 0]) hbq)
      have na6 := s6 _ _ na5
      obtain ⟨b0, hb0, b00, b01⟩ : ∃ b0 : Int, atI [V.int 1, V.int 1, V.int 0, V.int 0] ((i : Nat) : Int) = some (.int b0) ∧ 0 ≤ b0 ∧ b0 ≤ 1 := by
        rcases (by omega : i = 0 ∨ i = 1 ∨ i = 2 ∨ i = 3) with rfl | rfl | rfl | rfl
        · exact ⟨1, rfl, by decide, by decide⟩
        · exact ⟨1, rfl, by decide, by decide⟩
        · exact ⟨0, rfl, by decide, by decide⟩
        · exact ⟨0, rfl, by decide, by decide⟩
      have hgi : ([n0, n1, n2, n3].map V.str)[i]? = some (.str ([n0, n1, n2, n3].getD i "")) := by
        rw [List.getElem?_map, List.getElem?_eq_getElem (by exact hi4), List.getD_eq_getElem?_getD, List.getElem?_eq_getElem (by exact hi4)]
        rfl
      have bef : ∀ (m : Nat) (z' : V), m < i → ([n0, n1, n2, n3].map V.str)[m]? = some z' → eqV z' (V.str ([n0, n1, n2, n3].getD i "")) = false := by
        intro m z' hm hz
        have hm4 : m < 4 := by omega
        rw [List.getElem?_map, List.getElem?_eq_getElem (by exact hm4)] at hz
        cases hz
        have := dist i m hm hi4
        rw [List.getD_eq_getElem?_getD, List.getElem?_eq_getElem (by exact hm4)] at this
        exact beq_false_of_ne this
      refine ⟨tyL na6, _, SqL.of na6, rfl, flat_strs _, i, _, hgi, by show (_ == _) = true; simp, bef, _, SqL.of upd_same, _, hb0, ?_⟩
      generalize hnm : [n0, n1, n2, n3].getD i "" = nmi at hx hgi bef
      refine ⟨f, l, 5, _, rfl, (hf5.upd hro).upd hbq, by omega, by decide, fun d H7 d0 d1 kp7 hf7 => ⟨_, rfl, _, rfl, by omega, by omega, ?_⟩⟩
      have fr7 : Fr false H5 H7 := (Fr.of s6).trans (Fr.kp ((hf5.upd hro).upd hbq) kp7)
      have nrof := hf5.ne hro
      have nrol := hf5.nl hro
      have hro7 : H7 ro = some (.lst []) := kp7 _ _ (My.Same.new hbq _ _ upd_same) nrof
      generalize hLi : (["h", L1, "f", "a"] : List Str).getD i "" = Li
      have hlt := lets i hi4
      have hLl : Li.length ≤ 1 := by
        rw [← hLi]
        rcases (by omega : i = 0 ∨ i = 1 ∨ i = 2 ∨ i = 3) with rfl | rfl | rfl | rfl
        · exact (by decide : (Str.ofString "h").length ≤ 1)
        · show L1.length ≤ 1
          rcases hL2 with rfl | rfl <;> decide
        · exact (by decide : (Str.ofString "f").length ≤ 1)
        · exact (by decide : (Str.ofString "a").length ≤ 1)
      rw [hLi] at hlt
      refine ForW.rng (fun c σ H8 => ∃ y3 y13 y14, σ = [some (.ref f), some (.ref po), some (.int tn), y3, some (.ref na), some (.str n0), some (.str n1), some (.str n2), some (.str n3), some (.ref le), some (.ref ow), some (.str nmi), some (.ref ro), y13, y14, none, none] ∧ Fr false H5 H8 ∧ FeedAt H8 f l (n + 2 + 15 * i + 1 + 2 * c) ∧
          ∃ vs F, H8 ro = some (.lst vs) ∧ RpL K H8 vs (F.map Fld.d) ∧ F.map Fld.f = (List.range c).map (fname Li)) ⟨_, _, _, rfl, fr7, hf7, [], [], hro7, .nil, rfl⟩ ?_ ?_
      · rintro c σ H9 hc ⟨y3, y13, y14, rfl, fr9, hf9, vs, F, h9, hF, eF⟩
        have hc5 : c < 5 := by omega
        rw [Int.zero_add]
        walk_at "g"
        walk_at "s"
        refine ⟨by show 5 ≤ sizeLine; decide, fun kq hkq => ?_⟩
        have s10 := My.Same.new (o := .lst [V.str "num", V.str "zero", V.str "ref", V.str "link", V.str "link"]) hkq
        refine ⟨f, l, .ref kq, _, rfl, hf9.upd hkq, by omega, .inr ⟨kq, _, rfl, hf9.ne hkq, SqL.of upd_same, by decide, fun v H10 hv kp10 hf10 => ?_⟩⟩
        obtain ⟨kd, rfl⟩ : ∃ kd : Str, v = .str kd := by
          simp only [List.mem_cons, List.not_mem_nil, or_false] at hv
          rcases hv with rfl | rfl | rfl | rfl | rfl <;> exact ⟨_, rfl⟩
        have fr10 : Fr false H9 H10 := (Fr.of s10).trans (Fr.kp (hf9.upd hkq) kp10)
        have hro10 := kp10 _ _ (s10 _ _ h9) nrof
        refine seqCut fun N3 hN3 => ?_
        have last3 : ∀ (H11 : Hp) (cls : Option Str), Fr false H10 H11 → H11 ro = some (.lst vs) → FeedAt H11 f l (n + 2 + 15 * i + 1 + 2 * (c + 1)) → N3 [some (V.ref f), some (V.ref po), some (V.int tn), some (V.int c), some (V.ref na), some (V.str n0), some (V.str n1), some (V.str n2), some (V.str n3), some (V.ref le), some (V.ref ow), some (V.str nmi), some (V.ref ro), some (.str kd), some (optSV cls), none, none] H11 := by
          intro H11 cls fr11 hro11 hf11
          subst hN3
          walk_at "l"
          have le11 := (fr5.trans (fr9.trans (fr10.trans fr11))) _ _ le4 nl_dK
          obtain ⟨dg1, dg2⟩ := dig_at hc5
          refine ⟨tyL hro11, .str Li, by rw [← hlt, hnm]; exact DGet.k (k := Sum.inr nmi) le11, by show 5 ≤ sizeLine; decide, fun p hp => ⟨_, SqL.of upd_same, _, dg1, _, rfl, _, rfl, by rw [sizeLine_eq]; omega, by show 3 ≤ sizeLine; decide, fun z hz => ?_⟩⟩
          have s12 := (My.Same.new (H := H11) (o := .lst [V.str "3", V.str "0", V.str "4x", V.str "1", V.str "2yz"]) hp).trans (My.Same.new (o := .tup [V.str (Li ++ digAt c), V.str kd, optSV cls]) hz)
          have ro12 := s12 _ _ hro11
          have kt : KeepT K H9 (upd (upd (upd H11 p (.lst [V.str "3", V.str "0", V.str "4x", V.str "1", V.str "2yz"])) z (.tup [V.str (Li ++ digAt c), V.str kd, optSV cls])) ro (.lst (vs ++ [.ref z]))) := ((fr10.trans fr11).keepT.trans (.of s12)).trans (.upd (.lst ro12))
          refine ⟨vs, ro12, ?_, _, _, _, rfl, ?_, ?_, vs ++ [.ref z], F ++ [⟨fname Li c, kd, cls⟩], upd_same, ?_, ?_⟩
          · have := congrArg List.length eF
            rw [List.length_map, List.length_map, List.length_range] at this
            rw [hF.len, List.length_map, sizeLine_eq]
            omega
          · exact (fr9.trans (fr10.trans (fr11.trans (.of s12)))).mut hro
          · exact (((hf11.upd hp).upd hz).oth nrof nrol)
          · rw [List.map_append]
            refine (hF.keep kt).snoc (Rp.tup (KeepT.upd (.lst ro12) _ _ (SqT.of upd_same)) (.cons (.str _) (.cons (.str _) (.cons (Rp.optS cls) .nil))))
          · rw [List.map_append, eF, List.range_succ, List.map_append]
            rfl
        walk_at "rd"
        refine ⟨by show 2 ≤ sizeLine; decide, fun p hp => ⟨_, .inl (SqL.of upd_same), rfl, rfl, ?_⟩⟩
        have s11 := My.Same.new (o := .lst [V.str "ref", V.str "link"]) hp
        refine ite2 (fun _ => ?_) (fun _ => ?_)
        · refine ⟨by show 3 ≤ sizeLine; decide, fun q hq => ?_⟩
          refine ⟨f, l, .ref q, _, rfl, (hf10.upd hp).upd hq, by omega, .inr ⟨q, _, rfl, (hf10.upd hp).ne hq, SqL.of upd_same, by show 0 < 3; decide, fun v H12 hv kp12 hf12 => ?_⟩⟩
          obtain ⟨cl, rfl⟩ : ∃ cl : Str, v = .str cl := by
            simp only [List.mem_cons, List.not_mem_nil, or_false] at hv
            rcases hv with rfl | rfl | rfl <;> exact ⟨_, rfl⟩
          have s12 := s11.trans (My.Same.new (o := .lst [V.str n0, V.str n1, V.str n3]) hq)
          exact last3 H12 (some cl) ((Fr.of s12).trans (Fr.kp ((hf10.upd hp).upd hq) kp12)) (kp12 _ _ (s12 _ _ hro10) nrof) (hf12.mono (by omega))
        · exact last3 _ none (.of s11) (s11 _ _ hro10) ((hf10.upd hp).mono (by omega))
      · rintro σ H9 ⟨y3, y13, y14, rfl, fr9, hf9, vs, F, h9, hF, eF⟩
        subst hN2
        walk_at "l"
        refine ⟨_, DPut.k (k := Sum.inr nmi) (fr9 _ _ h5 nl_dK) (by rw [sizeLine_eq]; omega), _, _, _, _, _, rfl, ?_, ?_, _, upd_same, Nat.le_trans (length_putK _ _ _) (by omega), fun j hj => ?_⟩
        · exact (fr5.trans fr9).mut how
        · exact ((hf9.oth nowf nowl).mono (by omega))
        · have ow9 := fr9 _ _ h5 nl_dK
          by_cases e : j = i
          · subst e
            rw [hnm, hLi]
            have nro : ro ≠ ow := (ne_of_none h5 hro).symm
            refine ⟨ro, vs, F, by rw [valV_put, if_pos rfl], by rw [upd_ne nro]; exact h9, hF.keep (.upd (.dK ow9)), _, ?_, eF⟩
            omega
          · have hji : j < i := by omega
            exact (((h7 j hji).fr fr9).upd ow9).put (by rw [← hnm]; exact dist i j hji hi4)

theorem off_get {H : Hp} {a y : Addr} {xs : List V} (h : (upd H a (.tup [])) y = some (.lst xs)) : H y = some (.lst xs) ∧ y ≠ a := by
  by_cases e : y = a
  · rw [e, upd_same] at h
    cases h
  · rw [upd_ne e] at h
    exact ⟨h, e⟩
theorem CellKeep.off {n : Nat} {H : Hp} {a : Addr} : CellKeep n (upd H a (.tup [])) H :=
  ⟨fun y z ⟨v, h, q⟩ => ⟨v, (off_get h).1, q⟩, fun y c b pa h => ⟨b, (off_get h).1⟩, fun y as h => (off_get h).1⟩
theorem Fr.off {rc : Bool} {H H' : Hp} {a : Addr} {x : HO} (h : ∀ b o, H b = some o → b ≠ a → ¬ Loose rc o → H' b = some o) : Fr rc (upd H a x) (upd H' a x) := fun b o hb hn => by
  by_cases e : b = a
  · rw [e, upd_same] at hb ⊢
    exact hb
  · rw [upd_ne e] at hb ⊢
    exact h b o hb e hn
theorem PrSh.updRefs {n : Nat} {H : Hp} {a y : Addr} {as : List Addr} {o : HO} {z : Str × Option Str} (e : H a = some (.lst (as.map V.ref))) (h : PrSh n H y z) : PrSh n (upd H a o) y z := by
  obtain ⟨v, h1, h2⟩ := h
  refine ⟨v, ?_, h2⟩
  rw [upd_ne]
  · exact h1
  · intro q
    rw [q, e] at h1
    injection h1 with h1
    injection h1 with h1
    exact three_refs rfl as h1
def spRows (K : PySem.W.Frag) : Sp := fun vs H Q _ => ∃ (f l wd : Addr) (n m : Nat) (crs : List CRow) (ev : Str → Option (List Fld)) (nms tgs : List Str), vs = [.ref f, .ref wd, .int (m : Nat)] ∧ FeedAt H f l n ∧ n ≤ 1000 ∧ m ≤ 30 ∧ WorldAt K H wd crs ev nms tgs ∧ nms.length = 4 ∧ tgs.length = 3 ∧ (∀ c, c ∈ nms ∨ c ∈ tgs → ∃ fs, ev c = some fs ∧ fs.length ≤ 100) ∧
  ∀ (ra : Addr) (cs : List (Str × List (Str × Option Str))) (H' : Hp), Fr false H H' → RowsSh m H' ra cs → cs.length = m → (∀ c ∈ cs, ∃ fs, ev c.1 = some fs ∧ c.2 = fs.map fun q => (q.f, q.cls)) → FeedAt H' f l (n + 40000) → Q (.ref ra) H'
theorem ok_law_rows (T : Txt K mg) : FnOk P w K mg base CX0 3 T.a_law_rows T.d_law_rows ["feed", "world", "size"] (spRows K) :=
  T.F_law_rows.ok sc_law_rows (fun vs H Q E h => by obtain ⟨f, l, wd, n, m, crs, ev, nms, tgs, rfl, _⟩ := h; rfl) fun cdv A outer s H vs Q E hr h => by
    obtain ⟨f, l, wd, n, m, crs, ev, nms, tgs, rfl, hf, hn, hm, hw, hnl, htl, hev, k⟩ := h
    refine ⟨_,
      -- closed = _law_draw(feed, size + 1)
      (pss_cons (ps_set (i := 3) sc_law_rows.nd rfl (Or.inr rfl) (pe_call (ok_law_draw T) (hr.mono (by first | decide | omega)) (by rfl) T.g_law_draw T.F_law_draw.kp T.b_law_draw .nil pass0 (pa_cons (pv 0) (pa_cons (pe_op op_add (pv 2) pe_int) pa_nil))))
      -- if size > 2:
      (pss_cons (ps_if (pt_cmpR op_gt (pv 2) pe_int (nomark _)) 
        -- closed = 3 + _law_draw(feed, size - 2)
        (pss_one (ps_set (i := 3) sc_law_rows.nd rfl (Or.inr rfl) (pe_op op_add pe_int (pe_call (ok_law_draw T) (hr.mono (by first | decide | omega)) (by rfl) T.g_law_draw T.F_law_draw.kp T.b_law_draw .nil pass0 (pa_cons (pv 0) (pa_cons (pe_op op_sub (pv 2) pe_int) pa_nil)))))) pss_nil)
      -- picked = [world['targets'][k] if k < 3 else _law_pick(feed, world['names']) for k in range(size)]
      (pss_cons (ps_set (i := 5) sc_law_rows.nd rfl (Or.inr rfl) (pe_lc (own := [("k", 4)]) (g := gName 4) (tt := tYes) rfl sc_law_rows.nd (pi_range1 (by rfl) T.z_range (pa_cons (pv 2) pa_nil)) (blkOk_by (N := ["feed", "world", "size", "closed", "k", "picked", "rows", "pairs", "field", "near", "value", "j"]) (sc := defScope s_law_rows) (by decide +kernel)) (fun _ _ _ _ _ => pg_name (i := 4) sc_law_rows.nd rfl (Or.inl rfl)) (fun _ _ _ _ _ => pts_nil) (fun _ _ _ _ _ => (pe_ifExp (pt_cmpR op_lt (pv 4) pe_int (nomark _)) (pe_ix (ix_list : IxR _ (rIxL K)) (pe_dget (hu_of hr) (pv 1) pe_str (fun _ _ => rfl)) (pv 4) (fun _ _ => rfl)) (pe_call (ok_law_pick T) (hr.mono (by first | decide | omega)) (by rfl) T.g_law_pick T.F_law_pick.kp T.b_law_pick .nil pass0 (pa_cons (pv 0) (pa_cons (pe_dget (hu_of hr) (pv 1) pe_str (fun _ _ => rfl)) pa_nil)))))))
      -- rows = []
      (pss_cons (ps_set (i := 6) sc_law_rows.nd rfl (Or.inl rfl) (pe_lst pa_nil))
      -- for k in range(size):
      (pss_cons (ps_for PassesOwn.never rfl (pi_range1 (by rfl) T.z_range (pa_cons (pv 2) pa_nil)) (pg_name (i := 4) sc_law_rows.nd rfl (Or.inr rfl)) 
        -- pairs = []
        (pss_cons (ps_set (i := 7) sc_law_rows.nd rfl (Or.inl rfl) (pe_lst pa_nil))
        -- for field in world['every'][picked[k]]:
        (pss_cons (ps_for PassesOwn.never rfl (pi_list (pe_dget (hu_of hr) (pe_dget (hu_of hr) (pv 1) pe_str (fun _ _ => rfl)) (pe_ix ix_list (pv 5) (pv 4) (fun _ _ => rfl)) (fun _ _ => rfl))) (pg_name (i := 8) sc_law_rows.nd rfl (Or.inr rfl)) 
          -- near = [j for j in range(size) if picked[j] == field[2] and (j < closed or k >= closed)]
          (pss_cons (ps_setLc (i := 9) (own := [("j", 11)]) (g := gName 11)  rfl sc_law_rows.nd rfl rfl (sw_true rfl rfl rfl (by decide +kernel)) (pi_range1 (by rfl) T.z_range (pa_cons (pv 2) pa_nil)) (blkOk_by (N := ["feed", "world", "size", "closed", "k", "picked", "rows", "pairs", "field", "near", "value", "j"]) (sc := defScope s_law_rows) (by decide +kernel)) (fun _ _ _ _ _ => pg_name (i := 11) sc_law_rows.nd rfl (Or.inl rfl)) (fun _ _ _ _ _ => (pts_one (PW.pt (pw_and (pt_cmpR op_eq (pe_ix (ix_list : IxR _ (rIxL K)) (pv 5) (pv 11) (fun _ _ => rfl)) (pe_ix (ix_tup : IxR _ (rIxT K)) (pv 8) pe_int (fun _ _ => rfl)) (nomark _)) (pw_and1 (PW.pt (pw_or (pt_cmpR op_lt (pv 11) (pv 3) (nomark _)) (pw_or1 (pt_cmpR op_ge (pv 4) (pv 3) (nomark _)))))))))) (fun _ _ _ _ _ => (pv 11)))
          -- value = _law_draw(feed, 40) - 5
          (pss_cons (ps_set (i := 10) sc_law_rows.nd rfl (Or.inl rfl) (pe_op op_sub (pe_call (ok_law_draw T) (hr.mono (by first | decide | omega)) (by rfl) T.g_law_draw T.F_law_draw.kp T.b_law_draw .nil pass0 (pa_cons (pv 0) (pa_cons pe_int pa_nil))) pe_int))
          -- if field[2] is not None:
          (pss_cons (ps_if (pt_cmpR op_notN (pe_ix ix_tup (pv 8) pe_int (fun _ _ => rfl)) pe_non (nomark _)) 
            -- value = _law_pick(feed, near) if near else None
            (pss_one (ps_set (i := 10) sc_law_rows.nd rfl (Or.inl rfl) (pe_ifExp (pt_truth (pv 9) (by intro _; rfl)) (pe_call (ok_law_pick T) (hr.mono (by first | decide | omega)) (by rfl) T.g_law_pick T.F_law_pick.kp T.b_law_pick .nil pass0 (pa_cons (pv 0) (pa_cons (pv 9) pa_nil))) pe_non))) pss_nil)
          -- if k >= closed and _law_draw(feed, 3) == 0:
          (pss_cons (ps_if (PW.pt (pw_and (pt_cmpR op_ge (pv 4) (pv 3) (nomark _)) (pw_and1 (pt_cmpR op_eq (pe_call (ok_law_draw T) (hr.mono (by first | decide | omega)) (by rfl) T.g_law_draw T.F_law_draw.kp T.b_law_draw .nil pass0 (pa_cons (pv 0) (pa_cons pe_int pa_nil))) pe_int (nomark _))))) 
            -- value = None
            (pss_one (ps_set (i := 10) sc_law_rows.nd rfl (Or.inl rfl) pe_non)) pss_nil)
          -- pairs.append([field[0], value, field[2]])
          (pss_one (ps_expr (pe_bm PySem.F.plainAttrs_list PySem.F.slot_list_append PySem.F.type_list_append mt_append (pv 7) (pa_cons (pe_lst (pa_cons (pe_ix ix_tup (pv 8) pe_int (fun _ _ => rfl)) (pa_cons (pv 10) (pa_cons (pe_ix ix_tup (pv 8) pe_int (fun _ _ => rfl)) pa_nil)))) pa_nil)))))))))
        -- rows.append([picked[k], k < closed, pairs])
        (pss_one (ps_expr (pe_bm PySem.F.plainAttrs_list PySem.F.slot_list_append PySem.F.type_list_append mt_append (pv 6) (pa_cons (pe_lst (pa_cons (pe_ix ix_list (pv 5) (pv 4) (fun _ _ => rfl)) (pa_cons (pe_cmpR op_lt (pv 4) (pv 3) (nomark _)) (pa_cons (pv 7) pa_nil)))) pa_nil)))))))
      -- return rows
      (pss_one (ps_ret (pv 6))))))))
      , ?_⟩
    refine sig [some (.ref f), some (.ref wd), some (.int m), none, none, none, none, none, none, none, none, none] rfl ?_
    walk_at "s"
    refine ⟨f, l, _, n, rfl, hf, by omega, by omega, fun c0 H1 c00 c01 kp1 hf1 => ?_⟩
    have fr1 : Fr false H H1 := Fr.kp hf kp1
    refine seqCut fun N hN => ?_
    have last1 : ∀ (H2 : Hp) (cl : Int), Fr false H H2 → FeedAt H2 f l (n + 2) → N [some (.ref f), some (.ref wd), some (.int m), some (.int cl), none, none, none, none, none, none, none, none] H2 := by
      intro H2 cl fr2 hf2
      subst hN
      have hw2 := hw.fr fr2
      refine seqCut fun N hN => ?_
      walk_at "rd"
      refine ⟨by omega, by omega, fun pa hpa => ?_⟩
      have npf := hf2.ne hpa
      have npl := hf2.nl hpa
      refine LcW.rng (fun i H3 => Fr false H2 H3 ∧ FeedAt H3 f l (n + 2 + i) ∧ ∃ zs : List Str, H3 pa = some (.lst (zs.map V.str)) ∧ zs.length = i ∧ ∀ z ∈ zs, z ∈ nms ∨ z ∈ tgs) ⟨.of (My.Same.new hpa), hf2.upd hpa, [], upd_same, rfl, fun z hz => nomatch hz⟩ ?_ ?_
      · rintro i H3 hi ⟨fr3, hf3, zs, h3, hz1, hz2⟩
        have hi3 : i < m := by omega
        obtain ⟨wk, na, ta, ca, cs, e1, e2, e3, e4, e5, e6, e7, e8⟩ := (hw2.fr fr3).ex
        have fin : ∀ (H4 : Hp) (z : Str), (z ∈ nms ∨ z ∈ tgs) → Kp f H3 H4 → FeedAt H4 f l (n + 2 + (i + 1)) → ∃ acc, H4 pa = some (.lst acc) ∧ acc.length < sizeLine ∧ Fr false H2 (upd H4 pa (.lst (acc ++ [.str z]))) ∧ FeedAt (upd H4 pa (.lst (acc ++ [.str z]))) f l (n + 2 + (i + 1)) ∧ ∃ zs : List Str, (upd H4 pa (.lst (acc ++ [.str z]))) pa = some (.lst (zs.map V.str)) ∧ zs.length = i + 1 ∧ ∀ z ∈ zs, z ∈ nms ∨ z ∈ tgs := by
          intro H4 z hz kp4 hf4
          refine ⟨_, kp4 _ _ h3 npf, by rw [List.length_map, sizeLine_eq]; omega, (fr3.trans (Fr.kp hf3 kp4)).mut hpa, hf4.oth npf npl, zs ++ [z], by rw [upd_same, List.map_append]; rfl, by rw [List.length_append, hz1]; rfl, fun y hy => ?_⟩
          rcases List.mem_append.mp hy with hy | hy
          · exact hz2 y hy
          · rw [List.mem_singleton.mp hy]
            exact hz
        walk_at "rd"
        refine ite2 (fun h => ?_) (fun h => ?_)
        · have h := of_decide_eq_true h
          have hi4 : i < tgs.length := by omega
          refine ⟨_, by rw [← e3]; exact DGet.k (k := Sum.inr "targets") e1, _, rfl, _, SqL.of e6, .str tgs[i], ?_, fin H3 _ (.inr (List.getElem_mem hi4)) (.refl f H3) (hf3.mono (by omega))⟩
          rw [Int.zero_add]
          exact atI_nat (by rw [List.getElem?_map, List.getElem?_eq_getElem hi4]; rfl)
        · refine ⟨_, by rw [← e2]; exact DGet.k (k := Sum.inr "names") e1, f, l, .ref na, _, rfl, hf3, by omega, .inr ⟨na, _, rfl, ?_, SqL.of e5, ?_, fun v H4 hv kp4 hf4 => ?_⟩⟩
          · intro e
            obtain ⟨i0, t0, hc⟩ := hf3.cell
            rw [e, hc] at e5
            have e5 := Option.some.inj e5
            have := nl_strs (rc := false) nms
            exact this (by rw [← e5]; exact .inl ⟨_, _, _, rfl⟩)
          · rw [List.length_map, hnl]
            decide
          · obtain ⟨z, hz, rfl⟩ := List.mem_map.mp hv
            exact fin H4 z (.inl hz) kp4 hf4
      · rintro H3 ⟨fr3, hf3, zs, h3, hz1, hz2⟩
        rw [show ((m : Nat) : Int).toNat = m by omega] at hf3 hz1
        subst hN
        walk_at "s"
        refine ⟨Nat.zero_le _, fun ra hra => ?_⟩
        refine seqCut fun N hN => ?_
        walk_at "f"
        refine ⟨by omega, by omega, ?_⟩
        rw [show ((m : Nat) : Int).toNat = m by omega]
        have hw3 := hw2.fr fr3
        have nrf := hf3.ne hra
        have nrl := hf3.nl hra
        refine ForW.rng (fun i σ H4 => ∃ y4 y7 y8 y9 y10 y11, σ = [some (.ref f), some (.ref wd), some (.int m), some (.int cl), y4, some (.ref pa), some (.ref ra), y7, y8, y9, y10, y11] ∧ Fr false H3 H4 ∧ FeedAt H4 f l (n + 2 + m + 400 * i) ∧
            ∃ as cs, H4 ra = some (.lst (as.map V.ref)) ∧ All2 (RrSh m (upd H4 ra (.tup []))) as cs ∧ cs.length = i ∧ ∀ c ∈ cs, ∃ fs, ev c.1 = some fs ∧ c.2 = fs.map fun q => (q.f, q.cls))
          ⟨_, _, _, _, _, _, rfl, .of (My.Same.new hra), hf3.upd hra, [], [], upd_same, .nil, rfl, fun c hc => nomatch hc⟩ ?_ ?_
        · rintro i σ H4 hi ⟨y4, y7, y8, y9, y10, y11, rfl, fr4, hf4, as, cs, h4, hA, hcl, hcs⟩
          rw [Int.zero_add]
          have hz : i < zs.length := by omega
          have zmem := hz2 _ (List.getElem_mem hz)
          have zat : atI (zs.map V.str) ((i : Nat) : Int) = some (.str zs[i]) := atI_nat (by rw [List.getElem?_map, List.getElem?_eq_getElem hz]; rfl)
          generalize zs[i] = z at zmem zat
          obtain ⟨fs, hfs, hfl⟩ := hev z zmem
          have h34 := fr4 _ _ h3 (nl_strs _)
          walk_at "g"
          walk_at "s"
          refine ⟨Nat.zero_le _, fun qa hqa => ?_⟩
          have s5 := My.Same.new (H := H4) (o := .lst []) hqa
          have nqf := hf4.ne hqa
          have nql := hf4.nl hqa
          refine seqCut fun N2 hN2 => ?_
          walk_at "f"
          obtain ⟨wk, ea, kvs, e1, e2, e3, e4⟩ := (hw3.fr fr4).ev.ex
          rcases e4 z with ⟨_, q⟩ | ⟨la, fs', fvs, g1, g2, g3, g4, g5⟩
          · rw [hfs] at q
            cases q
          rw [hfs] at g2
          cases g2
          obtain ⟨fas, efa⟩ := refsOf (flds_tup fs) g4
          have hfn : fvs.length = fs.length := by rw [g4.len, List.length_map]
          have hla : ∀ {H5 : Hp}, Fr false H4 H5 → H5 la = some (.lst fvs) := fun fr => by
            rw [efa] at g3 ⊢
            exact fr _ _ g3 (nl_refs _)
          refine ⟨_, by rw [← e2]; exact DGet.k (k := Sum.inr "every") (s5 _ _ e1), _, SqL.of (s5 _ _ h34), _, zat, _, rfl, _, by rw [← g1]; exact DGet.k (k := Sum.inr z) (s5 _ _ e3), _, rfl, ⟨_, SqL.of (s5 _ _ g3)⟩, ?_⟩
          refine ForW.by (walk_list (xs := fvs)) (fun j σ H5 => ∃ y8 y9 y10 y11, σ = [some (.ref f), some (.ref wd), some (.int m), some (.int cl), some (.int (i : Nat)), some (.ref pa), some (.ref ra), some (.ref qa), y8, y9, y10, y11] ∧ Fr false H4 H5 ∧ FeedAt H5 f l (n + 2 + m + 400 * i + 3 * j) ∧
              ∃ bs, H5 qa = some (.lst (bs.map V.ref)) ∧ All2 (PrSh m H5) bs ((fs.take j).map fun q => (q.f, q.cls)))
            ⟨_, _, _, _, rfl, .of s5, hf4.upd hqa, [], upd_same, .nil⟩ (fun j H5 H6 _ hh => by obtain ⟨_, _, _, _, _, hh, _⟩ := hh; exact SqL.of (hla hh)) ?_ ?_
          · rintro j x σ H6 H5 hj ⟨y8, y9, y10, y11, rfl, fr5, hf5, bs, hbs, hB⟩ ⟨rfl, hx⟩
            have hj2 : j < fs.length := by omega
            obtain ⟨x', ex, rx⟩ := (g4.keep fr5.keepT).get (i := j) (d := fs[j].d) (by rw [List.getElem?_map, List.getElem?_eq_getElem hj2]; rfl)
            rw [hx] at ex
            cases ex
            have tk : fs.take (j + 1) = fs.take j ++ [fs[j]] := by rw [List.take_add_one, List.getElem?_eq_getElem hj2]; rfl
            rw [tk]
            generalize fs[j] = q at rx
            obtain ⟨xa, xs, rfl, hxT, hxL⟩ := rx.inv
            obtain ⟨w1, xs, rfl, k1, hxL⟩ := hxL.inv_cons
            obtain ⟨w2, xs, rfl, k2, hxL⟩ := hxL.inv_cons
            obtain ⟨w3, xs, rfl, k3, hxL⟩ := hxL.inv_cons
            cases hxL.inv_nil
            cases k1.inv_str
            cases k2.inv_str
            have ew := k3.inv_optS
            subst ew
            have h35 := fr5 _ _ h34 (nl_strs _)
            walk_at "g"
            refine seqCut fun N3 hN3 => ?_
            walk_at "rd"
            refine ⟨by omega, by omega, fun D hD => ?_⟩
            refine LcW.rng (fun c H7 => Same H5 H7 ∧ ∃ ns : List Int, H7 D = some (.lst (ns.map V.int)) ∧ ns.length ≤ c ∧ ∀ u ∈ ns, 0 ≤ u ∧ u < m) ⟨My.Same.new hD, [], upd_same, Nat.le_refl _, fun u hu => nomatch hu⟩ ?_ ?_
            · rintro c H7 hc ⟨s7, ns, e7, hnl7, hns⟩
              walk_at "rd"
              have hc2 : c < m := by omega
              have hcz : c < zs.length := by omega
              have keepIt : Same H5 (upd H7 D (.lst (ns.map V.int ++ [V.int (0 + (c : Int))]))) ∧ ∃ ns2 : List Int, (upd H7 D (.lst (ns.map V.int ++ [V.int (0 + (c : Int))]))) D = some (.lst (ns2.map V.int)) ∧ ns2.length ≤ c + 1 ∧ ∀ u ∈ ns2, 0 ≤ u ∧ u < m := by
                refine ⟨My.Same.mut s7 hD, ns ++ [0 + (c : Int)], by rw [upd_same, List.map_append]; rfl, by rw [List.length_append]; simpa using hnl7, fun u hu => ?_⟩
                rcases List.mem_append.mp hu with hu | hu
                · exact hns u hu
                · rw [List.mem_singleton.mp hu]
                  omega
              have len7 : (ns.map V.int).length < sizeLine := by rw [List.length_map, sizeLine_eq]; omega
              refine ⟨_, SqL.of (s7 _ _ h35), .str zs[c], by rw [Int.zero_add]; exact atI_nat (by rw [List.getElem?_map, List.getElem?_eq_getElem hcz]; rfl), _, (KeepT.of s7) _ _ hxT, _, rfl, by cases q.cls <;> rfl, ?_⟩
              refine ite2 (fun _ => ?_) (fun _ => ⟨s7, ns, e7, by omega, hns⟩)
              refine ite2 (fun _ => ⟨_, e7, len7, keepIt⟩) (fun _ => ?_)
              exact ite2 (fun _ => ⟨_, e7, len7, keepIt⟩) (fun _ => ⟨s7, ns, e7, by omega, hns⟩)
            · rintro H7 ⟨s7, ns, e7, hnl7, hns⟩
              subst hN3
              rw [show ((m : Nat) : Int).toNat = m by omega] at hnl7
              have hf7 := hf5.same s7
              have nDf := hf5.ne hD
              walk_at "s"
              refine ⟨f, l, 40, _, rfl, hf7, by omega, by decide, fun d H8 d0 d1 kp8 hf8 => ⟨_, rfl, ?_⟩⟩
              have fr8 : Fr false H5 H8 := (Fr.of s7).trans (Fr.kp hf7 kp8)
              have hxT8 := fr8.keepT _ _ hxT
              have e8 := kp8 _ _ e7 nDf
              refine seqCut fun N4 hN4 => ?_
              have l4 : ∀ (H9 : Hp) (v : Option Int), (q.cls.isSome = true → ∀ i, v = some i → 0 ≤ i ∧ i < m) → Fr false H5 H9 → FeedAt H9 f l (n + 2 + m + 400 * i + 3 * j + 2) → N4 [some (.ref f), some (.ref wd), some (.int m), some (.int cl), some (.int (i : Nat)), some (.ref pa), some (.ref ra), some (.ref qa), some (.ref xa), some (.ref D), some (optV v), y11] H9 := by
                intro H9 v hv fr9 hf9
                subst hN4
                refine seqCut fun N5 hN5 => ?_
                have l5 : ∀ (H9 : Hp) (v : Option Int), (q.cls.isSome = true → ∀ i, v = some i → 0 ≤ i ∧ i < m) → Fr false H5 H9 → FeedAt H9 f l (n + 2 + m + 400 * i + 3 * (j + 1)) → N5 [some (.ref f), some (.ref wd), some (.int m), some (.int cl), some (.int (i : Nat)), some (.ref pa), some (.ref ra), some (.ref qa), some (.ref xa), some (.ref D), some (optV v), y11] H9 := by
                  intro H9 v hv fr9 hf9
                  subst hN5
                  walk_at "l"
                  have hqa9 := fr9 _ _ hbs (nl_refs _)
                  have hxT9 := fr9.keepT _ _ hxT
                  refine ⟨tyL hqa9, _, hxT9, _, rfl, _, hxT9, _, rfl, by show 3 ≤ sizeLine; decide, fun p hp => ?_⟩
                  have sp := My.Same.new (H := H9) (o := .lst [V.str q.f, optV v, optSV q.cls]) hp
                  have hqa10 := sp _ _ hqa9
                  refine ⟨_, hqa10, ?_, _, _, _, _, rfl, ?_, ?_, bs ++ [p], ?_, ?_⟩
                  · have := hB.len
                    rw [List.length_map, List.length_take] at this
                    rw [List.length_map, sizeLine_eq]
                    omega
                  · exact (fr5.trans (fr9.trans (.of sp))).mut hqa
                  · exact (hf9.upd hp).oth nqf nql
                  · rw [upd_same, List.map_append]
                    rfl
                  · rw [List.map_append]
                    refine ((hB.imp fun a z h => PrSh.updRefs hqa10 ((CellKeep.fr (fr9.trans (.of sp))).pr a z h))).snoc ?_
                    exact PrSh.updRefs hqa10 ⟨v, upd_same, hv⟩
                walk_at "i"
                refine ite2 (fun _ => ?_) (fun _ => l5 H9 v hv fr9 (hf9.mono (by omega)))
                refine ⟨f, l, 3, _, rfl, hf9, by omega, by decide, fun d3 H10 _ _ kp10 hf10 => ⟨rfl, ?_⟩⟩
                have fr10 := fr9.trans (Fr.kp hf9 kp10)
                refine ite2 (fun _ => ?_) (fun _ => l5 H10 v hv fr10 (hf10.mono (by omega)))
                walk_at "l"
                exact l5 H10 none (fun _ i e => nomatch e) fr10 (hf10.mono (by omega))
              walk_at "i"
              refine ⟨_, hxT8, _, rfl, ?_⟩
              cases hcls : q.cls with
              | none =>
                refine iteF ?_
                exact l4 H8 (some (d - 5)) (fun h => by rw [hcls] at h; cases h) fr8 (hf8.mono (by omega))
              | some cn =>
                refine iteT ?_
                walk_at "l"
                refine ⟨_, .inl ⟨_, SqL.of e8, rfl⟩, ?_⟩
                refine ite2 (fun hne => ?_) (fun _ => ?_)
                · have hnp : 0 < (ns.map V.int).length := by
                    cases ns with
                    | nil => cases hne
                    | cons a r => exact Nat.succ_pos _
                  refine ⟨f, l, .ref D, _, rfl, hf8, by omega, .inr ⟨D, _, rfl, nDf, SqL.of e8, hnp, fun w H9 hw9 kp9 hf9 => ?_⟩⟩
                  obtain ⟨u, hu, rfl⟩ := List.mem_map.mp hw9
                  exact l4 H9 (some u) (fun _ i e => by cases e; exact hns u hu) (fr8.trans (Fr.kp hf8 kp9)) (hf9.mono (by omega))
                · exact l4 H8 none (fun _ i e => nomatch e) fr8 (hf8.mono (by omega))
          · rintro σ H5 ⟨y8, y9, y10, y11, rfl, fr5, hf5, bs, hbs, hB⟩
            subst hN2
            rw [hfn] at hf5 hB
            rw [List.take_length] at hB
            walk_at "l"
            have hra5 := fr5 _ _ h4 (nl_refs _)
            have h35 := fr5 _ _ h34 (nl_strs _)
            refine ⟨tyL hra5, _, SqL.of h35, _, zat, by show 3 ≤ sizeLine; decide, fun p hp => ?_⟩
            have sp := My.Same.new (H := H5) (o := .lst [V.str z, V.bl (decide ((i : Int) < cl)), V.ref qa]) hp
            have hra6 := sp _ _ hra5
            have nqr : qa ≠ ra := (ne_of_none h4 hqa).symm
            have npr : p ≠ ra := (ne_of_none hra5 hp).symm
            refine ⟨_, hra6, ?_, _, _, _, _, _, _, rfl, ?_, ?_, as ++ [p], cs ++ [(z, fs.map fun q => (q.f, q.cls))], ?_, ?_, ?_, fun c hc => ?_⟩
            · have := hA.len
              rw [List.length_map, sizeLine_eq]
              omega
            · exact (fr4.trans (fr5.trans (.of sp))).mut hra
            · exact ((hf5.upd hp).oth nrf nrl).mono (by omega)
            · rw [upd_same, List.map_append]
              rfl
            · have ck : CellKeep m (upd H4 ra (.tup [])) (upd (upd (upd H5 p (.lst [V.str z, V.bl (decide ((i : Int) < cl)), V.ref qa])) ra (.lst (as.map V.ref ++ [.ref p]))) ra (.tup [])) := .fr (.off fun b o hb hn hl => by
                rw [upd_ne hn]
                exact sp _ _ (fr5 b o hb hl))
              refine (hA.imp fun a c h => h.keep ck).snoc ?_
              refine ⟨decide ((i : Int) < cl), qa, bs, ?_, ?_, hB.imp fun a w h => ?_⟩
              · rw [upd_ne npr, upd_ne npr, upd_same]
              · rw [upd_ne nqr, upd_ne nqr]
                exact sp _ _ hbs
              · have h6 : PrSh m (upd (upd H5 p (.lst [V.str z, V.bl (decide ((i : Int) < cl)), V.ref qa])) ra (.lst (as.map V.ref ++ [.ref p]))) a w := PrSh.updRefs hra6 ((CellKeep.fr (.of sp)).pr a w h)
                have e7 : (upd (upd H5 p (.lst [V.str z, V.bl (decide ((i : Int) < cl)), V.ref qa])) ra (.lst (as.map V.ref ++ [.ref p]))) ra = some (.lst ((as ++ [p]).map V.ref)) := by rw [upd_same, List.map_append]; rfl
                exact PrSh.updRefs e7 h6
            · rw [List.length_append, hcl]
              rfl
            · rcases List.mem_append.mp hc with hc | hc
              · exact hcs c hc
              · rw [List.mem_singleton.mp hc]
                exact ⟨fs, hfs, rfl⟩
        · rintro σ H4 ⟨y4, y7, y8, y9, y10, y11, rfl, fr4, hf4, as, cs, h4, hA, hcl, hcs⟩
          subst hN
          walk_at "r"
          exact k ra cs H4 (fr2.trans (fr3.trans fr4)) ⟨as, h4, hA.imp fun _ _ => RrSh.keep .off⟩ hcl hcs (hf4.mono (by omega))
    walk_at "i"
    refine ite2 (fun h2 => ?_) (fun h2 => ?_)
    · walk_at "l"
      refine ⟨f, l, _, _, rfl, hf1, by omega, ?_, fun c2 H2 _ _ kp2 hf2 => ⟨_, rfl, ?_⟩⟩
      · have := of_decide_eq_true h2
        omega
      · exact last1 H2 _ (fr1.trans (Fr.kp hf1 kp2)) hf2
    · exact last1 H1 _ fr1 (hf1.mono (by omega))

theorem Fr.updLoose {rc : Bool} {H : Hp} {b : Addr} {o o' : HO} (h : H b = some o) (l : Loose rc o) : Fr rc H (upd H b o') := fun y x hy hn => by
  by_cases e : y = b
  · rw [e, h] at hy
    cases hy
    exact absurd l hn
  · rw [upd_ne e]
    exact hy
theorem FeedAt.neStr {H : Hp} {f l b : Addr} {n : Nat} {c : Str} {r : List V} (h : FeedAt H f l n) (e : H b = some (.lst (.str c :: r))) : b ≠ f ∧ b ≠ l := by
  obtain ⟨ns, i, tot, h1, h2, _⟩ := h
  refine ⟨fun q => ?_, fun q => ?_⟩
  · rw [q, h1] at e
    cases e
  · rw [q, h2] at e
    cases ns with
    | nil => cases e
    | cons a r => injection e with e; injection e with e; injection e with e _; cases e
theorem loose_row {c : Str} {b : Bool} {w : V} : Loose true (.lst [.str c, .bl b, w]) := (.inr ⟨rfl, c, .bl b, w, rfl, fun t e => by cases e⟩)
theorem loose_pair {c : Str} {v : Option Int} {w : V} : Loose true (.lst [.str c, optV v, w]) := (.inr ⟨rfl, c, optV v, w, rfl, fun t e => by cases v <;> cases e⟩)
theorem truv_refs {K : PySem.W.Frag} {H : Hp} {D : Addr} {as : List Addr} (h : H D = some (.lst (as.map V.ref))) : TruV K (.ref D) H (!as.isEmpty) := .inl ⟨_, SqL.of h, by cases as <;> rfl⟩
def spSpoil (K : PySem.W.Frag) : Sp := fun vs H Q _ => ∃ (f l ra : Addr) (n m : Nat) (cs : List (Str × List (Str × Option Str))), vs = [.ref f, .ref ra] ∧ FeedAt H f l n ∧ n ≤ 500000 ∧ RowsSh m H ra cs ∧ cs.length = m ∧ m ≤ 30 ∧ (∀ c ∈ cs, c.2.length ≤ 100) ∧
  ∀ (H' : Hp), Fr true H H' → RowsSh m H' ra cs → FeedAt H' f l (n + 10) → Q .non H'
theorem ok_law_spoil (T : Txt K mg) : FnOk P w K mg base CX0 3 T.a_law_spoil T.d_law_spoil ["feed", "rows"] (spSpoil K) :=
  T.F_law_spoil.ok sc_law_spoil (fun vs H Q E h => by obtain ⟨f, l, ra, n, m, cs, rfl, _⟩ := h; rfl) fun cdv A outer s H vs Q E hr h => by
    obtain ⟨f, l, ra, n, m, cs, rfl, hf, hn, hR, hcl, hm, hc100, k⟩ := h
    refine ⟨_,
      -- complete = [row for row in rows if row[1]]
      (pss_cons (ps_setLc (i := 3) (own := [("row", 2)]) (g := gName 2)  rfl sc_law_spoil.nd rfl rfl (sw_true rfl rfl rfl (by decide +kernel)) (pi_list (pv 1)) (blkOk_by (N := ["feed", "rows", "row", "complete", "menu", "pair", "raw", "k"]) (sc := defScope s_law_spoil) (by decide +kernel)) (fun _ _ _ _ _ => pg_name (i := 2) sc_law_spoil.nd rfl (Or.inl rfl)) (fun _ _ _ _ _ => (pts_one (pt_val (pe_ix (ix_list : IxR _ (rIxL K)) (pv 2) pe_int (fun _ _ => rfl))))) (fun _ _ _ _ _ => (pv 2)))
      -- menu = _law_draw(feed, 4)
      (pss_cons (ps_set (i := 4) sc_law_spoil.nd rfl (Or.inl rfl) (pe_call (ok_law_draw T) (hr.mono (by first | decide | omega)) (by rfl) T.g_law_draw T.F_law_draw.kp T.b_law_draw .nil pass0 (pa_cons (pv 0) (pa_cons pe_int pa_nil))))
      -- if not complete or menu == 3:
      (pss_cons (ps_if (PW.pt (pw_or (pt_not (pt_truth (pv 3) (by intro _; rfl))) (pw_or1 (pt_cmpR op_eq (pv 4) pe_int (nomark _))))) 
        -- return
        (pss_one ps_retN) pss_nil)
      -- row = _law_pick(feed, complete)
      (pss_cons (ps_set (i := 2) sc_law_spoil.nd rfl (Or.inl rfl) (pe_call (ok_law_pick T) (hr.mono (by first | decide | omega)) (by rfl) T.g_law_pick T.F_law_pick.kp T.b_law_pick .nil pass0 (pa_cons (pv 0) (pa_cons (pv 3) pa_nil))))
      -- if menu == 0 or not row[2]:
      (pss_cons (ps_if (PW.pt (pw_or (pt_cmpR op_eq (pv 4) pe_int (nomark _)) (pw_or1 (pt_not (pt_truth (pe_ix ix_list (pv 2) pe_int (fun _ _ => rfl)) (by intro _; rfl)))))) 
        -- row[1] = False
        (pss_cons (ps_asg pe_bl (pg_sub (pv 2) pe_int set_list))
        -- return
        (pss_one ps_retN)) pss_nil)
      -- pair = _law_pick(feed, row[2])
      (pss_cons (ps_set (i := 5) sc_law_spoil.nd rfl (Or.inr rfl) (pe_call (ok_law_pick T) (hr.mono (by first | decide | omega)) (by rfl) T.g_law_pick T.F_law_pick.kp T.b_law_pick .nil pass0 (pa_cons (pv 0) (pa_cons (pe_ix ix_list (pv 2) pe_int (fun _ _ => rfl)) pa_nil))))
      -- if menu == 1 or pair[2] is None:
      (pss_cons (ps_if (PW.pt (pw_or (pt_cmpR op_eq (pv 4) pe_int (nomark _)) (pw_or1 (pt_cmpR op_isN (pe_ix ix_list (pv 5) pe_int (fun _ _ => rfl)) pe_non (nomark _))))) 
        -- pair[1] = None
        (pss_cons (ps_asg pe_non (pg_sub (pv 5) pe_int set_list))
        -- return
        (pss_one ps_retN)) pss_nil)
      -- raw = [k for k in range(len(rows)) if rows[k][0] == pair[2] and (not rows[k][1])]
      (pss_cons (ps_setLc (i := 6) (own := [("k", 7)]) (g := gName 7)  rfl sc_law_spoil.nd rfl rfl (sw_true rfl rfl rfl (by decide +kernel)) (pi_range1 (by rfl) T.z_range (pa_cons (pe_callB call_len_seq (by rfl) T.z_len (by decide +kernel) (pa_cons (pv 1) pa_nil)) pa_nil)) (blkOk_by (N := ["feed", "rows", "row", "complete", "menu", "pair", "raw", "k"]) (sc := defScope s_law_spoil) (by decide +kernel)) (fun _ _ _ _ _ => pg_name (i := 7) sc_law_spoil.nd rfl (Or.inl rfl)) (fun _ _ _ _ _ => (pts_one (PW.pt (pw_and (pt_cmpR op_eq (pe_ix (ix_list : IxR _ (rIxL K)) (pe_ix (ix_list : IxR _ (rIxL K)) (pv 1) (pv 7) (fun _ _ => rfl)) pe_int (fun _ _ => rfl)) (pe_ix (ix_list : IxR _ (rIxL K)) (pv 5) pe_int (fun _ _ => rfl)) (nomark _)) (pw_and1 (pt_not (pt_val (pe_ix (ix_list : IxR _ (rIxL K)) (pe_ix (ix_list : IxR _ (rIxL K)) (pv 1) (pv 7) (fun _ _ => rfl)) pe_int (fun _ _ => rfl))))))))) (fun _ _ _ _ _ => (pv 7)))
      -- if raw:
      (pss_one (ps_if (pt_truth (pv 6) (by intro _; rfl)) 
        -- pair[1] = _law_pick(feed, raw)
        (pss_one (ps_asg (pe_call (ok_law_pick T) (hr.mono (by first | decide | omega)) (by rfl) T.g_law_pick T.F_law_pick.kp T.b_law_pick .nil pass0 (pa_cons (pv 0) (pa_cons (pv 6) pa_nil))) (pg_sub (pv 5) pe_int set_list))) pss_nil))))))))))
      , ?_⟩
    refine sig [some (.ref f), some (.ref ra), none, none, none, none, none, none] rfl ?_
    obtain ⟨as, hra, hA⟩ := id hR
    have hal : as.length = m := by rw [hA.len, hcl]
    refine seqCut fun N hN => ?_
    walk_at "rd"
    refine ⟨⟨_, SqL.of hra⟩, fun D hD => ?_⟩
    refine LcW.by (walk_list (xs := as.map V.ref)) (fun i H1 => Same H H1 ∧ ∃ bs : List Addr, H1 D = some (.lst (bs.map V.ref)) ∧ bs.length ≤ i ∧ ∀ b ∈ bs, b ∈ as) ⟨My.Same.new hD, [], upd_same, Nat.le_refl _, fun b hb => nomatch hb⟩ (fun i H1 _ hh => SqL.of (hh.1 _ _ hra)) ?_ ?_
    · rintro i x H2 H1 hi ⟨s1, bs, e1, hbl, hbs⟩ ⟨rfl, hx⟩
      rw [List.length_map] at hi
      rw [List.getElem?_map, List.getElem?_eq_getElem hi] at hx
      cases hx
      obtain ⟨c, hc, b, pa, ps, g1, g2, g3⟩ := hA.mem (List.getElem_mem hi)
      have am := List.getElem_mem hi
      generalize as[i] = a at g1 am
      walk_at "rd"
      refine ⟨_, SqL.of (s1 _ _ g1), _, rfl, _, rfl, ?_⟩
      cases b with
      | false => exact iteF ⟨s1, bs, e1, by omega, hbs⟩
      | true =>
        refine iteT ?_
        refine ⟨_, e1, by rw [List.length_map, sizeLine_eq]; omega, My.Same.mut s1 hD, bs ++ [a], by rw [upd_same, List.map_append]; rfl, by rw [List.length_append]; simpa using hbl, fun b hb => ?_⟩
        rcases List.mem_append.mp hb with hb | hb
        · exact hbs b hb
        · rw [List.mem_singleton.mp hb]
          exact am
    · rintro H1 ⟨s1, bs, e1, hbl, hbs⟩
      rw [List.length_map] at hbl
      subst hN
      have hf1 := hf.same s1
      have nDf := hf.ne hD
      walk_at "s"
      refine ⟨f, l, 4, _, rfl, hf1, by omega, by decide, fun mn H2 m0 m1 kp2 hf2 => ?_⟩
      have fr2 : Fr false H H2 := (Fr.of s1).trans (Fr.kp hf1 kp2)
      have e2 := kp2 _ _ e1 nDf
      have done : ∀ {H3 : Hp} {j : Nat}, Fr false H H3 → FeedAt H3 f l j → j ≤ n + 10 → Q .non H3 := fun fr hf hj => k _ fr.mono (hR.keep (.fr fr)) (hf.mono hj)
      walk_at "j"
      refine ⟨_, truv_refs e2, ?_⟩
      refine ite2 (fun _ => done fr2 hf2 (by omega)) (fun hne => ?_)
      have hb0 : 0 < (bs.map V.ref).length := by
        cases bs with
        | nil => exact absurd rfl hne
        | cons a r => exact Nat.succ_pos _
      refine ite2 (fun _ => done fr2 hf2 (by omega)) (fun _ => ?_)
      walk_at "s"
      refine ⟨f, l, .ref D, _, rfl, hf2, by omega, .inr ⟨D, _, rfl, nDf, SqL.of e2, hb0, fun v H3 hv kp3 hf3 => ?_⟩⟩
      obtain ⟨b, hb, rfl⟩ := List.mem_map.mp hv
      have fr3 : Fr false H H3 := fr2.trans (Fr.kp hf2 kp3)
      have hR3 : RowsSh m H3 ra cs := hR.keep (.fr fr3)
      obtain ⟨c, hc, hrr⟩ := hA.mem (hbs b hb)
      obtain ⟨b0, pa, ps, g1, g2, g3⟩ := hrr.keep (.fr fr3)
      have hc2 := hc100 c hc
      have mut1 : ∀ Dn : Ends, Dn.rt = Q → tSeq (tAsg (tC (.bl false)) (gSub (tVar 2) (tC (.int 1)) rSetL)) tRetN Dn [some (.ref f), some (.ref ra), some (.ref b), some (.ref D), some (.int mn), none, none, none] H3 := by
        intro Dn hDn
        walk_at "s"
        refine ⟨_, g1, 1, rfl, ?_⟩
        show Dn.rt .non (upd H3 b (.lst [.str c.1, .bl false, .ref pa]))
        rw [hDn]
        obtain ⟨n1, n2⟩ := hf3.neStr g1
        exact k _ (fr3.mono.trans (.updLoose g1 loose_row)) (hR3.keep (.row g1)) ((hf3.oth n1 n2).mono (by omega))
      walk_at "j"
      refine ite2 (fun _ => mut1 _ rfl) (fun _ => ?_)
      refine ⟨_, SqL.of g1, _, rfl, _, truv_refs g2, ?_⟩
      refine ite2 (fun _ => mut1 _ rfl) (fun hne => ?_)
      have hp0 : 0 < (ps.map V.ref).length := by
        cases ps with
        | nil => exact absurd rfl hne
        | cons a r => exact Nat.succ_pos _
      have npa : pa ≠ f := fun e => by
        obtain ⟨i0, t0, hc⟩ := hf3.cell
        rw [e, hc] at g2
        exact nl_refs (rc := false) ps (by rw [← Option.some.inj g2]; exact .inl ⟨_, _, _, rfl⟩)
      walk_at "s"
      refine ⟨_, SqL.of g1, _, rfl, ?_⟩
      refine ⟨f, l, .ref pa, _, rfl, hf3, by omega, .inr ⟨pa, _, rfl, npa, SqL.of g2, hp0, fun v H4 hv kp4 hf4 => ?_⟩⟩
      obtain ⟨p, hp, rfl⟩ := List.mem_map.mp hv
      have fr4 : Fr false H H4 := fr3.trans (Fr.kp hf3 kp4)
      have hR4 : RowsSh m H4 ra cs := hR.keep (.fr fr4)
      obtain ⟨z, hz, hpr⟩ := g3.mem hp
      have hpr4 := (CellKeep.fr (Fr.kp hf3 kp4)).pr _ _ hpr
      obtain ⟨v0, q1, q2⟩ := id hpr4
      have put : ∀ (H5 : Hp) (v : Option Int), Fr false H4 H5 → FeedAt H5 f l (n + 10) → (z.2.isSome = true → ∀ i, v = some i → 0 ≤ i ∧ i < m) → Q .non (upd H5 p (.lst [.str z.1, optV v, optSV z.2])) := by
        intro H5 v fr5 hf5 hv
        have hpr5 := (CellKeep.fr fr5).pr _ _ hpr4
        obtain ⟨v5, q5, _⟩ := id hpr5
        obtain ⟨n1, n2⟩ := hf5.neStr q5
        exact k _ ((fr4.trans fr5).mono.trans (.updLoose q5 loose_pair)) ((hR4.keep (.fr fr5)).keep (.pair hpr5 hv)) (hf5.oth n1 n2)
      have mut2 : ∀ Dn : Ends, Dn.rt = Q → tSeq (tAsg (tC .non) (gSub (tVar 5) (tC (.int 1)) rSetL)) tRetN Dn [some (.ref f), some (.ref ra), some (.ref b), some (.ref D), some (.int mn), some (.ref p), none, none] H4 := by
        intro Dn hDn
        walk_at "s"
        refine ⟨_, q1, 1, rfl, ?_⟩
        show Dn.rt .non (upd H4 p (.lst [.str z.1, .non, optSV z.2]))
        rw [hDn]
        exact put H4 none (.refl _) (hf4.mono (by omega)) (fun _ i e => nomatch e)
      walk_at "j"
      refine ite2 (fun _ => mut2 _ rfl) (fun _ => ?_)
      refine ⟨_, SqL.of q1, _, rfl, ?_⟩
      refine ite2 (fun _ => mut2 _ rfl) (fun _ => ?_)
      refine seqCut fun N hN => ?_
      walk_at "rd"
      obtain ⟨as4, ha4, hA4⟩ := id hR4
      have hal4 : as4.length = m := by rw [hA4.len, hcl]
      refine ⟨_, .inl (SqL.of ha4), by rw [List.length_map]; omega, by rw [List.length_map]; omega, fun D2 hD2 => ?_⟩
      rw [List.length_map, show ((as4.length : Nat) : Int).toNat = m by omega]
      refine LcW.rng (fun i H5 => Same H4 H5 ∧ ∃ ns : List Int, H5 D2 = some (.lst (ns.map V.int)) ∧ ns.length ≤ i ∧ ∀ u ∈ ns, 0 ≤ u ∧ u < m) ⟨My.Same.new hD2, [], upd_same, Nat.le_refl _, fun u hu => nomatch hu⟩ ?_ ?_
      · rintro i H5 hi ⟨s5, ns, e5, hnl, hns⟩
        have hi4 : i < as4.length := by omega
        obtain ⟨c5, hc5, b5, pa5, ps5, w1, w2, w3⟩ := hA4.mem (List.getElem_mem hi4)
        have at5 : atI (as4.map V.ref) (0 + (i : Int)) = some (.ref as4[i]) := by
          rw [Int.zero_add]
          exact atI_nat (by rw [List.getElem?_map, List.getElem?_eq_getElem hi4]; rfl)
        walk_at "rd"
        refine ⟨_, SqL.of (s5 _ _ ha4), _, at5, _, rfl, _, SqL.of (s5 _ _ w1), _, rfl, _, SqL.of (s5 _ _ q1), _, rfl, by cases z.2 <;> rfl, ?_⟩
        refine ite2 (fun _ => ?_) (fun _ => ⟨s5, ns, e5, by omega, hns⟩)
        refine ⟨_, SqL.of (s5 _ _ ha4), _, at5, _, rfl, _, SqL.of (s5 _ _ w1), _, rfl, _, rfl, ?_⟩
        refine ite2 (fun _ => ?_) (fun _ => ⟨s5, ns, e5, by omega, hns⟩)
        refine ⟨_, e5, by rw [List.length_map, sizeLine_eq]; omega, My.Same.mut s5 hD2, ns ++ [0 + (i : Int)], by rw [upd_same, List.map_append]; rfl, by rw [List.length_append]; simpa using hnl, fun u hu => ?_⟩
        rcases List.mem_append.mp hu with hu | hu
        · exact hns u hu
        · rw [List.mem_singleton.mp hu]
          omega
      · rintro H5 ⟨s5, ns, e5, hnl, hns⟩
        subst hN
        walk_at "i"
        have hf5 := hf4.same s5
        refine ⟨_, .inl ⟨_, SqL.of e5, rfl⟩, ?_⟩
        refine ite2 (fun hne => ?_) (fun _ => done (fr4.trans (.of s5)) hf5 (by omega))
        have hn0 : 0 < (ns.map V.int).length := by
          cases ns with
          | nil => cases hne
          | cons a r => exact Nat.succ_pos _
        walk_at "l"
        refine ⟨f, l, .ref D2, _, rfl, hf5, by omega, .inr ⟨D2, _, rfl, hf4.ne hD2, SqL.of e5, hn0, fun v H6 hv6 kp6 hf6 => ?_⟩⟩
        obtain ⟨u, hu, rfl⟩ := List.mem_map.mp hv6
        have fr6 : Fr false H4 H6 := (Fr.of s5).trans (Fr.kp hf5 kp6)
        have hpr6 := (CellKeep.fr fr6).pr _ _ hpr4
        obtain ⟨v6, q6, _⟩ := id hpr6
        refine ⟨_, q6, 1, rfl, ?_⟩
        exact put H6 (some u) fr6 (hf6.mono (by omega)) (fun _ i e => by cases e; exact hns u hu)

def spLaid (K : PySem.W.Frag) : Sp := fun vs H Q _ => ∃ (ha ra oa : Addr) (hs : List HR) (rs : List RR) (os : List Int), vs = [.ref ha, .ref ra, .ref oa] ∧ LsAt K H ha (hs.map HR.d) ∧ RowsAt H ra rs ∧ H oa = some (.lst (os.map V.int)) ∧ Ord rs.length os ∧ hs.length ≤ 100 ∧ rs.length ≤ 100 ∧ (∀ r ∈ rs, r.ps.length ≤ 1000) ∧ (∀ r ∈ rs, ∀ q ∈ r.ps, q.cls.isSome = true → ∀ i, q.v = some i → 0 ≤ i ∧ i < rs.length) ∧
  ∀ (H' : Hp) (v : V), Same H H' → Rp K H' v (hpD (laidD hs rs os)) → Q v H'
theorem ok_law_laid (T : Txt K mg) : FnOk P w K mg base CX0 1 T.a_law_laid T.d_law_laid ["homes", "rows", "order"] (spLaid K) :=
  T.F_law_laid.ok sc_law_laid (fun vs H Q E h => by obtain ⟨ha, ra, oa, hs, rs, os, rfl, _⟩ := h; rfl) fun cdv A outer s H vs Q E hr h => by
    obtain ⟨ha, ra, oa, hs, rs, os, rfl, hh, hR, ho, od, hh1, hr1, hr2, hr3, k⟩ := h
    refine ⟨_,
      -- spot = {}
      (pss_cons (ps_set (i := 3) sc_law_laid.nd rfl (Or.inl rfl) pe_dnewK)
      -- for k in range(len(order)):
      (pss_cons (ps_for PassesOwn.never rfl (pi_range1 (by rfl) T.z_range (pa_cons (pe_callB call_len_seq (by rfl) T.z_len (by decide +kernel) (pa_cons (pv 2) pa_nil)) pa_nil)) (pg_name (i := 4) sc_law_laid.nd rfl (Or.inl rfl)) 
        -- spot[order[k]] = len(homes) + k
        (pss_one (ps_dput (hu_of hr) (pv 3) (pe_ix ix_list (pv 2) (pv 4) (fun _ _ => rfl)) (pe_op op_add (pe_callB call_len_seq (by rfl) T.z_len (by decide +kernel) (pa_cons (pv 0) pa_nil)) (pv 4)) rfl)))
      -- heap = list(homes)
      (pss_cons (ps_set (i := 5) sc_law_laid.nd rfl (Or.inl rfl) (pe_callTy call_list_of (by rfl) T.z_list (by decide +kernel) (pa_cons (pv 0) pa_nil)))
      -- for k in order:
      (pss_cons (ps_for PassesOwn.never rfl (pi_list (pv 2)) (pg_name (i := 4) sc_law_laid.nd rfl (Or.inl rfl)) 
        -- pairs = []
        (pss_cons (ps_set (i := 6) sc_law_laid.nd rfl (Or.inl rfl) (pe_lst pa_nil))
        -- for field, value, cls in rows[k][2]:
        (pss_cons (ps_for PassesOwn.never rfl (pi_list (pe_ix ix_list (pe_ix ix_list (pv 1) (pv 4) (fun _ _ => rfl)) pe_int (fun _ _ => rfl))) (pg_unl rfl (pgs_cons (pg_name (i := 7) sc_law_laid.nd rfl (Or.inl rfl)) (pgs_cons (pg_name (i := 8) sc_law_laid.nd rfl (Or.inl rfl)) (pgs_cons (pg_name (i := 9) sc_law_laid.nd rfl (Or.inl rfl)) pgs_nil)))) 
          -- pairs.append((field, spot[value] if cls is not None and value is not None else value))
          (pss_one (ps_expr (pe_bm PySem.F.plainAttrs_list PySem.F.slot_list_append PySem.F.type_list_append mt_append (pv 6) (pa_cons (pe_tup (pa_cons (pv 7) (pa_cons (pe_ifExp (PW.pt (pw_and (pt_cmpR op_notN (pv 9) pe_non (nomark _)) (pw_and1 (pt_cmpR op_notN (pv 8) pe_non (nomark _))))) (pe_dget (hu_of hr) (pv 3) (pv 8) (fun _ _ => rfl)) (pv 8)) pa_nil))) pa_nil)))))
        -- heap.append((rows[k][0], rows[k][1], tuple(pairs)))
        (pss_one (ps_expr (pe_bm PySem.F.plainAttrs_list PySem.F.slot_list_append PySem.F.type_list_append mt_append (pv 5) (pa_cons (pe_tup (pa_cons (pe_ix ix_list (pe_ix ix_list (pv 1) (pv 4) (fun _ _ => rfl)) pe_int (fun _ _ => rfl)) (pa_cons (pe_ix ix_list (pe_ix ix_list (pv 1) (pv 4) (fun _ _ => rfl)) pe_int (fun _ _ => rfl)) (pa_cons (pe_callTy call_tuple_of (by rfl) T.z_tuple (by decide +kernel) (pa_cons (pv 6) pa_nil)) pa_nil)))) pa_nil)))))))
      -- return tuple(heap)
      (pss_one (ps_ret (pe_callTy call_tuple_of (by rfl) T.z_tuple (by decide +kernel) (pa_cons (pv 5) pa_nil))))))))
      , ?_⟩
    refine sig [some (.ref ha), some (.ref ra), some (.ref oa), none, none, none, none, none, none, none] rfl ?_
    obtain ⟨hv, hha, hhR⟩ := hh
    obtain ⟨as, hra, hA⟩ := hR
    have hol := od.len
    have hal := hA.len
    have hvl : hv.length = hs.length := by rw [hhR.len, List.length_map]
    walk_at "s"
    intro sa hsa
    have s1 := My.Same.new (o := .dK []) hsa
    refine seqCut fun N hN => ?_
    have last1 : ∀ σ H1, (∃ y4, σ = [some (.ref ha), some (.ref ra), some (.ref oa), some (.ref sa), y4, none, none, none, none, none] ∧ Same H H1 ∧ ∃ kv : List (Key × V), H1 sa = some (.dK kv) ∧ kv.length ≤ os.length ∧ ∀ j (hj : j < os.length), j < os.length → valV kv (Sum.inl os[j]) = some (.int (hs.length + j : Nat))) → N σ H1 := by
      rintro σ H1 ⟨y4, rfl, s2, kv, e2, _, e3⟩
      have sp : ∀ i ∈ os, valV kv (Sum.inl i) = some (.int (spotI hs.length os i)) := fun i hi => by
        have hl := List.idxOf_lt_length_of_mem hi
        have := e3 _ hl hl
        rw [List.getElem_idxOf hl] at this
        rw [this]
        rfl
      clear e3
      subst hN
      walk_at "s"
      refine ⟨_, .inl (SqL.of (s2 _ _ hha)), fun hp hhp => ?_⟩
      have s3x := My.Same.new (H := H1) (o := .lst hv) hhp
      have s3 := s2.trans s3x
      refine seqCut fun N hN => ?_
      have last2 : ∀ σ H2, (∃ y4 y6 y7 y8 y9, σ = [some (.ref ha), some (.ref ra), some (.ref oa), some (.ref sa), y4, some (.ref hp), y6, y7, y8, y9] ∧ Same H1 H2 ∧ ∃ vs, H2 hp = some (.lst vs) ∧ RpL K H2 vs ((hs ++ (os.take os.length).map (layAt (spotI hs.length os) rs)).map HR.d)) → N σ H2 := by
        rintro σ H2 ⟨y4, y6, y7, y8, y9, rfl, s4, vs, e4, r4⟩
        subst hN
        walk_at "r"
        rw [List.take_length] at r4
        exact ⟨vs, .inl ⟨SqL.of e4, fun z hz => k _ _ ((s2.trans s4).trans (My.Same.new hz)) (Rp.tup (SqT.of upd_same) (r4.same (My.Same.new hz)))⟩⟩
      walk_at "f"
      have s13 : Same H1 (upd H1 hp (.lst hv)) := My.Same.new hhp
      refine ⟨⟨_, SqL.of (s3 _ _ ho)⟩, ?_⟩
      refine ForW.by (walk_list (xs := os.map V.int)) (fun i σ H2 => ∃ y4 y6 y7 y8 y9, σ = [some (.ref ha), some (.ref ra), some (.ref oa), some (.ref sa), y4, some (.ref hp), y6, y7, y8, y9] ∧ Same H1 H2 ∧ ∃ vs, H2 hp = some (.lst vs) ∧ RpL K H2 vs ((hs ++ (os.take i).map (layAt (spotI hs.length os) rs)).map HR.d))
        ⟨_, _, _, _, _, rfl, s13, hv, upd_same, by rw [List.take_zero, List.map_nil, List.append_nil]; exact hhR.same s3⟩ (fun i H2 H3 _ hh => by obtain ⟨_, _, _, _, _, _, hh, _⟩ := hh; exact SqL.of (hh _ _ (s2 _ _ ho))) ?_ (fun σ H2 hh => last2 σ H2 (by rw [List.length_map] at hh; exact hh))
      rintro i x σ H3 H2 hi ⟨y4, y6, y7, y8, y9, rfl, s4, vs, e4, r4⟩ ⟨rfl, hx⟩
      rw [List.length_map] at hi
      rw [List.getElem?_map, List.getElem?_eq_getElem hi] at hx
      cases hx
      have tk : os.take (i + 1) = os.take i ++ [os[i]] := by rw [List.take_add_one, List.getElem?_eq_getElem hi]; rfl
      have ob := od.mem.mp (List.getElem_mem hi)
      have tkm : (os.take (i + 1)).map (layAt (spotI hs.length os) rs) = (os.take i).map (layAt (spotI hs.length os) rs) ++ [layAt (spotI hs.length os) rs os[i]] := by rw [tk, List.map_append]; rfl
      rw [tkm, ← List.append_assoc]
      clear tkm tk
      have om := List.getElem_mem hi
      generalize os[i] = o at ob om
      have hor : o.toNat < rs.length := by omega
      rw [layAt_eq hor]
      obtain ⟨a, ea, pa, ps, g1, g2, g3⟩ := hA.get (List.getElem?_eq_getElem hor)
      have hr2' := hr2 _ (List.getElem_mem hor)
      have hr3' := hr3 _ (List.getElem_mem hor)
      generalize rs[o.toNat] = r at g1 g3 hr2' hr3'
      have hpl := g3.len
      have s04 := s2.trans s4
      have oat : atI (as.map V.ref) o = some (.ref a) := by
        have := atI_nat (xs := as.map V.ref) (j := o.toNat) (by rw [List.getElem?_map, ea]; rfl)
        rwa [show ((o.toNat : Nat) : Int) = o by omega] at this
      walk_at "g"
      walk_at "s"
      refine ⟨Nat.zero_le _, fun qa hqa => ?_⟩
      have s5 := My.Same.new (H := H2) (o := .lst []) hqa
      refine seqCut fun N2 hN2 => ?_
      walk_at "f"
      refine ⟨_, SqL.of (s5 _ _ (s04 _ _ hra)), _, oat, _, rfl, _, SqL.of (s5 _ _ (s04 _ _ g1)), _, rfl, _, rfl, ⟨_, SqL.of (s5 _ _ (s04 _ _ g2))⟩, ?_⟩
      have nqh : qa ≠ hp := (ne_of_none e4 hqa).symm
      refine ForW.by (walk_list (xs := ps.map V.ref)) (fun j σ H4 => ∃ y7 y8 y9, σ = [some (.ref ha), some (.ref ra), some (.ref oa), some (.ref sa), some (.int o), some (.ref hp), some (.ref qa), y7, y8, y9] ∧ Same H2 H4 ∧ ∃ us, H4 qa = some (.lst us) ∧ RpL K H4 us ((r.ps.take j).map fun q => prD (layP (spotI hs.length os) q)))
        ⟨_, _, _, rfl, s5, [], upd_same, .nil⟩ (fun j H4 H5 _ hh => by obtain ⟨_, _, _, _, hh, _⟩ := hh; exact SqL.of (hh _ _ (s04 _ _ g2))) ?_ ?_
      · rintro j x σ H5 H4 hj ⟨y7, y8, y9, rfl, s6, us, e6, r6⟩ ⟨rfl, hx⟩
        rw [List.length_map] at hj
        have hj2 : j < r.ps.length := by omega
        obtain ⟨b, eb, hb⟩ := g3.get (List.getElem?_eq_getElem hj2)
        rw [List.getElem?_map, eb] at hx
        cases hx
        have tk2 : r.ps.take (j + 1) = r.ps.take j ++ [r.ps[j]] := by rw [List.take_add_one, List.getElem?_eq_getElem hj2]; rfl
        have hq3 := hr3' _ (List.getElem_mem hj2)
        rw [tk2]
        generalize r.ps[j] = q at hb hq3
        have hb5 := (s04.trans s6) _ _ hb
        have sa5 := s4.trans s6 _ _ e2
        refine ⟨_, _, rfl, SqL.of hb5, rfl, ?_⟩
        walk_at "rd"
        have fin : ∀ u : Option Int, layP (spotI hs.length os) q = (q.f, u) → [V.str q.f, optV u].length ≤ sizeLine ∧ ∀ p, H4 p = none → ∃ xs, upd H4 p (.tup [V.str q.f, optV u]) qa = some (.lst xs) ∧ xs.length < sizeLine ∧ Same H2 (upd (upd H4 p (.tup [V.str q.f, optV u])) qa (.lst (xs ++ [.ref p]))) ∧
            ∃ us, (upd (upd H4 p (.tup [V.str q.f, optV u])) qa (.lst (xs ++ [.ref p]))) qa = some (.lst us) ∧ RpL K (upd (upd H4 p (.tup [V.str q.f, optV u])) qa (.lst (xs ++ [.ref p]))) us ((r.ps.take j ++ [q]).map fun q => prD (layP (spotI hs.length os) q)) := by
          intro u hu
          refine ⟨by show 2 ≤ sizeLine; decide, fun p hp2 => ?_⟩
          have sp2 := My.Same.new (H := H4) (o := .tup [V.str q.f, optV u]) hp2
          have e7 := sp2 _ _ e6
          refine ⟨us, e7, ?_, My.Same.mut (s6.trans sp2) hqa, us ++ [.ref p], upd_same, ?_⟩
          · rw [r6.len, List.length_map, List.length_take, sizeLine_eq]
            omega
          · rw [List.map_append]
            refine ((r6.same sp2).keep (.upd (.lst e7))).snoc ?_
            dsimp only
            rw [hu]
            exact Rp.tup (KeepT.upd (.lst e7) _ _ (SqT.of upd_same)) (.cons (.str _) (.cons (Rp.optI u) .nil))
        refine ⟨tyL e6, ?_⟩
        obtain ⟨qf, qv, qc⟩ := q
        cases qc with
        | none =>
          refine iteF ?_
          exact fin qv (by cases qv <;> rfl)
        | some cn =>
          refine iteT ?_
          cases qv with
          | none =>
            refine iteF ?_
            exact fin none rfl
          | some u =>
            refine iteT ?_
            have hu := hq3 rfl u rfl
            refine ⟨_, by rw [← sp u (od.mem.mpr hu)]; exact DGet.k (k := Sum.inl u) (s4.trans s6 _ _ e2), ?_⟩
            exact fin (some (spotI hs.length os u)) rfl
      · rintro σ H4 ⟨y7, y8, y9, rfl, s6, us, e6, r6⟩
        rw [List.length_map, hpl, List.take_length] at r6
        subst hN2
        walk_at "l"
        have s46 := s04.trans s6
        have e7 := s6 _ _ e4
        refine ⟨tyL e7, _, SqL.of (s46 _ _ hra), _, oat, _, rfl, _, SqL.of (s46 _ _ g1), _, rfl, _, SqL.of (s46 _ _ hra), _, oat, _, rfl, _, SqL.of (s46 _ _ g1), _, rfl, us, .inl ⟨SqL.of e6, fun z hz => ⟨by show 3 ≤ sizeLine; decide, fun p hp2 => ?_⟩⟩⟩
        have z1 := My.Same.new (H := H4) (o := .tup us) hz
        have z2 := My.Same.new (o := .tup [V.str r.c, V.bl r.b, V.ref z]) hp2
        have z3 := z1.trans z2
        have e8 := z3 _ _ e7
        have kq := KeepT.upd (K := K) (o := .lst (vs ++ [.ref p])) (.lst e8)
        refine ⟨vs, e8, ?_, _, _, _, _, _, rfl, My.Same.mut ((s4.trans s6).trans z3) hhp, vs ++ [.ref p], upd_same, ?_⟩
        · rw [r4.len, List.length_map, List.length_append, List.length_map, List.length_take, sizeLine_eq]
          omega
        · rw [List.map_append]
          refine ((r4.same (s6.trans z3)).keep kq).snoc ?_
          refine Rp.tup (kq _ _ (SqT.of upd_same)) (.cons (.str _) (.cons (.bl _) (.cons ?_ .nil)))
          have e9 : ((layR (spotI hs.length os) r).ps.map prD) = r.ps.map fun q => prD (layP (spotI hs.length os) q) := by
            show (r.ps.map _).map prD = _
            rw [List.map_map]
            rfl
          rw [e9]
          exact Rp.tup (kq _ _ (SqT.of (z2 _ _ upd_same))) ((r6.same z3).keep kq)
    walk_at "f"
    refine ⟨_, .inl (SqL.of (s1 _ _ ho)), by rw [List.length_map]; omega, by rw [List.length_map]; omega, ?_⟩
    rw [List.length_map, show ((os.length : Nat) : Int).toNat = os.length by omega]
    refine ForW.rng (fun i σ H1 => ∃ y4, σ = [some (.ref ha), some (.ref ra), some (.ref oa), some (.ref sa), y4, none, none, none, none, none] ∧ Same H H1 ∧ ∃ kv : List (Key × V), H1 sa = some (.dK kv) ∧ kv.length ≤ i ∧ ∀ j (hj : j < os.length), j < i → valV kv (Sum.inl os[j]) = some (.int (hs.length + j : Nat)))
      ⟨_, rfl, s1, [], upd_same, Nat.le_refl _, fun j _ hj => absurd hj (Nat.not_lt_zero _)⟩ ?_ last1
    rintro i σ H1 hi ⟨y4, rfl, s2, kv, e2, hkl, e3⟩
    rw [Int.zero_add]
    walk_at "g"
    walk_at "l"
    have sH := s2 _ _ ho
    refine ⟨hv, .inl (SqL.of (s2 _ _ hha)), _, SqL.of sH, _, atI_nat (by rw [List.getElem?_map, List.getElem?_eq_getElem hi]; rfl), _, DPut.k (k := Sum.inl os[i]) e2 (by rw [sizeLine_eq]; omega), _, rfl, My.Same.mut s2 hsa, _, upd_same, Nat.le_trans (length_putK _ _ _) (by omega), fun j hj hji => ?_⟩
    rw [valV_put, hvl]
    by_cases e : j = i
    · subst e
      rw [if_pos rfl]
      rfl
    · have hne : ¬ (Sum.inl os[j] : Key) = Sum.inl os[i] := fun q => e (by
        injection q with q
        have h1 := List.Nodup.idxOf_getElem od.nodup j hj
        have h2 := List.Nodup.idxOf_getElem od.nodup i hi
        rw [q] at h1
        omega)
      rw [if_neg hne]
      exact e3 j hj (by omega)

/-- a comprehension within a comprehension that captures nothing -/
theorem blkOk_nf {N : List Str} {sc scope : Scope} {own : List (Str × Nat)} (h : blkC N { kind := .function, names := [], isGenerator := false, isCoroutine := false } scope own = true) : BlkOk N sc scope own := by
  have b := blkOk_by h
  exact ⟨b.kind, b.uniq, b.ix, fun y hy e => (b.free y hy e).elim (fun q => by cases q) (fun q => by cases q), b.own⟩
/-! ### behind the program: all stays but tables -/
def FrT (H H' : Hp) : Prop := ∀ b o, H b = some o → (∀ x, o ≠ .tbl x) → H' b = some o
section
variable {H H' H1 : Hp}
theorem FrT.lst {a : Addr} {xs : List V} (x : FrT H H') (h : H a = some (.lst xs)) : H' a = some (.lst xs) := x _ _ h fun _ e => by cases e
theorem FrT.keepT (a : FrT H H') : KeepT K H H' := fun b xs h => by
  rcases h with (h | ⟨u, h⟩) | h
  · exact .inl (.inl (a _ _ h fun _ e => by cases e))
  · exact .inl (.inr ⟨u, a _ _ h fun _ e => by cases e⟩)
  · exact .inr h
theorem EvAt.frT {wd : Addr} {ev : Str → Option (List Fld)} (x : EvAt K H wd ev) (a : FrT H H') : EvAt K H' wd ev := by
  obtain ⟨wk, ea, kvs, e1, e2, e3, e4⟩ := x.ex
  refine ⟨wk, ea, kvs, a _ _ e1 (fun _ e => by cases e), e2, a _ _ e3 (fun _ e => by cases e), fun c => ?_⟩
  rcases e4 c with q | ⟨la, fs, vs, g1, g2, g3, g4, g5⟩
  · exact .inl q
  · exact .inr ⟨la, fs, vs, g1, g2, a.lst g3, g4.keep a.keepT, g5⟩
theorem RowsAt.frT {ra : Addr} {rs : List RR} (h : RowsAt H ra rs) (x : FrT H H') : RowsAt H' ra rs := by
  obtain ⟨as, h1, h2⟩ := h
  refine ⟨as, x.lst h1, h2.imp fun a r hr => ?_⟩
  obtain ⟨pa, ps, e1, e2, e3⟩ := hr
  exact ⟨pa, ps, x.lst e1, x.lst e2, e3.imp fun a q hq => x.lst hq⟩
theorem LsAt.frT {a : Addr} {ds : List PyData} (h : LsAt K H a ds) (x : FrT H H') : LsAt K H' a ds := by
  obtain ⟨vs, h1, h2⟩ := h
  exact ⟨vs, x.lst h1, h2.keep x.keepT⟩
theorem LsAt.fr {rc : Bool} {a : Addr} {ds : List PyData} (hd : ∀ d ∈ ds, ∃ es, d = .tuple es) (h : LsAt K H a ds) (x : Fr rc H H') : LsAt K H' a ds := by
  obtain ⟨vs, h1, h2⟩ := h
  obtain ⟨as, rfl⟩ := refsOf hd h2
  exact ⟨_, x _ _ h1 (nl_refs _), h2.keep x.keepT⟩
theorem hrs_tup (hs : List HR) : ∀ d ∈ hs.map HR.d, ∃ es, d = .tuple es := fun d hd => by
  obtain ⟨q, _, rfl⟩ := List.mem_map.mp hd
  exact ⟨_, rfl⟩
end
theorem nl_tbl {rc : Bool} {x : Array Value} : ¬ Loose rc (.tbl x) := by
  rintro (⟨_, _, _, e⟩ | ⟨_, s, v, w, e, h⟩) <;> cases e
/-! ### the rows fit the program -/
theorem All2.right {α β : Type} {R : α → β → Prop} {as : List α} {bs : List β} (h : All2 R as bs) {b : β} (m : b ∈ bs) : ∃ a ∈ as, R a b := by
  obtain ⟨i, hi⟩ := List.getElem?_of_mem m
  obtain ⟨a, h1, h2⟩ := h.get hi
  exact ⟨a, List.mem_of_getElem? h1, h2⟩
theorem lastC_none {fs : List Fld} {f : Str} (h : f ∉ fs.map Fld.f) : lastC fs f = none := by
  have : ∀ (fs : List Fld) (acc : Option Str), f ∉ fs.map Fld.f → fs.foldl (fun acc q => if q.f = f then q.cls else acc) acc = acc := by
    intro fs
    induction fs with
    | nil => intro acc _; rfl
    | cons q r ih =>
      intro acc h
      rw [List.map_cons, List.mem_cons, not_or] at h
      show r.foldl _ (if q.f = f then q.cls else acc) = acc
      rw [if_neg (fun e => h.1 e.symm)]
      exact ih acc h.2
  exact this fs none h
theorem lastC_nd : ∀ {fs : List Fld} {q : Fld}, (fs.map Fld.f).Nodup → q ∈ fs → lastC fs q.f = q.cls := by
  intro fs q
  have : ∀ (fs : List Fld) (acc : Option Str), (fs.map Fld.f).Nodup → q ∈ fs → fs.foldl (fun acc z => if z.f = q.f then z.cls else acc) acc = q.cls := by
    intro fs
    induction fs with
    | nil => intro acc _ h; cases h
    | cons z r ih =>
      intro acc nd h
      rw [List.map_cons, List.nodup_cons] at nd
      show r.foldl _ (if z.f = q.f then z.cls else acc) = _
      rcases List.mem_cons.mp h with e | h
      · subst e
        rw [if_pos rfl]
        have h2 : ∀ (r : List Fld) (acc : Option Str), q.f ∉ r.map Fld.f → r.foldl (fun acc z => if z.f = q.f then z.cls else acc) acc = acc := by
          intro r
          induction r with
          | nil => intro acc _; rfl
          | cons y r ih2 =>
            intro acc h
            rw [List.map_cons, List.mem_cons, not_or] at h
            show r.foldl _ (if y.f = q.f then y.cls else acc) = acc
            rw [if_neg (fun e => h.1 e.symm)]
            exact ih2 acc h.2
        exact h2 r _ nd.1
      · exact ih _ nd.2 h
  intro nd h
  exact this fs none nd h
theorem hold_same {crs : List CRow} {ev : Str → Option (List Fld)} {nms tgs : List Str} (w : WorldOk crs ev nms tgs) : holdP crs = holdW ev := by
  funext c f
  unfold holdP holdW
  rw [w.ev c]
  cases (rowF crs c).isSome <;> rfl
theorem rows_fit {crs : List CRow} {ev : Str → Option (List Fld)} {nms tgs : List Str} {hs : List HR} {rs : List RR} {cs : List (Str × List (Str × Option Str))} (w : WorldOk crs ev nms tgs) (hh : ∀ r ∈ hs, HomeOk r) (hA : All2 (FitR rs.length) rs cs)
    (hc : ∀ c ∈ cs, ∃ fs, ev c.1 = some fs ∧ c.2 = fs.map fun q => (q.f, q.cls)) : RowsFit (holdW ev) (domP crs) hs rs where
  hom := fun r hr => by
    obtain ⟨h1, h2⟩ := hh r hr
    have h3 := w.wo r.c h1
    refine ⟨Nat.le_trans h2 (by decide), fun f => ?_, fun f => .inl h3⟩
    rw [← hold_same w]
    unfold holdP
    rw [h3]
    rfl
  row := fun r hr => by
    obtain ⟨c, hcm, hrc, hP⟩ := hA.mem hr
    obtain ⟨fs, e1, e2⟩ := hc c hcm
    have e3 := w.ev c.1
    rw [e1] at e3
    have e4 : (rowF crs c.1).isSome = true := by
      cases h : (rowF crs c.1).isSome with
      | true => rfl
      | false => rw [h] at e3; cases e3
    rw [e4] at e3
    have e5 : fs = allF crs c.1 := Option.some.inj e3
    obtain ⟨nd, ln⟩ := w.fd c.1 e4
    rw [← e5] at nd ln
    refine ⟨?_, fun q hq => ?_⟩
    · rw [hP.len, e2, List.length_map]
      exact ln
    · obtain ⟨z, hz, q1, q2, q3⟩ := hP.mem hq
      rw [e2] at hz
      obtain ⟨fd, hfd, rfl⟩ := List.mem_map.mp hz
      rw [hrc, q1]
      refine ⟨.inr ?_, ?_, fun hs i hi => q3 (by rw [← q2]; exact hs) i hi⟩
      · rw [← e5]
        exact List.mem_map.mpr ⟨fd, hfd, rfl⟩
      · unfold holdW
        rw [e1]
        show (lastC fs fd.f).isSome = _
        rw [lastC_nd nd hfd, q2]

def spLaw {K : PySem.W.Frag} {mg : Str → Option Value} (T : Txt K mg) : Sp := fun vs H Q _ => ∃ (a : Addr) (ns : List Int), vs = [.ref a] ∧ SqL K H a (ns.map V.int) ∧ ns.length ≤ 63 ∧ TabsH T H ∧ ∀ H', Q (.bl true) H'
/-- what the draws have built -/
structure BaseAt (K : PySem.W.Frag) (H : Hp) (wd ha ra : Addr) (ev : Str → Option (List Fld)) (hs : List HR) (rs : List RR) (o1 o2 oo : Addr) (os1 os2 : List Int) : Prop where
  w : EvAt K H wd ev
  h : LsAt K H ha (hs.map HR.d)
  r : RowsAt H ra rs
  a1 : H o1 = some (.lst (os1.map V.int))
  a2 : H o2 = some (.lst (os2.map V.int))
  ao : H oo = some (.lst ([o1, o2].map V.ref))
theorem BaseAt.fr {H H' : Hp} {wd ha ra : Addr} {ev : Str → Option (List Fld)} {hs : List HR} {rs : List RR} {o1 o2 oo : Addr} {os1 os2 : List Int} (x : BaseAt K H wd ha ra ev hs rs o1 o2 oo os1 os2) (a : Fr false H H') : BaseAt K H' wd ha ra ev hs rs o1 o2 oo os1 os2 :=
  ⟨x.w.fr a, x.h.fr (hrs_tup hs) a, x.r.fr a, a _ _ x.a1 (nl_ints _), a _ _ x.a2 (nl_ints _), a _ _ x.ao (nl_refs _)⟩
theorem BaseAt.frT {H H' : Hp} {wd ha ra : Addr} {ev : Str → Option (List Fld)} {hs : List HR} {rs : List RR} {o1 o2 oo : Addr} {os1 os2 : List Int} (x : BaseAt K H wd ha ra ev hs rs o1 o2 oo os1 os2) (a : FrT H H') : BaseAt K H' wd ha ra ev hs rs o1 o2 oo os1 os2 :=
  ⟨x.w.frT a, x.h.frT a, x.r.frT a, a.lst x.a1, a.lst x.a2, a.lst x.ao⟩
theorem All2.impM {α β : Type} {R S : α → β → Prop} {as : List α} {bs : List β} (h : All2 R as bs) : (∀ a b, a ∈ as → R a b → S a b) → All2 S as bs := by
  induction h with
  | nil => intro _; exact .nil
  | cons h _ ih => intro f; exact .cons (f _ _ List.mem_cons_self h) (ih fun a b m => f a b (List.mem_cons_of_mem _ m))
/-- what the asking defs want of a heap laid -/
def RowsOk (ev : Str → Option (List Fld)) (crs : List CRow) (hs : List HR) (rs : List RR) (os : List Int) : Prop := (∀ r ∈ laidD hs rs os, RowOk (laidD hs rs os).length (holdW ev) (domP crs) r) ∧ (laidD hs rs os).length = hs.length + rs.length ∧ (laidD hs rs os).length ≤ 60
theorem laid_rows {ev : Str → Option (List Fld)} {crs : List CRow} {hs : List HR} {rs : List RR} {os : List Int} (rf : RowsFit (holdW ev) (domP crs) hs rs) (od : Ord rs.length os) (h1 : hs.length ≤ 3) (h2 : rs.length ≤ 30) : RowsOk ev crs hs rs os :=
  ⟨laid_ok rf od, laid_len od, by rw [laid_len od]; omega⟩
theorem RowsOk.rl {ev : Str → Option (List Fld)} {crs : List CRow} {hs : List HR} {rs : List RR} {os : List Int} (x : RowsOk ev crs hs rs os) : RowsL (holdW ev) (laidD hs rs os) := ⟨by have := x.2.2; omega, fun r hr => ⟨(x.1 r hr).1, (x.1 r hr).2.2⟩⟩
theorem pict_small {ev : Str → Option (List Fld)} {crs : List CRow} {hs : List HR} {rs : List RR} {os : List Int} {ids : List Int} (x : RowsOk ev crs hs rs os) (hi : ∀ i ∈ ids, 0 ≤ i ∧ i < (laidD hs rs os).length) (hl : ids.length ≤ 60) : szD (pictD (holdW ev) (laidD hs rs os) ids) < 2 ^ 60 := by
  have b0 : Blw (laidD hs rs os).length (addN [] ids) := Blw.add ⟨.nil, fun _ h => nomatch h⟩ hi
  have bn : Blw (laidD hs rs os).length (srch (holdW ev) (laidD hs rs os) ids) := b0.turns (fun r hr => (x.1 r hr).2.2) _
  have := bn.len
  have := x.2.2
  exact pict_sz (fun r hr => (x.1 r hr).1) (by omega) (by omega)
theorem srch_nil (h : Holds) (rs : List HR) : srch h rs [] = [] := by
  have : ∀ k, turnsN h rs [] k = [] := by
    intro k
    induction k with
    | zero => rfl
    | succ k ih =>
      show stepN h rs k (turnsN h rs [] k) = []
      rw [ih]
      rfl
  exact this rs.length
theorem pict_nil (h : Holds) (rs : List HR) : pictD h rs [] = .tuple [.tuple [], .tuple []] := by
  unfold pictD
  rw [srch_nil]
  rfl
/-- the indexes asked -/
def AskAt (H : Hp) (ka : Addr) (idss : List (List Int)) : Prop := ∃ as : List Addr, H ka = some (.lst (as.map V.ref)) ∧ All2 (fun a ids => H a = some (.lst (ids.map V.int))) as idss
theorem AskAt.fr {H H' : Hp} {ka : Addr} {idss : List (List Int)} (x : AskAt H ka idss) (a : Fr false H H') : AskAt H' ka idss := by
  obtain ⟨as, h1, h2⟩ := x
  exact ⟨as, a _ _ h1 (nl_refs _), h2.imp fun _ _ h => a _ _ h (nl_ints _)⟩
theorem AskAt.frT {H H' : Hp} {ka : Addr} {idss : List (List Int)} (x : AskAt H ka idss) (a : FrT H H') : AskAt H' ka idss := by
  obtain ⟨as, h1, h2⟩ := x
  exact ⟨as, a.lst h1, h2.imp fun _ _ h => a.lst h⟩
theorem ok_law (T : Txt K mg) (TB : TBs base T) : FnOk P w K mg base CX0 29 T.a_law T.d_law ["script"] (spLaw T) :=
  T.F_law.ok sc_law (fun vs H Q E h => by obtain ⟨a, ns, rfl, _⟩ := h; rfl) fun cdv A outer s H vs Q E hr h => by
    obtain ⟨a, ns, rfl, hS, hns, htab, k⟩ := h
    have ok_law_same : ∀ T : Txt K mg, FnOk P w K mg base CX0 10 T.a_law_same T.d_law_same ["told", "due"] (spSame K 9) := fun T => ok_law_same_lvl T 9
    refine ⟨_,
      -- feed = _law_feed(script)
      (pss_cons (ps_set (i := 1) sc_law.nd rfl (Or.inr rfl) (pe_call (ok_law_feed T) (hr.mono (by first | decide | omega)) (by rfl) T.g_law_feed T.F_law_feed.kp T.b_law_feed .nil pass0 (pa_cons (pv 0) pa_nil)))
      -- world = _law_world(feed)
      (pss_cons (ps_set (i := 2) sc_law.nd rfl (Or.inl rfl) (pe_call (ok_law_world T) (hr.mono (by first | decide | omega)) (by rfl) T.g_law_world T.F_law_world.kp T.b_law_world .nil pass0 (pa_cons (pv 1) pa_nil)))
      -- homes = _law_homes(feed)
      (pss_cons (ps_set (i := 3) sc_law.nd rfl (Or.inr rfl) (pe_call (ok_law_homes T) (hr.mono (by first | decide | omega)) (by rfl) T.g_law_homes T.F_law_homes.kp T.b_law_homes .nil pass0 (pa_cons (pv 1) pa_nil)))
      -- size = _law_draw(feed, 3) if _law_draw(feed, 6) == 0 else 3 + _law_draw(feed, 28)
      (pss_cons (ps_set (i := 4) sc_law.nd rfl (Or.inl rfl) (pe_ifExp (pt_cmpR op_eq (pe_call (ok_law_draw T) (hr.mono (by first | decide | omega)) (by rfl) T.g_law_draw T.F_law_draw.kp T.b_law_draw .nil pass0 (pa_cons (pv 1) (pa_cons pe_int pa_nil))) pe_int (nomark _)) (pe_call (ok_law_draw T) (hr.mono (by first | decide | omega)) (by rfl) T.g_law_draw T.F_law_draw.kp T.b_law_draw .nil pass0 (pa_cons (pv 1) (pa_cons pe_int pa_nil))) (pe_op op_add pe_int (pe_call (ok_law_draw T) (hr.mono (by first | decide | omega)) (by rfl) T.g_law_draw T.F_law_draw.kp T.b_law_draw .nil pass0 (pa_cons (pv 1) (pa_cons pe_int pa_nil))))))
      -- rows = _law_rows(feed, world, size)
      (pss_cons (ps_set (i := 5) sc_law.nd rfl (Or.inr rfl) (pe_call (ok_law_rows T) (hr.mono (by first | decide | omega)) (by rfl) T.g_law_rows T.F_law_rows.kp T.b_law_rows .nil pass0 (pa_cons (pv 1) (pa_cons (pv 2) (pa_cons (pv 4) pa_nil)))))
      -- if _law_draw(feed, 2) == 0:
      (pss_cons (ps_if (pt_cmpR op_eq (pe_call (ok_law_draw T) (hr.mono (by first | decide | omega)) (by rfl) T.g_law_draw T.F_law_draw.kp T.b_law_draw .nil pass0 (pa_cons (pv 1) (pa_cons pe_int pa_nil))) pe_int (nomark _)) 
        -- _law_spoil(feed, rows)
        (pss_one (ps_expr (pe_call (ok_law_spoil T) (hr.mono (by first | decide | omega)) (by rfl) T.g_law_spoil T.F_law_spoil.kp T.b_law_spoil .nil pass0 (pa_cons (pv 1) (pa_cons (pv 5) pa_nil))))) pss_nil)
      -- orders = [_law_shuffled(feed, size), _law_shuffled(feed, size)]
      (pss_cons (ps_set (i := 6) sc_law.nd rfl (Or.inl rfl) (pe_lst (pa_cons (pe_call (ok_law_shuffled T) (hr.mono (by first | decide | omega)) (by rfl) T.g_law_shuffled T.F_law_shuffled.kp T.b_law_shuffled .nil pass0 (pa_cons (pv 1) (pa_cons (pv 4) pa_nil))) (pa_cons (pe_call (ok_law_shuffled T) (hr.mono (by first | decide | omega)) (by rfl) T.g_law_shuffled T.F_law_shuffled.kp T.b_law_shuffled .nil pass0 (pa_cons (pv 1) (pa_cons (pv 4) pa_nil))) pa_nil))))
      -- asks = []
      (pss_cons (ps_set (i := 7) sc_law.nd rfl (Or.inl rfl) (pe_lst pa_nil))
      -- for turn in range(3):
      (pss_cons (ps_for PassesOwn.never rfl (pi_range1 (by rfl) T.z_range (pa_cons pe_int pa_nil)) (pg_name (i := 8) sc_law.nd rfl (Or.inl rfl)) 
        -- total = len(homes) + size
        (pss_cons (ps_set (i := 9) sc_law.nd rfl (Or.inr rfl) (pe_op op_add (pe_callB call_len_seq (by rfl) T.z_len (by decide +kernel) (pa_cons (pv 3) pa_nil)) (pv 4)))
        -- asks.append([_law_draw(feed, total) for k in range(min(total, _law_draw(feed, 5)))])
        (pss_one (ps_expr (pe_bm PySem.F.plainAttrs_list PySem.F.slot_list_append PySem.F.type_list_append mt_append (pv 7) (pa_cons (pe_lc (own := [("k", 19)]) (g := gName 19) (tt := tYes) rfl sc_law.nd (pi_range1 (by rfl) T.z_range (pa_cons (pe_callB (call_min2 rfl) (by rfl) T.z_min (by decide +kernel) (pa_cons (pv 9) (pa_cons (pe_call (ok_law_draw T) (hr.mono (by first | decide | omega)) (by rfl) T.g_law_draw T.F_law_draw.kp T.b_law_draw .nil pass0 (pa_cons (pv 1) (pa_cons pe_int pa_nil))) pa_nil))) pa_nil)) (blkOk_by (N := ["script", "feed", "world", "homes", "size", "rows", "orders", "asks", "turn", "total", "units", "program", "order", "heaps", "ids", "found", "due", "heap", "row", "k", "pair", "one"]) (sc := defScope s_law) (by decide +kernel)) (fun _ _ _ _ _ => pg_name (i := 19) sc_law.nd rfl (Or.inl rfl)) (fun _ _ _ _ _ => pts_nil) (fun _ _ _ _ _ => (pe_call (ok_law_draw T) (hr.mono (by first | decide | omega)) (by rfl) T.g_law_draw T.F_law_draw.kp T.b_law_draw .nil pass0 (pa_cons (pv 1) (pa_cons (pv 9) pa_nil))))) pa_nil))))))
      -- units = tuple([(row[0], tuple([pair[0] for pair in row[2]]), ()) for row in homes])
      (pss_cons (ps_set (i := 10) sc_law.nd rfl (Or.inl rfl) (pe_callTy call_tuple_of (by rfl) T.z_tuple (by decide +kernel) (pa_cons (pe_lc (own := [("row", 18)]) (g := gName 18) (tt := tYes) rfl sc_law.nd (pi_list (pv 3)) (blkOk_by (N := ["script", "feed", "world", "homes", "size", "rows", "orders", "asks", "turn", "total", "units", "program", "order", "heaps", "ids", "found", "due", "heap", "row", "k", "pair", "one"]) (sc := defScope s_law) (by decide +kernel)) (fun _ _ _ _ _ => pg_name (i := 18) sc_law.nd rfl (Or.inl rfl)) (fun _ _ _ _ _ => pts_nil) (fun _ _ _ _ _ => (pe_tup (pa_cons (pe_ix (ix_tup : IxR _ (rIxT K)) (pv 18) pe_int (fun _ _ => rfl)) (pa_cons (pe_callTy (call_tuple_of : CallR _ (.type "tuple") (fun xs H Q => ∃ p ys, xs = [.ref p] ∧ ((SqL K H p ys ∧ ∀ l, H l = none → Q (.ref l) (L2.upd H l (.tup ys))) ∨ (SqT K H p ys ∧ Q (.ref p) H)))) (by rfl) T.z_tuple (by decide +kernel) (pa_cons (pe_lc (own := [("pair", 20)]) (g := gName 20) (tt := tYes) rfl sc_law.nd ((pi_tup (pe_ix (ix_tup : IxR _ (rIxT K)) (pv 18) pe_int (fun _ _ => rfl))) : PI _ _ _ (iTup K _)) (My.blkOk_nf (N := ["script", "feed", "world", "homes", "size", "rows", "orders", "asks", "turn", "total", "units", "program", "order", "heaps", "ids", "found", "due", "heap", "row", "k", "pair", "one"]) (by decide +kernel)) (fun _ _ _ _ _ => pg_name (i := 20) sc_law.nd rfl (Or.inl rfl)) (fun _ _ _ _ _ => pts_nil) (fun _ _ _ _ _ => (pe_ix (ix_tup : IxR _ (rIxT K)) (pv 20) pe_int (fun _ _ => rfl)))) pa_nil)) (pa_cons (pe_tup pa_nil) pa_nil)))))) pa_nil)))
      -- program = Program(world['classes'], units, (('say', 2),))
      (pss_cons (ps_set (i := 11) sc_law.nd rfl (Or.inl rfl) (pe_make T.M_Program (ok_Program_init T TB) (hr.mono (by first | decide | omega)) rfl T.mg_Program T.b_Program_init .nil pass0 (pa_cons (pe_dget (hu_of hr) (pv 2) pe_str (fun _ _ => rfl)) (pa_cons (pv 10) (pa_cons (pe_tup (pa_cons (pe_tup (pa_cons pe_str (pa_cons pe_int pa_nil))) pa_nil)) pa_nil)))))
      -- heaps = [_law_laid(homes, rows, order) for order in orders]
      (pss_cons (ps_setLc (i := 13) (own := [("order", 12)]) (g := gName 12) (tt := tYes) rfl sc_law.nd rfl rfl (sw_true rfl rfl rfl (by decide +kernel)) (pi_list (pv 6)) (blkOk_by (N := ["script", "feed", "world", "homes", "size", "rows", "orders", "asks", "turn", "total", "units", "program", "order", "heaps", "ids", "found", "due", "heap", "row", "k", "pair", "one"]) (sc := defScope s_law) (by decide +kernel)) (fun _ _ _ _ _ => pg_name (i := 12) sc_law.nd rfl (Or.inl rfl)) (fun _ _ _ _ _ => pts_nil) (fun _ _ _ _ _ => (pe_call (ok_law_laid T) (hr.mono (by first | decide | omega)) (by rfl) T.g_law_laid T.F_law_laid.kp T.b_law_laid .nil pass0 (pa_cons (pv 3) (pa_cons (pv 5) (pa_cons (pv 12) pa_nil))))))
      -- for ids in asks:
      (pss_cons (ps_for PassesOwn.never rfl (pi_list (pv 7)) (pg_name (i := 14) sc_law.nd rfl (Or.inl rfl)) 
        -- found = []
        (pss_cons (ps_set (i := 15) sc_law.nd rfl (Or.inl rfl) (pe_lst pa_nil))
        -- for order in orders:
        (pss_cons (ps_for PassesOwn.never rfl (pi_list (pv 6)) (pg_name (i := 12) sc_law.nd rfl (Or.inr rfl)) 
          -- found.append(tuple([one if one < len(homes) else len(homes) + order.index(one - len(homes)) for one in ids]))
          (pss_one (ps_expr (pe_bm PySem.F.plainAttrs_list PySem.F.slot_list_append PySem.F.type_list_append mt_append (pv 15) (pa_cons (pe_callTy call_tuple_of (by rfl) T.z_tuple (by decide +kernel) (pa_cons (pe_lc (own := [("one", 21)]) (g := gName 21) (tt := tYes) rfl sc_law.nd (pi_list (pv 14)) (blkOk_by (N := ["script", "feed", "world", "homes", "size", "rows", "orders", "asks", "turn", "total", "units", "program", "order", "heaps", "ids", "found", "due", "heap", "row", "k", "pair", "one"]) (sc := defScope s_law) (by decide +kernel)) (fun _ _ _ _ _ => pg_name (i := 21) sc_law.nd rfl (Or.inl rfl)) (fun _ _ _ _ _ => pts_nil) (fun _ _ _ _ _ => (pe_ifExp (pt_cmpR op_lt (pv 21) (pe_callB (call_len_seq : CallR _ (.builtin "len") (fun xs H Q => ∃ p ys, xs = [.ref p] ∧ (SqL K H p ys ∨ SqT K H p ys) ∧ Q (.int ys.length) H)) (by rfl) T.z_len (by decide +kernel) (pa_cons (pv 3) pa_nil)) (nomark _)) (pv 21) (pe_op op_add (pe_callB (call_len_seq : CallR _ (.builtin "len") (fun xs H Q => ∃ p ys, xs = [.ref p] ∧ (SqL K H p ys ∨ SqT K H p ys) ∧ Q (.int ys.length) H)) (by rfl) T.z_len (by decide +kernel) (pa_cons (pv 3) pa_nil)) ((pe_bm PySem.F.plainAttrs_list PySem.F.slot_list_index PySem.F.type_list_index (mt_index : MtR _ "list.index" (rIndex K)) (pv 12) (pa_cons (pe_op op_sub (pv 21) (pe_callB (call_len_seq : CallR _ (.builtin "len") (fun xs H Q => ∃ p ys, xs = [.ref p] ∧ (SqL K H p ys ∨ SqT K H p ys) ∧ Q (.int ys.length) H)) (by rfl) T.z_len (by decide +kernel) (pa_cons (pv 3) pa_nil))) pa_nil)) : PE _ _ (tBM K _ _ _ _)))))) pa_nil)) pa_nil)))))
        -- due = _law_picture(world, heaps[0], found[0])
        (pss_cons (ps_set (i := 16) sc_law.nd rfl (Or.inl rfl) (pe_call (ok_law_picture T) (hr.mono (by first | decide | omega)) (by rfl) T.g_law_picture T.F_law_picture.kp T.b_law_picture .nil pass0 (pa_cons (pv 2) (pa_cons (pe_ix ix_list (pv 13) pe_int (fun _ _ => rfl)) (pa_cons (pe_ix ix_list (pv 15) pe_int (fun _ _ => rfl)) pa_nil)))))
        -- if not _law_same(due, _law_picture(world, heaps[1], found[1])):
        (pss_cons (ps_if (pt_not (pt_val (pe_call (ok_law_same T) (hr.mono (by first | decide | omega)) (by rfl) T.g_law_same T.F_law_same.kp T.b_law_same .nil pass0 (pa_cons (pv 16) (pa_cons (pe_call (ok_law_picture T) (hr.mono (by first | decide | omega)) (by rfl) T.g_law_picture T.F_law_picture.kp T.b_law_picture .nil pass0 (pa_cons (pv 2) (pa_cons (pe_ix ix_list (pv 13) pe_int (fun _ _ => rfl)) (pa_cons (pe_ix ix_list (pv 15) pe_int (fun _ _ => rfl)) pa_nil)))) pa_nil))))) 
          -- return False
          (pss_one (ps_ret pe_bl)) pss_nil)
        -- if not _law_asked(program, world, heaps[0], found[0], due) or not _law_asked(program, world, heaps[1], found[1], due):
        (pss_one (ps_if (PW.pt (pw_or (pt_not (pt_truth (pe_call (ok_law_asked T) (hr.mono (by first | decide | omega)) (by rfl) T.g_law_asked T.F_law_asked.kp T.b_law_asked .nil pass0 (pa_cons (pv 11) (pa_cons (pv 2) (pa_cons (pe_ix ix_list (pv 13) pe_int (fun _ _ => rfl)) (pa_cons (pe_ix ix_list (pv 15) pe_int (fun _ _ => rfl)) (pa_cons (pv 16) pa_nil)))))) (by intro _; rfl))) (pw_or1 (pt_not (pt_truth (pe_call (ok_law_asked T) (hr.mono (by first | decide | omega)) (by rfl) T.g_law_asked T.F_law_asked.kp T.b_law_asked .nil pass0 (pa_cons (pv 11) (pa_cons (pv 2) (pa_cons (pe_ix ix_list (pv 13) pe_int (fun _ _ => rfl)) (pa_cons (pe_ix ix_list (pv 15) pe_int (fun _ _ => rfl)) (pa_cons (pv 16) pa_nil)))))) (by intro _; rfl)))))) 
          -- return False
          (pss_one (ps_ret pe_bl)) pss_nil)))))))
      -- for heap in heaps:
      (pss_cons (ps_for PassesOwn.never rfl (pi_list (pv 13)) (pg_name (i := 17) sc_law.nd rfl (Or.inl rfl)) 
        -- if not _law_same(deep(program, heap), _law_deep(world, heap)):
        (pss_one (ps_if (pt_not (pt_val (pe_call (ok_law_same T) (hr.mono (by first | decide | omega)) (by rfl) T.g_law_same T.F_law_same.kp T.b_law_same .nil pass0 (pa_cons (pe_call (ok_deep T) (hr.mono (by first | decide | omega)) (by rfl) T.g_deep T.F_deep.kp T.b_deep .nil pass0 (pa_cons (pv 11) (pa_cons (pv 17) pa_nil))) (pa_cons (pe_call (ok_law_deep T) (hr.mono (by first | decide | omega)) (by rfl) T.g_law_deep T.F_law_deep.kp T.b_law_deep .nil pass0 (pa_cons (pv 2) (pa_cons (pv 17) pa_nil))) pa_nil))))) 
          -- return False
          (pss_one (ps_ret pe_bl)) pss_nil)))
      -- return _law_same(deep(program, ()), True) and _law_same(picture(program, heaps[0], ()), ((), ()))
      (pss_one (ps_ret (pe_and (pe_call (ok_law_same T) (hr.mono (by first | decide | omega)) (by rfl) T.g_law_same T.F_law_same.kp T.b_law_same .nil pass0 (pa_cons (pe_call (ok_deep T) (hr.mono (by first | decide | omega)) (by rfl) T.g_deep T.F_deep.kp T.b_deep .nil pass0 (pa_cons (pv 11) (pa_cons (pe_tup pa_nil) pa_nil))) (pa_cons pe_bl pa_nil))) (pe_one (pe_call (ok_law_same T) (hr.mono (by first | decide | omega)) (by rfl) T.g_law_same T.F_law_same.kp T.b_law_same .nil pass0 (pa_cons (pe_call (ok_picture T) (hr.mono (by first | decide | omega)) (by rfl) T.g_picture T.F_picture.kp T.b_picture .nil pass0 (pa_cons (pv 11) (pa_cons (pe_ix ix_list (pv 13) pe_int (fun _ _ => rfl)) (pa_cons (pe_tup pa_nil) pa_nil)))) (pa_cons (pe_tup (pa_cons (pe_tup pa_nil) (pa_cons (pe_tup pa_nil) pa_nil))) pa_nil)))))))))))))))))))))
      , ?_⟩
    refine sig [some (.ref a), none, none, none, none, none, none, none, none, none, none, none, none, none, none, none, none, none, none, none, none, none] rfl ?_
    have htb := htab.h_uses_flags
    walk_at "s"
    refine ⟨a, ns, rfl, hS, hns, fun f l H1 s1 nf1 hf1 => ?_⟩
    have tb1 := s1 _ _ htb
    clear hS s1 nf1 htab htb
    walk_at "s"
    refine ⟨f, l, 0, rfl, hf1, by omega, fun wd crs ev nms tgs H2 fr2 hw2 ok hf2 => ?_⟩
    have tb2 := fr2 _ _ tb1 nl_tbl
    clear fr2 tb1 hf1 H1
    walk_at "s"
    refine ⟨f, l, _, rfl, hf2, by omega, fun ha hs H3 fr3 hh3 hsl hso hf3 => ?_⟩
    have tb3 := fr3 _ _ tb2 nl_tbl
    have hw3 := hw2.fr fr3
    clear fr3 tb2 hf2 hw2 H2
    refine seqCut fun N hN => ?_
    have last1 : ∀ (m : Nat) (H4 : Hp), m ≤ 30 → Kp f H3 H4 → FeedAt H4 f l 160 → N [some (.ref a), some (.ref f), some (.ref wd), some (.ref ha), some (.int (m : Nat)), none, none, none, none, none, none, none, none, none, none, none, none, none, none, none, none, none] H4 := by
      intro m H4 hm kp4 hf4
      have fr4 : Fr false H3 H4 := Fr.kp hf3 kp4
      have tb4 := fr4 _ _ tb3 nl_tbl
      have hw4 := hw3.fr fr4
      have hh4 := hh3.fr (hrs_tup hs) fr4
      clear fr4 kp4 tb3 hw3 hh3 hf3 H3
      subst hN
      walk_at "s"
      refine ⟨f, l, wd, _, m, crs, ev, nms, tgs, rfl, hf4, by omega, hm, hw4, ok.nl, ok.tl, fun c hc => ?_, fun ra cs H5 fr5 hR5 hcl hcs hf5 => ?_⟩
      · have hc2 : (rowF crs c).isSome = true := hc.elim (ok.nm c) (ok.tg c)
        refine ⟨allF crs c, by rw [ok.ev c, hc2]; rfl, (ok.fd c hc2).2⟩
      · have tb5 := fr5 _ _ tb4 nl_tbl
        have hw5 := hw4.fr fr5
        have hh5 := hh4.fr (hrs_tup hs) fr5
        clear fr5 tb4 hw4 hh4 hf4 H4
        refine seqCut fun N hN => ?_
        have last2 : ∀ (H6 : Hp), WorldAt K H6 wd crs ev nms tgs → LsAt K H6 ha (hs.map HR.d) → RowsSh m H6 ra cs → H6 T.P_uses_flags = some (.tbl #[]) → FeedAt H6 f l 41000 → N [some (.ref a), some (.ref f), some (.ref wd), some (.ref ha), some (.int (m : Nat)), some (.ref ra), none, none, none, none, none, none, none, none, none, none, none, none, none, none, none, none] H6 := by
          intro H6 hw6 hh6 hR6 tb6 hf6
          obtain ⟨rs, hRA, hfit⟩ := hR6.at_
          clear hR6
          have hml : rs.length = m := by rw [hfit.len, hcl]
          subst hml
          have rf := rows_fit (hs := hs) ok hso hfit hcs
          clear hR5 hfit hcs hcl hw5 hh5 tb5 hf5 H5
          subst hN
          walk_at "s"
          refine ⟨f, l, rs.length, _, rfl, hf6, by omega, by omega, fun o1 os1 H7 kp7 no1 e1 od1 hf7 => ?_⟩
          have fr7 : Fr false H6 H7 := Fr.kp hf6 kp7
          refine ⟨f, l, rs.length, _, rfl, hf7, by omega, by omega, fun o2 os2 H8 kp8 no2 e2 od2 hf8 => ?_⟩
          have fr8 : Fr false H7 H8 := Fr.kp hf7 kp8
          refine ⟨by show 2 ≤ sizeLine; decide, fun oo hoo => ?_⟩
          have fr9 : Fr false H8 (upd H8 oo (.lst [.ref o1, .ref o2])) := .of (My.Same.new hoo)
          have fr69 := fr7.trans (fr8.trans fr9)
          have ba9 : BaseAt K (upd H8 oo (.lst [.ref o1, .ref o2])) wd ha ra ev hs rs o1 o2 oo os1 os2 := ⟨hw6.ev.fr fr69, hh6.fr (hrs_tup hs) fr69, hRA.fr fr69, (fr8.trans fr9) _ _ e1 (nl_ints _), fr9 _ _ e2 (nl_ints _), upd_same⟩
          have hw9 := hw6.fr fr69
          have tb9 := fr69 _ _ tb6 nl_tbl
          have hf9 := (hf8.upd (o := .lst [.ref o1, .ref o2]) hoo).mono (m := 42000) (by omega)
          generalize upd H8 oo (.lst [.ref o1, .ref o2]) = H9 at ba9 hw9 tb9 hf9 ⊢
          clear fr7 fr8 fr9 fr69 kp7 kp8 hf6 hf7 hf8 no1 no2 e1 e2 hoo hw6 hh6 hRA tb6 H6 H7 H8
          walk_at "s"
          refine ⟨Nat.zero_le _, fun ka hka => ?_⟩
          have nkf := hf9.ne hka
          have nkl := hf9.nl hka
          refine seqCut fun N hN => ?_
          have last3 : ∀ σ H10, (∃ y8 y9, σ = [some (.ref a), some (.ref f), some (.ref wd), some (.ref ha), some (.int (rs.length : Nat)), some (.ref ra), some (.ref oo), some (.ref ka), y8, y9, none, none, none, none, none, none, none, none, none, none, none, none] ∧ Fr false H9 H10 ∧ ∃ idss, AskAt H10 ka idss ∧ ∀ ids ∈ idss, (∀ i ∈ ids, 0 ≤ i ∧ i < hs.length + rs.length) ∧ ids.length ≤ 4) → N σ H10 := by
            rintro σ H10 ⟨y8, y9, rfl, fr10, idss, hk10, hids⟩
            have ba10 := ba9.fr fr10
            have hw10 := hw9.fr fr10
            have tb10 := fr10 _ _ tb9 nl_tbl
            clear fr10 ba9 hw9 tb9 hf9 hka nkf nkl H9
            subst hN
            refine seqCut fun N hN => ?_
            have last4 : ∀ (H11 : Hp) (ua : Addr) (us : List V), Same H10 H11 → SqT K H11 ua us → RpL K H11 us ((hs.map fun r => (r.c, r.ps.map Prod.fst)).map unD) → N [some (.ref a), some (.ref f), some (.ref wd), some (.ref ha), some (.int (rs.length : Nat)), some (.ref ra), some (.ref oo), some (.ref ka), y8, y9, some (.ref ua), none, none, none, none, none, none, none, none, none, none, none] H11 := by
              intro H11 ua us s11 hua hus
              have ba11 := ba10.fr (.of s11)
              have hw11 := hw10.fr (rc := false) (.of s11)
              have tb11 := s11 _ _ tb10
              have hk11 := hk10.fr (.of s11)
              clear ba10 hw10 tb10 hk10 s11 H10
              subst hN
              refine seqCut fun N hN => ?_
              have last5 : ∀ (H12 : Hp) (p : Addr), BaseAt K H12 wd ha ra ev hs rs o1 o2 oo os1 os2 → AskAt H12 ka idss → PgH K T.C_Program H12 p (holdW ev) (domP crs) → N [some (.ref a), some (.ref f), some (.ref wd), some (.ref ha), some (.int (rs.length : Nat)), some (.ref ra), some (.ref oo), some (.ref ka), y8, y9, some (.ref ua), some (.ref p), none, none, none, none, none, none, none, none, none, none] H12 := by
                intro H12 p ba12 hk12 hpg
                clear ba11 hw11 tb11 hk11 hus hua H11
                subst hN
                refine seqCut fun N hN => ?_
                have last6 : ∀ (H13 : Hp) (va : Addr) (v1 v2 : V), Same H12 H13 → H13 va = some (.lst [v1, v2]) → Rp K H13 v1 (hpD (laidD hs rs os1)) → Rp K H13 v2 (hpD (laidD hs rs os2)) → N [some (.ref a), some (.ref f), some (.ref wd), some (.ref ha), some (.int (rs.length : Nat)), some (.ref ra), some (.ref oo), some (.ref ka), y8, y9, some (.ref ua), some (.ref p), none, some (.ref va), none, none, none, none, none, none, none, none] H13 := by
                  intro H13 va v1 v2 s13 hva hv1 hv2
                  have ba13 := ba12.fr (.of s13)
                  have hk13 := hk12.fr (.of s13)
                  have hpg13 := hpg.same s13
                  have hp1 : RowsOk ev crs hs rs os1 := laid_rows rf od1 hsl hm
                  have hp2 : RowsOk ev crs hs rs os2 := laid_rows rf od2 hsl hm
                  clear ba12 hk12 hpg s13 H12
                  subst hN
                  refine seqCut fun N hN => ?_
                  have last7 : ∀ (H14 : Hp) y12 y14 y15 y16, Same H13 H14 → N [some (.ref a), some (.ref f), some (.ref wd), some (.ref ha), some (.int (rs.length : Nat)), some (.ref ra), some (.ref oo), some (.ref ka), y8, y9, some (.ref ua), some (.ref p), y12, some (.ref va), y14, y15, y16, none, none, none, none, none] H14 := by
                    intro H14 y12 y14 y15 y16 s14
                    have ba14 := ba13.fr (.of s14)
                    have hpg14 := hpg13.same s14
                    have hva14 := s14 _ _ hva
                    have hv1 := hv1.same s14
                    have hv2 := hv2.same s14
                    subst hN
                    refine seqCut fun N hN => ?_
                    have last9 : ∀ (H15 : Hp) y17, Same H14 H15 → N [some (.ref a), some (.ref f), some (.ref wd), some (.ref ha), some (.int (rs.length : Nat)), some (.ref ra), some (.ref oo), some (.ref ka), y8, y9, some (.ref ua), some (.ref p), y12, some (.ref va), y14, y15, y16, y17, none, none, none, none] H15 := by
                      intro H15 y17 s15
                      subst hN
                      walk_at "r"
                      refine ⟨Nat.zero_le _, fun z1 hz1 => ?_⟩
                      have y1 := s15.trans (My.Same.new (o := .tup []) hz1)
                      refine ⟨p, .ref z1, [], holdW ev, domP crs, rfl, hpg14.same y1, Rp.tup (SqT.of upd_same) .nil, (fun _ h => nomatch h), Nat.zero_le _, fun H16 s16 => ?_⟩
                      refine ⟨_, _, .bool true, rfl, .bl _, .bl _, by show 0 < 9; decide, by show 1 < 2 ^ 60; decide, fun H17 s17 => ⟨true, rfl, iteT ?_⟩⟩
                      have y2 := y1.trans (s16.trans s17)
                      refine ⟨_, SqL.of (y2 _ _ hva14), _, rfl, Nat.zero_le _, fun z2 hz2 => ?_⟩
                      have y3 := y2.trans (My.Same.new (o := .tup []) hz2)
                      refine ⟨p, v1, .ref z2, laidD hs rs os1, [], holdW ev, domP crs, rfl, hpg14.same y3, hv1.same y3, Rp.tup (SqT.of upd_same) .nil, hp1.1, by have := hp1.2.2; omega, (fun _ h => nomatch h), Nat.zero_le _, fun H18 v s18 hv => ?_⟩
                      rw [pict_nil] at hv
                      refine ⟨Nat.zero_le _, fun z3 hz3 => ⟨Nat.zero_le _, fun z4 hz4 => ⟨by show 2 ≤ sizeLine; decide, fun z5 hz5 => ?_⟩⟩⟩
                      have x3 := My.Same.new (H := H18) (o := .tup []) hz3
                      have x4 := My.Same.new (o := .tup []) hz4
                      have x5 := My.Same.new (o := .tup [V.ref z3, V.ref z4]) hz5
                      refine ⟨v, .ref z5, .tuple [.tuple [], .tuple []], rfl, hv.same (x3.trans (x4.trans x5)), ?_, by decide, by decide, fun H19 _ => k H19⟩
                      exact Rp.tup (SqT.of upd_same) (.cons (Rp.tup (SqT.of ((x4.trans x5) _ _ upd_same)) .nil) (.cons (Rp.tup (SqT.of (x5 _ _ upd_same)) .nil) .nil))
                    walk_at "f"
                    refine ⟨⟨_, SqL.of hva14⟩, ?_⟩
                    refine ForW.by (walk_list (xs := [v1, v2])) (fun i σ H15 => ∃ y17, σ = [some (.ref a), some (.ref f), some (.ref wd), some (.ref ha), some (.int (rs.length : Nat)), some (.ref ra), some (.ref oo), some (.ref ka), y8, y9, some (.ref ua), some (.ref p), y12, some (.ref va), y14, y15, y16, y17, none, none, none, none] ∧ Same H14 H15) ⟨_, rfl, .refl _⟩ (fun i H15 H16 _ hh => SqL.of (hh.choose_spec.2 _ _ hva14)) ?_ (fun σ H15 hh => by obtain ⟨y17, rfl, s15⟩ := hh; exact last9 H15 y17 s15)
                    rintro i x σ H16 H15 hi ⟨y17, rfl, s15⟩ ⟨rfl, hx⟩
                    have hi2 : i < 2 := hi
                    obtain ⟨os, q1, q2⟩ : ∃ os, Rp K H14 x (hpD (laidD hs rs os)) ∧ RowsOk ev crs hs rs os := by
                      rcases (by omega : i = 0 ∨ i = 1) with rfl | rfl
                      · cases hx
                        exact ⟨os1, hv1, hp1⟩
                      · cases hx
                        exact ⟨os2, hv2, hp2⟩
                    walk_at "g"
                    walk_at "i"
                    refine ⟨p, x, laidD hs rs os, holdW ev, domP crs, rfl, hpg14.same s15, q1.same s15, q2.1, by have := q2.2.2; omega, fun H17 s17 => ?_⟩
                    refine ⟨wd, x, laidD hs rs os, ev, rfl, ba14.w.same (s15.trans s17), q1.same (s15.trans s17), q2.rl, fun H18 s18 => ?_⟩
                    refine ⟨_, _, .bool (deepB (holdW ev) (laidD hs rs os)), rfl, .bl _, .bl _, by show 0 < 9; decide, by show 1 < 2 ^ 60; decide, fun H19 s19 => ⟨true, rfl, iteF ?_⟩⟩
                    exact ⟨_, rfl, s15.trans (s17.trans (s18.trans s19))⟩
                  obtain ⟨as, hka, hAk⟩ := hk13
                  walk_at "f"
                  refine ⟨⟨_, SqL.of hka⟩, ?_⟩
                  refine ForW.by (walk_list (xs := as.map V.ref)) (fun i σ H14 => ∃ y12 y14 y15 y16, σ = [some (.ref a), some (.ref f), some (.ref wd), some (.ref ha), some (.int (rs.length : Nat)), some (.ref ra), some (.ref oo), some (.ref ka), y8, y9, some (.ref ua), some (.ref p), y12, some (.ref va), y14, y15, y16, none, none, none, none, none] ∧ Same H13 H14) ⟨_, _, _, _, rfl, .refl _⟩ (fun i H14 H15 _ hh => by obtain ⟨_, _, _, _, _, hh⟩ := hh; exact SqL.of (hh _ _ hka)) ?_ (fun σ H14 hh => by obtain ⟨y12, y14, y15, y16, rfl, s14⟩ := hh; exact last7 H14 y12 y14 y15 y16 s14)
                  rintro i x σ H15 H14 hi ⟨y12, y14, y15, y16, rfl, s14⟩ ⟨rfl, hx⟩
                  rw [List.length_map] at hi
                  rw [List.getElem?_map, List.getElem?_eq_getElem hi] at hx
                  cases hx
                  obtain ⟨ids, hid, hb⟩ := hAk.getl (List.getElem?_eq_getElem hi)
                  obtain ⟨hin, hi4⟩ := hids ids (List.mem_of_getElem? hid)
                  generalize as[i] = b at hb
                  have ba14 := ba13.fr (.of s14)
                  have hb14 := s14 _ _ hb
                  obtain ⟨hvs, hh14, hhR⟩ := ba14.h
                  have hhl : hvs.length = hs.length := by rw [hhR.len, List.length_map]
                  walk_at "g"
                  walk_at "s"
                  refine ⟨Nat.zero_le _, fun fo hfo => ?_⟩
                  have s15 := My.Same.new (H := H14) (o := .lst []) hfo
                  refine seqCut fun N hN => ?_
                  have last8 : ∀ (H15 : Hp) y12 f1 f2, Same H14 H15 → H15 fo = some (.lst [f1, f2]) → Rp K H15 f1 (dataInts (ids.map (foundD hs.length os1))) → Rp K H15 f2 (dataInts (ids.map (foundD hs.length os2))) → N [some (.ref a), some (.ref f), some (.ref wd), some (.ref ha), some (.int (rs.length : Nat)), some (.ref ra), some (.ref oo), some (.ref ka), y8, y9, some (.ref ua), some (.ref p), y12, some (.ref va), some (.ref b), some (.ref fo), y16, none, none, none, none, none] H15 := by
                    intro H15 y12 f1 f2 s15 hfo hf1 hf2
                    have ba15 := ba14.fr (.of s15)
                    have hpg15 := hpg13.same (s14.trans s15)
                    have s1315 := s14.trans s15
                    have hva15 := s1315 _ _ hva
                    have hv1 := hv1.same s1315
                    have hv2 := hv2.same s1315
                    have fi1 : ∀ i ∈ ids.map (foundD hs.length os1), 0 ≤ i ∧ i < (laidD hs rs os1).length := fun i hi => by
                      obtain ⟨z, hz, rfl⟩ := List.mem_map.mp hi
                      exact found_in od1 (hin z hz).1 (hin z hz).2
                    have fi2 : ∀ i ∈ ids.map (foundD hs.length os2), 0 ≤ i ∧ i < (laidD hs rs os2).length := fun i hi => by
                      obtain ⟨z, hz, rfl⟩ := List.mem_map.mp hi
                      exact found_in od2 (hin z hz).1 (hin z hz).2
                    have il1 : (ids.map (foundD hs.length os1)).length ≤ 60 := by rw [List.length_map]; omega
                    have il2 : (ids.map (foundD hs.length os2)).length ≤ 60 := by rw [List.length_map]; omega
                    have pe := pict_orders rf od1 od2 hin
                    have dep := pict_dep (holdW ev) (laidD hs rs os1) (ids.map (foundD hs.length os1))
                    have sz := pict_small hp1 fi1 il1
                    subst hN
                    refine seqCut fun N hN => ?_
                    walk_at "rd"
                    refine ⟨_, SqL.of hva15, _, rfl, _, SqL.of hfo, _, rfl, wd, v1, f1, _, _, ev, rfl, ba15.w, hv1, hf1, hp1.rl, fi1, by omega, fun H16 dv s16 hdv => ?_⟩
                    generalize hD : pictD (holdW ev) (laidD hs rs os1) (ids.map (foundD hs.length os1)) = DD at pe dep sz hdv
                    subst hN
                    walk_at "j"
                    have ba16 := ba15.fr (.of s16)
                    have hva16 := s16 _ _ hva15
                    have hfo16 := s16 _ _ hfo
                    refine ⟨_, SqL.of hva16, _, rfl, _, SqL.of hfo16, _, rfl, wd, v2, f2, _, _, ev, rfl, ba16.w, hv2.same s16, hf2.same s16, hp2.rl, fi2, by omega, fun H17 dv2 s17 hdv2 => ?_⟩
                    rw [pe] at hdv2
                    refine ⟨dv, dv2, DD, rfl, hdv.same s17, hdv2, dep, sz, fun H18 s18 => ⟨true, rfl, iteF ?_⟩⟩
                    have s1518 := s16.trans (s17.trans s18)
                    have ba18 := ba15.fr (.of s1518)
                    have hdv18 := hdv.same (s17.trans s18)
                    walk_at "i"
                    refine ⟨_, SqL.of (s1518 _ _ hva15), _, rfl, _, SqL.of (s1518 _ _ hfo), _, rfl, p, wd, v1, f1, dv, _, _, ev, domP crs, rfl, hpg15.same s1518, ba18.w, hv1.same s1518, hf1.same s1518, ?_, hp1.1, hp1.2.2, fi1, il1, ?_, ?_, fun H19 s19 => ⟨true, rfl, iteF ?_⟩⟩
                    · rw [hD]
                      exact hdv18
                    · rw [hD]
                      exact dep
                    · rw [hD]
                      exact sz
                    have s1519 := s1518.trans s19
                    refine ⟨_, SqL.of (s1519 _ _ hva15), _, rfl, _, SqL.of (s1519 _ _ hfo), _, rfl, p, wd, v2, f2, dv, _, _, ev, domP crs, rfl, hpg15.same s1519, ba18.w.same s19, hv2.same s1519, hf2.same s1519, ?_, hp2.1, hp2.2.2, fi2, il2, ?_, ?_, fun H20 s20 => ⟨true, rfl, iteF ?_⟩⟩
                    · rw [pe]
                      exact hdv18.same s19
                    · rw [pe]
                      exact dep
                    · rw [pe]
                      exact sz
                    exact ⟨_, _, _, _, rfl, s1315.trans (s1519.trans s20)⟩
                  walk_at "f"
                  have ao14 := s15 _ _ ba14.ao
                  refine ⟨⟨_, SqL.of ao14⟩, ?_⟩
                  refine ForW.by (walk_list (xs := [o1, o2].map V.ref)) (fun j σ H15 => ∃ y12, σ = [some (.ref a), some (.ref f), some (.ref wd), some (.ref ha), some (.int (rs.length : Nat)), some (.ref ra), some (.ref oo), some (.ref ka), y8, y9, some (.ref ua), some (.ref p), y12, some (.ref va), some (.ref b), some (.ref fo), y16, none, none, none, none, none] ∧ Same H14 H15 ∧ ∃ us, H15 fo = some (.lst us) ∧ RpL K H15 us (([os1, os2].take j).map fun os => dataInts (ids.map (foundD hs.length os))))
                    ⟨_, rfl, s15, [], upd_same, .nil⟩ (fun j H15 H16 _ hh => by obtain ⟨_, _, hh, _⟩ := hh; exact SqL.of (hh _ _ ba14.ao)) ?_ ?_
                  · rintro j x σ H16 H15 hj ⟨y12, rfl, s16, us, e16, r16⟩ ⟨rfl, hx⟩
                    have hj2 : j < 2 := hj
                    obtain ⟨o, os, q1, q2, q3, q4⟩ : ∃ (o : Addr) (os : List Int), x = .ref o ∧ H14 o = some (.lst (os.map V.int)) ∧ Ord rs.length os ∧ [os1, os2].take (j + 1) = [os1, os2].take j ++ [os] := by
                      rcases (by omega : j = 0 ∨ j = 1) with rfl | rfl
                      · exact ⟨o1, os1, by cases hx; rfl, ba14.a1, od1, rfl⟩
                      · exact ⟨o2, os2, by cases hx; rfl, ba14.a2, od2, rfl⟩
                    subst q1
                    walk_at "g"
                    walk_at "l"
                    refine ⟨tyL e16, ⟨_, SqL.of (s16 _ _ hb14)⟩, fun D hD => ?_⟩
                    have nfD : fo ≠ D := ne_of_none e16 hD
                    refine LcW.by (walk_list (xs := ids.map V.int)) (fun c H16 => Same H15 H16 ∧ H16 D = some (.lst (((ids.take c).map (foundD hs.length os)).map V.int))) ⟨My.Same.new hD, upd_same⟩ (fun c H16 _ hh => SqL.of (hh.1 _ _ (s16 _ _ hb14))) ?_ ?_
                    · rintro c x H17 H16 hc ⟨s17, e17⟩ ⟨rfl, hx⟩
                      rw [List.length_map] at hc
                      rw [List.getElem?_map, List.getElem?_eq_getElem hc] at hx
                      cases hx
                      have tk : ids.take (c + 1) = ids.take c ++ [ids[c]] := by rw [List.take_add_one, List.getElem?_eq_getElem hc]; rfl
                      have hz := hin _ (List.getElem_mem hc)
                      rw [tk]
                      generalize ids[c] = z at hz
                      have s1417 := s16.trans s17
                      have fin : ∀ u : Int, foundD hs.length os z = u → ∃ acc, H16 D = some (.lst acc) ∧ acc.length < sizeLine ∧ Same H15 (upd H16 D (.lst (acc ++ [.int u]))) ∧ (upd H16 D (.lst (acc ++ [.int u]))) D = some (.lst (((ids.take c ++ [z]).map (foundD hs.length os)).map V.int)) := by
                        intro u hu
                        refine ⟨_, e17, ?_, My.Same.mut s17 hD, ?_⟩
                        · rw [List.length_map, List.length_map, List.length_take, sizeLine_eq]
                          omega
                        · rw [upd_same, List.map_append, List.map_append, ← hu]
                          rfl
                      walk_at "rd"
                      refine ⟨hvs, .inl (SqL.of (s1417 _ _ hh14)), ?_⟩
                      rw [hhl]
                      refine ite2 (fun hlt => ?_) (fun hge => ?_)
                      · exact fin z (if_pos (of_decide_eq_true hlt))
                      · have hge : ¬ z < (hs.length : Int) := fun e => hge (decide_eq_true e)
                        have ho16 := s1417 _ _ q2
                        have hm2 : z - hs.length ∈ os := q3.mem.mpr ⟨by omega, by omega⟩
                        refine ⟨hvs, .inl (SqL.of (s1417 _ _ hh14)), tyL ho16, hvs, .inl (SqL.of (s1417 _ _ hh14)), ?_⟩
                        rw [hhl]
                        refine ⟨_, SqL.of ho16, rfl, flat_ints os, _, _, idx_first os hm2, by show (_ == _) = true; simp, idx_before os, ?_⟩
                        exact fin _ (if_neg hge)
                    · rintro H16 ⟨s17, e17⟩
                      rw [List.length_map, List.take_length] at e17
                      refine ⟨_, rfl, _, .inl ⟨SqL.of e17, fun z hz => ?_⟩⟩
                      have y1 := My.Same.new (H := H16) (o := .tup ((ids.map (foundD hs.length os)).map V.int)) hz
                      have e18 := y1 _ _ (s17 _ _ e16)
                      have kq := KeepT.upd (K := K) (o := .lst (us ++ [.ref z])) (.lst e18)
                      refine ⟨us, e18, ?_, _, rfl, My.Same.mut ((s16.trans s17).trans y1) hfo, us ++ [.ref z], upd_same, ?_⟩
                      · rw [r16.len, List.length_map, List.length_take, sizeLine_eq]
                        show min j 2 < _
                        omega
                      · rw [q4, List.map_append]
                        refine (((r16.same s17).same y1).keep kq).snoc ?_
                        exact Rp.tup (kq _ _ (SqT.of upd_same)) (RpL.map fun i _ => .int i)
                  · rintro σ H15 ⟨y12, rfl, s16, us, e16, r16⟩
                    obtain ⟨f1, us, rfl, k1, r16⟩ := (show RpL K H15 us [dataInts (ids.map (foundD hs.length os1)), dataInts (ids.map (foundD hs.length os2))] from r16).inv_cons
                    obtain ⟨f2, us, rfl, k2, r16⟩ := r16.inv_cons
                    cases r16.inv_nil
                    exact last8 H15 y12 f1 f2 s16 e16 k1 k2
                walk_at "rd"
                refine ⟨⟨_, SqL.of ba12.ao⟩, fun D hD => ?_⟩
                refine LcW.by (walk_list (xs := [o1, o2].map V.ref)) (fun i H13 => Same H12 H13 ∧ ∃ vs, H13 D = some (.lst vs) ∧ RpL K H13 vs (([os1, os2].take i).map fun os => hpD (laidD hs rs os))) ⟨My.Same.new hD, [], upd_same, .nil⟩ (fun i H13 _ hh => SqL.of (hh.1 _ _ ba12.ao)) ?_ ?_
                · rintro i x H14 H13 hi ⟨s13, vs, e13, r13⟩ ⟨rfl, hx⟩
                  have hi2 : i < 2 := hi
                  obtain ⟨o, os, q1, q2, q3, q4⟩ : ∃ (o : Addr) (os : List Int), x = .ref o ∧ H12 o = some (.lst (os.map V.int)) ∧ Ord rs.length os ∧ [os1, os2].take (i + 1) = [os1, os2].take i ++ [os] := by
                    rcases (by omega : i = 0 ∨ i = 1) with rfl | rfl
                    · exact ⟨o1, os1, by cases hx; rfl, ba12.a1, od1, rfl⟩
                    · exact ⟨o2, os2, by cases hx; rfl, ba12.a2, od2, rfl⟩
                  subst q1
                  have ba13 := ba12.fr (.of s13)
                  walk_at "rd"
                  refine ⟨ha, ra, o, hs, rs, os, rfl, ba13.h, ba13.r, s13 _ _ q2, q3, by omega, by omega, fun r hr => Nat.le_trans (rf.row r hr).1 (by decide), fun r hr q hq hc i hi => ((rf.row r hr).2 q hq).2.2 hc i hi, fun H15 v s15 hv => ?_⟩
                  have e15 := s15 _ _ e13
                  refine ⟨vs, e15, ?_, My.Same.mut (s13.trans s15) hD, vs ++ [v], upd_same, ?_⟩
                  · rw [r13.len, List.length_map, List.length_take, sizeLine_eq]
                    show min i 2 < _
                    omega
                  · rw [q4, List.map_append]
                    exact ((r13.same s15).keep (.upd (.lst e15))).snoc (hv.keep (.upd (.lst e15)))
                · rintro H13 ⟨s13, vs, e13, r13⟩
                  obtain ⟨v1, vs, rfl, k1, r13⟩ := (show RpL K H13 vs [hpD (laidD hs rs os1), hpD (laidD hs rs os2)] from r13).inv_cons
                  obtain ⟨v2, vs, rfl, k2, r13⟩ := r13.inv_cons
                  cases r13.inv_nil
                  exact last6 H13 D v1 v2 s13 e13 k1 k2
              obtain ⟨wk, na, ta, ca, cs, g1, g2, g3, g4, g5, g6, g7, g8⟩ := hw11.ex
              walk_at "rd"
              refine ⟨_, by rw [← g4]; exact DGet.k (k := Sum.inr "classes") g1, by show 2 ≤ sizeLine; decide, fun z1 hz1 => ⟨by show 1 ≤ sizeLine; decide, fun z2 hz2 p dx hp hdx ndp => ?_⟩⟩
              have y1 := My.Same.new (H := H11) (o := .tup [V.str "say", V.int 2]) hz1
              have y2 := y1.trans (My.Same.new (o := .tup [V.ref z1]) hz2)
              have y3 := y2.trans (My.Same.new (o := .own p) hdx)
              have hp3 : (upd (upd (upd H11 z1 (.tup [V.str "say", V.int 2])) z2 (.tup [V.ref z1])) dx (.own p)) p = none := by rw [upd_ne ndp.symm]; exact hp
              have y4 := y3.trans (My.Same.new (o := .ins T.C_Program dx []) hp3)
              have y24 := (My.Same.new (o := .own p) hdx).trans (My.Same.new (o := .ins T.C_Program dx []) hp3)
              have y14 := (My.Same.new (o := .tup [V.ref z1]) hz2).trans y24
              have p11 := none_of_same y3 hp3
              refine ⟨p, dx, ca, ua, z2, cs, us, [V.ref z1], crs, _, rfl, upd_same, (KeepT.of y4) _ _ g7, g8.same y4, (KeepT.of y4) _ _ hua, hus.same y4, SqT.of (y24 _ _ upd_same), ?_, ok.nd, by rw [ok.len]; decide, by rw [List.length_map]; omega, ok.fs, fun u hu => ?_, ok.par, ⟨#[], y4 _ _ tb11, trivial⟩, fun H12 fr12 tab12 hpg => ⟨rfl, ?_⟩⟩
              · exact .cons (Rp.tup (SqT.of (y14 _ _ upd_same)) (.cons (.str _) (.cons (.int 2) .nil))) .nil
              · obtain ⟨r, hr, rfl⟩ := List.mem_map.mp hu
                show (r.ps.map Prod.fst).length ≤ 100
                have := (hso r hr).2
                rw [List.length_map]
                omega
              · have frT : FrT H11 H12 := fun b o hb ho => fr12 b o (y4 _ _ hb) (ne_of_none hb p11) (fun e => by
                  rw [e, tb11] at hb
                  cases hb
                  exact ho _ rfl)
                rw [hold_same ok] at hpg
                exact last5 H12 p (ba11.frT frT) (hk11.frT frT) hpg
            obtain ⟨hvs, hh10, hhR⟩ := ba10.h
            have hhl : hvs.length = hs.length := by rw [hhR.len, List.length_map]
            walk_at "rd"
            refine ⟨⟨_, SqL.of hh10⟩, fun D hD => ?_⟩
            refine LcW.by (walk_list (xs := hvs)) (fun i H11 => Same H10 H11 ∧ ∃ us, H11 D = some (.lst us) ∧ RpL K H11 us (((hs.take i).map fun r => (r.c, r.ps.map Prod.fst)).map unD)) ⟨My.Same.new hD, [], upd_same, .nil⟩ (fun i H11 _ hh => SqL.of (hh.1 _ _ hh10)) ?_ ?_
            · rintro i x H12 H11 hi ⟨s11, us, e11, r11⟩ ⟨rfl, hx⟩
              have hi2 : i < hs.length := by omega
              obtain ⟨x', ex, rx⟩ := hhR.get (i := i) (d := hs[i].d) (by rw [List.getElem?_map, List.getElem?_eq_getElem hi2]; rfl)
              rw [hx] at ex
              cases ex
              have tk : hs.take (i + 1) = hs.take i ++ [hs[i]] := by rw [List.take_add_one, List.getElem?_eq_getElem hi2]; rfl
              have hps := (hso _ (List.getElem_mem hi2)).2
              rw [tk]
              generalize hs[i] = r at rx hps
              obtain ⟨xa, xs, rfl, hxT, hxL⟩ := (rx.same s11).inv
              obtain ⟨w1, xs, rfl, k1, hxL⟩ := hxL.inv_cons
              obtain ⟨w2, xs, rfl, k2, hxL⟩ := hxL.inv_cons
              obtain ⟨w3, xs, rfl, k3, hxL⟩ := hxL.inv_cons
              cases hxL.inv_nil
              cases k1.inv_str
              obtain ⟨pa, ps, rfl, hP, hQ⟩ := k3.inv
              have hpl : ps.length = r.ps.length := by rw [hQ.len, List.length_map]
              walk_at "rd"
              refine ⟨_, hxT, _, rfl, _, hxT, _, rfl, _, rfl, ⟨_, hP⟩, fun D1 hD1 => ?_⟩
              have nDD : D ≠ D1 := ne_of_none e11 hD1
              refine LcW.by walk_tup (fun j H13 => Same H11 H13 ∧ H13 D1 = some (.lst (((r.ps.take j).map Prod.fst).map V.str))) ⟨My.Same.new hD1, upd_same⟩ (fun j H13 _ hh => (KeepT.of hh.1) _ _ hP) ?_ ?_
              · rintro j x H14 H13 hj ⟨s13, e13⟩ ⟨rfl, hx⟩
                have hj2 : j < r.ps.length := by omega
                obtain ⟨x', ex, rx⟩ := (hQ.same s13).get (i := j) (d := prD r.ps[j]) (by rw [List.getElem?_map, List.getElem?_eq_getElem hj2]; rfl)
                rw [hx] at ex
                cases ex
                have tk2 : r.ps.take (j + 1) = r.ps.take j ++ [r.ps[j]] := by rw [List.take_add_one, List.getElem?_eq_getElem hj2]; rfl
                obtain ⟨qa, qs, rfl, hqT, hqL⟩ := (show Rp K H13 x (.tuple [.str r.ps[j].1, optI r.ps[j].2]) from rx).inv
                obtain ⟨w4, qs, rfl, k4, hqL⟩ := hqL.inv_cons
                cases k4.inv_str
                walk_at "rd"
                refine ⟨_, hqT, .str r.ps[j].1, atI_nat (j := 0) rfl, _, e13, ?_, My.Same.mut s13 hD1, ?_⟩
                · rw [List.length_map, List.length_map, List.length_take, sizeLine_eq]
                  omega
                · rw [upd_same, tk2, List.map_append, List.map_append]
                  rfl
              · rintro H13 ⟨s13, e13⟩
                rw [hpl, List.take_length] at e13
                refine ⟨_, rfl, _, .inl ⟨SqL.of e13, fun z1 hz1 => ⟨Nat.zero_le _, fun z2 hz2 => ⟨by show 3 ≤ sizeLine; decide, fun z3 hz3 => ?_⟩⟩⟩⟩
                have y1 := My.Same.new (H := H13) (o := .tup ((r.ps.map Prod.fst).map V.str)) hz1
                have y2 := My.Same.new (o := .tup []) hz2
                have y3 := My.Same.new (o := .tup [V.str r.c, V.ref z1, V.ref z2]) hz3
                have y123 := y1.trans (y2.trans y3)
                have e14 := y123 _ _ (s13 _ _ e11)
                have kq := KeepT.upd (K := K) (o := .lst (us ++ [.ref z3])) (.lst e14)
                refine ⟨us, e14, ?_, My.Same.mut ((s11.trans s13).trans y123) hD, us ++ [.ref z3], upd_same, ?_⟩
                · rw [r11.len, List.length_map, List.length_map, List.length_take, sizeLine_eq]
                  omega
                · rw [List.map_append, List.map_append]
                  refine (((r11.same s13).same y123).keep kq).snoc ?_
                  refine Rp.tup (kq _ _ (SqT.of upd_same)) (.cons (.str _) (.cons ?_ (.cons (Rp.tup (kq _ _ (SqT.of (y3 _ _ upd_same))) .nil) .nil)))
                  exact Rp.tup (kq _ _ (SqT.of ((y2.trans y3) _ _ upd_same))) (RpL.map fun x _ => .str x)
            · rintro H11 ⟨s11, us, e11, r11⟩
              rw [hhl, List.take_length] at r11
              refine ⟨_, rfl, _, .inl ⟨SqL.of e11, fun l hl => ?_⟩⟩
              exact last4 _ l us (s11.trans (My.Same.new hl)) (SqT.of upd_same) (r11.same (My.Same.new hl))
          walk_at "f"
          refine ⟨by decide, by decide, ?_⟩
          refine ForW.rng (fun i σ H10 => ∃ y8 y9, σ = [some (.ref a), some (.ref f), some (.ref wd), some (.ref ha), some (.int (rs.length : Nat)), some (.ref ra), some (.ref oo), some (.ref ka), y8, y9, none, none, none, none, none, none, none, none, none, none, none, none] ∧ Fr false H9 H10 ∧ FeedAt H10 f l (42000 + 6 * i) ∧
              ∃ (as : List Addr) (idss : List (List Int)), H10 ka = some (.lst (as.map V.ref)) ∧ All2 (fun a ids => H10 a = some (.lst (ids.map V.int))) as idss ∧ as.length = i ∧ ∀ ids ∈ idss, (∀ i ∈ ids, 0 ≤ i ∧ i < hs.length + rs.length) ∧ ids.length ≤ 4)
            ⟨_, _, rfl, .of (My.Same.new hka), hf9.upd hka, [], [], upd_same, .nil, rfl, fun _ h => nomatch h⟩ ?_ (fun σ H10 hh => last3 σ H10 (by obtain ⟨y8, y9, h1, h2, h3, as, idss, h4, h5, h6, h7⟩ := hh; exact ⟨y8, y9, h1, h2, idss, ⟨as, h4, h5⟩, h7⟩))
          rintro i σ H10 hi ⟨y8, y9, rfl, fr10, hf10, as, idss, e10, hA10, hal, hids⟩
          have hi : i < 3 := hi
          obtain ⟨hvs, hh10, hhR⟩ := (ba9.fr fr10).h
          have hhl : hvs.length = hs.length := by rw [hhR.len, List.length_map]
          walk_at "g"
          walk_at "s"
          refine ⟨hvs, .inl (SqL.of hh10), ?_⟩
          rw [hhl]
          walk_at "l"
          refine ⟨tyL e10, f, l, 5, _, rfl, hf10, by omega, by decide, fun d H11 d0 d1 kp11 hf11 => ⟨d, rfl, ?_⟩⟩
          generalize hmn : (if d < (hs.length : Int) + rs.length then d else (hs.length : Int) + rs.length) = mn
          have mn4 : mn ≤ 4 ∧ mn ≤ hs.length + rs.length ∧ 0 ≤ mn := by
            rw [← hmn]
            split <;> omega
          refine ⟨by omega, by omega, fun D hD => ?_⟩
          have fr11 : Fr false H10 H11 := Fr.kp hf10 kp11
          have nDf := hf11.ne hD
          have nDl := hf11.nl hD
          have e11 := kp11 _ _ e10 nkf
          have nDk : D ≠ ka := (ne_of_none e11 hD).symm
          refine LcW.rng (fun c H12 => Fr false H11 H12 ∧ FeedAt H12 f l (42000 + 6 * i + 1 + c) ∧ ∃ ids : List Int, H12 D = some (.lst (ids.map V.int)) ∧ ids.length = c ∧ ∀ i ∈ ids, 0 ≤ i ∧ i < hs.length + rs.length) ⟨.of (My.Same.new hD), hf11.upd hD, [], upd_same, rfl, fun _ h => nomatch h⟩ ?_ ?_
          · rintro c H12 hc ⟨fr12, hf12, ids, e12, hcl, hin⟩
            walk_at "rd"
            refine ⟨f, l, _, _, rfl, hf12, by omega, by omega, fun x H13 x0 x1 kp13 hf13 => ?_⟩
            refine ⟨_, kp13 _ _ e12 nDf, by rw [List.length_map, sizeLine_eq]; omega, (fr12.trans (Fr.kp hf12 kp13)).mut hD, (hf13.oth nDf nDl), ids ++ [x], by rw [upd_same, List.map_append]; rfl, by rw [List.length_append, hcl]; rfl, fun y hy => ?_⟩
            rcases List.mem_append.mp hy with hy | hy
            · exact hin y hy
            · rw [List.mem_singleton.mp hy]
              exact ⟨x0, x1⟩
          · rintro H12 ⟨fr12, hf12, ids, e12, hcl, hin⟩
            have fr1012 := fr11.trans fr12
            have k12 := fr1012 _ _ e10 (nl_refs _)
            refine ⟨_, k12, by rw [List.length_map, sizeLine_eq]; omega, _, _, rfl, (fr10.trans fr1012).mut hka, (hf12.oth nkf nkl).mono (by omega), as ++ [D], idss ++ [ids], by rw [upd_same, List.map_append]; rfl, ?_, by rw [List.length_append, hal]; rfl, fun z hz => ?_⟩
            · refine (hA10.impM fun b zs mb hb => ?_).snoc ?_
              · have hb12 := fr1012 _ _ hb (nl_ints _)
                rw [upd_ne]
                · exact hb12
                · intro e
                  rw [e, k12] at hb12
                  cases as with
                  | nil => cases mb
                  | cons y ys =>
                    cases zs with
                    | nil => injection hb12 with hb12; injection hb12 with hb12; cases hb12
                    | cons z zs => injection hb12 with hb12; injection hb12 with hb12; injection hb12 with hb12 _; cases hb12
              · rw [upd_ne nDk]
                exact e12
            · rcases List.mem_append.mp hz with hz | hz
              · exact hids z hz
              · rw [List.mem_singleton.mp hz]
                exact ⟨hin, by omega⟩
        walk_at "i"
        refine ⟨f, l, 2, _, rfl, hf5, by omega, by decide, fun x H6 _ _ kp6 hf6 => ⟨rfl, ?_⟩⟩
        have fr6 : Fr false H5 H6 := Fr.kp hf5 kp6
        refine ite2 (fun _ => ?_) (fun _ => ?_)
        · walk_at "l"
          refine ⟨f, l, ra, _, m, cs, rfl, hf6, by omega, hR5.keep (.fr fr6), hcl, hm, fun c hc => ?_, fun H7 fr7 hR7 hf7 => ?_⟩
          · obtain ⟨fs, e1, e2⟩ := hcs c hc
            have e3 := ok.ev c.1
            rw [e1] at e3
            cases h : (rowF crs c.1).isSome with
            | true =>
              rw [h] at e3
              rw [e2, List.length_map, Option.some.inj e3]
              exact (ok.fd _ h).2
            | false =>
              rw [h] at e3
              cases e3
          · exact last2 H7 ((hw5.fr fr6).fr fr7) ((hh5.fr (hrs_tup hs) fr6).fr (hrs_tup hs) fr7) hR7 (fr7 _ _ (fr6 _ _ tb5 nl_tbl) nl_tbl) (hf7.mono (by omega))
        · exact last2 H6 (hw5.fr fr6) (hh5.fr (hrs_tup hs) fr6) (hR5.keep (.fr fr6)) (fr6 _ _ tb5 nl_tbl) (hf6.mono (by omega))
    walk_at "l"
    refine ⟨f, l, 6, _, rfl, hf3, by omega, by decide, fun x6 H4 _ _ kp4 hf4 => ⟨rfl, ?_⟩⟩
    refine ite2 (fun _ => ?_) (fun _ => ?_)
    · refine ⟨f, l, 3, _, rfl, hf4, by omega, by decide, fun x H5 x0 x1 kp5 hf5 => ?_⟩
      obtain ⟨m, rfl⟩ : ∃ m : Nat, x = (m : Int) := ⟨x.toNat, by omega⟩
      exact last1 m H5 (by omega) (kp4.trans kp5) (hf5.mono (by omega))
    · refine ⟨f, l, 28, _, rfl, hf4, by omega, by decide, fun x H5 x0 x1 kp5 hf5 => ⟨_, rfl, ?_⟩⟩
      obtain ⟨m, hm⟩ : ∃ m : Nat, 3 + x = (m : Int) := ⟨(3 + x).toNat, by omega⟩
      rw [hm]
      exact last1 m H5 (by omega) (kp4.trans kp5) (hf5.mono (by omega))

end
theorem all_mk {l : PySem.W.OpenLaw} {w : World} {K : PySem.W.Frag} {q : Program} {lo : List Str} {mean : PySem.ExcName → Option Value} {mb : Str → Option Value} {h : Heap} {mg : Str → Option Value} {fa : Addr} {C_Program a_wall a_holds_object a_held_rows a_search_order a_reached_rows a_deep a_picture a_blocks_in a_places a_uses_flags a_Program_init a_Program_inherit a_Program_parent a_Program_lineage a_Program_below a_Program_heirs a_Program_fields a_Program_field a_Program_zeros a_Program_find a_Program_body a_Program_bodies a_Program_roots a_law_feed a_law_draw a_law_pick a_law_same a_law_world a_law_homes a_law_rows a_law_spoil a_law_laid a_law_shuffled a_law_held a_law_search a_law_deep a_law_picture a_law_asked a_law : Addr} (Tp : PyProof.Rows.Top q lo mean mg mb h) (X : K.In h) (G : h.Ns mainGlobals mg) (hfa : mg "law" = some (.ref fa))
    {c_uses_flags P_uses_flags : Addr} {dr_uses_flags : DefRec} {occ_uses_flags : Value} {odc_uses_flags : Option Addr} {vsc_uses_flags : Array Value} {slc_uses_flags : Array (Option Value)} (hr_uses_flags : (PyProof.Rows.recsOf q).find? (fun e => e.name == ("uses_flags" : Str)) = some dr_uses_flags) 
    (aC_Program : PySem.W.nsIn K mainGlobals "Program" = some (some (.ref C_Program)))
    (pg_Program : PySem.W.plainGet K C_Program Str.empty = true)
    (hd_Program : PySem.W.hasDictIn K C_Program = true)
    (po_Program : PySem.W.plainOver K C_Program = true)
    (sa_Program : PySem.W.findIn K (.ref C_Program) "__setattr__" = some (some (.builtin "object.__setattr__")))
    (mk_Program : PySem.W.makesIn K C_Program = true)
    (kc_Program : PySem.W.keepIn K (.ref C_Program) = true)
    (n_Program_classes : PySem.W.findIn K (.ref C_Program) "classes" = some none)
    (n_Program_units : PySem.W.findIn K (.ref C_Program) "units" = some none)
    (n_Program_main : PySem.W.findIn K (.ref C_Program) "main" = some none)
    (n_Program_class_rows : PySem.W.findIn K (.ref C_Program) "class_rows" = some none)
    (n_Program_unit_rows : PySem.W.findIn K (.ref C_Program) "unit_rows" = some none)
    (n_Program_field_lists : PySem.W.findIn K (.ref C_Program) "field_lists" = some none)
    (n_Program_field_kinds : PySem.W.findIn K (.ref C_Program) "field_kinds" = some none)
    (n_Program_owners : PySem.W.findIn K (.ref C_Program) "owners" = some none)
    (n_Program_body_rows : PySem.W.findIn K (.ref C_Program) "body_rows" = some none)
    (n_Program_flagged : PySem.W.findIn K (.ref C_Program) "flagged" = some none)
    {od_wall an_wall : Option Addr} {sl_wall : Array (Option Value)} {oc_wall kV_wall dc_wall pm_wall cd_wall ct_wall : Value}
    (a1_wall : PySem.W.nsIn K mainGlobals "_wall" = some (some (.ref a_wall)))
    (l1_wall : K.lookup a_wall = some ⟨oc_wall, od_wall, .func (PySem.W.fnOf "_wall" "_wall" (defArgs s_wall) (defBody s_wall) (defScope s_wall) .none kV_wall dc_wall pm_wall an_wall cd_wall ct_wall), sl_wall⟩)
    (c1_wall : PySem.W.codeIn K cd_wall "_wall" = true) (k1_wall : PySem.W.keepIn K (.ref a_wall) = true)
    {od_holds_object an_holds_object : Option Addr} {sl_holds_object : Array (Option Value)} {oc_holds_object kV_holds_object dc_holds_object pm_holds_object cd_holds_object ct_holds_object : Value}
    (a1_holds_object : PySem.W.nsIn K mainGlobals "holds_object" = some (some (.ref a_holds_object)))
    (l1_holds_object : K.lookup a_holds_object = some ⟨oc_holds_object, od_holds_object, .func (PySem.W.fnOf "holds_object" "holds_object" (defArgs s_holds_object) (defBody s_holds_object) (defScope s_holds_object) .none kV_holds_object dc_holds_object pm_holds_object an_holds_object cd_holds_object ct_holds_object), sl_holds_object⟩)
    (c1_holds_object : PySem.W.codeIn K cd_holds_object "holds_object" = true) (k1_holds_object : PySem.W.keepIn K (.ref a_holds_object) = true)
    {od_held_rows an_held_rows : Option Addr} {sl_held_rows : Array (Option Value)} {oc_held_rows kV_held_rows dc_held_rows pm_held_rows cd_held_rows ct_held_rows : Value}
    (a1_held_rows : PySem.W.nsIn K mainGlobals "held_rows" = some (some (.ref a_held_rows)))
    (l1_held_rows : K.lookup a_held_rows = some ⟨oc_held_rows, od_held_rows, .func (PySem.W.fnOf "held_rows" "held_rows" (defArgs s_held_rows) (defBody s_held_rows) (defScope s_held_rows) .none kV_held_rows dc_held_rows pm_held_rows an_held_rows cd_held_rows ct_held_rows), sl_held_rows⟩)
    (c1_held_rows : PySem.W.codeIn K cd_held_rows "held_rows" = true) (k1_held_rows : PySem.W.keepIn K (.ref a_held_rows) = true)
    {od_search_order an_search_order : Option Addr} {sl_search_order : Array (Option Value)} {oc_search_order kV_search_order dc_search_order pm_search_order cd_search_order ct_search_order : Value}
    (a1_search_order : PySem.W.nsIn K mainGlobals "search_order" = some (some (.ref a_search_order)))
    (l1_search_order : K.lookup a_search_order = some ⟨oc_search_order, od_search_order, .func (PySem.W.fnOf "search_order" "search_order" (defArgs s_search_order) (defBody s_search_order) (defScope s_search_order) .none kV_search_order dc_search_order pm_search_order an_search_order cd_search_order ct_search_order), sl_search_order⟩)
    (c1_search_order : PySem.W.codeIn K cd_search_order "search_order" = true) (k1_search_order : PySem.W.keepIn K (.ref a_search_order) = true)
    {od_reached_rows an_reached_rows : Option Addr} {sl_reached_rows : Array (Option Value)} {oc_reached_rows kV_reached_rows dc_reached_rows pm_reached_rows cd_reached_rows ct_reached_rows : Value}
    (a1_reached_rows : PySem.W.nsIn K mainGlobals "reached_rows" = some (some (.ref a_reached_rows)))
    (l1_reached_rows : K.lookup a_reached_rows = some ⟨oc_reached_rows, od_reached_rows, .func (PySem.W.fnOf "reached_rows" "reached_rows" (defArgs s_reached_rows) (defBody s_reached_rows) (defScope s_reached_rows) .none kV_reached_rows dc_reached_rows pm_reached_rows an_reached_rows cd_reached_rows ct_reached_rows), sl_reached_rows⟩)
    (c1_reached_rows : PySem.W.codeIn K cd_reached_rows "reached_rows" = true) (k1_reached_rows : PySem.W.keepIn K (.ref a_reached_rows) = true)
    {od_deep an_deep : Option Addr} {sl_deep : Array (Option Value)} {oc_deep kV_deep dc_deep pm_deep cd_deep ct_deep : Value}
    (a1_deep : PySem.W.nsIn K mainGlobals "deep" = some (some (.ref a_deep)))
    (l1_deep : K.lookup a_deep = some ⟨oc_deep, od_deep, .func (PySem.W.fnOf "deep" "deep" (defArgs s_deep) (defBody s_deep) (defScope s_deep) .none kV_deep dc_deep pm_deep an_deep cd_deep ct_deep), sl_deep⟩)
    (c1_deep : PySem.W.codeIn K cd_deep "deep" = true) (k1_deep : PySem.W.keepIn K (.ref a_deep) = true)
    {od_picture an_picture : Option Addr} {sl_picture : Array (Option Value)} {oc_picture kV_picture dc_picture pm_picture cd_picture ct_picture : Value}
    (a1_picture : PySem.W.nsIn K mainGlobals "picture" = some (some (.ref a_picture)))
    (l1_picture : K.lookup a_picture = some ⟨oc_picture, od_picture, .func (PySem.W.fnOf "picture" "picture" (defArgs s_picture) (defBody s_picture) (defScope s_picture) .none kV_picture dc_picture pm_picture an_picture cd_picture ct_picture), sl_picture⟩)
    (c1_picture : PySem.W.codeIn K cd_picture "picture" = true) (k1_picture : PySem.W.keepIn K (.ref a_picture) = true)
    {od_blocks_in an_blocks_in : Option Addr} {sl_blocks_in : Array (Option Value)} {oc_blocks_in kV_blocks_in dc_blocks_in pm_blocks_in cd_blocks_in ct_blocks_in : Value}
    (a1_blocks_in : PySem.W.nsIn K mainGlobals "blocks_in" = some (some (.ref a_blocks_in)))
    (l1_blocks_in : K.lookup a_blocks_in = some ⟨oc_blocks_in, od_blocks_in, .func (PySem.W.fnOf "blocks_in" "blocks_in" (defArgs s_blocks_in) (defBody s_blocks_in) (defScope s_blocks_in) .none kV_blocks_in dc_blocks_in pm_blocks_in an_blocks_in cd_blocks_in ct_blocks_in), sl_blocks_in⟩)
    (c1_blocks_in : PySem.W.codeIn K cd_blocks_in "blocks_in" = true) (k1_blocks_in : PySem.W.keepIn K (.ref a_blocks_in) = true)
    {od_places an_places : Option Addr} {sl_places : Array (Option Value)} {oc_places kV_places dc_places pm_places cd_places ct_places : Value}
    (a1_places : PySem.W.nsIn K mainGlobals "places" = some (some (.ref a_places)))
    {T_places : Addr} {ocT_places : Value} {odT_places : Option Addr} {nT_places : Nat} {slT_places : Array (Option Value)}
    {e0_places : Addr} {odE0_places : Option Addr} {nE0_places : Nat} {slE0_places : Array (Option Value)}
    (l1_places : K.lookup a_places = some ⟨oc_places, od_places, .func (PySem.W.fnOf "places" "places" (defArgs s_places) (defBody s_places) (defScope s_places) (.ref T_places) kV_places dc_places pm_places an_places cd_places ct_places), sl_places⟩)
    (c1_places : PySem.W.codeIn K cd_places "places" = true) (k1_places : PySem.W.keepIn K (.ref a_places) = true)
    (t1_places : K.lookup T_places = some ⟨ocT_places, odT_places, .seq #[.ref e0_places] nT_places, slT_places⟩)
    (e10_places : K.lookup e0_places = some ⟨.type "tuple", odE0_places, .seq #[] nE0_places, slE0_places⟩)
    {od_uses_flags an_uses_flags : Option Addr} {sl_uses_flags : Array (Option Value)} {oc_uses_flags kV_uses_flags dc_uses_flags pm_uses_flags ct_uses_flags : Value}
    (a1_uses_flags : PySem.W.nsIn K mainGlobals "uses_flags" = some (some (.ref a_uses_flags)))
    (l1_uses_flags : K.lookup a_uses_flags = some ⟨oc_uses_flags, od_uses_flags, .func (PySem.W.fnOf "uses_flags" "uses_flags" (defArgs s_uses_flags) (defBody s_uses_flags) (defScope s_uses_flags) .none kV_uses_flags dc_uses_flags pm_uses_flags an_uses_flags (.ref c_uses_flags) ct_uses_flags), sl_uses_flags⟩)
    (c1_uses_flags : PySem.W.codeIn K (.ref c_uses_flags) "uses_flags" = true) (k1_uses_flags : PySem.W.keepIn K (.ref a_uses_flags) = true)
    (lc_uses_flags : K.lookup c_uses_flags = some ⟨occ_uses_flags, odc_uses_flags, .fields vsc_uses_flags, slc_uses_flags⟩) (hp_uses_flags : (vsc_uses_flags[11]? : Option Value) = some (.ref P_uses_flags)) (nt_uses_flags : K.lookup P_uses_flags = none)
    {od_Program_init an_Program_init : Option Addr} {sl_Program_init : Array (Option Value)} {oc_Program_init kV_Program_init dc_Program_init pm_Program_init cd_Program_init ct_Program_init : Value}
    (a1_Program_init : PySem.W.findIn K (.ref C_Program) "__init__" = some (some (.ref a_Program_init)))
    (i1_Program_init : PySem.W.isFn K (.ref a_Program_init) = true)
    (l1_Program_init : K.lookup a_Program_init = some ⟨oc_Program_init, od_Program_init, .func (PySem.W.fnOf "__init__" "Program.__init__" (defArgs s_Program_init) (defBody s_Program_init) (defScope s_Program_init) .none kV_Program_init dc_Program_init pm_Program_init an_Program_init cd_Program_init ct_Program_init), sl_Program_init⟩)
    (c1_Program_init : PySem.W.codeIn K cd_Program_init "Program.__init__" = true) (k1_Program_init : PySem.W.keepIn K (.ref a_Program_init) = true)
    {od_Program_inherit an_Program_inherit : Option Addr} {sl_Program_inherit : Array (Option Value)} {oc_Program_inherit kV_Program_inherit dc_Program_inherit pm_Program_inherit cd_Program_inherit ct_Program_inherit : Value}
    (a1_Program_inherit : PySem.W.findIn K (.ref C_Program) "inherit" = some (some (.ref a_Program_inherit)))
    (i1_Program_inherit : PySem.W.isFn K (.ref a_Program_inherit) = true)
    (l1_Program_inherit : K.lookup a_Program_inherit = some ⟨oc_Program_inherit, od_Program_inherit, .func (PySem.W.fnOf "inherit" "Program.inherit" (defArgs s_Program_inherit) (defBody s_Program_inherit) (defScope s_Program_inherit) .none kV_Program_inherit dc_Program_inherit pm_Program_inherit an_Program_inherit cd_Program_inherit ct_Program_inherit), sl_Program_inherit⟩)
    (c1_Program_inherit : PySem.W.codeIn K cd_Program_inherit "Program.inherit" = true) (k1_Program_inherit : PySem.W.keepIn K (.ref a_Program_inherit) = true)
    {od_Program_parent an_Program_parent : Option Addr} {sl_Program_parent : Array (Option Value)} {oc_Program_parent kV_Program_parent dc_Program_parent pm_Program_parent cd_Program_parent ct_Program_parent : Value}
    (a1_Program_parent : PySem.W.findIn K (.ref C_Program) "parent" = some (some (.ref a_Program_parent)))
    (i1_Program_parent : PySem.W.isFn K (.ref a_Program_parent) = true)
    (l1_Program_parent : K.lookup a_Program_parent = some ⟨oc_Program_parent, od_Program_parent, .func (PySem.W.fnOf "parent" "Program.parent" (defArgs s_Program_parent) (defBody s_Program_parent) (defScope s_Program_parent) .none kV_Program_parent dc_Program_parent pm_Program_parent an_Program_parent cd_Program_parent ct_Program_parent), sl_Program_parent⟩)
    (c1_Program_parent : PySem.W.codeIn K cd_Program_parent "Program.parent" = true) (k1_Program_parent : PySem.W.keepIn K (.ref a_Program_parent) = true)
    {od_Program_lineage an_Program_lineage : Option Addr} {sl_Program_lineage : Array (Option Value)} {oc_Program_lineage kV_Program_lineage dc_Program_lineage pm_Program_lineage cd_Program_lineage ct_Program_lineage : Value}
    (a1_Program_lineage : PySem.W.findIn K (.ref C_Program) "lineage" = some (some (.ref a_Program_lineage)))
    (i1_Program_lineage : PySem.W.isFn K (.ref a_Program_lineage) = true)
    (l1_Program_lineage : K.lookup a_Program_lineage = some ⟨oc_Program_lineage, od_Program_lineage, .func (PySem.W.fnOf "lineage" "Program.lineage" (defArgs s_Program_lineage) (defBody s_Program_lineage) (defScope s_Program_lineage) .none kV_Program_lineage dc_Program_lineage pm_Program_lineage an_Program_lineage cd_Program_lineage ct_Program_lineage), sl_Program_lineage⟩)
    (c1_Program_lineage : PySem.W.codeIn K cd_Program_lineage "Program.lineage" = true) (k1_Program_lineage : PySem.W.keepIn K (.ref a_Program_lineage) = true)
    {od_Program_below an_Program_below : Option Addr} {sl_Program_below : Array (Option Value)} {oc_Program_below kV_Program_below dc_Program_below pm_Program_below cd_Program_below ct_Program_below : Value}
    (a1_Program_below : PySem.W.findIn K (.ref C_Program) "below" = some (some (.ref a_Program_below)))
    (i1_Program_below : PySem.W.isFn K (.ref a_Program_below) = true)
    (l1_Program_below : K.lookup a_Program_below = some ⟨oc_Program_below, od_Program_below, .func (PySem.W.fnOf "below" "Program.below" (defArgs s_Program_below) (defBody s_Program_below) (defScope s_Program_below) .none kV_Program_below dc_Program_below pm_Program_below an_Program_below cd_Program_below ct_Program_below), sl_Program_below⟩)
    (c1_Program_below : PySem.W.codeIn K cd_Program_below "Program.below" = true) (k1_Program_below : PySem.W.keepIn K (.ref a_Program_below) = true)
    {od_Program_heirs an_Program_heirs : Option Addr} {sl_Program_heirs : Array (Option Value)} {oc_Program_heirs kV_Program_heirs dc_Program_heirs pm_Program_heirs cd_Program_heirs ct_Program_heirs : Value}
    (a1_Program_heirs : PySem.W.findIn K (.ref C_Program) "heirs" = some (some (.ref a_Program_heirs)))
    (i1_Program_heirs : PySem.W.isFn K (.ref a_Program_heirs) = true)
    (l1_Program_heirs : K.lookup a_Program_heirs = some ⟨oc_Program_heirs, od_Program_heirs, .func (PySem.W.fnOf "heirs" "Program.heirs" (defArgs s_Program_heirs) (defBody s_Program_heirs) (defScope s_Program_heirs) .none kV_Program_heirs dc_Program_heirs pm_Program_heirs an_Program_heirs cd_Program_heirs ct_Program_heirs), sl_Program_heirs⟩)
    (c1_Program_heirs : PySem.W.codeIn K cd_Program_heirs "Program.heirs" = true) (k1_Program_heirs : PySem.W.keepIn K (.ref a_Program_heirs) = true)
    {od_Program_fields an_Program_fields : Option Addr} {sl_Program_fields : Array (Option Value)} {oc_Program_fields kV_Program_fields dc_Program_fields pm_Program_fields cd_Program_fields ct_Program_fields : Value}
    (a1_Program_fields : PySem.W.findIn K (.ref C_Program) "fields" = some (some (.ref a_Program_fields)))
    (i1_Program_fields : PySem.W.isFn K (.ref a_Program_fields) = true)
    (l1_Program_fields : K.lookup a_Program_fields = some ⟨oc_Program_fields, od_Program_fields, .func (PySem.W.fnOf "fields" "Program.fields" (defArgs s_Program_fields) (defBody s_Program_fields) (defScope s_Program_fields) .none kV_Program_fields dc_Program_fields pm_Program_fields an_Program_fields cd_Program_fields ct_Program_fields), sl_Program_fields⟩)
    (c1_Program_fields : PySem.W.codeIn K cd_Program_fields "Program.fields" = true) (k1_Program_fields : PySem.W.keepIn K (.ref a_Program_fields) = true)
    {od_Program_field an_Program_field : Option Addr} {sl_Program_field : Array (Option Value)} {oc_Program_field kV_Program_field dc_Program_field pm_Program_field cd_Program_field ct_Program_field : Value}
    (a1_Program_field : PySem.W.findIn K (.ref C_Program) "field" = some (some (.ref a_Program_field)))
    (i1_Program_field : PySem.W.isFn K (.ref a_Program_field) = true)
    (l1_Program_field : K.lookup a_Program_field = some ⟨oc_Program_field, od_Program_field, .func (PySem.W.fnOf "field" "Program.field" (defArgs s_Program_field) (defBody s_Program_field) (defScope s_Program_field) .none kV_Program_field dc_Program_field pm_Program_field an_Program_field cd_Program_field ct_Program_field), sl_Program_field⟩)
    (c1_Program_field : PySem.W.codeIn K cd_Program_field "Program.field" = true) (k1_Program_field : PySem.W.keepIn K (.ref a_Program_field) = true)
    {od_Program_zeros an_Program_zeros : Option Addr} {sl_Program_zeros : Array (Option Value)} {oc_Program_zeros kV_Program_zeros dc_Program_zeros pm_Program_zeros cd_Program_zeros ct_Program_zeros : Value}
    (a1_Program_zeros : PySem.W.findIn K (.ref C_Program) "zeros" = some (some (.ref a_Program_zeros)))
    (i1_Program_zeros : PySem.W.isFn K (.ref a_Program_zeros) = true)
    (l1_Program_zeros : K.lookup a_Program_zeros = some ⟨oc_Program_zeros, od_Program_zeros, .func (PySem.W.fnOf "zeros" "Program.zeros" (defArgs s_Program_zeros) (defBody s_Program_zeros) (defScope s_Program_zeros) .none kV_Program_zeros dc_Program_zeros pm_Program_zeros an_Program_zeros cd_Program_zeros ct_Program_zeros), sl_Program_zeros⟩)
    (c1_Program_zeros : PySem.W.codeIn K cd_Program_zeros "Program.zeros" = true) (k1_Program_zeros : PySem.W.keepIn K (.ref a_Program_zeros) = true)
    {od_Program_find an_Program_find : Option Addr} {sl_Program_find : Array (Option Value)} {oc_Program_find kV_Program_find dc_Program_find pm_Program_find cd_Program_find ct_Program_find : Value}
    (a1_Program_find : PySem.W.findIn K (.ref C_Program) "find" = some (some (.ref a_Program_find)))
    (i1_Program_find : PySem.W.isFn K (.ref a_Program_find) = true)
    (l1_Program_find : K.lookup a_Program_find = some ⟨oc_Program_find, od_Program_find, .func (PySem.W.fnOf "find" "Program.find" (defArgs s_Program_find) (defBody s_Program_find) (defScope s_Program_find) .none kV_Program_find dc_Program_find pm_Program_find an_Program_find cd_Program_find ct_Program_find), sl_Program_find⟩)
    (c1_Program_find : PySem.W.codeIn K cd_Program_find "Program.find" = true) (k1_Program_find : PySem.W.keepIn K (.ref a_Program_find) = true)
    {od_Program_body an_Program_body : Option Addr} {sl_Program_body : Array (Option Value)} {oc_Program_body kV_Program_body dc_Program_body pm_Program_body cd_Program_body ct_Program_body : Value}
    (a1_Program_body : PySem.W.findIn K (.ref C_Program) "body" = some (some (.ref a_Program_body)))
    (i1_Program_body : PySem.W.isFn K (.ref a_Program_body) = true)
    (l1_Program_body : K.lookup a_Program_body = some ⟨oc_Program_body, od_Program_body, .func (PySem.W.fnOf "body" "Program.body" (defArgs s_Program_body) (defBody s_Program_body) (defScope s_Program_body) .none kV_Program_body dc_Program_body pm_Program_body an_Program_body cd_Program_body ct_Program_body), sl_Program_body⟩)
    (c1_Program_body : PySem.W.codeIn K cd_Program_body "Program.body" = true) (k1_Program_body : PySem.W.keepIn K (.ref a_Program_body) = true)
    {od_Program_bodies an_Program_bodies : Option Addr} {sl_Program_bodies : Array (Option Value)} {oc_Program_bodies kV_Program_bodies dc_Program_bodies pm_Program_bodies cd_Program_bodies ct_Program_bodies : Value}
    (a1_Program_bodies : PySem.W.findIn K (.ref C_Program) "bodies" = some (some (.ref a_Program_bodies)))
    (i1_Program_bodies : PySem.W.isFn K (.ref a_Program_bodies) = true)
    (l1_Program_bodies : K.lookup a_Program_bodies = some ⟨oc_Program_bodies, od_Program_bodies, .func (PySem.W.fnOf "bodies" "Program.bodies" (defArgs s_Program_bodies) (defBody s_Program_bodies) (defScope s_Program_bodies) .none kV_Program_bodies dc_Program_bodies pm_Program_bodies an_Program_bodies cd_Program_bodies ct_Program_bodies), sl_Program_bodies⟩)
    (c1_Program_bodies : PySem.W.codeIn K cd_Program_bodies "Program.bodies" = true) (k1_Program_bodies : PySem.W.keepIn K (.ref a_Program_bodies) = true)
    {od_Program_roots an_Program_roots : Option Addr} {sl_Program_roots : Array (Option Value)} {oc_Program_roots kV_Program_roots dc_Program_roots pm_Program_roots cd_Program_roots ct_Program_roots : Value}
    (a1_Program_roots : PySem.W.findIn K (.ref C_Program) "roots" = some (some (.ref a_Program_roots)))
    (i1_Program_roots : PySem.W.isFn K (.ref a_Program_roots) = true)
    (l1_Program_roots : K.lookup a_Program_roots = some ⟨oc_Program_roots, od_Program_roots, .func (PySem.W.fnOf "roots" "Program.roots" (defArgs s_Program_roots) (defBody s_Program_roots) (defScope s_Program_roots) .none kV_Program_roots dc_Program_roots pm_Program_roots an_Program_roots cd_Program_roots ct_Program_roots), sl_Program_roots⟩)
    (c1_Program_roots : PySem.W.codeIn K cd_Program_roots "Program.roots" = true) (k1_Program_roots : PySem.W.keepIn K (.ref a_Program_roots) = true)
    {od_law_feed an_law_feed : Option Addr} {sl_law_feed : Array (Option Value)} {oc_law_feed kV_law_feed dc_law_feed pm_law_feed cd_law_feed ct_law_feed : Value}
    (a1_law_feed : PySem.W.nsIn K mainGlobals "_law_feed" = some (some (.ref a_law_feed)))
    (l1_law_feed : K.lookup a_law_feed = some ⟨oc_law_feed, od_law_feed, .func (PySem.W.fnOf "_law_feed" "_law_feed" (defArgs s_law_feed) (defBody s_law_feed) (defScope s_law_feed) .none kV_law_feed dc_law_feed pm_law_feed an_law_feed cd_law_feed ct_law_feed), sl_law_feed⟩)
    (c1_law_feed : PySem.W.codeIn K cd_law_feed "_law_feed" = true) (k1_law_feed : PySem.W.keepIn K (.ref a_law_feed) = true)
    {od_law_draw an_law_draw : Option Addr} {sl_law_draw : Array (Option Value)} {oc_law_draw kV_law_draw dc_law_draw pm_law_draw cd_law_draw ct_law_draw : Value}
    (a1_law_draw : PySem.W.nsIn K mainGlobals "_law_draw" = some (some (.ref a_law_draw)))
    (l1_law_draw : K.lookup a_law_draw = some ⟨oc_law_draw, od_law_draw, .func (PySem.W.fnOf "_law_draw" "_law_draw" (defArgs s_law_draw) (defBody s_law_draw) (defScope s_law_draw) .none kV_law_draw dc_law_draw pm_law_draw an_law_draw cd_law_draw ct_law_draw), sl_law_draw⟩)
    (c1_law_draw : PySem.W.codeIn K cd_law_draw "_law_draw" = true) (k1_law_draw : PySem.W.keepIn K (.ref a_law_draw) = true)
    {od_law_pick an_law_pick : Option Addr} {sl_law_pick : Array (Option Value)} {oc_law_pick kV_law_pick dc_law_pick pm_law_pick cd_law_pick ct_law_pick : Value}
    (a1_law_pick : PySem.W.nsIn K mainGlobals "_law_pick" = some (some (.ref a_law_pick)))
    (l1_law_pick : K.lookup a_law_pick = some ⟨oc_law_pick, od_law_pick, .func (PySem.W.fnOf "_law_pick" "_law_pick" (defArgs s_law_pick) (defBody s_law_pick) (defScope s_law_pick) .none kV_law_pick dc_law_pick pm_law_pick an_law_pick cd_law_pick ct_law_pick), sl_law_pick⟩)
    (c1_law_pick : PySem.W.codeIn K cd_law_pick "_law_pick" = true) (k1_law_pick : PySem.W.keepIn K (.ref a_law_pick) = true)
    {od_law_same an_law_same : Option Addr} {sl_law_same : Array (Option Value)} {oc_law_same kV_law_same dc_law_same pm_law_same cd_law_same ct_law_same : Value}
    (a1_law_same : PySem.W.nsIn K mainGlobals "_law_same" = some (some (.ref a_law_same)))
    (l1_law_same : K.lookup a_law_same = some ⟨oc_law_same, od_law_same, .func (PySem.W.fnOf "_law_same" "_law_same" (defArgs s_law_same) (defBody s_law_same) (defScope s_law_same) .none kV_law_same dc_law_same pm_law_same an_law_same cd_law_same ct_law_same), sl_law_same⟩)
    (c1_law_same : PySem.W.codeIn K cd_law_same "_law_same" = true) (k1_law_same : PySem.W.keepIn K (.ref a_law_same) = true)
    {od_law_world an_law_world : Option Addr} {sl_law_world : Array (Option Value)} {oc_law_world kV_law_world dc_law_world pm_law_world cd_law_world ct_law_world : Value}
    (a1_law_world : PySem.W.nsIn K mainGlobals "_law_world" = some (some (.ref a_law_world)))
    (l1_law_world : K.lookup a_law_world = some ⟨oc_law_world, od_law_world, .func (PySem.W.fnOf "_law_world" "_law_world" (defArgs s_law_world) (defBody s_law_world) (defScope s_law_world) .none kV_law_world dc_law_world pm_law_world an_law_world cd_law_world ct_law_world), sl_law_world⟩)
    (c1_law_world : PySem.W.codeIn K cd_law_world "_law_world" = true) (k1_law_world : PySem.W.keepIn K (.ref a_law_world) = true)
    {od_law_homes an_law_homes : Option Addr} {sl_law_homes : Array (Option Value)} {oc_law_homes kV_law_homes dc_law_homes pm_law_homes cd_law_homes ct_law_homes : Value}
    (a1_law_homes : PySem.W.nsIn K mainGlobals "_law_homes" = some (some (.ref a_law_homes)))
    (l1_law_homes : K.lookup a_law_homes = some ⟨oc_law_homes, od_law_homes, .func (PySem.W.fnOf "_law_homes" "_law_homes" (defArgs s_law_homes) (defBody s_law_homes) (defScope s_law_homes) .none kV_law_homes dc_law_homes pm_law_homes an_law_homes cd_law_homes ct_law_homes), sl_law_homes⟩)
    (c1_law_homes : PySem.W.codeIn K cd_law_homes "_law_homes" = true) (k1_law_homes : PySem.W.keepIn K (.ref a_law_homes) = true)
    {od_law_rows an_law_rows : Option Addr} {sl_law_rows : Array (Option Value)} {oc_law_rows kV_law_rows dc_law_rows pm_law_rows cd_law_rows ct_law_rows : Value}
    (a1_law_rows : PySem.W.nsIn K mainGlobals "_law_rows" = some (some (.ref a_law_rows)))
    (l1_law_rows : K.lookup a_law_rows = some ⟨oc_law_rows, od_law_rows, .func (PySem.W.fnOf "_law_rows" "_law_rows" (defArgs s_law_rows) (defBody s_law_rows) (defScope s_law_rows) .none kV_law_rows dc_law_rows pm_law_rows an_law_rows cd_law_rows ct_law_rows), sl_law_rows⟩)
    (c1_law_rows : PySem.W.codeIn K cd_law_rows "_law_rows" = true) (k1_law_rows : PySem.W.keepIn K (.ref a_law_rows) = true)
    {od_law_spoil an_law_spoil : Option Addr} {sl_law_spoil : Array (Option Value)} {oc_law_spoil kV_law_spoil dc_law_spoil pm_law_spoil cd_law_spoil ct_law_spoil : Value}
    (a1_law_spoil : PySem.W.nsIn K mainGlobals "_law_spoil" = some (some (.ref a_law_spoil)))
    (l1_law_spoil : K.lookup a_law_spoil = some ⟨oc_law_spoil, od_law_spoil, .func (PySem.W.fnOf "_law_spoil" "_law_spoil" (defArgs s_law_spoil) (defBody s_law_spoil) (defScope s_law_spoil) .none kV_law_spoil dc_law_spoil pm_law_spoil an_law_spoil cd_law_spoil ct_law_spoil), sl_law_spoil⟩)
    (c1_law_spoil : PySem.W.codeIn K cd_law_spoil "_law_spoil" = true) (k1_law_spoil : PySem.W.keepIn K (.ref a_law_spoil) = true)
    {od_law_laid an_law_laid : Option Addr} {sl_law_laid : Array (Option Value)} {oc_law_laid kV_law_laid dc_law_laid pm_law_laid cd_law_laid ct_law_laid : Value}
    (a1_law_laid : PySem.W.nsIn K mainGlobals "_law_laid" = some (some (.ref a_law_laid)))
    (l1_law_laid : K.lookup a_law_laid = some ⟨oc_law_laid, od_law_laid, .func (PySem.W.fnOf "_law_laid" "_law_laid" (defArgs s_law_laid) (defBody s_law_laid) (defScope s_law_laid) .none kV_law_laid dc_law_laid pm_law_laid an_law_laid cd_law_laid ct_law_laid), sl_law_laid⟩)
    (c1_law_laid : PySem.W.codeIn K cd_law_laid "_law_laid" = true) (k1_law_laid : PySem.W.keepIn K (.ref a_law_laid) = true)
    {od_law_shuffled an_law_shuffled : Option Addr} {sl_law_shuffled : Array (Option Value)} {oc_law_shuffled kV_law_shuffled dc_law_shuffled pm_law_shuffled cd_law_shuffled ct_law_shuffled : Value}
    (a1_law_shuffled : PySem.W.nsIn K mainGlobals "_law_shuffled" = some (some (.ref a_law_shuffled)))
    (l1_law_shuffled : K.lookup a_law_shuffled = some ⟨oc_law_shuffled, od_law_shuffled, .func (PySem.W.fnOf "_law_shuffled" "_law_shuffled" (defArgs s_law_shuffled) (defBody s_law_shuffled) (defScope s_law_shuffled) .none kV_law_shuffled dc_law_shuffled pm_law_shuffled an_law_shuffled cd_law_shuffled ct_law_shuffled), sl_law_shuffled⟩)
    (c1_law_shuffled : PySem.W.codeIn K cd_law_shuffled "_law_shuffled" = true) (k1_law_shuffled : PySem.W.keepIn K (.ref a_law_shuffled) = true)
    {od_law_held an_law_held : Option Addr} {sl_law_held : Array (Option Value)} {oc_law_held kV_law_held dc_law_held pm_law_held cd_law_held ct_law_held : Value}
    (a1_law_held : PySem.W.nsIn K mainGlobals "_law_held" = some (some (.ref a_law_held)))
    (l1_law_held : K.lookup a_law_held = some ⟨oc_law_held, od_law_held, .func (PySem.W.fnOf "_law_held" "_law_held" (defArgs s_law_held) (defBody s_law_held) (defScope s_law_held) .none kV_law_held dc_law_held pm_law_held an_law_held cd_law_held ct_law_held), sl_law_held⟩)
    (c1_law_held : PySem.W.codeIn K cd_law_held "_law_held" = true) (k1_law_held : PySem.W.keepIn K (.ref a_law_held) = true)
    {od_law_search an_law_search : Option Addr} {sl_law_search : Array (Option Value)} {oc_law_search kV_law_search dc_law_search pm_law_search cd_law_search ct_law_search : Value}
    (a1_law_search : PySem.W.nsIn K mainGlobals "_law_search" = some (some (.ref a_law_search)))
    (l1_law_search : K.lookup a_law_search = some ⟨oc_law_search, od_law_search, .func (PySem.W.fnOf "_law_search" "_law_search" (defArgs s_law_search) (defBody s_law_search) (defScope s_law_search) .none kV_law_search dc_law_search pm_law_search an_law_search cd_law_search ct_law_search), sl_law_search⟩)
    (c1_law_search : PySem.W.codeIn K cd_law_search "_law_search" = true) (k1_law_search : PySem.W.keepIn K (.ref a_law_search) = true)
    {od_law_deep an_law_deep : Option Addr} {sl_law_deep : Array (Option Value)} {oc_law_deep kV_law_deep dc_law_deep pm_law_deep cd_law_deep ct_law_deep : Value}
    (a1_law_deep : PySem.W.nsIn K mainGlobals "_law_deep" = some (some (.ref a_law_deep)))
    (l1_law_deep : K.lookup a_law_deep = some ⟨oc_law_deep, od_law_deep, .func (PySem.W.fnOf "_law_deep" "_law_deep" (defArgs s_law_deep) (defBody s_law_deep) (defScope s_law_deep) .none kV_law_deep dc_law_deep pm_law_deep an_law_deep cd_law_deep ct_law_deep), sl_law_deep⟩)
    (c1_law_deep : PySem.W.codeIn K cd_law_deep "_law_deep" = true) (k1_law_deep : PySem.W.keepIn K (.ref a_law_deep) = true)
    {od_law_picture an_law_picture : Option Addr} {sl_law_picture : Array (Option Value)} {oc_law_picture kV_law_picture dc_law_picture pm_law_picture cd_law_picture ct_law_picture : Value}
    (a1_law_picture : PySem.W.nsIn K mainGlobals "_law_picture" = some (some (.ref a_law_picture)))
    (l1_law_picture : K.lookup a_law_picture = some ⟨oc_law_picture, od_law_picture, .func (PySem.W.fnOf "_law_picture" "_law_picture" (defArgs s_law_picture) (defBody s_law_picture) (defScope s_law_picture) .none kV_law_picture dc_law_picture pm_law_picture an_law_picture cd_law_picture ct_law_picture), sl_law_picture⟩)
    (c1_law_picture : PySem.W.codeIn K cd_law_picture "_law_picture" = true) (k1_law_picture : PySem.W.keepIn K (.ref a_law_picture) = true)
    {od_law_asked an_law_asked : Option Addr} {sl_law_asked : Array (Option Value)} {oc_law_asked kV_law_asked dc_law_asked pm_law_asked cd_law_asked ct_law_asked : Value}
    (a1_law_asked : PySem.W.nsIn K mainGlobals "_law_asked" = some (some (.ref a_law_asked)))
    (l1_law_asked : K.lookup a_law_asked = some ⟨oc_law_asked, od_law_asked, .func (PySem.W.fnOf "_law_asked" "_law_asked" (defArgs s_law_asked) (defBody s_law_asked) (defScope s_law_asked) .none kV_law_asked dc_law_asked pm_law_asked an_law_asked cd_law_asked ct_law_asked), sl_law_asked⟩)
    (c1_law_asked : PySem.W.codeIn K cd_law_asked "_law_asked" = true) (k1_law_asked : PySem.W.keepIn K (.ref a_law_asked) = true)
    {od_law an_law : Option Addr} {sl_law : Array (Option Value)} {oc_law kV_law dc_law pm_law cd_law ct_law : Value}
    (a1_law : PySem.W.nsIn K mainGlobals "law" = some (some (.ref a_law)))
    (l1_law : K.lookup a_law = some ⟨oc_law, od_law, .func (PySem.W.fnOf "law" "law" (defArgs s_law) (defBody s_law) (defScope s_law) .none kV_law dc_law pm_law an_law cd_law ct_law), sl_law⟩)
    (c1_law : PySem.W.codeIn K cd_law "law" = true) (k1_law : PySem.W.keepIn K (.ref a_law) = true)
    (z_abs : PySem.W.nsIn K mainGlobals "abs" = some none)
    (z_any : PySem.W.nsIn K mainGlobals "any" = some none)
    (z_bool : PySem.W.nsIn K mainGlobals "bool" = some none)
    (z_enumerate : PySem.W.nsIn K mainGlobals "enumerate" = some none)
    (z_int : PySem.W.nsIn K mainGlobals "int" = some none)
    (z_isinstance : PySem.W.nsIn K mainGlobals "isinstance" = some none)
    (z_len : PySem.W.nsIn K mainGlobals "len" = some none)
    (z_list : PySem.W.nsIn K mainGlobals "list" = some none)
    (z_min : PySem.W.nsIn K mainGlobals "min" = some none)
    (z_of : PySem.W.nsIn K mainGlobals "of" = some none)
    (z_range : PySem.W.nsIn K mainGlobals "range" = some none)
    (z_sorted : PySem.W.nsIn K mainGlobals "sorted" = some none)
    (z_str : PySem.W.nsIn K mainGlobals "str" = some none)
    (z_tuple : PySem.W.nsIn K mainGlobals "tuple" = some none)
    : LamX.LawAtS l w K CX0 29 63 "script" mg fa h := by
  have e := hfa.symm.trans (PySem.W.mg_of X G a1_law)
  cases e
  have FD_places : FunD K "places" "places" (defArgs s_places) (defBody s_places) (defScope s_places) [.ref e0_places] [] a_places _ := ⟨⟨_, _, _, _, _, _, _, _, _, _, rfl, l1_places, c1_places, .inr ⟨(by simp), T_places, _, [.ref e0_places], _, rfl, t1_places, rfl, (.cons rfl .nil)⟩, .inl rfl⟩, k1_places⟩
  obtain ⟨ds0_places, vd0_places, bd0_places⟩ := FD_places.binds1 (ps := ["block", "above"]) 2 1 (by simp) rfl fun T kV doc pm an cdv ct us its h1 h2 => match us, its, h1, h2 with | [_, _], [_], _, _ => ⟨_, rfl, rfl⟩
  obtain ⟨ds1_places, vd1_places, bd1_places⟩ := FD_places.binds1 (ps := ["block", "above"]) 1 0 (by simp) rfl fun T kV doc pm an cdv ct us its h1 h2 => match us, its, h1, h2 with | [_], [_], _, _ => ⟨_, rfl, rfl⟩
  cases vd0_places
  let T : Txt K mg := {
    C_Program := C_Program, cl_Program := ⟨pg_Program, hd_Program, po_Program, sa_Program⟩, mg_Program := PySem.W.mg_of X G aC_Program
    n_Program_classes := n_Program_classes
    n_Program_units := n_Program_units
    n_Program_main := n_Program_main
    n_Program_class_rows := n_Program_class_rows
    n_Program_unit_rows := n_Program_unit_rows
    n_Program_field_lists := n_Program_field_lists
    n_Program_field_kinds := n_Program_field_kinds
    n_Program_owners := n_Program_owners
    n_Program_body_rows := n_Program_body_rows
    n_Program_flagged := n_Program_flagged
    a_wall := a_wall, d_wall := _, F_wall := fun_mk (st := s_wall) l1_wall c1_wall k1_wall
    b_wall := (fun_mk (st := s_wall) l1_wall c1_wall k1_wall).binds (ps := ["k"]) fun _ _ _ _ _ _ us hl => match us, hl with | [_], _ => rfl
    g_wall := PySem.W.mg_of X G a1_wall
    a_holds_object := a_holds_object, d_holds_object := _, F_holds_object := fun_mk (st := s_holds_object) l1_holds_object c1_holds_object k1_holds_object
    b_holds_object := (fun_mk (st := s_holds_object) l1_holds_object c1_holds_object k1_holds_object).binds (ps := ["program", "name", "field"]) fun _ _ _ _ _ _ us hl => match us, hl with | [_, _, _], _ => rfl
    g_holds_object := PySem.W.mg_of X G a1_holds_object
    a_held_rows := a_held_rows, d_held_rows := _, F_held_rows := fun_mk (st := s_held_rows) l1_held_rows c1_held_rows k1_held_rows
    b_held_rows := (fun_mk (st := s_held_rows) l1_held_rows c1_held_rows k1_held_rows).binds (ps := ["program", "row"]) fun _ _ _ _ _ _ us hl => match us, hl with | [_, _], _ => rfl
    g_held_rows := PySem.W.mg_of X G a1_held_rows
    a_search_order := a_search_order, d_search_order := _, F_search_order := fun_mk (st := s_search_order) l1_search_order c1_search_order k1_search_order
    b_search_order := (fun_mk (st := s_search_order) l1_search_order c1_search_order k1_search_order).binds (ps := ["program", "heap", "indexes"]) fun _ _ _ _ _ _ us hl => match us, hl with | [_, _, _], _ => rfl
    g_search_order := PySem.W.mg_of X G a1_search_order
    a_reached_rows := a_reached_rows, d_reached_rows := _, F_reached_rows := fun_mk (st := s_reached_rows) l1_reached_rows c1_reached_rows k1_reached_rows
    b_reached_rows := (fun_mk (st := s_reached_rows) l1_reached_rows c1_reached_rows k1_reached_rows).binds (ps := ["program", "heap", "indexes"]) fun _ _ _ _ _ _ us hl => match us, hl with | [_, _, _], _ => rfl
    g_reached_rows := PySem.W.mg_of X G a1_reached_rows
    a_deep := a_deep, d_deep := _, F_deep := fun_mk (st := s_deep) l1_deep c1_deep k1_deep
    b_deep := (fun_mk (st := s_deep) l1_deep c1_deep k1_deep).binds (ps := ["program", "heap"]) fun _ _ _ _ _ _ us hl => match us, hl with | [_, _], _ => rfl
    g_deep := PySem.W.mg_of X G a1_deep
    a_picture := a_picture, d_picture := _, F_picture := fun_mk (st := s_picture) l1_picture c1_picture k1_picture
    b_picture := (fun_mk (st := s_picture) l1_picture c1_picture k1_picture).binds (ps := ["program", "heap", "indexes"]) fun _ _ _ _ _ _ us hl => match us, hl with | [_, _, _], _ => rfl
    g_picture := PySem.W.mg_of X G a1_picture
    a_blocks_in := a_blocks_in, d_blocks_in := _, F_blocks_in := fun_mk (st := s_blocks_in) l1_blocks_in c1_blocks_in k1_blocks_in
    b_blocks_in := (fun_mk (st := s_blocks_in) l1_blocks_in c1_blocks_in k1_blocks_in).binds (ps := ["statement"]) fun _ _ _ _ _ _ us hl => match us, hl with | [_], _ => rfl
    g_blocks_in := PySem.W.mg_of X G a1_blocks_in
    a_places := a_places, d_places := _, F_places := FD_places, b_places := bd0_places
    e0_places := e0_places, x0_places := fun H => SqT_k e10_places
    ds1_places := ds1_places, vd1_places := vd1_places, bd1_places := bd1_places
    g_places := PySem.W.mg_of X G a1_places
    a_uses_flags := a_uses_flags, d_uses_flags := _, c_uses_flags := c_uses_flags, P_uses_flags := P_uses_flags, F_uses_flags := ⟨⟨_, _, _, _, _, _, _, _, rfl, l1_uses_flags, c1_uses_flags⟩, k1_uses_flags⟩
    b_uses_flags := (fun_mk (st := s_uses_flags) l1_uses_flags c1_uses_flags k1_uses_flags).binds (ps := ["params", "block"]) fun _ _ _ _ _ _ us hl => match us, hl with | [_, _], _ => rfl
    g_uses_flags := PySem.W.mg_of X G a1_uses_flags
    a_Program_init := a_Program_init, d_Program_init := _, F_Program_init := fun_mk (st := s_Program_init) l1_Program_init c1_Program_init k1_Program_init
    b_Program_init := (fun_mk (st := s_Program_init) l1_Program_init c1_Program_init k1_Program_init).binds (ps := ["self", "classes", "units", "main"]) fun _ _ _ _ _ _ us hl => match us, hl with | [_, _, _, _], _ => rfl
    M_Program := ⟨mk_Program, a1_Program_init, i1_Program_init, kc_Program⟩
    a_Program_inherit := a_Program_inherit, d_Program_inherit := _, F_Program_inherit := fun_mk (st := s_Program_inherit) l1_Program_inherit c1_Program_inherit k1_Program_inherit
    b_Program_inherit := (fun_mk (st := s_Program_inherit) l1_Program_inherit c1_Program_inherit k1_Program_inherit).binds (ps := ["self", "cls"]) fun _ _ _ _ _ _ us hl => match us, hl with | [_, _], _ => rfl
    m_Program_inherit := ⟨a1_Program_inherit, i1_Program_inherit, k1_Program_inherit⟩
    a_Program_parent := a_Program_parent, d_Program_parent := _, F_Program_parent := fun_mk (st := s_Program_parent) l1_Program_parent c1_Program_parent k1_Program_parent
    b_Program_parent := (fun_mk (st := s_Program_parent) l1_Program_parent c1_Program_parent k1_Program_parent).binds (ps := ["self", "cls"]) fun _ _ _ _ _ _ us hl => match us, hl with | [_, _], _ => rfl
    m_Program_parent := ⟨a1_Program_parent, i1_Program_parent, k1_Program_parent⟩
    a_Program_lineage := a_Program_lineage, d_Program_lineage := _, F_Program_lineage := fun_mk (st := s_Program_lineage) l1_Program_lineage c1_Program_lineage k1_Program_lineage
    b_Program_lineage := (fun_mk (st := s_Program_lineage) l1_Program_lineage c1_Program_lineage k1_Program_lineage).binds (ps := ["self", "cls"]) fun _ _ _ _ _ _ us hl => match us, hl with | [_, _], _ => rfl
    m_Program_lineage := ⟨a1_Program_lineage, i1_Program_lineage, k1_Program_lineage⟩
    a_Program_below := a_Program_below, d_Program_below := _, F_Program_below := fun_mk (st := s_Program_below) l1_Program_below c1_Program_below k1_Program_below
    b_Program_below := (fun_mk (st := s_Program_below) l1_Program_below c1_Program_below k1_Program_below).binds (ps := ["self", "cls", "other"]) fun _ _ _ _ _ _ us hl => match us, hl with | [_, _, _], _ => rfl
    m_Program_below := ⟨a1_Program_below, i1_Program_below, k1_Program_below⟩
    a_Program_heirs := a_Program_heirs, d_Program_heirs := _, F_Program_heirs := fun_mk (st := s_Program_heirs) l1_Program_heirs c1_Program_heirs k1_Program_heirs
    b_Program_heirs := (fun_mk (st := s_Program_heirs) l1_Program_heirs c1_Program_heirs k1_Program_heirs).binds (ps := ["self", "cls"]) fun _ _ _ _ _ _ us hl => match us, hl with | [_, _], _ => rfl
    m_Program_heirs := ⟨a1_Program_heirs, i1_Program_heirs, k1_Program_heirs⟩
    a_Program_fields := a_Program_fields, d_Program_fields := _, F_Program_fields := fun_mk (st := s_Program_fields) l1_Program_fields c1_Program_fields k1_Program_fields
    b_Program_fields := (fun_mk (st := s_Program_fields) l1_Program_fields c1_Program_fields k1_Program_fields).binds (ps := ["self", "name"]) fun _ _ _ _ _ _ us hl => match us, hl with | [_, _], _ => rfl
    m_Program_fields := ⟨a1_Program_fields, i1_Program_fields, k1_Program_fields⟩
    a_Program_field := a_Program_field, d_Program_field := _, F_Program_field := fun_mk (st := s_Program_field) l1_Program_field c1_Program_field k1_Program_field
    b_Program_field := (fun_mk (st := s_Program_field) l1_Program_field c1_Program_field k1_Program_field).binds (ps := ["self", "cls", "name"]) fun _ _ _ _ _ _ us hl => match us, hl with | [_, _, _], _ => rfl
    m_Program_field := ⟨a1_Program_field, i1_Program_field, k1_Program_field⟩
    a_Program_zeros := a_Program_zeros, d_Program_zeros := _, F_Program_zeros := fun_mk (st := s_Program_zeros) l1_Program_zeros c1_Program_zeros k1_Program_zeros
    b_Program_zeros := (fun_mk (st := s_Program_zeros) l1_Program_zeros c1_Program_zeros k1_Program_zeros).binds (ps := ["self", "cls"]) fun _ _ _ _ _ _ us hl => match us, hl with | [_, _], _ => rfl
    m_Program_zeros := ⟨a1_Program_zeros, i1_Program_zeros, k1_Program_zeros⟩
    a_Program_find := a_Program_find, d_Program_find := _, F_Program_find := fun_mk (st := s_Program_find) l1_Program_find c1_Program_find k1_Program_find
    b_Program_find := (fun_mk (st := s_Program_find) l1_Program_find c1_Program_find k1_Program_find).binds (ps := ["self", "cls", "method"]) fun _ _ _ _ _ _ us hl => match us, hl with | [_, _, _], _ => rfl
    m_Program_find := ⟨a1_Program_find, i1_Program_find, k1_Program_find⟩
    a_Program_body := a_Program_body, d_Program_body := _, F_Program_body := fun_mk (st := s_Program_body) l1_Program_body c1_Program_body k1_Program_body
    b_Program_body := (fun_mk (st := s_Program_body) l1_Program_body c1_Program_body k1_Program_body).binds (ps := ["self", "owner", "name"]) fun _ _ _ _ _ _ us hl => match us, hl with | [_, _, _], _ => rfl
    m_Program_body := ⟨a1_Program_body, i1_Program_body, k1_Program_body⟩
    a_Program_bodies := a_Program_bodies, d_Program_bodies := _, F_Program_bodies := fun_mk (st := s_Program_bodies) l1_Program_bodies c1_Program_bodies k1_Program_bodies
    b_Program_bodies := (fun_mk (st := s_Program_bodies) l1_Program_bodies c1_Program_bodies k1_Program_bodies).binds (ps := ["self"]) fun _ _ _ _ _ _ us hl => match us, hl with | [_], _ => rfl
    m_Program_bodies := ⟨a1_Program_bodies, i1_Program_bodies, k1_Program_bodies⟩
    a_Program_roots := a_Program_roots, d_Program_roots := _, F_Program_roots := fun_mk (st := s_Program_roots) l1_Program_roots c1_Program_roots k1_Program_roots
    b_Program_roots := (fun_mk (st := s_Program_roots) l1_Program_roots c1_Program_roots k1_Program_roots).binds (ps := ["self"]) fun _ _ _ _ _ _ us hl => match us, hl with | [_], _ => rfl
    m_Program_roots := ⟨a1_Program_roots, i1_Program_roots, k1_Program_roots⟩
    a_law_feed := a_law_feed, d_law_feed := _, F_law_feed := fun_mk (st := s_law_feed) l1_law_feed c1_law_feed k1_law_feed
    b_law_feed := (fun_mk (st := s_law_feed) l1_law_feed c1_law_feed k1_law_feed).binds (ps := ["script"]) fun _ _ _ _ _ _ us hl => match us, hl with | [_], _ => rfl
    g_law_feed := PySem.W.mg_of X G a1_law_feed
    a_law_draw := a_law_draw, d_law_draw := _, F_law_draw := fun_mk (st := s_law_draw) l1_law_draw c1_law_draw k1_law_draw
    b_law_draw := (fun_mk (st := s_law_draw) l1_law_draw c1_law_draw k1_law_draw).binds (ps := ["feed", "many"]) fun _ _ _ _ _ _ us hl => match us, hl with | [_, _], _ => rfl
    g_law_draw := PySem.W.mg_of X G a1_law_draw
    a_law_pick := a_law_pick, d_law_pick := _, F_law_pick := fun_mk (st := s_law_pick) l1_law_pick c1_law_pick k1_law_pick
    b_law_pick := (fun_mk (st := s_law_pick) l1_law_pick c1_law_pick k1_law_pick).binds (ps := ["feed", "row"]) fun _ _ _ _ _ _ us hl => match us, hl with | [_, _], _ => rfl
    g_law_pick := PySem.W.mg_of X G a1_law_pick
    a_law_same := a_law_same, d_law_same := _, F_law_same := fun_mk (st := s_law_same) l1_law_same c1_law_same k1_law_same
    b_law_same := (fun_mk (st := s_law_same) l1_law_same c1_law_same k1_law_same).binds (ps := ["told", "due"]) fun _ _ _ _ _ _ us hl => match us, hl with | [_, _], _ => rfl
    g_law_same := PySem.W.mg_of X G a1_law_same
    a_law_world := a_law_world, d_law_world := _, F_law_world := fun_mk (st := s_law_world) l1_law_world c1_law_world k1_law_world
    b_law_world := (fun_mk (st := s_law_world) l1_law_world c1_law_world k1_law_world).binds (ps := ["feed"]) fun _ _ _ _ _ _ us hl => match us, hl with | [_], _ => rfl
    g_law_world := PySem.W.mg_of X G a1_law_world
    a_law_homes := a_law_homes, d_law_homes := _, F_law_homes := fun_mk (st := s_law_homes) l1_law_homes c1_law_homes k1_law_homes
    b_law_homes := (fun_mk (st := s_law_homes) l1_law_homes c1_law_homes k1_law_homes).binds (ps := ["feed"]) fun _ _ _ _ _ _ us hl => match us, hl with | [_], _ => rfl
    g_law_homes := PySem.W.mg_of X G a1_law_homes
    a_law_rows := a_law_rows, d_law_rows := _, F_law_rows := fun_mk (st := s_law_rows) l1_law_rows c1_law_rows k1_law_rows
    b_law_rows := (fun_mk (st := s_law_rows) l1_law_rows c1_law_rows k1_law_rows).binds (ps := ["feed", "world", "size"]) fun _ _ _ _ _ _ us hl => match us, hl with | [_, _, _], _ => rfl
    g_law_rows := PySem.W.mg_of X G a1_law_rows
    a_law_spoil := a_law_spoil, d_law_spoil := _, F_law_spoil := fun_mk (st := s_law_spoil) l1_law_spoil c1_law_spoil k1_law_spoil
    b_law_spoil := (fun_mk (st := s_law_spoil) l1_law_spoil c1_law_spoil k1_law_spoil).binds (ps := ["feed", "rows"]) fun _ _ _ _ _ _ us hl => match us, hl with | [_, _], _ => rfl
    g_law_spoil := PySem.W.mg_of X G a1_law_spoil
    a_law_laid := a_law_laid, d_law_laid := _, F_law_laid := fun_mk (st := s_law_laid) l1_law_laid c1_law_laid k1_law_laid
    b_law_laid := (fun_mk (st := s_law_laid) l1_law_laid c1_law_laid k1_law_laid).binds (ps := ["homes", "rows", "order"]) fun _ _ _ _ _ _ us hl => match us, hl with | [_, _, _], _ => rfl
    g_law_laid := PySem.W.mg_of X G a1_law_laid
    a_law_shuffled := a_law_shuffled, d_law_shuffled := _, F_law_shuffled := fun_mk (st := s_law_shuffled) l1_law_shuffled c1_law_shuffled k1_law_shuffled
    b_law_shuffled := (fun_mk (st := s_law_shuffled) l1_law_shuffled c1_law_shuffled k1_law_shuffled).binds (ps := ["feed", "size"]) fun _ _ _ _ _ _ us hl => match us, hl with | [_, _], _ => rfl
    g_law_shuffled := PySem.W.mg_of X G a1_law_shuffled
    a_law_held := a_law_held, d_law_held := _, F_law_held := fun_mk (st := s_law_held) l1_law_held c1_law_held k1_law_held
    b_law_held := (fun_mk (st := s_law_held) l1_law_held c1_law_held k1_law_held).binds (ps := ["world", "row"]) fun _ _ _ _ _ _ us hl => match us, hl with | [_, _], _ => rfl
    g_law_held := PySem.W.mg_of X G a1_law_held
    a_law_search := a_law_search, d_law_search := _, F_law_search := fun_mk (st := s_law_search) l1_law_search c1_law_search k1_law_search
    b_law_search := (fun_mk (st := s_law_search) l1_law_search c1_law_search k1_law_search).binds (ps := ["world", "heap", "indexes"]) fun _ _ _ _ _ _ us hl => match us, hl with | [_, _, _], _ => rfl
    g_law_search := PySem.W.mg_of X G a1_law_search
    a_law_deep := a_law_deep, d_law_deep := _, F_law_deep := fun_mk (st := s_law_deep) l1_law_deep c1_law_deep k1_law_deep
    b_law_deep := (fun_mk (st := s_law_deep) l1_law_deep c1_law_deep k1_law_deep).binds (ps := ["world", "heap"]) fun _ _ _ _ _ _ us hl => match us, hl with | [_, _], _ => rfl
    g_law_deep := PySem.W.mg_of X G a1_law_deep
    a_law_picture := a_law_picture, d_law_picture := _, F_law_picture := fun_mk (st := s_law_picture) l1_law_picture c1_law_picture k1_law_picture
    b_law_picture := (fun_mk (st := s_law_picture) l1_law_picture c1_law_picture k1_law_picture).binds (ps := ["world", "heap", "indexes"]) fun _ _ _ _ _ _ us hl => match us, hl with | [_, _, _], _ => rfl
    g_law_picture := PySem.W.mg_of X G a1_law_picture
    a_law_asked := a_law_asked, d_law_asked := _, F_law_asked := fun_mk (st := s_law_asked) l1_law_asked c1_law_asked k1_law_asked
    b_law_asked := (fun_mk (st := s_law_asked) l1_law_asked c1_law_asked k1_law_asked).binds (ps := ["program", "world", "heap", "indexes", "picked"]) fun _ _ _ _ _ _ us hl => match us, hl with | [_, _, _, _, _], _ => rfl
    g_law_asked := PySem.W.mg_of X G a1_law_asked
    a_law := fa, d_law := _, F_law := fun_mk (st := s_law) l1_law c1_law k1_law
    b_law := (fun_mk (st := s_law) l1_law c1_law k1_law).binds (ps := ["script"]) fun _ _ _ _ _ _ us hl => match us, hl with | [_], _ => rfl
    g_law := PySem.W.mg_of X G a1_law
    z_abs := PySem.W.mg_none_of X G z_abs
    z_any := PySem.W.mg_none_of X G z_any
    z_bool := PySem.W.mg_none_of X G z_bool
    z_enumerate := PySem.W.mg_none_of X G z_enumerate
    z_int := PySem.W.mg_none_of X G z_int
    z_isinstance := PySem.W.mg_none_of X G z_isinstance
    z_len := PySem.W.mg_none_of X G z_len
    z_list := PySem.W.mg_none_of X G z_list
    z_min := PySem.W.mg_none_of X G z_min
    z_of := PySem.W.mg_none_of X G z_of
    z_range := PySem.W.mg_none_of X G z_range
    z_sorted := PySem.W.mg_none_of X G z_sorted
    z_str := PySem.W.mg_none_of X G z_str
    z_tuple := PySem.W.mg_none_of X G z_tuple
  }
  obtain ⟨ch_uses_flags, ht_uses_flags⟩ := PySem.W.tab_of Tp X hr_uses_flags (tabIn_mk a1_uses_flags l1_uses_flags rfl lc_uses_flags hp_uses_flags)
  exact ⟨_, [(c_uses_flags, P_uses_flags)], spLaw T, (List.forall_mem_cons.mpr ⟨ht_uses_flags, (fun _ h => nomatch h)⟩), (List.forall_mem_cons.mpr ⟨nt_uses_flags, (fun _ h => nomatch h)⟩), (List.forall_mem_cons.mpr ⟨ch_uses_flags, (fun _ h => nomatch h)⟩), fun s v => .of_eq rfl, fun H a ns hl hb hH hS => ⟨a, ns, rfl, hS, hl, ⟨hH _ List.mem_cons_self⟩, fun _ => rfl⟩, fun base _ _ hTB => ok_law T ⟨gx_of (hTB _ List.mem_cons_self)⟩⟩
end My

open PySem PySem.W PyProof.Rows in
set_option maxRecDepth 100000 in
set_option maxHeartbeats 0 in
theorem PySem.Challenge.cw_fullymade_k49_heaps_reached_and_pictured_holds : PySem.Challenge.rw_fullymade_k49_heaps_reached_and_pictured.Holds := by
  w_on; o_law; k_head; (case hw => w_witness2)
  k_fill
  refine My.walk_ofP (l := PySem.Challenge.rw_fullymade_k49_heaps_reached_and_pictured) (n := 63) (k := 29) (x := "script") (CX := fun _ => L2.CX0) rfl (by decide) rfl ⟨rfl, by decide, by decide⟩ (fun w h Y => PySem.W.kIn_of Y) ?F (fun _ _ _ _ _ z => z)
  case F =>
    intro w lo mean mg mb fa h Tp KX G hmg
    refine' My.all_mk Tp KX G hmg ?hr_uses_flags ?aC_Program ?pg_Program ?hd_Program ?po_Program ?sa_Program ?mk_Program ?kc_Program ?n_Program_classes ?n_Program_units ?n_Program_main ?n_Program_class_rows ?n_Program_unit_rows ?n_Program_field_lists ?n_Program_field_kinds ?n_Program_owners ?n_Program_body_rows ?n_Program_flagged ?a1_wall ?l1_wall ?c1_wall ?k1_wall ?a1_holds_object ?l1_holds_object ?c1_holds_object ?k1_holds_object ?a1_held_rows ?l1_held_rows ?c1_held_rows ?k1_held_rows ?a1_search_order ?l1_search_order ?c1_search_order ?k1_search_order ?a1_reached_rows ?l1_reached_rows ?c1_reached_rows ?k1_reached_rows ?a1_deep ?l1_deep ?c1_deep ?k1_deep ?a1_picture ?l1_picture ?c1_picture ?k1_picture ?a1_blocks_in ?l1_blocks_in ?c1_blocks_in ?k1_blocks_in ?a1_places ?l1_places ?c1_places ?k1_places ?t1_places ?e10_places ?a1_uses_flags ?l1_uses_flags ?c1_uses_flags ?k1_uses_flags ?lc_uses_flags ?hp_uses_flags ?nt_uses_flags ?a1_Program_init ?i1_Program_init ?l1_Program_init ?c1_Program_init ?k1_Program_init ?a1_Program_inherit ?i1_Program_inherit ?l1_Program_inherit ?c1_Program_inherit ?k1_Program_inherit ?a1_Program_parent ?i1_Program_parent ?l1_Program_parent ?c1_Program_parent ?k1_Program_parent ?a1_Program_lineage ?i1_Program_lineage ?l1_Program_lineage ?c1_Program_lineage ?k1_Program_lineage ?a1_Program_below ?i1_Program_below ?l1_Program_below ?c1_Program_below ?k1_Program_below ?a1_Program_heirs ?i1_Program_heirs ?l1_Program_heirs ?c1_Program_heirs ?k1_Program_heirs ?a1_Program_fields ?i1_Program_fields ?l1_Program_fields ?c1_Program_fields ?k1_Program_fields ?a1_Program_field ?i1_Program_field ?l1_Program_field ?c1_Program_field ?k1_Program_field ?a1_Program_zeros ?i1_Program_zeros ?l1_Program_zeros ?c1_Program_zeros ?k1_Program_zeros ?a1_Program_find ?i1_Program_find ?l1_Program_find ?c1_Program_find ?k1_Program_find ?a1_Program_body ?i1_Program_body ?l1_Program_body ?c1_Program_body ?k1_Program_body ?a1_Program_bodies ?i1_Program_bodies ?l1_Program_bodies ?c1_Program_bodies ?k1_Program_bodies ?a1_Program_roots ?i1_Program_roots ?l1_Program_roots ?c1_Program_roots ?k1_Program_roots ?a1_law_feed ?l1_law_feed ?c1_law_feed ?k1_law_feed ?a1_law_draw ?l1_law_draw ?c1_law_draw ?k1_law_draw ?a1_law_pick ?l1_law_pick ?c1_law_pick ?k1_law_pick ?a1_law_same ?l1_law_same ?c1_law_same ?k1_law_same ?a1_law_world ?l1_law_world ?c1_law_world ?k1_law_world ?a1_law_homes ?l1_law_homes ?c1_law_homes ?k1_law_homes ?a1_law_rows ?l1_law_rows ?c1_law_rows ?k1_law_rows ?a1_law_spoil ?l1_law_spoil ?c1_law_spoil ?k1_law_spoil ?a1_law_laid ?l1_law_laid ?c1_law_laid ?k1_law_laid ?a1_law_shuffled ?l1_law_shuffled ?c1_law_shuffled ?k1_law_shuffled ?a1_law_held ?l1_law_held ?c1_law_held ?k1_law_held ?a1_law_search ?l1_law_search ?c1_law_search ?k1_law_search ?a1_law_deep ?l1_law_deep ?c1_law_deep ?k1_law_deep ?a1_law_picture ?l1_law_picture ?c1_law_picture ?k1_law_picture ?a1_law_asked ?l1_law_asked ?c1_law_asked ?k1_law_asked ?a1_law ?l1_law ?c1_law ?k1_law ?z_abs ?z_any ?z_bool ?z_enumerate ?z_int ?z_isinstance ?z_len ?z_list ?z_min ?z_of ?z_range ?z_sorted ?z_str ?z_tuple
    (case hr_uses_flags => exact rfl)
    (case aC_Program => k_is)
    (case pg_Program => k_is)
    (case hd_Program => k_is)
    (case po_Program => k_is)
    (case sa_Program => k_is)
    (case mk_Program => k_is)
    (case kc_Program => k_is)
    (case n_Program_classes => k_is)
    (case n_Program_units => k_is)
    (case n_Program_main => k_is)
    (case n_Program_class_rows => k_is)
    (case n_Program_unit_rows => k_is)
    (case n_Program_field_lists => k_is)
    (case n_Program_field_kinds => k_is)
    (case n_Program_owners => k_is)
    (case n_Program_body_rows => k_is)
    (case n_Program_flagged => k_is)
    (case a1_wall => k_is)
    (case l1_wall => k_is)
    (case c1_wall => k_is)
    (case k1_wall => k_is)
    (case a1_holds_object => k_is)
    (case l1_holds_object => k_is)
    (case c1_holds_object => k_is)
    (case k1_holds_object => k_is)
    (case a1_held_rows => k_is)
    (case l1_held_rows => k_is)
    (case c1_held_rows => k_is)
    (case k1_held_rows => k_is)
    (case a1_search_order => k_is)
    (case l1_search_order => k_is)
    (case c1_search_order => k_is)
    (case k1_search_order => k_is)
    (case a1_reached_rows => k_is)
    (case l1_reached_rows => k_is)
    (case c1_reached_rows => k_is)
    (case k1_reached_rows => k_is)
    (case a1_deep => k_is)
    (case l1_deep => k_is)
    (case c1_deep => k_is)
    (case k1_deep => k_is)
    (case a1_picture => k_is)
    (case l1_picture => k_is)
    (case c1_picture => k_is)
    (case k1_picture => k_is)
    (case a1_blocks_in => k_is)
    (case l1_blocks_in => k_is)
    (case c1_blocks_in => k_is)
    (case k1_blocks_in => k_is)
    (case a1_places => k_is)
    (case l1_places => k_is)
    (case c1_places => k_is)
    (case k1_places => k_is)
    (case t1_places => k_is)
    (case e10_places => k_is)
    (case a1_uses_flags => k_is)
    (case l1_uses_flags => k_is)
    (case c1_uses_flags => k_is)
    (case k1_uses_flags => k_is)
    (case lc_uses_flags => k_is)
    (case hp_uses_flags => exact rfl)
    (case nt_uses_flags => kernel_rfl)
    (case a1_Program_init => k_is)
    (case i1_Program_init => k_is)
    (case l1_Program_init => k_is)
    (case c1_Program_init => k_is)
    (case k1_Program_init => k_is)
    (case a1_Program_inherit => k_is)
    (case i1_Program_inherit => k_is)
    (case l1_Program_inherit => k_is)
    (case c1_Program_inherit => k_is)
    (case k1_Program_inherit => k_is)
    (case a1_Program_parent => k_is)
    (case i1_Program_parent => k_is)
    (case l1_Program_parent => k_is)
    (case c1_Program_parent => k_is)
    (case k1_Program_parent => k_is)
    (case a1_Program_lineage => k_is)
    (case i1_Program_lineage => k_is)
    (case l1_Program_lineage => k_is)
    (case c1_Program_lineage => k_is)
    (case k1_Program_lineage => k_is)
    (case a1_Program_below => k_is)
    (case i1_Program_below => k_is)
    (case l1_Program_below => k_is)
    (case c1_Program_below => k_is)
    (case k1_Program_below => k_is)
    (case a1_Program_heirs => k_is)
    (case i1_Program_heirs => k_is)
    (case l1_Program_heirs => k_is)
    (case c1_Program_heirs => k_is)
    (case k1_Program_heirs => k_is)
    (case a1_Program_fields => k_is)
    (case i1_Program_fields => k_is)
    (case l1_Program_fields => k_is)
    (case c1_Program_fields => k_is)
    (case k1_Program_fields => k_is)
    (case a1_Program_field => k_is)
    (case i1_Program_field => k_is)
    (case l1_Program_field => k_is)
    (case c1_Program_field => k_is)
    (case k1_Program_field => k_is)
    (case a1_Program_zeros => k_is)
    (case i1_Program_zeros => k_is)
    (case l1_Program_zeros => k_is)
    (case c1_Program_zeros => k_is)
    (case k1_Program_zeros => k_is)
    (case a1_Program_find => k_is)
    (case i1_Program_find => k_is)
    (case l1_Program_find => k_is)
    (case c1_Program_find => k_is)
    (case k1_Program_find => k_is)
    (case a1_Program_body => k_is)
    (case i1_Program_body => k_is)
    (case l1_Program_body => k_is)
    (case c1_Program_body => k_is)
    (case k1_Program_body => k_is)
    (case a1_Program_bodies => k_is)
    (case i1_Program_bodies => k_is)
    (case l1_Program_bodies => k_is)
    (case c1_Program_bodies => k_is)
    (case k1_Program_bodies => k_is)
    (case a1_Program_roots => k_is)
    (case i1_Program_roots => k_is)
    (case l1_Program_roots => k_is)
    (case c1_Program_roots => k_is)
    (case k1_Program_roots => k_is)
    (case a1_law_feed => k_is)
    (case l1_law_feed => k_is)
    (case c1_law_feed => k_is)
    (case k1_law_feed => k_is)
    (case a1_law_draw => k_is)
    (case l1_law_draw => k_is)
    (case c1_law_draw => k_is)
    (case k1_law_draw => k_is)
    (case a1_law_pick => k_is)
    (case l1_law_pick => k_is)
    (case c1_law_pick => k_is)
    (case k1_law_pick => k_is)
    (case a1_law_same => k_is)
    (case l1_law_same => k_is)
    (case c1_law_same => k_is)
    (case k1_law_same => k_is)
    (case a1_law_world => k_is)
    (case l1_law_world => k_is)
    (case c1_law_world => k_is)
    (case k1_law_world => k_is)
    (case a1_law_homes => k_is)
    (case l1_law_homes => k_is)
    (case c1_law_homes => k_is)
    (case k1_law_homes => k_is)
    (case a1_law_rows => k_is)
    (case l1_law_rows => k_is)
    (case c1_law_rows => k_is)
    (case k1_law_rows => k_is)
    (case a1_law_spoil => k_is)
    (case l1_law_spoil => k_is)
    (case c1_law_spoil => k_is)
    (case k1_law_spoil => k_is)
    (case a1_law_laid => k_is)
    (case l1_law_laid => k_is)
    (case c1_law_laid => k_is)
    (case k1_law_laid => k_is)
    (case a1_law_shuffled => k_is)
    (case l1_law_shuffled => k_is)
    (case c1_law_shuffled => k_is)
    (case k1_law_shuffled => k_is)
    (case a1_law_held => k_is)
    (case l1_law_held => k_is)
    (case c1_law_held => k_is)
    (case k1_law_held => k_is)
    (case a1_law_search => k_is)
    (case l1_law_search => k_is)
    (case c1_law_search => k_is)
    (case k1_law_search => k_is)
    (case a1_law_deep => k_is)
    (case l1_law_deep => k_is)
    (case c1_law_deep => k_is)
    (case k1_law_deep => k_is)
    (case a1_law_picture => k_is)
    (case l1_law_picture => k_is)
    (case c1_law_picture => k_is)
    (case k1_law_picture => k_is)
    (case a1_law_asked => k_is)
    (case l1_law_asked => k_is)
    (case c1_law_asked => k_is)
    (case k1_law_asked => k_is)
    (case a1_law => k_is)
    (case l1_law => k_is)
    (case c1_law => k_is)
    (case k1_law => k_is)
    (case z_abs => k_is)
    (case z_any => k_is)
    (case z_bool => k_is)
    (case z_enumerate => k_is)
    (case z_int => k_is)
    (case z_isinstance => k_is)
    (case z_len => k_is)
    (case z_list => k_is)
    (case z_min => k_is)
    (case z_of => k_is)
    (case z_range => k_is)
    (case z_sorted => k_is)
    (case z_str => k_is)
    (case z_tuple => k_is)
