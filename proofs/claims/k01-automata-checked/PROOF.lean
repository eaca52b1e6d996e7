import PyProof.Rows.All
import Wide.All
import OpenK.AllK
import Wide.FinOn
import HandS.ForMost
import HandS.Codes
import HandS.IsInst
import HandS.TupLe
import HandS.TupAny
import HandS.Deep
import HandS.Wide
import HandS.WideBits
import HandS.WideMore
import HandS.EndBits
import HandS.Star
import HandS.StrMore
import HandS.Walk
import PySem.Challenge.RW_shrunkalike_k01_automata_checked
import PyProof.ReprRoads
import PyProof.Rows.Range3
import HandS.SortKw
import HandS.Keys
import HandS.Conv
import HandS.Property
import HandS.DictComp
import KE.KExcSuper
import HandS.ExcInit
import HandS.Nested
import HandS.WordsExc
import HandS.ExcField
import HandS.RaiseMore
import HandS.TryMany
import HandS.ExcIs
import KE.KExcIs
import HandS.NoneIn
import KE.LtData
import PyProof.ReprLen
import HandS.Flow
set_option Elab.async false
set_option linter.all false
set_option maxRecDepth 100000
/-! My base over the hand layer: callables, heaps but for one object, the law's source of draws, the lacking rules -/
namespace Sh
open PySem PySem.Spec PyProof.Rows L2
open SX (S S_inj S_len S_cat)

/-- all that was tracked is as it was, but for the object at a -/
def But (a : Addr) (H H' : Hp) : Prop := ∀ b o, b ≠ a → H b = some o → H' b = some o
theorem But.refl (a : Addr) (H : Hp) : But a H H := fun _ _ _ h => h
theorem But.trans {a : Addr} {H H1 H2 : Hp} (x : But a H H1) (y : But a H1 H2) : But a H H2 := fun b o n h => y b o n (x b o n h)
theorem But.same {a : Addr} {H H1 : Hp} (x : Same H H1) : But a H H1 := fun b o _ h => x b o h
theorem same_new {H : Hp} {p : Addr} {o : HO} (h : H p = none) : Same H (upd H p o) := fun b u e => by
  rw [upd_ne (ne_of_none e h)]
  exact e
theorem but_upd {H : Hp} {p : Addr} {o : HO} : But p H (upd H p o) := fun b u n e => by
  rw [upd_ne n]
  exact e
/-- a fresh object may change -/
theorem same_mut {H H1 : Hp} {p : Addr} {o : HO} (s : Same H H1) (h : H p = none) : Same H (upd H1 p o) := fun b u e => by
  rw [upd_ne (ne_of_none e h)]
  exact s b u e
theorem but_mut {a : Addr} {H H1 : Hp} {p : Addr} {o : HO} (s : But a H H1) (h : H p = none) : But a H (upd H1 p o) := fun b u n e => by
  rw [upd_ne (ne_of_none e h)]
  exact s b u n e
theorem But.none_of {a : Addr} {H H1 : Hp} (s : But a H H1) {p : Addr} (n : p ≠ a) (h : H1 p = none) : H p = none := by
  cases e : H p with
  | none => rfl
  | some o => rw [s p o n e] at h; cases h

/-- the law's source of draws: a list of three ints -/
def Src (H : Hp) (a : Addr) : Prop := ∃ d s c : Int, H a = some (.lst [.int d, .int s, .int c])

/-- a def that may be called by its name -/
structure Cal (P : Program) (w : World) (K : PySem.W.Frag) (mg : Str → Option Value) (base : Heap) (CX : CXT) (k : Nat) (x : Str) (sp : Sp) : Prop where
  ex : ∃ (f : Addr) (fd : FuncData) (ps : List Str), FnOk P w K mg base CX k f fd ps sp ∧ mg x = some (.ref f) ∧ PySem.W.keepIn K (.ref f) = true ∧ Binds K fd ps []
/-- a def of the text under its name, its parameters bound by place -/
structure DefAt (K : PySem.W.Frag) (mg : Str → Option Value) (x : Str) (st : Stmt) (ps : List Str) : Prop where
  ex : ∃ (f : Addr) (fd : FuncData), L2.Fun K x x st f fd ∧ mg x = some (.ref f) ∧ Binds K fd ps []
section
variable {P : Program} {w : World} {K : PySem.W.Frag} {mg : Str → Option Value} {base : Heap}
theorem Cal.mk0 {x : Str} {st : Stmt} {N ps : List Str} {k : Nat} {sp : Sp} (D : DefAt K mg x st ps) (S : FnScope N ps (defScope st)) (len : ∀ vs H Q E, sp vs H Q E → vs.length = ps.length)
    (hbody : ∀ (f : Addr) (cdv : Value) (A : Around) (outer : List Env) (s : Shared) (H : Hp) (vs : List V) (Q : VK) (E : XK), Room k (A.deeper (envOfC x (defScope st) s.heap.objs.size f cdv)) → sp vs H Q E →
      ∃ t, PSs (cxOf CX0 P w K mg base N x (defScope st) f cdv A outer s H E).nox (defBody st) t ∧ t { nx := fun _ H' => Q .non H', rt := Q } (start N vs) H) : Cal P w K mg base CX0 (k + 1) x sp := by
  obtain ⟨f, fd, F, m, b⟩ := D.ex
  exact ⟨f, fd, ps, F.ok S len (hbody f), m, F.kp, b⟩
end
section
variable {X : Cx} {k j : Nat} {x : Str} {sp : Sp} {p pos : Pos} {e : Expr} {es : List Expr} {t : TA}
theorem pe_c (c : Cal X.prog X.w X.K X.mg X.base CX0 k x sp) (hr : Room j X.A) (hk : k ≤ j) (hg : Gl X x) (ha : PA X (e :: es) t)
    (hdb : (x == ("__debug__" : Str)) = false := by decide) (he : starEach (e :: es) X.env = (false, eval e X.env) :: starEach es X.env := by rfl) (hpl : (backTo pos (starEach es X.env)).any (·.1) = false := by rfl) :
    PE X (.Call (.Name x p) (e :: es) [] pos) (tCall sp [] E0 t) := by
  obtain ⟨f, fd, ps, F, hm, kp, b⟩ := c.ex
  exact pe_call F (hr.mono hk) hg hm kp b .nil pass0 ha hdb he hpl
end

/-! ### walks by what has been taken -/
section
variable {J : It} {G : Hp → Prop} {Y : Nat → Hp → V → Hp → Prop} {α : Type}
theorem take_succ_of {l : List α} {i : Nat} {a : α} (h : l[i]? = some a) : l.take (i + 1) = l.take i ++ [a] ∧ l = l.take i ++ a :: l.drop (i + 1) := by
  obtain ⟨hi, rfl⟩ := List.getElem?_eq_some_iff.mp h
  refine ⟨?_, ?_⟩
  · rw [List.take_succ, h]; rfl
  · rw [← List.drop_eq_getElem_cons hi, List.take_append_drop]
/-- a for over l: Pv by the part that was taken -/
theorem for_pre {l : List α} (w : Walk J l.length G Y) (Rel : α → V → Hp → Prop) (hY : ∀ i H x H', i < l.length → G H → Y i H x H' → H' = H ∧ ∃ a, l[i]? = some a ∧ Rel a x H) {g : TG} {tb : TS} {D : Ends} {σ : L2.St} {H : Hp}
    (Pv : List α → L2.St → Hp → Prop) (h0 : Pv [] σ H) (hG : ∀ pre σ H, Pv pre σ H → G H)
    (hs : ∀ pre a post x σ H, l = pre ++ a :: post → Rel a x H → Pv pre σ H → g x σ H fun σ2 H2 => tb { D with nx := Pv (pre ++ [a]), ct := Pv (pre ++ [a]), bk := D.nx } σ2 H2) (hd : ∀ σ H, Pv l σ H → D.nx σ H) :
    ∃ W : Nat → Nat → L2.St → Hp → Prop, (∃ m, W 0 m σ H) ∧ ∀ i m σ H, W i m σ H →
      (J.stop i H ∧ D.nx σ H) ∨ (J.go i H ∧ ∃ N : L2.St → Hp → Prop, (∀ σ' H', N σ' H' → ∃ m', m' < m ∧ W (i + 1) m' σ' H') ∧ ∀ x H', J.yld i H x H' → g x σ H' fun σ2 H2 => tb { D with nx := N, ct := N, bk := D.nx } σ2 H2) := by
  refine for_it w (fun i σ H => Pv (l.take i) σ H) (by simpa using h0) (fun i σ H _ p => hG _ σ H p) (fun i x σ H H' hi p y => ?_) (fun σ H p => hd σ H (by simpa using p))
  obtain ⟨rfl, a, ha, r⟩ := hY i H x H' hi (hG _ _ _ p) y
  obtain ⟨e1, e2⟩ := take_succ_of ha
  have q := hs _ a _ x σ H' e2 r p
  rw [← e1] at q
  exact q
/-- a comprehension over l -/
theorem lc_pre {l : List α} (w : Walk J l.length G Y) (Rel : α → V → Hp → Prop) (hY : ∀ i H x H', i < l.length → G H → Y i H x H' → H' = H ∧ ∃ a, l[i]? = some a ∧ Rel a x H) {g : TG} {tt : TT} {te : TE} {vs : List Nat} {σ : L2.St} {H1 : Hp} {D : Addr} {Qd : Hp → Prop}
    (Pv : List α → Hp → Prop) (h0 : Pv [] (upd H1 D (.lst []))) (hG : ∀ pre H, Pv pre H → G H)
    (hs : ∀ pre a post x H, l = pre ++ a :: post → Rel a x H → Pv pre H → g x (wipe σ vs) H fun σ2 H2 => wipe σ2 vs = wipe σ vs ∧ tt σ2 H2 fun b H3 =>
      if b = true then te σ2 H3 fun y H4 => ∃ acc, H4 D = some (.lst acc) ∧ acc.length < sizeLine ∧ Pv (pre ++ [a]) (upd H4 D (.lst (acc ++ [y]))) else Pv (pre ++ [a]) H3) (hd : ∀ H, Pv l H → Qd H) :
    ∃ W : Nat → Nat → Hp → Prop, (∃ m, W 0 m (upd H1 D (.lst []))) ∧ ∀ i m H, W i m H →
      (J.stop i H ∧ Qd H) ∨ (J.go i H ∧ ∃ Nx : Hp → Prop, (∀ H', Nx H' → ∃ m', m' < m ∧ W (i + 1) m' H') ∧ ∀ x H', J.yld i H x H' → g x (wipe σ vs) H' fun σ2 H2 => wipe σ2 vs = wipe σ vs ∧ tt σ2 H2 fun b H3 =>
        if b = true then te σ2 H3 fun y H4 => ∃ acc, H4 D = some (.lst acc) ∧ acc.length < sizeLine ∧ Nx (upd H4 D (.lst (acc ++ [y]))) else Nx H3) := by
  refine lc_it w (fun i H => Pv (l.take i) H) (by simpa using h0) (fun i H _ p => hG _ H p) (fun i x H H' hi p y => ?_) (fun H p => hd H (by simpa using p))
  obtain ⟨rfl, a, ha, r⟩ := hY i H x H' hi (hG _ _ p) y
  obtain ⟨e1, e2⟩ := take_succ_of ha
  have q := hs _ a _ x H' e2 r p
  rw [← e1] at q
  exact q
theorem yStr {l : List Nat} : ∀ (i : Nat) (H : Hp) (x : V) (H' : Hp), i < l.length → True → (H' = H ∧ ∃ c, (S l).cps[i]? = some c ∧ x = V.str ⟨#[c]⟩) → H' = H ∧ ∃ a, l[i]? = some a ∧ x = V.str (S [a]) := by
  rintro i H x H' _ _ ⟨rfl, c, hc, rfl⟩
  exact ⟨rfl, c, by simpa using hc, rfl⟩
theorem wStr {l : List Nat} : Walk (Its (S l)) l.length (fun _ => True) (fun i H v H' => H' = H ∧ ∃ c, (S l).cps[i]? = some c ∧ v = .str ⟨#[c]⟩) := by
  have h := walk_str (z := S l)
  simpa using h
end
/-! ### data of None, bools, ints, texts and tuples -/
mutual
inductive Tp (K : PySem.W.Frag) (H : Hp) : V → PyData → Prop
  | non : Tp K H .non .none
  | bl (b : Bool) : Tp K H (.bl b) (.bool b)
  | int (i : Int) : Tp K H (.int i) (.int i)
  | str (x : Str) : Tp K H (.str x) (.str x)
  | tup {a : Addr} {xs : List V} {ds : List PyData} : SqT K H a xs → TpAll K H xs ds → Tp K H (.ref a) (.tuple ds)
inductive TpAll (K : PySem.W.Frag) (H : Hp) : List V → List PyData → Prop
  | nil : TpAll K H [] []
  | cons {v : V} {vs : List V} {d : PyData} {ds : List PyData} : Tp K H v d → TpAll K H vs ds → TpAll K H (v :: vs) (d :: ds)
end
/-- what was a tuple is one -/
def Keep (H H' : Hp) : Prop := ∀ b xs, Rd H b (.tup xs) → Rd H' b (.tup xs)
theorem Keep.refl (H : Hp) : Keep H H := fun _ _ h => h
theorem Keep.trans {H H1 H2 : Hp} (a : Keep H H1) (b : Keep H1 H2) : Keep H H2 := fun x y h => b x y (a x y h)
theorem Keep.same {H H' : Hp} (s : Same H H') : Keep H H' := fun b xs h => by
  rcases h with h | ⟨o, h⟩
  · exact .inl (s _ _ h)
  · exact .inr ⟨o, s _ _ h⟩
theorem Keep.but {H H' : Hp} {a : Addr} (s : But a H H') (z : Src H a) : Keep H H' := fun b xs h => by
  obtain ⟨d, e, c, z⟩ := z
  rcases h with h | ⟨o, h⟩
  · exact .inl (s _ _ (ne_of h z (by intro q; cases q)) h)
  · exact .inr ⟨o, s _ _ (ne_of h z (by intro q; cases q)) h⟩
theorem Keep.butL {H H' : Hp} {a : Addr} {ys : List V} (s : But a H H') (z : H a = some (.lst ys)) : Keep H H' := fun b xs h => by
  rcases h with h | ⟨o, h⟩
  · exact .inl (s _ _ (ne_of h z (by intro q; cases q)) h)
  · exact .inr ⟨o, s _ _ (ne_of h z (by intro q; cases q)) h⟩
theorem Keep.seq {K : PySem.W.Frag} {H H' : Hp} {a : Addr} {xs : List V} (k : Keep H H') (h : SqT K H a xs) : SqT K H' a xs := by
  rcases h with h | h
  · exact .inl (k _ _ h)
  · exact .inr h
mutual
theorem Tp.keep {K : PySem.W.Frag} {H H' : Hp} (k : Keep H H') : ∀ {v : V} {d : PyData}, Tp K H v d → Tp K H' v d
  | _, _, .non => .non
  | _, _, .bl b => .bl b
  | _, _, .int i => .int i
  | _, _, .str x => .str x
  | _, _, .tup h t => .tup (k.seq h) (TpAll.keep k t)
theorem TpAll.keep {K : PySem.W.Frag} {H H' : Hp} (k : Keep H H') : ∀ {vs : List V} {ds : List PyData}, TpAll K H vs ds → TpAll K H' vs ds
  | _, _, .nil => .nil
  | _, _, .cons h t => .cons (Tp.keep k h) (TpAll.keep k t)
end
mutual
theorem Tp.dp {K : PySem.W.Frag} {H : Hp} : ∀ {v : V} {d : PyData}, Tp K H v d → Dp K H v d
  | _, _, .non => .non
  | _, _, .bl b => .bl b
  | _, _, .int i => .int i
  | _, _, .str x => .str x
  | _, _, .tup h t => .tup h (TpAll.dp t)
theorem TpAll.dp {K : PySem.W.Frag} {H : Hp} : ∀ {vs : List V} {ds : List PyData}, TpAll K H vs ds → DpAll K H vs ds
  | _, _, .nil => .nil
  | _, _, .cons h t => .cons (Tp.dp h) (TpAll.dp t)
end
section
variable {K : PySem.W.Frag} {H : Hp} {v : V} {d : PyData} {vs ws : List V} {ds es : List PyData}
theorem Tp.inv (h : Tp K H v (.tuple ds)) : ∃ a xs, v = .ref a ∧ SqT K H a xs ∧ TpAll K H xs ds := by
  cases h with
  | tup h t => exact ⟨_, _, rfl, h, t⟩
theorem TpAll.len : ∀ {vs : List V} {ds : List PyData}, TpAll K H vs ds → vs.length = ds.length
  | _, _, .nil => rfl
  | _, _, .cons _ t => congrArg (· + 1) (TpAll.len t)
theorem TpAll.get : ∀ {vs : List V} {ds : List PyData}, TpAll K H vs ds → ∀ {i : Nat} {d : PyData}, ds[i]? = some d → ∃ v, vs[i]? = some v ∧ Tp K H v d
  | _, _, .nil, _, _, e => by simp at e
  | _, _, .cons h _, 0, _, e => by simp at e; subst e; exact ⟨_, rfl, h⟩
  | _, _, .cons _ t, i + 1, d, e => by
    obtain ⟨v, h1, h2⟩ := TpAll.get t (i := i) (d := d) (by simpa using e)
    exact ⟨v, by simpa using h1, h2⟩
theorem TpAll.getV : ∀ {vs : List V} {ds : List PyData}, TpAll K H vs ds → ∀ {i : Nat} {v : V}, vs[i]? = some v → ∃ d, ds[i]? = some d ∧ Tp K H v d
  | _, _, .nil, _, _, e => by simp at e
  | _, _, .cons h _, 0, _, e => by simp at e; subst e; exact ⟨_, rfl, h⟩
  | _, _, .cons _ t, i + 1, v, e => by
    obtain ⟨d, h1, h2⟩ := TpAll.getV t (i := i) (v := v) (by simpa using e)
    exact ⟨d, by simpa using h1, h2⟩
theorem TpAll.app (h : TpAll K H vs ds) (k : TpAll K H ws es) : TpAll K H (vs ++ ws) (ds ++ es) := by
  induction h using TpAll.rec (motive_1 := fun _ _ _ => True) with
  | nil => exact k
  | cons a _ _ ih => exact .cons a ih
  | _ => trivial
end
end Sh
namespace Sh
open PySem PySem.Spec PyProof.Rows L2
theorem pe_gK {X : Cx} {x : Str} {pos : Pos} {v : V} (hg : Gl X x) (h : ∃ u, X.mg x = some u ∧ RelV v u) (hd : (x == ("__debug__" : Str)) = false := by decide) : PE X (.Name x pos) (tC v) := by
  obtain ⟨u, hu, r⟩ := h
  exact pe_glob hg hu r hd
end Sh
namespace Sh
open PySem PySem.Spec PyProof.Rows L2
/-- the ways through an assignment's expression meet in P -/
theorem st_asgJ {te : TE} {g : TG} {u : TS} {D : Ends} {σ : L2.St} {H : Hp} (P : V → Hp → Prop) (h : ∀ Q : VK, (∀ v H', P v H' → Q v H') → te σ H Q) (k : ∀ v H', P v H' → g v σ H' (u D)) : tSeq (tAsg te g) u D σ H := h _ k
/-- the ways through an if meet in P -/
theorem st_ifJ {c : TT} {t v u : TS} {D : Ends} {σ : L2.St} {H : Hp} (P : L2.St → Hp → Prop) (h : ∀ N : L2.St → Hp → Prop, (∀ σ' H', P σ' H' → N σ' H') → tIfS c t v { D with nx := N } σ H) (k : ∀ σ' H', P σ' H' → u D σ' H') : tSeq (tIfS c t v) u D σ H := h _ k
/-- any statement's ways meet in P -/
theorem st_J {t u : TS} {D : Ends} {σ : L2.St} {H : Hp} (P : L2.St → Hp → Prop) (h : ∀ N : L2.St → Hp → Prop, (∀ σ' H', P σ' H' → N σ' H') → t { D with nx := N } σ H) (k : ∀ σ' H', P σ' H' → u D σ' H') : tSeq t u D σ H := h _ k
/-- the ways through an expression meet in P -/
theorem ev_J {te : TE} {σ : L2.St} {H : Hp} {Q : VK} (P : V → Hp → Prop) (h : ∀ Q : VK, (∀ v H', P v H' → Q v H') → te σ H Q) (k : ∀ v H', P v H' → Q v H') : te σ H Q := h _ k
theorem tt_J {te : TT} {σ : L2.St} {H : Hp} {Q : Bool → Hp → Prop} (P : Bool → Hp → Prop) (h : ∀ Q : Bool → Hp → Prop, (∀ v H', P v H' → Q v H') → te σ H Q) (k : ∀ v H', P v H' → Q v H') : te σ H Q := h _ k
end Sh
namespace Sh
open PySem PySem.Spec PyProof.Rows L2
theorem atI_at {α : Type} {xs : List α} {i : Int} {v : α} (h0 : 0 ≤ i) (h : xs[i.toNat]? = some v) : atI xs i = some v := by
  have := atI_nat h
  rwa [Int.toNat_of_nonneg h0] at this
theorem rList {α : Type} {f : α → V} {l : List α} : ∀ (i : Nat) (H : Hp) (x : V) (H' : Hp), i < l.length → True → (YAt (l.map f) i H x H') → H' = H ∧ ∃ a, l[i]? = some a ∧ x = f a := by
  rintro i H x H' hi _ ⟨rfl, h⟩
  refine ⟨rfl, l[i], by simp [hi], ?_⟩
  rw [List.getElem?_map, List.getElem?_eq_getElem hi] at h
  exact (Option.some.inj h).symm
/-- a for over a list of l's values -/
theorem for_lst {α : Type} {f : α → V} {l : List α} {K : PySem.W.Frag} {a : Addr} {g : TG} {tb : TS} {D : Ends} {σ : L2.St} {H : Hp}
    (Pv : List α → L2.St → Hp → Prop) (h0 : Pv [] σ H) (hG : ∀ pre σ H, Pv pre σ H → SqL K H a (l.map f))
    (hs : ∀ pre x post σ H, l = pre ++ x :: post → Pv pre σ H → g (f x) σ H fun σ2 H2 => tb { D with nx := Pv (pre ++ [x]), ct := Pv (pre ++ [x]), bk := D.nx } σ2 H2) (hd : ∀ σ H, Pv l σ H → D.nx σ H) :
    ∃ W : Nat → Nat → L2.St → Hp → Prop, (∃ m, W 0 m σ H) ∧ ∀ i m σ H, W i m σ H →
      ((Itl K a).stop i H ∧ D.nx σ H) ∨ ((Itl K a).go i H ∧ ∃ N : L2.St → Hp → Prop, (∀ σ' H', N σ' H' → ∃ m', m' < m ∧ W (i + 1) m' σ' H') ∧ ∀ x H', (Itl K a).yld i H x H' → g x σ H' fun σ2 H2 => tb { D with nx := N, ct := N, bk := D.nx } σ2 H2) := by
  have w := walk_list (K := K) (a := a) (xs := l.map f)
  rw [List.length_map] at w
  refine for_pre w (fun x v _ => v = f x) (fun i H x H' hi _ y => rList i H x H' hi trivial y) Pv h0 hG (fun pre x post v σ H e r p => ?_) hd
  subst r
  exact hs pre x post σ H e p
/-- a for over a text's signs -/
theorem for_str {l : List Nat} {g : TG} {tb : TS} {D : Ends} {σ : L2.St} {H : Hp}
    (Pv : List Nat → L2.St → Hp → Prop) (h0 : Pv [] σ H)
    (hs : ∀ pre x post σ H, l = pre ++ x :: post → Pv pre σ H → g (.str (SX.S [x])) σ H fun σ2 H2 => tb { D with nx := Pv (pre ++ [x]), ct := Pv (pre ++ [x]), bk := D.nx } σ2 H2) (hd : ∀ σ H, Pv l σ H → D.nx σ H) :
    ∃ W : Nat → Nat → L2.St → Hp → Prop, (∃ m, W 0 m σ H) ∧ ∀ i m σ H, W i m σ H →
      ((Its (SX.S l)).stop i H ∧ D.nx σ H) ∨ ((Its (SX.S l)).go i H ∧ ∃ N : L2.St → Hp → Prop, (∀ σ' H', N σ' H' → ∃ m', m' < m ∧ W (i + 1) m' σ' H') ∧ ∀ x H', (Its (SX.S l)).yld i H x H' → g x σ H' fun σ2 H2 => tb { D with nx := N, ct := N, bk := D.nx } σ2 H2) := by
  refine for_pre wStr (fun x v _ => v = .str (SX.S [x])) (fun i H x H' hi _ y => yStr i H x H' hi trivial y) Pv h0 (fun _ _ _ _ => trivial) (fun pre x post v σ H e r p => ?_) hd
  subst r
  exact hs pre x post σ H e p
/-- tuples whose items are told by l -/
theorem for_tupR {α : Type} {Rel : Hp → V → α → Prop} {l : List α} {xs : List V} {K : PySem.W.Frag} {a : Addr} {g : TG} {tb : TS} {D : Ends} {σ : L2.St} {H : Hp} (hlen : xs.length = l.length)
    (Pv : List α → L2.St → Hp → Prop) (h0 : Pv [] σ H) (hG : ∀ pre σ H, Pv pre σ H → SqT K H a xs ∧ ∀ (i : Nat) x y, xs[i]? = some x → l[i]? = some y → Rel H x y)
    (hs : ∀ pre y post x σ H, l = pre ++ y :: post → xs[pre.length]? = some x → Rel H x y → Pv pre σ H → g x σ H fun σ2 H2 => tb { D with nx := Pv (pre ++ [y]), ct := Pv (pre ++ [y]), bk := D.nx } σ2 H2) (hd : ∀ σ H, Pv l σ H → D.nx σ H) :
    ∃ W : Nat → Nat → L2.St → Hp → Prop, (∃ m, W 0 m σ H) ∧ ∀ i m σ H, W i m σ H →
      ((Itt K a).stop i H ∧ D.nx σ H) ∨ ((Itt K a).go i H ∧ ∃ N : L2.St → Hp → Prop, (∀ σ' H', N σ' H' → ∃ m', m' < m ∧ W (i + 1) m' σ' H') ∧ ∀ x H', (Itt K a).yld i H x H' → g x σ H' fun σ2 H2 => tb { D with nx := N, ct := N, bk := D.nx } σ2 H2) := by
  have w := walk_tup (K := K) (a := a) (xs := xs)
  refine for_it w (fun i σ H => Pv (l.take i) σ H) (by simpa using h0) (fun i σ H _ p => (hG _ σ H p).1) (fun i x σ H H' hi p y => ?_) (fun σ H p => hd σ H (by simpa [hlen] using p))
  obtain ⟨rfl, hx⟩ := y
  have hi' : i < l.length := hlen ▸ hi
  have hl : l[i]? = some l[i] := by simp [hi']
  obtain ⟨e1, e2⟩ := take_succ_of hl
  have q := hs _ l[i] _ x σ H' e2 (by rw [List.length_take, Nat.min_eq_left (Nat.le_of_lt hi')]; exact hx) ((hG _ σ H' p).2 i x l[i] hx hl) p
  rw [← e1] at q
  exact q
end Sh
namespace Sh
open PySem PySem.Spec PyProof.Rows L2
theorem st_nx {D : Ends} {σ : L2.St} {H : Hp} (q : D.nx σ H) : tNext D σ H := q
end Sh
namespace Sh
open PySem PySem.Spec PyProof.Rows L2
theorem nx_mk {a c d : L2.St → Hp → Prop} {b : VK} {σ : L2.St} {H : Hp} (h : a σ H) : (Ends.mk a b c d).nx σ H := h
theorem rt_mk {a c d : L2.St → Hp → Prop} {b : VK} {v : V} {H : Hp} (h : b v H) : (Ends.mk a b c d).rt v H := h
theorem bk_mk {a c d : L2.St → Hp → Prop} {b : VK} {σ : L2.St} {H : Hp} (h : c σ H) : (Ends.mk a b c d).bk σ H := h
theorem ct_mk {a c d : L2.St → Hp → Prop} {b : VK} {σ : L2.St} {H : Hp} (h : d σ H) : (Ends.mk a b c d).ct σ H := h
end Sh
namespace Sh
open PySem PySem.Spec PyProof.Rows L2
theorem gn_mk {i : Nat} {v : V} {σ : L2.St} {H : Hp} {Q : L2.St → Hp → Prop} (h : Q (σ.set i (some v)) H) : gName i v σ H Q := h
theorem sz_S {t : List Nat} (h : t.length ≤ 1000000) : (SX.S t).length ≤ sizeLine := by
  rw [SX.S_len]
  exact Nat.le_trans h (by decide)
end Sh
namespace Sh
open PySem PySem.Spec PyProof.Rows L2
theorem ty_T {A B : Hp → Prop} {σ : L2.St} {H : Hp} (h : A H) : tYes σ H (fun b H3 => if b = true then A H3 else B H3) := h
end Sh
namespace Sh
open PySem PySem.Spec PyProof.Rows L2
/-- a comprehension over a tuple whose items are told by l -/
theorem lc_tupR {α : Type} {Rel : Hp → V → α → Prop} {l : List α} {xs : List V} {K : PySem.W.Frag} {a : Addr} {g : TG} {tt : TT} {te : TE} {vs : List Nat} {σ : L2.St} {H1 : Hp} {D : Addr} {Qd : Hp → Prop} (hlen : xs.length = l.length)
    (Pv : List α → Hp → Prop) (h0 : Pv [] (upd H1 D (.lst []))) (hG : ∀ pre H, Pv pre H → SqT K H a xs ∧ ∀ (i : Nat) x y, xs[i]? = some x → l[i]? = some y → Rel H x y)
    (hs : ∀ pre y post x H, l = pre ++ y :: post → xs[pre.length]? = some x → Rel H x y → Pv pre H → g x (wipe σ vs) H fun σ2 H2 => wipe σ2 vs = wipe σ vs ∧ tt σ2 H2 fun b H3 =>
      if b = true then te σ2 H3 fun y' H4 => ∃ acc, H4 D = some (.lst acc) ∧ acc.length < sizeLine ∧ Pv (pre ++ [y]) (upd H4 D (.lst (acc ++ [y']))) else Pv (pre ++ [y]) H3) (hd : ∀ H, Pv l H → Qd H) :
    ∃ W : Nat → Nat → Hp → Prop, (∃ m, W 0 m (upd H1 D (.lst []))) ∧ ∀ i m H, W i m H →
      ((Itt K a).stop i H ∧ Qd H) ∨ ((Itt K a).go i H ∧ ∃ Nx : Hp → Prop, (∀ H', Nx H' → ∃ m', m' < m ∧ W (i + 1) m' H') ∧ ∀ x H', (Itt K a).yld i H x H' → g x (wipe σ vs) H' fun σ2 H2 => wipe σ2 vs = wipe σ vs ∧ tt σ2 H2 fun b H3 =>
        if b = true then te σ2 H3 fun y H4 => ∃ acc, H4 D = some (.lst acc) ∧ acc.length < sizeLine ∧ Nx (upd H4 D (.lst (acc ++ [y]))) else Nx H3) := by
  have w := walk_tup (K := K) (a := a) (xs := xs)
  refine lc_it w (fun i H => Pv (l.take i) H) (by simpa using h0) (fun i H _ p => (hG _ H p).1) (fun i x H H' hi p y => ?_) (fun H p => hd H (by simpa [hlen] using p))
  obtain ⟨rfl, hx⟩ := y
  have hi' : i < l.length := hlen ▸ hi
  have hl : l[i]? = some l[i] := by simp [hi']
  obtain ⟨e1, e2⟩ := take_succ_of hl
  have q := hs _ l[i] _ x H' e2 (by rw [List.length_take, Nat.min_eq_left (Nat.le_of_lt hi')]; exact hx) ((hG _ H' p).2 i x l[i] hx hl) p
  rw [← e1] at q
  exact q
end Sh
namespace Sh
open PySem PySem.Spec PyProof.Rows L2
section
variable {X : Cx} {s : Shared} {H : Hp} {sc : Scope} {ce : Env} {fp : List Addr}
theorem ix_tupB : IxR (X.blk s H sc ce fp) (rIxT X.K) := ix_tup
theorem ix_listB : IxR (X.blk s H sc ce fp) (rIxL X.K) := ix_list
theorem sl_tupAB : SlR (X.blk s H sc ce fp) (rSlA X.K) := sl_tupA
theorem sl_listB : SlR (X.blk s H sc ce fp) (rSlL X.K) := sl_list
theorem call_len_seqB : CallR (X.blk s H sc ce fp) (.builtin "len") (fun xs H Q => ∃ p ys, xs = [.ref p] ∧ (SqL X.K H p ys ∨ SqT X.K H p ys) ∧ Q (.int ys.length) H) := call_len_seq
theorem call_list_ofB : CallR (X.blk s H sc ce fp) (.type "list") (fun xs H Q => ∃ p ys, xs = [.ref p] ∧ (SqL X.K H p ys ∨ SqT X.K H p ys) ∧ ∀ l, H l = none → Q (.ref l) (upd H l (.lst ys))) := call_list_of
end
end Sh
namespace Sh
open PySem PySem.Spec PyProof.Rows L2
/-- the values xs tell the list l -/
def Items {α : Type} (Rel : Hp → V → α → Prop) (H : Hp) (xs : List V) (l : List α) : Prop := xs.length = l.length ∧ ∀ (i : Nat) x y, xs[i]? = some x → l[i]? = some y → Rel H x y
section
variable {α : Type} {Rel : Hp → V → α → Prop} {H H' : Hp} {xs : List V} {l : List α}
theorem Items.nil : Items Rel H [] [] := ⟨rfl, fun i x y h _ => by simp at h⟩
theorem Items.mono (h : Items Rel H xs l) (m : ∀ x y, Rel H x y → Rel H' x y) : Items Rel H' xs l := ⟨h.1, fun i x y h1 h2 => m x y (h.2 i x y h1 h2)⟩
theorem Items.snoc (h : Items Rel H xs l) (m : ∀ x y, Rel H x y → Rel H' x y) {x : V} {y : α} (r : Rel H' x y) : Items Rel H' (xs ++ [x]) (l ++ [y]) := by
  refine ⟨by simp [h.1], fun i a b h1 h2 => ?_⟩
  rcases Nat.lt_or_ge i xs.length with q | q
  · rw [List.getElem?_append_left q] at h1
    rw [List.getElem?_append_left (h.1 ▸ q)] at h2
    exact m a b (h.2 i a b h1 h2)
  · rw [List.getElem?_append_right q] at h1
    rw [List.getElem?_append_right (h.1 ▸ q)] at h2
    have e : i - xs.length = i - l.length := by rw [h.1]
    rcases Nat.eq_zero_or_pos (i - xs.length) with z | z
    · rw [z] at h1
      rw [← e, z] at h2
      simp at h1 h2
      subst h1; subst h2
      exact r
    · rw [List.getElem?_eq_none (by simp; omega)] at h1
      cases h1
theorem Items.get (h : Items Rel H xs l) {i : Nat} {y : α} (hy : l[i]? = some y) : ∃ x, xs[i]? = some x ∧ Rel H x y := by
  obtain ⟨hi, _⟩ := List.getElem?_eq_some_iff.mp hy
  have hi2 : i < xs.length := by rw [h.1]; exact hi
  exact ⟨xs[i], List.getElem?_eq_getElem hi2, h.2 i _ y (List.getElem?_eq_getElem hi2) hy⟩
end
/-- a for over a list whose items are told by l -/
theorem for_lstR {α : Type} {Rel : Hp → V → α → Prop} {l : List α} {xs : List V} {K : PySem.W.Frag} {a : Addr} {g : TG} {tb : TS} {D : Ends} {σ : L2.St} {H : Hp} (hlen : xs.length = l.length)
    (Pv : List α → L2.St → Hp → Prop) (h0 : Pv [] σ H) (hG : ∀ pre σ H, Pv pre σ H → SqL K H a xs ∧ ∀ (i : Nat) x y, xs[i]? = some x → l[i]? = some y → Rel H x y)
    (hs : ∀ pre y post x σ H, l = pre ++ y :: post → xs[pre.length]? = some x → Rel H x y → Pv pre σ H → g x σ H fun σ2 H2 => tb { D with nx := Pv (pre ++ [y]), ct := Pv (pre ++ [y]), bk := D.nx } σ2 H2) (hd : ∀ σ H, Pv l σ H → D.nx σ H) :
    ∃ W : Nat → Nat → L2.St → Hp → Prop, (∃ m, W 0 m σ H) ∧ ∀ i m σ H, W i m σ H →
      ((Itl K a).stop i H ∧ D.nx σ H) ∨ ((Itl K a).go i H ∧ ∃ N : L2.St → Hp → Prop, (∀ σ' H', N σ' H' → ∃ m', m' < m ∧ W (i + 1) m' σ' H') ∧ ∀ x H', (Itl K a).yld i H x H' → g x σ H' fun σ2 H2 => tb { D with nx := N, ct := N, bk := D.nx } σ2 H2) := by
  have w := walk_list (K := K) (a := a) (xs := xs)
  refine for_it w (fun i σ H => Pv (l.take i) σ H) (by simpa using h0) (fun i σ H _ p => (hG _ σ H p).1) (fun i x σ H H' hi p y => ?_) (fun σ H p => hd σ H (by simpa [hlen] using p))
  obtain ⟨rfl, hx⟩ := y
  have hi' : i < l.length := hlen ▸ hi
  have hl : l[i]? = some l[i] := by simp [hi']
  obtain ⟨e1, e2⟩ := take_succ_of hl
  have q := hs _ l[i] _ x σ H' e2 (by rw [List.length_take, Nat.min_eq_left (Nat.le_of_lt hi')]; exact hx) ((hG _ σ H' p).2 i x l[i] hx hl) p
  rw [← e1] at q
  exact q
end Sh
namespace Sh
open PySem PySem.Spec PyProof.Rows L2
/-- an if whose test is known -/
theorem st_ifK {c : TT} {t u v : TS} {D : Ends} {σ : L2.St} {H : Hp} (b : Bool) (h : ∀ Q : Bool → Hp → Prop, Q b H → c σ H Q) (k1 : b = true → t { D with nx := v D } σ H) (k2 : b = false → u { D with nx := v D } σ H) : tSeq (tIfS c t u) v D σ H := by
  refine h _ ?_
  cases b with
  | true => exact iteT (k1 rfl)
  | false => exact iteF (k2 rfl)
theorem if_K {c : TT} {t u : TS} {D : Ends} {σ : L2.St} {H : Hp} (b : Bool) (h : ∀ Q : Bool → Hp → Prop, Q b H → c σ H Q) (k1 : b = true → t D σ H) (k2 : b = false → u D σ H) : tIfS c t u D σ H := by
  refine h _ ?_
  cases b with
  | true => exact iteT (k1 rfl)
  | false => exact iteF (k2 rfl)
/-- .. which may lay new objects -/
theorem if_KH {c : TT} {t u : TS} {D : Ends} {σ : L2.St} {H : Hp} (b : Bool) (P : Hp → Prop) (h : ∀ Q : Bool → Hp → Prop, (∀ H', P H' → Q b H') → c σ H Q) (k1 : b = true → ∀ H', P H' → t D σ H') (k2 : b = false → ∀ H', P H' → u D σ H') : tIfS c t u D σ H := by
  refine h _ fun H' p => ?_
  cases b with
  | true => exact iteT (k1 rfl H' p)
  | false => exact iteF (k2 rfl H' p)
theorem st_ifKH {c : TT} {t u v : TS} {D : Ends} {σ : L2.St} {H : Hp} (b : Bool) (P : Hp → Prop) (h : ∀ Q : Bool → Hp → Prop, (∀ H', P H' → Q b H') → c σ H Q) (k1 : b = true → ∀ H', P H' → t { D with nx := v D } σ H') (k2 : b = false → ∀ H', P H' → u { D with nx := v D } σ H') : tSeq (tIfS c t u) v D σ H := by
  refine h _ fun H' p => ?_
  cases b with
  | true => exact iteT (k1 rfl H' p)
  | false => exact iteF (k2 rfl H' p)
theorem q_of {b c : Bool} {Q : Bool → Hp → Prop} {H : Hp} (h : Q b H) (e : c = b) : Q c H := e ▸ h
end Sh
set_option Elab.async false
set_option linter.all false
set_option maxRecDepth 100000
namespace Sh
open PySem PySem.Spec PyProof.Rows L2
def top (i : Nat) : Stmt := PySem.Challenge.pw_shrunkalike_k01_automata_checked.main.body.getD i (.Pass ⟨0, 0, 0, 0⟩)
abbrev s_WrongThing___init__ : Stmt := inClass (top 2) 0
abbrev s_WrongItem___init__ : Stmt := inClass (top 3) 0
abbrev s_is_integer : Stmt := top 8
abbrev s_is_listed : Stmt := top 9
abbrev s_deep : Stmt := top 10
abbrev s_is_signs : Stmt := top 11
abbrev s_check_signs : Stmt := top 12
abbrev s_is_edge : Stmt := top 16
abbrev s_check_automaton : Stmt := top 17
abbrev s_checked_automaton : Stmt := top 18
abbrev s__law_source : Stmt := top 20
abbrev s__law_pick : Stmt := top 21
abbrev s__law_signs : Stmt := top 22
abbrev s__law_nfa : Stmt := top 23
abbrev s__law_listed : Stmt := top 24
abbrev s__law_place : Stmt := top 25
abbrev s__law_spoilt : Stmt := top 26
abbrev s_law : Stmt := top 27
theorem sc_is_integer : FnScope ["thing", "low", "high"] ["thing", "low", "high"] (defScope s_is_integer) := ⟨rfl, rfl, rfl, by decide +kernel, rfl, by decide +kernel, by decide +kernel⟩
theorem sc_is_listed : FnScope ["thing"] ["thing"] (defScope s_is_listed) := ⟨rfl, rfl, rfl, by decide +kernel, rfl, by decide +kernel, by decide +kernel⟩
theorem sc_deep : FnScope ["thing", "part"] ["thing"] (defScope s_deep) := ⟨rfl, rfl, rfl, by decide +kernel, rfl, by decide +kernel, by decide +kernel⟩
theorem sc_is_signs : FnScope ["thing", "k"] ["thing"] (defScope s_is_signs) := ⟨rfl, rfl, rfl, by decide +kernel, rfl, by decide +kernel, by decide +kernel⟩
theorem sc_check_signs : FnScope ["thing"] ["thing"] (defScope s_check_signs) := ⟨rfl, rfl, rfl, by decide +kernel, rfl, by decide +kernel, by decide +kernel⟩
theorem sc_is_edge : FnScope ["signs", "many", "thing"] ["signs", "many", "thing"] (defScope s_is_edge) := ⟨rfl, rfl, rfl, by decide +kernel, rfl, by decide +kernel, by decide +kernel⟩
theorem sc_check_automaton : FnScope ["signs", "thing", "many", "edges", "ends", "k"] ["signs", "thing"] (defScope s_check_automaton) := ⟨rfl, rfl, rfl, by decide +kernel, rfl, by decide +kernel, by decide +kernel⟩
theorem sc_checked_automaton : FnScope ["signs", "thing"] ["signs", "thing"] (defScope s_checked_automaton) := ⟨rfl, rfl, rfl, by decide +kernel, rfl, by decide +kernel, by decide +kernel⟩
theorem sc__law_source : FnScope ["_law_script", "_law_place_here", "_law_cell", "_law_seed", "_law_one", "_law_number"] ["_law_script", "_law_place_here"] (defScope s__law_source) := ⟨rfl, rfl, rfl, by decide +kernel, rfl, by decide +kernel, by decide +kernel⟩
theorem sc__law_pick : FnScope ["_law_source_here", "_law_many", "_law_digit", "_law_mixed"] ["_law_source_here", "_law_many"] (defScope s__law_pick) := ⟨rfl, rfl, rfl, by decide +kernel, rfl, by decide +kernel, by decide +kernel⟩
theorem sc__law_signs : FnScope ["_law_source_here", "_law_menu"] ["_law_source_here"] (defScope s__law_signs) := ⟨rfl, rfl, rfl, by decide +kernel, rfl, by decide +kernel, by decide +kernel⟩
theorem sc__law_nfa : FnScope ["_law_source_here", "_law_signs_here", "_law_most", "_law_many", "_law_edges", "_law_k", "_law_target", "_law_sign", "_law_edge", "_law_ends", "_law_state"] ["_law_source_here", "_law_signs_here", "_law_most"] (defScope s__law_nfa) := ⟨rfl, rfl, rfl, by decide +kernel, rfl, by decide +kernel, by decide +kernel⟩
theorem sc__law_listed : FnScope ["_law_automaton", "_law_edge"] ["_law_automaton"] (defScope s__law_listed) := ⟨rfl, rfl, rfl, by decide +kernel, rfl, by decide +kernel, by decide +kernel⟩
theorem sc__law_place : FnScope ["_law_signs_here", "_law_thing", "raised"] ["_law_signs_here", "_law_thing"] (defScope s__law_place) := ⟨rfl, rfl, rfl, by decide +kernel, rfl, by decide +kernel, by decide +kernel⟩
theorem sc__law_spoilt : FnScope ["_law_source_here", "_law_signs_here", "_law_automaton", "_law_many", "_law_edges", "_law_ends", "_law_kind", "_law_odd", "_law_menu", "_law_at", "_law_start", "_law_sign", "_law_target"] ["_law_source_here", "_law_signs_here", "_law_automaton"] (defScope s__law_spoilt) := ⟨rfl, rfl, rfl, by decide +kernel, rfl, by decide +kernel, by decide +kernel⟩
theorem sc_law : FnScope ["_law_script", "_law_source_here", "_law_signs_here", "_law_automaton", "_law_told", "_law_turn", "_law_thing", "_law_place_here", "_law_many", "_law_edges", "_law_menu", "_law_odd", "raised", "_law_k"] ["_law_script"] (defScope s_law) := ⟨rfl, rfl, rfl, by decide +kernel, rfl, by decide +kernel, by decide +kernel⟩
structure Txt (K : PySem.W.Frag) (mg : Str → Option Value) : Prop where
  b_len : mg "len" = none
  b_range : mg "range" = none
  b_min : mg "min" = none
  b_max : mg "max" = none
  b_isinstance : mg "isinstance" = none
  b_abs : mg "abs" = none
  b_int : mg "int" = none
  b_str : mg "str" = none
  b_bool : mg "bool" = none
  b_tuple : mg "tuple" = none
  b_list : mg "list" = none
  b_repr : mg "repr" = none
  b_sorted : mg "sorted" = none
  b_super : mg "super" = none
  g_LETTERS : ∃ u, mg "LETTERS" = some u ∧ RelV (.str "abcdefghijklmnopqrstuvwxyz") u
  g_MOST_PASSED : ∃ u, mg "MOST_PASSED" = some u ∧ RelV (.int 40) u
  g_MOST_EDGES : ∃ u, mg "MOST_EDGES" = some u ∧ RelV (.int 400) u
  d_is_integer : DefAt K mg "is_integer" s_is_integer ["thing", "low", "high"]
  d_is_listed : DefAt K mg "is_listed" s_is_listed ["thing"]
  d_deep : DefAt K mg "deep" s_deep ["thing"]
  d_is_signs : DefAt K mg "is_signs" s_is_signs ["thing"]
  d_check_signs : DefAt K mg "check_signs" s_check_signs ["thing"]
  d_is_edge : DefAt K mg "is_edge" s_is_edge ["signs", "many", "thing"]
  d_check_automaton : DefAt K mg "check_automaton" s_check_automaton ["signs", "thing"]
  d_checked_automaton : DefAt K mg "checked_automaton" s_checked_automaton ["signs", "thing"]
  d__law_source : DefAt K mg "_law_source" s__law_source ["_law_script", "_law_place_here"]
  d__law_pick : DefAt K mg "_law_pick" s__law_pick ["_law_source_here", "_law_many"]
  d__law_signs : DefAt K mg "_law_signs" s__law_signs ["_law_source_here"]
  d__law_nfa : DefAt K mg "_law_nfa" s__law_nfa ["_law_source_here", "_law_signs_here", "_law_most"]
  d__law_listed : DefAt K mg "_law_listed" s__law_listed ["_law_automaton"]
  d__law_place : DefAt K mg "_law_place" s__law_place ["_law_signs_here", "_law_thing"]
  d__law_spoilt : DefAt K mg "_law_spoilt" s__law_spoilt ["_law_source_here", "_law_signs_here", "_law_automaton"]
end Sh
set_option Elab.async false
set_option linter.all false
set_option maxRecDepth 100000
set_option maxHeartbeats 4000000
namespace Sh
open PySem PySem.Spec PyProof.Rows L2
open SX (S S_inj S_len S_cat)
local macro_rules | `(tactic| walk_at "nx") => `(tactic| repeat (with_reducible first | refine Sh.gn_mk ?_ | refine Sh.nx_mk ?_ | refine Sh.st_nx ?_ | refine Sh.rt_mk ?_ | refine Sh.ct_mk ?_ | refine Sh.bk_mk ?_))
local macro_rules | `(tactic| walk_at "sq") => `(tactic| first | exact SqL.of upd_same | exact SqT.of upd_same | exact SqL.of (by assumption) | exact SqT.of (by assumption) | assumption | exact Or.inl (SqL.of (by assumption)) | exact Or.inr (SqT.of (by assumption)) | exact Or.inl (by assumption) | exact Or.inr (by assumption))
local macro_rules | `(tactic| walk_at "hp") => `(tactic| first | exact upd_same | assumption)
local macro_rules | `(tactic| walk_at "sz") => `(tactic| first | exact Nat.le_of_ble_eq_true rfl | omega)
local macro_rules | `(tactic| walk_at "sd") => `(tactic| first | omega | exact rfl | assumption | (show (0 : Int) < _; omega) | exact And.intro (by omega) (by omega) | exact Or.inl (And.intro (by omega) (by omega)) | exact Or.inr (And.intro (by omega) (by omega)) | omega | exact Sh.sz_S (by omega) | decide)
local macro_rules | `(tactic| walk_at "rd1") => `(tactic| first
  | (with_reducible first | refine Sh.gn_mk ?_ | refine Sh.nx_mk ?_ | refine Sh.st_nx ?_ | refine Sh.rt_mk ?_ | refine Sh.ct_mk ?_ | refine Sh.bk_mk ?_)
  | refine Exists.intro (α := V) _ (And.intro rfl ?_)
  | refine Exists.intro (α := Bool) _ (And.intro rfl ?_)
  | refine Exists.intro (α := Int) _ (And.intro rfl ?_)
  | refine Exists.intro (α := PySem.Str) _ (And.intro rfl ?_)
  | refine Exists.intro (α := Int) _ (Exists.intro (α := Int) _ (And.intro rfl (And.intro rfl ?_)))
  | refine Exists.intro (α := PySem.Str) _ (Exists.intro (α := PySem.Str) _ (And.intro rfl (And.intro rfl ?_)))
  | refine Exists.intro (α := Int) _ (Exists.intro (α := Int) _ (And.intro rfl ?_))
  | refine Or.inl (Exists.intro (α := Int) _ (And.intro rfl ?_))
  | refine Exists.intro _ (Exists.intro _ (Exists.intro _ (Exists.intro _ (And.intro rfl (And.intro rfl (And.intro (by walk_at "sq") (And.intro rfl ?_)))))))
  | refine Exists.intro _ (Exists.intro _ (Exists.intro _ (Exists.intro _ (And.intro rfl (And.intro rfl (And.intro (by walk_at "hp") (And.intro rfl ?_)))))))
  | refine And.intro (by walk_at "sd") ?_
  )
local macro_rules | `(tactic| walk_at "rd") => `(tactic| repeat walk_at "rd1")
local macro_rules | `(tactic| walk_at "lk") => `(tactic| first | exact rfl | (rw [lookup_putF, if_pos rfl]) | (rw [lookup_putF, if_neg (by decide +kernel)]; walk_at "lk"))

section
variable {P : Program} {w : World} {K : PySem.W.Frag} {mg : Str → Option Value} {base : Heap}
/-- _law_pick(source, many): any number from 0 to many - 1; the source changes alone -/
def spPick : Sp := fun vs H Q _ => ∃ (a : Addr) (m : Int), vs = [.ref a, .int m] ∧ Src H a ∧ 0 < m ∧ m < 1000000 ∧ ∀ (r : Int) (H' : Hp), 0 ≤ r → r < m → Src H' a → But a H H' → Q (.int r) H'
theorem c__law_pick (T : Txt K mg) : Cal P w K mg base CX0 1 "_law_pick" spPick := by
  refine Cal.mk0 T.d__law_pick sc__law_pick (fun vs H Q E h => ?_) (fun f cdv A outer s H vs Q E hr h => ?_)
  · obtain ⟨a, m, rfl, _⟩ := h
    rfl
  · obtain ⟨a, m, rfl, ⟨d, sd, c, ha⟩, h0, h1, k⟩ := h
    refine ⟨_, (pss_cons (ps_if (pt_cmpR op_gt (pe_ix ix_list (pv 0) pe_int (fun _ _ => rfl)) pe_int (nomark _))
    (pss_cons (ps_set (i := 2) sc__law_pick.nd rfl (Or.inl rfl) (pe_op op_mod (pe_callTy call_int1 (by rfl) T.b_int (by decide +kernel) (pa_cons (pe_ix ix_list (pv 0) pe_int (fun _ _ => rfl)) pa_nil)) (pv 1)))
    (pss_cons (ps_asg (pe_op op_fdiv (pe_ix ix_list (pv 0) pe_int (fun _ _ => rfl)) (pv 1)) (pg_sub (pv 0) pe_int set_list))
    (pss_one (ps_ret (pv 2)))))
    pss_nil)
  (pss_cons (ps_asg (pe_op op_add (pe_ix ix_list (pv 0) pe_int (fun _ _ => rfl)) pe_int) (pg_sub (pv 0) pe_int set_list))
  (pss_cons (ps_set (i := 3) sc__law_pick.nd rfl (Or.inl rfl) (pe_op op_mod (pe_callTy call_int1 (by rfl) T.b_int (by decide +kernel) (pa_cons (pe_op op_mul (pe_op op_add (pe_ix ix_list (pv 0) pe_int (fun _ _ => rfl)) (pe_op op_mul pe_int (pe_ix ix_list (pv 0) pe_int (fun _ _ => rfl)))) pe_int) pa_nil)) pe_int))
  (pss_cons (ps_set (i := 3) sc__law_pick.nd rfl (Or.inl rfl) (pe_op op_mod (pe_callTy call_int1 (by rfl) T.b_int (by decide +kernel) (pa_cons (pe_op op_add (pe_op op_add (pe_op op_mul (pv 3) (pv 3)) (pe_op op_mul pe_int (pe_ix ix_list (pv 0) pe_int (fun _ _ => rfl)))) (pe_ix ix_list (pv 0) pe_int (fun _ _ => rfl))) pa_nil)) pe_int))
  (pss_cons (ps_set (i := 3) sc__law_pick.nd rfl (Or.inl rfl) (pe_op op_mod (pe_callTy call_int1 (by rfl) T.b_int (by decide +kernel) (pa_cons (pe_op op_add (pe_op op_mul (pv 3) pe_int) pe_int) pa_nil)) pe_int))
  (pss_cons (ps_set (i := 3) sc__law_pick.nd rfl (Or.inl rfl) (pe_op op_mod (pe_callTy call_int1 (by rfl) T.b_int (by decide +kernel) (pa_cons (pe_op op_add (pe_op op_mul (pv 3) (pv 3)) (pv 3)) pa_nil)) pe_int))
  (pss_one (ps_ret (pe_op op_mod (pe_callTy call_int1 (by rfl) T.b_int (by decide +kernel) (pa_cons (pe_op op_fdiv (pv 3) pe_int) pa_nil)) (pv 1)))))))))), ?_⟩
    walk_at "rd"
    refine ite2 (fun c0 => ?_) (fun c0 => ?_)
    · walk_at "rd"
      exact k _ _ (Int.emod_nonneg _ (by omega)) (Int.emod_lt_of_pos _ h0) ⟨_, _, _, upd_same⟩ but_upd
    · walk_at "rd"
      exact k _ _ (Int.emod_nonneg _ (by omega)) (Int.emod_lt_of_pos _ h0) ⟨_, _, _, upd_same⟩ but_upd
/-- _law_source(script, place): a new source -/
def spSource (K : PySem.W.Frag) : Sp := fun vs H Q _ => ∃ (a : Addr) (ns : List Int) (i : Int), vs = [.ref a, .int i] ∧ SqL K H a (ns.map V.int) ∧ (∀ z ∈ ns, Builtin.Int.intBits z ≤ 1048576) ∧ ns.length ≤ 63 ∧ 0 ≤ i ∧ i < 100 ∧
  ∀ (p : Addr) (H' : Hp), H p = none → Same H H' → Src H' p → Q (.ref p) H'
theorem cut_ints (ns : List Int) : ∃ ms : List Int, cutV (ns.map V.int) none (some 4) = ms.map V.int := ⟨_, by unfold cutV; rw [← List.map_drop, ← List.map_take]⟩
theorem c__law_source (T : Txt K mg) : Cal P w K mg base CX0 1 "_law_source" (spSource K) := by
  refine Cal.mk0 T.d__law_source sc__law_source (fun vs H Q E h => ?_) (fun f cdv A outer s H vs Q E hr h => ?_)
  · obtain ⟨a, ns, i, rfl, _⟩ := h
    rfl
  · obtain ⟨a, ns, i, rfl, hS, hb, hl, hi0, hi1, k⟩ := h
    obtain ⟨ms, hms⟩ := cut_ints ns
    refine ⟨_, (pss_cons (ps_set (i := 2) sc__law_source.nd rfl (Or.inl rfl) (pe_ifExp (pt_cmpR op_lt (pv 1) (pe_callB call_len_seq (by rfl) T.b_len (by decide +kernel) (pa_cons (pv 0) pa_nil)) (nomark _)) (pe_ix ix_list (pv 0) (pv 1) (fun _ _ => rfl)) (pe_op op_add (pe_op op_mul pe_int (pv 1)) pe_int)))
  (pss_cons (ps_set (i := 3) sc__law_source.nd rfl (Or.inl rfl) (pe_op op_add (pe_op op_mul pe_int (pv 1)) pe_int))
  (pss_cons (ps_for PassesOwn.never rfl (pi_list (pe_slice sl_list (pv 0) po_none (po_some pe_int))) (pg_name (i := 4) sc__law_source.nd rfl (Or.inl rfl))
    (pss_one (ps_set (i := 3) sc__law_source.nd rfl (Or.inl rfl) (pe_op op_mod (pe_callTy call_int1 (by rfl) T.b_int (by decide +kernel) (pa_cons (pe_op op_add (pe_op op_mul (pv 3) pe_int) (pe_op op_mod (pe_callTy call_int1 (by rfl) T.b_int (by decide +kernel) (pa_cons (pv 4) pa_nil)) pe_int)) pa_nil)) pe_int))))
  (pss_cons (ps_set (i := 3) sc__law_source.nd rfl (Or.inl rfl) (pe_op op_mod (pe_callTy call_int1 (by rfl) T.b_int (by decide +kernel) (pa_cons (pe_op op_add (pe_op op_mul (pv 3) pe_int) (pe_op op_mod (pe_callTy call_int1 (by rfl) T.b_int (by decide +kernel) (pa_cons (pv 2) pa_nil)) pe_int)) pa_nil)) pe_int))
  (pss_cons (ps_set (i := 5) sc__law_source.nd rfl (Or.inl rfl) (pe_callB call_abs (by rfl) T.b_abs (by decide +kernel) (pa_cons (pv 2) pa_nil)))
  (pss_cons (ps_if (pt_cmpR op_lt (pv 5) (pe_op op_pow pe_int pe_int) (nomark _))
    (pss_one (ps_ret (pe_lst (pa_cons pe_int (pa_cons (pv 3) (pa_cons pe_int pa_nil))))))
    pss_nil)
  (pss_cons (ps_if (pt_cmpR op_gt (pe_op op_shr (pv 5) pe_int) pe_int (nomark _))
    (pss_one (ps_set (i := 5) sc__law_source.nd rfl (Or.inl rfl) (pe_op op_sub (pv 5) (pe_op op_shlW (pe_op op_shr (pv 5) pe_int) pe_int))))
    pss_nil)
  (pss_one (ps_ret (pe_lst (pa_cons (pv 5) (pa_cons (pv 3) (pa_cons pe_int pa_nil))))))))))))), ?_⟩
    -- cell
    refine st_asgJ (fun v H' => H' = H ∧ ∃ z, v = V.int z ∧ Builtin.Int.intBits z ≤ 1048576) (fun Q' kQ => ?_) ?_
    · refine ⟨_, rfl, _, rfl, _, _, rfl, .inl hS, _, _, rfl, rfl, _, rfl, ?_⟩
      refine ite2 (fun c0 => ?_) (fun c0 => ?_)
      · have c1 : i < (ns.map V.int).length := of_decide_eq_true c0
        rw [List.length_map] at c1
        have c2 : i.toNat < ns.length := by omega
        refine ⟨_, rfl, _, rfl, _, _, _, .int ns[i.toNat], rfl, rfl, hS, ?_, kQ _ _ ⟨rfl, _, rfl, hb _ (List.getElem_mem c2)⟩⟩
        exact atI_at hi0 (by simp [c2])
      · walk_at "rd"
        refine kQ _ _ ⟨rfl, _, rfl, ?_⟩
        refine Nat.le_trans ((PySem.intBits_le_iff (m := 20)).mpr ?_) (by decide)
        show (7 * i + 5).natAbs < 2 ^ 20
        omega
    · rintro v H' ⟨rfl, cell, rfl, hcell⟩
      walk_at "rd"
      -- script[:4]
      refine ⟨_, _, rfl, hS, fun p hp => ?_⟩
      rw [hms]
      refine ⟨p, rfl, ⟨_, SqL.of upd_same⟩, for_lst (K := K) (a := p) (f := V.int) (l := ms) (fun pre σ H2 => ∃ (sd : Int) (v : Option V), σ = [some (.ref a), some (.int i), some (.int cell), some (.int sd), v, none] ∧ H2 = upd H' p (.lst (ms.map V.int)))
        ⟨_, _, rfl, rfl⟩ (fun pre σ H2 ⟨_, _, _, e⟩ => e ▸ SqL.of upd_same) ?_ ?_⟩
      · rintro pre x post σ H2 e ⟨sd, v, rfl, rfl⟩
        walk_at "rd"
        exact ⟨_, _, rfl, rfl⟩
      · rintro σ H2 ⟨sd, v, rfl, rfl⟩
        walk_at "rd"
        refine ite2 (fun c0 => ?_) (fun c0 => ?_)
        · walk_at "rd"
          refine ⟨by walk_at "sz", fun q hq => ?_⟩
          have s1 : Same H' (upd H' p (.lst (ms.map V.int))) := same_new hp
          exact k q _ (s1.free hq) (s1.trans (same_new hq)) ⟨_, _, _, upd_same⟩
        · walk_at "nx"
          refine st_ifJ (fun σ' H3 => H3 = upd H' p (.lst (ms.map V.int)) ∧ ∃ n sd v, σ' = [some (.ref a), some (.int i), some (.int cell), some (.int sd), v, some (.int n)]) (fun N kN => ?_) ?_
          · walk_at "rd"
            refine ite2 (fun c1 => ?_) (fun c1 => ?_)
            · walk_at "rd"
              have hn : Builtin.Int.intBits (if cell < 0 then -cell else cell) ≤ 1048576 := by
                split
                · exact PySem.intBits_neg_le hcell
                · exact hcell
              refine ⟨?_, ?_⟩
              · have h2 := PySem.intBits_le_of_natAbs (x := (if cell < 0 then -cell else cell) / 2 ^ Int.toNat 2500) (y := if cell < 0 then -cell else cell) (by first | exact Int.natAbs_ediv_le_natAbs _ _ | exact Int.natAbs_div_le_natAbs _ _) hn
                refine ⟨by decide, ?_⟩
                show _ + (2500 : Int) ≤ 134217728
                omega
              · walk_at "rd"
                exact kN _ _ ⟨rfl, _, _, _, rfl⟩
            · walk_at "rd"
              exact kN _ _ ⟨rfl, _, _, _, rfl⟩
          · rintro σ' H3 ⟨rfl, n, sd', v', rfl⟩
            walk_at "rd"
            refine ⟨by walk_at "sz", fun q hq => ?_⟩
            have s1 : Same H' (upd H' p (.lst (ms.map V.int))) := same_new hp
            exact k q _ (s1.free hq) (s1.trans (same_new hq)) ⟨_, _, _, upd_same⟩
end
end Sh
set_option Elab.async false
set_option linter.all false
namespace Sh
open PySem PySem.Spec PyProof.Rows L2
open SX (S S_inj S_len S_cat)
theorem cut_from {t : List Nat} {i : Int} (h : 0 ≤ i) : cutS (S t) (some i) none = S (t.drop i.toNat) := by
  rw [C8.cutS_slice]; exact SX.slice_from h
theorem cut_to {t : List Nat} {i : Int} (h : 0 ≤ i) : cutS (S t) none (some i) = S (t.take i.toNat) := by
  rw [C8.cutS_slice]; exact SX.slice_to h
theorem cut_mid {t : List Nat} {i j : Int} (h : 0 ≤ i) (k : 0 ≤ j) : cutS (S t) (some i) (some j) = S ((t.drop i.toNat).take (j.toNat - i.toNat)) := by
  unfold cutS
  have e : (S t).length = t.length := S_len t
  have h1 : HT.sIx t.length 0 (some i) = min i.toNat t.length := by
    show (if i < 0 then _ else min i.toNat t.length) = _
    rw [if_neg (by omega)]
  have h2 : HT.sIx t.length t.length (some j) = min j.toNat t.length := by
    show (if j < 0 then _ else min j.toNat t.length) = _
    rw [if_neg (by omega)]
  rw [e, h1, h2]
  show S ((t.drop (min i.toNat t.length)).take (min j.toNat t.length - min i.toNat t.length)) = _
  congr 1
  apply List.ext_getElem?
  intro n
  simp only [List.getElem?_take, List.getElem?_drop]
  by_cases hi : i.toNat ≤ t.length
  · rw [Nat.min_eq_left hi]
    by_cases hn : n < j.toNat - i.toNat
    · rw [if_pos hn]
      by_cases hn2 : n < min j.toNat t.length - i.toNat
      · rw [if_pos hn2]
      · rw [if_neg hn2, List.getElem?_eq_none (by omega)]
    · rw [if_neg hn, if_neg (by omega)]
  · have e1 : min i.toNat t.length = t.length := by omega
    rw [e1, List.getElem?_eq_none (l := t) (i := t.length + n) (by omega), List.getElem?_eq_none (l := t) (i := i.toNat + n) (by omega)]
    simp
theorem endswith_S (a b : List Nat) : Txt.endswith (S a) (S b) = b.isSuffixOf a := by
  unfold Txt.endswith
  rw [PySem.StrLaws.subAt_eq, S_len, S_len, Bool.eq_iff_iff, List.isSuffixOf_iff_suffix, List.suffix_iff_eq_drop]
  simp only [Bool.and_eq_true, decide_eq_true_eq, beq_iff_eq]
  constructor
  · rintro ⟨h1, h2⟩
    rw [List.take_of_length_le (by rw [List.length_drop]; omega)] at h2
    exact h2.symm
  · intro h
    have hl := congrArg List.length h
    rw [List.length_drop] at hl
    refine ⟨by omega, ?_⟩
    rw [List.take_of_length_le (by rw [List.length_drop]; omega)]
    exact h.symm
theorem startswith_S (a b : List Nat) : Txt.startswith (S a) (S b) = b.isPrefixOf a := by
  unfold Txt.startswith
  rw [PySem.StrLaws.subAt_eq, S_len, S_len, Bool.eq_iff_iff, List.isPrefixOf_iff_prefix, List.prefix_iff_eq_take]
  simp only [Bool.and_eq_true, decide_eq_true_eq, beq_iff_eq, List.drop_zero]
  constructor
  · rintro ⟨h1, h2⟩
    exact h2.symm
  · intro h
    have hl := congrArg List.length h
    rw [List.length_take] at hl
    exact ⟨by omega, h.symm⟩
theorem join_nil (l : List (List Nat)) : Txt.join (S []) (l.map S) = S l.flatten := by
  rw [SX.join_S]
  congr 1
  induction l with
  | nil => rfl
  | cons x l ih =>
    cases l with
    | nil => simp [TL.joinL]
    | cons y l =>
      rw [List.flatten_cons, ← ih]
      simp [TL.joinL]
theorem flat_one (l : List Nat) : (l.map fun c => [c]).flatten = l := by
  induction l with
  | nil => rfl
  | cons x l ih => rw [List.map_cons, List.flatten_cons, ih]; rfl
end Sh
set_option Elab.async false
set_option linter.all false
set_option maxRecDepth 100000
set_option maxHeartbeats 4000000
namespace Sh
open PySem PySem.Spec PyProof.Rows L2
open SX (S S_inj S_len S_cat)
local macro_rules | `(tactic| walk_at "nx") => `(tactic| repeat (with_reducible first | refine Sh.gn_mk ?_ | refine Sh.nx_mk ?_ | refine Sh.st_nx ?_ | refine Sh.rt_mk ?_ | refine Sh.ct_mk ?_ | refine Sh.bk_mk ?_))
local macro_rules | `(tactic| walk_at "sq") => `(tactic| first | exact SqL.of upd_same | exact SqT.of upd_same | exact SqL.of (by assumption) | exact SqT.of (by assumption) | assumption | exact Or.inl (SqL.of (by assumption)) | exact Or.inr (SqT.of (by assumption)) | exact Or.inl (by assumption) | exact Or.inr (by assumption))
local macro_rules | `(tactic| walk_at "hp") => `(tactic| first | exact upd_same | assumption)
local macro_rules | `(tactic| walk_at "sz") => `(tactic| first | exact Nat.le_of_ble_eq_true rfl | omega)
local macro_rules | `(tactic| walk_at "sd") => `(tactic| first | omega | exact rfl | assumption | (show (0 : Int) < _; omega) | exact And.intro (by omega) (by omega) | exact Or.inl (And.intro (by omega) (by omega)) | exact Or.inr (And.intro (by omega) (by omega)) | omega | exact Sh.sz_S (by omega) | decide)
local macro_rules | `(tactic| walk_at "rd1") => `(tactic| first
  | (with_reducible first | refine Sh.gn_mk ?_ | refine Sh.nx_mk ?_ | refine Sh.st_nx ?_ | refine Sh.rt_mk ?_ | refine Sh.ct_mk ?_ | refine Sh.bk_mk ?_)
  | refine Exists.intro (α := V) _ (And.intro rfl ?_)
  | refine Exists.intro (α := Bool) _ (And.intro rfl ?_)
  | refine Exists.intro (α := Int) _ (And.intro rfl ?_)
  | refine Exists.intro (α := PySem.Str) _ (And.intro rfl ?_)
  | refine Exists.intro (α := Int) _ (Exists.intro (α := Int) _ (And.intro rfl (And.intro rfl ?_)))
  | refine Exists.intro (α := PySem.Str) _ (Exists.intro (α := PySem.Str) _ (And.intro rfl (And.intro rfl ?_)))
  | refine Exists.intro (α := Int) _ (Exists.intro (α := Int) _ (And.intro rfl ?_))
  | refine Or.inl (Exists.intro (α := Int) _ (And.intro rfl ?_))
  | refine Exists.intro _ (Exists.intro _ (Exists.intro _ (Exists.intro _ (And.intro rfl (And.intro rfl (And.intro (by walk_at "sq") (And.intro rfl ?_)))))))
  | refine Exists.intro _ (Exists.intro _ (Exists.intro _ (Exists.intro _ (And.intro rfl (And.intro rfl (And.intro (by walk_at "hp") (And.intro rfl ?_)))))))
  | refine And.intro (by walk_at "sd") ?_
  )
local macro_rules | `(tactic| walk_at "rd") => `(tactic| repeat walk_at "rd1")
local macro_rules | `(tactic| walk_at "lk") => `(tactic| first | exact rfl | (rw [lookup_putF, if_pos rfl]) | (rw [lookup_putF, if_neg (by decide +kernel)]; walk_at "lk"))

section
variable {P : Program} {w : World} {K : PySem.W.Frag} {mg : Str → Option Value} {base : Heap}
/-- the signs that the law draws -/
def sgMenu : List (List Nat) := [[97, 98], [97, 98, 99], [97, 98], [97, 99], [97, 98, 99], [98, 122], [97], [98, 99, 100], [97, 98], [107, 109, 122], [97, 98, 99], [120, 121]]
def spSigns : Sp := fun vs H Q _ => ∃ (a : Addr), vs = [.ref a] ∧ Src H a ∧ ∀ (sg : List Nat) (H' : Hp), sg ∈ sgMenu → Src H' a → But a H H' → Q (.str (S sg)) H'
theorem sgMenu_V : ([V.str "ab", V.str "abc", V.str "ab", V.str "ac", V.str "abc", V.str "bz", V.str "a", V.str "bcd", V.str "ab", V.str "kmz", V.str "abc", V.str "xy"] : List V) = sgMenu.map fun l => V.str (S l) := by decide +kernel
theorem c__law_signs (T : Txt K mg) : Cal P w K mg base CX0 2 "_law_signs" spSigns := by
  have c__law_pick := c__law_pick (P := P) (w := w) (base := base) T
  refine Cal.mk0 T.d__law_signs sc__law_signs (fun vs H Q E h => ?_) (fun f cdv A outer s H vs Q E hr h => ?_)
  · obtain ⟨a, rfl, _⟩ := h
    rfl
  · obtain ⟨a, rfl, hs, k⟩ := h
    refine ⟨_, (pss_cons (ps_set (i := 1) sc__law_signs.nd rfl (Or.inl rfl) (pe_lst (pa_cons pe_str (pa_cons pe_str (pa_cons pe_str (pa_cons pe_str (pa_cons pe_str (pa_cons pe_str (pa_cons pe_str (pa_cons pe_str (pa_cons pe_str (pa_cons pe_str (pa_cons pe_str (pa_cons pe_str pa_nil))))))))))))))
  (pss_one (ps_ret (pe_ix ix_list (pv 1) (pe_c c__law_pick hr (by decide) rfl (pa_cons (pv 0) (pa_cons (pe_callB call_len_seq (by rfl) T.b_len (by decide +kernel) (pa_cons (pv 1) pa_nil)) pa_nil))) (fun _ _ => rfl))))), ?_⟩
    refine ⟨by walk_at "sz", fun p hp => ?_⟩
    rw [sgMenu_V]
    have ns := same_new (o := .lst (sgMenu.map fun l => V.str (S l))) hp
    obtain ⟨d, sd, c, ha⟩ := id hs
    have hs1 : Src (upd H p (.lst (sgMenu.map fun l => V.str (S l)))) a := ⟨d, sd, c, ns _ _ ha⟩
    have npa : p ≠ a := (ne_of_none ha hp).symm
    refine ⟨_, rfl, _, rfl, _, rfl, p, _, rfl, .inl (SqL.of upd_same), ?_⟩
    refine ⟨_, _, rfl, hs1, by decide, by decide, fun r H2 r0 r1 s2 b2 => ?_⟩
    have r1' : r < 12 := r1
    have hr2 : r.toNat < sgMenu.length := by show _ < 12; omega
    refine ⟨p, _, r, .str (S sgMenu[r.toNat]), rfl, rfl, SqL.of (b2 _ _ npa upd_same), atI_at r0 (by rw [List.getElem?_map, List.getElem?_eq_getElem hr2]; rfl), ?_⟩
    exact k _ _ (List.getElem_mem hr2) s2 (But.trans (But.same ns) b2)
/-- a drawn text -/
def spText : Sp := fun vs H Q _ => ∃ (a : Addr) (sg : List Nat) (m : Int), vs = [.ref a, .str (S sg), .int m] ∧ Src H a ∧ 0 < sg.length ∧ sg.length ≤ 1000 ∧ 0 ≤ m ∧ m < 1000 ∧
  ∀ (t : List Nat) (H' : Hp), (t.length : Int) ≤ m → (∀ c ∈ t, c ∈ sg) → Src H' a → But a H H' → Q (.str (S t)) H'
/-- (len(text), text) -/
def spKey : Sp := fun vs H Q _ => ∃ t : List Nat, vs = [.str (S t)] ∧ t.length ≤ 1000000 ∧ ∀ p, H p = none → Q (.ref p) (upd H p (.tup [.int t.length, .str (S t)]))
/-- a drawn rule: its left side has 1 to longest signs, its right side none, or one and the left side two or more -/
def RuleOk (sg : List Nat) (m : Nat) (r : List Nat × List Nat) : Prop :=
  1 ≤ r.1.length ∧ r.1.length ≤ m ∧ (∀ c ∈ r.1, c ∈ sg) ∧ (∀ c ∈ r.2, c ∈ sg) ∧ r.2.length ≤ 1 ∧ r.2.length < r.1.length
def rTup (r : List Nat × List Nat) : List V := [.str (S r.1), .str (S r.2)]
def spRule : Sp := fun vs H Q _ => ∃ (a : Addr) (sg : List Nat) (m : Int), vs = [.ref a, .str (S sg), .int m] ∧ Src H a ∧ 0 < sg.length ∧ sg.length ≤ 1000 ∧ 1 ≤ m ∧ m ≤ 4 ∧
  ∀ (r : List Nat × List Nat) (p : Addr) (H' : Hp), RuleOk sg m.toNat r → Src H' a → But a H H' → H p = none → H' p = some (.tup (rTup r)) → Q (.ref p) H'
end
end Sh
/-! texts, rules, piles, ends: plain Lean -/
namespace Bk
abbrev T := List Nat
abbrev Rule := T × T

def fits (p : T) (r : Rule) : Bool := r.1.isSuffixOf p
def useR (p : T) (r : Rule) : T := p.take (p.length - r.1.length) ++ r.2
def used (R : List Rule) (p : T) : Option T := (R.find? (fits p)).map (useR p)
def drain (R : List Rule) : Nat → T → T
  | 0, p => p
  | n + 1, p => match used R p with
    | none => p
    | some q => drain R n q
def pushS (R : List Rule) (p : T) (c : Nat) : T := drain R (p.length + 1) (p ++ [c])
def left (R : List Rule) (t : T) : T := t.foldl (pushS R) []

/-- every right side is shorter than its left side and has at most one sign -/
def Wf (R : List Rule) : Prop := ∀ r ∈ R, r.2.length < r.1.length ∧ r.2.length ≤ 1

inductive Step (R : List Rule) : T → T → Prop where
  | mk (x y : T) (r : Rule) (h : r ∈ R) : Step R (x ++ r.1 ++ y) (x ++ r.2 ++ y)
inductive Reach (R : List Rule) : T → T → Prop where
  | refl (t : T) : Reach R t t
  | step {a b c : T} : Step R a b → Reach R b c → Reach R a c
def IsEnd (R : List Rule) (t : T) : Prop := ∀ u, ¬ Step R t u

theorem Reach.trans {R : List Rule} {a b c : T} (h : Reach R a b) (k : Reach R b c) : Reach R a c := by
  induction h with
  | refl => exact k
  | step s _ ih => exact .step s (ih k)
theorem Step.ctx {R : List Rule} {a b : T} (x y : T) (h : Step R a b) : Step R (x ++ a ++ y) (x ++ b ++ y) := by
  cases h with
  | mk p q r hr =>
    have := Step.mk (R := R) (x ++ p) (q ++ y) r hr
    simpa [List.append_assoc] using this
theorem Reach.ctx {R : List Rule} {a b : T} (x y : T) (h : Reach R a b) : Reach R (x ++ a ++ y) (x ++ b ++ y) := by
  induction h with
  | refl => exact .refl _
  | step s _ ih => exact .step (s.ctx x y) ih
theorem Step.len {R : List Rule} (w : Wf R) {a b : T} (h : Step R a b) : b.length < a.length := by
  cases h with
  | mk p q r hr => have := (w r hr).1; simp; omega
theorem Reach.len {R : List Rule} (w : Wf R) {a b : T} (h : Reach R a b) : b.length ≤ a.length := by
  induction h with
  | refl => exact Nat.le_refl _
  | step s _ ih => have := s.len w; omega

theorem fits_iff {p : T} {r : Rule} : fits p r = true ↔ ∃ x, p = x ++ r.1 := by
  unfold fits
  rw [List.isSuffixOf_iff_suffix]
  constructor
  · rintro ⟨x, h⟩; exact ⟨x, h.symm⟩
  · rintro ⟨x, h⟩; exact ⟨x, h.symm⟩
theorem useR_app {x : T} {r : Rule} : useR (x ++ r.1) r = x ++ r.2 := by
  unfold useR
  simp
theorem used_some {R : List Rule} {p q : T} (h : used R p = some q) : ∃ x r, r ∈ R ∧ p = x ++ r.1 ∧ q = x ++ r.2 := by
  unfold used at h
  cases e : R.find? (fits p) with
  | none => rw [e] at h; cases h
  | some r =>
    rw [e] at h
    have hr := List.mem_of_find?_eq_some e
    have hf := List.find?_some e
    obtain ⟨x, hx⟩ := fits_iff.mp hf
    subst hx
    simp only [Option.map_some, Option.some.injEq] at h
    rw [useR_app] at h
    exact ⟨x, r, hr, rfl, h.symm⟩
theorem used_none {R : List Rule} {p : T} (h : used R p = none) : ∀ r ∈ R, ∀ x, p ≠ x ++ r.1 := by
  intro r hr x e
  unfold used at h
  rw [Option.map_eq_none_iff, List.find?_eq_none] at h
  exact h r hr (fits_iff.mpr ⟨x, e⟩)
theorem used_step {R : List Rule} {p q : T} (h : used R p = some q) : Step R p q := by
  obtain ⟨x, r, hr, rfl, rfl⟩ := used_some h
  have := Step.mk (R := R) x [] r hr
  simpa using this
theorem drain_reach {R : List Rule} : ∀ (n : Nat) (p : T), Reach R p (drain R n p)
  | 0, p => .refl _
  | n + 1, p => by
    unfold drain
    split
    · exact .refl _
    · next q h => exact .step (used_step h) (drain_reach n q)
theorem drain_none {R : List Rule} (w : Wf R) : ∀ (n : Nat) (p : T), p.length ≤ n → used R (drain R n p) = none
  | 0, p, h => by
    have : p = [] := by cases p with | nil => rfl | cons => simp at h
    subst this
    unfold drain
    cases e : used R [] with
    | none => rfl
    | some q => have := (used_step e).len w; simp at this
  | n + 1, p, h => by
    unfold drain
    split
    · next e => exact e
    · next q e =>
      have := (used_step e).len w
      exact drain_none w n q (by omega)
/-- all but the last sign is an end -/
def Near (R : List Rule) (p : T) : Prop := ∃ x y, p = x ++ y ∧ y.length ≤ 1 ∧ IsEnd R x
theorem isEnd_iff {R : List Rule} {t : T} : IsEnd R t ↔ ∀ r ∈ R, ∀ x y, t ≠ x ++ r.1 ++ y := by
  constructor
  · intro h r hr x y e
    exact h (x ++ r.2 ++ y) (e ▸ Step.mk x y r hr)
  · intro h u s
    cases s with
    | mk x y r hr => exact h r hr x y rfl
theorem IsEnd.pre {R : List Rule} {x y : T} (h : IsEnd R (x ++ y)) : IsEnd R x := by
  rw [isEnd_iff] at h ⊢
  intro r hr a b e
  refine h r hr a (b ++ y) ?_
  rw [e]; simp [List.append_assoc]
theorem IsEnd.infix {R : List Rule} {x y z : T} (h : IsEnd R (x ++ y ++ z)) : IsEnd R y := by
  rw [isEnd_iff] at h ⊢
  intro r hr a b e
  refine h r hr (x ++ a) (b ++ z) ?_
  rw [e]; simp [List.append_assoc]
theorem near_end {R : List Rule} (w : Wf R) {p : T} (h : Near R p) (hu : used R p = none) : IsEnd R p := by
  obtain ⟨x, y, rfl, hy, hx⟩ := h
  rw [isEnd_iff] at hx ⊢
  intro r hr a b e
  rcases List.append_eq_append_iff.mp e with ⟨c, e1, e2⟩ | ⟨c, e1, e2⟩
  · -- a ++ r.1 = x ++ c, y = c ++ b
    cases b with
    | nil => exact used_none hu r hr a (by rw [e]; simp)
    | cons b0 b' =>
      have : c = [] := by
        cases c with
        | nil => rfl
        | cons c0 c' =>
          have q := congrArg List.length e2
          simp at q
          omega
      subst this
      exact hx r hr a [] (by simpa using e1.symm)
  · exact hx r hr a c e1
theorem near_used {R : List Rule} (w : Wf R) {p q : T} (h : Near R p) (hu : used R p = some q) : Near R q := by
  obtain ⟨x, y, rfl, hy, hx⟩ := h
  obtain ⟨a, r, hr, e, rfl⟩ := used_some hu
  refine ⟨a, r.2, rfl, (w r hr).2, ?_⟩
  have hl := (w r hr).1
  rcases List.append_eq_append_iff.mp e with ⟨c, e1, e2⟩ | ⟨c, e1, e2⟩
  · -- a = x ++ c, y = c ++ r.1
    have : c = [] := by
      cases c with
      | nil => rfl
      | cons c0 c' =>
        have q := congrArg List.length e2
        simp at q
        omega
    subst this
    simp at e1
    rw [e1]; exact hx
  · rw [e1] at hx; exact hx.pre
theorem near_drain {R : List Rule} (w : Wf R) : ∀ (n : Nat) (p : T), Near R p → p.length ≤ n → IsEnd R (drain R n p)
  | 0, p, h, hn => by
    have hu := drain_none w 0 p hn
    exact near_end w h hu
  | n + 1, p, h, hn => by
    unfold drain
    split
    · next e => exact near_end w h e
    · next q e =>
      have := (used_step e).len w
      exact near_drain w n q (near_used w h e) (by omega)
theorem push_end {R : List Rule} (w : Wf R) {p : T} {c : Nat} (h : IsEnd R p) : IsEnd R (pushS R p c) :=
  near_drain w _ _ ⟨p, [c], rfl, Nat.le_refl _, h⟩ (by simp)
theorem foldl_end {R : List Rule} (w : Wf R) : ∀ (t p : T), IsEnd R p → IsEnd R (t.foldl (pushS R) p)
  | [], _, h => h
  | c :: t, p, h => foldl_end w t _ (push_end w h)
theorem end_nil {R : List Rule} (w : Wf R) : IsEnd R [] := by
  intro u s
  have := s.len w
  simp at this
theorem left_end {R : List Rule} (w : Wf R) (t : T) : IsEnd R (left R t) := foldl_end w t [] (end_nil w)
theorem foldl_reach {R : List Rule} : ∀ (t p : T), Reach R (p ++ t) (t.foldl (pushS R) p)
  | [], p => by simpa using Reach.refl (R := R) p
  | c :: t, p => by
    have h1 : Reach R (p ++ [c]) (pushS R p c) := drain_reach _ _
    have h2 := h1.ctx [] t
    have h3 := foldl_reach (R := R) t (pushS R p c)
    simp only [List.nil_append, List.append_assoc, List.singleton_append] at h2
    exact h2.trans h3
theorem left_reach {R : List Rule} (t : T) : Reach R t (left R t) := by
  exact foldl_reach (R := R) t []
theorem reach_end {R : List Rule} {a b : T} (h : IsEnd R a) (k : Reach R a b) : b = a := by
  cases k with
  | refl => rfl
  | step s _ => exact absurd s (h _)
theorem left_of_end {R : List Rule} {t : T} (h : IsEnd R t) : left R t = t := reach_end h (left_reach t)

/-! ### overlaps -/
def Join (R : List Rule) (a b : T) : Prop := ∃ c, Reach R a c ∧ Reach R b c
theorem Join.symm {R : List Rule} {a b : T} (h : Join R a b) : Join R b a := by
  obtain ⟨c, h1, h2⟩ := h; exact ⟨c, h2, h1⟩
theorem Join.ctx {R : List Rule} {a b : T} (x y : T) (h : Join R a b) : Join R (x ++ a ++ y) (x ++ b ++ y) := by
  obtain ⟨c, h1, h2⟩ := h; exact ⟨_, h1.ctx x y, h2.ctx x y⟩

/-- the overlap of a with b at a place below the length of a: the text, if they agree -/
def over (a b : T) (k : Nat) : Option T :=
  if (a.drop k).take (min (a.length - k) b.length) = b.take (min (a.length - k) b.length) then some (a ++ b.drop (min (a.length - k) b.length)) else none
/-- both results -/
def res1 (r : Rule) (t : T) : T := r.2 ++ t.drop r.1.length
def res2 (r : Rule) (t : T) (k : Nat) : T := t.take k ++ r.2 ++ t.drop (k + r.1.length)
/-- the overlaps of all pairs of rules, each with equal ends -/
def Meets (R : List Rule) : Prop := ∀ r ∈ R, ∀ q ∈ R, ∀ k, k < r.1.length → ∀ t, over r.1 q.1 k = some t → left R (res1 r t) = left R (res2 q t k)

theorem over_app {p b y a z : T} (h : p ++ b ++ y = a ++ z) (hk : p.length < a.length) :
    ∃ t y', over a b p.length = some t ∧ p ++ b ++ y = t ++ y' ∧ t.drop a.length ++ y' = z ∧ t.drop (p.length + b.length) ++ y' = y ∧ t.take p.length = p := by
  have hlen : (p ++ b ++ y).length = (a ++ z).length := by rw [h]
  simp at hlen
  rw [List.append_assoc] at h
  rcases List.append_eq_append_iff.mp h with ⟨c, e1, e2⟩ | ⟨c, e1, e2⟩
  · -- a = p ++ c, b ++ y = c ++ z
    subst e1
    rcases List.append_eq_append_iff.mp e2 with ⟨d, e3, e4⟩ | ⟨d, e3, e4⟩
    · -- c = b ++ d, y = d ++ z : b within a
      subst e3; subst e4
      refine ⟨p ++ (b ++ d), z, ?_, ?_, ?_, ?_, ?_⟩
      · unfold over
        have : min ((p ++ (b ++ d)).length - p.length) b.length = b.length := by simp
        rw [this]
        simp
      · simp [List.append_assoc]
      · simp
      · rw [← List.append_assoc p b d, ← List.length_append, List.drop_left]
      · simp
    · -- b = c ++ d, z = d ++ y
      subst e3; subst e4
      refine ⟨p ++ c ++ d, y, ?_, ?_, ?_, ?_, ?_⟩
      · unfold over
        have : min ((p ++ c).length - p.length) (c ++ d).length = c.length := by simp
        rw [this]
        simp
      · simp [List.append_assoc]
      · rw [List.drop_left]
      · simp [← Nat.add_assoc]
      · simp [List.append_assoc]
  · -- p = a ++ c
    subst e1
    simp at hk
    omega
theorem local_le {R : List Rule} (M : Meets R) {x1 y1 x2 y2 : T} {r q : Rule} (hr : r ∈ R) (hq : q ∈ R) (e : x1 ++ r.1 ++ y1 = x2 ++ q.1 ++ y2) (hl : x1.length ≤ x2.length) :
    Join R (x1 ++ r.2 ++ y1) (x2 ++ q.2 ++ y2) := by
  have e' : x1 ++ (r.1 ++ y1) = x2 ++ (q.1 ++ y2) := by simpa [List.append_assoc] using e
  obtain ⟨p, hp⟩ : ∃ p, x2 = x1 ++ p := by
    rcases List.append_eq_append_iff.mp e' with ⟨c, e1, _⟩ | ⟨c, e1, _⟩
    · exact ⟨c, e1⟩
    · have : c = [] := by
        have := congrArg List.length e1
        simp at this
        cases c with
        | nil => rfl
        | cons => simp at this; omega
      subst this
      exact ⟨[], by simpa using e1.symm⟩
  subst hp
  have e2 : r.1 ++ y1 = p ++ (q.1 ++ y2) := by
    rw [List.append_assoc] at e'
    exact List.append_cancel_left e'
  by_cases hk : p.length < r.1.length
  · obtain ⟨t, y', ho, _, hz, hy, htk⟩ := over_app (p := p) (b := q.1) (y := y2) (a := r.1) (z := y1) (by rw [e2, List.append_assoc]) hk
    have m := M r hr q hq p.length hk t ho
    have j : Join R (res1 r t) (res2 q t p.length) := ⟨_, left_reach _, m ▸ left_reach _⟩
    have j2 := j.ctx x1 y'
    have a1 : x1 ++ res1 r t ++ y' = x1 ++ r.2 ++ y1 := by
      unfold res1; rw [← hz]; simp [List.append_assoc]
    have a2 : x1 ++ res2 q t p.length ++ y' = x1 ++ p ++ q.2 ++ y2 := by
      unfold res2; rw [← hy, htk]; simp [List.append_assoc]
    rw [a1, a2] at j2
    exact j2
  · -- apart
    obtain ⟨m, hm⟩ : ∃ m, p = r.1 ++ m := by
      rcases List.append_eq_append_iff.mp e2 with ⟨c, e1, _⟩ | ⟨c, e1, _⟩
      · exact ⟨c, e1⟩
      · have : c = [] := by
          have := congrArg List.length e1
          simp at this
          cases c with
          | nil => rfl
          | cons => simp at this; omega
        subst this
        exact ⟨[], by simpa using e1.symm⟩
    subst hm
    have hy1 : y1 = m ++ (q.1 ++ y2) := by
      rw [List.append_assoc] at e2
      exact List.append_cancel_left e2
    subst hy1
    refine ⟨x1 ++ r.2 ++ m ++ q.2 ++ y2, ?_, ?_⟩
    · have := Step.mk (R := R) (x1 ++ r.2 ++ m) y2 q hq
      refine .step ?_ (.refl _)
      simpa [List.append_assoc] using this
    · have := Step.mk (R := R) x1 (m ++ q.2 ++ y2) r hr
      refine .step ?_ (.refl _)
      simpa [List.append_assoc] using this
theorem local_conf {R : List Rule} (M : Meets R) {s a b : T} (h : Step R s a) (k : Step R s b) : Join R a b := by
  generalize hs : s = s' at k
  cases h with
  | mk x1 y1 r hr =>
    cases k with
    | mk x2 y2 q hq =>
      by_cases hl : x1.length ≤ x2.length
      · exact local_le M hr hq hs hl
      · exact (local_le M hq hr hs.symm (by omega)).symm
/-- in a book whose overlaps meet each text has one end -/
theorem one_end {R : List Rule} (w : Wf R) (M : Meets R) : ∀ (n : Nat) (s : T), s.length ≤ n → ∀ a b, Reach R s a → Reach R s b → IsEnd R a → IsEnd R b → a = b
  | n, s, hn, a, b, ha, hb, ea, eb => by
    cases ha with
    | refl => exact (reach_end ea hb).symm
    | step s1 r1 =>
      cases hb with
      | refl => exact absurd s1 (eb _)
      | step s2 r2 =>
        rename_i u v
        cases n with
        | zero => have := s1.len w; omega
        | succ n =>
          have l1 := s1.len w
          have l2 := s2.len w
          obtain ⟨c, c1, c2⟩ := local_conf M s1 s2
          have z1 := one_end w M n u (by omega) a (left R c) r1 (c1.trans (left_reach c)) ea (left_end w c)
          have z2 := one_end w M n v (by omega) b (left R c) r2 (c2.trans (left_reach c)) eb (left_end w c)
          rw [z1, z2]
theorem left_eq {R : List Rule} (w : Wf R) (M : Meets R) {s a : T} (h : Reach R s a) : left R s = left R a :=
  one_end w M s.length s (Nat.le_refl _) _ _ (left_reach s) (h.trans (left_reach a)) (left_end w s) (left_end w a)
/-- pieces may be shrunk apart -/
theorem left_app {R : List Rule} (w : Wf R) (M : Meets R) (x y : T) : left R (x ++ y) = left R (left R x ++ left R y) := by
  refine left_eq w M ?_
  have h1 := (left_reach (R := R) x).ctx [] y
  have h2 := (left_reach (R := R) y).ctx (left R x) []
  simp only [List.nil_append, List.append_nil] at h1 h2
  exact h1.trans h2
theorem left_congr {R : List Rule} (w : Wf R) (M : Meets R) {x x' y y' : T} (h : left R x = left R x') (k : left R y = left R y') : left R (x ++ y) = left R (x' ++ y') := by
  rw [left_app w M x y, left_app w M x' y', h, k]

/-! ### exchanging signs -/
def Swap (R : List Rule) (x y : T) : Prop := left R (x ++ y) = left R (y ++ x)
theorem Swap.app {R : List Rule} (w : Wf R) (M : Meets R) {x y z : T} (h : Swap R x z) (k : Swap R y z) : Swap R (x ++ y) z := by
  unfold Swap at *
  have e1 : left R (x ++ y ++ z) = left R (x ++ z ++ y) := by
    rw [List.append_assoc, List.append_assoc]
    exact left_congr w M rfl k
  have e2 : left R (x ++ z ++ y) = left R (z ++ x ++ y) := left_congr w M h rfl
  rw [e1, e2, List.append_assoc]
theorem Swap.symm {R : List Rule} {x y : T} (h : Swap R x y) : Swap R y x := Eq.symm h
theorem swap_all {R : List Rule} (w : Wf R) (M : Meets R) {s : List Nat} (h : ∀ a ∈ s, ∀ b ∈ s, Swap R [a] [b]) :
    ∀ x y : T, (∀ c ∈ x, c ∈ s) → (∀ c ∈ y, c ∈ s) → Swap R x y := by
  have one : ∀ (a : Nat), a ∈ s → ∀ y : T, (∀ c ∈ y, c ∈ s) → Swap R y [a] := by
    intro a ha y
    induction y with
    | nil => intro _; unfold Swap; simp
    | cons b y ih =>
      intro hy
      exact Swap.app (x := [b]) (y := y) w M (h b (hy b List.mem_cons_self) a ha) (ih fun c hc => hy c (List.mem_cons_of_mem _ hc))
  intro x
  induction x with
  | nil => intro y _ _; unfold Swap; simp
  | cons a x ih =>
    intro y hx hy
    exact Swap.app (x := [a]) (y := x) w M (one a (hx a List.mem_cons_self) y hy).symm (ih y (fun c hc => hx c (List.mem_cons_of_mem _ hc)) hy)
end Bk
/-! the pile of the program: rules by their left sides; plain Lean -/
namespace Bk
def firstAt : List Rule → Nat → T → Option (Nat × T)
  | [], _, _ => none
  | r :: R, k, l => if r.1 = l then some (k, r.2) else firstAt R (k + 1) l
theorem firstAt_app (R Q : List Rule) (k : Nat) (l : T) : firstAt (R ++ Q) k l = match firstAt R k l with
    | some z => some z
    | none => firstAt Q (k + R.length) l := by
  induction R generalizing k with
  | nil => simp [firstAt]
  | cons r R ih =>
    simp only [List.cons_append, firstAt]
    by_cases h : r.1 = l
    · simp [h]
    · simp only [h, if_false]
      rw [ih (k + 1)]
      have : k + 1 + R.length = k + (r :: R).length := by simp; omega
      rw [this]
theorem firstAt_snoc (R : List Rule) (r : Rule) (l : T) : firstAt (R ++ [r]) 0 l = match firstAt R 0 l with
    | some z => some z
    | none => if r.1 = l then some (R.length, r.2) else none := by
  rw [firstAt_app]
  simp [firstAt]
theorem firstAt_snoc_some {R : List Rule} (r : Rule) {l : T} {z : Nat × T} (h : firstAt R 0 l = some z) : firstAt (R ++ [r]) 0 l = some z := by
  rw [firstAt_snoc, h]
theorem firstAt_snoc_none {R : List Rule} (r : Rule) {l : T} (h : firstAt R 0 l = none) : firstAt (R ++ [r]) 0 l = if r.1 = l then some (R.length, r.2) else none := by
  rw [firstAt_snoc, h]
theorem firstAt_none {R : List Rule} {k : Nat} {l : T} : firstAt R k l = none ↔ ∀ r ∈ R, r.1 ≠ l := by
  induction R generalizing k with
  | nil => simp [firstAt]
  | cons r R ih =>
    simp only [firstAt, List.mem_cons, forall_eq_or_imp]
    by_cases h : r.1 = l
    · simp [h]
    · simp [h, ih]
theorem firstAt_some {R : List Rule} {k j : Nat} {l s : T} (h : firstAt R k l = some (j, s)) : k ≤ j ∧ R[j - k]? = some (l, s) ∧ ∀ i, i < j - k → ∀ r, R[i]? = some r → r.1 ≠ l := by
  induction R generalizing k with
  | nil => simp [firstAt] at h
  | cons r R ih =>
    simp only [firstAt] at h
    by_cases hr : r.1 = l
    · rw [if_pos hr] at h
      simp only [Option.some.injEq, Prod.mk.injEq] at h
      obtain ⟨rfl, rfl⟩ := h
      refine ⟨Nat.le_refl _, by simp [← hr], fun i hi => by omega⟩
    · rw [if_neg hr] at h
      obtain ⟨h1, h2, h3⟩ := ih h
      have e : j - k = (j - (k + 1)) + 1 := by omega
      refine ⟨by omega, by rw [e]; simpa using h2, fun i hi q hq => ?_⟩
      cases i with
      | zero => simp at hq; rw [← hq]; exact hr
      | succ i => exact h3 i (by omega) q (by simpa using hq)
/-- the length of the longest left side -/
def lg (R : List Rule) : Nat := (R.map (·.1.length)).foldl max 0
theorem foldl_max_le {l : List Nat} {a : Nat} : a ≤ l.foldl max a ∧ ∀ x ∈ l, x ≤ l.foldl max a := by
  induction l generalizing a with
  | nil => simp
  | cons b l ih =>
    obtain ⟨h1, h2⟩ := ih (a := max a b)
    simp only [List.foldl_cons, List.mem_cons, forall_eq_or_imp]
    exact ⟨Nat.le_trans (Nat.le_max_left _ _) h1, Nat.le_trans (Nat.le_max_right _ _) h1, h2⟩
theorem foldl_max_mem {l : List Nat} {a : Nat} : l.foldl max a = a ∨ l.foldl max a ∈ l := by
  induction l generalizing a with
  | nil => simp
  | cons b l ih =>
    simp only [List.foldl_cons, List.mem_cons]
    rcases ih (a := max a b) with h | h
    · rw [h]
      rcases Nat.le_total a b with q | q
      · right; left; exact Nat.max_eq_right q
      · left; exact Nat.max_eq_left q
    · exact .inr (.inr h)
theorem lg_le {R : List Rule} {r : Rule} (h : r ∈ R) : r.1.length ≤ lg R := foldl_max_le.2 _ (List.mem_map_of_mem h)
theorem lg_eq {R : List Rule} {m : Nat} (h1 : m ∈ 0 :: R.map (·.1.length)) (h2 : ∀ y ∈ 0 :: R.map (·.1.length), y ≤ m) : m = lg R := by
  have a : lg R ≤ m := by
    rcases foldl_max_mem (l := R.map (·.1.length)) (a := 0) with h | h
    · unfold lg; rw [h]; exact Nat.zero_le _
    · exact h2 _ (List.mem_cons_of_mem _ h)
  have b : m ≤ lg R := by
    rcases List.mem_cons.mp h1 with h | h
    · rw [h]; exact Nat.zero_le _
    · exact foldl_max_le.2 _ h
  omega
/-- the best rule of left sides up to i signs: its number, its size, its right side -/
def bestUp (R : List Rule) (t : T) : Nat → Option (Nat × Nat × T)
  | 0 => none
  | i + 1 => match firstAt R 0 (t.drop (t.length - (i + 1))) with
    | none => bestUp R t i
    | some (k, r) => match bestUp R t i with
      | none => some (k, i + 1, r)
      | some b => if k < b.1 then some (k, i + 1, r) else some b
/-- rules with at most i signs that stand at the end -/
def Fit (R : List Rule) (t : T) (i k : Nat) (r : Rule) : Prop := R[k]? = some r ∧ 1 ≤ r.1.length ∧ r.1.length ≤ i ∧ ∃ x, t = x ++ r.1
theorem suffix_drop {t x l : T} (h : t = x ++ l) : t.drop (t.length - l.length) = l := by
  subst h; simp
theorem bestUp_spec (R : List Rule) (t : T) : ∀ i, i ≤ t.length → match bestUp R t i with
    | none => ∀ k r, ¬ Fit R t i k r
    | some (k, s, r) => (∃ l, Fit R t i k (l, r) ∧ l.length = s) ∧ ∀ k' r', Fit R t i k' r' → k ≤ k'
  | 0, _ => by
    simp only [bestUp]
    rintro k r ⟨_, h1, h2, _⟩
    omega
  | i + 1, hi => by
    have ih := bestUp_spec R t i (by omega)
    have wide : ∀ (k : Nat) (r : Rule), Fit R t (i + 1) k r → Fit R t i k r ∨ (r.1.length = i + 1 ∧ R[k]? = some r ∧ r.1 = t.drop (t.length - (i + 1))) := by
      rintro k r ⟨h1, h2, h3, x, hx⟩
      by_cases e : r.1.length = i + 1
      · exact .inr ⟨e, h1, by rw [← e]; exact (suffix_drop hx).symm⟩
      · exact .inl ⟨h1, h2, by omega, x, hx⟩
    have mono : ∀ (k : Nat) (r : Rule), Fit R t i k r → Fit R t (i + 1) k r := fun k r ⟨h1, h2, h3, h4⟩ => ⟨h1, h2, by omega, h4⟩
    simp only [bestUp]
    cases hf : firstAt R 0 (t.drop (t.length - (i + 1))) with
    | none =>
      have hn := firstAt_none.mp hf
      have no : ∀ (k : Nat) (r : Rule), R[k]? = some r → r.1 ≠ t.drop (t.length - (i + 1)) := fun k r h => hn r (List.mem_of_getElem? h)
      cases hb : bestUp R t i with
      | none =>
        rw [hb] at ih
        intro k r h
        rcases wide k r h with q | ⟨_, q1, q2⟩
        · exact ih k r q
        · exact no k r q1 q2
      | some b =>
        obtain ⟨k, s, r⟩ := b
        rw [hb] at ih
        obtain ⟨⟨l, h1, h2⟩, h3⟩ := ih
        refine ⟨⟨l, mono _ _ h1, h2⟩, fun k' r' h => ?_⟩
        rcases wide k' r' h with q | ⟨_, q1, q2⟩
        · exact h3 k' r' q
        · exact absurd q2 (no k' r' q1)
    | some z =>
      obtain ⟨k, r⟩ := z
      obtain ⟨_, f2, f3⟩ := firstAt_some hf
      rw [Nat.sub_zero] at f2 f3
      have hl : (t.drop (t.length - (i + 1))).length = i + 1 := by rw [List.length_drop]; omega
      have new : Fit R t (i + 1) k (t.drop (t.length - (i + 1)), r) := ⟨f2, by simp only; omega, by simp only; omega, t.take (t.length - (i + 1)), by simp⟩
      have least : ∀ (k' : Nat) (r' : Rule), R[k']? = some r' → r'.1 = t.drop (t.length - (i + 1)) → k ≤ k' := fun k' r' h e => by
        rcases Nat.lt_or_ge k' k with q | q
        · exact absurd e (f3 k' q r' h)
        · exact q
      cases hb : bestUp R t i with
      | none =>
        rw [hb] at ih
        refine ⟨⟨_, new, hl⟩, fun k' r' h => ?_⟩
        rcases wide k' r' h with q | ⟨_, q1, q2⟩
        · exact absurd q (ih k' r')
        · exact least k' r' q1 q2
      | some b =>
        obtain ⟨kb, sb, rb⟩ := b
        rw [hb] at ih
        obtain ⟨⟨l, h1, h2⟩, h3⟩ := ih
        simp only
        by_cases hk : k < kb
        · rw [if_pos hk]
          refine ⟨⟨_, new, hl⟩, fun k' r' h => ?_⟩
          rcases wide k' r' h with q | ⟨_, q1, q2⟩
          · have := h3 k' r' q; omega
          · exact least k' r' q1 q2
        · rw [if_neg hk]
          refine ⟨⟨l, mono _ _ h1, h2⟩, fun k' r' h => ?_⟩
          rcases wide k' r' h with q | ⟨_, q1, q2⟩
          · exact h3 k' r' q
          · have := least k' r' q1 q2; omega
theorem find_least {R : List Rule} {p : Rule → Bool} {k : Nat} {r : Rule} (h1 : R[k]? = some r) (h2 : p r = true) (h3 : ∀ k' r', R[k']? = some r' → p r' = true → k ≤ k') : R.find? p = some r := by
  induction R generalizing k with
  | nil => simp at h1
  | cons a R ih =>
    cases k with
    | zero =>
      simp at h1
      subst h1
      simp [h2]
    | succ k =>
      have ha : p a = false := by
        cases e : p a with
        | false => rfl
        | true => have := h3 0 a (by simp) e; omega
      rw [List.find?_cons, ha]
      exact ih (k := k) (by simpa using h1) (fun k' r' q1 q2 => by have := h3 (k' + 1) r' (by simpa using q1) q2; omega)
/-- what the program finds is what the first fitting rule gives -/
theorem used_best {R : List Rule} (w : Wf R) (t : T) : used R t = (bestUp R t (min (lg R) t.length)).map fun b => t.take (t.length - b.2.1) ++ b.2.2 := by
  have sp := bestUp_spec R t (min (lg R) t.length) (by omega)
  have full : ∀ (k : Nat) (r : Rule), R[k]? = some r → fits t r = true → Fit R t (min (lg R) t.length) k r := by
    intro k r h f
    obtain ⟨x, hx⟩ := fits_iff.mp f
    have hm := List.mem_of_getElem? h
    have h1 := (w r hm).1
    have h2 := lg_le hm
    have h3 : r.1.length ≤ t.length := by rw [hx]; simp
    exact ⟨h, by omega, by omega, x, hx⟩
  cases hb : bestUp R t (min (lg R) t.length) with
  | none =>
    rw [hb] at sp
    simp only [Option.map_none]
    unfold used
    rw [Option.map_eq_none_iff, List.find?_eq_none]
    intro r hr f
    obtain ⟨k, hk, rfl⟩ := List.mem_iff_getElem.mp hr
    exact sp k R[k] (full k R[k] (by simp [hk]) f)
  | some b =>
    obtain ⟨k, s, r⟩ := b
    rw [hb] at sp
    obtain ⟨⟨l, ⟨h1, h2, h3, x, hx⟩, hs⟩, h4⟩ := sp
    have hf : R.find? (fits t) = some (l, r) := find_least h1 (fits_iff.mpr ⟨x, hx⟩) (fun k' r' q1 q2 => h4 k' r' (full k' r' q1 q2))
    unfold used
    rw [hf]
    simp only [Option.map_some, useR, hs]
end Bk
set_option Elab.async false
set_option linter.all false
set_option maxRecDepth 100000
set_option maxHeartbeats 4000000
namespace Sh
open PySem PySem.Spec PyProof.Rows L2
open SX (S S_inj S_len S_cat)
open Bk (Rule firstAt lg bestUp used left drain pushS Wf)
local macro_rules | `(tactic| walk_at "nx") => `(tactic| repeat (with_reducible first | refine Sh.gn_mk ?_ | refine Sh.nx_mk ?_ | refine Sh.st_nx ?_ | refine Sh.rt_mk ?_ | refine Sh.ct_mk ?_ | refine Sh.bk_mk ?_))
local macro_rules | `(tactic| walk_at "sq") => `(tactic| first | exact SqL.of upd_same | exact SqT.of upd_same | exact SqL.of (by assumption) | exact SqT.of (by assumption) | assumption | exact Or.inl (SqL.of (by assumption)) | exact Or.inr (SqT.of (by assumption)) | exact Or.inl (by assumption) | exact Or.inr (by assumption))
local macro_rules | `(tactic| walk_at "hp") => `(tactic| first | exact upd_same | assumption)
local macro_rules | `(tactic| walk_at "sz") => `(tactic| first | exact Nat.le_of_ble_eq_true rfl | omega)
local macro_rules | `(tactic| walk_at "sd") => `(tactic| first | omega | exact rfl | assumption | (show (0 : Int) < _; omega) | exact And.intro (by omega) (by omega) | exact Or.inl (And.intro (by omega) (by omega)) | exact Or.inr (And.intro (by omega) (by omega)) | omega | exact Sh.sz_S (by omega) | decide)
local macro_rules | `(tactic| walk_at "rd1") => `(tactic| first
  | (with_reducible first | refine Sh.gn_mk ?_ | refine Sh.nx_mk ?_ | refine Sh.st_nx ?_ | refine Sh.rt_mk ?_ | refine Sh.ct_mk ?_ | refine Sh.bk_mk ?_)
  | refine Exists.intro (α := V) _ (And.intro rfl ?_)
  | refine Exists.intro (α := Bool) _ (And.intro rfl ?_)
  | refine Exists.intro (α := Int) _ (And.intro rfl ?_)
  | refine Exists.intro (α := PySem.Str) _ (And.intro rfl ?_)
  | refine Exists.intro (α := Int) _ (Exists.intro (α := Int) _ (And.intro rfl (And.intro rfl ?_)))
  | refine Exists.intro (α := PySem.Str) _ (Exists.intro (α := PySem.Str) _ (And.intro rfl (And.intro rfl ?_)))
  | refine Exists.intro (α := Int) _ (Exists.intro (α := Int) _ (And.intro rfl ?_))
  | refine Or.inl (Exists.intro (α := Int) _ (And.intro rfl ?_))
  | refine Exists.intro _ (Exists.intro _ (Exists.intro _ (Exists.intro _ (And.intro rfl (And.intro rfl (And.intro (by walk_at "sq") (And.intro rfl ?_)))))))
  | refine Exists.intro _ (Exists.intro _ (Exists.intro _ (Exists.intro _ (And.intro rfl (And.intro rfl (And.intro (by walk_at "hp") (And.intro rfl ?_)))))))
  | refine And.intro (by walk_at "sd") ?_
  )
local macro_rules | `(tactic| walk_at "rd") => `(tactic| repeat walk_at "rd1")
local macro_rules | `(tactic| walk_at "lk") => `(tactic| first | exact rfl | (rw [lookup_putF, if_pos rfl]) | (rw [lookup_putF, if_neg (by decide +kernel)]; walk_at "lk"))

section
variable {P : Program} {w : World} {K : PySem.W.Frag} {mg : Str → Option Value} {base : Heap}
/-! ### kinds of values -/
def tys : List String := ["NoneType", "bool", "int", "str", "list", "tuple", "dict"]
def isaB (n m : String) : Bool := n == m || (n == "bool" && m == "int")
theorem kit_all : ∀ n ∈ tys, ∀ m ∈ ["tuple", "list", "str", "int", "bool"], kitB n m = some (isaB n m) := by decide +kernel
theorem ty_tup {H : Hp} {a : Addr} {xs : List V} (h : SqT K H a xs) : TyX K H (.ref a) (.type "tuple") := by
  rcases h with (h | ⟨o, h⟩) | ⟨o, its, n, hk, hc, _⟩
  · exact .base (.tup h)
  · exact .fTuple h
  · exact .kTuple hk hc
theorem ty_lst {H : Hp} {a : Addr} {xs : List V} (h : SqL K H a xs) : TyX K H (.ref a) (.type "list") := by
  rcases h with (h | ⟨o, h⟩) | ⟨o, its, n, hk, hc, _⟩
  · exact .base (.lst h)
  · exact .base (.frz h)
  · exact .kList hk hc
def spListed (K : PySem.W.Frag) : Sp := fun vs H Q _ => ∃ (v : V) (n : String), vs = [v] ∧ TyX K H v (.type n) ∧ n ∈ tys ∧ Q (.bl (n == "tuple" || n == "list")) H
theorem isaB_tup {n : String} (h : n ∈ tys) : isaB n "tuple" = (n == "tuple") := by
  simp only [tys, List.mem_cons, List.not_mem_nil, or_false] at h
  rcases h with rfl | rfl | rfl | rfl | rfl | rfl | rfl <;> decide
theorem isaB_lst {n : String} (h : n ∈ tys) : isaB n "list" = (n == "list") := by
  simp only [tys, List.mem_cons, List.not_mem_nil, or_false] at h
  rcases h with rfl | rfl | rfl | rfl | rfl | rfl | rfl <;> decide
theorem isaB_str {n : String} (h : n ∈ tys) : isaB n "str" = (n == "str") := by
  simp only [tys, List.mem_cons, List.not_mem_nil, or_false] at h
  rcases h with rfl | rfl | rfl | rfl | rfl | rfl | rfl <;> decide
theorem c_is_listed (T : Txt K mg) : Cal P w K mg base CX0 1 "is_listed" (spListed K) := by
  refine Cal.mk0 T.d_is_listed sc_is_listed (fun vs H Q E h => ?_) (fun f cdv A outer s H vs Q E hr h => ?_)
  · obtain ⟨v, n, rfl, _⟩ := h
    rfl
  · obtain ⟨v, n, rfl, ht, hn, k⟩ := h
    refine ⟨_, (pss_one (ps_ret (pe_or (pe_callB call_isi (by rfl) T.b_isinstance (by decide +kernel) (pa_cons (pv 0) (pa_cons (pe_bltn (v := .ty "tuple") (by rfl) T.b_tuple (by decide +kernel) rfl) pa_nil))) (pe_one (pe_callB call_isi (by rfl) T.b_isinstance (by decide +kernel) (pa_cons (pv 0) (pa_cons (pe_bltn (v := .ty "list") (by rfl) T.b_list (by decide +kernel) rfl) pa_nil))))))), ?_⟩
    walk_at "rd"
    refine ⟨_, _, _, _, _, rfl, .ty _, ht, kit_ty (kit_all _ hn _ (by decide)), _, rfl, ?_⟩
    rw [isaB_tup hn]
    by_cases c : (n == "tuple") = true
    · rw [c] at k ⊢
      exact iteT k
    · rw [Bool.not_eq_true] at c
      rw [c] at k ⊢
      refine iteF ?_
      walk_at "rd"
      refine ⟨_, _, _, _, _, rfl, .ty _, ht, kit_ty (kit_all _ hn _ (by decide)), ?_⟩
      rw [isaB_lst hn]
      exact k
/-! ### signs -/
def letters : List Nat := (Str.ofString "abcdefghijklmnopqrstuvwxyz").cps.toList
def okAt (sg : List Nat) (k : Nat) : Bool := decide (sg.getD k 0 ∈ letters) && (k == 0 || decide ([sg.getD (k - 1) 0] < [sg.getD k 0]))
def isSigns (sg : List Nat) : Bool := decide (1 ≤ sg.length) && decide (sg.length ≤ 8) && (List.range sg.length).all (okAt sg)
theorem menu_signs : ∀ sg ∈ sgMenu, isSigns sg = true := by decide +kernel
theorem menu_len : ∀ sg ∈ sgMenu, 0 < sg.length ∧ sg.length ≤ 3 := by decide +kernel
/-- a value that is no text -/
def NotStr (K : PySem.W.Frag) (H : Hp) (v : V) : Prop := ∃ n, TyX K H v (.type n) ∧ n ∈ tys ∧ n ≠ "str"
/-- is_signs of a text, or of what is none -/
def spIsSigns (K : PySem.W.Frag) : Sp := fun vs H Q _ => (∃ sg : List Nat, vs = [.str (S sg)] ∧ sg.length ≤ 1000000 ∧ Q (.bl (isSigns sg)) H) ∨ ∃ v : V, vs = [v] ∧ NotStr K H v ∧ Q (.bl false) H
theorem getD_some {l : List Nat} {k : Nat} (h : k < l.length) : l[k]? = some (l.getD k 0) := by
  rw [List.getD_eq_getElem?_getD, List.getElem?_eq_getElem h]; rfl
theorem c_is_signs (T : Txt K mg) : Cal P w K mg base CX0 1 "is_signs" (spIsSigns K) := by
  refine Cal.mk0 T.d_is_signs sc_is_signs (fun vs H Q E h => ?_) (fun f cdv A outer s H vs Q E hr h => ?_)
  · rcases h with ⟨sg, rfl, _⟩ | ⟨v, rfl, _⟩ <;> rfl
  · rcases h with ⟨sg, rfl, hl, k⟩ | ⟨v, rfl, ⟨n, ht, hn, hs⟩, k⟩
    rotate_left
    · refine ⟨_, (pss_cons (ps_if (PW.pt (pw_or (pt_not (pt_val (pe_callB call_isi (by rfl) T.b_isinstance (by decide +kernel) (pa_cons (pv 0) (pa_cons (pe_bltn (v := .ty "str") (by rfl) T.b_str (by decide +kernel) rfl) pa_nil))))) (pw_or1 (pt_not (pt_chain op_le op_le pe_int (pe_callB call_len_str (by rfl) T.b_len (by decide +kernel) (pa_cons (pv 0) pa_nil)) pe_int)))))
    (pss_one (ps_ret pe_bl))
    pss_nil)
  (pss_cons (ps_for PassesOwn.never rfl (pi_range1 (by rfl) T.b_range (pa_cons (pe_callB call_len_str (by rfl) T.b_len (by decide +kernel) (pa_cons (pv 0) pa_nil)) pa_nil)) (pg_name (i := 1) sc_is_signs.nd rfl (Or.inl rfl))
    (pss_one (ps_if (PW.pt (pw_or (pt_cmpR op_notIn_sign (pe_ix ix_str (pv 0) (pv 1) (fun _ _ => rfl)) (pe_gK rfl T.g_LETTERS) (by rfl)) (pw_or1 (PW.pt (pw_and (pt_cmpR op_gt (pv 1) pe_int (nomark _)) (pw_and1 (pt_cmpR op_ge_str (pe_ix ix_str (pv 0) (pe_op op_sub (pv 1) pe_int) (fun _ _ => rfl)) (pe_ix ix_str (pv 0) (pv 1) (fun _ _ => rfl)) (nomark _))))))))
      (pss_one (ps_ret pe_bl))
      pss_nil)))
  (pss_one (ps_ret pe_bl)))), ?_⟩
      walk_at "rd"
      refine ⟨_, _, _, _, _, rfl, .ty _, ht, kit_ty (kit_all _ hn _ (by decide)), _, rfl, ?_⟩
      rw [isaB_str hn, show (n == "str") = false from by simp [hs]]
      refine iteT ?_
      walk_at "rd"
      exact k
    refine ⟨_, (pss_cons (ps_if (PW.pt (pw_or (pt_not (pt_val (pe_callB call_isi (by rfl) T.b_isinstance (by decide +kernel) (pa_cons (pv 0) (pa_cons (pe_bltn (v := .ty "str") (by rfl) T.b_str (by decide +kernel) rfl) pa_nil))))) (pw_or1 (pt_not (pt_chain op_le op_le pe_int (pe_callB call_len_str (by rfl) T.b_len (by decide +kernel) (pa_cons (pv 0) pa_nil)) pe_int)))))
    (pss_one (ps_ret pe_bl))
    pss_nil)
  (pss_cons (ps_for PassesOwn.never rfl (pi_range1 (by rfl) T.b_range (pa_cons (pe_callB call_len_str (by rfl) T.b_len (by decide +kernel) (pa_cons (pv 0) pa_nil)) pa_nil)) (pg_name (i := 1) sc_is_signs.nd rfl (Or.inl rfl))
    (pss_one (ps_if (PW.pt (pw_or (pt_cmpR op_notIn_sign (pe_ix ix_str (pv 0) (pv 1) (fun _ _ => rfl)) (pe_gK rfl T.g_LETTERS) (by rfl)) (pw_or1 (PW.pt (pw_and (pt_cmpR op_gt (pv 1) pe_int (nomark _)) (pw_and1 (pt_cmpR op_ge_str (pe_ix ix_str (pv 0) (pe_op op_sub (pv 1) pe_int) (fun _ _ => rfl)) (pe_ix ix_str (pv 0) (pv 1) (fun _ _ => rfl)) (nomark _))))))))
      (pss_one (ps_ret pe_bl))
      pss_nil)))
  (pss_one (ps_ret pe_bl)))), ?_⟩
    walk_at "rd"
    refine ⟨_, _, _, _, _, rfl, .ty _, .base (.str _), kit_ty (r := true) (by decide +kernel), _, rfl, ?_⟩
    refine iteF ?_
    have hSl := S_len sg
    have bad : ∀ b : Bool, isSigns sg = b → Q (.bl b) H := fun b e => e ▸ k
    walk_at "rd"
    refine ite2 (fun c0 => ?_) (fun c0 => ?_)
    · have c0' : (1 : Int) ≤ (S sg).length := of_decide_eq_true c0
      walk_at "rd"
      refine ite2 (fun c1 => ?_) (fun c1 => ?_)
      · walk_at "rd"
        refine bad false ?_
        have c1' : ¬ ((S sg).length : Int) ≤ 8 := by simpa using c1
        have c2 : ¬ sg.length ≤ 8 := by omega
        simp only [isSigns, c2, decide_false, Bool.and_false, Bool.false_and]
      · have c1' : ((S sg).length : Int) ≤ 8 := by simpa using c1
        walk_at "rd"
        refine for_range (lo := 0) (n := (((S sg).length : Int)).toNat) (fun i σ H2 => (∃ v, σ = [some (.str (S sg)), v]) ∧ H2 = H ∧ ∀ j, j < i → okAt sg j = true)
          ⟨⟨_, rfl⟩, rfl, fun j hj => by omega⟩ ?_ ?_
        · rintro i σ H2 hi ⟨⟨v, rfl⟩, rfl, ok⟩
          have hi2 : i < sg.length := by omega
          have e1 : atI sg ((0 : Int) + i) = some (sg.getD i 0) := atI_at (by omega) (by rw [show ((0 : Int) + i).toNat = i by omega]; exact getD_some hi2)
          walk_at "rd"
          refine ⟨_, _, _, rfl, rfl, sz_S hl, e1, ?_⟩
          refine ⟨_, _, rfl, rfl, ?_⟩
          have notOk : okAt sg i = false → isSigns sg = false := fun e => by
            cases hb : isSigns sg with
            | false => rfl
            | true =>
              simp only [isSigns, Bool.and_eq_true, List.all_eq_true] at hb
              rw [hb.2 i (List.mem_range.mpr hi2)] at e
              cases e
          have more : okAt sg i = true → ∀ j, j < i + 1 → okAt sg j = true := fun e j hj => by
            rcases Nat.lt_succ_iff_lt_or_eq.mp hj with q | q
            · exact ok j q
            · rw [q]; exact e
          walk_at "rd"
          refine ite2 (fun d0 => ?_) (fun d0 => ?_)
          · refine iteT ?_
            walk_at "rd"
            refine bad false (notOk ?_)
            have d1 : ¬ sg.getD i 0 ∈ letters := by
              intro hm
              have : decide (sg.getD i 0 ∈ letters) = true := decide_eq_true hm
              rw [show (PySem.Str.cps (Str.ofString "abcdefghijklmnopqrstuvwxyz")).toList = letters from rfl, this] at d0
              cases d0
            simp only [okAt, d1, decide_false, Bool.false_and]
          · have d1 : sg.getD i 0 ∈ letters := by
              by_cases hm : sg.getD i 0 ∈ letters
              · exact hm
              · exact absurd (by rw [show (PySem.Str.cps (Str.ofString "abcdefghijklmnopqrstuvwxyz")).toList = letters from rfl, decide_eq_false hm]; rfl) d0
            walk_at "rd"
            refine ite2 (fun d2 => ?_) (fun d2 => ?_)
            · have d3 : (0 : Int) < 0 + i := of_decide_eq_true d2
              have e2 : atI sg ((0 : Int) + i - 1) = some (sg.getD (i - 1) 0) := atI_at (by omega) (by rw [show ((0 : Int) + i - 1).toNat = i - 1 by omega]; exact getD_some (by omega))
              walk_at "rd"
              refine ⟨_, _, _, rfl, rfl, sz_S hl, e2, ?_⟩
              walk_at "rd"
              refine ⟨_, _, _, rfl, rfl, sz_S hl, e1, ?_⟩
              refine ⟨_, _, rfl, rfl, ?_⟩
              walk_at "rd"
              refine ite2 (fun d4 => ?_) (fun d4 => ?_)
              · walk_at "rd"
                refine bad false (notOk ?_)
                have d5 : decide ([sg.getD (i - 1) 0] < [sg.getD i 0]) = false := by
                  cases hd : decide ([sg.getD (i - 1) 0] < [sg.getD i 0]) with
                  | false => rfl
                  | true =>
                    have d4' : (!decide ([sg.getD (i - 1) 0] < [sg.getD i 0])) = true := d4
                    rw [hd] at d4'; cases d4'
                have d6 : (i == 0) = false := by rw [beq_eq_false_iff_ne]; omega
                simp only [okAt, d5, d6, Bool.or_false, Bool.and_false]
              · walk_at "rd"
                refine ⟨⟨_, rfl⟩, rfl, more ?_⟩
                have d5 : decide ([sg.getD (i - 1) 0] < [sg.getD i 0]) = true := by
                  cases hd : decide ([sg.getD (i - 1) 0] < [sg.getD i 0]) with
                  | true => rfl
                  | false =>
                    refine absurd ?_ d4
                    show (!decide ([sg.getD (i - 1) 0] < [sg.getD i 0])) = true
                    rw [hd]; rfl
                simp only [okAt, d1, d5, decide_true, Bool.or_true, Bool.and_true]
            · have d3 : i = 0 := by
                have : ¬ (0 : Int) < 0 + i := by simpa using d2
                omega
              refine iteF ?_
              walk_at "rd"
              refine ⟨⟨_, rfl⟩, rfl, more ?_⟩
              subst d3
              simp only [okAt, d1, decide_true, Bool.true_and, beq_self_eq_true, Bool.true_or]
        · rintro σ H2 ⟨⟨v, rfl⟩, rfl, ok⟩
          walk_at "rd"
          refine bad true ?_
          have c2 : 1 ≤ sg.length := by omega
          have c3 : sg.length ≤ 8 := by omega
          simp only [isSigns, c2, c3, decide_true, Bool.true_and, List.all_eq_true]
          intro j hj
          exact ok j (by have := List.mem_range.mp hj; omega)
    · have c0' : ¬ (1 : Int) ≤ (S sg).length := by simpa using c0
      walk_at "rd"
      refine iteT ?_
      walk_at "rd"
      refine bad false ?_
      have c2 : ¬ 1 ≤ sg.length := by omega
      simp only [isSigns, c2, decide_false, Bool.false_and]
/-- check_signs: what are signs passes -/
def spCheckSigns : Sp := fun vs H Q _ => ∃ sg : List Nat, vs = [.str (S sg)] ∧ isSigns sg = true ∧ Q .non H
theorem signs_len {sg : List Nat} (h : isSigns sg = true) : 1 ≤ sg.length ∧ sg.length ≤ 8 := by
  simp only [isSigns, Bool.and_eq_true, decide_eq_true_eq] at h
  exact h.1
theorem c_check_signs (T : Txt K mg) : Cal P w K mg base CX0 2 "check_signs" spCheckSigns := by
  have c_is_signs := c_is_signs (P := P) (w := w) (base := base) T
  refine Cal.mk0 T.d_check_signs sc_check_signs (fun vs H Q E h => ?_) (fun f cdv A outer s H vs Q E hr h => ?_)
  · obtain ⟨sg, rfl, _⟩ := h
    rfl
  · obtain ⟨sg, rfl, hs, k⟩ := h
    have hl := signs_len hs
    refine ⟨_, (pss_one (ps_if (pt_not (pt_truth (pe_c c_is_signs hr (by decide) rfl (pa_cons (pv 0) pa_nil)) (by intro _; rfl)))
    (pss_one ps_never)
    pss_nil)), ?_⟩
    walk_at "rd"
    refine .inl ⟨sg, rfl, by omega, ?_⟩
    rw [hs]
    walk_at "rd"
    refine iteF ?_
    walk_at "rd"
    exact k
/-- is_text of a text -/
def isText (sg t : List Nat) (lo hi : Int) : Bool := decide (lo ≤ t.length) && decide ((t.length : Int) ≤ hi) && t.all fun c => decide (c ∈ sg)
def spIsText (K : PySem.W.Frag) : Sp := fun vs H Q _ => (∃ (sg t : List Nat) (lo hi : Int), vs = [.str (S sg), .str (S t), .int lo, .int hi] ∧ t.length ≤ 1000000 ∧ Q (.bl (isText sg t lo hi)) H) ∨ ∃ (u v a b : V), vs = [u, v, a, b] ∧ NotStr K H v ∧ Q (.bl false) H
def spCheckText : Sp := fun vs H Q _ => ∃ (sg t : List Nat), vs = [.str (S sg), .str (S t)] ∧ t.length ≤ 200 ∧ (∀ c ∈ t, c ∈ sg) ∧ Q .non H
end
end Sh
set_option Elab.async false
set_option linter.all false
set_option maxRecDepth 100000
namespace Sh
open PySem PySem.Spec PyProof.Rows L2
structure TxtC (K : PySem.W.Frag) (mg : Str → Option Value) (C0 : Addr) : Prop extends Txt K mg
end Sh
set_option Elab.async false
set_option linter.all false
set_option maxRecDepth 100000
namespace Sh
open PySem PySem.Spec PyProof.Rows L2
/-! ### t < u of tuples of ints and texts -/
def sameK : V → V → Bool
  | .int _, .int _ => true
  | .str _, .str _ => true
  | _, _ => false
def sameKs : List V → List V → Bool
  | x :: xs, y :: ys => sameK x y && sameKs xs ys
  | _, _ => true
def vLt : V → V → Bool
  | .int i, .int j => decide (i < j)
  | .str a, .str b => decide (a.cps.toList < b.cps.toList)
  | _, _ => false
def tupLt : List V → List V → Bool
  | [], [] => false
  | [], _ :: _ => true
  | _ :: _, [] => false
  | x :: xs, y :: ys => if x = y then tupLt xs ys else vLt x y
theorem lexAt_tup : ∀ (xs ys : List V) (e r : Nat → Bool) (k : Nat), sameKs xs ys = true →
    (∀ j x y, xs[j]? = some x → ys[j]? = some y → e (k + j) = decide (x = y)) → (∀ j x y, xs[j]? = some x → ys[j]? = some y → r (k + j) = vLt x y) →
    Ob.lexAt e r (decide (xs.length < ys.length)) k (min xs.length ys.length) = tupLt xs ys
  | [], [], e, r, k, _, _, _ => rfl
  | [], _ :: _, e, r, k, _, _, _ => by
    show Ob.lexAt e r (decide (0 < _ + 1)) k 0 = true
    rw [Ob.lexAt_zero]
    exact decide_eq_true (by omega)
  | _ :: _, [], e, r, k, _, _, _ => by
    show Ob.lexAt e r (decide (_ + 1 < 0)) k 0 = false
    rw [Ob.lexAt_zero]
    exact decide_eq_false (by omega)
  | x :: xs, y :: ys, e, r, k, hs, he, hr => by
    have e0 := he 0 x y rfl rfl
    have r0 := hr 0 x y rfl rfl
    rw [Nat.add_zero] at e0 r0
    have hs2 : sameKs xs ys = true := by
      have : (sameK x y && sameKs xs ys) = true := hs
      rw [Bool.and_eq_true] at this
      exact this.2
    have ih := lexAt_tup xs ys e r (k + 1) hs2 (fun j a b h1 h2 => by have := he (j + 1) a b (by simpa using h1) (by simpa using h2); rw [← this]; congr 1; omega)
      (fun j a b h1 h2 => by have := hr (j + 1) a b (by simpa using h1) (by simpa using h2); rw [← this]; congr 1; omega)
    have em : min (x :: xs).length (y :: ys).length = min xs.length ys.length + 1 := by simp only [List.length_cons]; omega
    have el : decide ((x :: xs).length < (y :: ys).length) = decide (xs.length < ys.length) := by
      simp only [List.length_cons]
      exact decide_eq_decide.mpr (by omega)
    rw [em, el, Ob.lexAt_succ, e0, r0, ih]
    show _ = if x = y then tupLt xs ys else vLt x y
    by_cases h : x = y
    · rw [if_pos h, if_pos (decide_eq_true h)]
    · rw [if_neg h, if_neg (by simpa using h)]
theorem sameKs_get : ∀ {xs ys : List V}, sameKs xs ys = true → ∀ {j : Nat} {x y : V}, xs[j]? = some x → ys[j]? = some y → sameK x y = true
  | [], _, _, j, _, _, h, _ => by simp at h
  | _ :: _, [], _, j, _, _, _, h => by simp at h
  | x :: xs, y :: ys, hs, j, a, b, h1, h2 => by
    have hs' : (sameK x y && sameKs xs ys) = true := hs
    rw [Bool.and_eq_true] at hs'
    cases j with
    | zero => simp at h1 h2; subst h1; subst h2; exact hs'.1
    | succ j => exact sameKs_get hs'.2 (by simpa using h1) (by simpa using h2)
def rLtTM (K : PySem.W.Frag) : R2 := fun x y H Q => ∃ a b xs ys, x = .ref a ∧ y = .ref b ∧ SqT K H a xs ∧ SqT K H b ys ∧ sameKs xs ys = true ∧ Q (.bl (tupLt xs ys)) H
theorem op_ltTM {X : Cx} (hu : X.A.units + 64 < cLine) : OpR X (compareOp .Lt) (rLtTM X.K) := by
  intro pins s σ H x y v u Q I rx ry h
  obtain ⟨a, b, xs, ys, rfl, rfl, ha, hb, hk, q⟩ := h
  cases rx
  cases ry
  obtain ⟨its, r1, p1, _⟩ := I.tuple ha
  obtain ⟨its2, r2, p2, _⟩ := I.tuple hb
  have l1 : its.toArray.size = xs.length := by rw [List.size_toArray]; exact r1.length.symm
  have l2 : its2.toArray.size = ys.length := by rw [List.size_toArray]; exact r2.length.symm
  have get : ∀ (j : Nat) (h1 : j < its.toArray.size) (h2 : j < its2.toArray.size), ∃ x y, xs[j]? = some x ∧ ys[j]? = some y ∧ RelV x its.toArray[j] ∧ RelV y its2.toArray[j] ∧ sameK x y = true := by
    intro j h1 h2
    have g1 : j < xs.length := l1 ▸ h1
    have g2 : j < ys.length := l2 ▸ h2
    obtain ⟨u1, e1, q1⟩ := r1.get (List.getElem?_eq_getElem g1)
    obtain ⟨u2, e2, q2⟩ := r2.get (List.getElem?_eq_getElem g2)
    have f1 : its.toArray[j] = u1 := by
      have : its[j]? = some its[j] := List.getElem?_eq_getElem (by simpa using h1)
      rw [this] at e1
      simpa using Option.some.inj e1
    have f2 : its2.toArray[j] = u2 := by
      have : its2[j]? = some its2[j] := List.getElem?_eq_getElem (by simpa using h2)
      rw [this] at e2
      simpa using Option.some.inj e2
    exact ⟨xs[j], ys[j], List.getElem?_eq_getElem g1, List.getElem?_eq_getElem g2, f1 ▸ q1, f2 ▸ q2, sameKs_get hk (List.getElem?_eq_getElem g1) (List.getElem?_eq_getElem g2)⟩
  let e : Nat → Bool := fun j => match xs[j]?, ys[j]? with
    | some x, some y => decide (x = y)
    | _, _ => false
  let r : Nat → Bool := fun j => match xs[j]?, ys[j]? with
    | some x, some y => vLt x y
    | _, _ => false
  have key := Ob.RcOp.tuples_lt (A := X.A) (s := s) (e := e) (r := r) p1 p2 (by omega) (fun j h1 h2 => ?_) (fun j h1 h2 _ => ?_)
  · rw [l1, l2, lexAt_tup xs ys e r 0 hk (fun j x y h1 h2 => by rw [Nat.zero_add]; simp only [e, h1, h2]) (fun j x y h1 h2 => by rw [Nat.zero_add]; simp only [r, h1, h2])] at key
    exact key X.prog X.w X.xe _ ⟨.bl (tupLt xs ys), H, I, rfl, q⟩
  · obtain ⟨x, y, g1, g2, q1, q2, hk2⟩ := get j h1 h2
    have he : e j = decide (x = y) := by simp only [e, g1, g2]
    rw [he]
    cases x <;> cases y <;> first | cases hk2 | skip
    · obtain ⟨t1, z1⟩ := q1
      obtain ⟨t2, z2⟩ := q2
      rw [z1, z2]
      have := SeqAt.EqAt.int_int (A := X.A.in1) (s := s)
      rename_i i k
      have w1 := this i t1 k t2
      have w2 : (i == k) = decide (V.int i = V.int k) := by
        by_cases hh : i = k
        · subst hh; simp
        · rw [decide_eq_false (fun z => hh (V.int.inj z))]; exact beq_eq_false_iff_ne.mpr hh
      rw [w2] at w1
      exact w1
    · obtain ⟨t1, z1⟩ := q1
      obtain ⟨t2, z2⟩ := q2
      rw [z1, z2]
      have := SeqAt.EqAt.str_str (A := X.A.in1) (s := s)
      rename_i i k
      have w1 := this i t1 k t2
      have w2 : (i == k) = decide (V.str i = V.str k) := by
        by_cases hh : i = k
        · subst hh; simp
        · rw [decide_eq_false (fun z => hh (V.str.inj z))]; exact beq_eq_false_iff_ne.mpr hh
      rw [w2] at w1
      exact w1
  · obtain ⟨x, y, g1, g2, q1, q2, hk2⟩ := get j h1 h2
    have he : r j = vLt x y := by simp only [r, g1, g2]
    rw [he]
    cases x <;> cases y <;> first | cases hk2 | skip
    · obtain ⟨t1, z1⟩ := q1
      obtain ⟨t2, z2⟩ := q2
      rw [z1, z2]
      exact Ob.RcOp.lt_int _ _ _ _
    · obtain ⟨t1, z1⟩ := q1
      obtain ⟨t2, z2⟩ := q2
      rw [z1, z2]
      exact fun _ _ _ _ h => PyProof.Rows.lt_str h
/-! ### repr of data of None, bools, ints, texts and tuples -/
theorem call_reprD {X : Cx} (hg : X.A.guards = some []) (hu : X.A.units + 64 < cLine) :
    CallR X (.builtin "repr") (fun xs H Q => ∃ v d, xs = [v] ∧ Dp X.K H v d ∧ d.showable = true ∧ d.hasDict = false ∧ d.depth ≤ 60 ∧ d.shown.length ≤ sizeLine ∧ Q (.str d.shown) H) := by
  intro pins s σ H xs us Q I r h
  obtain ⟨v, d, rfl, hd, h1, h2, h3, h4, q⟩ := h
  cases r with
  | cons rv rn =>
    cases rn
    rename_i u
    obtain ⟨as, hr⟩ := Dp.reads I d v u hd rv
    have big : ∀ a : Addr, u = .ref a → wpAny (model X.prog X.w) X.A (call (.builtin "repr") [u]) (EP X pins σ Q) X.xe s := fun a e => by
      subst e
      exact PySem.repr_of_reads' hr h1 (fun z => by rw [h2] at z; cases z) hg (by omega) (fun _ _ e => e) (fun h' w tk k => ⟨.str d.shown, H, I.kept k, ⟨_, rfl⟩, q⟩) h4
    cases hd with
    | non =>
      cases (show u = Value.none from rv)
      exact PySem.P.repr_of_none ⟨.str _, H, I.tok _, ⟨_, rfl⟩, q⟩
    | bl b =>
      cases (show u = Value.bool b from rv)
      refine PySem.P.repr_of_bool ⟨.str _, H, I.tok _, ⟨_, rfl⟩, q⟩
    | int i =>
      obtain ⟨t, e⟩ := (show ∃ t, u = Value.int i t from rv)
      subst e
      have h1' : i.natAbs.log2 < 1920 := by simpa [PyData.showable] using h1
      exact PySem.P.repr_of_int h1' ⟨.str _, H, I.tok _, ⟨_, rfl⟩, q⟩
    | str x =>
      obtain ⟨t, e⟩ := (show ∃ t, u = Value.str x t from rv)
      subst e
      exact PySem.P.repr_of_str ⟨.str _, H, I.tok _, ⟨_, rfl⟩, q⟩ h4
    | lst hs ha => exact big _ rv
    | tup hs ha => exact big _ rv
end Sh
set_option Elab.async false
set_option linter.all false
set_option maxRecDepth 100000
set_option maxHeartbeats 2000000
namespace Sh
open PySem PySem.Spec PyProof.Rows
section
variable {prog : Program} {w : World} {A : Around} {E : Value → Shared → Prop} {s : Shared} {K : PySem.W.Frag} {x C f : Addr} {ox : Obj} {odd : Option Obj}
theorem truthy_own {Q : Bool → Shared → Prop} (X : K.In s.heap) (I : PySem.W.InstAt s.heap x ox C odd) (hs : PySem.W.findIn K (.ref C) "__bool__" = some (some (.ref f))) (hf : PySem.W.isFn K (.ref f) = true)
    (h : wpAny (model prog w) A (call (.ref f) [.ref x]) (fun r s₁ => ∃ b, r = Value.bool b ∧ Q b s₁) E s) : wpAny (model prog w) A (truthy (.ref x)) Q E s := by
  unfold truthy
  first
    | refine wpAny_bind (m := callSpecial? (.ref x) (Str.ofString "__bool__")) (PySem.W.special_fn X I hs (beq_iff_eq.mp hf) (wpAny_mono h (fun r s' hr => ?_) fun _ _ y => y))
    | refine wpAny_bind (wpAny_pure (wpAny_bind (m := callSpecial? (.ref x) (Str.ofString "__bool__")) (PySem.W.special_fn X I hs (beq_iff_eq.mp hf) (wpAny_mono h (fun r s' hr => ?_) fun _ _ y => y))))
  obtain ⟨b, rfl, hq⟩ := hr
  first
    | exact wpAny_pure hq
    | exact wpAny_bind (wpAny_pure hq)
theorem meets_bool_own : MeetsIn prog w (Builtin.«bool.__new__» ⟨[.type "bool", .ref x], []⟩) (fun A R s => K.In s.heap ∧ PySem.W.InstAt s.heap x ox C odd ∧ PySem.W.findIn K (.ref C) "__bool__" = some (some (.ref f)) ∧ PySem.W.isFn K (.ref f) = true ∧
    wpAny (model prog w) A.in1 (call (.ref f) [.ref x]) (fun r s₁ => ∃ b, r = Value.bool b ∧ R (.ok (.ret (.bool b))) s₁) (fun e s' => R (.error e) s') s) :=
  MeetsIn.of_wp fun A R s hs => by
    obtain ⟨X, I, h1, h2, h⟩ := hs
    have f1 := F.conv_sub_bool
    have key : ∀ Q : Bool → Shared → Prop, (∀ b s₁, R (.ok (.ret (.bool b))) s₁ → Q b s₁) → wpAny (model prog w) A.in1 (truthy (.ref x)) Q (fun e s' => R (.error e) s') s := fun Q hq =>
      truthy_own X I h1 h2 (wpAny_mono h (fun r s₁ ⟨b, e, k⟩ => ⟨b, e, hq b s₁ k⟩) fun _ _ z => z)
    obtain ⟨hp, g, d, tk, os⟩ := s
    repeat (any_goals (first | assumption | (with_reducible refine key _ fun b s₁ k => ?_) | wp_step))
    all_goals first | exact ⟨_, rfl, by assumption⟩ | skip
theorem call_bool_own {Q : Value → Shared → Prop} (X : K.In s.heap) (I : PySem.W.InstAt s.heap x ox C odd) (hs : PySem.W.findIn K (.ref C) "__bool__" = some (some (.ref f))) (hf : PySem.W.isFn K (.ref f) = true)
    (h : wpAny (model prog w) A.in1.in1 (call (.ref f) [.ref x]) (fun r s₁ => ∃ b, r = Value.bool b ∧ Q r s₁) E s) : wpAny (model prog w) A (call (.type "bool") [.ref x]) Q E s := by
  refine callType_newIn F.called_bool F.newNe_bool (F.typeCall_bool_1 _) (F.newCall_bool_1 _) (fun obj => F.args_object_init_2 obj _) F.entry_bool_new (meets_bool_own (K := K) (C := C) (f := f) (ox := ox) (odd := odd)) ⟨X, I, hs, hf, ?_⟩
  refine wpAny_mono h (fun r s₁ ⟨b, e, k⟩ => ⟨b, e, ?_⟩) fun _ _ z => z
  subst e
  exact ⟨rfl, k⟩
end
end Sh
namespace Sh
open PySem PySem.Spec PyProof.Rows L2
section
variable {X : Cx} {CX : CXT} {C g : Addr} {n : Nat} {sp : Sp} {E : XK}
theorem fnR_of {P : Program} {w : World} {K : PySem.W.Frag} {mg : Str → Option Value} {base : Heap} {k : Nat} {f : Addr} {fd : FuncData} {ps : List Str} (F : FnOk P w K mg base CX k f fd ps sp) (b : Binds K fd ps []) : FnR P w K mg base CX k f sp := by
  intro A outer s H us vs Q E hr e0 r h
  have hl := F.len _ _ _ _ h
  have KX : K.In s.heap := e0.mod.kin.keeps fun b o e => (e0.bs b o e).1
  have hul : (us ++ []).length = ps.length := by rw [List.append_nil, ← r.length]; exact hl
  have hb := b s us KX hul
  rw [List.append_nil] at hb
  exact F.run A outer s H ⟨us, []⟩ us vs Q E hr e0 hb r h
/-- the callee runs below the running body -/
theorem run_in {pins : List (Addr × Obj)} {σ : L2.St} {H : Hp} {s : Shared} {A : Around} {Q : VK} {us : List Value} {ws : List V} (F : FnR X.prog X.w X.K X.mg X.base CX n g sp) (hr : Room n A) (e0 : Env0 X.prog X.w X.K X.mg X.base A X.stack s H) (hx : Passes CX X E)
    (I : Inv X pins σ H s) (r : Vals ws us) (h : sp ws H Q E) : wpAny (model X.prog X.w) A (call (.ref g) us) (EP X pins σ Q) X.xe s := by
  refine wpAny_call (codeAny_mono (F A X.stack s H us ws Q E hr e0 r h) fun r s' hq => ?_)
  cases r with
  | error e => exact hx pins σ H s e s' I hq
  | ok fl =>
    cases fl with
    | ret u => exact I.after hq
    | next => exact False.elim hq
    | brk => exact False.elim hq
    | cont => exact False.elim hq
/-- bool(x), x an instance of the class at C with an own __bool__ -/
def rBoolO (C : Addr) (sp : Sp) (E : XK) : List V → Hp → VK → Prop := fun xs H Q => ∃ a dx fs, xs = [V.ref a] ∧ H a = some (.ins C dx fs) ∧ sp [.ref a] H (fun z H' => ∃ b, z = .bl b ∧ Q z H') E
theorem call_boolO (hs : PySem.W.findIn X.K (.ref C) "__bool__" = some (some (.ref g))) (hf : PySem.W.isFn X.K (.ref g) = true) (F : FnR X.prog X.w X.K X.mg X.base CX n g sp) (hr : Room (n + 2) X.A) (hx : Passes CX X E) : CallR X (.type "bool") (rBoolO C sp E) := by
  intro pins s σ H xs us Q I r h
  obtain ⟨a, dx, fs, rfl, ha, q⟩ := h
  obtain rfl := Vals.ref1 r
  obtain ⟨ox, od, J, _⟩ := StX.insC_at (C := C) I (.inr ⟨dx, fs, ha⟩)
  have hr2 : Room n X.A.in1.in1 := (show Room (n + 1) X.A.in1 from Room.in1 hr).in1
  refine call_bool_own I.kIn J hs hf (wpAny_mono (run_in (us := [.ref a]) (ws := [.ref a]) F hr2 I.env0.in1.in1 hx I (.cons rfl .nil) q) (fun v s' z => ?_) fun _ _ x => x)
  obtain ⟨z', H', I', rz, b, eb, qz⟩ := z
  subst eb
  cases (show v = Value.bool b from rz)
  exact ⟨b, rfl, .bl b, H', I', rfl, qz⟩
end
end Sh
set_option Elab.async false
set_option linter.all false
set_option maxRecDepth 100000
set_option maxHeartbeats 2000000
namespace Sh
open PySem PySem.Spec PyProof.Rows L2
/-- a class of the text -/
structure ClassAt (K : PySem.W.Frag) (mg : Str → Option Value) (x : Str) (C : Addr) : Prop where
  cl : Cls K C
  mgC : mg x = some (.ref C)
  makes : PySem.W.makesIn K C = true
  kp : PySem.W.keepIn K (.ref C) = true
/-- a method of the class at C -/
structure MethAt (K : PySem.W.Frag) (C : Addr) (m q : Str) (st : Stmt) (ps : List Str) : Prop where
  ex : ∃ (f : Addr) (fd : FuncData), L2.Fun K m q st f fd ∧ Binds K fd ps [] ∧ PySem.W.findIn K (.ref C) m = some (some (.ref f)) ∧ PySem.W.isFn K (.ref f) = true ∧ PySem.W.fnIn K f = true
structure MetC (P : Program) (w : World) (K : PySem.W.Frag) (mg : Str → Option Value) (base : Heap) (k : Nat) (C : Addr) (m : Str) (sp : Sp) : Prop where
  ex : ∃ (f : Addr) (fd : FuncData) (ps : List Str), FnOk P w K mg base CX0 k f fd ps sp ∧ Binds K fd ps [] ∧ PySem.W.findIn K (.ref C) m = some (some (.ref f)) ∧ PySem.W.isFn K (.ref f) = true ∧ PySem.W.fnIn K f = true
section
variable {P : Program} {w : World} {K : PySem.W.Frag} {mg : Str → Option Value} {base : Heap}
theorem MetC.mk0 {m q : Str} {C : Addr} {st : Stmt} {N ps : List Str} {k : Nat} {sp : Sp} (D : MethAt K C m q st ps) (S : FnScope N ps (defScope st)) (len : ∀ vs H Q E, sp vs H Q E → vs.length = ps.length)
    (hbody : ∀ (f : Addr) (cdv : Value) (A : Around) (outer : List Env) (s : Shared) (H : Hp) (vs : List V) (Q : VK) (E : XK), Room k (A.deeper (envOfC q (defScope st) s.heap.objs.size f cdv)) → sp vs H Q E →
      ∃ t, PSs (cxOf CX0 P w K mg base N q (defScope st) f cdv A outer s H E).nox (defBody st) t ∧ t { nx := fun _ H' => Q .non H', rt := Q } (start N vs) H) : MetC P w K mg base (k + 1) C m sp := by
  obtain ⟨f, fd, F, b, i, n, o⟩ := D.ex
  exact ⟨f, fd, ps, F.ok S len (hbody f), b, i, n, o⟩
end
section
variable {X : Cx} {k j : Nat} {x m : Str} {C : Addr} {sp : Sp} {p pos : Pos} {e fe : Expr} {es : List Expr} {t : TA} {tf : TE}
/-- C(e, ..) -/
theorem pe_mkC (c : ClassAt X.K X.mg x C) (d : MetC X.prog X.w X.K X.mg X.base k C "__init__" sp) (hr : Room j X.A) (hk : k + 1 ≤ j) (hg : Gl X x) (ha : PA X (e :: es) t)
    (hdb : (x == ("__debug__" : Str)) = false := by decide) (he : starEach (e :: es) X.env = (false, eval e X.env) :: starEach es X.env := by rfl) (hpl : (backTo pos (starEach es X.env)).any (·.1) = false := by rfl) :
    PE X (.Call (.Name x p) (e :: es) [] pos) (tMake C sp [] E0 t) := by
  obtain ⟨f, fd, ps, F, b, i, n, o⟩ := d.ex
  exact pe_make ⟨c.makes, i, n, c.kp⟩ F (hr.mono hk) hg c.mgC b .nil pass0 ha hdb he hpl
/-- o(e, ..), o an instance -/
theorem pe_instC (hf : PE X fe tf) (d : MetC X.prog X.w X.K X.mg X.base k C "__call__" sp) (hr : Room j X.A) (hk : k ≤ j) (ha : PA X (e :: es) t)
    (ht : eval (.Call fe (e :: es) [] pos) X.env = (do callWith pos (← eval fe X.env) [] (backTo pos (starEach (e :: es) X.env)) (backToKw pos (keywordEach [] X.env))) := by rfl)
    (he : starEach (e :: es) X.env = (false, eval e X.env) :: starEach es X.env := by rfl) (hpl : (backTo pos (starEach es X.env)).any (·.1) = false := by rfl) : PE X (.Call fe (e :: es) [] pos) (StX.tCallO X C sp E0 tf t) := by
  obtain ⟨f, fd, ps, F, b, i, n, o⟩ := d.ex
  exact StX.pe_callO hf ⟨i, n, o⟩ (fnR_of F b) (hr.mono hk) pass0 ha ht he hpl
/-- bool(o) -/
theorem call_boolC (d : MetC X.prog X.w X.K X.mg X.base k C "__bool__" sp) (hr : Room j X.A) (hk : k + 2 ≤ j) : CallR X (.type "bool") (rBoolO C sp E0) := by
  obtain ⟨f, fd, ps, F, b, i, n, o⟩ := d.ex
  exact call_boolO i n (fnR_of F b) (hr.mono hk) pass0
end
theorem putF_le (f : Str) (v : V) : ∀ fs : List (Str × V), (putF f v fs).length ≤ fs.length + 1
  | [] => Nat.le_refl _
  | (g, x) :: r => by
    show (if g = f then (g, v) :: r else (g, x) :: putF f v r).length ≤ _
    have := putF_le f v r
    split <;> simp <;> omega
theorem Keep.butI {H H' : Hp} {a C dx : Addr} {fs : List (Str × V)} (s : But a H H') (z : H a = some (.ins C dx fs)) : Keep H H' := fun b xs h => by
  rcases h with h | ⟨o, h⟩
  · exact .inl (s _ _ (ne_of h z (by intro q; cases q)) h)
  · exact .inr ⟨o, s _ _ (ne_of h z (by intro q; cases q)) h⟩
end Sh
set_option Elab.async false
set_option linter.all false
set_option maxRecDepth 100000
set_option maxHeartbeats 2000000
/-! The law's own call, known to be the outermost one: no repr runs around it (guards = some []), which FnOk does not tell. -/
namespace Sh
open PySem PySem.Spec PyProof.Rows L2
section
variable {P : Program} {w : World} {K : PySem.W.Frag} {mg mb : Str → Option Value}
/-- one def run at one place B: what fn_of says for every place -/
theorem run_at {base : Heap} {j : Nat} {g : Addr} {q : Str} {st : Stmt} {fd : FuncData} {N ps : List Str} {B : Around} {out : List Env} {s0 : Shared} {H0 : Hp} {ar : Args} {us : List Value} {zs : List V} {R : VK} {X0 : XK}
    (F : L2.Fun K q q st g fd) (S : FnScope N ps (defScope st)) (hl : zs.length = ps.length) (room : Room (j + 1) B) (en : Env0 P w K mg base B out s0 H0) (bi : BindsTo s0 fd ar (ps.zip us)) (rv : Vals zs us)
    (body : ∀ cdv : Value, Room j (B.deeper (envOfC q (defScope st) s0.heap.objs.size g cdv)) →
      ∃ t, PSs (cxOf CX0 P w K mg base N q (defScope st) g cdv B out s0 H0 X0).nox (defBody st) t ∧ t { nx := fun _ H' => R .non H', rt := R } (start N zs) H0) :
    codeAny (model P w) B (.call (.ref g) ar) (CR CX0 out P w H0 s0 R X0) s0 := by
  obtain ⟨oc, od, kV, doc, pm, an, cdv, ct, osl, rfl, look, code⟩ := F.ex
  have inK : K.In s0.heap := en.mod.kin.keeps fun b o z => (en.bs b o z).1
  have noL : s0.heap.NoLimit := en.mod.nolimit.keeps fun b o z => (en.bs b o z).1
  refine codeAny_call_function room.depth (inK _ _ look) rfl S.co S.gen rfl (PySem.W.codeRec_of inK code) (bi _ _ _ _ ?_)
  refine wpAny_newFunctionEnv_cells S.kind ?_ fun env same s2 at2 => ?_
  · rintro ⟨n, v⟩ mem
    exact (S.par n (List.of_mem_zip mem).1).imp id fun z => ⟨z, PySem.W.cellsFrom_some _ _ _ (.inl z)⟩
  · subst same
    refine ⟨noL.keeps at2.toInCall.keep, codeAny_func ?_⟩
    obtain ⟨t, run, val⟩ := body cdv (room.deeper _)
    have I0 := inv_start (CX := CX0) (E := X0) S room.hd en hl rv at2
    refine wpAny_mono (run.nox.run [] s2 _ H0 _ I0 val) (fun fl s3 out3 => ?_) fun e s3 z => z
    match fl, out3 with
    | .ret u, ⟨v, _, H3, J, r3, z⟩ => exact ⟨v, H3, J.os, J.bare, J.base, J.hok, r3, z⟩
    | .next, ⟨_, H3, J, z⟩ => exact ⟨.non, H3, J.os, J.bare, J.base, J.hok, rfl, z⟩
    | .brk, ⟨_, _, _, z⟩ => exact z.elim
    | .cont, ⟨_, _, _, z⟩ => exact z.elim
/-- at most the script is tracked, as an object that keeps -/
def OnlyA (a : Addr) (ls : List V) (vs : List Value) (H : Hp) : Prop := ∀ b u, H b = some u → b = a ∧ u = .frz { cls := .type "list", data := .seq vs.toArray } (.lst ls)
theorem law_in {k : Nat} {fa a : Addr} {x p1 : Str} {st : Stmt} {fd : FuncData} {N : List Str} {s1 : Shared} {vs : List Value} {zs : List Int}
    (kin : K.In s1.heap) (glob : s1.heap.Ns mainGlobals mg) (bltn : s1.heap.Ns builtinsNs mb) (bboot : ∀ y : Str, y ≠ "__name__" → mb y = bootBuiltins y) (noL : s1.heap.NoLimit) (noG : s1.gens = #[])
    (scr : s1.heap.get? a = some { cls := .type "list", data := .seq vs.toArray }) (isI : IntsAre vs zs) (small : zs.length ≤ sizeLine) (room : Room (k + 1) callerA)
    (F : L2.Fun K x x st fa fd) (S : FnScope N [p1] (defScope st)) (bi : ∀ (s : Shared) (u : Value), BindsTo s fd ⟨[u], []⟩ [(p1, u)])
    (body : ∀ (base : Heap) (H : Hp) (cdv : Value), Room k (callerA.deeper (envOfC x (defScope st) s1.heap.objs.size fa cdv)) → SqL K H a (zs.map V.int) →
      ∃ t, PSs (cxOf CX0 P w K mg base N x (defScope st) fa cdv callerA [] s1 H fun _ _ _ => False).nox (defBody st) t ∧ t { nx := fun _ _ => V.non = V.bl true, rt := fun v _ => v = .bl true } (start N [.ref a]) H) :
    codeAny (model P w) callerA (.call (.ref fa) ⟨[.ref a], []⟩) (fun r s' => r = .ok (.ret (.bool true)) ∧ OldK s1.heap s'.heap ∧ s'.os = s1.os ∧ AllBare s'.gens) s1 := by
  have isV := vals_ints isI
  have sameL := isI.length
  have main : ∀ H : Hp, OnlyA a (zs.map V.int) vs H → SqL K H a (zs.map V.int) → HOk P w H s1.heap → (K.lookup a ≠ none → H a = none) →
      codeAny (model P w) callerA (.call (.ref fa) ⟨[.ref a], []⟩) (fun r s' => r = .ok (.ret (.bool true)) ∧ OldK s1.heap s'.heap ∧ s'.os = s1.os ∧ AllBare s'.gens) s1 := by
    intro H lone sq good apart
    -- what is not the script is not tracked
    have free : ∀ {b : Addr}, b ≠ a → H b = none := fun {b} n => by
      cases z : H b with
      | none => rfl
      | some u => exact absurd (lone b u z).1 n
    have nsF : ∀ {b : Addr} {m : Str → Option Value}, s1.heap.Ns b m → (hidT s1.heap H).Ns b m := by
      rintro b m ⟨o, es, ep, z, dat, rest⟩
      refine ⟨o, es, ep, hidT_get z (free ?_), dat, rest⟩
      rintro rfl
      rw [scr] at z
      cases z
      cases (show Data.seq vs.toArray _ = Data.dict es ep from dat)
    have kinF : K.In (hidT s1.heap H) := fun b o z => by
      by_cases n : b = a
      · subst n
        exact hidT_get (kin _ _ z) (apart (by rw [z]; simp))
      · exact hidT_get (kin b o z) (free n)
    obtain ⟨mc, c1, c2⟩ := noL
    have en : Env0 P w K mg (hidT s1.heap H) callerA [] s1 H := by
      refine ⟨rfl, ⟨kinF, nsF glob, ⟨mb, nsF bltn, bboot⟩, ⟨mc, nsF c1, c2⟩⟩, fun b o z => of_hidT z, Nat.le_of_eq (hidT_size _ _), trivial, fun b z => ?_, good, .of_eq noG⟩
      cases z
    refine codeAny_mono (run_at (R := fun v _ => v = .bl true) (zs := [.ref a]) (us := [.ref a]) F S rfl room en (bi s1 (.ref a)) (.cons rfl .nil) fun cdv r => body _ H cdv r sq) fun res s2 h => ?_
    match res, h with
    | .error e, h => exact (show False from h).elim
    | .ok .next, h => exact (show False from h).elim
    | .ok .brk, h => exact (show False from h).elim
    | .ok .cont, h => exact (show False from h).elim
    | .ok (.ret u), ⟨v, H2, os, bare, un, good2, rv, ev⟩ =>
      obtain rfl : v = .bl true := ev
      obtain rfl : u = Value.bool true := rv
      refine ⟨rfl, OldK.of_keep fun b o z => ?_, os, bare⟩
      cases q : H b with
      | none => exact un.keep b o z q (fun m => by cases m) (by simp)
      | some u =>
        obtain ⟨rfl, rfl⟩ := lone b u q
        have g1 := (good _ _ q).1
        rw [z] at g1
        cases g1
        exact (good2 _ _ (un.frzs _ _ _ q)).1
  by_cases own : K.lookup a = none
  · refine main (fun b => if b = a then some (.frz { cls := .type "list", data := .seq vs.toArray } (.lst (zs.map V.int))) else none) ?_ (.inl (.inr ⟨_, if_pos rfl⟩)) ?_ fun n => absurd own n
    · intro b u z
      by_cases n : b = a
      · exact ⟨n, (Option.some.inj ((if_pos n).symm.trans z)).symm⟩
      · cases (if_neg n).symm.trans z
    · intro b u z
      by_cases n : b = a
      · subst n
        cases (if_pos rfl).symm.trans z
        exact ⟨scr, by rw [List.length_map]; exact small, vs, _, isV, scr⟩
      · cases (if_neg n).symm.trans z
  · obtain ⟨o, z⟩ := Option.ne_none_iff_exists'.mp own
    have same := kin a o z
    rw [scr] at same
    cases same
    exact main (fun _ => none) (fun _ _ z => by cases z) (.inr ⟨_, vs.toArray, _, z, rfl, rfl, rfl, by rw [List.size_toArray, sameL]; exact small, by simpa using isV⟩) (fun _ _ z => by cases z) fun _ => rfl
end
/-- the law's claim from its body, walked where no repr runs around it -/
theorem walk_law {l : PySem.W.OpenLaw} {n k : Nat} {q : Program} {loose : List Str} {XP : (Str → Option Value) → Heap → Prop} {YP : World → Heap → Prop} {d : DefRec} {K : Params → PySem.W.Frag} {x p1 : Str} {st : Stmt} {N : List Str}
    (hn : l.most = some n) (hn2 : n ≤ sizeLine) (hdf : d.params.defaults = []) (room : Room (k + 1) callerA) (S : FnScope N [p1] (defScope st))
    (hY : ∀ (w : World) (h : Heap), YP w h → (K w.params).In h)
    (F : ∀ (w : World) (mg : Str → Option Value) (fa : Addr) (h : Heap), (K w.params).In h → h.Ns mainGlobals mg → mg d.name = some (.ref fa) →
      ∃ fd : FuncData, L2.Fun (K w.params) x x st fa fd ∧ (∀ (s : Shared) (u : Value), BindsTo s fd ⟨[u], []⟩ [(p1, u)]) ∧
        ∀ (s1 : Shared) (a : Addr) (zs : List Int) (base : Heap) (H : Hp) (cdv : Value), zs.length ≤ n → (∀ z ∈ zs, Builtin.Int.intBits z ≤ 1048576) → Room k (callerA.deeper (envOfC x (defScope st) s1.heap.objs.size fa cdv)) → SqL (K w.params) H a (zs.map V.int) →
          ∃ t, PSs (cxOf CX0 l.prog w (K w.params) mg base N x (defScope st) fa cdv callerA [] s1 H fun _ _ _ => False).nox (defBody st) t ∧ t { nx := fun _ _ => V.non = V.bl true, rt := fun v _ => v = .bl true } (start N [.ref a]) H) :
    PySem.W.WalkO q loose XP YP l.row.toRowW d [] (fun f vs => PySem.call f vs) := by
  refine Att.attach_callB hn hdf fun w s0 s1 mg mb fa o pm cd doc a vs zs G Y ho hd hcd hmg hobj isI len bits noG => ?_
  have kin := hY w _ Y
  obtain ⟨fd, Fn, bi, body⟩ := F w mg fa _ kin G.T.g hmg
  exact law_in kin G.T.g G.T.b G.T.builtins G.T.nolimit noG hobj isI (Nat.le_trans len hn2) room Fn S bi fun base H cdv r sq => body s1 a zs base H cdv len bits r sq
end Sh
set_option Elab.async false
set_option linter.all false
set_option maxRecDepth 100000
namespace Sh
open PySem PySem.Spec PyProof.Rows L2
section
variable {K : PySem.W.Frag} {h : Heap} {mg : Str → Option Value}
/-- a constant that the top has written -/
theorem con_mk {x : Str} {u : Value} {v : V} (X : K.In h) (Y : h.Ns mainGlobals mg) (a : PySem.W.nsIn K mainGlobals x = some (some u)) (r : RelV v u) : ∃ u, mg x = some u ∧ RelV v u := ⟨u, PySem.W.mg_of X Y a, r⟩
/-- a def -/
theorem def_mk {x : Str} {st : Stmt} {ps : List Str} {f : Addr} {oc kv dc pm cd ct : Value} {od an : Option Addr} {sl : Array (Option Value)} (X : K.In h) (Y : h.Ns mainGlobals mg) (a : PySem.W.nsIn K mainGlobals x = some (some (.ref f)))
    (l : K.lookup f = some ⟨oc, od, .func (PySem.W.fnOf x x (defArgs st) (defBody st) (defScope st) .none kv dc pm an cd ct), sl⟩) (c : PySem.W.codeIn K cd x = true) (k : PySem.W.keepIn K (.ref f) = true)
    (b : ∀ (kV doc pm : Value) (an : Option Addr) (cdv ct : Value) (us : List Value), us.length = ps.length → bindArgs (PySem.W.fnOf x x (defArgs st) (defBody st) (defScope st) .none kV doc pm an cdv ct) ⟨us, []⟩ = pure (ps.zip us)) : DefAt K mg x st ps := by
  have F := fun_mk (st := st) l c k
  exact ⟨f, _, F, PySem.W.mg_of X Y a, F.binds b⟩
/-- a method -/
theorem meth_mk {C : Addr} {m q : Str} {st : Stmt} {ps : List Str} {f : Addr} {oc kv dc pm cd ct : Value} {od an : Option Addr} {sl : Array (Option Value)}
    (l : K.lookup f = some ⟨oc, od, .func (PySem.W.fnOf m q (defArgs st) (defBody st) (defScope st) .none kv dc pm an cd ct), sl⟩) (c : PySem.W.codeIn K cd q = true) (k : PySem.W.keepIn K (.ref f) = true)
    (i : PySem.W.findIn K (.ref C) m = some (some (.ref f))) (n : PySem.W.isFn K (.ref f) = true) (o : PySem.W.fnIn K f = true)
    (b : ∀ (kV doc pm : Value) (an : Option Addr) (cdv ct : Value) (us : List Value), us.length = ps.length → bindArgs (PySem.W.fnOf m q (defArgs st) (defBody st) (defScope st) .none kV doc pm an cdv ct) ⟨us, []⟩ = pure (ps.zip us)) : MethAt K C m q st ps := by
  have F := fun_mk (st := st) l c k
  exact ⟨f, _, F, F.binds b, i, n, o⟩
/-- the law's def -/
theorem law_mk {x p1 : Str} {st : Stmt} {fa f : Addr} {oc kv dc pm cd ct : Value} {od an : Option Addr} {sl : Array (Option Value)} (X : K.In h) (Y : h.Ns mainGlobals mg) (g : mg x = some (.ref fa)) (a : PySem.W.nsIn K mainGlobals x = some (some (.ref f)))
    (l : K.lookup f = some ⟨oc, od, .func (PySem.W.fnOf x x (defArgs st) (defBody st) (defScope st) .none kv dc pm an cd ct), sl⟩) (c : PySem.W.codeIn K cd x = true) (k : PySem.W.keepIn K (.ref f) = true)
    (b : ∀ (kV doc pm : Value) (an : Option Addr) (cdv ct : Value) (s : Shared) (u : Value), BindsTo s (PySem.W.fnOf x x (defArgs st) (defBody st) (defScope st) .none kV doc pm an cdv ct) ⟨[u], []⟩ [(p1, u)]) :
    ∃ fd : FuncData, L2.Fun K x x st fa fd ∧ ∀ (s : Shared) (u : Value), BindsTo s fd ⟨[u], []⟩ [(p1, u)] := by
  cases g.symm.trans (PySem.W.mg_of X Y a)
  exact ⟨_, fun_mk l c k, b _ _ _ _ _ _⟩
end
end Sh
set_option Elab.async false
set_option linter.all false
set_option maxRecDepth 100000
set_option maxHeartbeats 2000000
namespace Sh
open PySem PySem.Spec PyProof.Rows L2
section
variable {X : Cx} {C : Addr} {k j : Nat} {sp : Sp} {a : Expr} {ta : TE} {pos : Pos}
/-- not o, o an instance of the class at C with an own __bool__ -/
def tNotI (C : Addr) (sp : Sp) (ta : TE) : TE := fun σ H Q => ta σ H fun x H1 => ∃ p dx fs, x = .ref p ∧ H1 p = some (.ins C dx fs) ∧ sp [.ref p] H1 (fun z H2 => ∃ b, z = .bl b ∧ Q (.bl (!b)) H2) E0
theorem pe_notI (d : MetC X.prog X.w X.K X.mg X.base k C "__bool__" sp) (hr : Room j X.A) (hk : k ≤ j) (ha : PE X a ta) : PE X (.UnaryOp .Not a pos) (tNotI C sp ta) := by
  obtain ⟨f, fd, ps, F, b, i, n, o⟩ := d.ex
  refine ⟨fun pins s σ H Q I h => ?_⟩
  refine UnaryOp_ (thn (ha.run pins s σ H _ I h) fun v s1 ⟨x, H1, I1, r1, p, dx, fs, ex, hH, q⟩ => ?_)
  subst ex
  obtain rfl : v = .ref p := r1
  obtain ⟨ox, od, J, _⟩ := StX.insC_at (C := C) I1 (.inr ⟨dx, fs, hH⟩)
  refine not_of (truthy_own I1.kIn J i n (wpAny_mono (run_in (us := [.ref p]) (ws := [.ref p]) (fnR_of F b) (hr.mono hk) I1.env0 pass0 I1 (.cons rfl .nil) q) (fun v s' z => ?_) fun _ _ x => x))
  obtain ⟨z', H', I', rz, c, ec, qz⟩ := z
  subst ec
  obtain rfl : v = .bool c := rz
  exact ⟨c, rfl, .bl (!c), H', I', rfl, qz⟩
end
end Sh
set_option Elab.async false
set_option linter.all false
set_option maxRecDepth 100000
set_option maxHeartbeats 2000000
namespace Sh
open PySem PySem.Spec PyProof.Rows L2
section
variable {X : Cx} {k j : Nat} {C : Addr} {sp : Sp} {pos : Pos} {e fe : Expr} {es : List Expr} {t : TA} {tf : TE}
/-- o(e, ..), o an instance with fields: a reading that does not name the frame (for comprehensions) -/
def tInst (C : Addr) (sp : Sp) (tf : TE) (t : TA) : TE := fun σ H Q => tf σ H fun y H1 => ∃ a, y = V.ref a ∧ t σ H1 fun zs H2 => (∃ dx fs, H2 a = some (.ins C dx fs)) ∧ sp (V.ref a :: zs) H2 Q E0
theorem pe_instP (hf : PE X fe tf) (d : MetC X.prog X.w X.K X.mg X.base k C "__call__" sp) (hr : Room j X.A) (hk : k ≤ j) (ha : PA X (e :: es) t)
    (h1 : eval (.Call fe (e :: es) [] pos) X.env = (do callWith pos (← eval fe X.env) [] (backTo pos (starEach (e :: es) X.env)) (backToKw pos (keywordEach [] X.env))) := by rfl)
    (h2 : starEach (e :: es) X.env = (false, eval e X.env) :: starEach es X.env := by rfl) (h3 : (backTo pos (starEach es X.env)).any (·.1) = false := by rfl) : PE X (.Call fe (e :: es) [] pos) (tInst C sp tf t) := by
  obtain ⟨f, fd, ps, F, b, i, n, o⟩ := d.ex
  constructor
  intro pins s σ H Q I h
  refine Call_ (thn (hf.run pins s σ H _ I h) ?_) h1
  rintro u s1 ⟨_, H1, I1, ry, a, rfl, q⟩
  obtain rfl : u = .ref a := ry
  refine StX.callO_with (thn (ha.run pos pins s1 σ H1 _ I1 q) ?_) h2 h3
  rintro us s2 ⟨zs, H2, I2, rz, isC, q2⟩
  obtain ⟨ox, od, J, dat⟩ := StX.insC_at (C := C) I2 (.inr isC)
  exact ⟨⟨C, ox, od, J, dat⟩, StX.run_callO ⟨i, n, o⟩ (fnR_of F b) (hr.mono hk) pass0 I2 (.inr isC) rz q2⟩
end
end Sh
set_option Elab.async false
set_option linter.all false
set_option maxRecDepth 100000
set_option maxHeartbeats 2000000
/-! sorted of tuples of ints and texts, of any length, without and with a key def -/
namespace Sh
open PySem PySem.Spec PyProof.Rows L2
/-! ### a total order -/
def cd : V → List Int
  | .int i => [0, i]
  | .str s => 1 :: s.cps.toList.map Int.ofNat
  | _ => [2]
def cLt (a b : List V) : Bool := decide (a.map cd < b.map cd)
theorem ofNat_lt (a b : List Nat) : (a.map Int.ofNat < b.map Int.ofNat) ↔ a < b := by
  induction a generalizing b with
  | nil => cases b <;> simp
  | cons x a ih =>
    cases b with
    | nil => simp
    | cons y b =>
      rw [List.map_cons, List.map_cons, List.cons_lt_cons_iff, List.cons_lt_cons_iff, ih]
      constructor
      · rintro (h | ⟨h, k⟩)
        · exact .inl (Int.ofNat_lt.mp h)
        · exact .inr ⟨Int.ofNat.inj h, k⟩
      · rintro (h | ⟨h, k⟩)
        · exact .inl (Int.ofNat_lt.mpr h)
        · exact .inr ⟨congrArg Int.ofNat h, k⟩
theorem cd_lt {x y : V} (h : sameK x y = true) : vLt x y = decide (cd x < cd y) := by
  cases x <;> cases y <;> first | cases h | skip
  · rename_i i j
    show decide (i < j) = decide ([0, i] < [0, j])
    refine decide_eq_decide.mpr ?_
    simp [List.cons_lt_cons_iff]
  · rename_i a b
    show decide (a.cps.toList < b.cps.toList) = decide ((1 : Int) :: a.cps.toList.map Int.ofNat < 1 :: b.cps.toList.map Int.ofNat)
    refine decide_eq_decide.mpr ?_
    rw [List.cons_lt_cons_iff, ofNat_lt]
    simp
theorem cd_eq {x y : V} (h : sameK x y = true) : (x = y) ↔ (cd x = cd y) := by
  cases x <;> cases y <;> first | cases h | skip
  · rename_i i j
    simp [cd]
  · rename_i a b
    refine ⟨fun e => by rw [e], fun e => ?_⟩
    have e' : a.cps.toList.map Int.ofNat = b.cps.toList.map Int.ofNat := (List.cons.inj e).2
    have inj : Function.Injective Int.ofNat := fun a b h => Int.ofNat.inj h
    have e2 : a.cps.toList = b.cps.toList := by
      have := congrArg (List.map Int.toNat) e'
      simpa [List.map_map, Function.comp_def] using this
    have e3 : a.cps = b.cps := Array.toList_inj.mp e2
    cases a; cases b
    simp only at e3
    rw [e3]
theorem tup_cLt : ∀ {a b : List V}, sameKs a b = true → tupLt a b = cLt a b
  | [], [], _ => by simp [tupLt, cLt]
  | [], _ :: _, _ => by simp [tupLt, cLt]
  | _ :: _, [], _ => by simp [tupLt, cLt]
  | x :: xs, y :: ys, h => by
    have h' : (sameK x y && sameKs xs ys) = true := h
    rw [Bool.and_eq_true] at h'
    have ih := tup_cLt h'.2
    unfold tupLt cLt
    by_cases e : x = y
    · subst e
      rw [if_pos rfl, ih]
      unfold cLt
      refine decide_eq_decide.mpr ?_
      rw [List.map_cons, List.map_cons, List.cons_lt_cons_iff]
      constructor
      · exact fun k => .inr ⟨rfl, k⟩
      · rintro (k | ⟨_, k⟩)
        · exact absurd k (List.lt_irrefl _)
        · exact k
    · rw [if_neg e, cd_lt h'.1]
      refine decide_eq_decide.mpr ?_
      rw [List.map_cons, List.map_cons, List.cons_lt_cons_iff]
      constructor
      · exact fun k => .inl k
      · rintro (k | ⟨k, _⟩)
        · exact k
        · exact absurd ((cd_eq h'.1).mpr k) e
theorem swo_cLt {α : Type} (k : α → List V) : SrtO.Swo fun u v => cLt (k u) (k v) := by
  refine ⟨fun x y h => ?_, fun x y z h1 h2 => ?_⟩
  · have a := of_decide_eq_true h
    exact decide_eq_false fun b => List.lt_irrefl _ (List.lt_trans a b)
  · have a := of_decide_eq_false h1
    have b := of_decide_eq_false h2
    refine decide_eq_false fun c => ?_
    rcases Classical.em ((k y).map cd < (k x).map cd) with q | q
    · exact a q
    · -- x ≤ y, y ≤ z, z < x
      rcases Classical.em ((k x).map cd < (k y).map cd) with p | p
      · exact b (List.lt_trans c p)
      · have e : (k x).map cd = (k y).map cd := by
          have h1 : (k x).map cd ≤ (k y).map cd := List.not_lt.mp q
          have h2 : (k y).map cd ≤ (k x).map cd := List.not_lt.mp p
          exact List.le_antisymm h1 h2
        rw [e] at c
        exact b c
/-! ### tuples in a heap -/
def TupV (h : Heap) (v : Value) (ks : List V) : Prop := ∃ (a : Addr) (o : Obj) (its : List Value) (n : Nat), v = .ref a ∧ h.get? a = some o ∧ o.cls = .type "tuple" ∧ o.data = .seq its.toArray n ∧ Vals ks its
theorem TupV.keeps {h h' : Heap} {v : Value} {ks : List V} (x : TupV h v ks) (k : ∀ b o, h.get? b = some o → o.cls = .type "tuple" → h'.get? b = some o) : TupV h' v ks := by
  obtain ⟨a, o, its, n, e, ho, hc, hd, r⟩ := x
  exact ⟨a, o, its, n, e, k _ _ ho hc, hc, hd, r⟩
inductive First : String → V → Prop
  | int (i : Int) : First "int" (.int i)
  | str (s : Str) : First "str" (.str s)
def Head (T : String) (ks : List V) : Prop := ∃ x r, ks = x :: r ∧ First T x
section
variable {prog : Program} {w : World} {A : Around} {s : Shared} {E : Value → Shared → Prop} {Q : Bool → Shared → Prop}
theorem oneLt_str' (c : Bool) {p q : Str} {t u : Tok} (h : Q (decide (p.cps.toList < q.cps.toList)) s) : wpAny (model prog w) A (oneLt' c (.str p t) (.str q u)) Q E s := by
  cases c with
  | true => exact oneLt_str h
  | false => exact PySem.W.kat_one _ _ (PyProof.Rows.lt_str (Q := PySem.W.BoolBack Q) h)
theorem lex_mixed {b fin : Bool} : ∀ {ks ms : List V} {xs ys : List Value} (i : Nat), Vals ks xs → Vals ms ys → sameKs ks ms = true → fin = decide (ks.length < ms.length) → Q (tupLt ks ms) s → PySem.W.KatLex prog w A b fin Q (xs.zip ys) i s
  | [], [], _, _, i, .nil, .nil, _, e, h => by
    subst e
    exact PySem.W.kat_nil h
  | [], y :: ms, _, _, i, .nil, .cons _ _, _, e, h => by
    refine PySem.W.kat_nil ?_
    rw [e, show decide (([] : List V).length < (y :: ms).length) = true from decide_eq_true (by simp)]
    exact h
  | x :: ks, [], _, _, i, .cons _ _, .nil, _, e, h => by
    refine PySem.W.kat_nil ?_
    rw [e, show decide ((x :: ks).length < ([] : List V).length) = false from decide_eq_false (by simp)]
    exact h
  | x :: ks, y :: ms, _, _, i, .cons rx rxs, .cons ry rys, hs, e, h => by
    have h' : (sameK x y && sameKs ks ms) = true := hs
    rw [Bool.and_eq_true] at h'
    have e' : fin = decide (ks.length < ms.length) := by
      rw [e]
      exact decide_eq_decide.mpr (by simp)
    have hq : Q (if x = y then tupLt ks ms else vLt x y) s := h
    cases x <;> cases y <;> first | cases h'.1 | skip
    · rename_i i1 i2
      obtain ⟨t1, rfl⟩ := rx
      obtain ⟨t2, rfl⟩ := ry
      refine PySem.W.kat_cons (SeqAt.EqAt.int_int i1 t1 i2 t2 prog w _ _ ?_)
      by_cases c : i1 = i2
      · subst c
        rw [if_pos rfl] at hq
        rw [beq_self_eq_true]
        exact PySem.W.kat_yes (lex_mixed (i + 1) rxs rys h'.2 e' hq)
      · rw [if_neg (fun z => c (V.int.inj z))] at hq
        rw [show (i1 == i2) = false from beq_eq_false_iff_ne.mpr c]
        exact PySem.W.kat_no (TS.oneLt_ints _ hq)
    · rename_i s1 s2
      obtain ⟨t1, rfl⟩ := rx
      obtain ⟨t2, rfl⟩ := ry
      refine PySem.W.kat_cons (SeqAt.EqAt.str_str s1 t1 s2 t2 prog w _ _ ?_)
      by_cases c : s1 = s2
      · subst c
        rw [if_pos rfl] at hq
        rw [beq_self_eq_true]
        exact PySem.W.kat_yes (lex_mixed (i + 1) rxs rys h'.2 e' hq)
      · rw [if_neg (fun z => c (V.str.inj z))] at hq
        rw [show (s1 == s2) = false from beq_eq_false_iff_ne.mpr c]
        exact PySem.W.kat_no (oneLt_str' _ hq)
theorem tup_cmp {b : Bool} {vs : List Value} {k : Value → List V} (hp : ∀ v ∈ vs, TupV s.heap v (k v)) (hs : ∀ v ∈ vs, ∀ u ∈ vs, sameKs (k v) (k u) = true) : SrtO.Cmp prog w A s (tuples' b) (fun p => p.1 ∈ vs) (SrtO.lt2 fun v u => cLt (k v) (k u)) := by
  intro p q hm hm'
  show wpAny (model prog w) A (keyLt' (tuples' b) p.1 q.1) (fun r s' => s' = s ∧ r = cLt (k p.1) (k q.1)) (fun _ _ => False) s
  rw [← tup_cLt (hs _ hm _ hm')]
  have h2 := hs _ hm _ hm'
  obtain ⟨a, o, its, n, e, ho, hc, hd, r⟩ := hp _ hm
  obtain ⟨a', o', its', n', e', ho', hc', hd', r'⟩ := hp _ hm'
  generalize k p.1 = kp at r h2 ⊢
  generalize k q.1 = kq at r' h2 ⊢
  rw [e, e']
  refine PySem.W.kat_lt ho hd ho' hd' ?_
  refine lex_mixed (Q := fun b s' => s' = s ∧ b = tupLt kp kq) 0 r r' h2 ?_ ⟨rfl, rfl⟩
  rw [List.size_toArray, List.size_toArray, r.length, r'.length]
theorem tups_first {h : Heap} {T : String} {k : Value → List V} : ∀ (vs : List Value), (∀ v ∈ vs, TupV h v (k v)) → (∀ v ∈ vs, Head T (k v)) → ∃ fs, PySem.W.KatTups h vs fs ∧ fs.length = vs.length ∧ ∀ f ∈ fs, ∃ x, First T x ∧ RelV x f
  | [], _, _ => ⟨[], PySem.W.KatTups.nil, rfl, fun f hf => by simp at hf⟩
  | v :: vs, h1, h2 => by
    obtain ⟨fs, g1, g2, g3⟩ := tups_first vs (fun u hu => h1 u (List.mem_cons_of_mem _ hu)) (fun u hu => h2 u (List.mem_cons_of_mem _ hu))
    obtain ⟨a, o, its, n, e, ho, hc, hd, r⟩ := h1 v List.mem_cons_self
    obtain ⟨x, rr, ek, fx⟩ := h2 v List.mem_cons_self
    rw [ek] at r
    cases r with
    | cons rx rest =>
      rename_i u us
      refine ⟨u :: fs, ?_, by simp [g2], fun f hf => ?_⟩
      · rw [e]
        exact PySem.W.KatTups.cons ho hc hd (by simp) g1
      · rcases List.mem_cons.mp hf with q | q
        · rw [q]; exact ⟨x, fx, rx⟩
        · exact g3 f q
theorem tup_kind {T : String} {vs : List Value} {k : Value → List V} {Q : SortKind → Shared → Prop} (h0 : 0 < vs.length) (hp : ∀ v ∈ vs, TupV s.heap v (k v)) (ht : ∀ v ∈ vs, Head T (k v)) (hq : Q (tuples' (Value.type T != Value.type "tuple")) s) : wpAny (model prog w) A (keyKind' vs.toArray) Q E s := by
  obtain ⟨fs, g1, g2, g3⟩ := tups_first vs hp ht
  refine PySem.W.kat_kind (T := .type T) g1 (by omega) (fun f hm => ?_) (by
    have : T = "int" ∨ T = "str" := by
      cases fs with
      | nil => simp at g2; omega
      | cons f fs =>
        obtain ⟨x, fx, _⟩ := g3 f List.mem_cons_self
        cases fx
        · exact .inl rfl
        · exact .inr rfl
    rcases this with rfl | rfl <;> rfl) hq
  obtain ⟨x, fx, rx⟩ := g3 f hm
  cases fx with
  | int i => obtain ⟨t, rfl⟩ := rx; exact PySem.W.Looks.of_pure rfl
  | str z => obtain ⟨t, rfl⟩ := rx; exact PySem.W.Looks.of_pure rfl
end
/-! ### rows that stand beside each other -/
theorem paired_perm {α β : Type} {R : α → β → Prop} {l l' : List α} (p : l'.Perm l) : ∀ {m : List β}, Paired R l m → ∃ m', m'.Perm m ∧ Paired R l' m' := by
  induction p with
  | nil => intro m h; exact ⟨m, List.Perm.refl _, h⟩
  | cons x _ ih =>
    intro m h
    cases h with
    | cons r t =>
      obtain ⟨m', p', h'⟩ := ih t
      exact ⟨_ :: m', p'.cons _, .cons r h'⟩
  | swap x y l =>
    intro m h
    cases h with
    | cons r t =>
      cases t with
      | cons r2 t2 => exact ⟨_, List.Perm.swap _ _ _, .cons r2 (.cons r t2)⟩
  | trans _ _ ih1 ih2 =>
    intro m h
    obtain ⟨m1, p1, h1⟩ := ih2 h
    obtain ⟨m2, p2, h2⟩ := ih1 h1
    exact ⟨m2, p2.trans p1, h2⟩
end Sh
set_option Elab.async false
set_option linter.all false
set_option maxRecDepth 100000
set_option maxHeartbeats 2000000
namespace Sh
open PySem PySem.Spec PyProof.Rows L2
theorem paired_pairwise {α β : Type} {R : α → β → Prop} {P : α → α → Prop} {P' : β → β → Prop} (h : ∀ a a' b b', R a b → R a' b' → P a a' → P' b b') : ∀ {l : List α} {m : List β}, Paired R l m → l.Pairwise P → m.Pairwise P'
  | _, _, .nil, _ => List.Pairwise.nil
  | _, _, .cons r t, p => by
    obtain ⟨p1, p2⟩ := List.pairwise_cons.mp p
    refine List.pairwise_cons.mpr ⟨fun b' hb => ?_, paired_pairwise h t p2⟩
    have key : ∀ {l : List α} {m : List β}, Paired R l m → ∀ b ∈ m, ∃ a ∈ l, R a b := by
      intro l m hp
      induction hp with
      | nil => intro b hb; cases hb
      | cons r t ih =>
        intro b hb
        rcases List.mem_cons.mp hb with e | hb
        · subst e; exact ⟨_, List.mem_cons_self, r⟩
        · obtain ⟨a, ha, hr⟩ := ih b hb
          exact ⟨a, List.mem_cons_of_mem _ ha, hr⟩
    obtain ⟨a', ha, ra⟩ := key t b' hb
    exact h _ _ _ _ r ra (p1 a' ha)
theorem paired_mem {α β : Type} {R : α → β → Prop} {l : List α} {m : List β} (h : Paired R l m) : ∀ a ∈ l, ∃ b ∈ m, R a b := by
  induction h with
  | nil => intro b hb; cases hb
  | cons r t ih =>
    intro b hb
    rcases List.mem_cons.mp hb with e | hb
    · subst e; exact ⟨_, List.mem_cons_self, r⟩
    · obtain ⟨a, ha, hr⟩ := ih b hb
      exact ⟨a, List.mem_cons_of_mem _ ha, hr⟩
theorem paired_imp {α β : Type} {R S : α → β → Prop} {l : List α} {m : List β} (h : Paired R l m) (k : ∀ a b, R a b → S a b) : Paired S l m := by
  induction h with
  | nil => exact .nil
  | cons r t ih => exact .cons (k _ _ r) ih
theorem paired_snoc {α β : Type} {R : α → β → Prop} {l : List α} {m : List β} (h : Paired R l m) {a : α} {b : β} (r : R a b) : Paired R (l ++ [a]) (m ++ [b]) := by
  induction h with
  | nil => exact .cons r .nil
  | cons r0 t ih => exact .cons r0 ih
theorem paired_at {α β : Type} {R : α → β → Prop} : ∀ {l : List α} {m : List β}, l.length = m.length → (∀ (i : Nat) a b, l[i]? = some a → m[i]? = some b → R a b) → Paired R l m
  | [], [], _, _ => .nil
  | [], _ :: _, h, _ => by simp at h
  | _ :: _, [], h, _ => by simp at h
  | a :: l, b :: m, h, k => .cons (k 0 a b rfl rfl) (paired_at (by simpa using h) fun i x y h1 h2 => k (i + 1) x y (by simpa using h1) (by simpa using h2))
theorem paired_get {α β : Type} {R : α → β → Prop} {l : List α} {m : List β} (h : Paired R l m) : l.length = m.length ∧ ∀ (i : Nat) a b, l[i]? = some a → m[i]? = some b → R a b := by
  induction h with
  | nil => exact ⟨rfl, fun i a b e => by simp at e⟩
  | cons r t ih =>
    refine ⟨by simp [ih.1], fun i a b h1 h2 => ?_⟩
    cases i with
    | zero => simp at h1 h2; subst h1; subst h2; exact r
    | succ i => exact ih.2 i a b (by simpa using h1) (by simpa using h2)
/-- what stands at a value -/
def kvH (H : Hp) : Value → List V
  | .ref q => match H q with
    | some (.tup ks) => ks
    | _ => []
  | _ => []
theorem kvH_at {H : Hp} {q : Addr} {ks : List V} (h : H q = some (.tup ks)) : kvH H (.ref q) = ks := by
  unfold kvH
  simp only [h]
/-- a tuple of y's stands at v -/
def TupAt {α : Type} (g : α → List V) (H : Hp) (v : V) (y : α) : Prop := ∃ q, v = .ref q ∧ H q = some (.tup (g y))
theorem TupAt.sm {α : Type} {g : α → List V} {H H' : Hp} {v : V} {y : α} (h : TupAt g H v y) (s : Same H H') : TupAt g H' v y := let ⟨q, e, k⟩ := h; ⟨q, e, s _ _ k⟩
section
variable {X : Cx}
theorem Inv.tupV {pins : List (Addr × Obj)} {σ : L2.St} {H : Hp} {s : Shared} (I : Inv X pins σ H s) {q : Addr} {ks : List V} (h : H q = some (.tup ks)) : TupV s.heap (.ref q) ks := by
  obtain ⟨_, its, r, o, ho, hc, n, hd⟩ := I.hok q _ h
  exact ⟨q, o, its, n, rfl, ho, hc, hd, r⟩
def rSortM (K : PySem.W.Frag) : List V → Hp → VK → Prop := fun vs H Q => ∃ (α : Type) (g : α → List V) (T : String) (a : Addr) (xs : List V) (l : List α), vs = [.ref a] ∧ SqL K H a xs ∧ Items (TupAt g) H xs l ∧ (∀ y ∈ l, Head T (g y)) ∧ (∀ y ∈ l, ∀ z ∈ l, sameKs (g y) (g z) = true) ∧
  ∀ (l' : List α) (ys : List V) (p : Addr) (H' : Hp), l'.Perm l → l'.Pairwise (fun y z => cLt (g z) (g y) = false) → H p = none → Same H H' → H' p = some (.lst ys) → Items (TupAt g) H' ys l' → Q (.ref p) H'
theorem cr_sortM : CallR X (.builtin "sorted") (rSortM X.K) := by
  intro pins s σ H vs us Q I r h
  obtain ⟨α, g, T, a, xs, l, rfl, hs, it, ht, hsk, q⟩ := h
  obtain ⟨its, rv, hl, hz⟩ := I.list hs
  obtain ⟨u, rfl, ru⟩ := vals1 r
  obtain rfl : u = Value.ref a := ru
  have pr : Paired (fun u y => ∃ q, u = Value.ref q ∧ H q = some (.tup (g y))) its l := by
    refine paired_at (by rw [← rv.length, it.1]) fun i u y h1 h2 => ?_
    obtain ⟨x, hx, q', e, hq⟩ := it.get h2
    obtain ⟨u', hu, ru⟩ := rv.get hx
    rw [hu] at h1
    cases h1
    subst e
    obtain rfl : u = Value.ref q' := ru
    exact ⟨q', rfl, hq⟩
  have hk : ∀ v ∈ its, ∃ y ∈ l, kvH H v = g y ∧ TupV s.heap v (kvH H v) := by
    intro v hv
    obtain ⟨y, hy, q', e, hq⟩ := paired_mem pr v hv
    subst e
    refine ⟨y, hy, kvH_at hq, ?_⟩
    rw [kvH_at hq]
    exact Inv.tupV I hq
  have hsame : ∀ v ∈ its, ∀ u ∈ its, sameKs (kvH H v) (kvH H u) = true := by
    intro v hv u hu
    obtain ⟨y, hy, e1, _⟩ := hk v hv
    obtain ⟨z, hz', e2, _⟩ := hk u hu
    rw [e1, e2]
    exact hsk y hy z hz'
  refine SrtO.sorted_ord (swo_cLt (kvH H)) hl.isList (by rw [← rv.length]; exact hz) (fun h2 h₁ a' ha kk => ?_) fun out h1 h2 => ?_
  · intro h' keep
    have hp' : ∀ v ∈ its, TupV h' v (kvH H v) := fun v hv => by
      obtain ⟨_, _, _, tv⟩ := hk v hv
      exact tv.keeps fun b o e _ => keep b o (kk b o e).1 (kk b o e).2
    refine ⟨tuples' (Value.type T != Value.type "tuple"), fun Q' E' hq => ?_, tup_cmp (s := { s with heap := h' }) hp' hsame⟩
    refine tup_kind (s := { s with heap := h' }) (T := T) (k := kvH H) (by omega) hp' (fun v hv => ?_) hq
    obtain ⟨y, hy, e, _⟩ := hk v hv
    rw [e]
    exact ht y hy
  · obtain ⟨l', pl, pr'⟩ := paired_perm h2.perm pr
    have h3 : ∀ u ∈ out, ∃ a, u = Value.ref a := fun u hu => by
      obtain ⟨y, _, q', e, _⟩ := paired_mem pr' u hu
      exact ⟨q', e⟩
    obtain ⟨ep, he'⟩ := PyProof.Rows.sortedAll_at s.heap its out.toArray
    have hp : H (s.heap.objs.size + 1) = none := I.hok.fresh (Nat.le_succ _)
    have hlen : (out.map backV).length ≤ sizeLine := by
      rw [List.length_map, h2.perm.length_eq, ← rv.length]
      exact hz
    refine ⟨.ref (s.heap.objs.size + 1), upd H (s.heap.objs.size + 1) (.lst (out.map backV)), I.laid (t' := s.toks) (fun _ _ => PyProof.Rows.sortedAll_old) (Nat.le_succ _) ⟨hlen, out, ep, vals_back h3, he'⟩, rfl, ?_⟩
    refine q l' _ _ _ pl ?_ hp (same_new hp) upd_same ?_
    · refine paired_pairwise (R := fun u y => ∃ q, u = Value.ref q ∧ H q = some (.tup (g y))) ?_ pr' h1
      rintro u u' y y' ⟨q1, rfl, e1⟩ ⟨q2, rfl, e2⟩ h
      have h' : cLt (kvH H (.ref q2)) (kvH H (.ref q1)) = false := h
      rw [kvH_at e1, kvH_at e2] at h'
      exact h'
    · obtain ⟨e1, e2⟩ := paired_get pr'
      refine ⟨by rw [List.length_map]; exact e1, fun i x y hx hy => ?_⟩
      rw [List.getElem?_map] at hx
      cases hu : out[i]? with
      | none => rw [hu] at hx; cases hx
      | some u =>
        rw [hu] at hx
        obtain ⟨q', rfl, hq⟩ := e2 i u y hu hy
        cases hx
        exact ⟨q', rfl, same_new hp _ _ hq⟩
end
/-! ### with a key def -/
section
variable {X : Cx} {pins : List (Addr × Obj)} {σ : L2.St} {H : Hp} {s : Shared} {a g : Addr} {n N : Nat} {sp : Sp} {α : Type} {f : α → V} {gk : α → List V} {l : List α} {vs : List Value} {T : String} {P : PySem.Fin → Shared → Prop}
theorem list_sort_keyX (I : Inv X pins σ H s) (F : FnR X.prog X.w X.K X.mg X.base CX0 n g sp) (hr : Room n X.A.in1.in1)
    (ho : s.heap.get? a = some (seqObj "list" vs.toArray N)) (fpa : FpOk X pins H a) (rv : Vals (l.map f) vs) (hz : l.length ≤ sizeLine)
    (hk : ∀ y ∈ l, ∀ H1, Same H H1 → ∀ Q' : VK, (∀ q H2, Same H1 H2 → H2 q = some (.tup (gk y)) → Q' (.ref q) H2) → sp [f y] H1 Q' E0)
    (ht : ∀ y ∈ l, Head T (gk y)) (hs : ∀ y ∈ l, ∀ z ∈ l, sameKs (gk y) (gk z) = true)
    (h : ∀ (l' : List α) (s' : Shared) (H' : Hp), l'.Perm l → l'.Pairwise (fun y z => cLt (gk z) (gk y) = false) → Inv X pins σ H' s' → Same H H' → H' a = some (.lst (l'.map f)) → P (.done (.ret .none)) s') :
    wpAny (model X.prog X.w) X.A.in1.in1 (ksk_tree a (.ref g) false) P X.xe s := by
  have hlen : vs.length = l.length := by rw [← rv.length, List.length_map]
  obtain ⟨hn, hL, hfs, hex, hcell, hpin⟩ := id fpa
  have ha : a < s.heap.objs.size := Heap.lt_size ho
  have s1 := Heap.SameBut.update s.heap a (Obj.mapSeq fun _ => (#[] : Array Value))
  obtain ⟨e1, ho1⟩ : ∃ e1, (s.heap.update a (Obj.mapSeq fun _ => (#[] : Array Value))).get? a = some (seqObj "list" #[] e1) := ⟨_, get?_update_seq ho fun _ => #[]⟩
  unfold ksk_tree
  refine wpAny_bind (listItems_at ho rfl ?_)
  refine wpAny_bind (listUpdate_at ho rfl ?_ (by rw [List.size_toArray, hlen]; exact hz) (Nat.zero_le _))
  refine wpAny_bind (seqEpoch_at ho1 rfl ?_)
  refine wpAny_bind (wpAny_newTuple ?_ (by show vs.length ≤ _; rw [hlen]; exact hz))
  refine wpAny_bind (wpAny_newList ?_ (Nat.zero_le _))
  refine wpAny_holding ?_
  have J1 : Inv X pins σ H { s with heap := s.heap.update a (Obj.mapSeq fun _ => (#[] : Array Value)), toks := s.toks } := I.turned (fun b o hb e => (s1.2 b hb).trans e) hn hL hex hcell hpin
  have z1 : (s.heap.update a (Obj.mapSeq fun _ => (#[] : Array Value))).objs.size = s.heap.objs.size := Heap.size_update _ _ _
  show wpAny _ _ (ksk_rest a (.ref g) false vs.toArray e1 (.ref (((s.heap.update a (Obj.mapSeq fun _ => (#[] : Array Value))).push (seqObj "tuple" vs.toArray 0)).objs.size))) P X.xe { s with heap := ((s.heap.update a (Obj.mapSeq fun _ => (#[] : Array Value))).push (seqObj "tuple" vs.toArray 0)).push (seqObj "list" #[] 0) }
  generalize s.heap.update a (Obj.mapSeq fun _ => (#[] : Array Value)) = h1 at J1 ho1 z1 ⊢
  have z2 : (h1.push (seqObj "tuple" vs.toArray 0)).objs.size = h1.objs.size + 1 := size_push' _ _
  have J2 : Inv X pins σ (upd H (h1.push (seqObj "tuple" vs.toArray 0)).objs.size (.lst [])) { s with heap := (h1.push (seqObj "tuple" vs.toArray 0)).push (seqObj "list" #[] 0), toks := s.toks } :=
    J1.laid (fun b o e => Heap.get?_push_of_some _ (Heap.get?_push_of_some _ e)) (by rw [z2]; exact Nat.le_succ _) ⟨Nat.zero_le _, [], 0, .nil, Heap.get?_push_size _ rfl⟩
  have hk0 : H (h1.push (seqObj "tuple" vs.toArray 0)).objs.size = none := J1.hok.fresh (by rw [z2]; exact Nat.le_succ _)
  have hne : a ≠ (h1.push (seqObj "tuple" vs.toArray 0)).objs.size := by rw [z2, z1]; exact Nat.ne_of_lt (Nat.lt_succ_of_lt ha)
  have J3 : Inv X (pins ++ [(a, seqObj "list" #[] e1)]) σ (upd H (h1.push (seqObj "tuple" vs.toArray 0)).objs.size (.lst [])) { s with heap := (h1.push (seqObj "tuple" vs.toArray 0)).push (seqObj "list" #[] 0), toks := s.toks } :=
    J2.pins_of fun p hp => (List.mem_append.mp hp).elim (fun z => J2.pin p (List.mem_append_right _ z)) fun z => by
      rw [List.mem_singleton.mp z]
      exact ⟨Heap.get?_push_of_some _ (Heap.get?_push_of_some _ ho1), by rw [upd_ne hne]; exact hn, hL, hfs, fun v e => by cases e⟩
  generalize (h1.push (seqObj "tuple" vs.toArray 0)).objs.size = kS at J2 J3 hk0 hne ⊢
  generalize hs0 : ({ s with heap := (h1.push (seqObj "tuple" vs.toArray 0)).push (seqObj "list" #[] 0) } : Shared) = s0 at J3 ⊢
  clear hs0 J2 z2 J1 z1 ho1 h1
  unfold ksk_rest
  refine wpAny_bind (wpAny_rule ?_)
  first
    | rw [List.forIn_toArray]
    | (rw [← Array.forIn_toList]; simp only [List.toList_toArray])
    | rw [← Array.forIn_toList]
  refine wpAny_bind (ksk_fold (fun i s' => ∃ H' ys, Inv X (pins ++ [(a, seqObj "list" #[] e1)]) σ H' s' ∧ Same H H' ∧ H' kS = some (.lst ys) ∧ Paired (fun v y => ∃ q, v = V.ref q ∧ H' q = some (.tup (gk y))) ys (l.take i)) vs 0 s0
    ⟨_, [], J3, same_new hk0, upd_same, .nil⟩ ?step ?done)
  case step =>
    rintro j x s' hx ⟨H', ys, J, sm, hkS, pr⟩
    simp only [Nat.zero_add] at pr ⊢
    have hj : j < vs.length := (List.getElem?_eq_some_iff.mp hx).1
    have hjl : j < l.length := by omega
    have hy : l[j]? = some l[j] := List.getElem?_eq_getElem hjl
    have hym : l[j] ∈ l := List.getElem_mem hjl
    have rx : RelV (f l[j]) x := by
      obtain ⟨u, hu, ru⟩ := rv.get (i := j) (x := f l[j]) (by rw [List.getElem?_map, hy]; rfl)
      rw [hx] at hu
      cases hu
      exact ru
    have yl : ys.length = j := by
      have := Paired.length pr
      rw [List.length_take] at this
      omega
    refine wpAny_bind (wpAny_attempt (wpAny_mono (run_in (X := X.wish fun _ _ => False) (us := [x]) (ws := [f l[j]]) (Q := fun v H2 => ∃ q, v = .ref q ∧ Same H' H2 ∧ H2 q = some (.tup (gk l[j]))) F hr (J.wish _).env0.in1.in1 pass0 (J.wish _) (.cons rx .nil)
      (hk _ hym H' sm _ fun q H2 sm2 hq => ⟨q, rfl, sm2, hq⟩)) (fun v s'' he => ?_) fun _ _ hF => hF.elim))
    obtain ⟨v', H2, J', rv', q, rfl, sm2, hq⟩ := he
    obtain rfl : v = .ref q := rv'
    have J2 := J'.unwish
    have hkS2 := sm2 _ _ hkS
    obtain ⟨hzz, its, n2, rvi, hli, hget⟩ := J2.lstM hkS2
    try dsimp only
    have s2 := Heap.SameBut.update s''.heap kS (Obj.mapSeq (·.push (Value.ref q)))
    obtain ⟨c2, hc2⟩ : ∃ c2, (s''.heap.update kS (Obj.mapSeq (·.push (Value.ref q)))).get? kS = some (seqObj "list" (its.toArray.push (Value.ref q)) c2) := ⟨_, get?_update_seq hget (·.push (Value.ref q))⟩
    refine wpAny_bind (listUpdate_at hget rfl ?_ (by rw [List.size_toArray, ← hli]; exact hzz) (by rw [Array.size_push, List.size_toArray, ← hli]; omega))
    have et : l.take (j + 1) = l.take j ++ [l[j]] := by rw [List.take_succ, hy]; rfl
    refine wpAny_pure ⟨rfl, upd H2 kS (.lst (ys ++ [.ref q])), ys ++ [.ref q], ?_, same_mut (sm.trans sm2) hk0, upd_same, ?_⟩
    · refine J2.write (t' := s''.toks) (by rw [hkS2]; trivial) (.inl rfl) (fun b u hb e => (s2.2 b hb).trans e) ⟨_, hc2⟩ ⟨by rw [List.length_append, yl]; show j + 1 ≤ _; omega, its ++ [.ref q], c2, ?_, ?_⟩
      · exact paired_snoc rvi (show RelV (.ref q) (.ref q) from rfl)
      · rw [hc2, List.push_toArray]
    · rw [et]
      have up : ∀ q0 ks, H2 q0 = some (.tup ks) → upd H2 kS (.lst (ys ++ [.ref q])) q0 = some (.tup ks) := fun q0 ks e => by
        rw [upd_ne (ne_of e hkS2 (by intro z; cases z))]
        exact e
      exact paired_snoc (paired_imp pr fun v y ⟨q0, e, hq0⟩ => ⟨q0, e, up q0 _ (sm2 _ _ hq0)⟩) ⟨q, rfl, up q _ hq⟩
  case done =>
    rintro s' ⟨H', ys, J, sm, hkS, pr⟩
    rw [show l.take (0 + vs.length) = l from List.take_of_length_le (by omega)] at pr
    obtain ⟨hzz, its, n2, rvi, hli, hget⟩ := J.lstM hkS
    have pa := J.pin (a, seqObj "list" #[] e1) (List.mem_append_right _ (List.mem_append_right _ (List.mem_singleton.mpr rfl)))
    have hH'a : H' a = none := pa.2.1
    have hga : s'.heap.get? a = some (seqObj "list" #[] e1) := pa.1
    try dsimp only
    refine wpAny_bind (listItems_at hget rfl ?_)
    have hil : its.length = l.length := by rw [← hli, Paired.length pr]
    -- the keys
    have pk : Paired (fun u y => ∃ q, u = Value.ref q ∧ H' q = some (.tup (gk y))) its l := by
      obtain ⟨e1, e2⟩ := paired_get pr
      refine paired_at hil fun i u y h1 h2 => ?_
      have hi : i < ys.length := by
        have := (List.getElem?_eq_some_iff.mp h2).1
        omega
      obtain ⟨u', hu, ru⟩ := rvi.get (List.getElem?_eq_getElem hi)
      rw [h1] at hu
      cases hu
      obtain ⟨q, e, hq⟩ := e2 i _ y (List.getElem?_eq_getElem hi) h2
      rw [e] at ru
      exact ⟨q, ru, hq⟩
    have hkk : ∀ v ∈ its, ∃ y ∈ l, kvH H' v = gk y ∧ TupV s'.heap v (kvH H' v) := by
      intro v hv
      obtain ⟨y, hy, q', e, hq⟩ := paired_mem pk v hv
      subst e
      refine ⟨y, hy, kvH_at hq, ?_⟩
      rw [kvH_at hq]
      exact Inv.tupV J hq
    have hsame : ∀ v ∈ its, ∀ u ∈ its, sameKs (kvH H' v) (kvH H' u) = true := by
      intro v hv u hu
      obtain ⟨y, hy, e1, _⟩ := hkk v hv
      obtain ⟨z, hz', e2, _⟩ := hkk u hu
      rw [e1, e2]
      exact hs y hy z hz'
    have p2 : Paired (fun (p : Value × Value) y => kvH H' p.1 = gk y ∧ RelV (f y) p.2) (its.zip vs) l := by
      obtain ⟨_, e2⟩ := paired_get pk
      refine paired_at (by rw [List.length_zip]; omega) fun i p y h1 h2 => ?_
      rw [List.getElem?_zip_eq_some] at h1
      obtain ⟨q, e, hq⟩ := e2 i _ y h1.1 h2
      obtain ⟨u, hu, ru⟩ := rv.get (i := i) (x := f y) (by rw [List.getElem?_map, h2]; rfl)
      rw [h1.2] at hu
      cases hu
      refine ⟨?_, ru⟩
      rw [e]
      exact kvH_at hq
    have tail : ∀ st : SortSt, SrtO.Srtd (SrtO.lt2 fun v u => cLt (kvH H' v) (kvH H' u)) (arrOf st).toList → (arrOf st).toList.Perm (its.zip vs) → failedOf st = none → wpAny (model X.prog X.w) X.A.in1.in1 (ksk_tail a false e1 (.ref kS) st) P X.xe s' := by
      intro st hso hpe hfl
      obtain ⟨l', pl, pr'⟩ := paired_perm hpe p2
      have hkne : a ≠ kS := fun z => by rw [← z, hH'a] at hkS; cases hkS
      have s2 := Heap.SameBut.update s'.heap kS (Obj.mapSeq fun _ => (#[] : Array Value))
      obtain ⟨c2, hc2⟩ : ∃ c2, (s'.heap.update kS (Obj.mapSeq fun _ => (#[] : Array Value))).get? kS = some (seqObj "list" #[] c2) := ⟨_, get?_update_seq hget fun _ => #[]⟩
      have hga2 : (s'.heap.update kS (Obj.mapSeq fun _ => (#[] : Array Value))).get? a = some (seqObj "list" #[] e1) := (s2.2 a hkne).trans hga
      have K1 : Inv X (pins ++ [(a, seqObj "list" #[] e1)]) σ (upd H' kS (.lst [])) { s' with heap := s'.heap.update kS (Obj.mapSeq fun _ => (#[] : Array Value)), toks := s'.toks } :=
        J.write (by rw [hkS]; trivial) (.inl rfl) (fun b u hb e => (s2.2 b hb).trans e) ⟨_, hc2⟩ ⟨Nat.zero_le _, [], c2, .nil, hc2⟩
      unfold ksk_tail
      try dsimp only
      refine wpAny_bind (listUpdate_at hget rfl ?_ (by rw [List.size_toArray, ← hli]; exact hzz) (Nat.zero_le _))
      refine wpAny_bind (wpAny_letGo ?_)
      refine wpAny_bind (seqEpoch_at hga2 rfl ?_)
      have hsz : ((arrOf st).map (·.2)).size ≤ sizeLine := by
        have := hpe.length_eq
        rw [Array.length_toList, List.length_zip] at this
        rw [Array.size_map, this]
        omega
      simp only [Bool.false_eq_true, if_false]
      refine wpAny_bind (listUpdate_at hga2 rfl ?_ (Nat.zero_le _) (by omega))
      rw [hfl]
      simp only [bne_self_eq_false, Bool.false_eq_true, if_false]
      generalize hh2 : s'.heap.update kS (Obj.mapSeq fun _ => (#[] : Array Value)) = h2 at K1 hga2 ⊢
      have s3 := Heap.SameBut.update h2 a (Obj.mapSeq fun _ => (arrOf st).map (·.2))
      obtain ⟨c3, hc3⟩ : ∃ c3, (h2.update a (Obj.mapSeq fun _ => (arrOf st).map (·.2))).get? a = some (seqObj "list" ((arrOf st).map (·.2)) c3) := ⟨_, get?_update_seq hga2 fun _ => (arrOf st).map (·.2)⟩
      have hupa : upd H' kS (.lst []) a = none := by rw [upd_ne hkne]; exact hH'a
      have hvals : Vals (l'.map f) (((arrOf st).map (·.2)).toList) := by
        rw [Array.toList_map]
        have key : ∀ {ps : List (Value × Value)} {m : List α}, Paired (fun (p : Value × Value) y => kvH H' p.1 = gk y ∧ RelV (f y) p.2) ps m → Vals (m.map f) (ps.map (·.2)) := by
          intro ps m hp
          induction hp with
          | nil => exact .nil
          | cons r t ih => exact .cons r.2 ih
        exact key pr'
      have K3 : Inv X pins σ (upd (upd H' kS (.lst [])) a (.lst (l'.map f))) { s' with heap := h2.update a (Obj.mapSeq fun _ => (arrOf st).map (·.2)), toks := s'.toks } := by
        refine Inv.take (s := { s' with heap := h2, toks := s'.toks }) (Inv.unpinned K1) (fun b ob hb e => (s3.2 b hb).trans e) ⟨hupa, hL, hfs, hex, hcell, hpin⟩ ⟨?_, _, c3, hvals, ?_⟩
        · rw [List.length_map, pl.length_eq]; exact hz
        · rw [hc3, Array.toArray_toList]
      refine wpAny_pure (h l' _ _ pl ?_ K3 ?_ upd_same)
      · refine paired_pairwise (R := fun (p : Value × Value) y => kvH H' p.1 = gk y ∧ RelV (f y) p.2) ?_ pr' hso
        rintro p p' y y' ⟨k1, _⟩ ⟨k2, _⟩ hlt
        have hlt' : cLt (kvH H' p'.1) (kvH H' p.1) = false := hlt
        rw [k1, k2] at hlt'
        exact hlt'
      · exact fun b o e => by
          rw [upd_ne (ne_of_none e hn)]
          exact same_mut sm hk0 b o e
    have hzip : (its.toArray.zip vs.toArray).toList = its.zip vs := by simp
    unfold ksk_end
    try dsimp only
    simp only [Bool.false_eq_true, if_false]
    by_cases h2 : vs.toArray.size < 2
    · rw [if_pos h2, if_pos h2]
      refine wpAny_bind (wpAny_pure ?_)
      rw [StateT.run_pure]
      refine wpAny_bind (wpAny_pure ?_)
      try dsimp only
      rw [List.size_toArray] at h2
      refine tail (SortSt.mk' general' (its.toArray.zip vs.toArray) #[] 7 none) ?_ (by show (its.toArray.zip vs.toArray).toList.Perm _; rw [hzip]) rfl
      show SrtO.Srtd _ (its.toArray.zip vs.toArray).toList
      rw [hzip]
      have hl2 : (its.zip vs).length < 2 := by rw [List.length_zip]; omega
      match its.zip vs, hl2 with
      | [], _ => exact List.Pairwise.nil
      | [v], _ => exact List.pairwise_singleton _ _
      | _ :: _ :: l, h => exact absurd h (by simp)
    · rw [if_neg h2, if_neg h2]
      rw [List.size_toArray] at h2
      refine wpAny_bind (tup_kind (T := T) (vs := its) (k := kvH H') (by omega) (fun v hv => (hkk v hv).choose_spec.2.2) (fun v hv => ?_) ?_)
      · obtain ⟨y, hy, e, _⟩ := hkk v hv
        rw [e]
        exact ht y hy
      refine wpAny_bind (wpAny_mono (SrtO.wpS_sortO (st0 := SortSt.mk' (tuples' (Value.type T != Value.type "tuple")) (its.toArray.zip vs.toArray) #[] 7 none)
        (Q := fun _ st' => SrtO.Srtd (SrtO.lt2 fun v u => cLt (kvH H' v) (kvH H' u)) (arrOf st').toList ∧ (arrOf st').toList.Perm (its.zip vs) ∧ failedOf st' = none) (SrtO.swo2 (swo_cLt (kvH H'))) (tup_cmp (s := s') (fun v hv => (hkk v hv).choose_spec.2.2) hsame) rfl
        (fun p hp => ?_) rfl rfl fun st' a1 a2 a3 => ⟨a1, ?_, a3⟩) ?_ fun _ _ e => e)
      · have hp' : p ∈ (its.toArray.zip vs.toArray).toList := hp
        rw [hzip] at hp'
        exact (List.of_mem_zip (a := p.1) (b := p.2) hp').1
      · have := a2.perm
        have e : (arrOf (SortSt.mk' (tuples' (Value.type T != Value.type "tuple")) (its.toArray.zip vs.toArray) #[] 7 none)).toList = its.zip vs := hzip
        rw [e] at this
        exact this
      · rintro ⟨⟨⟩, st'⟩ s2 ⟨rfl, hp1, hp2, hf⟩
        try dsimp only
        exact tail st' hp1 hp2 hf
end
end Sh
set_option Elab.async false
set_option linter.all false
set_option maxRecDepth 100000
set_option maxHeartbeats 2000000
namespace Sh
open PySem PySem.Spec PyProof.Rows L2
/-- a list of these, or a dict whose keys they are -/
def KSrc (K : PySem.W.Frag) (H : Hp) (v : V) (xs : List V) : Prop := ∃ a, v = .ref a ∧ (SqL K H a xs ∨ ∃ kvs : List (Key × V), Rd H a (.dK kvs) ∧ xs = kvs.map fun p => kV p.1)
def rSortK (K : PySem.W.Frag) (sp : Sp) : List V → Hp → VK → Prop := fun vs H Q => ∃ (α : Type) (f : α → V) (gk : α → List V) (T : String) (l : List α) (v : V), vs = [v] ∧ KSrc K H v (l.map f) ∧
  (∀ y ∈ l, ∀ H1, Same H H1 → ∀ Q' : VK, (∀ q H2, Same H1 H2 → H2 q = some (.tup (gk y)) → Q' (.ref q) H2) → sp [f y] H1 Q' E0) ∧
  (∀ y ∈ l, Head T (gk y)) ∧ (∀ y ∈ l, ∀ z ∈ l, sameKs (gk y) (gk z) = true) ∧
  ∀ (l' : List α) (p : Addr) (H' : Hp), l'.Perm l → l'.Pairwise (fun y z => cLt (gk z) (gk y) = false) → H p = none → Same H H' → H' p = some (.lst (l'.map f)) → Q (.ref p) H'
section
variable {X : Cx} {n : Nat} {g : Addr} {sp : Sp}
theorem cr_sortKey (F : FnR X.prog X.w X.K X.mg X.base CX0 n g sp) (hr : Room (n + 2) X.A) (hc : X.calm = true) : CallRK X (.builtin "sorted") [Str.ofString "key"] (fun vs zs H Q => zs = [.ref g] ∧ rSortK X.K sp vs H Q) := by
  intro pins s σ H vs zs us ws Q I r rz h
  obtain ⟨rfl, α, f, gk, T, l, v, rfl, ⟨a, rfl, src⟩, hk, ht, hs, q⟩ := h
  obtain ⟨w1, rfl, e1⟩ := vals1 rz
  obtain rfl : w1 = Value.ref g := e1
  obtain ⟨u, rfl, ru⟩ := vals1 r
  obtain rfl : u = Value.ref a := ru
  have hr2 : Room n X.A.in1.in1 := (show Room (n + 1) X.A.in1 from Room.in1 hr).in1
  refine call_function_entry_kw kind_sorted plain_sorted entry_sorted (ksk_s1 _ _) ?_
  unfold Builtin.«sorted»
  refine wpAny_bind (m := checkCount "sorted" 1 1 _) (wpAny_pure ?_)
  have col : ∀ R : List Value → Shared → Prop, (∀ h' tk us, (∀ b o, s.heap.get? b = some o → h'.get? b = some o) → Vals (l.map f) us → l.length ≤ sizeLine → R us { s with heap := h', toks := tk }) → wpAny (model X.prog X.w) X.A.in1 (collect (.ref a)) R X.xe s := by
    intro R hR
    rcases src with hL | ⟨kvs, hD, ek⟩
    · obtain ⟨its, rv, hl, hz⟩ := I.list hL
      refine collect_list hl.isList (hR _ s.toks its (fun b o e => ?_) rv (by rw [List.length_map] at hz; exact hz)) (by rw [← rv.length]; exact hz)
      have hlt : b < s.heap.objs.size := Heap.lt_size e
      rw [Heap.get?_update_ne _ _ _ _ (Nat.ne_of_lt hlt)]
      exact Heap.get?_push_of_some _ e
    · obtain ⟨z, lo, vs, rel, dd⟩ := dk_rd I.hok hD
      obtain ⟨ep, hat⟩ := dd.dictAt
      have hl : kvs.length = vs.length := Paired.length rel
      refine PySem.W.kdu_collect (A := X.A.in1) (PySem.W.kdl_dict (knd := mixKind X.prog X.w) (kvs := vs) (ep := ep) lo) (I.ok.hd hc) hat (by rw [← hl]; exact z) fun h' tk acc hk hacc => ?_
      have ll : l.length = kvs.length := by
        have := congrArg List.length ek
        rw [List.length_map, List.length_map] at this
        exact this
      refine hR h' tk acc.toList hk ?_ (by rw [ll]; exact z)
      rw [ek]
      have el : acc.toList.length = acc.size := by simp
      refine vals_of_at (by rw [List.length_map, el, hacc.1, hl]) fun j x w h1 h2 => ?_
      obtain ⟨k, y, hky, hi⟩ := hacc.2 j w (by rw [← Array.getElem?_toList]; exact h2)
      have e1 : (kvs.map (·.1))[j]? = some k := by
        rw [KV.keys rel, List.getElem?_map, hky] <;> rfl
      have e2 : (kvs.map fun kv => kV kv.1)[j]? = some (kV k) := by
        have e3 : (kvs.map fun kv => kV kv.1) = (kvs.map (·.1)).map kV := by rw [List.map_map] <;> rfl
        rw [e3, List.getElem?_map, e1] <;> rfl
      rw [e2] at h1
      cases h1
      exact keyIs_rel hi
  refine wpAny_bind (col _ fun h' tk us hkp rv hz => ?_)
  have hul : us.length = l.length := by rw [← rv.length, List.length_map]
  refine wpAny_bind (wpAny_newList ?_ (by rw [hul]; exact hz))
  have I1 : Inv X pins σ H { s with heap := h', toks := tk } := I.kept hkp
  have hoL : (h'.push (seqObj "list" us.toArray 0)).get? h'.objs.size = some (seqObj "list" us.toArray 0) := Heap.get?_push_size _ rfl
  have hfr : H h'.objs.size = none := I1.hok.fresh (Nat.le_refl _)
  have fp : FpOk X pins H h'.objs.size := I1.fpOk (Nat.le_refl _) hfr
  have I2 : Inv X pins σ H { s with heap := h'.push (seqObj "list" us.toArray 0), toks := tk } := I1.kept fun b o e => Heap.get?_push_of_some _ e
  show wpAny _ _ _ _ _ { s with heap := h'.push (seqObj "list" us.toArray 0), toks := tk }
  refine wpAny_bind (wpAny_holding (wpAny_call_entry_kw slot_list_sort ⟨_, hoL, rfl⟩ entry_list_sort ?body (ksk_l1 _ _)))
  case body =>
    show wpAny (model X.prog X.w) X.A.in1.in1 (Builtin.«list.sort» ⟨[.ref h'.objs.size], [(Str.ofString "key", .ref g)]⟩) _ _ _
    rw [ksk_t1]
    refine list_sort_keyX I2 F hr2 hoL fp rv hz hk ht hs fun l' s' H' pl po J sm hp => ⟨_, rfl, ?_⟩
    exact wpAny_pure ⟨_, rfl, .ref h'.objs.size, H', J, rfl, q l' _ H' pl po hfr sm hp⟩
end
section
variable {X : Cx} {k j : Nat} {x : Str} {sp : Sp} {p p2 pos kpos : Pos} {e : Expr} {t : TA}
def tSortK (K : PySem.W.Frag) (sp : Sp) (t : TA) : TE := fun σ H Q => t σ H fun vs H1 => rSortK K sp vs H1 Q
/-- sorted(e, key=f), f a def of the text -/
theorem pe_sortK (c : Cal X.prog X.w X.K X.mg X.base CX0 k x sp) (hr : Room j X.A) (hk : k + 2 ≤ j) (hc : X.calm = true) (hg : Gl X "sorted") (hm : X.mg "sorted" = none) (hgx : Gl X x) (ha : PA X [e] t)
    (hdb : (x == ("__debug__" : Str)) = false := by decide)
    (he : backTo pos (starEach [e] X.env) = (false, eval e X.env) :: backTo pos (starEach [] X.env) := by rfl) (hpl : (backTo pos (starEach [e] X.env)).any (·.1) = false := by rfl) :
    PE X (.Call (.Name "sorted" p) [e] [⟨some (Str.ofString "key"), .Name x p2, kpos⟩] pos) (tSortK X.K sp t) := by
  obtain ⟨f, fd, ps, F, hmx, kp, b⟩ := c.ex
  have P0 := pe_callBK (p := p) (pos := pos) (cr_sortKey (fnR_of F b) (hr.mono hk) hc) hg hm (by rfl) ha (pk_cons (kpos := kpos) (nm := some (Str.ofString "key")) (pe_glob (pos := p2) (v := .ref f) hgx hmx rfl hdb) pk_nil) (by decide) (by decide) he hpl
  refine ⟨fun pins s σ H Q I h => P0.run pins s σ H Q I ?_⟩
  have e9 : (fun (vs : List V) (H1 : Hp) => ([V.ref f] : List V) = [.ref f] ∧ rSortK X.K sp vs H1 Q) = fun vs H1 => rSortK X.K sp vs H1 Q := by
    funext vs H1
    exact propext ⟨fun h => h.2, fun h => ⟨rfl, h⟩⟩
  show t σ H fun vs H1 => ([V.ref f] : List V) = [.ref f] ∧ rSortK X.K sp vs H1 Q
  rw [e9]
  exact h
end
/-! ### == by an own __eq__ -/
section
variable {X : Cx} {C : Addr} {k j : Nat} {sp : Sp}
def rEqI (C : Addr) (sp : Sp) : R2 := fun x y H Q => ∃ a dx fs b dy gs, x = .ref a ∧ y = .ref b ∧ H a = some (.ins C dx fs) ∧ H b = some (.ins C dy gs) ∧ sp [.ref a, .ref b] H (fun v H' => ∃ c, v = .bl c ∧ Q v H') E0
theorem op_eqI (d : MetC X.prog X.w X.K X.mg X.base k C "__eq__" sp) (hr : Room j X.A) (hk : k ≤ j) : OpR X (compareOp .Eq) (rEqI C sp) := by
  obtain ⟨f, fd, ps, F, b, hs, hf, ho⟩ := d.ex
  intro pins s σ H x y v u Q I rx ry h
  obtain ⟨a, dx, fs, a2, dy, gs, rfl, rfl, ha, hb, q⟩ := h
  obtain rfl : v = Value.ref a := rx
  obtain rfl : u = Value.ref a2 := ry
  obtain ⟨ox, od, J, _⟩ := StX.insC_at (C := C) I (.inr ⟨dx, fs, ha⟩)
  obtain ⟨ox', od', J', _⟩ := StX.insC_at (C := C) I (.inr ⟨dy, gs, hb⟩)
  obtain ⟨m, hF⟩ := I.fr
  show wpAny (model X.prog X.w) X.A (richCompare .Eq (.ref a) (.ref a2)) (EP X pins σ Q) X.xe s
  refine PySem.W.cmp_K (op := .Eq) (tb := .ref C) (hr.mono hk).units0 hF I.ok.mod.kin J J'.type (by simp [PySem.W.notFirst]) hs hf ?_
  refine wpAny_mono (run_in (us := [.ref a, .ref a2]) (ws := [.ref a, .ref a2]) (fnR_of F b) (hr.mono hk) I.env0 pass0 I (.cons rfl (.cons rfl .nil)) q) (fun v s' z => ?_) fun _ _ x => x
  obtain ⟨z', H', I', rz, c, ec, qz⟩ := z
  subst ec
  obtain rfl : v = .bool c := rz
  exact ⟨.bl c, H', I', rfl, qz⟩
end
end Sh
set_option Elab.async false
set_option linter.all false
set_option maxRecDepth 100000
set_option maxHeartbeats 2000000
namespace Sh
open PySem PySem.Spec PyProof.Rows L2
/-! ### a property of a class of the text -/
structure PropAt (K : PySem.W.Frag) (C : Addr) (f q : Str) (st : Stmt) : Prop where
  ex : ∃ (p g : Addr) (fd : FuncData), PropOf K C f p g ∧ L2.Fun K f q st g fd ∧ Binds K fd ["self"] []
structure PropC (P : Program) (w : World) (K : PySem.W.Frag) (mg : Str → Option Value) (base : Heap) (k : Nat) (C : Addr) (f : Str) (sp : Sp) : Prop where
  ex : ∃ (p g : Addr) (fd : FuncData) (ps : List Str), PropOf K C f p g ∧ FnOk P w K mg base CX0 k g fd ps sp ∧ Binds K fd ps []
section
variable {P : Program} {w : World} {K : PySem.W.Frag} {mg : Str → Option Value} {base : Heap}
theorem PropC.mk0 {f q : Str} {C : Addr} {st : Stmt} {N : List Str} {k : Nat} {sp : Sp} (D : PropAt K C f q st) (S : FnScope N ["self"] (defScope st)) (len : ∀ vs H Q E, sp vs H Q E → vs.length = 1)
    (hbody : ∀ (f : Addr) (cdv : Value) (A : Around) (outer : List Env) (s : Shared) (H : Hp) (vs : List V) (Q : VK) (E : XK), Room k (A.deeper (envOfC q (defScope st) s.heap.objs.size f cdv)) → sp vs H Q E →
      ∃ t, PSs (cxOf CX0 P w K mg base N q (defScope st) f cdv A outer s H E).nox (defBody st) t ∧ t { nx := fun _ H' => Q .non H', rt := Q } (start N vs) H) : PropC P w K mg base (k + 1) C f sp := by
  obtain ⟨p, g, fd, hp, F, b⟩ := D.ex
  exact ⟨p, g, fd, ["self"], hp, F.ok S len (hbody g), b⟩
end
section
variable {X : Cx} {k j : Nat} {f : Str} {C : Addr} {sp : Sp} {pos : Pos} {e : Expr} {ta : TE}
/-- o.f, f a property -/
theorem pe_propC (ho : PE X e ta) (c : Cls X.K C) (d : PropC X.prog X.w X.K X.mg X.base k C f sp) (hr : Room j X.A) (hk : k + 1 ≤ j) (hab : attributeBase e f X.env (eval e X.env) = eval e X.env := by rfl) :
    PE X (.Attribute e f pos) (tProp C sp [] E0 ta) := by
  obtain ⟨p, g, fd, ps, hp, F, b⟩ := d.ex
  exact pe_prop ho c hp F (hr.mono hk) b .nil pass0 hab
end
section
variable {X : Cx} {C : Addr} {k j : Nat} {sp : Sp} {a : Expr} {ta : TE}
/-- o as a test, o an instance of the class at C with an own __bool__ -/
def tTestI (C : Addr) (sp : Sp) (ta : TE) : TT := fun σ H Q => ta σ H fun x H1 => ∃ p dx fs, x = .ref p ∧ H1 p = some (.ins C dx fs) ∧ sp [.ref p] H1 (fun z H2 => ∃ b, z = .bl b ∧ Q b H2) E0
theorem pt_inst (d : MetC X.prog X.w X.K X.mg X.base k C "__bool__" sp) (hr : Room j X.A) (hk : k ≤ j) (ha : PE X a ta) (he : ∀ whole, isTrue a X.env whole = (do let v ← whole; standAt a.pos; holding [v] (truthy v))) : PT X a (tTestI C sp ta) := by
  obtain ⟨f, fd, ps, F, b, i, n, o⟩ := d.ex
  refine ⟨fun pins s σ H Q I h => ?_⟩
  refine isTrue_plain (thn (ha.run pins s σ H _ I h) fun v s1 ⟨x, H1, I1, r1, p, dx, fs, ex, hH, q⟩ => ?_) (he _)
  subst ex
  obtain rfl : v = .ref p := r1
  obtain ⟨ox, od, J, _⟩ := StX.insC_at (C := C) I1 (.inr ⟨dx, fs, hH⟩)
  refine truthy_own I1.kIn J i n (wpAny_mono (run_in (us := [.ref p]) (ws := [.ref p]) (fnR_of F b) (hr.mono hk) I1.env0 pass0 I1 (.cons rfl .nil) q) (fun v s' z => ?_) fun _ _ x => x)
  obtain ⟨z', H', I', rz, c, ec, qz⟩ := z
  subst ec
  obtain rfl : v = .bool c := rz
  exact ⟨c, rfl, H', I', qz⟩
end
/-! ### what walks over the keys of a dict -/
theorem lc_keys {d : Addr} {o : Obj} {kvs : List (Key × V)} {g : TG} {tt : TT} {te : TE} {vs : List Nat} {σ : L2.St} {H1 : Hp} {D : Addr} {Qd : Hp → Prop}
    (Pv : List Key → Hp → Prop) (h0 : Pv [] (upd H1 D (.lst []))) (hG : ∀ pre H, Pv pre H → H d = some (.frz o (.dK kvs)))
    (hs : ∀ pre k post H, kvs.map (·.1) = pre ++ k :: post → Pv pre H → g (kV k) (wipe σ vs) H fun σ2 H2 => wipe σ2 vs = wipe σ vs ∧ tt σ2 H2 fun b H3 =>
      if b = true then te σ2 H3 fun y' H4 => ∃ acc, H4 D = some (.lst acc) ∧ acc.length < sizeLine ∧ Pv (pre ++ [k]) (upd H4 D (.lst (acc ++ [y']))) else Pv (pre ++ [k]) H3) (hd : ∀ H, Pv (kvs.map (·.1)) H → Qd H) :
    ∃ W : Nat → Nat → Hp → Prop, (∃ m, W 0 m (upd H1 D (.lst []))) ∧ ∀ i m H, W i m H →
      ((Itk d o kvs).stop i H ∧ Qd H) ∨ ((Itk d o kvs).go i H ∧ ∃ Nx : Hp → Prop, (∀ H', Nx H' → ∃ m', m' < m ∧ W (i + 1) m' H') ∧ ∀ x H', (Itk d o kvs).yld i H x H' → g x (wipe σ vs) H' fun σ2 H2 => wipe σ2 vs = wipe σ vs ∧ tt σ2 H2 fun b H3 =>
        if b = true then te σ2 H3 fun y H4 => ∃ acc, H4 D = some (.lst acc) ∧ acc.length < sizeLine ∧ Nx (upd H4 D (.lst (acc ++ [y]))) else Nx H3) := by
  have w := walk_keys (d := d) (o := o) (kvs := kvs)
  refine lc_it w (fun i H => Pv ((kvs.map (·.1)).take i) H) (by simpa using h0) (fun i H _ p => hG _ H p) (fun i x H H' hi p y => ?_) (fun H p => hd H (by rw [List.take_of_length_le (by simp)] at p; exact p))
  obtain ⟨rfl, k, v, hk, rfl⟩ := y
  have hl : (kvs.map (·.1))[i]? = some k := by rw [List.getElem?_map, hk]; rfl
  obtain ⟨e1, e2⟩ := take_succ_of hl
  have q := hs _ k _ H' e2 p
  rw [← e1] at q
  exact q
/-- a dict comprehension over a tuple whose items are told by l -/
theorem dc_tupR {α : Type} {Rel : Hp → V → α → Prop} {l : List α} {xs : List V} {K : PySem.W.Frag} {a : Addr} {g : TG} {tt : TT} {tk tv : TE} {vs : List Nat} {σ : L2.St} {H1 : Hp} {D : Addr} {Qd : Hp → Prop} (hlen : xs.length = l.length)
    (Pv : List α → Hp → Prop) (h0 : Pv [] (upd H1 D (.dK []))) (hG : ∀ pre H, Pv pre H → SqT K H a xs ∧ ∀ (i : Nat) x y, xs[i]? = some x → l[i]? = some y → Rel H x y)
    (hs : ∀ pre y post x H, l = pre ++ y :: post → xs[pre.length]? = some x → Rel H x y → Pv pre H → g x (wipe σ vs) H fun σ2 H2 => wipe σ2 vs = wipe σ vs ∧ tt σ2 H2 fun b H3 =>
      if b = true then tk σ2 H3 fun y1 H4 => tv σ2 H4 fun z H5 => ∃ kvs k, y1 = kV k ∧ H5 D = some (.dK kvs) ∧ kvs.length < sizeLine ∧ Pv (pre ++ [y]) (upd H5 D (.dK (putK kvs k z))) else Pv (pre ++ [y]) H3) (hd : ∀ H, Pv l H → Qd H) :
    ∃ W : Nat → Nat → Hp → Prop, (∃ m, W 0 m (upd H1 D (.dK []))) ∧ ∀ i m H, W i m H →
      ((Itt K a).stop i H ∧ Qd H) ∨ ((Itt K a).go i H ∧ ∃ Nx : Hp → Prop, (∀ H', Nx H' → ∃ m', m' < m ∧ W (i + 1) m' H') ∧ ∀ x H', (Itt K a).yld i H x H' → g x (wipe σ vs) H' fun σ2 H2 => wipe σ2 vs = wipe σ vs ∧ tt σ2 H2 fun b H3 =>
        if b = true then tk σ2 H3 fun y H4 => tv σ2 H4 fun z H5 => ∃ kvs k, y = kV k ∧ H5 D = some (.dK kvs) ∧ kvs.length < sizeLine ∧ Nx (upd H5 D (.dK (putK kvs k z))) else Nx H3) := by
  refine dc_tup (K := K) (a := a) (xs := xs) (fun i H => Pv (l.take i) H) (by simpa using h0) (fun i H _ p => (hG _ H p).1) (fun i x H hx p => ?_) (fun H p => hd H (by rw [hlen, List.take_length] at p; exact p))
  have hi' : i < l.length := by
    have := (List.getElem?_eq_some_iff.mp hx).1
    omega
  have hl : l[i]? = some l[i] := by simp [hi']
  obtain ⟨e1, e2⟩ := take_succ_of hl
  have q := hs _ l[i] _ x H e2 (by rw [List.length_take, Nat.min_eq_left (Nat.le_of_lt hi')]; exact hx) ((hG _ H p).2 i x l[i] hx hl) p
  rw [← e1] at q
  exact q
end Sh
set_option Elab.async false
set_option linter.all false
set_option maxRecDepth 100000
namespace Sh
open PySem PySem.Spec PyProof.Rows L2
section
variable {K : PySem.W.Frag} {h : Heap} {mg : Str → Option Value}
theorem kit_self {C : Addr} : PySem.W.kitOne K (.ref C) (.ref C) = some true := if_pos (by simp)
/-- a property -/
theorem prop_mk {C p : Addr} {m q : Str} {st : Stmt} {f : Addr} {oc kv dc pm cd ct : Value} {od an : Option Addr} {sl : Array (Option Value)} {rest : List Value}
    (l : K.lookup f = some ⟨oc, od, .func (PySem.W.fnOf m q (defArgs st) (defBody st) (defScope st) .none kv dc pm an cd ct), sl⟩) (c : PySem.W.codeIn K cd q = true) (k : PySem.W.keepIn K (.ref f) = true)
    (i : PySem.W.findIn K (.ref C) m = some (some (.ref p))) (g : PySem.W.specialIn K (.ref p) "__get__" = some (some (.builtin "property.__get__"))) (t : PySem.W.takesIn K (.ref p) = some true) (r : PySem.W.recIn K p "property" = some (.ref f :: rest))
    (b : ∀ (kV doc pm : Value) (an : Option Addr) (cdv ct : Value) (us : List Value), us.length = 1 → bindArgs (PySem.W.fnOf m q (defArgs st) (defBody st) (defScope st) .none kV doc pm an cdv ct) ⟨us, []⟩ = pure ([("self" : Str)].zip us)) : PropAt K C m q st := by
  have F := fun_mk (st := st) l c k
  exact ⟨p, f, _, ⟨i, g, t, rest, r⟩, F, F.binds b⟩
end
end Sh
set_option Elab.async false
set_option linter.all false
set_option maxRecDepth 100000
set_option maxHeartbeats 4000000
/-! an own exception's __init__ that begins with super().__init__(e), over ValueError -/
namespace Sh
open PySem PySem.Spec PyProof.Rows L2 NdefX
/-- of the class at C: its super().__init__ as seen from D is ValueError's -/
structure SupC (K : PySem.W.Frag) (C D : Addr) : Prop where
  sub : PySem.W.mroIn K C (.ref D) = some true
  sup : PySem.W.ks_superIn K C D "__init__" = some (some (.builtin "ValueError.__init__"))
  ve : PySem.W.subIn K (.ref C) (.type "ValueError") = some true
/-- the def at f, its class cell at cc (the class at D), its code's file -/
structure SupF (P : Program) (K : PySem.W.Frag) (mg : Str → Option Value) (q : Str) (st : Stmt) (ps : List Str) (D f : Addr) (fd : FuncData) : Prop where
  ex : ∃ (cc cda : Addr) (oc kv doc pm ct : Value) (od an : Option Addr) (osl : Array (Option Value)), fd = PySem.W.fnX "__init__" q (defArgs st) (defBody st) (defScope st) [("__class__", cc)] .none kv doc pm an (.ref cda) ct ∧
    K.lookup f = some ⟨oc, od, .func fd, osl⟩ ∧ PySem.W.codeIn K (.ref cda) q = true ∧
    (∃ (cl : Value) (cld : Option Addr) (csl : Array (Option Value)), K.lookup cc = some ⟨cl, cld, .cell (some (.ref D)), csl⟩) ∧
    (∃ (cl : Value) (cld : Option Addr) (vs : Array Value) (csl : Array (Option Value)) (file : Str) (tf : Tok), K.lookup cda = some ⟨cl, cld, .fields vs, csl⟩ ∧ vs[2]? = some (.str file tf) ∧ ((P.main.file : Str) == file) = true)
  top : (P.main.scope.names.lookup ("super" : Str)).isSome = false
  mgs : mg "super" = none
  hD : ∃ cd, PySem.W.clsIn K D = some cd
  op : PySem.W.nsIn K cStatics "thirdparty.any" = some none
  hp : ∃ ar : Arg, ((defArgs st).posonlyargs ++ (defArgs st).args).head? = some ar ∧ ar.arg = "self"
  hks : (defScope st).names.lookup ("super" : Str) = some .globalImplicit
section
variable {CX : CXT} {P : Program} {w : World} {K : PySem.W.Frag} {mg : Str → Option Value} {base : Heap} {N ps : List Str} {k : Nat} {f cda cc D : Addr} {q : Str} {st : Stmt} {fd : FuncData} {sp : Sp}
theorem look1 {cc c : Addr} {y : Str} (h : List.lookup y [(("__class__" : Str), cc)] = some c) : y = "__class__" ∧ c = cc := by
  by_cases e : y = "__class__"
  · subst e
    simp [List.lookup] at h
    exact ⟨rfl, h.symm⟩
  · have e' : (y == ("__class__" : Str)) = false := by simpa using e
    simp [List.lookup, e'] at h
theorem cells1 {A : Around} {outer : List Env} {s : Shared} {H : Hp} {cl : Value} {cld : Option Addr} {csl : Array (Option Value)} {v : Option Value} (e0 : Env0 P w K mg base A outer s H) (hc : K.lookup cc = some ⟨cl, cld, .cell v, csl⟩) : CellsAt [("__class__", cc)] ["__class__"] [none] s.heap H := by
  have hb := e0.bs _ _ (e0.mod.kin _ _ hc)
  refine ⟨rfl, fun y c h => ?_, fun x y c h1 h2 => (look1 h1).1.trans (look1 h2).1.symm, fun i y h => ?_⟩
  · obtain ⟨_, rfl⟩ := look1 h
    exact ⟨hb.2, v, _, hb.1, rfl⟩
  · match i, h with
    | 0, h =>
      cases h
      exact ⟨cc, by simp [List.lookup], fun v e => by cases e⟩
    | _ + 1, h => cases h
/-- the statement super().__init__(e, ..) -/
theorem sup_run {X : Cx} {σ : L2.St} {H : Hp} {s : Shared} {body : List Stmt} {q : Str} {scope : Scope} {L f cda cc D a C : Addr} {fd : FuncData} {oc : Value} {od : Option Addr} {osl : Array (Option Value)} {ar : Arg} {p0 p1 p2 p3 p4 : Pos} {e : Expr} {es : List Expr} {ta : TA} {G : Hp → Prop}
    {cl cl2 : Value} {cld cld2 : Option Addr} {csl csl2 : Array (Option Value)} {fvs : Array Value} {file : Str} {tf : Tok}
    (I : Inv X [] σ H s) (henv : X.env = PySem.W.ksEnv q scope L f (.ref cda) cc) (hk : scope.kind = .function) (hks : scope.names.lookup ("super" : Str) = some .globalImplicit) (hkc : scope.names.lookup ("__class__" : Str) = some .free) (hka : scope.names.lookup ("self" : Str) = some .local)
    (lk : X.K.lookup f = some ⟨oc, od, .func fd, osl⟩) (hp : (fd.params.posonlyargs ++ fd.params.args).head? = some ar) (har : ar.arg = "self") (hcc : X.K.lookup cc = some ⟨cl, cld, .cell (some (.ref D)), csl⟩)
    (hcda : X.K.lookup cda = some ⟨cl2, cld2, .fields fvs, csl2⟩) (hvs : fvs[2]? = some (.str file tf)) (hfile : ((X.prog.main.file : Str) == file) = true) (htop : (X.prog.main.scope.names.lookup ("super" : Str)).isSome = false) (hmg : X.mg "super" = none) (hop : PySem.W.nsIn X.K cStatics "thirdparty.any" = some none)
    (hN : X.N[0]? = some ("self" : Str)) (hσ : σ[0]? = some (some (.ref a))) {cdD : ClassData} (hD : PySem.W.clsIn X.K D = some cdD) (T : OexC X.K C) (SC : SupC X.K C D) (ea : H a = some (exo a C none)) (ha : PA X (e :: es) ta)
    (he : starEach (e :: es) X.env = (false, eval e X.env) :: starEach es X.env) (hpl : ∀ pos, (backTo pos (starEach es X.env)).any (·.1) = false)
    {pl : Sem Bool} (hev : eval (.Call (.Attribute (.Call (.Name "super" p0) [] [] p1) "__init__" p2) (e :: es) [] p3) X.env = (do
      let ov ← attributeBase (.Call (.Name "super" p0) [] [] p1) "__init__" X.env (eval (.Call (.Name "super" p0) [] [] p1) X.env)
      standAt p2.atName
      let (f, first) ← holding [ov] (getMethod ov "__init__" pl)
      callWith p3 f first (backTo p3 (starEach (e :: es) X.env)) []))
    (hq : ta σ H fun us H1 => us.length ≤ 1000 ∧ H1 a = some (exo a C none) ∧ G H1) :
    _root_.PySem.wpAt (model X.prog X.w) X.A (.func body X.env) (exec (.Expr (.Call (.Attribute (.Call (.Name "super" p0) [] [] p1) "__init__" p2) (e :: es) [] p3) p4) X.env) (fun fl s' => fl = .next ∧ ∃ H1, Inv X [] σ H1 s' ∧ G H1) X.xe s := by
  have KX := I.kIn
  refine ks_wpAt_Expr_any (ks_wpAt_MethodCall (pl := pl) ?_ hev) (by unfold interactive; rw [I.ok.kind]; rfl)
  obtain ⟨oD, hD1, hD2⟩ : ∃ oD, s.heap.get? D = some oD ∧ oD.data = .cls cdD := by
    unfold PySem.W.clsIn at hD
    split at hD
    · rename_i c d cd' sl ho
      cases hD
      exact ⟨_, KX _ _ ho, rfl⟩
    · cases hD
  have k1 : X.env.kindOf "super" = some .globalImplicit := by rw [henv]; exact hks
  have k2 : X.env.kindOf "__class__" = some .free := by rw [henv]; exact hkc
  have k3 : X.env.kindOf "self" = some .local := by rw [henv]; exact hka
  refine ks_wpAt_super_base (f := f) (cc := cda) k1 k2 (by decide) (by rw [henv]) (KX _ _ lk) rfl hp (by rw [henv]) (KX _ _ hcda) rfl hvs hfile htop ?_
  obtain ⟨mb, g1, g2⟩ := I.mod.blt
  refine PySem.W.ks_loadName_global I.ok.kind k1 (Calls.loadGlobal_builtin (by rw [I.ok.glob]; exact I.mod.glob.keeps I.bk) hmg (by rw [I.ok.blt]; exact g1.keeps I.bk) ((g2 _ (by decide)).trans (by first | boot_by_name | rfl | kernel_rfl)) ⟨rfl, ?_⟩)
  refine wpAny_loadName_free I.ok.kind k2 (by rw [henv]; simp [List.lookup]) ⟨_, KX _ _ hcc, rfl⟩ ?_
  obtain ⟨m, hn, hl⟩ := I.loc
  obtain ⟨u, ru, lo⟩ := hl 0 _ _ hN hσ (.inl (by rw [henv]; exact hka))
  obtain rfl : u = Value.ref a := ru
  have hm : m "self" = some (.ref a) := by
    rcases lo with ⟨_, hm⟩ | ⟨hk | hk, _⟩
    · exact hm
    · rw [k3] at hk; cases hk
    · rw [k3] at hk; cases hk
  rw [har]
  refine wpAny_loadName_local I.ok.kind k3 hn hm ?_
  refine ks_wpAny_isType_cls hD1 hD2 ⟨rfl, ?_⟩
  obtain ⟨t1, hx⟩ := exo_at I.hok ea
  have IA : PySem.W.InstAt s.heap a { cls := .ref C, dict := none, data := .fields #[.ref t1, .none, .none, .none, .bool false, .none] } C none := ⟨hx, rfl, rfl, trivial⟩
  obtain ⟨cdC, hcC⟩ : ∃ cd, PySem.W.clsIn X.K C = some cd := by
    obtain ⟨nm, q, N, bs, bm, sn, sub, ab, col, dd, k0, k1, k2, k3, k5, hC, hbm⟩ := T.cls
    exact ⟨_, by unfold PySem.W.clsIn; rw [hC] <;> rfl⟩
  have hsup := SC.sup
  unfold PySem.W.ks_superIn at hsup
  rw [hcC, Option.bind_some] at hsup
  have hsz : s.heap.objs.size ≤ s.heap.objs.size := Nat.le_refl _
  obtain ⟨hh, g, d, t, os⟩ := s
  refine ks_wpAny_call_super hD1 hD2 hx rfl (fun c z => by cases z) (PySem.W.looks_mroIn KX SC.sub) (fun h' hso k => ?_)
  have I1 : Inv X [] σ H ⟨h', g, d, t, os⟩ := I.kept (t' := t) k
  have X1 : X.K.In h' := I1.kIn
  have hx1 := k _ _ hx
  have IA1 : PySem.W.InstAt h' a { cls := .ref C, dict := none, data := .fields #[.ref t1, .none, .none, .none, .bool false, .none] } C none := ⟨hx1, rfl, rfl, trivial⟩
  refine PySem.W.kxs_getMethod PySem.W.kxs_ValueError hso (PySem.W.looks_opaque X1 hop) (l₀ := cdC.mro) (fun A Q E s k q => wpAny_bind ((PySem.W.looks_clsIn X1 hcC) A _ E s k (wpAny_pure q))) rfl X1 hsup (IA1.type.andThen (PySem.W.looks_subIn X1 SC.ve)) (PySem.W.ks_ne X1 IA1 hcC) (by decide) ?_
  have I2 : Inv X [] σ H ⟨h'.push (PySem.W.kxs_mw "ValueError.__init__" a), g, d, t + 1, os⟩ := I1.kept (t' := t + 1) fun b o e => Heap.get?_push_of_some _ e
  have fp : FpOk X [] H h'.objs.size := I1.fpOk (Nat.le_refl _) (I1.hok.fresh (Nat.le_refl _))
  have I3 : Inv X [(h'.objs.size, PySem.W.kxs_mw "ValueError.__init__" a)] σ H ⟨h'.push (PySem.W.kxs_mw "ValueError.__init__" a), g, d, t + 1, os⟩ := I2.pins_of fun p hp => by
    rw [List.mem_singleton.mp hp]
    exact ⟨Heap.get?_push_size _ rfl, fp.1, fp.2.1, fp.2.2.1, fun v z => by cases z⟩
  show wpAny _ _ (callWith p3 (.ref h'.objs.size) [] (backTo p3 (starEach (e :: es) X.env)) []) _ _ _
  refine PySem.W.kxs_callWith (i := "ValueError.__init__") (x := a) (by rw [he]; show (false || (backTo p3 (starEach es X.env)).any (·.1)) = false; rw [hpl]; rfl) ?_
  have hs := ha.run p3 _ _ σ H _ I3 hq
  rw [he] at hs ⊢
  refine PySem.Calls.evalArgs_plain (thn hs fun us s1 ⟨vs, H1, J, r1, hl, ea1, hG⟩ => ?_)
  have hu : s1.heap.get? h'.objs.size = some (PySem.W.kxs_mw "ValueError.__init__" a) := (J.pin _ (List.mem_append_right _ List.mem_cons_self)).1
  refine ⟨hu, ?_⟩
  show wpAny _ _ (call (.ref h'.objs.size) us) _ _ _
  obtain ⟨nm, qn, N, bs, bm, sn, sub, ab, col, dd, k0, k1', k2', k3', k5, hC, hbm⟩ := T.cls
  obtain ⟨t2, he2⟩ := exo_at J.hok ea1
  have hlen : us.length ≤ sizeLine := by
    rw [← r1.length, sizeLine_eq]
    omega
  have hC2 := J.kIn _ _ hC
  obtain ⟨hp2, gn2, dr2, tk2, os2⟩ := s1
  refine wpAny_call (codeAny_of_tree ?_)
  show wpAny _ X.A.in1 (callAny (.ref h'.objs.size) ⟨us, []⟩) _ _ _
  simp only [callAny]
  refine wpAny_bind (wpAny_load hu ?_)
  simp only [PySem.W.kxs_mw, show (Value.type "method-wrapper" == Value.type "method" || Value.type "method-wrapper" == Value.type "builtin_function_or_method" || Value.type "method-wrapper" == Value.type "method-wrapper") = true by decide, if_true]
  refine PySem.W.KFB.if_so (by decide) ?_
  refine wpAny_bind (PySem.W.check_bound_init F.excBase_ValueError.toExcCallFacts hC2 he2 rfl ?_)
  refine wpAny_bind (wpAny_pure (wpAny_pure ?_))
  refine ⟨plainId_quiet F.excBase_ValueError.init.plain _, codeAny_builtin F.excBase_ValueError.initEntry ?_⟩
  refine PySem.W.exc_init_tree (cls := .ref C) (t0 := t2) (dv := none) (c2 := .none) (c3 := .none) (b4 := .bool false) he2 hlen ?_
  intro h3 k3 e3 t3
  have J2 := J.write (t' := tk2) (x := a) (e := a) (o := exo a C none) (by rw [ea1]; exact True.intro) (.inl rfl) k3 ⟨_, e3⟩ (exo_ok e3)
  have eu : upd H1 a (exo a C none) = H1 := by
    funext b
    by_cases hb : b = a
    · rw [hb, upd_same, ea1]
    · rw [upd_ne hb]
  rw [eu] at J2
  exact ⟨trivial, H1, J2.pins_of (fun p hp => absurd hp (by simp)), hG⟩
theorem fn_sup {p0 p1 p2 p3 p4 : Pos} {es : List Expr} {e : Expr} {rest : List Stmt} (F : SupF P K mg q st ps D f fd) (S : NScope N ps ["__class__"] (defScope st))
    (hself : ps.head? = some "self") (hst : defBody st = .Expr (.Call (.Attribute (.Call (.Name "super" p0) [] [] p1) "__init__" p2) (e :: es) [] p3) p4 :: rest)
    (len : ∀ vs H Q E, sp vs H Q E → vs.length = ps.length)
    (hbody : ∀ (cc cda : Addr) (A : Around) (outer : List Env) (s : Shared) (H : Hp) (vs : List V) (Q : VK) (E : XK), Room k (A.deeper (PySem.W.ksEnv q (defScope st) s.heap.objs.size f (.ref cda) cc)) → sp vs H Q E →
      ∃ ta t pl, PA (ncx CX P w K mg base N ⟨"__init__", q, defArgs st, defBody st, defScope st, [("__class__", cc)], cda⟩ f A outer s H E) (e :: es) ta ∧ PSs (ncx CX P w K mg base N ⟨"__init__", q, defArgs st, defBody st, defScope st, [("__class__", cc)], cda⟩ f A outer s H E) rest t ∧ starEach (e :: es) (PySem.W.ksEnv q (defScope st) s.heap.objs.size f (.ref cda) cc) = (false, eval e (PySem.W.ksEnv q (defScope st) s.heap.objs.size f (.ref cda) cc)) :: starEach es (PySem.W.ksEnv q (defScope st) s.heap.objs.size f (.ref cda) cc) ∧ (∀ pos, (backTo pos (starEach es (PySem.W.ksEnv q (defScope st) s.heap.objs.size f (.ref cda) cc))).any (·.1) = false) ∧
        eval (.Call (.Attribute (.Call (.Name "super" p0) [] [] p1) "__init__" p2) (e :: es) [] p3) (PySem.W.ksEnv q (defScope st) s.heap.objs.size f (.ref cda) cc) = (do
          let ov ← attributeBase (.Call (.Name "super" p0) [] [] p1) "__init__" (PySem.W.ksEnv q (defScope st) s.heap.objs.size f (.ref cda) cc) (eval (.Call (.Name "super" p0) [] [] p1) (PySem.W.ksEnv q (defScope st) s.heap.objs.size f (.ref cda) cc))
          standAt p2.atName
          let (g0, first) ← holding [ov] (getMethod ov "__init__" pl)
          callWith p3 g0 first (backTo p3 (starEach (e :: es) (PySem.W.ksEnv q (defScope st) s.heap.objs.size f (.ref cda) cc))) []) ∧
        ∃ (a C : Addr) (ws : List V), vs = .ref a :: ws ∧ OexC K C ∧ SupC K C D ∧ H a = some (exo a C none) ∧
        ta (startF N vs [none]) H (fun us H1 => us.length ≤ 1000 ∧ H1 a = some (exo a C none) ∧ t { nx := fun _ H' => Q .non H', rt := Q } (startF N vs [none]) H1)) :
    FnOk P w K mg base CX (k + 1) f fd ps sp := by
  obtain ⟨cc, cda, oc, kv, doc, pm, ct, od, an, osl, rfl, lk, hcd, ⟨cl, cld, csl, hcc⟩, ⟨cl2, cld2, fvs, csl2, file, tf, hcda, hvs, hfile⟩⟩ := F.ex
  refine ⟨len, fun A outer s H args us vs Q E hr e0 hb r hsp => ?_⟩
  have hl := len _ _ _ _ hsp
  have KX : K.In s.heap := e0.mod.kin.keeps fun b o e => (e0.bs b o e).1
  have lim : s.heap.NoLimit := e0.mod.nolimit.keeps fun b o e => (e0.bs b o e).1
  refine ks_codeAny_call_defAt (binds := ps.zip us) (body := defBody st) hr.depth (KX _ _ lk) rfl lim (PySem.W.codeRec_of KX hcd) rfl hb S.nocell (fun ⟨n, v⟩ hy => S.par n (List.of_mem_zip hy).1) (fun h₁ hns kp => ?_) S.co S.gen S.kind
  have I0 : Inv (ncx CX P w K mg base N ⟨"__init__", q, defArgs st, defBody st, defScope st, [("__class__", cc)], cda⟩ f A outer s H E) [] (startF N vs [none]) H { s with heap := h₁, toks := s.toks + (ps.zip us).length } := inv_startN S hr.hd e0 hl r (cells1 e0 hcc) hns kp
  obtain ⟨ta, t, pl, hpa, hps, he, hpl, hev, a, C, ws, rfl, T, SC, ea, hta⟩ := hbody cc cda A outer s H vs Q E (hr.deeper _) hsp
  obtain ⟨cdD, hD⟩ := F.hD
  obtain ⟨ar, har1, har2⟩ := F.hp
  obtain ⟨ps', rfl⟩ : ∃ ps', ps = ("self" : Str) :: ps' := by
    cases ps with
    | nil => cases hself
    | cons x xs => cases hself; exact ⟨xs, rfl⟩
  have hN0 : N[0]? = some ("self" : Str) := by
    have := congrArg (fun l => l[0]?) S.pre
    simpa using this
  have key : _root_.PySem.wpAt (model P w) (A.deeper (PySem.W.ksEnv q (defScope st) s.heap.objs.size f (.ref cda) cc)) (.func (defBody st) (PySem.W.ksEnv q (defScope st) s.heap.objs.size f (.ref cda) cc)) (execs (.Expr (.Call (.Attribute (.Call (.Name "super" p0) [] [] p1) "__init__" p2) (e :: es) [] p3) p4 :: rest) (PySem.W.ksEnv q (defScope st) s.heap.objs.size f (.ref cda) cc))
      (SP (ncx CX P w K mg base N ⟨"__init__", q, defArgs st, defBody st, defScope st, [("__class__", cc)], cda⟩ f A outer s H E) [] { nx := fun _ H' => Q .non H', rt := Q })
      (ncx CX P w K mg base N ⟨"__init__", q, defArgs st, defBody st, defScope st, [("__class__", cc)], cda⟩ f A outer s H E).xe { s with heap := h₁, toks := s.toks + ((("self" : Str) :: ps').zip us).length } := by
    refine ks_wpAt_execs_cons (ks_wpAt_mono (sup_run (G := fun H1 => t { nx := fun _ H' => Q .non H', rt := Q } (startF N (.ref a :: ws) [none]) H1) I0 rfl S.kind F.hks (S.frk _ List.mem_cons_self) (S.par _ List.mem_cons_self) lk har1 har2 hcc hcda hvs hfile F.top F.mgs F.op hN0 rfl hD T SC ea hpa he hpl hev hta) (fun fl s' ⟨e1, H1, J, hG⟩ => ?_) fun _ _ z => z)
    subst e1
    exact wpAt_of_wpAny (hps.run [] s' _ H1 _ J hG)
  rw [← hst] at key
  refine ks_wpAt_mono key (fun fl s' hs => ?_) fun _ _ z => z
  have fin : ∀ {σ' : L2.St} {H' : Hp} {v : V} {u : Value}, Inv (ncx CX P w K mg base N ⟨"__init__", q, defArgs st, defBody st, defScope st, [("__class__", cc)], cda⟩ f A outer s H E) [] σ' H' s' → L2.RelV v u → Q v H' → CE outer P w H s Q u s' :=
    fun {σ' H' v u} J rv q => ⟨v, H', J.os, J.bare, J.base, J.hok, rv, q⟩
  cases fl with
  | ret u =>
    obtain ⟨v, σ', H', J, rv, q⟩ := hs
    exact fin J rv q
  | next =>
    obtain ⟨σ', H', J, q⟩ := hs
    exact fin (v := V.non) (u := Value.none) J rfl q
  | brk =>
    obtain ⟨_, _, _, q⟩ := hs
    exact False.elim q
  | cont =>
    obtain ⟨_, _, _, q⟩ := hs
    exact False.elim q
end
end Sh
set_option Elab.async false
set_option linter.all false
set_option maxRecDepth 100000
/-! own exceptions over ValueError: made, raised, told by defs that may raise -/
namespace Sh
open PySem PySem.Spec PyProof.Rows L2 NdefX
/-- an exception class of the text: its __init__ (own or an ancestor's, written in the class at D) at f -/
structure ExcAt (K : PySem.W.Frag) (mg : Str → Option Value) (x : Str) (C f D : Addr) : Prop where
  oex : OexC K C
  mgC : mg x = some (.ref C)
  iC : PySem.W.findIn K (.ref C) "__init__" = some (some (.ref f))
  tI : PySem.W.typeIn K (.ref f) = some (.type "function")
  sup : SupC K C D
  xf : XfC K C
/-- its __init__ stands in the text -/
structure XInit (P : Program) (K : PySem.W.Frag) (mg : Str → Option Value) (q : Str) (st : Stmt) (ps : List Str) (D f : Addr) : Prop where
  ex : ∃ fd, SupF P K mg q st ps D f fd ∧ Binds K fd ps []
/-- __init__(self, thing): super().__init__(..), then self.fld = thing -/
def spX1 (K : PySem.W.Frag) (D : Addr) (fld : Str) (ok : V → Prop) : Sp := fun vs H Q _ => ∃ (a C : Addr) (v : V), vs = [.ref a, v] ∧ OexC K C ∧ SupC K C D ∧ PySem.W.findIn K (.ref C) fld = some none ∧ H a = some (exo a C none) ∧ ok v ∧
  ∀ dx, H dx = none → dx ≠ a → Q .non (upd (upd H dx (exd dx [(fld, v)])) a (exo a C (some dx)))
theorem mk1 {K : PySem.W.Frag} {mg : Str → Option Value} {x fld : Str} {C f D : Addr} {ok : V → Prop} {v : V} {H1 : Hp} {Q : XK} {E : XK} (T : ExcAt K mg x C f D) (hno : PySem.W.findIn K (.ref C) fld = some none) (hv : ok v) (k : ∀ d, H1 d = none → Q (.ref C) (some d) (upd H1 d (.xd [(fld, v)]))) :
    [v].length ≤ 1000 ∧ ∀ a, H1 a = none → spX1 K D fld ok (.ref a :: ([v] ++ [])) (upd H1 a (exo a C none)) (fun u H2 => u = .non ∧ ∃ (d : Addr) (fs : List (Str × V)), H2 a = some (exo a C (some d)) ∧ H2 d = some (exd d fs) ∧ H1 d = none ∧ Q (.ref C) (some d) (upd (del H2 a) d (.xd fs))) E := by
  refine ⟨by simp, fun a ha => ⟨a, C, v, rfl, T.oex, T.sup, hno, upd_same, hv, fun dx h1 h2 => ⟨rfl, dx, [(fld, v)], upd_same, ?_, ?_, ?_⟩⟩⟩
  · rw [upd_ne h2, upd_same]
  · rw [upd_ne h2] at h1; exact h1
  · rw [upd_ne h2] at h1
    have e : upd (del (upd (upd (upd H1 a (exo a C none)) dx (exd dx [(fld, v)])) a (exo a C (some dx))) a) dx (.xd [(fld, v)]) = upd H1 dx (.xd [(fld, v)]) := by
      funext b
      by_cases hb : b = dx
      · rw [hb, upd_same, upd_same]
      · rw [upd_ne hb, upd_ne hb]
        by_cases hba : b = a
        · rw [hba, del_same, ha]
        · rw [del_ne hba, upd_ne hba, upd_ne hb, upd_ne hba]
    rw [e]
    exact k dx h1
/-- such an __init__ keeps its promise -/
structure XiOk (P : Program) (w : World) (K : PySem.W.Frag) (mg : Str → Option Value) (base : Heap) (k : Nat) (f : Addr) (sp : Sp) : Prop where
  ex : ∃ (fd : FuncData) (ps : List Str), FnOk P w K mg base CX0 k f fd ps sp ∧ Binds K fd ps []
/-! ### a def that may raise -/
section
variable {P : Program} {w : World} {K : PySem.W.Frag} {mg : Str → Option Value} {base : Heap}
theorem Cal.mkX {x : Str} {st : Stmt} {N ps : List Str} {k : Nat} {sp : Sp} (D : DefAt K mg x st ps) (S : FnScope N ps (defScope st)) (len : ∀ vs H Q E, sp vs H Q E → vs.length = ps.length)
    (hbody : ∀ (f : Addr) (cdv : Value) (A : Around) (outer : List Env) (s : Shared) (H : Hp) (vs : List V) (Q : VK) (E : XK), Room k (A.deeper (envOfC x (defScope st) s.heap.objs.size f cdv)) → sp vs H Q E →
      ∃ t, PSs (cxOf (L2.CX P w) P w K mg base N x (defScope st) f cdv A outer s H E) (defBody st) t ∧ t { nx := fun _ H' => Q .non H', rt := Q } (start N vs) H) : Cal P w K mg base (L2.CX P w) (k + 1) x sp := by
  obtain ⟨f, fd, F, m, b⟩ := D.ex
  exact ⟨f, fd, ps, F.okX S len (fun cdv A outer s H vs Q E hr h => hbody f cdv A outer s H vs Q E hr h), m, F.kp, b⟩
end
section
variable {X : Cx} {k j : Nat} {x : Str} {sp : Sp} {p pos : Pos} {e : Expr} {es : List Expr} {t : TA} {W : WX}
/-- f(e, ..), f a def that may raise; what it raises is wished by W -/
theorem pe_cX (c : Cal X.prog X.w X.K X.mg X.base (L2.CX X.prog X.w) k x sp) (hr : Room j X.A) (hk : k ≤ j) (tk : Takes X W) (hg : Gl X x) (ha : PA X (e :: es) t)
    (hdb : (x == ("__debug__" : Str)) = false := by decide) (he : starEach (e :: es) X.env = (false, eval e X.env) :: starEach es X.env := by rfl) (hpl : (backTo pos (starEach es X.env)).any (·.1) = false := by rfl) :
    PE X (.Call (.Name x p) (e :: es) [] pos) (tCallS sp (WE W) t) := by
  obtain ⟨f, fd, ps, F, hm, kp, b⟩ := c.ex
  exact pe_callS F (hr.mono hk) hg hm kp b (fun σ => passAt tk σ) ha hdb he hpl
/-- the same where it does not raise -/
theorem pe_cXn (c : Cal X.prog X.w X.K X.mg X.base (L2.CX X.prog X.w) k x sp) (hr : Room j X.A) (hk : k ≤ j) (hg : Gl X x) (ha : PA X (e :: es) t)
    (hdb : (x == ("__debug__" : Str)) = false := by decide) (he : starEach (e :: es) X.env = (false, eval e X.env) :: starEach es X.env := by rfl) (hpl : (backTo pos (starEach es X.env)).any (·.1) = false := by rfl) :
    PE X (.Call (.Name x p) (e :: es) [] pos) (tCall sp [] E0 t) := by
  obtain ⟨f, fd, ps, F, hm, kp, b⟩ := c.ex
  exact pe_call F (hr.mono hk) hg hm kp b .nil passL ha hdb he hpl
/-- raise C(e) -/
theorem ps_raiseX {C D f : Addr} {pos2 : Pos} (T : ExcAt X.K X.mg x C f D) (F : XiOk X.prog X.w X.K X.mg X.base k f sp) (hr : Room j X.A) (hk : k + 1 ≤ j) (hc : X.calm = true) (tk : Takes X W) (hg : Gl X x) (ha : PA X (e :: es) t)
    (hdb : (x == ("__debug__" : Str)) = false := by decide) (he : starEach (e :: es) X.env = (false, eval e X.env) :: starEach es X.env := by rfl) (hpl : (backTo pos (starEach es X.env)).any (·.1) = false := by rfl) :
    PS X (.Raise (some (.Call (.Name x p) (e :: es) [] pos)) none pos2) (fun _ σ H => tMkO C sp [] t σ H fun cls d H' => W cls d σ H') := by
  obtain ⟨fd, ps, F, b⟩ := F.ex
  exact ps_raise hc tk (pmk_oex (ds := []) (dvs := []) T.oex T.iC T.tI F (hr.mono hk) b .nil (fun _ _ _ _ _ _ _ z => z.elim) hg T.mgC ha hdb he hpl)
/-- repr of a text -/
theorem call_repr_str : CallR X (.builtin "repr") (fun xs H Q => ∃ z, xs = [.str z] ∧ (reprText z).length ≤ sizeLine ∧ Q (.str (reprText z)) H) := by
  intro pins s σ H xs us Q I r h
  obtain ⟨z, rfl, hz, q⟩ := h
  obtain ⟨u, rfl, t, rfl⟩ := vals1 r
  exact PySem.P.repr_of_str ⟨.str _, H, I.tok _, ⟨_, rfl⟩, q⟩ hz
end
end Sh
set_option Elab.async false
set_option linter.all false
set_option maxRecDepth 100000
set_option maxHeartbeats 2000000
/-! try with several clauses «except C as n» -/
namespace Sh
open PySem PySem.Spec PyProof.Rows L2
abbrev ClA := Value × Nat × (Addr → Value → Option Addr → TS)
def outA (D : Ends) (i : Nat) : Ends := { nx := fun σ' H' => D.nx (σ'.set i none) H', rt := D.rt, bk := fun σ' H' => D.bk (σ'.set i none) H', ct := fun σ' H' => D.ct (σ'.set i none) H' }
/-- what the clauses wish of an exception of the body -/
def wAsN (K : PySem.W.Frag) (Wo : WX) (D : Ends) : List ClA → WX
  | [] => Wo
  | p :: r => fun cls d σ H => ∃ b, PySem.W.exmOne K cls p.1 = some b ∧ (b = true → ∀ a, H a = none → p.2.2 a cls d (outA D p.2.1) (σ.set p.2.1 (some (.ref a))) H) ∧ (b = false → wAsN K Wo D r cls d σ H)
inductive HdsA (X : Cx) : List ExceptHandler → List ClA → Prop
  | nil : HdsA X [] []
  | cons {x n : Str} {c : Value} {i : Nat} {ts : Addr → Value → Option Addr → TS} {b0 : Stmt} {su : List Stmt} {np pos' : Pos} {hds : List ExceptHandler} {l : List ClA} (hi : X.N[i]? = some n) (hl : X.env.kindOf n = some .local) (hc : Names X x c)
      (hsu : ∀ (a : Addr) (oe : Obj) (cls : Value) (d : Option Addr) (pn : List (Addr × Obj)), Zc cls d oe → (∃ vs, oe.data = .fields vs) → PSs (X.suite a ((a, oe) :: pn)) (b0 :: su) (ts a cls d)) (r : HdsA X hds l) :
      HdsA X (.ExceptHandler (some (.Name x np)) (some n) (b0 :: su) pos' :: hds) ((c, i, ts) :: l)
section
variable {X : Cx} {body : List Stmt} {h0 : ExceptHandler} {hds : List ExceptHandler} {l : List ClA} {pos : Pos} {tb : WX → TS} {Wo : WX}
theorem ps_try_asN (hs : X.stack = X.env :: X.outer) (hf : X.env.frame = some X.env.locals) (hN : X.N.Nodup) (tk : Takes X Wo)
    (hb : ∀ (W : WX) (pn : List (Addr × Obj)) (xe : Value → Shared → Prop), Takes (X.tr pn xe) W → PassesOwn (model X.prog X.w) X.A X.env xe → PSs (X.tr pn xe) body (tb W))
    (hh : HdsA X (h0 :: hds) l) : PS X (.Try body (h0 :: hds) [] [] pos) (fun D σ H => tb (wAsN X.K Wo D l) D σ H) := by
  refine ⟨fun pins s σ H D I hgo => ?_⟩
  have okX := I.ok
  have frX : X.A.frames = some (X.env :: X.outer) := okX.frames.trans (congrArg some hs)
  refine wpAny_Try_except (wpAny_mono ((hb (wAsN X.K Wo D l) (X.pn ++ pins) (fun e s₁ => wpAny (model X.prog X.w) X.A (noteFrame e X.env) (fun _ s₂ => wpAny (model X.prog X.w) X.A (setFlight e none) (fun _ s₃ =>
    wpAny (model X.prog X.w) X.A (handleBy e X.env (h0 :: hds)) (SP X pins D) X.xe s₃) X.xe s₂) X.xe s₁) (fun u s' air => ?_) PassesOwn.looking).run [] s σ H D (I.toTry _) hgo) (fun fl s1 done => ?_) fun _ _ he => he)
  · obtain ⟨a, B, sI, pn0, σ1, H1, cls, d, rfl, J0, nb, up, sky, na, os, ag, wish⟩ := air
    have J : Inv X pins σ1 H1 sI := J0.ofTry okX
    show wpAny (model X.prog X.w) X.A (noteFrame (.ref a) X.env) _ _ _
    refine Sky.land Zc.steady frX hf (hs ▸ sky) fun g3 fl3 up3 => ?_
    have J3 : Inv X pins σ1 H1 { s' with heap := g3 } := J.landed nb fl3.1 (up.trans up3) os ag
    obtain ⟨oe3, vs3, at3, z3, d3⟩ := fl3.there
    have offF : a ∉ frs (X.env :: X.outer) := fun hm => by
      obtain ⟨_, o', e', isF⟩ := fl3.2.2.1.mem hm
      cases at3.symm.trans e'
      exact isF _ d3
    have offL : a ≠ X.env.locals := fun z => offF (List.mem_filterMap.mpr ⟨X.env, List.mem_cons_self, hf.trans (congrArg some z.symm)⟩)
    have offO : a ∉ X.fs := fun hm => let ⟨e, he, q⟩ := List.mem_filterMap.mp hm; offF (List.mem_filterMap.mpr ⟨e, List.mem_cons_of_mem _ he, q⟩)
    have S3 := J3.suite at3 d3 na offL offO
    have steps : ∀ {hs' : List ExceptHandler} {l' : List ClA}, HdsA X hs' l' → wAsN X.K Wo D l' cls d σ1 H1 → wpAny (model X.prog X.w) X.A (handleBy (.ref a) X.env hs') (SP X pins D) X.xe { s' with heap := g3 } := by
      intro hs' l' hk
      induction hk with
      | nil =>
        intro wo
        refine wpAny_handleBy_nil ?_
        obtain ⟨_, _, _, oe, vs, Tb, oT, ts', he, _, hd, h1, _⟩ := id fl3
        unfold PySem.passOn
        refine wpAny_bind (wpAny_field he hd h1 ?_)
        rw [if_neg (show ¬ ((Value.ref Tb == Value.none) = true) from by simp)]
        have away : wpAny (model X.prog X.w) X.A (setFlight (.ref a) X.env.frame) (fun _ s4 => wpAny (model X.prog X.w) X.A (throw (.ref a) : Sem Flow) (SP X pins D) X.xe s4) X.xe { s' with heap := g3 } := by
          rw [hf]
          exact HandSPX.setFlight_upZ fl3 fun h4 hh4 up4 => wpAny_throw (tk _ _ ⟨a, B, sI, pins, σ1, H1, cls, d, rfl, J, nb, (up.trans up3).trans up4, .inr (.inr (hs ▸ hh4)), na, os, ag, wo⟩)
        first
          | exact wpAny_bind (wpAny_pure (wpAny_bind away))
          | exact wpAny_bind away
      | @cons x n c i ts b0 su np pos' hd2 l2 hi hl hc hsu r ih =>
        intro wo
        obtain ⟨b, hb1, hy, hn⟩ := wo
        refine wpAny_handleBy_cons (codeAny_handlers_test ?_) (fun q => by cases q)
        have LTy : PySem.W.Looks (model X.prog X.w) g3 (typeOf (.ref a)) cls := fun _ _ _ s k q => wpAny_typeOf_ref (k _ _ at3) (by rw [z3.1]; exact q)
        have LMa := PySem.W.exm_one (M := model X.prog X.w) J3.kIn LTy hb1
        have named : ∀ {Q : Value → Shared → Prop} {E : Value → Shared → Prop}, Q c { s' with heap := g3 } → wpAny (model X.prog X.w) (X.A.mark (some (.ref a))) (eval (.Name x np) X.env) Q E { s' with heap := g3 } := fun {Q E} q => by
          obtain ⟨hg, hdb, hm | ⟨hm, hv, hnn⟩⟩ := hc
          · exact ld_glob (X := X.suite a ((a, oe3) :: (X.pn ++ pins))) S3 hg hm q hdb
          · exact ld_blt (X := X.suite a ((a, oe3) :: (X.pn ++ pins))) S3 hg hm hv q hnn hdb
        refine named (LMa.here ?_)
        cases b with
        | false => exact ih (hn rfl)
        | true =>
          refine codeAny_handlers_suite_as (HandSPX.lands_againZ fl3 fun g4 fl4 up4 => ?_)
          have J4 : Inv X pins σ1 H1 { s' with heap := g4 } := J.landed nb fl4.1 ((up.trans up3).trans up4) os ag
          obtain ⟨oe4, vs4, at4, z4, d4⟩ := fl4.there
          have S4 := J4.suite at4 d4 na offL offO
          refine store_ok (X := X.suite a ((a, oe4) :: (X.pn ++ pins))) (v := .ref a) S4 hN hi (.inl hl) rfl (fun s5 S5 => ?_) (.inr hl)
          refine wpAny_mono ((hsu a oe4 cls d (X.pn ++ pins) z4 ⟨_, d4⟩).run [] s5 _ H1 _ S5 (hy rfl a na)) (fun fl s6 end6 => ?_) (fun _ _ z => z.elim)
          have shut : ∀ {σ6 : L2.St} {H6 : Hp} {Q : Shared → Prop}, Inv (X.suite a ((a, oe4) :: (X.pn ++ pins))) [] σ6 H6 s6 → (∀ s7, Inv X pins (σ6.set i none) H6 s7 → Q s7) →
              wpAny (model X.prog X.w) X.A (do bindName X.env n .none; unbindBehindTheSuite X.env n pos') (fun _ s7 => Q s7) X.xe s6 := fun {σ6 H6 Q} S6 hq => gone_ok (S6.unsuite okX) hN hi hl hq
          cases fl with
          | next => exact let ⟨_, _, S6, q6⟩ := end6; shut S6 fun s7 J7 => ⟨_, _, J7, q6⟩
          | brk => exact let ⟨_, _, S6, q6⟩ := end6; shut S6 fun s7 J7 => ⟨_, _, J7, q6⟩
          | cont => exact let ⟨_, _, S6, q6⟩ := end6; shut S6 fun s7 J7 => ⟨_, _, J7, q6⟩
          | ret u => exact let ⟨_, _, _, S6, r6, q6⟩ := end6; shut S6 fun s7 J7 => ⟨_, _, _, J7, r6, q6⟩
    exact steps hh wish
  · cases fl with
    | next => exact let ⟨σ', H', J', q⟩ := done; wpAny_execs_nil ⟨σ', H', J'.ofTry okX, q⟩
    | brk => exact let ⟨σ', H', J', q⟩ := done; ⟨σ', H', J'.ofTry okX, q⟩
    | cont => exact let ⟨σ', H', J', q⟩ := done; ⟨σ', H', J'.ofTry okX, q⟩
    | ret u => exact let ⟨v, σ', H', J', r, q⟩ := done; ⟨v, σ', H', J'.ofTry okX, r, q⟩
end
end Sh
set_option Elab.async false
set_option linter.all false
set_option maxRecDepth 100000
/-! what leaves a def that raises; a try within a loop -/
namespace Sh
open PySem PySem.Spec PyProof.Rows L2
/-- an exception with one field is let out -/
def Thrown (E : XK) (H : Hp) (X : Addr) (fld : Str) (v : V) : Prop := ∀ d, H d = none → E (.ref X) (some d) (upd H d (.xd [(fld, v)]))
theorem lk1 {f : Str} {v : V} : List.lookup f [(f, v)] = some v := by simp [List.lookup]
/-- the reading of a try, as a word of its own (within a loop) -/
def tTry (tb : WX → TS) (K : PySem.W.Frag) (Wo : WX) (l : List ClA) : TS := fun D σ H => tb (wAsN K Wo D l) D σ H
theorem ps_tryT {X : Cx} {body : List Stmt} {h0 : ExceptHandler} {hds : List ExceptHandler} {l : List ClA} {pos : Pos} {tb : WX → TS} {Wo : WX} (hs : X.stack = X.env :: X.outer) (hf : X.env.frame = some X.env.locals) (hN : X.N.Nodup) (tk : Takes X Wo)
    (hb : ∀ (W : WX) (pn : List (Addr × Obj)) (xe : Value → Shared → Prop), Takes (X.tr pn xe) W → PassesOwn (model X.prog X.w) X.A X.env xe → PSs (X.tr pn xe) body (tb W))
    (hh : HdsA X (h0 :: hds) l) : PS X (.Try body (h0 :: hds) [] [] pos) (tTry tb X.K Wo l) := ps_try_asN hs hf hN tk hb hh
/-- fields of an exception with two: self.f = a, self.g = b -/
def spX2 (K : PySem.W.Frag) (D : Addr) (f g : Str) (ok : V → V → Prop) : Sp := fun vs H Q _ => ∃ (a C : Addr) (u v : V), vs = [.ref a, u, v] ∧ OexC K C ∧ SupC K C D ∧ PySem.W.findIn K (.ref C) f = some none ∧ PySem.W.findIn K (.ref C) g = some none ∧ H a = some (exo a C none) ∧ ok u v ∧
  ∀ (dx : Addr) (H' : Hp), H dx = none → dx ≠ a → H' a = some (exo a C (some dx)) → H' dx = some (exd dx [(g, v), (f, u)]) → (∀ b, b ≠ a → b ≠ dx → H' b = H b) → Q .non H'
theorem mk2 {K : PySem.W.Frag} {mg : Str → Option Value} {x f g : Str} {C fI D : Addr} {ok : V → V → Prop} {u v : V} {H1 : Hp} {Q : XK} {E : XK} (T : ExcAt K mg x C fI D) (hf : PySem.W.findIn K (.ref C) f = some none) (hg : PySem.W.findIn K (.ref C) g = some none) (hv : ok u v)
    (k : ∀ d, H1 d = none → Q (.ref C) (some d) (upd H1 d (.xd [(g, v), (f, u)]))) :
    [u, v].length ≤ 1000 ∧ ∀ a, H1 a = none → spX2 K D f g ok (.ref a :: ([u, v] ++ [])) (upd H1 a (exo a C none)) (fun z H2 => z = .non ∧ ∃ (d : Addr) (fs : List (Str × V)), H2 a = some (exo a C (some d)) ∧ H2 d = some (exd d fs) ∧ H1 d = none ∧ Q (.ref C) (some d) (upd (del H2 a) d (.xd fs))) E := by
  refine ⟨by simp, fun a ha => ⟨a, C, u, v, rfl, T.oex, T.sup, hf, hg, upd_same, hv, fun dx H' h1 h2 e1 e2 e3 => ?_⟩⟩
  rw [upd_ne h2] at h1
  refine ⟨rfl, dx, _, e1, e2, h1, ?_⟩
  have e : upd (del H' a) dx (.xd [(g, v), (f, u)]) = upd H1 dx (.xd [(g, v), (f, u)]) := by
    funext b
    by_cases hb : b = dx
    · rw [hb, upd_same, upd_same]
    · rw [upd_ne hb, upd_ne hb]
      by_cases hba : b = a
      · rw [hba, del_same, ha]
      · rw [del_ne hba, e3 b hba hb, upd_ne hba]
  rw [e]
  exact k dx h1
end Sh
set_option Elab.async false
set_option linter.all false
set_option maxRecDepth 100000
/-! isinstance of a caught error of an own class that has fields -/
namespace Sh
open PySem PySem.Spec PyProof.Rows L2
/-- isinstance(e, c): e the caught exception at a, of the class D, its fields at d -/
def rIsX (K : PySem.W.Frag) (D a : Addr) (cls : Value) (d : Option Addr) : List V → Hp → VK → Prop := fun xs H Q => cls = .ref D ∧ ∃ (c : V) (cv : Value) (b : Bool) (dd : Addr) (fs : List (Str × V)), xs = [.ref a, c] ∧ d = some dd ∧ H dd = some (.xd fs) ∧ (∀ u, RelV c u → u = cv) ∧ PySem.W.kitOne K (.ref D) cv = some b ∧ Q (.bl b) H
theorem inst_cls {K : PySem.W.Frag} {D : Addr} (h : PySem.W.hasDictIn K D = true) : (PySem.W.clsIn K D).isSome = true := by
  obtain ⟨cd, hc, _⟩ := PySem.W.any_some h
  rw [hc]; rfl
theorem call_isX {X : Cx} {a D : Addr} {cls : Value} {d : Option Addr} {oe : Obj} {pn : List (Addr × Obj)} (C : ExcC X.K D) (hz : Zc cls d oe) (hf : ∃ vs, oe.data = .fields vs) : CallR (X.suite a ((a, oe) :: pn)) (.builtin "isinstance") (rIsX X.K D a cls d) := by
  intro pins s σ H xs us Q I r h
  obtain ⟨ec, c, cv, b, dd, fs, rfl, ed, hd, hcv, e, q⟩ := h
  subst ec ed
  obtain ⟨t, rfl, rt⟩ : ∃ t, us = [Value.ref a, t] ∧ RelV c t := by
    cases r with
    | cons rx rr =>
      cases rr with
      | cons rt rr => cases rr; cases rx; exact ⟨_, rfl, rt⟩
  obtain rfl := hcv t rt
  obtain ⟨ha, _⟩ := I.pin (a, oe) (List.mem_append_left _ List.mem_cons_self)
  obtain ⟨vs, hv⟩ := hf
  obtain ⟨mA, hns, _⟩ := (show ObjOk X.prog X.w H s.heap dd (.xd fs) from I.hok dd _ hd)
  obtain ⟨od, ho, _⟩ := lookIn_ns hns
  have J : PySem.W.InstAt s.heap a oe D (some od) := ⟨ha, hz.1, by unfold PySem.W.notCls; rw [hv] <;> rfl, by rw [hz.2]; exact ho⟩
  exact PySem.W.kia_one (PySem.W.kitx_exc (inst_cls C.hd) C.hg C.hk C.hs C.ha C.hn C.ht C.hm) I.kIn J e (fun z => nomatch z) fun tk => ⟨.bl b, H, I.kept (t' := tk) fun _ _ z => z, rfl, q⟩
/-- repr in an except suite -/
theorem call_reprDs {X : Cx} {a : Addr} {pn : List (Addr × Obj)} (hg : X.A.guards = some []) (hu : X.A.units + 64 < cLine) :
    CallR (X.suite a pn) (.builtin "repr") (fun xs H Q => ∃ v d, xs = [v] ∧ Dp X.K H v d ∧ d.showable = true ∧ d.hasDict = false ∧ d.depth ≤ 60 ∧ d.shown.length ≤ sizeLine ∧ Q (.str d.shown) H) :=
  call_reprD (X := X.suite a pn) hg hu
/-- a class asked of its own heir -/
theorem kit_true {K : PySem.W.Frag} {D C : Addr} (hd : PySem.W.hasDictIn K C = true) (ty : PySem.W.typeIn K (.ref C) = some (.type "type")) (h : PySem.W.subIn K (.ref D) (.ref C) = some true) : PySem.W.kitOne K (.ref D) (.ref C) = some true := by
  unfold PySem.W.kitOne
  split
  · rfl
  · unfold PySem.W.kitCls
    dsimp only
    rw [if_pos (by rw [inst_cls hd, ty]; rfl)]
    exact h
/-- a class asked of one that it does not come from -/
theorem kit_false {K : PySem.W.Frag} {D C : Addr} (hd : PySem.W.hasDictIn K C = true) (ty : PySem.W.typeIn K (.ref C) = some (.type "type")) (hs : PySem.W.subIn K (.ref C) (.ref C) = some true) (h : PySem.W.subIn K (.ref D) (.ref C) = some false) : PySem.W.kitOne K (.ref D) (.ref C) = some false := by
  unfold PySem.W.kitOne
  split
  · rename_i z
    have e := beq_iff_eq.mp z
    cases e
    rw [hs] at h
    cases h
  · unfold PySem.W.kitCls
    dsimp only
    rw [if_pos (by rw [inst_cls hd, ty]; rfl)]
    exact h
/-- what str tells of a small number, a text, or nothing -/
inductive StrV : V → Str → Prop
  | int {i : Int} (h : i.natAbs.log2 < 1920) : StrV (.int i) (toString i)
  | str (z : Str) : StrV (.str z) z
  | non : StrV .non "None"
theorem call_str_any {X : Cx} : CallR X (.type "str") (fun xs H Q => ∃ v z, xs = [v] ∧ StrV v z ∧ Q (.str z) H) := by
  intro pins s σ H xs us Q I r h
  obtain ⟨v, z, rfl, hv, q⟩ := h
  cases hv with
  | int hi => exact call_str_int pins s σ H _ us Q I r ⟨_, rfl, hi, q⟩
  | str z => exact SkE.call_str_str pins s σ H _ us Q I r ⟨_, rfl, q⟩
  | non =>
    obtain ⟨u, rfl, ru⟩ := vals1 r
    obtain rfl : u = Value.none := ru
    exact PySem.P.str_of_none ⟨.str "None", H, I.tok _, ⟨_, rfl⟩, q⟩
end Sh
set_option Elab.async false
set_option linter.all false
set_option maxRecDepth 100000
namespace Sh
open PySem PySem.Spec PyProof.Rows L2
theorem nsc_WrongItem : NdefX.NScope ["self", "place", "__class__"] ["self", "place"] ["__class__"] (defScope s_WrongItem___init__) := NdefX.nscope_by (by decide +kernel)
theorem nsc_WrongThing : NdefX.NScope ["self", "thing", "__class__"] ["self", "thing"] ["__class__"] (defScope s_WrongThing___init__) := NdefX.nscope_by (by decide +kernel)
structure TxtX (P : Program) (K : PySem.W.Frag) (mg : Str → Option Value) (C0 XA FA DI XS FS DT SE : Addr) : Prop extends TxtC K mg C0 where
  e_BadAutomaton : ExcAt K mg "BadAutomaton" XA FA DI
  q_WrongItem : XInit P K mg "WrongItem.__init__" s_WrongItem___init__ ["self", "place"] DI FA
  nf_BadAutomaton_place : PySem.W.findIn K (.ref XA) "place" = some none
  e_BadSigns : ExcAt K mg "BadSigns" XS FS DT
  q_WrongThing : XInit P K mg "WrongThing.__init__" s_WrongThing___init__ ["self", "thing"] DT FS
  nf_BadSigns_thing : PySem.W.findIn K (.ref XS) "thing" = some none
  mm_BadAutomaton_BadAutomaton : PySem.W.exmOne K (.ref XA) (.ref XA) = some true
  mm_BadSigns_BadSigns : PySem.W.exmOne K (.ref XS) (.ref XS) = some true
  c_BadAutomaton : ExcC K XA
  c_BadSigns : ExcC K XS
  gc_WrongItem : mg "WrongItem" = some (.ref DI)
  gc_WrongThing : mg "WrongThing" = some (.ref DT)
  gc_ShrunkError : mg "ShrunkError" = some (.ref SE)
  ko_BadAutomaton_WrongItem : PySem.W.kitOne K (.ref XA) (.ref DI) = some true
  ko_BadAutomaton_ShrunkError : PySem.W.kitOne K (.ref XA) (.ref SE) = some true
  ko_BadAutomaton_WrongThing : PySem.W.kitOne K (.ref XA) (.ref DT) = some false
  ko_BadSigns_WrongThing : PySem.W.kitOne K (.ref XS) (.ref DT) = some true
  ko_BadSigns_WrongItem : PySem.W.kitOne K (.ref XS) (.ref DI) = some false
end Sh
set_option Elab.async false
set_option linter.all false
set_option maxRecDepth 100000
set_option maxHeartbeats 4000000
namespace Sh
open PySem PySem.Spec PyProof.Rows L2
open SX (S S_inj S_len S_cat)
local macro_rules | `(tactic| walk_at "nx") => `(tactic| repeat (with_reducible first | refine Sh.gn_mk ?_ | refine Sh.nx_mk ?_ | refine Sh.st_nx ?_ | refine Sh.rt_mk ?_ | refine Sh.ct_mk ?_ | refine Sh.bk_mk ?_))
local macro_rules | `(tactic| walk_at "sq") => `(tactic| first | exact SqL.of upd_same | exact SqT.of upd_same | exact SqL.of (by assumption) | exact SqT.of (by assumption) | assumption | exact Or.inl (SqL.of (by assumption)) | exact Or.inr (SqT.of (by assumption)) | exact Or.inl (by assumption) | exact Or.inr (by assumption))
local macro_rules | `(tactic| walk_at "hp") => `(tactic| first | exact upd_same | assumption)
local macro_rules | `(tactic| walk_at "sz") => `(tactic| first | exact Nat.le_of_ble_eq_true rfl | omega)
local macro_rules | `(tactic| walk_at "sd") => `(tactic| first | omega | exact rfl | assumption | (show (0 : Int) < _; omega) | exact And.intro (by omega) (by omega) | exact Or.inl (And.intro (by omega) (by omega)) | exact Or.inr (And.intro (by omega) (by omega)) | omega | exact Sh.sz_S (by omega) | decide)
local macro_rules | `(tactic| walk_at "rd1") => `(tactic| first
  | (with_reducible first | refine Sh.gn_mk ?_ | refine Sh.nx_mk ?_ | refine Sh.st_nx ?_ | refine Sh.rt_mk ?_ | refine Sh.ct_mk ?_ | refine Sh.bk_mk ?_)
  | refine Exists.intro (α := V) _ (And.intro rfl ?_)
  | refine Exists.intro (α := Bool) _ (And.intro rfl ?_)
  | refine Exists.intro (α := Int) _ (And.intro rfl ?_)
  | refine Exists.intro (α := PySem.Str) _ (And.intro rfl ?_)
  | refine Exists.intro (α := Int) _ (Exists.intro (α := Int) _ (And.intro rfl (And.intro rfl ?_)))
  | refine Exists.intro (α := PySem.Str) _ (Exists.intro (α := PySem.Str) _ (And.intro rfl (And.intro rfl ?_)))
  | refine Exists.intro (α := Int) _ (Exists.intro (α := Int) _ (And.intro rfl ?_))
  | refine Or.inl (Exists.intro (α := Int) _ (And.intro rfl ?_))
  | refine Exists.intro _ (Exists.intro _ (Exists.intro _ (Exists.intro _ (And.intro rfl (And.intro rfl (And.intro (by walk_at "sq") (And.intro rfl ?_)))))))
  | refine Exists.intro _ (Exists.intro _ (Exists.intro _ (Exists.intro _ (And.intro rfl (And.intro rfl (And.intro (by walk_at "hp") (And.intro rfl ?_)))))))
  | refine And.intro (by walk_at "sd") ?_
  )
local macro_rules | `(tactic| walk_at "rd") => `(tactic| repeat walk_at "rd1")
local macro_rules | `(tactic| walk_at "lk") => `(tactic| first | exact rfl | (rw [lookup_putF, if_pos rfl]) | (rw [lookup_putF, if_neg (by decide +kernel)]; walk_at "lk"))

section
variable {P : Program} {w : World} {K : PySem.W.Frag} {mg : Str → Option Value} {base : Heap} {C0 XA FA DI XS FS DT SE : Addr}
/-- is_integer of a number, or of what is none -/
def spIsInt (K : PySem.W.Frag) : Sp := fun vs H Q _ => (∃ z lo hi : Int, vs = [.int z, .int lo, .int hi] ∧ Q (.bl (decide (lo ≤ z) && decide (z ≤ hi))) H) ∨ ∃ (v a b : V) (n : String), vs = [v, a, b] ∧ TyX K H v (.type n) ∧ n ∈ tys ∧ n ≠ "int" ∧ Q (.bl false) H
theorem isaB_int {n : String} (h : n ∈ tys) : isaB n "int" = (n == "int" || n == "bool") := by
  simp only [tys, List.mem_cons, List.not_mem_nil, or_false] at h
  rcases h with rfl | rfl | rfl | rfl | rfl | rfl | rfl <;> decide
theorem isaB_bool {n : String} (h : n ∈ tys) : isaB n "bool" = (n == "bool") := by
  simp only [tys, List.mem_cons, List.not_mem_nil, or_false] at h
  rcases h with rfl | rfl | rfl | rfl | rfl | rfl | rfl <;> decide
theorem c_is_integer (T : Txt K mg) : Cal P w K mg base CX0 1 "is_integer" (spIsInt K) := by
  refine Cal.mk0 T.d_is_integer sc_is_integer (fun vs H Q E h => ?_) (fun f cdv A outer s H vs Q E hr h => ?_)
  · rcases h with ⟨z, lo, hi, rfl, _⟩ | ⟨v, a, b, n, rfl, _⟩ <;> rfl
  · rcases h with ⟨z, lo, hi, rfl, k⟩ | ⟨v, a, b, n, rfl, ht, hn, hs, k⟩
    · refine ⟨_, (pss_one (ps_ret (pe_and (pe_callB call_isi (by rfl) T.b_isinstance (by decide +kernel) (pa_cons (pv 0) (pa_cons (pe_bltn (v := .ty "int") (by rfl) T.b_int (by decide +kernel) rfl) pa_nil))) (pe_and (pe_not (pe_callB call_isi (by rfl) T.b_isinstance (by decide +kernel) (pa_cons (pv 0) (pa_cons (pe_bltn (v := .ty "bool") (by rfl) T.b_bool (by decide +kernel) rfl) pa_nil)))) (pe_one (pe_chain op_le op_le (pv 1) (pv 0) (pv 2))))))), ?_⟩
      walk_at "rd"
      refine ⟨_, _, _, _, _, rfl, .ty _, .base (.int _), kit_ty (r := true) (by decide +kernel), _, rfl, ?_⟩
      walk_at "rd"
      refine ⟨_, _, _, _, _, rfl, .ty _, .base (.int _), kit_ty (r := false) (by decide +kernel), _, rfl, ?_⟩
      walk_at "rd"
      by_cases c1 : lo ≤ z
      · rw [decide_eq_true c1, Bool.true_and] at k
        rw [decide_eq_true c1, if_pos rfl]
        walk_at "rd"
        exact k
      · rw [decide_eq_false c1, Bool.false_and] at k
        rw [decide_eq_false c1, if_neg Bool.false_ne_true]
        exact k
    · refine ⟨_, (pss_one (ps_ret (pe_and (pe_callB call_isi (by rfl) T.b_isinstance (by decide +kernel) (pa_cons (pv 0) (pa_cons (pe_bltn (v := .ty "int") (by rfl) T.b_int (by decide +kernel) rfl) pa_nil))) (pe_and (pe_not (pe_callB call_isi (by rfl) T.b_isinstance (by decide +kernel) (pa_cons (pv 0) (pa_cons (pe_bltn (v := .ty "bool") (by rfl) T.b_bool (by decide +kernel) rfl) pa_nil)))) (pe_one (pe_chain op_le op_le (pv 1) (pv 0) (pv 2))))))), ?_⟩
      walk_at "rd"
      refine ⟨_, _, _, _, _, rfl, .ty _, ht, kit_ty (kit_all _ hn _ (by decide)), _, rfl, ?_⟩
      rw [isaB_int hn, show (n == "int") = false from by simp [hs], Bool.false_or]
      by_cases hb : (n == "bool") = true
      · rw [hb]
        walk_at "rd"
        refine ⟨_, _, _, _, _, rfl, .ty _, ht, kit_ty (kit_all _ hn _ (by decide)), _, rfl, ?_⟩
        rw [isaB_bool hn, hb]
        walk_at "rd"
        exact k
      · rw [Bool.not_eq_true] at hb
        rw [hb]
        walk_at "rd"
        exact k
/-- BadText, BadRun: what __init__ keeps -/
def okAny : V → Prop := fun _ => True
theorem x_WrongThing (T : TxtX P K mg C0 XA FA DI XS FS DT SE) : XiOk P w K mg base 1 FS (spX1 K DT "thing" okAny) := by
  obtain ⟨fd, SF, b⟩ := T.q_WrongThing.ex
  refine ⟨fd, _, fn_sup SF nsc_WrongThing rfl rfl (fun vs H Q E h => ?_) (fun cc cda A outer s H vs Q E hr h => ?_), b⟩
  · obtain ⟨a, C, v, rfl, _⟩ := h
    rfl
  · obtain ⟨a, C, v, rfl, o, sc, hno, ea, _, k⟩ := h
    refine ⟨_, _, _, (pa_cons pe_str pa_nil), (pss_cons (ps_ost (pv 0) (pv 1)) pss_nil), rfl, fun _ => rfl, rfl, ?_⟩
    refine ⟨a, C, _, rfl, o, sc, ea, ?_⟩
    refine ⟨by simp, ea, _, rfl, _, rfl, a, C, rfl, o, hno, .inl ⟨ea, fun dx n1 n2 => ?_⟩⟩
    exact k dx n1 n2
/-- BadRun: a small number -/
def okNum : V → Prop := fun v => ∃ i : Int, v = .int i ∧ -1 ≤ i ∧ i ≤ 1000
theorem num_short : ∀ n : Nat, n < 1002 → (Str.ofString (toString ((n : Int) - 1))).length ≤ 5 ∧ ((n : Int) - 1).natAbs.log2 < 1920 := by decide +kernel
theorem x_WrongItem (T : TxtX P K mg C0 XA FA DI XS FS DT SE) : XiOk P w K mg base 1 FA (spX1 K DI "place" okNum) := by
  obtain ⟨fd, SF, b⟩ := T.q_WrongItem.ex
  refine ⟨fd, _, fn_sup SF nsc_WrongItem rfl rfl (fun vs H Q E h => ?_) (fun cc cda A outer s H vs Q E hr h => ?_), b⟩
  · obtain ⟨a, C, v, rfl, _⟩ := h
    rfl
  · obtain ⟨a, C, v, rfl, o, sc, hno, ea, ⟨i, rfl, h1, h2⟩, k⟩ := h
    refine ⟨_, _, _, (pa_cons (pe_op op_add_str (pe_op op_add_str pe_str (pe_callTy call_str_int (by rfl) T.b_str (by decide +kernel) (pa_cons (pv 1) pa_nil))) pe_str) pa_nil), (pss_cons (ps_ost (pv 0) (pv 1)) pss_nil), rfl, fun _ => rfl, rfl, ?_⟩
    refine ⟨a, C, _, rfl, o, sc, ea, ?_⟩
    obtain ⟨l5, lg⟩ := num_short (i + 1).toNat (by omega)
    rw [show (((i + 1).toNat : Nat) : Int) - 1 = i by omega] at l5 lg
    have hsl : (1100 : Nat) ≤ sizeLine := by decide
    have e1 : (Str.ofString "the thing at the place ").length = 23 := by decide
    have e2 : (Str.ofString " is wrong").length = 9 := by decide
    refine ⟨_, rfl, _, rfl, lg, _, _, rfl, rfl, by omega, _, _, rfl, rfl, ?_, ?_⟩
    · rw [PySem.Str.length_append, e1, e2]; omega
    refine ⟨by simp, ea, _, rfl, _, rfl, a, C, rfl, o, hno, .inl ⟨ea, fun dx n1 n2 => ?_⟩⟩
    exact k dx n1 n2
end
end Sh
set_option Elab.async false
set_option linter.all false
set_option maxRecDepth 100000
set_option maxHeartbeats 4000000
namespace Sh
open PySem PySem.Spec PyProof.Rows L2
open SX (S S_inj S_len S_cat)
local macro_rules | `(tactic| walk_at "nx") => `(tactic| repeat (with_reducible first | refine Sh.gn_mk ?_ | refine Sh.nx_mk ?_ | refine Sh.st_nx ?_ | refine Sh.rt_mk ?_ | refine Sh.ct_mk ?_ | refine Sh.bk_mk ?_))
local macro_rules | `(tactic| walk_at "sq") => `(tactic| first | exact SqL.of upd_same | exact SqT.of upd_same | exact SqL.of (by assumption) | exact SqT.of (by assumption) | assumption | exact Or.inl (SqL.of (by assumption)) | exact Or.inr (SqT.of (by assumption)) | exact Or.inl (by assumption) | exact Or.inr (by assumption))
local macro_rules | `(tactic| walk_at "hp") => `(tactic| first | exact upd_same | assumption)
local macro_rules | `(tactic| walk_at "sz") => `(tactic| first | exact Nat.le_of_ble_eq_true rfl | omega)
local macro_rules | `(tactic| walk_at "sd") => `(tactic| first | omega | exact rfl | assumption | (show (0 : Int) < _; omega) | exact And.intro (by omega) (by omega) | exact Or.inl (And.intro (by omega) (by omega)) | exact Or.inr (And.intro (by omega) (by omega)) | omega | exact Sh.sz_S (by omega) | decide)
local macro_rules | `(tactic| walk_at "rd1") => `(tactic| first
  | (with_reducible first | refine Sh.gn_mk ?_ | refine Sh.nx_mk ?_ | refine Sh.st_nx ?_ | refine Sh.rt_mk ?_ | refine Sh.ct_mk ?_ | refine Sh.bk_mk ?_)
  | refine Exists.intro (α := V) _ (And.intro rfl ?_)
  | refine Exists.intro (α := Bool) _ (And.intro rfl ?_)
  | refine Exists.intro (α := Int) _ (And.intro rfl ?_)
  | refine Exists.intro (α := PySem.Str) _ (And.intro rfl ?_)
  | refine Exists.intro (α := Int) _ (Exists.intro (α := Int) _ (And.intro rfl (And.intro rfl ?_)))
  | refine Exists.intro (α := PySem.Str) _ (Exists.intro (α := PySem.Str) _ (And.intro rfl (And.intro rfl ?_)))
  | refine Exists.intro (α := Int) _ (Exists.intro (α := Int) _ (And.intro rfl ?_))
  | refine Or.inl (Exists.intro (α := Int) _ (And.intro rfl ?_))
  | refine Exists.intro _ (Exists.intro _ (Exists.intro _ (Exists.intro _ (And.intro rfl (And.intro rfl (And.intro (by walk_at "sq") (And.intro rfl ?_)))))))
  | refine Exists.intro _ (Exists.intro _ (Exists.intro _ (Exists.intro _ (And.intro rfl (And.intro rfl (And.intro (by walk_at "hp") (And.intro rfl ?_)))))))
  | refine And.intro (by walk_at "sd") ?_
  )
local macro_rules | `(tactic| walk_at "rd") => `(tactic| repeat walk_at "rd1")
local macro_rules | `(tactic| walk_at "lk") => `(tactic| first | exact rfl | (rw [lookup_putF, if_pos rfl]) | (rw [lookup_putF, if_neg (by decide +kernel)]; walk_at "lk"))

section
variable {P : Program} {w : World} {K : PySem.W.Frag} {mg : Str → Option Value} {base : Heap} {C0 XA FA DI XS FS DT SE : Addr}
/-- check_signs of a text, or of what is none -/
def spSignsX (K : PySem.W.Frag) (XS : Addr) : Sp := fun vs H Q E => ∃ v, vs = [v] ∧ ((∃ sg, v = .str (S sg) ∧ sg.length ≤ 1000000 ∧ (isSigns sg = true → Q .non H) ∧ (isSigns sg = false → Thrown E H XS "thing" v)) ∨ (NotStr K H v ∧ Thrown E H XS "thing" v))
theorem c_X_check_signs (T : TxtX P K mg C0 XA FA DI XS FS DT SE) : Cal P w K mg base (L2.CX P w) 3 "check_signs" (spSignsX K XS) := by
  have x_WrongThing := x_WrongThing (P := P) (w := w) (base := base) T
  have c_is_signs := c_is_signs (P := P) (w := w) (base := base) T.toTxtC.toTxt
  refine Cal.mkX T.toTxtC.toTxt.d_check_signs sc_check_signs (fun vs H Q E h => ?_) (fun f cdv A outer s H vs Q E hr h => ?_)
  · obtain ⟨v, rfl, _⟩ := h
    rfl
  · obtain ⟨v, rfl, h⟩ := h
    refine ⟨_, (pss_one (ps_if (pt_not (pt_truth (pe_c c_is_signs hr (by decide) rfl (pa_cons (pv 0) pa_nil)) (by intro _; rfl)))
    (pss_one (ps_raiseX T.e_BadSigns x_WrongThing hr (by decide) rfl (takes_of rfl rfl rfl rfl) rfl (pa_cons (pv 0) pa_nil)))
    pss_nil)), ?_⟩
    walk_at "rd"
    rcases h with ⟨sg, rfl, hl, k1, k2⟩ | ⟨hv, k2⟩
    · refine .inl ⟨sg, rfl, hl, ?_⟩
      cases e : isSigns sg with
      | true =>
        walk_at "rd"
        exact k1 e
      | false =>
        walk_at "rd"
        first | exact mk1 T.e_BadSigns T.nf_BadSigns_thing trivial (k2 e) | exact (mk1 T.e_BadSigns T.nf_BadSigns_thing trivial (k2 e)).2
    · refine .inr ⟨v, rfl, hv, ?_⟩
      walk_at "rd"
      first | exact mk1 T.e_BadSigns T.nf_BadSigns_thing trivial k2 | exact (mk1 T.e_BadSigns T.nf_BadSigns_thing trivial k2).2
end
end Sh
set_option Elab.async false
set_option linter.all false
set_option maxRecDepth 100000
set_option maxHeartbeats 4000000
namespace Sh
open PySem PySem.Spec PyProof.Rows L2
open SX (S S_inj S_len S_cat)
local macro_rules | `(tactic| walk_at "nx") => `(tactic| repeat (with_reducible first | refine Sh.gn_mk ?_ | refine Sh.nx_mk ?_ | refine Sh.st_nx ?_ | refine Sh.rt_mk ?_ | refine Sh.ct_mk ?_ | refine Sh.bk_mk ?_))
local macro_rules | `(tactic| walk_at "sq") => `(tactic| first | exact SqL.of upd_same | exact SqT.of upd_same | exact SqL.of (by assumption) | exact SqT.of (by assumption) | assumption | exact Or.inl (SqL.of (by assumption)) | exact Or.inr (SqT.of (by assumption)) | exact Or.inl (by assumption) | exact Or.inr (by assumption))
local macro_rules | `(tactic| walk_at "hp") => `(tactic| first | exact upd_same | assumption)
local macro_rules | `(tactic| walk_at "sz") => `(tactic| first | exact Nat.le_of_ble_eq_true rfl | omega)
local macro_rules | `(tactic| walk_at "sd") => `(tactic| first | omega | exact rfl | assumption | (show (0 : Int) < _; omega) | exact And.intro (by omega) (by omega) | exact Or.inl (And.intro (by omega) (by omega)) | exact Or.inr (And.intro (by omega) (by omega)) | omega | exact Sh.sz_S (by omega) | decide)
local macro_rules | `(tactic| walk_at "rd1") => `(tactic| first
  | (with_reducible first | refine Sh.gn_mk ?_ | refine Sh.nx_mk ?_ | refine Sh.st_nx ?_ | refine Sh.rt_mk ?_ | refine Sh.ct_mk ?_ | refine Sh.bk_mk ?_)
  | refine Exists.intro (α := V) _ (And.intro rfl ?_)
  | refine Exists.intro (α := Bool) _ (And.intro rfl ?_)
  | refine Exists.intro (α := Int) _ (And.intro rfl ?_)
  | refine Exists.intro (α := PySem.Str) _ (And.intro rfl ?_)
  | refine Exists.intro (α := Int) _ (Exists.intro (α := Int) _ (And.intro rfl (And.intro rfl ?_)))
  | refine Exists.intro (α := PySem.Str) _ (Exists.intro (α := PySem.Str) _ (And.intro rfl (And.intro rfl ?_)))
  | refine Exists.intro (α := Int) _ (Exists.intro (α := Int) _ (And.intro rfl ?_))
  | refine Or.inl (Exists.intro (α := Int) _ (And.intro rfl ?_))
  | refine Exists.intro _ (Exists.intro _ (Exists.intro _ (Exists.intro _ (And.intro rfl (And.intro rfl (And.intro (by walk_at "sq") (And.intro rfl ?_)))))))
  | refine Exists.intro _ (Exists.intro _ (Exists.intro _ (Exists.intro _ (And.intro rfl (And.intro rfl (And.intro (by walk_at "hp") (And.intro rfl ?_)))))))
  | refine And.intro (by walk_at "sd") ?_
  )
local macro_rules | `(tactic| walk_at "rd") => `(tactic| repeat walk_at "rd1")
local macro_rules | `(tactic| walk_at "lk") => `(tactic| first | exact rfl | (rw [lookup_putF, if_pos rfl]) | (rw [lookup_putF, if_neg (by decide +kernel)]; walk_at "lk"))

section
variable {P : Program} {w : World} {K : PySem.W.Frag} {mg : Str → Option Value} {base : Heap} {C0 XA FA DI XS FS DT SE : Addr}
/-- what is no number -/
def NotInt (K : PySem.W.Frag) (H : Hp) (v : V) : Prop := ∃ n, TyX K H v (.type n) ∧ n ∈ tys ∧ n ≠ "int"
/-- a list or a tuple -/
def SqX (K : PySem.W.Frag) (H : Hp) (q : Addr) (xs : List V) : Prop := SqL K H q xs ∨ SqT K H q xs
theorem SqX.same {H H' : Hp} {q : Addr} {xs : List V} (h : SqX K H q xs) (s : Same H H') : SqX K H' q xs := h.imp (fun h => s.seq h) fun h => (Keep.same s).seq h
theorem SqX.ty {H : Hp} {q : Addr} {xs : List V} (h : SqX K H q xs) : ∃ n, TyX K H (.ref q) (.type n) ∧ n ∈ tys ∧ (n == "tuple" || n == "list") = true := by
  rcases h with h | h
  · exact ⟨"list", ty_lst h, by decide, rfl⟩
  · exact ⟨"tuple", ty_tup h, by decide, rfl⟩
/-- what is no sequence, but of no heap -/
def NoSeq (v : V) : Prop := v = .non ∨ (∃ z, v = .str z) ∨ ∃ i, v = .int i
theorem NoSeq.ty {H : Hp} {v : V} (h : NoSeq v) : ∃ n, TyX K H v (.type n) ∧ n ∈ tys ∧ (n == "tuple" || n == "list") = false := by
  rcases h with rfl | ⟨z, rfl⟩ | ⟨z, rfl⟩
  · exact ⟨"NoneType", .base .non, by decide, rfl⟩
  · exact ⟨"str", .base (.str _), by decide, rfl⟩
  · exact ⟨"int", .base (.int _), by decide, rfl⟩
def NoInt (v : V) : Prop := v = .non ∨ (∃ z, v = .str z) ∨ ∃ b, v = .bl b
theorem NoInt.ty {H : Hp} {v : V} (h : NoInt v) : NotInt K H v := by
  rcases h with rfl | ⟨z, rfl⟩ | ⟨z, rfl⟩
  · exact ⟨"NoneType", .base .non, by decide, by decide⟩
  · exact ⟨"str", .base (.str _), by decide, by decide⟩
  · exact ⟨"bool", .base (.bl _), by decide, by decide⟩
theorem ix_x {H : Hp} {q : Addr} {xs : List V} {i : Int} {v : V} {Q : VK} (h : SqX K H q xs) (e : atI xs i = some v) (k : Q v H) : rIx K (.ref q) (.int i) H Q :=
  h.elim (fun h => .inl ⟨q, xs, i, v, rfl, rfl, h, e, k⟩) fun h => .inr (.inl ⟨q, xs, i, v, rfl, rfl, h, e, k⟩)
def Kd (v : V) : Prop := (∃ i : Int, v = .int i) ∨ NoInt v
/-- is it a state? -/
def intB (m : Int) : V → Bool
  | .int i => decide (0 ≤ i) && decide (i ≤ m - 1)
  | _ => false
theorem intB_no {m : Int} {v : V} (h : NoInt v) : intB m v = false := by
  rcases h with rfl | ⟨z, rfl⟩ | ⟨z, rfl⟩ <;> rfl
def strB (sg s : List Nat) : Bool := decide (s = []) || (decide (s.length = 1) && s.all fun c => decide (c ∈ sg))
theorem lit_e : Str.ofString "" = S [] := by decide +kernel
def spEdge (K : PySem.W.Frag) : Sp := fun vs H Q _ => ∃ (sg : List Nat) (m : Int) (v : V), vs = [.str (S sg), .int m, v] ∧ ((NoSeq v ∧ Q (.bl false) H) ∨ ∃ q xs, v = .ref q ∧ SqX K H q xs ∧ ((xs.length ≠ 3 ∧ Q (.bl false) H) ∨
  ∃ a b c, xs = [a, b, c] ∧ Kd a ∧ Kd c ∧ ((∃ s : List Nat, b = .str (S s) ∧ s.length ≤ 1000 ∧ Q (.bl (intB m a && intB m c && strB sg s)) H) ∨ (∃ i : Int, b = .int i ∧ Q (.bl false) H))))
theorem c_is_edge (T : Txt K mg) : Cal P w K mg base CX0 2 "is_edge" (spEdge K) := by
  have c_is_listed := c_is_listed (P := P) (w := w) (base := base) T
  have c_is_integer := c_is_integer (P := P) (w := w) (base := base) T
  refine Cal.mk0 T.d_is_edge sc_is_edge (fun vs H Q E h => ?_) (fun f cdv A outer s H vs Q E hr h => ?_)
  · obtain ⟨sg, m, v, rfl, _⟩ := h
    rfl
  · obtain ⟨sg, m, v, rfl, h⟩ := h
    refine ⟨_, (pss_cons (ps_if (PW.pt (pw_or (pt_not (pt_val (pe_c c_is_listed hr (by decide) rfl (pa_cons (pv 2) pa_nil)))) (pw_or1 (pt_cmpR op_ne (pe_callB call_len_seq (by rfl) T.b_len (by decide +kernel) (pa_cons (pv 2) pa_nil)) pe_int (nomark _)))))
    (pss_one (ps_ret pe_bl))
    pss_nil)
  (pss_cons (ps_if (PW.pt (pw_or (pt_not (pt_val (pe_c c_is_integer hr (by decide) rfl (pa_cons (pe_ix ix_seq (pv 2) pe_int (fun _ _ => rfl)) (pa_cons pe_int (pa_cons (pe_op op_sub (pv 1) pe_int) pa_nil)))))) (pw_or1 (pt_not (pt_val (pe_c c_is_integer hr (by decide) rfl (pa_cons (pe_ix ix_seq (pv 2) pe_int (fun _ _ => rfl)) (pa_cons pe_int (pa_cons (pe_op op_sub (pv 1) pe_int) pa_nil)))))))))
    (pss_one (ps_ret pe_bl))
    pss_nil)
  (pss_one (ps_ret (pe_and (pe_callB call_isi (by rfl) T.b_isinstance (by decide +kernel) (pa_cons (pe_ix ix_seq (pv 2) pe_int (fun _ _ => rfl)) (pa_cons (pe_bltn (v := .ty "str") (by rfl) T.b_str (by decide +kernel) rfl) pa_nil))) (pe_one (pe_or (pe_cmpR op_eq (pe_ix ix_seq (pv 2) pe_int (fun _ _ => rfl)) pe_str (nomark _)) (pe_one (pe_and (pe_cmpR op_eq (pe_callB call_len_str (by rfl) T.b_len (by decide +kernel) (pa_cons (pe_ix ix_seq (pv 2) pe_int (fun _ _ => rfl)) pa_nil)) pe_int (nomark _)) (pe_one (pe_cmpR op_in_sign (pe_ix ix_seq (pv 2) pe_int (fun _ _ => rfl)) (pv 0) (by rfl)))))))))))), ?_⟩
    walk_at "rd"
    rcases h with ⟨hv, k⟩ | ⟨q, xs, rfl, hq, h⟩
    · obtain ⟨n, ty, hn, e⟩ := hv.ty (K := K) (H := H)
      refine ⟨v, n, rfl, ty, hn, ?_⟩
      rw [e]
      walk_at "rd"
      exact k
    obtain ⟨n, ty, hn, e⟩ := hq.ty
    refine ⟨_, n, rfl, ty, hn, ?_⟩
    rw [e]
    walk_at "rd"
    refine ⟨q, xs, rfl, hq, ?_⟩
    walk_at "rd"
    by_cases h3 : xs.length = 3
    · rcases h with ⟨h, _⟩ | ⟨a, b, c, rfl, ha, hc, h⟩
      · exact absurd h3 h
      refine iteF ?_
      walk_at "rd"
      refine ix_x hq (atI_at (Int.le_refl 0) rfl) ?_
      walk_at "rd"
      have hr' : (∃ r, r = (intB m a && intB m c)) := ⟨_, rfl⟩
      by_cases ga : intB m a = true
      · obtain ⟨i, rfl⟩ : ∃ i : Int, a = .int i := by
          rcases ha with h | h
          · exact h
          · rw [intB_no h] at ga
            cases ga
        refine .inl ⟨i, 0, _, rfl, ?_⟩
        have ga' : (decide ((0 : Int) ≤ i) && decide (i ≤ m - 1)) = true := ga
        rw [ga']
        walk_at "rd"
        refine ix_x hq (atI_at (show (0 : Int) ≤ 2 by decide) rfl) ?_
        walk_at "rd"
        by_cases gc : intB m c = true
        · obtain ⟨j, rfl⟩ : ∃ i : Int, c = .int i := by
            rcases hc with h | h
            · exact h
            · rw [intB_no h] at gc
              cases gc
          refine .inl ⟨j, 0, _, rfl, ?_⟩
          have gc' : (decide ((0 : Int) ≤ j) && decide (j ≤ m - 1)) = true := gc
          rw [gc']
          rw [ga, gc] at h
          walk_at "rd"
          refine ix_x hq (atI_at (show (0 : Int) ≤ 1 by decide) rfl) ?_
          rcases h with ⟨s', rfl, hs, k⟩ | ⟨i', rfl, k⟩
          · refine ⟨_, _, _, _, _, rfl, .ty _, .base (.str _), kit_ty (r := true) (by decide +kernel), _, rfl, ?_⟩
            walk_at "rd"
            refine ix_x hq (atI_at (show (0 : Int) ≤ 1 by decide) rfl) ?_
            refine ⟨rfl, _, rfl, ?_⟩
            rw [lit_e]
            match s', hs, k with
            | [], hs, k =>
              rw [decide_eq_true rfl]
              refine iteT ?_
              exact k
            | [c], hs, k =>
              rw [decide_eq_false (fun e => by have := S_inj (V.str.inj e); cases this)]
              refine iteF ?_
              refine ⟨_, rfl, ix_x hq (atI_at (show (0 : Int) ≤ 1 by decide) rfl) ?_⟩
              refine ⟨_, rfl, sz_S (t := [c]) (by simp), rfl, _, rfl, ?_⟩
              refine iteT ?_
              refine ⟨_, rfl, ix_x hq (atI_at (show (0 : Int) ≤ 1 by decide) rfl) ?_⟩
              refine ⟨_, rfl, c, _, rfl, rfl, ?_⟩
              rw [show (true && true && strB sg [c]) = decide (c ∈ sg) by simp [strB]] at k
              exact k
            | c :: c2 :: r, hs, k =>
              rw [decide_eq_false (fun e => by have := S_inj (V.str.inj e); cases this)]
              refine iteF ?_
              refine ⟨_, rfl, ix_x hq (atI_at (show (0 : Int) ≤ 1 by decide) rfl) ?_⟩
              refine ⟨_, rfl, sz_S (t := c :: c2 :: r) (by omega), rfl, _, rfl, ?_⟩
              have hn : decide (V.int ((S (c :: c2 :: r)).length : Nat) = V.int 1) = false := decide_eq_false (fun e => by
                have := V.int.inj e
                rw [S_len] at this
                simp at this
                omega)
              rw [hn]
              refine iteF ?_
              rw [show (true && true && strB sg (c :: c2 :: r)) = false by simp [strB]] at k
              exact k
          · refine ⟨_, _, _, _, _, rfl, .ty _, .base (.int _), kit_ty (r := false) (by decide +kernel), _, rfl, ?_⟩
            walk_at "rd"
            exact k
        · rw [Bool.not_eq_true] at gc
          have kf : Q (.bl false) H := by
            rcases h with ⟨s', rfl, hs, k⟩ | ⟨i', rfl, k⟩
            · rw [gc, Bool.and_false, Bool.false_and] at k
              exact k
            · exact k
          rcases hc with ⟨j, rfl⟩ | hc
          · refine .inl ⟨j, 0, _, rfl, ?_⟩
            rw [show (decide ((0 : Int) ≤ j) && decide (j ≤ m - 1)) = false from gc]
            walk_at "rd"
            exact kf
          · obtain ⟨n', t1, t2, t3⟩ := hc.ty (K := K) (H := H)
            refine .inr ⟨_, _, _, n', rfl, t1, t2, t3, ?_⟩
            walk_at "rd"
            exact kf
      · rw [Bool.not_eq_true] at ga
        have kf : Q (.bl false) H := by
          rcases h with ⟨s', rfl, hs, k⟩ | ⟨i', rfl, k⟩
          · rw [ga, Bool.false_and, Bool.false_and] at k
            exact k
          · exact k
        rcases ha with ⟨j, rfl⟩ | ha
        · refine .inl ⟨j, 0, _, rfl, ?_⟩
          rw [show (decide ((0 : Int) ≤ j) && decide (j ≤ m - 1)) = false from ga]
          walk_at "rd"
          exact kf
        · obtain ⟨n', t1, t2, t3⟩ := ha.ty (K := K) (H := H)
          refine .inr ⟨_, _, _, n', rfl, t1, t2, t3, ?_⟩
          walk_at "rd"
          exact kf
    · rw [decide_eq_false (fun e => h3 (by have := V.int.inj e; omega))]
      rcases h with ⟨_, k⟩ | ⟨a, b, c, rfl, _⟩
      · refine iteT ?_
        walk_at "rd"
        exact k
      · exact absurd rfl h3
end
end Sh
set_option Elab.async false
set_option linter.all false
set_option maxRecDepth 100000
set_option maxHeartbeats 4000000
namespace Sh
open PySem PySem.Spec PyProof.Rows L2
open SX (S S_inj S_len S_cat)
local macro_rules | `(tactic| walk_at "nx") => `(tactic| repeat (with_reducible first | refine Sh.gn_mk ?_ | refine Sh.nx_mk ?_ | refine Sh.st_nx ?_ | refine Sh.rt_mk ?_ | refine Sh.ct_mk ?_ | refine Sh.bk_mk ?_))
local macro_rules | `(tactic| walk_at "sq") => `(tactic| first | exact SqL.of upd_same | exact SqT.of upd_same | exact SqL.of (by assumption) | exact SqT.of (by assumption) | assumption | exact Or.inl (SqL.of (by assumption)) | exact Or.inr (SqT.of (by assumption)) | exact Or.inl (by assumption) | exact Or.inr (by assumption))
local macro_rules | `(tactic| walk_at "hp") => `(tactic| first | exact upd_same | assumption)
local macro_rules | `(tactic| walk_at "sz") => `(tactic| first | exact Nat.le_of_ble_eq_true rfl | omega)
local macro_rules | `(tactic| walk_at "sd") => `(tactic| first | omega | exact rfl | assumption | (show (0 : Int) < _; omega) | exact And.intro (by omega) (by omega) | exact Or.inl (And.intro (by omega) (by omega)) | exact Or.inr (And.intro (by omega) (by omega)) | omega | exact Sh.sz_S (by omega) | decide)
local macro_rules | `(tactic| walk_at "rd1") => `(tactic| first
  | (with_reducible first | refine Sh.gn_mk ?_ | refine Sh.nx_mk ?_ | refine Sh.st_nx ?_ | refine Sh.rt_mk ?_ | refine Sh.ct_mk ?_ | refine Sh.bk_mk ?_)
  | refine Exists.intro (α := V) _ (And.intro rfl ?_)
  | refine Exists.intro (α := Bool) _ (And.intro rfl ?_)
  | refine Exists.intro (α := Int) _ (And.intro rfl ?_)
  | refine Exists.intro (α := PySem.Str) _ (And.intro rfl ?_)
  | refine Exists.intro (α := Int) _ (Exists.intro (α := Int) _ (And.intro rfl (And.intro rfl ?_)))
  | refine Exists.intro (α := PySem.Str) _ (Exists.intro (α := PySem.Str) _ (And.intro rfl (And.intro rfl ?_)))
  | refine Exists.intro (α := Int) _ (Exists.intro (α := Int) _ (And.intro rfl ?_))
  | refine Or.inl (Exists.intro (α := Int) _ (And.intro rfl ?_))
  | refine Exists.intro _ (Exists.intro _ (Exists.intro _ (Exists.intro _ (And.intro rfl (And.intro rfl (And.intro (by walk_at "sq") (And.intro rfl ?_)))))))
  | refine Exists.intro _ (Exists.intro _ (Exists.intro _ (Exists.intro _ (And.intro rfl (And.intro rfl (And.intro (by walk_at "hp") (And.intro rfl ?_)))))))
  | refine And.intro (by walk_at "sd") ?_
  )
local macro_rules | `(tactic| walk_at "rd") => `(tactic| repeat walk_at "rd1")
local macro_rules | `(tactic| walk_at "lk") => `(tactic| first | exact rfl | (rw [lookup_putF, if_pos rfl]) | (rw [lookup_putF, if_neg (by decide +kernel)]; walk_at "lk"))

/-- a comprehension over a list whose items are told by l -/
theorem lc_lstR {α : Type} {Rel : Hp → V → α → Prop} {l : List α} {xs : List V} {K : PySem.W.Frag} {a : Addr} {g : TG} {tt : TT} {te : TE} {vs : List Nat} {σ : L2.St} {H1 : Hp} {D : Addr} {Qd : Hp → Prop} (hlen : xs.length = l.length)
    (Pv : List α → Hp → Prop) (h0 : Pv [] (upd H1 D (.lst []))) (hG : ∀ pre H, Pv pre H → SqL K H a xs ∧ ∀ (i : Nat) x y, xs[i]? = some x → l[i]? = some y → Rel H x y)
    (hs : ∀ pre y post x H, l = pre ++ y :: post → xs[pre.length]? = some x → Rel H x y → Pv pre H → g x (wipe σ vs) H fun σ2 H2 => wipe σ2 vs = wipe σ vs ∧ tt σ2 H2 fun b H3 =>
      if b = true then te σ2 H3 fun y' H4 => ∃ acc, H4 D = some (.lst acc) ∧ acc.length < sizeLine ∧ Pv (pre ++ [y]) (upd H4 D (.lst (acc ++ [y']))) else Pv (pre ++ [y]) H3) (hd : ∀ H, Pv l H → Qd H) :
    ∃ W : Nat → Nat → Hp → Prop, (∃ m, W 0 m (upd H1 D (.lst []))) ∧ ∀ i m H, W i m H →
      ((Itl K a).stop i H ∧ Qd H) ∨ ((Itl K a).go i H ∧ ∃ Nx : Hp → Prop, (∀ H', Nx H' → ∃ m', m' < m ∧ W (i + 1) m' H') ∧ ∀ x H', (Itl K a).yld i H x H' → g x (wipe σ vs) H' fun σ2 H2 => wipe σ2 vs = wipe σ vs ∧ tt σ2 H2 fun b H3 =>
        if b = true then te σ2 H3 fun y H4 => ∃ acc, H4 D = some (.lst acc) ∧ acc.length < sizeLine ∧ Nx (upd H4 D (.lst (acc ++ [y]))) else Nx H3) := by
  have w := walk_list (K := K) (a := a) (xs := xs)
  refine lc_it w (fun i H => Pv (l.take i) H) (by simpa using h0) (fun i H _ p => (hG _ H p).1) (fun i x H H' hi p y => ?_) (fun H p => hd H (by simpa [hlen] using p))
  obtain ⟨rfl, hx⟩ := y
  have hi' : i < l.length := hlen ▸ hi
  have hl : l[i]? = some l[i] := by simp [hi']
  obtain ⟨e1, e2⟩ := take_succ_of hl
  have q := hs _ l[i] _ x H' e2 (by rw [List.length_take, Nat.min_eq_left (Nat.le_of_lt hi')]; exact hx) ((hG _ H' p).2 i x l[i] hx hl) p
  rw [← e1] at q
  exact q
section
variable {P : Program} {w : World} {K : PySem.W.Frag} {mg : Str → Option Value} {base : Heap} {C0 XA FA DI XS FS DT SE : Addr}
/-- tuple(..) of a list or a tuple, by a name -/
def rTupOf (K : PySem.W.Frag) : List V → Hp → VK → Prop := fun xs H Q => ∃ p ys, xs = [.ref p] ∧ ((SqL K H p ys ∧ ∀ l, H l = none → Q (.ref l) (upd H l (.tup ys))) ∨ (SqT K H p ys ∧ Q (.ref p) H))
theorem call_tuple_ofD {X : Cx} : CallR X (.type "tuple") (rTupOf X.K) := call_tuple_of
theorem tup_J {H : Hp} {p : Addr} {xs : List V} {Q : VK} (h : SqX K H p xs) (k : ∀ q H', Same H H' → SqT K H' q xs → Q (.ref q) H') : rTupOf K [.ref p] H Q :=
  h.elim (fun h => ⟨p, xs, rfl, .inl ⟨h, fun l hl => k l _ (same_new hl) (SqT.of upd_same)⟩⟩) fun h => ⟨p, xs, rfl, .inr ⟨h, k p H (Same.refl _) h⟩⟩
theorem tNil_mk {σ : L2.St} {H : Hp} {Q : List V → Hp → Prop} (h : Q [] H) : tNil σ H Q := h
theorem tC_mk {v : V} {σ : L2.St} {H : Hp} {Q : VK} (h : Q v H) : tC v σ H Q := h
/-- a list or a tuple taken apart -/
def gSeq (K : PySem.W.Frag) (n : Nat) (t : TGs) : TG := fun v σ H Q => ∃ a xs, v = .ref a ∧ SqX K H a xs ∧ xs.length = n ∧ t xs σ H Q
theorem pg_seq {X : Cx} {pos : Pos} {es : List Expr} {k : Nat} {t : TGs} {n : Nat} (hc : X.calm = true) (h : PGs X es t)
    (hn : (assignEach es X.env).length = n := by rfl) (hst : (assignEach es X.env).findIdx? (·.1) = none := by rfl) : PG X (.Tuple es k pos) (gSeq X.K n t) :=
  ⟨fun pins s σ H v u Q I r ⟨a, xs, e, hq, hl, q⟩ => hq.elim (fun hq => (pg_unl hc h hn hst).run pins s σ H v u Q I r ⟨a, xs, e, hq, hl, q⟩) fun hq => (pg_tup hc h hn hst).run pins s σ H v u Q I r ⟨a, xs, e, hq, hl, q⟩⟩
/-- lists or tuples of numbers and texts, n deep, and the data of their tuples -/
def DpN (K : PySem.W.Frag) (H : Hp) : Nat → V → PyData → Prop
  | 0, v, d => (∃ i : Int, v = .int i ∧ d = .int i) ∨ ∃ s : Str, v = .str s ∧ d = .str s
  | n + 1, v, d => ((∃ i : Int, v = .int i ∧ d = .int i) ∨ ∃ s : Str, v = .str s ∧ d = .str s) ∨ ∃ (q : Addr) (xs : List V) (ds : List PyData), v = .ref q ∧ d = .tuple ds ∧ SqX K H q xs ∧ ds.length ≤ 1000 ∧ xs.length = ds.length ∧ ∀ (i : Nat) x y, xs[i]? = some x → ds[i]? = some y → DpN K H n x y
theorem DpN.same {H H' : Hp} (s : Same H H') : ∀ {n : Nat} {v : V} {d : PyData}, DpN K H n v d → DpN K H' n v d
  | 0, _, _, h => h
  | _ + 1, _, _, .inl h => .inl h
  | n + 1, _, _, .inr ⟨q, xs, ds, e1, e2, hq, hz, hl, h⟩ => .inr ⟨q, xs, ds, e1, e2, hq.same s, hz, hl, fun i x y a b => (h i x y a b).same s⟩
theorem tpAll_of {H : Hp} : ∀ {xs : List V} {ds : List PyData}, Items (fun H v d => Tp K H v d) H xs ds → TpAll K H xs ds
  | [], [], _ => .nil
  | [], _ :: _, h => by have := h.1; simp at this
  | _ :: _, [], h => by have := h.1; simp at this
  | x :: xs, y :: l, h => .cons (h.2 0 x y rfl rfl) (tpAll_of (xs := xs) (ds := l) ⟨by have := h.1; simpa using this, fun i a b h1 h2 => h.2 (i + 1) a b (by simpa using h1) (by simpa using h2)⟩)
def spDeep (K : PySem.W.Frag) (n : Nat) : Sp := fun vs H Q _ => ∃ (v : V) (d : PyData), vs = [v] ∧ DpN K H n v d ∧ ∀ v' H', Same H H' → Tp K H' v' d → Q v' H'
theorem c_deep0 (T : Txt K mg) : Cal P w K mg base CX0 1 "deep" (fun _ _ _ _ => False) := Cal.mk0 T.d_deep sc_deep (fun vs H Q E h => h.elim) (fun f cdv A outer s H vs Q E hr h => h.elim)
theorem leaf_ty {H : Hp} {v : V} {d : PyData} (h : (∃ i : Int, v = .int i ∧ d = .int i) ∨ ∃ s : Str, v = .str s ∧ d = .str s) : NoSeq v ∧ Tp K H v d := by
  rcases h with ⟨i, rfl, rfl⟩ | ⟨s, rfl, rfl⟩
  · exact ⟨.inr (.inr ⟨i, rfl⟩), .int i⟩
  · exact ⟨.inr (.inl ⟨s, rfl⟩), .str s⟩
theorem c_deepN (T : Txt K mg) : ∀ n, Cal P w K mg base CX0 (n + 2) "deep" (spDeep K n) := by
  have c_is_listed := c_is_listed (P := P) (w := w) (base := base) T
  intro n
  induction n with
  | zero =>
    have c_deep := c_deep0 (P := P) (w := w) (base := base) T
    refine Cal.mk0 T.d_deep sc_deep (fun vs H Q E h => ?_) (fun f cdv A outer s H vs Q E hr h => ?_)
    · obtain ⟨v, d, rfl, _⟩ := h
      rfl
    · obtain ⟨v, d, rfl, hd, k⟩ := h
      obtain ⟨hv, tp⟩ := leaf_ty (K := K) (H := H) hd
      obtain ⟨n, ty, hn, e⟩ := hv.ty (K := K) (H := H)
      refine ⟨_, (pss_cons (ps_if (pt_val (pe_c c_is_listed hr (by omega) rfl (pa_cons (pv 0) pa_nil)))
    (pss_one (ps_ret (pe_callTy call_tuple_of (by rfl) T.b_tuple (by decide +kernel) (pa_cons (pe_lc (own := [("part", 1)]) (g := gName 1) (tt := tYes) rfl sc_deep.nd (pi_tup (pv 0)) (blkOk_by (N := ["thing", "part"]) (sc := defScope s_deep) (by decide +kernel)) (fun _ _ _ _ _ => (pg_name (i := 1) sc_deep.nd rfl (Or.inl rfl))) (fun _ _ _ _ _ => pts_nil) (fun _ _ _ _ _ => (pe_c c_deep hr (by omega) rfl (pa_cons (pv 1) pa_nil)))) pa_nil))))
    pss_nil)
  (pss_one (ps_ret (pv 0)))), ?_⟩
      walk_at "rd"
      refine ⟨v, n, rfl, ty, hn, ?_⟩
      rw [e]
      walk_at "rd"
      exact k _ _ (Same.refl _) tp
  | succ m ih =>
    have c_deep := ih
    refine Cal.mk0 T.d_deep sc_deep (fun vs H Q E h => ?_) (fun f cdv A outer s H vs Q E hr h => ?_)
    · obtain ⟨v, d, rfl, _⟩ := h
      rfl
    · obtain ⟨v, d, rfl, hd, k⟩ := h
      rcases hd with hd | ⟨a, xs, ds, rfl, rfl, hq, hds, hl, hi⟩
      · obtain ⟨hv, tp⟩ := leaf_ty (K := K) (H := H) hd
        obtain ⟨n, ty, hn, e⟩ := hv.ty (K := K) (H := H)
        refine ⟨_, (pss_cons (ps_if (pt_val (pe_c c_is_listed hr (by omega) rfl (pa_cons (pv 0) pa_nil)))
    (pss_one (ps_ret (pe_callTy call_tuple_of (by rfl) T.b_tuple (by decide +kernel) (pa_cons (pe_lc (own := [("part", 1)]) (g := gName 1) (tt := tYes) rfl sc_deep.nd (pi_tup (pv 0)) (blkOk_by (N := ["thing", "part"]) (sc := defScope s_deep) (by decide +kernel)) (fun _ _ _ _ _ => (pg_name (i := 1) sc_deep.nd rfl (Or.inl rfl))) (fun _ _ _ _ _ => pts_nil) (fun _ _ _ _ _ => (pe_c c_deep hr (by omega) rfl (pa_cons (pv 1) pa_nil)))) pa_nil))))
    pss_nil)
  (pss_one (ps_ret (pv 0)))), ?_⟩
        walk_at "rd"
        refine ⟨v, n, rfl, ty, hn, ?_⟩
        rw [e]
        walk_at "rd"
        exact k _ _ (Same.refl _) tp
      · obtain ⟨n, ty, hn, e⟩ := hq.ty
        rcases hq with hS | hS
        · refine ⟨_, (pss_cons (ps_if (pt_val (pe_c c_is_listed hr (by omega) rfl (pa_cons (pv 0) pa_nil)))
    (pss_one (ps_ret (pe_callTy call_tuple_of (by rfl) T.b_tuple (by decide +kernel) (pa_cons (pe_lc (own := [("part", 1)]) (g := gName 1) (tt := tYes) rfl sc_deep.nd (pi_list (pv 0)) (blkOk_by (N := ["thing", "part"]) (sc := defScope s_deep) (by decide +kernel)) (fun _ _ _ _ _ => (pg_name (i := 1) sc_deep.nd rfl (Or.inl rfl))) (fun _ _ _ _ _ => pts_nil) (fun _ _ _ _ _ => (pe_c c_deep hr (by omega) rfl (pa_cons (pv 1) pa_nil)))) pa_nil))))
    pss_nil)
  (pss_one (ps_ret (pv 0)))), ?_⟩
          walk_at "rd"
          refine ⟨_, n, rfl, ty, hn, ?_⟩
          rw [e]
          walk_at "rd"
          refine ⟨a, rfl, ⟨_, hS⟩, fun D9 hD => lc_lstR (K := K) (a := a) (xs := xs) (l := ds) (Rel := fun H v d => DpN K H m v d) hl
            (fun pre H3 => ∃ acc, H3 D9 = some (.lst acc) ∧ Items (fun H v d => Tp K H v d) H3 acc pre ∧ Same H H3) ⟨[], upd_same, Items.nil, same_new hD⟩
            (fun pre H3 ⟨_, _, _, s3⟩ => ⟨(fun {H1 H2 : Hp} (s : Same H1 H2) (h : SqL K H1 a xs) => s.seq h) (s3) hS, fun i x y h1 h2 => (hi i x y h1 h2).same s3⟩) ?_ ?_⟩
          · rintro pre y post x H3 e3 hx hxy ⟨acc, h3, ita, s3⟩
            refine ⟨rfl, ty_T ?_⟩
            refine ⟨_, rfl, x, y, rfl, hxy, fun v' H4 s4 tp => ?_⟩
            have hk : Keep H4 (upd H4 D9 (.lst (acc ++ [v']))) := Keep.butL but_upd (s4 _ _ h3)
            refine ⟨acc, s4 _ _ h3, ?_, acc ++ [v'], upd_same, ita.snoc (fun a b h => h.keep ((Keep.same s4).trans hk)) (tp.keep hk), same_mut (s3.trans s4) hD⟩
            have z1 := ita.1
            have z2 := congrArg List.length e3
            rw [List.length_append, List.length_cons] at z2
            exact Nat.lt_of_le_of_lt (m := 1000) (by omega) (by decide)
          · rintro H3 ⟨acc, h3, ita, s3⟩
            refine ⟨D9, _, rfl, .inl ⟨SqL.of h3, fun l hl => ?_⟩⟩
            exact k _ _ (s3.trans (same_new hl)) (.tup (SqT.of upd_same) (tpAll_of (ita.mono fun a b h => h.keep (Keep.same (same_new hl)))))
        · refine ⟨_, (pss_cons (ps_if (pt_val (pe_c c_is_listed hr (by omega) rfl (pa_cons (pv 0) pa_nil)))
    (pss_one (ps_ret (pe_callTy call_tuple_of (by rfl) T.b_tuple (by decide +kernel) (pa_cons (pe_lc (own := [("part", 1)]) (g := gName 1) (tt := tYes) rfl sc_deep.nd (pi_tup (pv 0)) (blkOk_by (N := ["thing", "part"]) (sc := defScope s_deep) (by decide +kernel)) (fun _ _ _ _ _ => (pg_name (i := 1) sc_deep.nd rfl (Or.inl rfl))) (fun _ _ _ _ _ => pts_nil) (fun _ _ _ _ _ => (pe_c c_deep hr (by omega) rfl (pa_cons (pv 1) pa_nil)))) pa_nil))))
    pss_nil)
  (pss_one (ps_ret (pv 0)))), ?_⟩
          walk_at "rd"
          refine ⟨_, n, rfl, ty, hn, ?_⟩
          rw [e]
          walk_at "rd"
          refine ⟨a, rfl, ⟨_, hS⟩, fun D9 hD => lc_tupR (K := K) (a := a) (xs := xs) (l := ds) (Rel := fun H v d => DpN K H m v d) hl
            (fun pre H3 => ∃ acc, H3 D9 = some (.lst acc) ∧ Items (fun H v d => Tp K H v d) H3 acc pre ∧ Same H H3) ⟨[], upd_same, Items.nil, same_new hD⟩
            (fun pre H3 ⟨_, _, _, s3⟩ => ⟨(fun {H1 H2 : Hp} (s : Same H1 H2) (h : SqT K H1 a xs) => (Keep.same s).seq h) (s3) hS, fun i x y h1 h2 => (hi i x y h1 h2).same s3⟩) ?_ ?_⟩
          · rintro pre y post x H3 e3 hx hxy ⟨acc, h3, ita, s3⟩
            refine ⟨rfl, ty_T ?_⟩
            refine ⟨_, rfl, x, y, rfl, hxy, fun v' H4 s4 tp => ?_⟩
            have hk : Keep H4 (upd H4 D9 (.lst (acc ++ [v']))) := Keep.butL but_upd (s4 _ _ h3)
            refine ⟨acc, s4 _ _ h3, ?_, acc ++ [v'], upd_same, ita.snoc (fun a b h => h.keep ((Keep.same s4).trans hk)) (tp.keep hk), same_mut (s3.trans s4) hD⟩
            have z1 := ita.1
            have z2 := congrArg List.length e3
            rw [List.length_append, List.length_cons] at z2
            exact Nat.lt_of_le_of_lt (m := 1000) (by omega) (by decide)
          · rintro H3 ⟨acc, h3, ita, s3⟩
            refine ⟨D9, _, rfl, .inl ⟨SqL.of h3, fun l hl => ?_⟩⟩
            exact k _ _ (s3.trans (same_new hl)) (.tup (SqT.of upd_same) (tpAll_of (ita.mono fun a b h => h.keep (Keep.same (same_new hl)))))
theorem c_deep (T : Txt K mg) : Cal P w K mg base CX0 5 "deep" (spDeep K 3) := c_deepN T 3
end
end Sh
set_option Elab.async false
set_option linter.all false
set_option maxRecDepth 100000
set_option maxHeartbeats 4000000
namespace Sh
open PySem PySem.Spec PyProof.Rows L2
open SX (S S_inj S_len S_cat)
local macro_rules | `(tactic| walk_at "nx") => `(tactic| repeat (with_reducible first | refine Sh.gn_mk ?_ | refine Sh.nx_mk ?_ | refine Sh.st_nx ?_ | refine Sh.rt_mk ?_ | refine Sh.ct_mk ?_ | refine Sh.bk_mk ?_))
local macro_rules | `(tactic| walk_at "sq") => `(tactic| first | exact SqL.of upd_same | exact SqT.of upd_same | exact SqL.of (by assumption) | exact SqT.of (by assumption) | assumption | exact Or.inl (SqL.of (by assumption)) | exact Or.inr (SqT.of (by assumption)) | exact Or.inl (by assumption) | exact Or.inr (by assumption))
local macro_rules | `(tactic| walk_at "hp") => `(tactic| first | exact upd_same | assumption)
local macro_rules | `(tactic| walk_at "sz") => `(tactic| first | exact Nat.le_of_ble_eq_true rfl | omega)
local macro_rules | `(tactic| walk_at "sd") => `(tactic| first | omega | exact rfl | assumption | (show (0 : Int) < _; omega) | exact And.intro (by omega) (by omega) | exact Or.inl (And.intro (by omega) (by omega)) | exact Or.inr (And.intro (by omega) (by omega)) | omega | exact Sh.sz_S (by omega) | decide)
local macro_rules | `(tactic| walk_at "rd1") => `(tactic| first
  | (with_reducible first | refine Sh.gn_mk ?_ | refine Sh.nx_mk ?_ | refine Sh.st_nx ?_ | refine Sh.rt_mk ?_ | refine Sh.ct_mk ?_ | refine Sh.bk_mk ?_)
  | refine Exists.intro (α := V) _ (And.intro rfl ?_)
  | refine Exists.intro (α := Bool) _ (And.intro rfl ?_)
  | refine Exists.intro (α := Int) _ (And.intro rfl ?_)
  | refine Exists.intro (α := PySem.Str) _ (And.intro rfl ?_)
  | refine Exists.intro (α := Int) _ (Exists.intro (α := Int) _ (And.intro rfl (And.intro rfl ?_)))
  | refine Exists.intro (α := PySem.Str) _ (Exists.intro (α := PySem.Str) _ (And.intro rfl (And.intro rfl ?_)))
  | refine Exists.intro (α := Int) _ (Exists.intro (α := Int) _ (And.intro rfl ?_))
  | refine Or.inl (Exists.intro (α := Int) _ (And.intro rfl ?_))
  | refine Exists.intro _ (Exists.intro _ (Exists.intro _ (Exists.intro _ (And.intro rfl (And.intro rfl (And.intro (by walk_at "sq") (And.intro rfl ?_)))))))
  | refine Exists.intro _ (Exists.intro _ (Exists.intro _ (Exists.intro _ (And.intro rfl (And.intro rfl (And.intro (by walk_at "hp") (And.intro rfl ?_)))))))
  | refine And.intro (by walk_at "sd") ?_
  )
local macro_rules | `(tactic| walk_at "rd") => `(tactic| repeat walk_at "rd1")
local macro_rules | `(tactic| walk_at "lk") => `(tactic| first | exact rfl | (rw [lookup_putF, if_pos rfl]) | (rw [lookup_putF, if_neg (by decide +kernel)]; walk_at "lk"))

section
variable {P : Program} {w : World} {K : PySem.W.Frag} {mg : Str → Option Value} {base : Heap} {C0 XA FA DI XS FS DT SE : Addr}
abbrev Eg := Nat × List Nat × Nat
def eTup (e : Eg) : List V := [.int (e.1 : Nat), .str (S e.2.1), .int (e.2.2 : Nat)]
def eD (e : Eg) : PyData := .tuple [.int (e.1 : Nat), .str (S e.2.1), .int (e.2.2 : Nat)]
def EdX (K : PySem.W.Frag) (H : Hp) (v : V) (e : Eg) : Prop := ∃ q, v = .ref q ∧ SqX K H q (eTup e)
theorem EdX.same {H H' : Hp} {v : V} {e : Eg} (h : EdX K H v e) (s : Same H H') : EdX K H' v e := let ⟨q, e1, h⟩ := h; ⟨q, e1, h.same s⟩
def goodE (sg : List Nat) (m : Nat) (e : Eg) : Prop := e.1 < m ∧ e.2.2 < m ∧ strB sg e.2.1 = true ∧ e.2.1.length ≤ 1000
def eLt (a b : Eg) : Bool := tupLt (eTup a) (eTup b)
theorem eKs (a b : Eg) : sameKs (eTup a) (eTup b) = true := rfl
structure EsOk (sg : List Nat) (m : Nat) (es : List Eg) : Prop where
  good : ∀ e ∈ es, goodE sg m e
  asc : ∀ (i : Nat) a b, es[i]? = some a → es[i + 1]? = some b → eLt a b = true
structure DsOk (m : Nat) (ds : List Nat) : Prop where
  good : ∀ d ∈ ds, d < m
  asc : ∀ (i : Nat) a b, ds[i]? = some a → ds[i + 1]? = some b → a < b
/-- no edge at all -/
def OddEdge (K : PySem.W.Frag) (sg : List Nat) (m : Int) (H : Hp) (v : V) : Prop := NoSeq v ∨ ∃ q xs, v = .ref q ∧ SqX K H q xs ∧ (xs.length ≠ 3 ∨
  ∃ a b c, xs = [a, b, c] ∧ Kd a ∧ Kd c ∧ ((∃ s : List Nat, b = .str (S s) ∧ s.length ≤ 1000 ∧ (intB m a && intB m c && strB sg s) = false) ∨ ∃ i : Int, b = .int i))
theorem OddEdge.same {sg : List Nat} {m : Int} {H H' : Hp} {v : V} (h : OddEdge K sg m H v) (s : Same H H') : OddEdge K sg m H' v :=
  h.imp id fun ⟨q, xs, e, hq, z⟩ => ⟨q, xs, e, hq.same s, z⟩
/-- .. or one that does not come behind the last -/
def OddE (K : PySem.W.Frag) (sg : List Nat) (m : Nat) (es : List Eg) (H : Hp) (v : V) : Prop := OddEdge K sg m H v ∨ ∃ e p, EdX K H v e ∧ goodE sg m e ∧ es[es.length - 1]? = some p ∧ eLt p e = false
def OddD (m : Nat) (ds : List Nat) (v : V) : Prop := NoInt v ∨ ∃ i : Int, v = .int i ∧ (intB m v = false ∨ ∃ p : Nat, ds[ds.length - 1]? = some p ∧ i ≤ p)
def intW : V → Bool
  | .int i => decide (1 ≤ i) && decide (i ≤ 40)
  | _ => false
def Sk (K : PySem.W.Frag) (H : Hp) (v : V) : Prop := NoSeq v ∨ ∃ q xs, v = .ref q ∧ SqX K H q xs
theorem Sk.ty {H : Hp} {v : V} (h : Sk K H v) : ∃ n, TyX K H v (.type n) ∧ n ∈ tys ∧ (NoSeq v → (n == "tuple" || n == "list") = false) := by
  rcases h with h | ⟨q, xs, rfl, h⟩
  · obtain ⟨n, a, b, c⟩ := h.ty (K := K) (H := H)
    exact ⟨n, a, b, fun _ => c⟩
  · obtain ⟨n, a, b, c⟩ := h.ty
    exact ⟨n, a, b, fun h => by rcases h with h | ⟨_, h⟩ | ⟨_, h⟩ <;> cases h⟩
def BadW (K : PySem.W.Frag) (H : Hp) (v : V) : Prop := NoSeq v ∨ ∃ q xs, v = .ref q ∧ SqX K H q xs ∧ (xs.length ≠ 3 ∨ ∃ a b c, xs = [a, b, c] ∧ Kd a ∧ Sk K H b ∧ Sk K H c ∧ (intW a = false ∨ NoSeq b ∨ NoSeq c))
theorem dpn_edge {H : Hp} {v : V} {e : Eg} (h : EdX K H v e) : DpN K H 1 v (eD e) := by
  obtain ⟨q, rfl, hq⟩ := h
  refine .inr ⟨q, _, _, rfl, rfl, hq, by show 3 ≤ 1000; decide, rfl, fun i x y h1 h2 => ?_⟩
  match i, h1, h2 with
  | 0, h1, h2 => cases h1; cases h2; exact .inl ⟨_, rfl, rfl⟩
  | 1, h1, h2 => cases h1; cases h2; exact .inr ⟨_, rfl, rfl⟩
  | 2, h1, h2 => cases h1; cases h2; exact .inl ⟨_, rfl, rfl⟩
  | _ + 3, h1, h2 => cases h1
def autD (m : Nat) (es : List Eg) (ds : List Nat) : PyData := .tuple [.int (m : Nat), .tuple (es.map eD), .tuple (ds.map fun d => .int (d : Nat))]
def spAut (K : PySem.W.Frag) (XA : Addr) : Sp := fun vs H Q E => ∃ (sg : List Nat) (v : V), vs = [.str (S sg), v] ∧ ((BadW K H v ∧ Thrown E H XA "place" (.int (-1))) ∨
  ∃ (q : Addr) (m : Nat) (qe : Addr) (eys : List V) (qd : Addr) (dys : List V), v = .ref q ∧ SqX K H q [.int (m : Nat), .ref qe, .ref qd] ∧ SqX K H qe eys ∧ SqX K H qd dys ∧ 1 ≤ m ∧ m ≤ 40 ∧
   ((400 < eys.length ∧ Thrown E H XA "place" (.int (-1))) ∨ (eys.length ≤ 400 ∧ ∃ es pre rest, EsOk sg m es ∧ eys = pre ++ rest ∧ Items (EdX K) H pre es ∧
     ((∃ v r2, rest = v :: r2 ∧ OddE K sg m es H v ∧ ∀ H', Same H H' → Thrown E H' XA "place" (.int (es.length : Nat))) ∨
      (rest = [] ∧ dys.length ≤ 400 ∧ ∃ (ds : List Nat) (restd : List V), DsOk m ds ∧ dys = (ds.map fun d => V.int (d : Nat)) ++ restd ∧
        ((∃ v r2, restd = v :: r2 ∧ OddD m ds v ∧ ∀ H', Same H H' → Thrown E H' XA "place" (.int ((es.length + ds.length : Nat)))) ∨
         (restd = [] ∧ ∀ v' H', Same H H' → Tp K H' v' (autD m es ds) → Q v' H')))))))
theorem c_X_check_automaton (T : TxtX P K mg C0 XA FA DI XS FS DT SE) : Cal P w K mg base (L2.CX P w) 6 "check_automaton" (spAut K XA) := by
  have x_WrongItem := x_WrongItem (P := P) (w := w) (base := base) T
  have c_deep := c_deep (P := P) (w := w) (base := base) T.toTxtC.toTxt
  have c_is_listed := c_is_listed (P := P) (w := w) (base := base) T.toTxtC.toTxt
  have c_is_integer := c_is_integer (P := P) (w := w) (base := base) T.toTxtC.toTxt
  have c_is_edge := c_is_edge (P := P) (w := w) (base := base) T.toTxtC.toTxt
  refine Cal.mkX T.toTxtC.toTxt.d_check_automaton sc_check_automaton (fun vs H Q E h => ?_) (fun f cdv A outer s H vs Q E hr h => ?_)
  · obtain ⟨sg, v, rfl, _⟩ := h
    rfl
  · obtain ⟨sg, v, rfl, h⟩ := h
    have okm : okNum (.int (-1)) := ⟨-1, rfl, by decide, by decide⟩
    refine ⟨_, (pss_cons (ps_if (PW.pt (pw_or (pt_not (pt_val (pe_c c_is_listed hr (by decide) rfl (pa_cons (pv 1) pa_nil)))) (pw_or1 (pt_cmpR op_ne (pe_callB call_len_seq (by rfl) T.b_len (by decide +kernel) (pa_cons (pv 1) pa_nil)) pe_int (nomark _)))))
    (pss_one (ps_raiseX T.e_BadAutomaton x_WrongItem hr (by decide) rfl (takes_of rfl rfl rfl rfl) rfl (pa_cons (pe_un un_neg pe_int) pa_nil)))
    pss_nil)
  (pss_cons (ps_asg (pv 1) (pg_seq (by rfl) (pgs_cons (pg_name (i := 2) sc_check_automaton.nd rfl (Or.inl rfl)) (pgs_cons (pg_name (i := 3) sc_check_automaton.nd rfl (Or.inl rfl)) (pgs_cons (pg_name (i := 4) sc_check_automaton.nd rfl (Or.inl rfl)) pgs_nil)))))
  (pss_cons (ps_if (PW.pt (pw_or (pt_not (pt_val (pe_c c_is_integer hr (by decide) rfl (pa_cons (pv 2) (pa_cons pe_int (pa_cons (pe_gK rfl T.g_MOST_PASSED) pa_nil)))))) (pw_or (pt_not (pt_val (pe_c c_is_listed hr (by decide) rfl (pa_cons (pv 3) pa_nil)))) (pw_or1 (pt_not (pt_val (pe_c c_is_listed hr (by decide) rfl (pa_cons (pv 4) pa_nil))))))))
    (pss_one (ps_raiseX T.e_BadAutomaton x_WrongItem hr (by decide) rfl (takes_of rfl rfl rfl rfl) rfl (pa_cons (pe_un un_neg pe_int) pa_nil)))
    pss_nil)
  (pss_cons (ps_if (pt_cmpR op_gt (pe_callB call_len_seq (by rfl) T.b_len (by decide +kernel) (pa_cons (pv 3) pa_nil)) (pe_gK rfl T.g_MOST_EDGES) (nomark _))
    (pss_one (ps_raiseX T.e_BadAutomaton x_WrongItem hr (by decide) rfl (takes_of rfl rfl rfl rfl) rfl (pa_cons (pe_un un_neg pe_int) pa_nil)))
    pss_nil)
  (pss_cons (ps_for (passes_of rfl) rfl (pi_range1 (by rfl) T.b_range (pa_cons (pe_callB call_len_seq (by rfl) T.b_len (by decide +kernel) (pa_cons (pv 3) pa_nil)) pa_nil)) (pg_name (i := 5) sc_check_automaton.nd rfl (Or.inl rfl))
    (pss_cons (ps_if (pt_not (pt_val (pe_c c_is_edge hr (by decide) rfl (pa_cons (pv 0) (pa_cons (pv 2) (pa_cons (pe_ix ix_seq (pv 3) (pv 5) (fun _ _ => rfl)) pa_nil))))))
      (pss_one (ps_raiseX T.e_BadAutomaton x_WrongItem hr (by decide) rfl (takes_of rfl rfl rfl rfl) rfl (pa_cons (pv 5) pa_nil)))
      pss_nil)
    (pss_one (ps_if (PW.pt (pw_and (pt_cmpR op_gt (pv 5) pe_int (nomark _)) (pw_and1 (pt_not (pt_cmpR (op_ltTM hr.units) (pe_callTy call_tuple_ofD (by rfl) T.b_tuple (by decide +kernel) (pa_cons (pe_ix ix_seq (pv 3) (pe_op op_sub (pv 5) pe_int) (fun _ _ => rfl)) pa_nil)) (pe_callTy call_tuple_ofD (by rfl) T.b_tuple (by decide +kernel) (pa_cons (pe_ix ix_seq (pv 3) (pv 5) (fun _ _ => rfl)) pa_nil)) (nomark _))))))
      (pss_one (ps_raiseX T.e_BadAutomaton x_WrongItem hr (by decide) rfl (takes_of rfl rfl rfl rfl) rfl (pa_cons (pv 5) pa_nil)))
      pss_nil))))
  (pss_cons (ps_for (passes_of rfl) rfl (pi_range1 (by rfl) T.b_range (pa_cons (pe_callB call_len_seq (by rfl) T.b_len (by decide +kernel) (pa_cons (pv 4) pa_nil)) pa_nil)) (pg_name (i := 5) sc_check_automaton.nd rfl (Or.inl rfl))
    (pss_one (ps_if (PW.pt (pw_or (pt_not (pt_val (pe_c c_is_integer hr (by decide) rfl (pa_cons (pe_ix ix_seq (pv 4) (pv 5) (fun _ _ => rfl)) (pa_cons pe_int (pa_cons (pe_op op_sub (pv 2) pe_int) pa_nil)))))) (pw_or1 (PW.pt (pw_and (pt_cmpR op_gt (pv 5) pe_int (nomark _)) (pw_and1 (pt_cmpR op_ge (pe_ix ix_seq (pv 4) (pe_op op_sub (pv 5) pe_int) (fun _ _ => rfl)) (pe_ix ix_seq (pv 4) (pv 5) (fun _ _ => rfl)) (nomark _))))))))
      (pss_one (ps_raiseX T.e_BadAutomaton x_WrongItem hr (by decide) rfl (takes_of rfl rfl rfl rfl) rfl (pa_cons (pe_op op_add (pe_callB call_len_seq (by rfl) T.b_len (by decide +kernel) (pa_cons (pv 3) pa_nil)) (pv 5)) pa_nil)))
      pss_nil)))
  (pss_one (ps_ret (pe_c c_deep hr (by decide) rfl (pa_cons (pv 1) pa_nil)))))))))), ?_⟩
    walk_at "rd"
    rcases h with ⟨hb, th⟩ | ⟨q, m, qe, eys, qd, dys, rfl, hq, hqe, hqd, m1, m40, h⟩
    · rcases hb with hv | ⟨q, xs, rfl, hq, hb⟩
      · obtain ⟨n, ty, hn, e⟩ := hv.ty (K := K) (H := H)
        refine ⟨v, n, rfl, ty, hn, ?_⟩
        rw [e]
        walk_at "rd"
        first | exact mk1 T.e_BadAutomaton T.nf_BadAutomaton_place okm th | exact (mk1 T.e_BadAutomaton T.nf_BadAutomaton_place okm th).2
      obtain ⟨n, ty, hn, e⟩ := hq.ty
      refine ⟨_, n, rfl, ty, hn, ?_⟩
      rw [e]
      walk_at "rd"
      refine ⟨q, xs, rfl, hq, ?_⟩
      walk_at "rd"
      by_cases h3 : xs.length = 3
      · rcases hb with h | ⟨a, b, c, rfl, ha, hsb, hsc, hb⟩
        · exact absurd h3 h
        refine iteF ?_
        walk_at "rd"
        refine ⟨q, _, rfl, hq, rfl, _, _, rfl, _, _, rfl, _, _, rfl, rfl, ?_⟩
        walk_at "rd"
        by_cases ga : intW a = true
        · obtain ⟨i, rfl⟩ : ∃ i : Int, a = .int i := by
            rcases ha with h | h
            · exact h
            · rcases h with rfl | ⟨z, rfl⟩ | ⟨z, rfl⟩ <;> cases ga
          refine .inl ⟨i, 1, 40, rfl, ?_⟩
          rw [show (decide ((1 : Int) ≤ i) && decide (i ≤ 40)) = true from ga]
          walk_at "rd"
          obtain ⟨n2, ty2, hn2, e2⟩ := hsb.ty
          refine ⟨_, n2, rfl, ty2, hn2, ?_⟩
          cases e3 : (n2 == "tuple" || n2 == "list") with
          | false =>
            walk_at "rd"
            first | exact mk1 T.e_BadAutomaton T.nf_BadAutomaton_place okm th | exact (mk1 T.e_BadAutomaton T.nf_BadAutomaton_place okm th).2
          | true =>
            walk_at "rd"
            obtain ⟨n4, ty4, hn4, e4⟩ := hsc.ty
            refine ⟨_, n4, rfl, ty4, hn4, ?_⟩
            have e5 : (n4 == "tuple" || n4 == "list") = false := by
              rcases hb with hb | hb | hb
              · rw [ga] at hb; cases hb
              · rw [e2 hb] at e3; cases e3
              · exact e4 hb
            rw [e5]
            walk_at "rd"
            first | exact mk1 T.e_BadAutomaton T.nf_BadAutomaton_place okm th | exact (mk1 T.e_BadAutomaton T.nf_BadAutomaton_place okm th).2
        · rw [Bool.not_eq_true] at ga
          rcases ha with ⟨i, rfl⟩ | ha
          · refine .inl ⟨i, 1, 40, rfl, ?_⟩
            rw [show (decide ((1 : Int) ≤ i) && decide (i ≤ 40)) = false from ga]
            walk_at "rd"
            first | exact mk1 T.e_BadAutomaton T.nf_BadAutomaton_place okm th | exact (mk1 T.e_BadAutomaton T.nf_BadAutomaton_place okm th).2
          · obtain ⟨n', t1, t2, t3⟩ := ha.ty (K := K) (H := H)
            refine .inr ⟨_, _, _, n', rfl, t1, t2, t3, ?_⟩
            walk_at "rd"
            first | exact mk1 T.e_BadAutomaton T.nf_BadAutomaton_place okm th | exact (mk1 T.e_BadAutomaton T.nf_BadAutomaton_place okm th).2
      · rw [decide_eq_false (fun e => h3 (by have := V.int.inj e; omega))]
        refine iteT ?_
        walk_at "rd"
        first | exact mk1 T.e_BadAutomaton T.nf_BadAutomaton_place okm th | exact (mk1 T.e_BadAutomaton T.nf_BadAutomaton_place okm th).2
    · obtain ⟨n, ty, hn, e⟩ := hq.ty
      refine ⟨_, n, rfl, ty, hn, ?_⟩
      rw [e]
      walk_at "rd"
      refine ⟨q, _, rfl, hq, ?_⟩
      walk_at "rd"
      refine ⟨q, _, rfl, hq, rfl, _, _, rfl, _, _, rfl, _, _, rfl, rfl, ?_⟩
      walk_at "rd"
      refine .inl ⟨_, 1, 40, rfl, ?_⟩
      rw [show (decide ((1 : Int) ≤ (m : Nat)) && decide (((m : Nat) : Int) ≤ 40)) = true by rw [decide_eq_true (show (1 : Int) ≤ (m : Nat) by omega), decide_eq_true (show ((m : Nat) : Int) ≤ 40 by omega)]; rfl]
      walk_at "rd"
      obtain ⟨n2, ty2, hn2, e2⟩ := hqe.ty
      refine ⟨_, n2, rfl, ty2, hn2, ?_⟩
      rw [e2]
      walk_at "rd"
      obtain ⟨n3, ty3, hn3, e3⟩ := hqd.ty
      refine ⟨_, n3, rfl, ty3, hn3, ?_⟩
      rw [e3]
      walk_at "rd"
      refine ⟨qe, _, rfl, hqe, ?_⟩
      walk_at "rd"
      rcases h with ⟨h400, th⟩ | ⟨h400, es, pre, rest, hE, rfl, hi, k⟩
      · rw [decide_eq_true (show (400 : Int) < eys.length by omega)]
        refine iteT ?_
        walk_at "rd"
        first | exact mk1 T.e_BadAutomaton T.nf_BadAutomaton_place okm th | exact (mk1 T.e_BadAutomaton T.nf_BadAutomaton_place okm th).2
      rw [decide_eq_false (show ¬ (400 : Int) < (pre ++ rest).length by omega)]
      refine iteF ?_
      walk_at "rd"
      refine ⟨qe, _, rfl, hqe, ?_⟩
      walk_at "rd"
      have hpl : pre.length = es.length := hi.1
      have hlx : (pre ++ rest).length = pre.length + rest.length := List.length_append
      have hmi : ∀ x : Nat, x < m → intB (m : Nat) (.int (x : Nat)) = true := fun x hx => by
        show (decide ((0 : Int) ≤ (x : Nat)) && decide (((x : Nat) : Int) ≤ (m : Nat) - 1)) = true
        rw [decide_eq_true (show (0 : Int) ≤ (x : Nat) by omega), decide_eq_true (show ((x : Nat) : Int) ≤ (m : Nat) - 1 by omega)]
        rfl
      refine for_range (lo := 0) (n := (((pre ++ rest).length : Int)).toNat) (fun i σ H2 => ∃ (v5 : Option V), σ = [some (.str (S sg)), some (.ref q), some (.int (m : Nat)), some (.ref qe), some (.ref qd), v5] ∧ i ≤ es.length ∧ Same H H2)
        ⟨_, rfl, Nat.zero_le _, Same.refl _⟩ ?_ ?_
      · rintro i σ H2 hi9 ⟨v5, rfl, hil, s2⟩
        rw [Int.zero_add]
        have hi8 : i < (pre ++ rest).length := by omega
        walk_at "nx"
        rcases Nat.lt_or_ge i es.length with hlt | hge
        · have he : es[i]? = some es[i] := List.getElem?_eq_getElem hlt
          have hg := hE.good _ (List.mem_of_getElem? he)
          obtain ⟨x, hx, qi, rfl, sqi⟩ := hi.get he
          have hx2 : (pre ++ rest)[i]? = some (.ref qi) := by rw [List.getElem?_append_left (by omega)]; exact hx
          refine ⟨_, rfl, _, rfl, _, rfl, _, rfl, ix_x (hqe.same s2) (atI_nat hx2) ?_⟩
          refine ⟨sg, m, .ref qi, rfl, .inr ⟨qi, _, rfl, sqi.same s2, .inr ⟨_, _, _, rfl, .inl ⟨_, rfl⟩, .inl ⟨_, rfl⟩, .inl ⟨es[i].2.1, rfl, hg.2.2.2, ?_⟩⟩⟩⟩
          rw [hmi _ hg.1, hmi _ hg.2.1, hg.2.2.1]
          refine ⟨true, rfl, ?_⟩
          refine iteF ?_
          walk_at "nx"
          by_cases h0 : i = 0
          · refine ⟨_, rfl, _, _, rfl, rfl, _, rfl, ?_⟩
            rw [decide_eq_false (show ¬ (0 : Int) < (i : Nat) by omega)]
            refine iteF ?_
            refine iteF ?_
            exact ⟨_, rfl, by omega, s2⟩
          · have hp1 : es[i - 1]? = some (es[i - 1]'(by omega)) := List.getElem?_eq_getElem _
            obtain ⟨y, hy, qp, rfl, sqp⟩ := hi.get hp1
            have hy2 : (pre ++ rest)[i - 1]? = some (.ref qp) := by rw [List.getElem?_append_left (by omega)]; exact hy
            have hlt2 := hE.asc (i - 1) _ es[i] hp1 (by rw [Nat.sub_add_cancel (by omega)]; exact he)
            refine ⟨_, rfl, _, _, rfl, rfl, _, rfl, ?_⟩
            rw [decide_eq_true (show (0 : Int) < (i : Nat) by omega)]
            refine iteT ?_
            refine ⟨_, rfl, _, rfl, _, _, rfl, rfl, ix_x (hqe.same s2) (atI_at (by omega) (by rw [show ((i : Nat) - 1 : Int).toNat = i - 1 by omega]; exact hy2)) ?_⟩
            refine tNil_mk ?_
            refine tup_J (sqp.same s2) fun q3 H3 s3 hq3 => ?_
            refine ⟨_, rfl, _, rfl, ix_x (hqe.same (s2.trans s3)) (atI_nat hx2) ?_⟩
            refine tNil_mk ?_
            refine tup_J (sqi.same (s2.trans s3)) fun q4 H4 s4 hq4 => ?_
            refine ⟨q3, q4, _, _, rfl, rfl, (Keep.same s4).seq hq3, hq4, eKs _ _, _, rfl, ?_⟩
            rw [show tupLt (eTup es[i - 1]) (eTup es[i]) = true from hlt2]
            exact ⟨_, rfl, by omega, s2.trans (s3.trans s4)⟩
        · have hie : i = es.length := by omega
          subst hie
          rcases k with ⟨v, r2, rfl, hodd, th⟩ | ⟨rfl, _⟩
          · have th2 := th
            have okn : okNum (.int (es.length : Nat)) := ⟨_, rfl, by omega, by omega⟩
            have hx2 : (pre ++ v :: r2)[es.length]? = some v := by rw [List.getElem?_append_right (by omega), hpl, Nat.sub_self]; rfl
            refine ⟨_, rfl, _, rfl, _, rfl, _, rfl, ix_x (hqe.same s2) (atI_nat hx2) ?_⟩
            rcases hodd with hodd | ⟨e, pp, ⟨qi, rfl, sqi⟩, hg, hpp, hlt2⟩
            · rcases hodd.same s2 with hv | ⟨qi, zs, rfl, sqi, hz | ⟨a, b, c, rfl, ka, kc, ⟨s', rfl, hs, hf⟩ | ⟨j, rfl⟩⟩⟩
              · refine ⟨sg, m, v, rfl, .inl ⟨hv, ?_⟩⟩
                walk_at "rd"
                first | exact mk1 T.e_BadAutomaton T.nf_BadAutomaton_place okn (th _ s2) | exact (mk1 T.e_BadAutomaton T.nf_BadAutomaton_place okn (th _ s2)).2
              · refine ⟨sg, m, _, rfl, .inr ⟨qi, _, rfl, sqi, .inl ⟨hz, ?_⟩⟩⟩
                walk_at "rd"
                first | exact mk1 T.e_BadAutomaton T.nf_BadAutomaton_place okn (th _ s2) | exact (mk1 T.e_BadAutomaton T.nf_BadAutomaton_place okn (th _ s2)).2
              · refine ⟨sg, m, _, rfl, .inr ⟨qi, _, rfl, sqi, .inr ⟨_, _, _, rfl, ka, kc, .inl ⟨s', rfl, hs, ?_⟩⟩⟩⟩
                rw [hf]
                walk_at "rd"
                first | exact mk1 T.e_BadAutomaton T.nf_BadAutomaton_place okn (th _ s2) | exact (mk1 T.e_BadAutomaton T.nf_BadAutomaton_place okn (th _ s2)).2
              · refine ⟨sg, m, _, rfl, .inr ⟨qi, _, rfl, sqi, .inr ⟨_, _, _, rfl, ka, kc, .inr ⟨j, rfl, ?_⟩⟩⟩⟩
                walk_at "rd"
                first | exact mk1 T.e_BadAutomaton T.nf_BadAutomaton_place okn (th _ s2) | exact (mk1 T.e_BadAutomaton T.nf_BadAutomaton_place okn (th _ s2)).2
            · refine ⟨sg, m, .ref qi, rfl, .inr ⟨qi, _, rfl, sqi.same s2, .inr ⟨_, _, _, rfl, .inl ⟨_, rfl⟩, .inl ⟨_, rfl⟩, .inl ⟨e.2.1, rfl, hg.2.2.2, ?_⟩⟩⟩⟩
              rw [hmi _ hg.1, hmi _ hg.2.1, hg.2.2.1]
              refine ⟨true, rfl, ?_⟩
              refine iteF ?_
              walk_at "nx"
              have hne : 0 < es.length := by
                rcases Nat.eq_zero_or_pos es.length with z | z
                · rw [List.eq_nil_of_length_eq_zero z] at hpp
                  cases hpp
                · exact z
              obtain ⟨y, hy, qp, rfl, sqp⟩ := hi.get hpp
              have hy2 : (pre ++ V.ref qi :: r2)[es.length - 1]? = some (.ref qp) := by rw [List.getElem?_append_left (by omega)]; exact hy
              refine ⟨_, rfl, _, _, rfl, rfl, _, rfl, ?_⟩
              rw [decide_eq_true (show (0 : Int) < (es.length : Nat) by omega)]
              refine iteT ?_
              refine ⟨_, rfl, _, rfl, _, _, rfl, rfl, ix_x (hqe.same s2) (atI_at (by omega) (by rw [show ((es.length : Nat) - 1 : Int).toNat = es.length - 1 by omega]; exact hy2)) ?_⟩
              refine tNil_mk ?_
              refine tup_J (sqp.same s2) fun q3 H3 s3 hq3 => ?_
              refine ⟨_, rfl, _, rfl, ix_x (hqe.same (s2.trans s3)) (atI_nat hx2) ?_⟩
              refine tNil_mk ?_
              refine tup_J (sqi.same (s2.trans s3)) fun q4 H4 s4 hq4 => ?_
              refine ⟨q3, q4, _, _, rfl, rfl, (Keep.same s4).seq hq3, hq4, eKs _ _, _, rfl, ?_⟩
              rw [show tupLt (eTup pp) (eTup e) = false from hlt2]
              walk_at "rd"
              first | exact mk1 T.e_BadAutomaton T.nf_BadAutomaton_place okn (th _ (s2.trans (s3.trans s4))) | exact (mk1 T.e_BadAutomaton T.nf_BadAutomaton_place okn (th _ (s2.trans (s3.trans s4)))).2
          · rw [List.append_nil] at hi8
            omega
      · rintro σ H2 ⟨v5, rfl, hil, s2⟩
        rcases k with ⟨v, r2, rfl, _⟩ | ⟨rfl, hd4, ds, restd, hD, rfl, k⟩
        · rw [List.length_cons] at hlx
          omega
        rw [List.append_nil] at *
        walk_at "rd"
        refine ⟨qd, _, rfl, hqd.same s2, ?_⟩
        walk_at "rd"
        have hdl : ((ds.map fun d => V.int (d : Nat)) ++ restd).length = ds.length + restd.length := by rw [List.length_append, List.length_map]
        refine for_range (lo := 0) (n := ((((ds.map fun d => V.int (d : Nat)) ++ restd).length : Int)).toNat) (fun i σ H2 => ∃ (v5 : Option V), σ = [some (.str (S sg)), some (.ref q), some (.int (m : Nat)), some (.ref qe), some (.ref qd), v5] ∧ i ≤ ds.length ∧ Same H H2)
          ⟨_, rfl, Nat.zero_le _, s2⟩ ?_ ?_
        · rintro i σ H3 hi9 ⟨w5, rfl, hil2, s3⟩
          rw [Int.zero_add]
          have hi8 : i < ((ds.map fun d => V.int (d : Nat)) ++ restd).length := by omega
          rcases Nat.lt_or_ge i ds.length with hlt | hge
          · have he : ds[i]? = some ds[i] := List.getElem?_eq_getElem hlt
            have hx2 : ((ds.map fun d => V.int (d : Nat)) ++ restd)[i]? = some (.int (ds[i] : Nat)) := by rw [List.getElem?_append_left (by rw [List.length_map]; omega), List.getElem?_map, he]; rfl
            walk_at "nx"
            refine ⟨_, rfl, _, rfl, ix_x (hqd.same s3) (atI_nat hx2) ?_⟩
            walk_at "rd"
            refine .inl ⟨_, 0, _, rfl, ?_⟩
            rw [show (decide ((0 : Int) ≤ (ds[i] : Nat)) && decide (((ds[i] : Nat) : Int) ≤ (m : Nat) - 1)) = true from hmi _ (hD.good _ (List.mem_of_getElem? he))]
            refine ⟨true, rfl, ?_⟩
            refine iteF ?_
            by_cases h0 : i = 0
            · refine ⟨_, rfl, _, _, rfl, rfl, _, rfl, ?_⟩
              rw [decide_eq_false (show ¬ (0 : Int) < (i : Nat) by omega)]
              exact ⟨_, rfl, by omega, s3⟩
            · have hp1 : ds[i - 1]? = some (ds[i - 1]'(by omega)) := List.getElem?_eq_getElem _
              have hy2 : ((ds.map fun d => V.int (d : Nat)) ++ restd)[i - 1]? = some (.int (ds[i - 1] : Nat)) := by rw [List.getElem?_append_left (by rw [List.length_map]; omega), List.getElem?_map, hp1]; rfl
              have hlt2 := hD.asc (i - 1) _ ds[i] hp1 (by rw [Nat.sub_add_cancel (by omega)]; exact he)
              refine ⟨_, rfl, _, _, rfl, rfl, _, rfl, ?_⟩
              rw [decide_eq_true (show (0 : Int) < (i : Nat) by omega)]
              refine iteT ?_
              refine ⟨_, rfl, _, rfl, _, _, rfl, rfl, ix_x (hqd.same s3) (atI_at (by omega) (by rw [show ((i : Nat) - 1 : Int).toNat = i - 1 by omega]; exact hy2)) ?_⟩
              refine ⟨_, rfl, _, rfl, ix_x (hqd.same s3) (atI_nat hx2) ?_⟩
              refine ⟨_, _, rfl, rfl, _, rfl, ?_⟩
              rw [decide_eq_false (show ¬ ((ds[i] : Nat) : Int) ≤ (ds[i - 1] : Nat) by omega)]
              exact ⟨_, rfl, by omega, s3⟩
          · have hie : i = ds.length := by omega
            subst hie
            rcases k with ⟨v, r2, rfl, hodd, th⟩ | ⟨rfl, _⟩
            · have okn : okNum (.int ((es.length : Nat) + (ds.length : Nat))) := ⟨_, rfl, by omega, by omega⟩
              have th3 : Thrown E H3 XA "place" (.int ((es.length : Nat) + (ds.length : Nat))) := th _ s3
              have hx2 : ((ds.map fun d => V.int (d : Nat)) ++ v :: r2)[ds.length]? = some v := by rw [List.getElem?_append_right (by rw [List.length_map]; omega), List.length_map, Nat.sub_self]; rfl
              walk_at "nx"
              refine ⟨_, rfl, _, rfl, ix_x (hqd.same s3) (atI_nat hx2) ?_⟩
              walk_at "rd"
              rcases hodd with nv | ⟨j, rfl, hj⟩
              · obtain ⟨n', t1, t2, t3⟩ := nv.ty (K := K) (H := H3)
                refine .inr ⟨_, _, _, n', rfl, t1, t2, t3, ?_⟩
                walk_at "rd"
                refine ⟨qe, _, rfl, hqe.same s3, ?_⟩
                walk_at "rd"
                rw [hpl]
                first | exact mk1 T.e_BadAutomaton T.nf_BadAutomaton_place okn (th3) | exact (mk1 T.e_BadAutomaton T.nf_BadAutomaton_place okn (th3)).2
              · refine .inl ⟨j, 0, _, rfl, ?_⟩
                cases hb : intB (m : Nat) (.int j) with
                | false =>
                  rw [show (decide ((0 : Int) ≤ j) && decide (j ≤ (m : Nat) - 1)) = false from hb]
                  walk_at "rd"
                  refine ⟨qe, _, rfl, hqe.same s3, ?_⟩
                  walk_at "rd"
                  rw [hpl]
                  first | exact mk1 T.e_BadAutomaton T.nf_BadAutomaton_place okn (th3) | exact (mk1 T.e_BadAutomaton T.nf_BadAutomaton_place okn (th3)).2
                | true =>
                  rw [show (decide ((0 : Int) ≤ j) && decide (j ≤ (m : Nat) - 1)) = true from hb]
                  rcases hj with hj | ⟨pp, hpp, hle⟩
                  · rw [hb] at hj; cases hj
                  have hne : 0 < ds.length := by
                    rcases Nat.eq_zero_or_pos ds.length with z | z
                    · rw [List.eq_nil_of_length_eq_zero z] at hpp
                      cases hpp
                    · exact z
                  have hy2 : ((ds.map fun d => V.int (d : Nat)) ++ V.int j :: r2)[ds.length - 1]? = some (.int (pp : Nat)) := by rw [List.getElem?_append_left (by rw [List.length_map]; omega), List.getElem?_map, hpp]; rfl
                  refine ⟨true, rfl, ?_⟩
                  refine iteF ?_
                  refine ⟨_, rfl, _, _, rfl, rfl, _, rfl, ?_⟩
                  rw [decide_eq_true (show (0 : Int) < (ds.length : Nat) by omega)]
                  refine iteT ?_
                  refine ⟨_, rfl, _, rfl, _, _, rfl, rfl, ix_x (hqd.same s3) (atI_at (by omega) (by rw [show ((ds.length : Nat) - 1 : Int).toNat = ds.length - 1 by omega]; exact hy2)) ?_⟩
                  refine ⟨_, rfl, _, rfl, ix_x (hqd.same s3) (atI_nat hx2) ?_⟩
                  refine ⟨_, _, rfl, rfl, _, rfl, ?_⟩
                  rw [decide_eq_true (show j ≤ ((pp : Nat) : Int) by omega)]
                  walk_at "rd"
                  refine ⟨qe, _, rfl, hqe.same s3, ?_⟩
                  walk_at "rd"
                  rw [hpl]
                  first | exact mk1 T.e_BadAutomaton T.nf_BadAutomaton_place okn (th3) | exact (mk1 T.e_BadAutomaton T.nf_BadAutomaton_place okn (th3)).2
            · rw [List.append_nil, List.length_map] at hi8
              omega
        · rintro σ H3 ⟨w5, rfl, hil2, s3⟩
          rcases k with ⟨v, r2, rfl, _⟩ | ⟨rfl, k⟩
          · rw [List.length_cons] at hdl
            omega
          rw [List.append_nil] at *
          refine ⟨_, rfl, .ref q, autD m es ds, rfl, ?_, fun v' H' s4 tp => k v' H' (s3.trans s4) tp⟩
          refine .inr ⟨q, _, _, rfl, rfl, hq.same s3, by show 3 ≤ 1000; decide, rfl, fun i x y h1 h2 => ?_⟩
          match i, h1, h2 with
          | 0, h1, h2 => cases h1; cases h2; exact .inl (.inl ⟨_, rfl, rfl⟩)
          | 1, h1, h2 =>
            cases h1; cases h2
            refine .inr ⟨qe, _, _, rfl, rfl, hqe.same s3, by rw [List.length_map]; omega, by rw [List.length_map]; omega, fun k x y g1 g2 => ?_⟩
            rw [List.getElem?_map] at g2
            cases e9 : es[k]? with
            | none => rw [e9] at g2; cases g2
            | some ee =>
              rw [e9] at g2
              cases g2
              exact dpn_edge ((hi.2 k x ee g1 e9).same s3)
          | 2, h1, h2 =>
            cases h1; cases h2
            refine .inr ⟨qd, _, _, rfl, rfl, hqd.same s3, by rw [List.length_map] at *; omega, by rw [List.length_map, List.length_map], fun k x y g1 g2 => ?_⟩
            rw [List.getElem?_map] at g1 g2
            cases e9 : ds[k]? with
            | none => rw [e9] at g2; cases g2
            | some ee =>
              rw [e9] at g1 g2
              cases g1; cases g2
              exact .inl (.inl ⟨_, rfl, rfl⟩)
          | _ + 3, h1, h2 => cases h1
end
end Sh
set_option Elab.async false
set_option linter.all false
set_option maxRecDepth 100000
set_option maxHeartbeats 2000000
/-! sorted(list, key=def), the keys of any shape that can be compared (flat tuples, and a thing ahead of a tuple) -/
namespace Sh
open PySem PySem.Spec PyProof.Rows L2
structure KeyD (X : Cx) {α : Type} (gk : α → List V) (T : String) where
  At : Hp → Addr → α → Prop
  kv : Hp → Value → List V
  VV : Heap → Value → List V → Prop
  kv_at : ∀ {H q y}, At H q y → kv H (.ref q) = gk y
  same : ∀ {H H' q y}, At H q y → Same H H' → At H' q y
  wr : ∀ {H q y p xs ys}, At H q y → H p = some (.lst xs) → At (upd H p (.lst ys)) q y
  vof : ∀ {pins σ H s q y}, Inv X pins σ H s → At H q y → VV s.heap (.ref q) (gk y)
  kind : ∀ {A : Around} {s : Shared} {E : Value → Shared → Prop} {vs : List Value} {k : Value → List V} {Q : SortKind → Shared → Prop}, 0 < vs.length → (∀ v ∈ vs, VV s.heap v (k v)) → (∀ v ∈ vs, Head T (k v)) → Q (tuples' (Value.type T != Value.type "tuple")) s → wpAny (model X.prog X.w) A (keyKind' vs.toArray) Q E s
  cmp : ∀ {A : Around} {s : Shared} {b : Bool} {vs : List Value} {k : Value → List V}, A.units + 64 < cLine → (∀ v ∈ vs, VV s.heap v (k v)) → (∀ v ∈ vs, ∀ u ∈ vs, sameKs (k v) (k u) = true) → SrtO.Cmp X.prog X.w A s (tuples' b) (fun p => p.1 ∈ vs) (SrtO.lt2 fun v u => cLt (k v) (k u))
section
variable {X : Cx} {pins : List (Addr × Obj)} {σ : L2.St} {H : Hp} {s : Shared} {a g : Addr} {n N : Nat} {sp : Sp} {α : Type} {f : α → V} {gk : α → List V} {l : List α} {vs : List Value} {T : String} {P : PySem.Fin → Shared → Prop}
theorem list_sort_keyD (D : KeyD X gk T) (I : Inv X pins σ H s) (F : FnR X.prog X.w X.K X.mg X.base CX0 n g sp) (hr : Room n X.A.in1.in1)
    (ho : s.heap.get? a = some (seqObj "list" vs.toArray N)) (fpa : FpOk X pins H a) (rv : Vals (l.map f) vs) (hz : l.length ≤ sizeLine)
    (hk : ∀ y ∈ l, ∀ H1, Same H H1 → ∀ Q' : VK, (∀ q H2, Same H1 H2 → D.At H2 q y → Q' (.ref q) H2) → sp [f y] H1 Q' E0)
    (ht : ∀ y ∈ l, Head T (gk y)) (hs : ∀ y ∈ l, ∀ z ∈ l, sameKs (gk y) (gk z) = true)
    (h : ∀ (l' : List α) (s' : Shared) (H' : Hp), l'.Perm l → l'.Pairwise (fun y z => cLt (gk z) (gk y) = false) → Inv X pins σ H' s' → Same H H' → H' a = some (.lst (l'.map f)) → P (.done (.ret .none)) s') :
    wpAny (model X.prog X.w) X.A.in1.in1 (ksk_tree a (.ref g) false) P X.xe s := by
  have hlen : vs.length = l.length := by rw [← rv.length, List.length_map]
  obtain ⟨hn, hL, hfs, hex, hcell, hpin⟩ := id fpa
  have ha : a < s.heap.objs.size := Heap.lt_size ho
  have s1 := Heap.SameBut.update s.heap a (Obj.mapSeq fun _ => (#[] : Array Value))
  obtain ⟨e1, ho1⟩ : ∃ e1, (s.heap.update a (Obj.mapSeq fun _ => (#[] : Array Value))).get? a = some (seqObj "list" #[] e1) := ⟨_, get?_update_seq ho fun _ => #[]⟩
  unfold ksk_tree
  refine wpAny_bind (listItems_at ho rfl ?_)
  refine wpAny_bind (listUpdate_at ho rfl ?_ (by rw [List.size_toArray, hlen]; exact hz) (Nat.zero_le _))
  refine wpAny_bind (seqEpoch_at ho1 rfl ?_)
  refine wpAny_bind (wpAny_newTuple ?_ (by show vs.length ≤ _; rw [hlen]; exact hz))
  refine wpAny_bind (wpAny_newList ?_ (Nat.zero_le _))
  refine wpAny_holding ?_
  have J1 : Inv X pins σ H { s with heap := s.heap.update a (Obj.mapSeq fun _ => (#[] : Array Value)), toks := s.toks } := I.turned (fun b o hb e => (s1.2 b hb).trans e) hn hL hex hcell hpin
  have z1 : (s.heap.update a (Obj.mapSeq fun _ => (#[] : Array Value))).objs.size = s.heap.objs.size := Heap.size_update _ _ _
  show wpAny _ _ (ksk_rest a (.ref g) false vs.toArray e1 (.ref (((s.heap.update a (Obj.mapSeq fun _ => (#[] : Array Value))).push (seqObj "tuple" vs.toArray 0)).objs.size))) P X.xe { s with heap := ((s.heap.update a (Obj.mapSeq fun _ => (#[] : Array Value))).push (seqObj "tuple" vs.toArray 0)).push (seqObj "list" #[] 0) }
  generalize s.heap.update a (Obj.mapSeq fun _ => (#[] : Array Value)) = h1 at J1 ho1 z1 ⊢
  have z2 : (h1.push (seqObj "tuple" vs.toArray 0)).objs.size = h1.objs.size + 1 := size_push' _ _
  have J2 : Inv X pins σ (upd H (h1.push (seqObj "tuple" vs.toArray 0)).objs.size (.lst [])) { s with heap := (h1.push (seqObj "tuple" vs.toArray 0)).push (seqObj "list" #[] 0), toks := s.toks } :=
    J1.laid (fun b o e => Heap.get?_push_of_some _ (Heap.get?_push_of_some _ e)) (by rw [z2]; exact Nat.le_succ _) ⟨Nat.zero_le _, [], 0, .nil, Heap.get?_push_size _ rfl⟩
  have hk0 : H (h1.push (seqObj "tuple" vs.toArray 0)).objs.size = none := J1.hok.fresh (by rw [z2]; exact Nat.le_succ _)
  have hne : a ≠ (h1.push (seqObj "tuple" vs.toArray 0)).objs.size := by rw [z2, z1]; exact Nat.ne_of_lt (Nat.lt_succ_of_lt ha)
  have J3 : Inv X (pins ++ [(a, seqObj "list" #[] e1)]) σ (upd H (h1.push (seqObj "tuple" vs.toArray 0)).objs.size (.lst [])) { s with heap := (h1.push (seqObj "tuple" vs.toArray 0)).push (seqObj "list" #[] 0), toks := s.toks } :=
    J2.pins_of fun p hp => (List.mem_append.mp hp).elim (fun z => J2.pin p (List.mem_append_right _ z)) fun z => by
      rw [List.mem_singleton.mp z]
      exact ⟨Heap.get?_push_of_some _ (Heap.get?_push_of_some _ ho1), by rw [upd_ne hne]; exact hn, hL, hfs, fun v e => by cases e⟩
  generalize (h1.push (seqObj "tuple" vs.toArray 0)).objs.size = kS at J2 J3 hk0 hne ⊢
  generalize hs0 : ({ s with heap := (h1.push (seqObj "tuple" vs.toArray 0)).push (seqObj "list" #[] 0) } : Shared) = s0 at J3 ⊢
  clear hs0 J2 z2 J1 z1 ho1 h1
  unfold ksk_rest
  refine wpAny_bind (wpAny_rule ?_)
  first
    | rw [List.forIn_toArray]
    | (rw [← Array.forIn_toList]; simp only [List.toList_toArray])
    | rw [← Array.forIn_toList]
  refine wpAny_bind (ksk_fold (fun i s' => ∃ H' ys, Inv X (pins ++ [(a, seqObj "list" #[] e1)]) σ H' s' ∧ Same H H' ∧ H' kS = some (.lst ys) ∧ Paired (fun v y => ∃ q, v = V.ref q ∧ D.At H' q y) ys (l.take i)) vs 0 s0
    ⟨_, [], J3, same_new hk0, upd_same, .nil⟩ ?step ?done)
  case step =>
    rintro j x s' hx ⟨H', ys, J, sm, hkS, pr⟩
    simp only [Nat.zero_add] at pr ⊢
    have hj : j < vs.length := (List.getElem?_eq_some_iff.mp hx).1
    have hjl : j < l.length := by omega
    have hy : l[j]? = some l[j] := List.getElem?_eq_getElem hjl
    have hym : l[j] ∈ l := List.getElem_mem hjl
    have rx : RelV (f l[j]) x := by
      obtain ⟨u, hu, ru⟩ := rv.get (i := j) (x := f l[j]) (by rw [List.getElem?_map, hy]; rfl)
      rw [hx] at hu
      cases hu
      exact ru
    have yl : ys.length = j := by
      have := Paired.length pr
      rw [List.length_take] at this
      omega
    refine wpAny_bind (wpAny_attempt (wpAny_mono (run_in (X := X.wish fun _ _ => False) (us := [x]) (ws := [f l[j]]) (Q := fun v H2 => ∃ q, v = .ref q ∧ Same H' H2 ∧ D.At H2 q l[j]) F hr (J.wish _).env0.in1.in1 pass0 (J.wish _) (.cons rx .nil)
      (hk _ hym H' sm _ fun q H2 sm2 hq => ⟨q, rfl, sm2, hq⟩)) (fun v s'' he => ?_) fun _ _ hF => hF.elim))
    obtain ⟨v', H2, J', rv', q, rfl, sm2, hq⟩ := he
    obtain rfl : v = .ref q := rv'
    have J2 := J'.unwish
    have hkS2 := sm2 _ _ hkS
    obtain ⟨hzz, its, n2, rvi, hli, hget⟩ := J2.lstM hkS2
    try dsimp only
    have s2 := Heap.SameBut.update s''.heap kS (Obj.mapSeq (·.push (Value.ref q)))
    obtain ⟨c2, hc2⟩ : ∃ c2, (s''.heap.update kS (Obj.mapSeq (·.push (Value.ref q)))).get? kS = some (seqObj "list" (its.toArray.push (Value.ref q)) c2) := ⟨_, get?_update_seq hget (·.push (Value.ref q))⟩
    refine wpAny_bind (listUpdate_at hget rfl ?_ (by rw [List.size_toArray, ← hli]; exact hzz) (by rw [Array.size_push, List.size_toArray, ← hli]; omega))
    have et : l.take (j + 1) = l.take j ++ [l[j]] := by rw [List.take_succ, hy]; rfl
    refine wpAny_pure ⟨rfl, upd H2 kS (.lst (ys ++ [.ref q])), ys ++ [.ref q], ?_, same_mut (sm.trans sm2) hk0, upd_same, ?_⟩
    · refine J2.write (t' := s''.toks) (by rw [hkS2]; trivial) (.inl rfl) (fun b u hb e => (s2.2 b hb).trans e) ⟨_, hc2⟩ ⟨by rw [List.length_append, yl]; show j + 1 ≤ _; omega, its ++ [.ref q], c2, ?_, ?_⟩
      · exact paired_snoc rvi (show RelV (.ref q) (.ref q) from rfl)
      · rw [hc2, List.push_toArray]
    · rw [et]
      have up : ∀ q0 y, D.At H2 q0 y → D.At (upd H2 kS (.lst (ys ++ [.ref q]))) q0 y := fun q0 y e => D.wr e hkS2
      exact paired_snoc (paired_imp pr fun v y ⟨q0, e, hq0⟩ => ⟨q0, e, up q0 _ (D.same hq0 sm2)⟩) ⟨q, rfl, up q _ hq⟩
  case done =>
    rintro s' ⟨H', ys, J, sm, hkS, pr⟩
    rw [show l.take (0 + vs.length) = l from List.take_of_length_le (by omega)] at pr
    obtain ⟨hzz, its, n2, rvi, hli, hget⟩ := J.lstM hkS
    have pa := J.pin (a, seqObj "list" #[] e1) (List.mem_append_right _ (List.mem_append_right _ (List.mem_singleton.mpr rfl)))
    have hH'a : H' a = none := pa.2.1
    have hga : s'.heap.get? a = some (seqObj "list" #[] e1) := pa.1
    try dsimp only
    refine wpAny_bind (listItems_at hget rfl ?_)
    have hil : its.length = l.length := by rw [← hli, Paired.length pr]
    -- the keys
    have pk : Paired (fun u y => ∃ q, u = Value.ref q ∧ D.At H' q y) its l := by
      obtain ⟨e1, e2⟩ := paired_get pr
      refine paired_at hil fun i u y h1 h2 => ?_
      have hi : i < ys.length := by
        have := (List.getElem?_eq_some_iff.mp h2).1
        omega
      obtain ⟨u', hu, ru⟩ := rvi.get (List.getElem?_eq_getElem hi)
      rw [h1] at hu
      cases hu
      obtain ⟨q, e, hq⟩ := e2 i _ y (List.getElem?_eq_getElem hi) h2
      rw [e] at ru
      exact ⟨q, ru, hq⟩
    have hkk : ∀ v ∈ its, ∃ y ∈ l, D.kv H' v = gk y ∧ D.VV s'.heap v (D.kv H' v) := by
      intro v hv
      obtain ⟨y, hy, q', e, hq⟩ := paired_mem pk v hv
      subst e
      refine ⟨y, hy, D.kv_at hq, ?_⟩
      rw [D.kv_at hq]
      exact D.vof J hq
    have hsame : ∀ v ∈ its, ∀ u ∈ its, sameKs (D.kv H' v) (D.kv H' u) = true := by
      intro v hv u hu
      obtain ⟨y, hy, e1, _⟩ := hkk v hv
      obtain ⟨z, hz', e2, _⟩ := hkk u hu
      rw [e1, e2]
      exact hs y hy z hz'
    have p2 : Paired (fun (p : Value × Value) y => D.kv H' p.1 = gk y ∧ RelV (f y) p.2) (its.zip vs) l := by
      obtain ⟨_, e2⟩ := paired_get pk
      refine paired_at (by rw [List.length_zip]; omega) fun i p y h1 h2 => ?_
      rw [List.getElem?_zip_eq_some] at h1
      obtain ⟨q, e, hq⟩ := e2 i _ y h1.1 h2
      obtain ⟨u, hu, ru⟩ := rv.get (i := i) (x := f y) (by rw [List.getElem?_map, h2]; rfl)
      rw [h1.2] at hu
      cases hu
      refine ⟨?_, ru⟩
      rw [e]
      exact D.kv_at hq
    have tail : ∀ st : SortSt, SrtO.Srtd (SrtO.lt2 fun v u => cLt (D.kv H' v) (D.kv H' u)) (arrOf st).toList → (arrOf st).toList.Perm (its.zip vs) → failedOf st = none → wpAny (model X.prog X.w) X.A.in1.in1 (ksk_tail a false e1 (.ref kS) st) P X.xe s' := by
      intro st hso hpe hfl
      obtain ⟨l', pl, pr'⟩ := paired_perm hpe p2
      have hkne : a ≠ kS := fun z => by rw [← z, hH'a] at hkS; cases hkS
      have s2 := Heap.SameBut.update s'.heap kS (Obj.mapSeq fun _ => (#[] : Array Value))
      obtain ⟨c2, hc2⟩ : ∃ c2, (s'.heap.update kS (Obj.mapSeq fun _ => (#[] : Array Value))).get? kS = some (seqObj "list" #[] c2) := ⟨_, get?_update_seq hget fun _ => #[]⟩
      have hga2 : (s'.heap.update kS (Obj.mapSeq fun _ => (#[] : Array Value))).get? a = some (seqObj "list" #[] e1) := (s2.2 a hkne).trans hga
      have K1 : Inv X (pins ++ [(a, seqObj "list" #[] e1)]) σ (upd H' kS (.lst [])) { s' with heap := s'.heap.update kS (Obj.mapSeq fun _ => (#[] : Array Value)), toks := s'.toks } :=
        J.write (by rw [hkS]; trivial) (.inl rfl) (fun b u hb e => (s2.2 b hb).trans e) ⟨_, hc2⟩ ⟨Nat.zero_le _, [], c2, .nil, hc2⟩
      unfold ksk_tail
      try dsimp only
      refine wpAny_bind (listUpdate_at hget rfl ?_ (by rw [List.size_toArray, ← hli]; exact hzz) (Nat.zero_le _))
      refine wpAny_bind (wpAny_letGo ?_)
      refine wpAny_bind (seqEpoch_at hga2 rfl ?_)
      have hsz : ((arrOf st).map (·.2)).size ≤ sizeLine := by
        have := hpe.length_eq
        rw [Array.length_toList, List.length_zip] at this
        rw [Array.size_map, this]
        omega
      simp only [Bool.false_eq_true, if_false]
      refine wpAny_bind (listUpdate_at hga2 rfl ?_ (Nat.zero_le _) (by omega))
      rw [hfl]
      simp only [bne_self_eq_false, Bool.false_eq_true, if_false]
      generalize hh2 : s'.heap.update kS (Obj.mapSeq fun _ => (#[] : Array Value)) = h2 at K1 hga2 ⊢
      have s3 := Heap.SameBut.update h2 a (Obj.mapSeq fun _ => (arrOf st).map (·.2))
      obtain ⟨c3, hc3⟩ : ∃ c3, (h2.update a (Obj.mapSeq fun _ => (arrOf st).map (·.2))).get? a = some (seqObj "list" ((arrOf st).map (·.2)) c3) := ⟨_, get?_update_seq hga2 fun _ => (arrOf st).map (·.2)⟩
      have hupa : upd H' kS (.lst []) a = none := by rw [upd_ne hkne]; exact hH'a
      have hvals : Vals (l'.map f) (((arrOf st).map (·.2)).toList) := by
        rw [Array.toList_map]
        have key : ∀ {ps : List (Value × Value)} {m : List α}, Paired (fun (p : Value × Value) y => D.kv H' p.1 = gk y ∧ RelV (f y) p.2) ps m → Vals (m.map f) (ps.map (·.2)) := by
          intro ps m hp
          induction hp with
          | nil => exact .nil
          | cons r t ih => exact .cons r.2 ih
        exact key pr'
      have K3 : Inv X pins σ (upd (upd H' kS (.lst [])) a (.lst (l'.map f))) { s' with heap := h2.update a (Obj.mapSeq fun _ => (arrOf st).map (·.2)), toks := s'.toks } := by
        refine Inv.take (s := { s' with heap := h2, toks := s'.toks }) (Inv.unpinned K1) (fun b ob hb e => (s3.2 b hb).trans e) ⟨hupa, hL, hfs, hex, hcell, hpin⟩ ⟨?_, _, c3, hvals, ?_⟩
        · rw [List.length_map, pl.length_eq]; exact hz
        · rw [hc3, Array.toArray_toList]
      refine wpAny_pure (h l' _ _ pl ?_ K3 ?_ upd_same)
      · refine paired_pairwise (R := fun (p : Value × Value) y => D.kv H' p.1 = gk y ∧ RelV (f y) p.2) ?_ pr' hso
        rintro p p' y y' ⟨k1, _⟩ ⟨k2, _⟩ hlt
        have hlt' : cLt (D.kv H' p'.1) (D.kv H' p.1) = false := hlt
        rw [k1, k2] at hlt'
        exact hlt'
      · exact fun b o e => by
          rw [upd_ne (ne_of_none e hn)]
          exact same_mut sm hk0 b o e
    have hzip : (its.toArray.zip vs.toArray).toList = its.zip vs := by simp
    unfold ksk_end
    try dsimp only
    simp only [Bool.false_eq_true, if_false]
    by_cases h2 : vs.toArray.size < 2
    · rw [if_pos h2, if_pos h2]
      refine wpAny_bind (wpAny_pure ?_)
      rw [StateT.run_pure]
      refine wpAny_bind (wpAny_pure ?_)
      try dsimp only
      rw [List.size_toArray] at h2
      refine tail (SortSt.mk' general' (its.toArray.zip vs.toArray) #[] 7 none) ?_ (by show (its.toArray.zip vs.toArray).toList.Perm _; rw [hzip]) rfl
      show SrtO.Srtd _ (its.toArray.zip vs.toArray).toList
      rw [hzip]
      have hl2 : (its.zip vs).length < 2 := by rw [List.length_zip]; omega
      match its.zip vs, hl2 with
      | [], _ => exact List.Pairwise.nil
      | [v], _ => exact List.pairwise_singleton _ _
      | _ :: _ :: l, h => exact absurd h (by simp)
    · rw [if_neg h2, if_neg h2]
      rw [List.size_toArray] at h2
      refine wpAny_bind (D.kind (vs := its) (k := D.kv H') (by omega) (fun v hv => (hkk v hv).choose_spec.2.2) (fun v hv => ?_) ?_)
      · obtain ⟨y, hy, e, _⟩ := hkk v hv
        rw [e]
        exact ht y hy
      refine wpAny_bind (wpAny_mono (SrtO.wpS_sortO (st0 := SortSt.mk' (tuples' (Value.type T != Value.type "tuple")) (its.toArray.zip vs.toArray) #[] 7 none)
        (Q := fun _ st' => SrtO.Srtd (SrtO.lt2 fun v u => cLt (D.kv H' v) (D.kv H' u)) (arrOf st').toList ∧ (arrOf st').toList.Perm (its.zip vs) ∧ failedOf st' = none) (SrtO.swo2 (swo_cLt (D.kv H'))) (D.cmp (s := s') (Room.units hr) (fun v hv => (hkk v hv).choose_spec.2.2) hsame) rfl
        (fun p hp => ?_) rfl rfl fun st' a1 a2 a3 => ⟨a1, ?_, a3⟩) ?_ fun _ _ e => e)
      · have hp' : p ∈ (its.toArray.zip vs.toArray).toList := hp
        rw [hzip] at hp'
        exact (List.of_mem_zip (a := p.1) (b := p.2) hp').1
      · have := a2.perm
        have e : (arrOf (SortSt.mk' (tuples' (Value.type T != Value.type "tuple")) (its.toArray.zip vs.toArray) #[] 7 none)).toList = its.zip vs := hzip
        rw [e] at this
        exact this
      · rintro ⟨⟨⟩, st'⟩ s2 ⟨rfl, hp1, hp2, hf⟩
        try dsimp only
        exact tail st' hp1 hp2 hf
end
def rSortD (X : Cx) (sp : Sp) : List V → Hp → VK → Prop := fun vs H Q => ∃ (α : Type) (f : α → V) (gk : α → List V) (T : String) (D : KeyD X gk T) (l : List α) (v : V), vs = [v] ∧ KSrc X.K H v (l.map f) ∧
  (∀ y ∈ l, ∀ H1, Same H H1 → ∀ Q' : VK, (∀ q H2, Same H1 H2 → D.At H2 q y → Q' (.ref q) H2) → sp [f y] H1 Q' E0) ∧
  (∀ y ∈ l, Head T (gk y)) ∧ (∀ y ∈ l, ∀ z ∈ l, sameKs (gk y) (gk z) = true) ∧
  ∀ (l' : List α) (p : Addr) (H' : Hp), l'.Perm l → l'.Pairwise (fun y z => cLt (gk z) (gk y) = false) → H p = none → Same H H' → H' p = some (.lst (l'.map f)) → Q (.ref p) H'
section
variable {X : Cx} {n : Nat} {g : Addr} {sp : Sp}
theorem cr_sortKeyD (F : FnR X.prog X.w X.K X.mg X.base CX0 n g sp) (hr : Room (n + 2) X.A) (hc : X.calm = true) : CallRK X (.builtin "sorted") [Str.ofString "key"] (fun vs zs H Q => zs = [.ref g] ∧ rSortD X sp vs H Q) := by
  intro pins s σ H vs zs us ws Q I r rz h
  obtain ⟨rfl, α, f, gk, T, D, l, v, rfl, ⟨a, rfl, src⟩, hk, ht, hs, q⟩ := h
  obtain ⟨w1, rfl, e1⟩ := vals1 rz
  obtain rfl : w1 = Value.ref g := e1
  obtain ⟨u, rfl, ru⟩ := vals1 r
  obtain rfl : u = Value.ref a := ru
  have hr2 : Room n X.A.in1.in1 := (show Room (n + 1) X.A.in1 from Room.in1 hr).in1
  refine call_function_entry_kw kind_sorted plain_sorted entry_sorted (ksk_s1 _ _) ?_
  unfold Builtin.«sorted»
  refine wpAny_bind (m := checkCount "sorted" 1 1 _) (wpAny_pure ?_)
  have col : ∀ R : List Value → Shared → Prop, (∀ h' tk us, (∀ b o, s.heap.get? b = some o → h'.get? b = some o) → Vals (l.map f) us → l.length ≤ sizeLine → R us { s with heap := h', toks := tk }) → wpAny (model X.prog X.w) X.A.in1 (collect (.ref a)) R X.xe s := by
    intro R hR
    rcases src with hL | ⟨kvs, hD, ek⟩
    · obtain ⟨its, rv, hl, hz⟩ := I.list hL
      refine collect_list hl.isList (hR _ s.toks its (fun b o e => ?_) rv (by rw [List.length_map] at hz; exact hz)) (by rw [← rv.length]; exact hz)
      have hlt : b < s.heap.objs.size := Heap.lt_size e
      rw [Heap.get?_update_ne _ _ _ _ (Nat.ne_of_lt hlt)]
      exact Heap.get?_push_of_some _ e
    · obtain ⟨z, lo, vs, rel, dd⟩ := dk_rd I.hok hD
      obtain ⟨ep, hat⟩ := dd.dictAt
      have hl : kvs.length = vs.length := Paired.length rel
      refine PySem.W.kdu_collect (A := X.A.in1) (PySem.W.kdl_dict (knd := mixKind X.prog X.w) (kvs := vs) (ep := ep) lo) (I.ok.hd hc) hat (by rw [← hl]; exact z) fun h' tk acc hk hacc => ?_
      have ll : l.length = kvs.length := by
        have := congrArg List.length ek
        rw [List.length_map, List.length_map] at this
        exact this
      refine hR h' tk acc.toList hk ?_ (by rw [ll]; exact z)
      rw [ek]
      have el : acc.toList.length = acc.size := by simp
      refine vals_of_at (by rw [List.length_map, el, hacc.1, hl]) fun j x w h1 h2 => ?_
      obtain ⟨k, y, hky, hi⟩ := hacc.2 j w (by rw [← Array.getElem?_toList]; exact h2)
      have e1 : (kvs.map (·.1))[j]? = some k := by
        rw [KV.keys rel, List.getElem?_map, hky] <;> rfl
      have e2 : (kvs.map fun kv => kV kv.1)[j]? = some (kV k) := by
        have e3 : (kvs.map fun kv => kV kv.1) = (kvs.map (·.1)).map kV := by rw [List.map_map] <;> rfl
        rw [e3, List.getElem?_map, e1] <;> rfl
      rw [e2] at h1
      cases h1
      exact keyIs_rel hi
  refine wpAny_bind (col _ fun h' tk us hkp rv hz => ?_)
  have hul : us.length = l.length := by rw [← rv.length, List.length_map]
  refine wpAny_bind (wpAny_newList ?_ (by rw [hul]; exact hz))
  have I1 : Inv X pins σ H { s with heap := h', toks := tk } := I.kept hkp
  have hoL : (h'.push (seqObj "list" us.toArray 0)).get? h'.objs.size = some (seqObj "list" us.toArray 0) := Heap.get?_push_size _ rfl
  have hfr : H h'.objs.size = none := I1.hok.fresh (Nat.le_refl _)
  have fp : FpOk X pins H h'.objs.size := I1.fpOk (Nat.le_refl _) hfr
  have I2 : Inv X pins σ H { s with heap := h'.push (seqObj "list" us.toArray 0), toks := tk } := I1.kept fun b o e => Heap.get?_push_of_some _ e
  show wpAny _ _ _ _ _ { s with heap := h'.push (seqObj "list" us.toArray 0), toks := tk }
  refine wpAny_bind (wpAny_holding (wpAny_call_entry_kw slot_list_sort ⟨_, hoL, rfl⟩ entry_list_sort ?body (ksk_l1 _ _)))
  case body =>
    show wpAny (model X.prog X.w) X.A.in1.in1 (Builtin.«list.sort» ⟨[.ref h'.objs.size], [(Str.ofString "key", .ref g)]⟩) _ _ _
    rw [ksk_t1]
    refine list_sort_keyD D I2 F hr2 hoL fp rv hz hk ht hs fun l' s' H' pl po J sm hp => ⟨_, rfl, ?_⟩
    exact wpAny_pure ⟨_, rfl, .ref h'.objs.size, H', J, rfl, q l' _ H' pl po hfr sm hp⟩
end
section
variable {X : Cx} {k j : Nat} {x : Str} {sp : Sp} {p p2 pos kpos : Pos} {e : Expr} {t : TA}
def tSortD (X : Cx) (sp : Sp) (t : TA) : TE := fun σ H Q => t σ H fun vs H1 => rSortD X sp vs H1 Q
/-- sorted(e, key=f), f a def of the text -/
theorem pe_sortD (c : Cal X.prog X.w X.K X.mg X.base CX0 k x sp) (hr : Room j X.A) (hk : k + 2 ≤ j) (hc : X.calm = true) (hg : Gl X "sorted") (hm : X.mg "sorted" = none) (hgx : Gl X x) (ha : PA X [e] t)
    (hdb : (x == ("__debug__" : Str)) = false := by decide)
    (he : backTo pos (starEach [e] X.env) = (false, eval e X.env) :: backTo pos (starEach [] X.env) := by rfl) (hpl : (backTo pos (starEach [e] X.env)).any (·.1) = false := by rfl) :
    PE X (.Call (.Name "sorted" p) [e] [⟨some (Str.ofString "key"), .Name x p2, kpos⟩] pos) (tSortD X sp t) := by
  obtain ⟨f, fd, ps, F, hmx, kp, b⟩ := c.ex
  have P0 := pe_callBK (p := p) (pos := pos) (cr_sortKeyD (fnR_of F b) (hr.mono hk) hc) hg hm (by rfl) ha (pk_cons (kpos := kpos) (nm := some (Str.ofString "key")) (pe_glob (pos := p2) (v := .ref f) hgx hmx rfl hdb) pk_nil) (by decide) (by decide) he hpl
  refine ⟨fun pins s σ H Q I h => P0.run pins s σ H Q I ?_⟩
  have e9 : (fun (vs : List V) (H1 : Hp) => ([V.ref f] : List V) = [.ref f] ∧ rSortD X sp vs H1 Q) = fun vs H1 => rSortD X sp vs H1 Q := by
    funext vs H1
    exact propext ⟨fun h => h.2, fun h => ⟨rfl, h⟩⟩
  show t σ H fun vs H1 => ([V.ref f] : List V) = [.ref f] ∧ rSortD X sp vs H1 Q
  rw [e9]
  exact h
end
/-! ### a thing ahead of a tuple -/
def NestA {α : Type} (gk : α → List V) (H : Hp) (q : Addr) (y : α) : Prop := ∃ x ks r, gk y = x :: ks ∧ H q = some (.tup [x, .ref r]) ∧ H r = some (.tup ks)
def kvN (H : Hp) : Value → List V
  | .ref q => match H q with
    | some (.tup [x, .ref r]) => match H r with
      | some (.tup ks) => x :: ks
      | _ => []
    | _ => []
  | _ => []
theorem kvN_at {α : Type} {gk : α → List V} {H : Hp} {q : Addr} {y : α} (h : NestA gk H q y) : kvN H (.ref q) = gk y := by
  obtain ⟨x, ks, r, e, h1, h2⟩ := h
  unfold kvN
  simp only [h1, h2, e]
def NestV (h : Heap) (v : Value) (ks : List V) : Prop := ∃ (a b : Addr) (o o' : Obj) (x : V) (rs : List V) (u : Value) (its : List Value) (n m : Nat), ks = x :: rs ∧ v = .ref a ∧ h.get? a = some o ∧ o.cls = .type "tuple" ∧ o.data = .seq #[u, .ref b] n ∧ RelV x u ∧ h.get? b = some o' ∧ o'.cls = .type "tuple" ∧ o'.data = .seq its.toArray m ∧ Vals rs its
theorem nestV_of {X : Cx} {α : Type} {gk : α → List V} {pins : List (Addr × Obj)} {σ : L2.St} {H : Hp} {s : Shared} {q : Addr} {y : α} (I : Inv X pins σ H s) (h : NestA gk H q y) : NestV s.heap (.ref q) (gk y) := by
  obtain ⟨x, ks, r, e, h1, h2⟩ := h
  obtain ⟨_, its, rv, o, ho, hc, n, hd⟩ := I.hok q _ h1
  obtain ⟨_, its2, rv2, o2, ho2, hc2, n2, hd2⟩ := I.hok r _ h2
  cases rv with
  | cons r1 t1 =>
    cases t1 with
    | cons r2 t2 =>
      cases t2
      rename_i u w
      obtain rfl : w = Value.ref r := r2
      exact ⟨q, r, o, o2, x, ks, u, its2, n, n2, e, rfl, ho, hc, hd, r1, ho2, hc2, hd2, rv2⟩
def dat : V → PyData
  | .int i => .int i
  | .str s => .str s
  | _ => .none
def Plain : V → Prop
  | .int _ => True
  | .str _ => True
  | _ => False
theorem reads_dat {h : Heap} {x : V} {u : Value} (hp : Plain x) (r : RelV x u) : Reads h u (dat x) [] := by
  cases x <;> first | exact hp.elim | skip
  · obtain ⟨t, rfl⟩ := r; exact .int _ _
  · obtain ⟨t, rfl⟩ := r; exact .str _ _
theorem reads_dats {h : Heap} : ∀ {ks : List V} {us : List Value}, (∀ x ∈ ks, Plain x) → Vals ks us → ReadsAll h us (ks.map dat) []
  | [], _, _, .nil => .nil
  | x :: ks, _, hp, .cons r t => by
    have := ReadsAll.cons (reads_dat (h := h) (hp x List.mem_cons_self) r) (reads_dats (fun y m => hp y (List.mem_cons_of_mem _ m)) t)
    exact this
theorem plain_same : ∀ {x y : V}, sameK x y = true → Plain x ∧ Plain y := by
  intro x y h
  cases x <;> cases y <;> first | exact ⟨trivial, trivial⟩ | cases h
theorem alike_dat {x y : V} (h : sameK x y = true) : PySem.W.alike (dat x) (dat y) = true := by
  cases x <;> cases y <;> first | rfl | cases h
theorem eqv_dat {x y : V} (h : sameK x y = true) : PyData.eqv (dat x) (dat y) = decide (x = y) := by
  cases x <;> cases y <;> first | cases h | skip
  · rename_i i j
    show (i == j) = _
    rw [Bool.eq_iff_iff]; simp
  · rename_i i j
    show (i == j) = _
    rw [Bool.eq_iff_iff]; simp
theorem lt_dat {x y : V} (h : sameK x y = true) : PySem.W.dataLt (dat x) (dat y) = vLt x y := by
  cases x <;> cases y <;> first | cases h | skip
  · exact PySem.W.dataLt_int _ _
  · exact PySem.W.dataLt_str _ _
theorem alike_dats : ∀ {a b : List V}, sameKs a b = true → PySem.W.alikeAll (a.map dat) (b.map dat) = true
  | [], _, _ => rfl
  | _ :: _, [], _ => rfl
  | x :: xs, y :: ys, h => by
    have h' : (sameK x y && sameKs xs ys) = true := h
    rw [Bool.and_eq_true] at h'
    show (PySem.W.alike (dat x) (dat y) && PySem.W.alikeAll _ _) = true
    rw [alike_dat h'.1, alike_dats h'.2]; rfl
theorem eqv_dats : ∀ {a b : List V}, sameKs a b = true → PyData.eqvAll (a.map dat) (b.map dat) = decide (a = b)
  | [], [], _ => rfl
  | [], _ :: _, _ => rfl
  | _ :: _, [], _ => rfl
  | x :: xs, y :: ys, h => by
    have h' : (sameK x y && sameKs xs ys) = true := h
    rw [Bool.and_eq_true] at h'
    show (PyData.eqv (dat x) (dat y) && PyData.eqvAll _ _) = _
    rw [eqv_dat h'.1, eqv_dats h'.2, Bool.eq_iff_iff]
    simp
theorem toks_tup : ∀ {a b : List V}, sameKs a b = true → lexLt itemOrd (PySem.W.keyToksAll (a.map dat)) (PySem.W.keyToksAll (b.map dat)) = tupLt a b
  | [], [], _ => by rw [PyProof.Rows.lex_irrefl]; simp [tupLt]
  | [], _ :: _, _ => by
    rw [List.map_cons, PySem.W.toks_all_cons]
    simp only [List.map_nil, PySem.W.keyToksAll]
    rw [lex_diff (O := itemOrd) (by simp)]
    simp [itemLt, tupLt]
  | _ :: _, [], _ => by
    rw [List.map_cons, PySem.W.toks_all_cons]
    simp only [List.map_nil, PySem.W.keyToksAll]
    rw [lex_diff (O := itemOrd) (by simp)]
    simp [itemLt, tupLt]
  | x :: xs, y :: ys, h => by
    have h' : (sameK x y && sameKs xs ys) = true := h
    rw [Bool.and_eq_true] at h'
    rw [List.map_cons, List.map_cons]
    unfold tupLt
    by_cases e : x = y
    · rw [if_pos e, PySem.W.dataLt_all_yes (alike_dat h'.1) (by rw [eqv_dat h'.1]; exact decide_eq_true e), toks_tup h'.2]
    · rw [if_neg e, PySem.W.dataLt_all_no (alike_dat h'.1) (by rw [eqv_dat h'.1]; exact decide_eq_false e), lt_dat h'.1]
theorem tupLt_self (a : List V) : sameKs a a = true → tupLt a a = false := fun h => by
  rw [tup_cLt h]
  exact decide_eq_false (List.lt_irrefl _)
theorem toks_nest {x y : V} {a b : List V} (h : sameK x y = true) (g : sameKs a b = true) : lexLt itemOrd (PySem.W.keyToksAll [dat x, .tuple (a.map dat)]) (PySem.W.keyToksAll [dat y, .tuple (b.map dat)]) = tupLt (x :: a) (y :: b) := by
  have ga : PySem.W.alike (.tuple (a.map dat)) (.tuple (b.map dat)) = true := alike_dats g
  show _ = (if x = y then tupLt a b else vLt x y)
  by_cases e : x = y
  · rw [if_pos e, PySem.W.dataLt_all_yes (alike_dat h) (by rw [eqv_dat h]; exact decide_eq_true e)]
    by_cases e2 : a = b
    · subst e2
      rw [PyProof.Rows.lex_irrefl]
      exact (tupLt_self a g).symm
    · have : PyData.eqv (.tuple (a.map dat)) (.tuple (b.map dat)) = false := by
        show PyData.eqvAll _ _ = false
        rw [eqv_dats g]; exact decide_eq_false e2
      rw [PySem.W.dataLt_all_no ga this, PySem.W.dataLt_tuple, toks_tup g]
  · rw [if_neg e, PySem.W.dataLt_all_no (alike_dat h) (by rw [eqv_dat h]; exact decide_eq_false e), lt_dat h]
theorem dep_dats : ∀ (a : List V), PyData.depthAll (a.map dat) ≤ 1
  | [] => by decide
  | x :: a => by
    have := dep_dats a
    cases x <;> (simp only [List.map_cons, PyData.depthAll, dat, PyData.depth] at *; omega)
section
variable {prog : Program} {w : World} {A : Around} {s : Shared} {E : Value → Shared → Prop}
theorem plain_all : ∀ {l : List V}, sameKs l l = true → ∀ z ∈ l, Plain z
  | x :: xs, h, z, hz => by
    have h' : (sameK x x && sameKs xs xs) = true := h
    rw [Bool.and_eq_true] at h'
    rcases List.mem_cons.mp hz with rfl | hz
    · exact (plain_same h'.1).1
    · exact plain_all h'.2 z hz
theorem dat_not_tup (x : V) (t : List PyData) : dat x ≠ .tuple t := by
  cases x <;> intro h <;> cases h
theorem dep_dat (x : V) : PyData.depth (dat x) ≤ 1 := by
  cases x <;> (simp only [dat, PyData.depth]; first | omega | decide)
theorem nest_cmp {b : Bool} {vs : List Value} {k : Value → List V} (hu : A.units + 64 < cLine) (hp : ∀ v ∈ vs, NestV s.heap v (k v)) (hs : ∀ v ∈ vs, ∀ u ∈ vs, sameKs (k v) (k u) = true) : SrtO.Cmp prog w A s (tuples' b) (fun p => p.1 ∈ vs) (SrtO.lt2 fun v u => cLt (k v) (k u)) := by
  intro p q hm hm'
  show wpAny (model prog w) A (keyLt' (tuples' b) p.1 q.1) (fun r s' => s' = s ∧ r = cLt (k p.1) (k q.1)) (fun _ _ => False) s
  rw [← tup_cLt (hs _ hm _ hm')]
  have h2 := hs _ hm _ hm'
  have hA := hs _ hm _ hm
  have hB := hs _ hm' _ hm'
  have hpp := hp _ hm
  have hqq := hp _ hm'
  generalize k p.1 = kp at hpp h2 hA ⊢
  generalize k q.1 = kq at hqq h2 hB ⊢
  obtain ⟨a, c, o, o2, x, rs, u, its, n, m, rfl, e, ho, hc, hd, rx, ho2, hc2, hd2, rv⟩ := hpp
  obtain ⟨a', c', o', o2', x', rs', u', its', n', m', rfl, e', ho', hc', hd', rx', ho2', hc2', hd2', rv'⟩ := hqq
  have h' : (sameK x x' && sameKs rs rs') = true := h2
  rw [Bool.and_eq_true] at h'
  have pA := plain_all hA
  have pB := plain_all hB
  have r1 : ReadsAll s.heap [u, .ref c] [dat x, .tuple (rs.map dat)] [] := ReadsAll.cons (reads_dat (pA _ List.mem_cons_self) rx) (ReadsAll.cons (Reads.tuple ho2 hc2 hd2 (reads_dats (fun z hz => pA z (List.mem_cons_of_mem _ hz)) rv)) .nil)
  have r2 : ReadsAll s.heap [u', .ref c'] [dat x', .tuple (rs'.map dat)] [] := ReadsAll.cons (reads_dat (pB _ List.mem_cons_self) rx') (ReadsAll.cons (Reads.tuple ho2' hc2' hd2' (reads_dats (fun z hz => pB z (List.mem_cons_of_mem _ hz)) rv')) .nil)
  rw [e, e']
  refine PySem.W.kat_lt ho hd ho' hd' ?_
  refine PySem.W.katLex_alike (Q := fun b s' => s' = s ∧ b = tupLt (x :: rs) (x' :: rs')) [dat x, .tuple (rs.map dat)] [dat x', .tuple (rs'.map dat)] 0 _ _ _ _ r1 r2 ?_ ?_ (fun _ _ y r t ey => ?_) rfl ⟨rfl, toks_nest h'.1 h'.2⟩
  · show (PySem.W.alike (dat x) (dat x') && (PySem.W.alikeAll (rs.map dat) (rs'.map dat) && true)) = true
    rw [alike_dat h'.1, alike_dats h'.2]; rfl
  · have d1 := dep_dats rs
    have d2 := dep_dat x
    have : PyData.depthAll [dat x, .tuple (rs.map dat)] ≤ 64 := by
      simp only [PyData.depthAll, PyData.depth]
      omega
    have m1 := Nat.min_le_left (PyData.depthAll [dat x, .tuple (rs.map dat)]) (PyData.depthAll [dat x', .tuple (rs'.map dat)])
    omega
  · cases ey
    exact dat_not_tup _ _
open Classical in
theorem nest_kind {T : String} {vs : List Value} {k : Value → List V} {Q : SortKind → Shared → Prop} (h0 : 0 < vs.length) (hp : ∀ v ∈ vs, NestV s.heap v (k v)) (ht : ∀ v ∈ vs, Head T (k v)) (hq : Q (tuples' (Value.type T != Value.type "tuple")) s) : wpAny (model prog w) A (keyKind' vs.toArray) Q E s := by
  have hx : ∀ v ∈ vs, ∃ ks, TupV s.heap v ks ∧ Head T ks := by
    intro v hv
    have hpp := hp v hv
    have hh := ht v hv
    obtain ⟨a, c, o, o2, x, rs, u, its, n, m, e1, e, ho, hc, hd, rx, _⟩ := hpp
    obtain ⟨y, r, ek, fx⟩ := hh
    rw [e1] at ek
    cases ek
    exact ⟨[x, .ref c], ⟨a, o, [u, .ref c], n, e, ho, hc, hd, .cons rx (.cons rfl .nil)⟩, x, _, rfl, fx⟩
  let k' : Value → List V := fun v => if h : ∃ ks, TupV s.heap v ks ∧ Head T ks then h.choose else []
  have hk : ∀ v ∈ vs, TupV s.heap v (k' v) ∧ Head T (k' v) := by
    intro v hv
    have h := hx v hv
    show TupV s.heap v (if h : ∃ ks, TupV s.heap v ks ∧ Head T ks then h.choose else []) ∧ Head T (if h : ∃ ks, TupV s.heap v ks ∧ Head T ks then h.choose else [])
    rw [dif_pos h]
    exact h.choose_spec
  exact tup_kind (k := k') h0 (fun v hv => (hk v hv).1) (fun v hv => (hk v hv).2) hq
end
/-- keys: a thing, and a tuple of things -/
def keyN (X : Cx) {α : Type} (gk : α → List V) (T : String) : KeyD X gk T where
  At := NestA gk
  kv := kvN
  VV := NestV
  kv_at := kvN_at
  same := fun ⟨x, ks, r, e, h1, h2⟩ s => ⟨x, ks, r, e, s _ _ h1, s _ _ h2⟩
  wr := fun ⟨x, ks, r, e, h1, h2⟩ hp => ⟨x, ks, r, e, by rw [upd_ne (ne_of h1 hp (by intro z; cases z))]; exact h1, by rw [upd_ne (ne_of h2 hp (by intro z; cases z))]; exact h2⟩
  vof := nestV_of
  kind := nest_kind
  cmp := nest_cmp
end Sh
set_option Elab.async false
set_option linter.all false
set_option maxRecDepth 100000
set_option maxHeartbeats 4000000
namespace Sh
open PySem PySem.Spec PyProof.Rows L2
open SX (S S_inj S_len S_cat)
local macro_rules | `(tactic| walk_at "nx") => `(tactic| repeat (with_reducible first | refine Sh.gn_mk ?_ | refine Sh.nx_mk ?_ | refine Sh.st_nx ?_ | refine Sh.rt_mk ?_ | refine Sh.ct_mk ?_ | refine Sh.bk_mk ?_))
local macro_rules | `(tactic| walk_at "sq") => `(tactic| first | exact SqL.of upd_same | exact SqT.of upd_same | exact SqL.of (by assumption) | exact SqT.of (by assumption) | assumption | exact Or.inl (SqL.of (by assumption)) | exact Or.inr (SqT.of (by assumption)) | exact Or.inl (by assumption) | exact Or.inr (by assumption))
local macro_rules | `(tactic| walk_at "hp") => `(tactic| first | exact upd_same | assumption)
local macro_rules | `(tactic| walk_at "sz") => `(tactic| first | exact Nat.le_of_ble_eq_true rfl | omega)
local macro_rules | `(tactic| walk_at "sd") => `(tactic| first | omega | exact rfl | assumption | (show (0 : Int) < _; omega) | exact And.intro (by omega) (by omega) | exact Or.inl (And.intro (by omega) (by omega)) | exact Or.inr (And.intro (by omega) (by omega)) | omega | exact Sh.sz_S (by omega) | decide)
local macro_rules | `(tactic| walk_at "rd1") => `(tactic| first
  | (with_reducible first | refine Sh.gn_mk ?_ | refine Sh.nx_mk ?_ | refine Sh.st_nx ?_ | refine Sh.rt_mk ?_ | refine Sh.ct_mk ?_ | refine Sh.bk_mk ?_)
  | refine Exists.intro (α := V) _ (And.intro rfl ?_)
  | refine Exists.intro (α := Bool) _ (And.intro rfl ?_)
  | refine Exists.intro (α := Int) _ (And.intro rfl ?_)
  | refine Exists.intro (α := PySem.Str) _ (And.intro rfl ?_)
  | refine Exists.intro (α := Int) _ (Exists.intro (α := Int) _ (And.intro rfl (And.intro rfl ?_)))
  | refine Exists.intro (α := PySem.Str) _ (Exists.intro (α := PySem.Str) _ (And.intro rfl (And.intro rfl ?_)))
  | refine Exists.intro (α := Int) _ (Exists.intro (α := Int) _ (And.intro rfl ?_))
  | refine Or.inl (Exists.intro (α := Int) _ (And.intro rfl ?_))
  | refine Exists.intro _ (Exists.intro _ (Exists.intro _ (Exists.intro _ (And.intro rfl (And.intro rfl (And.intro (by walk_at "sq") (And.intro rfl ?_)))))))
  | refine Exists.intro _ (Exists.intro _ (Exists.intro _ (Exists.intro _ (And.intro rfl (And.intro rfl (And.intro (by walk_at "hp") (And.intro rfl ?_)))))))
  | refine And.intro (by walk_at "sd") ?_
  )
local macro_rules | `(tactic| walk_at "rd") => `(tactic| repeat walk_at "rd1")
local macro_rules | `(tactic| walk_at "lk") => `(tactic| first | exact rfl | (rw [lookup_putF, if_pos rfl]) | (rw [lookup_putF, if_neg (by decide +kernel)]; walk_at "lk"))

section
variable {P : Program} {w : World} {K : PySem.W.Frag} {mg : Str → Option Value} {base : Heap} {C0 XA FA DI XS FS DT SE : Addr}
theorem cd_inj {x y : V} (hx : Plain x) (hy : Plain y) (h : cd x = cd y) : x = y := by
  cases x <;> first | exact hx.elim | skip
  · cases y <;> first | exact hy.elim | skip
    · exact ((cd_eq rfl).mpr h)
    · simp [cd] at h
  · cases y <;> first | exact hy.elim | skip
    · simp [cd] at h
    · exact ((cd_eq rfl).mpr h)
theorem cds_inj : ∀ {a b : List V}, (∀ x ∈ a, Plain x) → (∀ x ∈ b, Plain x) → a.map cd = b.map cd → a = b
  | [], [], _, _, _ => rfl
  | [], _ :: _, _, _, h => by simp at h
  | _ :: _, [], _, _, h => by simp at h
  | x :: a, y :: b, ha, hb, h => by
    rw [List.map_cons, List.map_cons] at h
    obtain ⟨h1, h2⟩ := List.cons.inj h
    rw [cd_inj (ha x List.mem_cons_self) (hb y List.mem_cons_self) h1, cds_inj (fun z m => ha z (List.mem_cons_of_mem _ m)) (fun z m => hb z (List.mem_cons_of_mem _ m)) h2]
/-- an edge in a tuple -/
def EdT (K : PySem.W.Frag) (H : Hp) (v : V) (e : Eg) : Prop := ∃ q, v = .ref q ∧ SqT K H q (eTup e)
theorem EdT.keep {H H' : Hp} {v : V} {e : Eg} (h : EdT K H v e) (s : Keep H H') : EdT K H' v e := let ⟨q, e1, h⟩ := h; ⟨q, e1, s.seq h⟩
theorem EdT.x {H : Hp} {v : V} {e : Eg} (h : EdT K H v e) : EdX K H v e := let ⟨q, e1, h⟩ := h; ⟨q, e1, .inr h⟩
/-- an edge in a list of its own -/
def EdN (D : Addr) (H : Hp) (v : V) (e : Eg) : Prop := ∃ q, v = .ref q ∧ q ≠ D ∧ H q = some (.lst (eTup e))
def dV (d : Nat) : V := .int (d : Nat)
/-- an automaton in tuples -/
structure AutT (K : PySem.W.Frag) (H : Hp) (q : Addr) (m : Nat) (qe : Addr) (eys : List V) (es : List Eg) (qd : Addr) (ds : List Nat) : Prop where
  sq : SqT K H q [.int (m : Nat), .ref qe, .ref qd]
  se : SqT K H qe eys
  ie : Items (EdT K) H eys es
  sd : SqT K H qd (ds.map dV)
theorem AutT.keep {H H' : Hp} {q qe qd : Addr} {m : Nat} {eys : List V} {es : List Eg} {ds : List Nat} (h : AutT K H q m qe eys es qd ds) (k : Keep H H') : AutT K H' q m qe eys es qd ds :=
  ⟨k.seq h.sq, k.seq h.se, h.ie.mono fun _ _ z => z.keep k, k.seq h.sd⟩
def spListedA (K : PySem.W.Frag) : Sp := fun vs H Q _ => ∃ (q : Addr) (m : Nat) (qe : Addr) (eys : List V) (es : List Eg) (qd : Addr) (ds : List Nat), vs = [.ref q] ∧ AutT K H q m qe eys es qd ds ∧ es.length ≤ 500 ∧
  ∀ (l le : Addr) (zs : List V) (ld : Addr) (H' : Hp), Same H H' → SqL K H' l [.int (m : Nat), .ref le, .ref ld] → SqL K H' le zs → Items (EdX K) H' zs es → SqL K H' ld (ds.map dV) → Q (.ref l) H'
theorem c__law_listed (T : Txt K mg) : Cal P w K mg base CX0 1 "_law_listed" (spListedA K) := by
  refine Cal.mk0 T.d__law_listed sc__law_listed (fun vs H Q E h => ?_) (fun f cdv A outer s H vs Q E hr h => ?_)
  · obtain ⟨q, m, qe, eys, es, qd, ds, rfl, _⟩ := h
    rfl
  · obtain ⟨q, m, qe, eys, es, qd, ds, rfl, A1, he, k⟩ := h
    refine ⟨_, (pss_one (ps_ret (pe_lst (pa_cons (pe_ix ix_tup (pv 0) pe_int (fun _ _ => rfl)) (pa_cons (pe_lc (own := [("_law_edge", 1)]) (g := gName 1) (tt := tYes) rfl sc__law_listed.nd (pi_tup (pe_ix ix_tup (pv 0) pe_int (fun _ _ => rfl))) (blkOk_by (N := ["_law_automaton", "_law_edge"]) (sc := defScope s__law_listed) (by decide +kernel)) (fun _ _ _ _ _ => (pg_name (i := 1) sc__law_listed.nd rfl (Or.inl rfl))) (fun _ _ _ _ _ => pts_nil) (fun _ _ _ _ _ => (pe_callTy call_list_ofB (by rfl) T.b_list (by decide +kernel) (pa_cons (pv 1) pa_nil)))) (pa_cons (pe_callTy call_list_of (by rfl) T.b_list (by decide +kernel) (pa_cons (pe_ix ix_tup (pv 0) pe_int (fun _ _ => rfl)) pa_nil)) pa_nil)))))), ?_⟩
    walk_at "rd"
    refine ⟨q, _, _, _, rfl, rfl, A1.sq, atI_at (Int.le_refl 0) rfl, ?_⟩
    refine ⟨_, rfl, ⟨q, _, _, _, rfl, rfl, A1.sq, atI_at (show (0 : Int) ≤ 1 by decide) rfl, ?_⟩⟩
    refine ⟨qe, rfl, ⟨_, A1.se⟩, fun D9 hD => lc_tupR (K := K) (a := qe) (xs := eys) (l := es) (Rel := EdT K) A1.ie.1
      (fun pre H3 => ∃ acc, H3 D9 = some (.lst acc) ∧ Items (EdN D9) H3 acc pre ∧ Same H H3) ⟨[], upd_same, Items.nil, same_new hD⟩
      (fun pre H3 ⟨_, _, _, s3⟩ => ⟨(Keep.same s3).seq A1.se, fun i x y h1 h2 => (A1.ie.2 i x y h1 h2).keep (Keep.same s3)⟩) ?_ ?_⟩
    · rintro pre y post xv H3 e hx ⟨qr, rfl, sq⟩ ⟨acc, h3, it3, s3⟩
      refine ⟨rfl, ty_T ?_⟩
      refine ⟨_, rfl, qr, _, rfl, .inr sq, fun l hl => ?_⟩
      have s4 := same_new (o := .lst (eTup y)) hl
      have e4 : (upd H3 l (.lst (eTup y))) l = some (.lst (eTup y)) := upd_same
      generalize upd H3 l (.lst (eTup y)) = H4 at s4 e4 ⊢
      have hlD : l ≠ D9 := by
        intro e5
        rw [e5, h3] at hl
        cases hl
      refine ⟨acc, s4 _ _ h3, ?_, acc ++ [.ref l], upd_same, it3.snoc (fun x z h => ?_) ⟨l, rfl, hlD, by rw [upd_ne hlD]; exact e4⟩, same_mut (s3.trans s4) hD⟩
      · have z1 := it3.1
        have z2 := congrArg List.length e
        rw [List.length_append, List.length_cons] at z2
        exact Nat.lt_of_le_of_lt (m := 500) (by omega) (by decide)
      · obtain ⟨q9, rfl, hn, h9⟩ := h
        exact ⟨q9, rfl, hn, by rw [upd_ne hn]; exact s4 _ _ h9⟩
    · rintro H3 ⟨acc, h3, it3, s3⟩
      have k3 := Keep.same s3
      refine ⟨_, rfl, ⟨q, _, _, _, rfl, rfl, k3.seq A1.sq, atI_at (show (0 : Int) ≤ 2 by decide) rfl, ?_⟩⟩
      refine ⟨qd, _, rfl, .inr (k3.seq A1.sd), fun l hl => ?_⟩
      have s4 := same_new (o := .lst (ds.map dV)) hl
      have e4 : (upd H3 l (.lst (ds.map dV))) l = some (.lst (ds.map dV)) := upd_same
      generalize upd H3 l (.lst (ds.map dV)) = H4 at s4 e4 ⊢
      refine ⟨by walk_at "sz", fun l2 hl2 => ?_⟩
      have s5 := same_new (o := .lst [.int (m : Nat), .ref D9, .ref l]) hl2
      have s45 := s4.trans s5
      exact k l2 D9 acc l _ (s3.trans s45) (SqL.of upd_same) (SqL.of (s45 _ _ h3)) ⟨it3.1, fun i x y h1 h2 => (let ⟨q9, e9, _, h9⟩ := it3.2 i x y h1 h2; ⟨q9, e9, .inl (SqL.of (s45 _ _ h9))⟩)⟩ (SqL.of (s5 _ _ e4))
/-! ### a drawn automaton -/
theorem eTup_plain (e : Eg) : ∀ x ∈ eTup e, Plain x := by
  intro x hx
  simp only [eTup, List.mem_cons, List.not_mem_nil, or_false] at hx
  rcases hx with rfl | rfl | rfl <;> trivial
theorem eTup_inj {a b : Eg} (h : eTup a = eTup b) : a = b := by
  obtain ⟨a1, a2, a3⟩ := a
  obtain ⟨b1, b2, b3⟩ := b
  simp only [eTup, List.cons.injEq, V.int.injEq, V.str.injEq] at h
  obtain ⟨h1, h2, h3, _⟩ := h
  have e1 : a1 = b1 := by exact_mod_cast h1
  have e2 := S_inj h2
  have e3 : a3 = b3 := by exact_mod_cast h3
  subst e1 e2 e3
  rfl
theorem eLt_c (a b : Eg) : eLt a b = cLt (eTup a) (eTup b) := tup_cLt (eKs a b)
theorem eLt_irr (a : Eg) : eLt a a = false := by
  rw [eLt_c]
  exact decide_eq_false (List.lt_irrefl _)
theorem eLt_trans {a b c : Eg} (h1 : eLt a b = true) (h2 : eLt b c = true) : eLt a c = true := by
  rw [eLt_c] at *
  exact decide_eq_true (List.lt_trans (of_decide_eq_true h1) (of_decide_eq_true h2))
theorem eLt_asymm {a b : Eg} (h1 : eLt a b = true) : eLt b a = false := by
  cases h : eLt b a with
  | false => rfl
  | true => rw [← eLt_irr a, eLt_trans h1 h]
theorem eLt_total {a b : Eg} (h : eLt b a = false) (hn : a ≠ b) : eLt a b = true := by
  rw [eLt_c] at *
  refine decide_eq_true ?_
  have h1 := List.not_lt.mp (of_decide_eq_false h)
  rcases Classical.em ((eTup a).map cd < (eTup b).map cd) with z | z
  · exact z
  · exact absurd (eTup_inj (cds_inj (eTup_plain a) (eTup_plain b) (List.le_antisymm h1 (List.not_lt.mp z)))) hn
end
end Sh
set_option Elab.async false
set_option linter.all false
set_option maxRecDepth 100000
set_option maxHeartbeats 4000000
namespace Sh
open PySem PySem.Spec PyProof.Rows L2
open SX (S S_inj S_len S_cat)
local macro_rules | `(tactic| walk_at "nx") => `(tactic| repeat (with_reducible first | refine Sh.gn_mk ?_ | refine Sh.nx_mk ?_ | refine Sh.st_nx ?_ | refine Sh.rt_mk ?_ | refine Sh.ct_mk ?_ | refine Sh.bk_mk ?_))
local macro_rules | `(tactic| walk_at "sq") => `(tactic| first | exact SqL.of upd_same | exact SqT.of upd_same | exact SqL.of (by assumption) | exact SqT.of (by assumption) | assumption | exact Or.inl (SqL.of (by assumption)) | exact Or.inr (SqT.of (by assumption)) | exact Or.inl (by assumption) | exact Or.inr (by assumption))
local macro_rules | `(tactic| walk_at "hp") => `(tactic| first | exact upd_same | assumption)
local macro_rules | `(tactic| walk_at "sz") => `(tactic| first | exact Nat.le_of_ble_eq_true rfl | omega)
local macro_rules | `(tactic| walk_at "sd") => `(tactic| first | omega | exact rfl | assumption | (show (0 : Int) < _; omega) | exact And.intro (by omega) (by omega) | exact Or.inl (And.intro (by omega) (by omega)) | exact Or.inr (And.intro (by omega) (by omega)) | omega | exact Sh.sz_S (by omega) | decide)
local macro_rules | `(tactic| walk_at "rd1") => `(tactic| first
  | (with_reducible first | refine Sh.gn_mk ?_ | refine Sh.nx_mk ?_ | refine Sh.st_nx ?_ | refine Sh.rt_mk ?_ | refine Sh.ct_mk ?_ | refine Sh.bk_mk ?_)
  | refine Exists.intro (α := V) _ (And.intro rfl ?_)
  | refine Exists.intro (α := Bool) _ (And.intro rfl ?_)
  | refine Exists.intro (α := Int) _ (And.intro rfl ?_)
  | refine Exists.intro (α := PySem.Str) _ (And.intro rfl ?_)
  | refine Exists.intro (α := Int) _ (Exists.intro (α := Int) _ (And.intro rfl (And.intro rfl ?_)))
  | refine Exists.intro (α := PySem.Str) _ (Exists.intro (α := PySem.Str) _ (And.intro rfl (And.intro rfl ?_)))
  | refine Exists.intro (α := Int) _ (Exists.intro (α := Int) _ (And.intro rfl ?_))
  | refine Or.inl (Exists.intro (α := Int) _ (And.intro rfl ?_))
  | refine Exists.intro _ (Exists.intro _ (Exists.intro _ (Exists.intro _ (And.intro rfl (And.intro rfl (And.intro (by walk_at "sq") (And.intro rfl ?_)))))))
  | refine Exists.intro _ (Exists.intro _ (Exists.intro _ (Exists.intro _ (And.intro rfl (And.intro rfl (And.intro (by walk_at "hp") (And.intro rfl ?_)))))))
  | refine And.intro (by walk_at "sd") ?_
  )
local macro_rules | `(tactic| walk_at "rd") => `(tactic| repeat walk_at "rd1")
local macro_rules | `(tactic| walk_at "lk") => `(tactic| first | exact rfl | (rw [lookup_putF, if_pos rfl]) | (rw [lookup_putF, if_neg (by decide +kernel)]; walk_at "lk"))

theorem hu65_of {k : Nat} {A : Around} (hr : Room k A) : A.units + 65 < cLine := by
  have := hr.un
  omega
theorem eD_eqv (a b : Eg) : PyData.eqv (eD a) (eD b) = decide (a = b) := by
  obtain ⟨x, y, z⟩ := a
  obtain ⟨x', y', z'⟩ := b
  show ((((x : Nat) : Int) == ((x' : Nat) : Int)) && ((S y == S y') && ((((z : Nat) : Int) == ((z' : Nat) : Int)) && true))) = _
  rw [Bool.eq_iff_iff]
  simp only [Bool.and_eq_true, beq_iff_eq, decide_eq_true_eq, Bool.true_eq, and_true, Prod.mk.injEq]
  constructor
  · rintro ⟨h1, h2, h3⟩
    exact ⟨by exact_mod_cast h1, S_inj h2, by exact_mod_cast h3⟩
  · rintro ⟨rfl, rfl, rfl⟩
    exact ⟨rfl, rfl, rfl⟩
def Chars (t : List Nat) : Prop := ∀ c ∈ t, c < 1114112
theorem strOk_S {t : List Nat} (h : Chars t) : PyData.strOk (S t) = true := by
  unfold PyData.strOk
  show (Array.all _ _) = true
  rw [← Array.all_toList, List.all_eq_true]
  intro c hc
  exact decide_eq_true (h c hc)
theorem shaped_eD {e : Eg} (h : Chars e.2.1) : SeqAt.shaped (eD e) = true := by
  unfold SeqAt.shaped
  rw [Bool.and_eq_true]
  refine ⟨?_, decide_eq_true (show (1 : Nat) ≤ 64 by decide)⟩
  show (true && (PyData.strOk (S e.2.1) && (true && true))) = true
  rw [strOk_S h]; rfl
theorem lay_eDs : ∀ {R : List Eg}, (∀ e ∈ R, Chars e.2.1) → PyData.canLayAll0 (R.map eD) = true ∧ PyData.depthAll (R.map eD) ≤ 1
  | [], _ => ⟨rfl, Nat.zero_le _⟩
  | r :: R, h => by
    obtain ⟨h1, h2⟩ := lay_eDs (R := R) fun x m => h x (List.mem_cons_of_mem _ m)
    have h3 := h r List.mem_cons_self
    refine ⟨?_, ?_⟩
    · show ((true && (PyData.strOk (S r.2.1) && (true && true))) && PyData.canLayAll0 (R.map eD)) = true
      rw [strOk_S h3, h1]; rfl
    · show max 1 (PyData.depthAll (R.map eD)) ≤ 1
      omega
theorem shaped_eDs {R : List Eg} (h : ∀ e ∈ R, Chars e.2.1) : SeqAt.shaped (.list (R.map eD)) = true := by
  obtain ⟨h1, h2⟩ := lay_eDs h
  unfold SeqAt.shaped
  rw [Bool.and_eq_true]
  refine ⟨h1, decide_eq_true ?_⟩
  show PyData.depthAll (R.map eD) + 1 ≤ 64
  omega
theorem any_eDs {R : List Eg} {r : Eg} : ((R.map eD).any fun z => PyData.eqv z (eD r)) = decide (r ∈ R) := by
  rw [List.any_map, Bool.eq_iff_iff]
  simp only [List.any_eq_true, Function.comp, eD_eqv, decide_eq_true_eq]
  constructor
  · rintro ⟨x, hx, rfl⟩; exact hx
  · intro h; exact ⟨r, h, rfl⟩
theorem signs_chars {sg : List Nat} (h : isSigns sg = true) : Chars sg := by
  intro c hc
  obtain ⟨i, hi, rfl⟩ := List.mem_iff_getElem.mp hc
  simp only [isSigns, Bool.and_eq_true, List.all_eq_true, List.mem_range] at h
  have := h.2 i hi
  simp only [okAt, Bool.and_eq_true, decide_eq_true_eq] at this
  have e : sg.getD i 0 = sg[i] := by
    rw [List.getD_eq_getElem?_getD, List.getElem?_eq_getElem hi]; rfl
  rw [e] at this
  exact (show ∀ c ∈ letters, c < 1114112 by decide +kernel) _ this.1
theorem if_JB {c : TT} {t u : TS} {D : Ends} {σ : L2.St} {H : Hp} (P : Bool → Hp → Prop) (h : ∀ Q : Bool → Hp → Prop, (∀ b H', P b H' → Q b H') → c σ H Q) (k1 : ∀ H', P true H' → t D σ H') (k2 : ∀ H', P false H' → u D σ H') : tIfS c t u D σ H := by
  refine h _ fun b H' p => ?_
  cases b with
  | true => exact iteT (k1 H' p)
  | false => exact iteF (k2 H' p)
/-- what was laid as a tuple is one -/
def KeepT (H H' : Hp) : Prop := ∀ b xs, H b = some (.tup xs) → H' b = some (.tup xs)
theorem KeepT.same {H H' : Hp} (s : Same H H') : KeepT H H' := fun b xs h => s _ _ h
theorem KeepT.trans {H H1 H2 : Hp} (a : KeepT H H1) (b : KeepT H1 H2) : KeepT H H2 := fun x y h => b x y (a x y h)
theorem KeepT.but {H H' : Hp} {a : Addr} (s : But a H H') (z : Src H a) : KeepT H H' := fun b xs h => by
  obtain ⟨d, e, c, z⟩ := z
  exact s _ _ (ne_of h z (by intro q; cases q)) h
theorem KeepT.upd {H : Hp} {p : Addr} {xs ys : List V} (h : H p = some (.lst xs)) : KeepT H (upd H p (.lst ys)) := fun b zs e => by
  rw [upd_ne (ne_of e h (by intro q; cases q))]; exact e
theorem TupAt.kt {α : Type} {g : α → List V} {H H' : Hp} {v : V} {y : α} (h : TupAt g H v y) (k : KeepT H H') : TupAt g H' v y := let ⟨q, e, z⟩ := h; ⟨q, e, k _ _ z⟩
theorem TupAt.dpE {K : PySem.W.Frag} {H : Hp} {v : V} {e : Eg} (h : TupAt eTup H v e) : Dp K H v (eD e) := by
  obtain ⟨q, rfl, hq⟩ := h
  exact .tup (SqT.of hq) (.cons (.int _) (.cons (.str _) (.cons (.int _) .nil)))
theorem dpAll_of {α : Type} {Rel : Hp → V → α → Prop} {f : α → PyData} {K : PySem.W.Frag} {H : Hp} (hd : ∀ v y, Rel H v y → Dp K H v (f y)) : ∀ {xs : List V} {l : List α}, Items Rel H xs l → DpAll K H xs (l.map f)
  | [], [], _ => .nil
  | [], _ :: _, h => by have := h.1; simp at this
  | _ :: _, [], h => by have := h.1; simp at this
  | x :: xs, y :: l, h => .cons (hd _ _ (h.2 0 x y rfl rfl)) (dpAll_of hd (xs := xs) (l := l) ⟨by have := h.1; simpa using this, fun i a b h1 h2 => h.2 (i + 1) a b (by simpa using h1) (by simpa using h2)⟩)
section
variable {P : Program} {w : World} {K : PySem.W.Frag} {mg : Str → Option Value} {base : Heap} {C0 XA FA DI XS FS DT SE : Addr}
def spNfa (K : PySem.W.Frag) : Sp := fun vs H Q _ => ∃ (a : Addr) (sg : List Nat), vs = [.ref a, .str (S sg), .int 5] ∧ Src H a ∧ isSigns sg = true ∧ 0 < sg.length ∧ sg.length ≤ 1000 ∧
  ∀ (q : Addr) (m : Nat) (qe : Addr) (eys : List V) (es : List Eg) (qd : Addr) (ds : List Nat) (H' : Hp), AutT K H' q m qe eys es qd ds → EsOk sg m es → DsOk m ds → 1 ≤ m → m ≤ 5 → es.length ≤ 11 → ds.length ≤ 5 → Src H' a → But a H H' → H q = none → Q (.ref q) H'
theorem c__law_nfa (T : Txt K mg) : Cal P w K mg base CX0 2 "_law_nfa" (spNfa K) := by
  have c__law_pick := c__law_pick (P := P) (w := w) (base := base) T
  refine Cal.mk0 T.d__law_nfa sc__law_nfa (fun vs H Q E h => ?_) (fun f cdv A outer s H vs Q E hr h => ?_)
  · obtain ⟨a, sg, rfl, _⟩ := h
    rfl
  · obtain ⟨a, sg, rfl, hS, hsg, hs0, hs1, k⟩ := h
    have hu65 := hu65_of hr
    have hSg := S_len sg
    refine ⟨_, (pss_cons (ps_set (i := 3) sc__law_nfa.nd rfl (Or.inr rfl) (pe_op op_add pe_int (pe_callB (call_max2 rfl) (by rfl) T.b_max (by decide +kernel) (pa_cons (pe_c c__law_pick hr (by decide) rfl (pa_cons (pv 0) (pa_cons (pv 2) pa_nil))) (pa_cons (pe_c c__law_pick hr (by decide) rfl (pa_cons (pv 0) (pa_cons (pv 2) pa_nil))) pa_nil)))))
  (pss_cons (ps_set (i := 4) sc__law_nfa.nd rfl (Or.inl rfl) (pe_lst pa_nil))
  (pss_cons (ps_for PassesOwn.never rfl (pi_range1 (by rfl) T.b_range (pa_cons (pe_op op_add (pe_op op_mul pe_int (pv 3)) pe_int) pa_nil)) (pg_name (i := 5) sc__law_nfa.nd rfl (Or.inl rfl))
    (pss_cons (ps_set (i := 6) sc__law_nfa.nd rfl (Or.inl rfl) (pe_ifExp (pt_chain op_lt op_lt pe_int (pv 5) (pv 3)) (pv 5) (pe_c c__law_pick hr (by decide) rfl (pa_cons (pv 0) (pa_cons (pv 3) pa_nil)))))
    (pss_cons (ps_set (i := 7) sc__law_nfa.nd rfl (Or.inl rfl) (pe_ifExp (pt_cmpR op_gt (pe_c c__law_pick hr (by decide) rfl (pa_cons (pv 0) (pa_cons pe_int pa_nil))) pe_int (nomark _)) (pe_ix ix_str (pv 1) (pe_c c__law_pick hr (by decide) rfl (pa_cons (pv 0) (pa_cons (pe_callB call_len_str (by rfl) T.b_len (by decide +kernel) (pa_cons (pv 1) pa_nil)) pa_nil))) (fun _ _ => rfl)) pe_str))
    (pss_cons (ps_set (i := 8) sc__law_nfa.nd rfl (Or.inl rfl) (pe_tup (pa_cons (pe_c c__law_pick hr (by decide) rfl (pa_cons (pv 0) (pa_cons (pe_ifExp (pt_chain op_lt op_lt pe_int (pv 5) (pv 3)) (pe_callB (call_min2 rfl) (by rfl) T.b_min (by decide +kernel) (pa_cons (pv 5) (pa_cons (pv 3) pa_nil))) (pv 3)) pa_nil))) (pa_cons (pv 7) (pa_cons (pv 6) pa_nil)))))
    (pss_one (ps_if (PW.pt (pw_and (pt_cmpR (op_notInD hu65) (pv 8) (pv 4) (by rfl)) (pw_and1 (pt_cmpR op_gt (pe_c c__law_pick hr (by decide) rfl (pa_cons (pv 0) (pa_cons pe_int pa_nil))) pe_int (nomark _)))))
      (pss_one (ps_expr (pe_bm PySem.F.plainAttrs_list PySem.F.slot_list_append PySem.F.type_list_append mt_append (pv 4) (pa_cons (pv 8) pa_nil))))
      pss_nil))))))
  (pss_cons (ps_setLc (i := 9) (own := [("_law_state", 10)]) (g := gName 10) (by rfl) sc__law_nfa.nd rfl rfl (sw_true rfl rfl rfl (by decide +kernel)) (pi_range1 (by rfl) T.b_range (pa_cons (pv 3) pa_nil)) (blkOk_by (N := ["_law_source_here", "_law_signs_here", "_law_most", "_law_many", "_law_edges", "_law_k", "_law_target", "_law_sign", "_law_edge", "_law_ends", "_law_state"]) (sc := defScope s__law_nfa) (by decide +kernel)) (fun _ _ _ _ _ => (pg_name (i := 10) sc__law_nfa.nd rfl (Or.inl rfl))) (fun _ _ _ _ _ => (pts_one (PW.pt (pw_or (pt_cmpR op_eq (pe_c c__law_pick hr (by decide) rfl (pa_cons (pv 0) (pa_cons pe_int pa_nil))) pe_int (nomark _)) (pw_or1 (PW.pt (pw_and (pt_cmpR op_eq (pv 10) (pe_op op_sub (pv 3) pe_int) (nomark _)) (pw_and1 (pt_cmpR op_gt (pe_c c__law_pick hr (by decide) rfl (pa_cons (pv 0) (pa_cons pe_int pa_nil))) pe_int (nomark _)))))))))) (fun _ _ _ _ _ => (pv 10)))
  (pss_one (ps_ret (pe_tup (pa_cons (pv 3) (pa_cons (pe_callTy call_tuple_of (by rfl) T.b_tuple (by decide +kernel) (pa_cons (pe_callB cr_sortM (by rfl) T.b_sorted (by decide +kernel) (pa_cons (pv 4) pa_nil)) pa_nil)) (pa_cons (pe_callTy call_tuple_of (by rfl) T.b_tuple (by decide +kernel) (pa_cons (pv 9) pa_nil)) pa_nil)))))))))), ?_⟩
    walk_at "rd"
    refine ⟨a, _, rfl, hS, by decide, by decide, fun r1 H1 r10 r11 hS1 b1 => ?_⟩
    walk_at "rd"
    refine ⟨a, _, rfl, hS1, by decide, by decide, fun r2 H2 r20 r21 hS2 b2 => ?_⟩
    walk_at "rd"
    intro pe hpe
    obtain ⟨m, hme, hm1, hm5⟩ : ∃ m : Nat, (1 + (if r2 > r1 then r2 else r1) : Int) = (m : Nat) ∧ 1 ≤ m ∧ m ≤ 5 := by
      refine ⟨(1 + (if r2 > r1 then r2 else r1) : Int).toNat, ?_, ?_, ?_⟩ <;> split <;> omega
    have e0 : (fun i j : Int => V.int (i + j)) 1 (if r2 > r1 then r2 else r1) = V.int (m : Nat) := congrArg V.int hme
    rw [e0]
    have hna : pe ≠ a := by
      obtain ⟨d, e, c, z⟩ := hS2
      exact (ne_of_none z hpe).symm
    have b02 := b1.trans b2
    have hS3 : Src (upd H2 pe (.lst [])) a := by
      obtain ⟨d, e, c, z⟩ := hS2
      exact ⟨d, e, c, by rw [upd_ne hna.symm]; exact z⟩
    have b03 : But a H (upd H2 pe (.lst [])) := but_mut b02 (b02.none_of hna hpe)
    have e3 : (upd H2 pe (.lst [])) pe = some (.lst []) := upd_same
    have hpe0 : H pe = none := b02.none_of hna hpe
    generalize upd H2 pe (.lst []) = H3 at hS3 b03 e3 ⊢
    clear e0 hme b02 hpe hS2 b2 hS1 b1 H1 H2 r10 r11 r20 r21
    walk_at "nx"
    refine ⟨_, rfl, _, _, rfl, rfl, ?_⟩
    refine ⟨.inl ⟨by omega, by omega⟩, _, _, rfl, rfl, _, rfl, by omega, by omega, ?_⟩
    refine for_range (lo := 0) (n := ((2 * (m : Int) + 1 : Int)).toNat) (fun i σ H4 => ∃ (ys : List V) (es : List Eg) (v5 v6 v7 v8 v9 v10 : Option V), σ = [some (.ref a), some (.str (S sg)), some (.int 5), some (.int (m : Nat)), some (.ref pe), v5, v6, v7, v8, v9, v10] ∧ Src H4 a ∧ But a H H4 ∧ H4 pe = some (.lst ys) ∧ Items (TupAt eTup) H4 ys es ∧ es.length ≤ i ∧ (∀ e ∈ es, goodE sg m e ∧ Chars e.2.1) ∧ es.Nodup)
      ⟨[], [], _, _, _, _, _, _, rfl, hS3, b03, e3, Items.nil, Nat.le_refl _, fun e h => (by cases h), List.nodup_nil⟩ ?_ ?_
    · rintro i σ H4 hi ⟨ys, es, v5, v6, v7, v8, v9, v10, rfl, hS4, b4, h4, it4, hel, hgd, hnd⟩
      rw [Int.zero_add]
      walk_at "nx"
      refine st_asgJ (fun v H5 => ∃ t : Nat, v = .int (t : Nat) ∧ t < m ∧ Src H5 a ∧ But a H4 H5) (fun Q' hQ => ?_) (fun v H5 hv => ?_)
      · walk_at "rd"
        have pk : tCall spPick [] E0 (tCons (tVar 0) (tCons (tVar 3) tNil)) ([some (.ref a), some (.str (S sg)), some (.int 5), some (.int (m : Nat)), some (.ref pe), v5, v6, v7, v8, v9, v10].set 5 (some (.int (i : Nat)))) H4 Q' := by
          refine ⟨_, rfl, _, rfl, a, _, rfl, hS4, by omega, by omega, fun r H5 r0 r1 hS5 b5 => ?_⟩
          exact hQ _ _ ⟨r.toNat, congrArg V.int (Int.toNat_of_nonneg r0).symm, by omega, hS5, b5⟩
        refine ite2 (fun c1 => ?_) (fun c1 => ?_)
        · refine ⟨_, rfl, _, _, rfl, rfl, _, rfl, ?_⟩
          refine ite2 (fun c2 => ?_) (fun c2 => pk)
          have := of_decide_eq_true c2
          exact ⟨_, rfl, hQ _ _ ⟨i, rfl, by omega, hS4, But.refl _ _⟩⟩
        · refine ⟨false, rfl, ?_⟩
          exact iteF pk
      obtain ⟨t, rfl, htm, hS5, b5⟩ := hv
      walk_at "nx"
      refine st_asgJ (fun v H6 => ∃ u : List Nat, v = .str (S u) ∧ u.length ≤ 1 ∧ strB sg u = true ∧ Chars u ∧ Src H6 a ∧ But a H5 H6) (fun Q' hQ => ?_) (fun v H6 hv => ?_)
      · walk_at "rd"
        refine ⟨a, _, rfl, hS5, by decide, by decide, fun r H6 r0 r1 hS6 b6 => ?_⟩
        walk_at "rd"
        refine ite2 (fun c => ?_) (fun c => ?_)
        · walk_at "rd"
          refine ⟨a, _, rfl, hS6, by omega, by omega, fun r2 H7 r20 r21 hS7 b7 => ?_⟩
          have hr2 : r2.toNat < sg.length := by omega
          refine ⟨_, r2, sg[r2.toNat], rfl, rfl, sz_S (t := sg) (by omega), atI_at r20 (by show sg[r2.toNat]? = _; simp [hr2]), ?_⟩
          have hm : sg[r2.toNat] ∈ sg := List.getElem_mem hr2
          exact hQ _ _ ⟨[sg[r2.toNat]], rfl, by simp, by simp [strB, hm], fun c h => (by rw [List.mem_singleton] at h; rw [h]; exact signs_chars hsg _ hm), hS7, b6.trans b7⟩
        · exact hQ _ _ ⟨[], by rw [show (Str.ofString "") = S [] from lit_e], by decide, by simp [strB], fun c h => (by cases h), hS6, b6⟩
      obtain ⟨u, rfl, hsl, hsb, hsc, hS6, b6⟩ := hv
      walk_at "nx"
      refine st_asgJ (fun v H7 => ∃ (qn : Addr) (e : Eg), v = .ref qn ∧ H7 qn = some (.tup (eTup e)) ∧ goodE sg m e ∧ Chars e.2.1 ∧ Src H7 a ∧ But a H6 H7) (fun Q' hQ => ?_) (fun v H7 hv => ?_)
      · have fin : ∀ (r : Int) (H7 : Hp), 0 ≤ r → r < (m : Nat) → Src H7 a → But a H6 H7 → ∀ p, H7 p = none → Q' (.ref p) (upd H7 p (.tup [.int r, .str (S u), .int (t : Nat)])) := fun r H7 r0 r1 hS7 b7 p hp => by
          have hnp : p ≠ a := by
            obtain ⟨d, e, c, z⟩ := hS7
            exact (ne_of_none z hp).symm
          refine hQ _ _ ⟨p, (r.toNat, u, t), rfl, ?_, ⟨by show r.toNat < m; omega, htm, hsb, by show u.length ≤ 1000; omega⟩, hsc, ?_, but_mut b7 (b7.none_of hnp hp)⟩
          · rw [upd_same]
            show _ = some (HO.tup [.int (r.toNat : Nat), .str (S u), .int (t : Nat)])
            rw [Int.toNat_of_nonneg r0]
          · obtain ⟨d, e, c, z⟩ := hS7
            exact ⟨d, e, c, by rw [upd_ne hnp.symm]; exact z⟩
        walk_at "rd"
        refine ite2 (fun c1 => ?_) (fun c1 => ?_)
        · have := of_decide_eq_true c1
          refine ⟨_, rfl, _, _, rfl, rfl, _, rfl, ?_⟩
          refine ite2 (fun c2 => ?_) (fun c2 => ?_)
          · refine ⟨_, rfl, _, rfl, _, _, rfl, ?_⟩
            refine ⟨a, _, rfl, hS6, by split <;> omega, by split <;> omega, fun r H7 r0 r1 hS7 b7 => ?_⟩
            refine ⟨_, rfl, _, rfl, by walk_at "sz", fun p hp => ?_⟩
            exact fin r H7 r0 (by split at r1 <;> omega) hS7 b7 p hp
          · refine ⟨_, rfl, a, _, rfl, hS6, by omega, by omega, fun r H7 r0 r1 hS7 b7 => ?_⟩
            refine ⟨_, rfl, _, rfl, by walk_at "sz", fun p hp => ?_⟩
            exact fin r H7 r0 r1 hS7 b7 p hp
        · refine ⟨false, rfl, ?_⟩
          refine iteF ?_
          refine ⟨_, rfl, a, _, rfl, hS6, by omega, by omega, fun r H7 r0 r1 hS7 b7 => ?_⟩
          refine ⟨_, rfl, _, rfl, by walk_at "sz", fun p hp => ?_⟩
          exact fin r H7 r0 r1 hS7 b7 p hp
      obtain ⟨qn, e, rfl, hqn, hge, hce, hS7, b7⟩ := hv
      walk_at "nx"
      have hp7 : H7 pe = some (.lst ys) := b7 _ _ hna (b6 _ _ hna (b5 _ _ hna h4))
      have kt : KeepT H4 H7 := (KeepT.but b5 hS4).trans ((KeepT.but b6 hS5).trans (KeepT.but b7 hS6))
      have it7 := it4.mono fun x y h => h.kt kt
      have b07 := b4.trans (b5.trans (b6.trans b7))
      clear kt it4 h4 b7 b6 b5 hS6 hS5 hS4
      refine if_JB (fun b H8 => Src H8 a ∧ But a H7 H8 ∧ (b = true → e ∉ es)) (fun Q' hQ => ?_) (fun H8 hv => ?_) (fun H8 hv => ?_)
      · refine ⟨_, rfl, _, rfl, eD e, es.map eD, TupAt.dpE ⟨qn, rfl, hqn⟩, .lst (SqL.of hp7) (dpAll_of (fun _ _ h => TupAt.dpE h) it7), shaped_eD hce, shaped_eDs (fun x hx => (hgd x hx).2), _, rfl, ?_⟩
        rw [any_eDs]
        by_cases hin : e ∈ es
        · rw [decide_eq_true hin]
          exact hQ _ _ ⟨hS7, But.refl _ _, fun z => (by cases z)⟩
        · rw [decide_eq_false hin]
          refine iteT ?_
          refine ⟨_, rfl, a, _, rfl, hS7, by decide, by decide, fun r H8 r0 r1 hS8 b8 => ?_⟩
          walk_at "rd"
          exact hQ _ _ ⟨hS8, b8, fun _ => hin⟩
      · obtain ⟨hS8, b8, hin⟩ := hv
        have hin := hin rfl
        have hp8 := b8 _ _ hna hp7
        have kt8 := KeepT.but b8 hS7
        have hyl : ys.length < sizeLine := Nat.lt_of_le_of_lt (m := 11) (by rw [it7.1]; omega) (by decide)
        refine ⟨_, rfl, .inl ⟨rfl, _, SqL.of hp8⟩, _, rfl, pe, _, _, rfl, rfl, hp8, hyl, ?_⟩
        have kt9 : KeepT H8 (upd H8 pe (.lst (ys ++ [.ref qn]))) := KeepT.upd hp8
        refine ⟨ys ++ [.ref qn], es ++ [e], _, _, _, _, _, _, rfl, ?_, but_mut (b07.trans b8) hpe0, upd_same, it7.snoc (fun x y h => h.kt (kt8.trans kt9)) ⟨qn, rfl, kt9 _ _ (kt8 _ _ hqn)⟩, by simp; omega, ?_, ?_⟩
        · obtain ⟨d, e, c, z⟩ := hS8
          exact ⟨d, e, c, by rw [upd_ne hna.symm]; exact z⟩
        · intro x hx
          rcases List.mem_append.mp hx with z | z
          · exact hgd x z
          · rw [List.mem_singleton] at z
            rw [z]
            exact ⟨hge, hce⟩
        · rw [List.nodup_append]
          refine ⟨hnd, by simp, fun x hx y hy => ?_⟩
          rw [List.mem_singleton] at hy
          subst hy
          intro e9
          exact hin (e9 ▸ hx)
      · obtain ⟨hS8, b8, _⟩ := hv
        walk_at "nx"
        exact ⟨ys, es, _, _, _, _, _, _, rfl, hS8, b07.trans b8, b8 _ _ hna hp7, it7.mono fun x y h => h.kt (KeepT.but b8 hS7), by omega, hgd, hnd⟩
    · rintro σ H4 ⟨ys, es, v5, v6, v7, v8, v9, v10, rfl, hS4, b4, h4, it4, hel, hgd, hnd⟩
      walk_at "nx"
      refine st_asgJ (fun v H5 => ∃ (pd : Addr) (ds : List Nat), v = .ref pd ∧ H5 pd = some (.lst (ds.map dV)) ∧ DsOk m ds ∧ ds.length ≤ m ∧ Src H5 a ∧ But a H4 H5) (fun Q' hQ => ?_) (fun v H5 hv => ?_)
      · refine ⟨_, rfl, _, rfl, by omega, by omega, fun D9 hD => ?_⟩
        have nD : D9 ≠ a := by
          obtain ⟨d, e, c, z⟩ := hS4
          exact (ne_of_none z hD).symm
        refine lc_range (lo := 0) (n := ((m : Nat) : Int).toNat) (fun i H3 => ∃ ds : List Nat, H3 D9 = some (.lst (ds.map dV)) ∧ DsOk i ds ∧ ds.length ≤ i ∧ Src H3 a ∧ But a H4 H3) ?_ ?_ ?_
        · obtain ⟨d, sd, c, ha⟩ := id hS4
          exact ⟨[], upd_same, ⟨fun d h => (by cases h), fun i x y h => (by simp at h)⟩, Nat.le_refl _, ⟨d, sd, c, same_new hD _ _ ha⟩, But.same (same_new hD)⟩
        · rintro i H3 hi ⟨ds, h3, hds, hdl, hS3', b3'⟩
          rw [Int.zero_add]
          refine ⟨rfl, ?_⟩
          refine tt_J (fun b H6 => Src H6 a ∧ But a H3 H6) (fun Q'' hQ2 => ?_) (fun b H6 hv => ?_)
          · refine ⟨_, rfl, a, 3, rfl, hS3', by decide, by decide, fun r H6 r0 r1 hS6 b6 => ?_⟩
            refine ⟨rfl, _, rfl, ?_⟩
            refine ite2 (fun c => ?_) (fun c => ?_)
            · exact hQ2 _ _ ⟨hS6, b6⟩
            · refine ⟨_, rfl, _, rfl, _, _, rfl, rfl, rfl, _, rfl, ?_⟩
              refine ite2 (fun c => ?_) (fun c => ?_)
              · refine ⟨_, rfl, a, 4, rfl, hS6, by decide, by decide, fun r H7 r0 r1 hS7 b7 => ?_⟩
                refine ⟨_, _, rfl, rfl, _, rfl, ?_⟩
                exact hQ2 _ _ ⟨hS7, b6.trans b7⟩
              · exact hQ2 _ _ ⟨hS6, b6⟩
          · obtain ⟨hS6, b6⟩ := hv
            have h6 := b6 _ _ nD h3
            have b46 := b3'.trans b6
            have hD0 : H4 D9 = none := hD
            cases b with
            | false =>
              refine iteF ?_
              exact ⟨ds, h6, ⟨fun d h => Nat.lt_succ_of_lt (hds.good d h), hds.asc⟩, by omega, hS6, b46⟩
            | true =>
              refine iteT ?_
              refine ⟨_, rfl, ds.map dV, h6, by rw [List.length_map]; exact Nat.lt_of_le_of_lt (m := 5) (by omega) (by decide), ds ++ [i], by rw [List.map_append]; exact upd_same, ?_, by simp; omega, ?_, but_mut b46 hD0⟩
              · refine ⟨fun d h => ?_, fun j x y h1 h2 => ?_⟩
                · rcases List.mem_append.mp h with z | z
                  · exact Nat.lt_succ_of_lt (hds.good d z)
                  · rw [List.mem_singleton] at z
                    omega
                · rcases Nat.lt_trichotomy (j + 1) ds.length with q | q | q
                  · rw [List.getElem?_append_left (by omega)] at h1
                    rw [List.getElem?_append_left q] at h2
                    exact hds.asc j x y h1 h2
                  · rw [List.getElem?_append_left (by omega)] at h1
                    rw [List.getElem?_append_right (by omega), q, Nat.sub_self] at h2
                    cases h2
                    exact hds.good _ (List.mem_of_getElem? h1)
                  · have := (List.getElem?_eq_some_iff.mp h2).1
                    simp at this
                    omega
              · obtain ⟨d, e, c, z⟩ := hS6
                exact ⟨d, e, c, by rw [upd_ne nD.symm]; exact z⟩
        · rintro H3 ⟨ds, h3, hds, hdl, hS3', b3'⟩
          exact hQ _ _ ⟨D9, ds, rfl, h3, hds, hdl, hS3', b3'⟩
      obtain ⟨pd, ds, rfl, hpd, hds, hdl, hS5, b5⟩ := hv
      have hp5 := b5 _ _ hna h4
      have it5 := it4.mono fun x y h => h.kt (KeepT.but b5 hS4)
      walk_at "nx"
      walk_at "rd"
      refine ⟨Eg, eTup, "int", pe, ys, es, rfl, SqL.of hp5, it5, fun e _ => ⟨_, _, rfl, .int _⟩, fun x _ y _ => eKs x y, fun l' zs pz H6 hpm hpw hpz s6 hz it6 => ?_⟩
      refine ⟨pz, _, rfl, .inl ⟨SqL.of hz, fun l hl => ?_⟩⟩
      have s7 := same_new (o := .tup zs) hl
      have e7 : (upd H6 l (.tup zs)) l = some (.tup zs) := upd_same
      generalize upd H6 l (.tup zs) = H7 at s7 e7 ⊢
      refine ⟨_, rfl, pd, _, rfl, .inl ⟨SqL.of (s7 _ _ (s6 _ _ hpd)), fun l2 hl2 => ?_⟩⟩
      have s8 := same_new (o := .tup (ds.map dV)) hl2
      have e8 : (upd H7 l2 (.tup (ds.map dV))) l2 = some (.tup (ds.map dV)) := upd_same
      generalize upd H7 l2 (.tup (ds.map dV)) = H8 at s8 e8 ⊢
      refine ⟨by walk_at "sz", fun l3 hl3 => ?_⟩
      have s9 := same_new (o := .tup [.int (m : Nat), .ref l, .ref l2]) hl3
      have e9 : (upd H8 l3 (.tup [.int (m : Nat), .ref l, .ref l2])) l3 = some (.tup [.int (m : Nat), .ref l, .ref l2]) := upd_same
      generalize upd H8 l3 (.tup [.int (m : Nat), .ref l, .ref l2]) = H9 at s9 e9 ⊢
      have s69 := s7.trans (s8.trans s9)
      have hlen : l'.length = es.length := hpm.length_eq
      have hn2 : l'.Nodup := hpm.nodup_iff.mpr hnd
      have b9 : But a H H9 := b4.trans (b5.trans (But.same (s6.trans s69)))
      have hS9 : Src H9 a := by
        obtain ⟨d, e, c, z⟩ := hS5
        exact ⟨d, e, c, s69 _ _ (s6 _ _ z)⟩
      have hl30 : H l3 = none := by
        cases e : H l3 with
        | none => rfl
        | some o =>
          by_cases h : l3 = a
          · obtain ⟨d, e', c, z⟩ := hS5
            rw [h, s8 _ _ (s7 _ _ (s6 _ _ z))] at hl3
            cases hl3
          · have := (b4.trans (b5.trans (But.same (s6.trans (s7.trans s8))))) _ _ h e
            rw [this] at hl3
            cases hl3
      refine k l3 m l zs l' l2 ds H9 ⟨SqT.of e9, SqT.of (s9 _ _ (s8 _ _ e7)), ?_, SqT.of (s9 _ _ e8)⟩ ⟨fun e he => (hgd e (hpm.mem_iff.mp he)).1, ?_⟩ hds hm1 hm5 (by omega) (by omega) hS9 b9 hl30
      · exact ⟨it6.1, fun i x y h1 h2 => (let ⟨q9, e9', h9⟩ := it6.2 i x y h1 h2; ⟨q9, e9', SqT.of (s69 _ _ h9)⟩)⟩
      · intro i x y h1 h2
        have hi1 := (List.getElem?_eq_some_iff.mp h1).1
        have hi2 := (List.getElem?_eq_some_iff.mp h2).1
        have ex : l'[i] = x := (List.getElem?_eq_some_iff.mp h1).2
        have ey : l'[i + 1] = y := (List.getElem?_eq_some_iff.mp h2).2
        have h3 := List.pairwise_iff_getElem.mp hpw i (i + 1) hi1 hi2 (by omega)
        have h4' := List.pairwise_iff_getElem.mp hn2 i (i + 1) hi1 hi2 (by omega)
        rw [ex, ey] at h3 h4'
        exact eLt_total (by rw [eLt_c]; exact h3) h4'
end
end Sh
set_option Elab.async false
set_option linter.all false
set_option maxRecDepth 100000
set_option maxHeartbeats 4000000
namespace Sh
open PySem PySem.Spec PyProof.Rows L2
open SX (S S_inj S_len S_cat)
local macro_rules | `(tactic| walk_at "nx") => `(tactic| repeat (with_reducible first | refine Sh.gn_mk ?_ | refine Sh.nx_mk ?_ | refine Sh.st_nx ?_ | refine Sh.rt_mk ?_ | refine Sh.ct_mk ?_ | refine Sh.bk_mk ?_))
local macro_rules | `(tactic| walk_at "sq") => `(tactic| first | exact SqL.of upd_same | exact SqT.of upd_same | exact SqL.of (by assumption) | exact SqT.of (by assumption) | assumption | exact Or.inl (SqL.of (by assumption)) | exact Or.inr (SqT.of (by assumption)) | exact Or.inl (by assumption) | exact Or.inr (by assumption))
local macro_rules | `(tactic| walk_at "hp") => `(tactic| first | exact upd_same | assumption)
local macro_rules | `(tactic| walk_at "sz") => `(tactic| first | exact Nat.le_of_ble_eq_true rfl | omega)
local macro_rules | `(tactic| walk_at "sd") => `(tactic| first | omega | exact rfl | assumption | (show (0 : Int) < _; omega) | exact And.intro (by omega) (by omega) | exact Or.inl (And.intro (by omega) (by omega)) | exact Or.inr (And.intro (by omega) (by omega)) | omega | exact Sh.sz_S (by omega) | decide)
local macro_rules | `(tactic| walk_at "rd1") => `(tactic| first
  | (with_reducible first | refine Sh.gn_mk ?_ | refine Sh.nx_mk ?_ | refine Sh.st_nx ?_ | refine Sh.rt_mk ?_ | refine Sh.ct_mk ?_ | refine Sh.bk_mk ?_)
  | refine Exists.intro (α := V) _ (And.intro rfl ?_)
  | refine Exists.intro (α := Bool) _ (And.intro rfl ?_)
  | refine Exists.intro (α := Int) _ (And.intro rfl ?_)
  | refine Exists.intro (α := PySem.Str) _ (And.intro rfl ?_)
  | refine Exists.intro (α := Int) _ (Exists.intro (α := Int) _ (And.intro rfl (And.intro rfl ?_)))
  | refine Exists.intro (α := PySem.Str) _ (Exists.intro (α := PySem.Str) _ (And.intro rfl (And.intro rfl ?_)))
  | refine Exists.intro (α := Int) _ (Exists.intro (α := Int) _ (And.intro rfl ?_))
  | refine Or.inl (Exists.intro (α := Int) _ (And.intro rfl ?_))
  | refine Exists.intro _ (Exists.intro _ (Exists.intro _ (Exists.intro _ (And.intro rfl (And.intro rfl (And.intro (by walk_at "sq") (And.intro rfl ?_)))))))
  | refine Exists.intro _ (Exists.intro _ (Exists.intro _ (Exists.intro _ (And.intro rfl (And.intro rfl (And.intro (by walk_at "hp") (And.intro rfl ?_)))))))
  | refine And.intro (by walk_at "sd") ?_
  )
local macro_rules | `(tactic| walk_at "rd") => `(tactic| repeat walk_at "rd1")
local macro_rules | `(tactic| walk_at "lk") => `(tactic| first | exact rfl | (rw [lookup_putF, if_pos rfl]) | (rw [lookup_putF, if_neg (by decide +kernel)]; walk_at "lk"))

section
variable {P : Program} {w : World} {K : PySem.W.Frag} {mg : Str → Option Value} {base : Heap} {C0 XA FA DI XS FS DT SE : Addr}
/-- checked_automaton: wrong signs, or what check_automaton tells -/
def spChk (K : PySem.W.Frag) (XS XA : Addr) : Sp := fun vs H Q E => ∃ u v, vs = [u, v] ∧ ((((∃ sg, u = .str (S sg) ∧ sg.length ≤ 1000000 ∧ isSigns sg = false) ∨ NotStr K H u) ∧ Thrown E H XS "thing" u) ∨
  ∃ sg, u = .str (S sg) ∧ sg.length ≤ 1000000 ∧ isSigns sg = true ∧ spAut K XA [.str (S sg), v] H Q E)
theorem spAut.mono {vs : List V} {H : Hp} {Q Q' : VK} {E E' : XK} (h : spAut K XA vs H Q E) (hQ : ∀ v H', Q v H' → Q' v H') (hE : ∀ (H : Hp) (z : Int), Thrown E H XA "place" (.int z) → Thrown E' H XA "place" (.int z)) : spAut K XA vs H Q' E' := by
  obtain ⟨sg, v, e, h⟩ := h
  refine ⟨sg, v, e, h.imp (fun ⟨a, b⟩ => ⟨a, hE _ _ b⟩) ?_⟩
  rintro ⟨q, m, qe, eys, qd, dys, a1, a2, a3, a4, a5, a6, h⟩
  refine ⟨q, m, qe, eys, qd, dys, a1, a2, a3, a4, a5, a6, h.imp (fun ⟨a, b⟩ => ⟨a, hE _ _ b⟩) ?_⟩
  rintro ⟨b1, es, pre, rest, b2, b3, b4, h⟩
  refine ⟨b1, es, pre, rest, b2, b3, b4, h.imp (fun ⟨v, r, a, b, c⟩ => ⟨v, r, a, b, fun H' s => hE _ _ (c H' s)⟩) ?_⟩
  rintro ⟨c1, c2, ds, rd, c3, c4, h⟩
  exact ⟨c1, c2, ds, rd, c3, c4, h.imp (fun ⟨v, r, a, b, c⟩ => ⟨v, r, a, b, fun H' s => hE _ _ (c H' s)⟩) fun ⟨a, b⟩ => ⟨a, fun v' H' s tp => hQ _ _ (b v' H' s tp)⟩⟩
theorem c_X_checked_automaton (T : TxtX P K mg C0 XA FA DI XS FS DT SE) : Cal P w K mg base (L2.CX P w) 7 "checked_automaton" (spChk K XS XA) := by
  have c_X_check_signs := c_X_check_signs (P := P) (w := w) (base := base) T
  have c_X_check_automaton := c_X_check_automaton (P := P) (w := w) (base := base) T
  refine Cal.mkX T.toTxtC.toTxt.d_checked_automaton sc_checked_automaton (fun vs H Q E h => ?_) (fun f cdv A outer s H vs Q E hr h => ?_)
  · obtain ⟨u, v, rfl, _⟩ := h
    rfl
  · obtain ⟨u, v, rfl, h⟩ := h
    refine ⟨_, (pss_cons (ps_expr (pe_cX c_X_check_signs hr (by decide) (takes_of rfl rfl rfl rfl) rfl (pa_cons (pv 0) pa_nil)))
  (pss_one (ps_ret (pe_cX c_X_check_automaton hr (by decide) (takes_of rfl rfl rfl rfl) rfl (pa_cons (pv 0) (pa_cons (pv 1) pa_nil)))))), ?_⟩
    refine ⟨_, rfl, u, rfl, ?_⟩
    rcases h with ⟨⟨sg, rfl, hl, hs⟩ | hn, th⟩ | ⟨sg, rfl, hl, hs, k⟩
    · exact .inl ⟨sg, rfl, hl, fun z => (by rw [hs] at z; cases z), fun _ => th⟩
    · exact .inr ⟨hn, th⟩
    · refine .inl ⟨sg, rfl, hl, fun _ => ?_, fun z => (by rw [hs] at z; cases z)⟩
      walk_at "nx"
      refine ⟨_, rfl, _, rfl, ?_⟩
      exact k
/-- what a refusal does with the place that it tells -/
def EP (Q : VK) : XK := fun _ d H' => ∀ (z : Int) (dd : Addr), d = some dd → H' dd = some (.xd [(Str.ofString "place", V.int z)]) → Q (.int z) H'
def spPlA (K : PySem.W.Frag) (XA : Addr) : Sp := fun vs H Q _ => ∃ sg v, vs = [.str (S sg), v] ∧ isSigns sg = true ∧ sg.length ≤ 1000 ∧ spAut K XA [.str (S sg), v] H (fun _ H' => Q .non H') (EP Q)
theorem c__law_place (T : TxtX P K mg C0 XA FA DI XS FS DT SE) : Cal P w K mg base CX0 8 "_law_place" (spPlA K XA) := by
  have c_X_checked_automaton := c_X_checked_automaton (P := P) (w := w) (base := base) T
  refine Cal.mk0 T.toTxtC.toTxt.d__law_place sc__law_place (fun vs H Q E h => ?_) (fun f cdv A outer s H vs Q E hr h => ?_)
  · obtain ⟨sg, v, rfl, _⟩ := h
    rfl
  · obtain ⟨sg, v, rfl, hs, hl, h⟩ := h
    refine ⟨_, (pss_cons (ps_tryT rfl rfl sc__law_place.nd takes0 (fun W pn xe tk po => (pss_one (ps_expr (pe_cX c_X_checked_automaton hr (by decide) tk rfl (pa_cons (pv 0) (pa_cons (pv 1) pa_nil))))))
    (HdsA.cons (i := 2) rfl rfl ⟨rfl, by decide, Or.inl T.e_BadAutomaton.mgC⟩ (fun a oe cls d pn hz hf => (pss_cons (ps_if (PW.pt (pw_or (pt_not (pt_val (pe_callB (call_isX T.c_BadAutomaton hz hf) (by rfl) T.b_isinstance (by decide +kernel) (pa_cons (pv 2) (pa_cons (pe_glob (v := .ref DI) rfl T.gc_WrongItem rfl) pa_nil))))) (pw_or (pt_not (pt_val (pe_callB (call_isX T.c_BadAutomaton hz hf) (by rfl) T.b_isinstance (by decide +kernel) (pa_cons (pv 2) (pa_cons (pe_glob (v := .ref SE) rfl T.gc_ShrunkError rfl) pa_nil))))) (pw_or1 (pt_val (pe_callB (call_isX T.c_BadAutomaton hz hf) (by rfl) T.b_isinstance (by decide +kernel) (pa_cons (pv 2) (pa_cons (pe_glob (v := .ref DT) rfl T.gc_WrongThing rfl) pa_nil))))))))
      (pss_one (ps_ret (pe_tup (pa_cons pe_str (pa_cons (pe_xf T.e_BadAutomaton.xf T.nf_BadAutomaton_place hz hf (pv 2)) pa_nil)))))
      pss_nil)
    (pss_one (ps_ret (pe_xf T.e_BadAutomaton.xf T.nf_BadAutomaton_place hz hf (pv 2))))))
    HdsA.nil))
  (pss_one (ps_ret pe_non))), ?_⟩
    refine ⟨_, rfl, _, rfl, _, v, rfl, .inr ⟨sg, rfl, by omega, hs, h.mono (fun u H' q => ?_) fun H2 z th d hd => ⟨true, T.mm_BadAutomaton_BadAutomaton, fun _ a0 ha0 => ?_, fun zz => (by cases zz)⟩⟩⟩
    · walk_at "rd"
      exact q
    · have fin := th d hd z d rfl upd_same
      dsimp only [outA]
      walk_at "nx"
      refine ⟨_, rfl, rfl, _, _, true, d, _, rfl, rfl, upd_same, fun u h => h, T.ko_BadAutomaton_WrongItem, true, rfl, ?_⟩
      refine iteF ?_
      refine ⟨_, rfl, rfl, _, _, true, d, _, rfl, rfl, upd_same, fun u h => h, T.ko_BadAutomaton_ShrunkError, true, rfl, ?_⟩
      refine iteF ?_
      refine ⟨_, rfl, rfl, _, _, false, d, _, rfl, rfl, upd_same, fun u h => h, T.ko_BadAutomaton_WrongThing, false, rfl, ?_⟩
      refine iteF ?_
      walk_at "nx"
      refine ⟨_, rfl, rfl, rfl, d, _, _, rfl, upd_same, lk1, ?_⟩
      exact fin
end
end Sh
set_option Elab.async false
set_option linter.all false
set_option maxRecDepth 100000
/-! slices of rows of values, and of what they tell -/
namespace Sh
open PySem PySem.Spec PyProof.Rows L2
theorem cut_fromV {xs : List V} {i : Int} (h : 0 ≤ i) : cutV xs (some i) none = xs.drop i.toNat := by
  unfold cutV
  have h1 : HT.sIx xs.length 0 (some i) = min i.toNat xs.length := by
    show (if i < 0 then _ else min i.toNat xs.length) = _
    rw [if_neg (by omega)]
  have h2 : HT.sIx xs.length xs.length none = xs.length := rfl
  rw [h1, h2]
  by_cases c : i.toNat ≤ xs.length
  · rw [Nat.min_eq_left c]
    exact List.take_of_length_le (by simp)
  · rw [Nat.min_eq_right (by omega)]
    rw [List.drop_eq_nil_of_le (by omega), List.drop_eq_nil_of_le (by omega), List.take_nil]
theorem cut_toV {xs : List V} {i : Int} (h : 0 ≤ i) : cutV xs none (some i) = xs.take i.toNat := by
  unfold cutV
  have h1 : HT.sIx xs.length 0 none = 0 := rfl
  have h2 : HT.sIx xs.length xs.length (some i) = min i.toNat xs.length := by
    show (if i < 0 then _ else min i.toNat xs.length) = _
    rw [if_neg (by omega)]
  rw [h1, h2, List.drop_zero, Nat.sub_zero]
  by_cases c : i.toNat ≤ xs.length
  · rw [Nat.min_eq_left c]
  · rw [Nat.min_eq_right (by omega), List.take_of_length_le (Nat.le_refl _), List.take_of_length_le (by omega)]
theorem Items.drop {α : Type} {Rel : Hp → V → α → Prop} {H : Hp} {xs : List V} {l : List α} (h : Items Rel H xs l) (n : Nat) : Items Rel H (xs.drop n) (l.drop n) := by
  refine ⟨by rw [List.length_drop, List.length_drop, h.1], fun i x y h1 h2 => ?_⟩
  rw [List.getElem?_drop] at h1 h2
  exact h.2 _ x y h1 h2
theorem Items.take {α : Type} {Rel : Hp → V → α → Prop} {H : Hp} {xs : List V} {l : List α} (h : Items Rel H xs l) (n : Nat) : Items Rel H (xs.take n) (l.take n) := by
  refine ⟨by rw [List.length_take, List.length_take, h.1], fun i x y h1 h2 => ?_⟩
  rw [List.getElem?_take] at h1 h2
  split at h1
  · next c =>
    rw [if_pos c] at h2
    exact h.2 _ x y h1 h2
  · cases h1
theorem Items.app {α : Type} {Rel : Hp → V → α → Prop} {H : Hp} {xs ys : List V} {l m : List α} (h : Items Rel H xs l) (k : Items Rel H ys m) : Items Rel H (xs ++ ys) (l ++ m) := by
  refine ⟨by rw [List.length_append, List.length_append, h.1, k.1], fun i x y h1 h2 => ?_⟩
  rcases Nat.lt_or_ge i xs.length with q | q
  · rw [List.getElem?_append_left q] at h1
    rw [List.getElem?_append_left (h.1 ▸ q)] at h2
    exact h.2 i x y h1 h2
  · rw [List.getElem?_append_right q] at h1
    rw [List.getElem?_append_right (h.1 ▸ q), ← h.1] at h2
    exact k.2 _ x y h1 h2
theorem Items.rev {α : Type} {Rel : Hp → V → α → Prop} {H : Hp} : ∀ {xs : List V} {l : List α}, Items Rel H xs l → Items Rel H xs.reverse l.reverse
  | [], [], _ => Items.nil
  | [], _ :: _, h => by have := h.1; simp at this
  | _ :: _, [], h => by have := h.1; simp at this
  | x :: xs, y :: l, h => by
    rw [List.reverse_cons, List.reverse_cons]
    exact (Items.rev (xs := xs) (l := l) ⟨by have := h.1; simpa using this, fun i a b h1 h2 => h.2 (i + 1) a b (by simpa using h1) (by simpa using h2)⟩).snoc (fun _ _ z => z) (h.2 0 x y rfl rfl)
end Sh
set_option Elab.async false
set_option linter.all false
set_option maxRecDepth 100000
set_option maxHeartbeats 4000000
namespace Sh
open PySem PySem.Spec PyProof.Rows L2
open SX (S S_inj S_len S_cat)
local macro_rules | `(tactic| walk_at "nx") => `(tactic| repeat (with_reducible first | refine Sh.gn_mk ?_ | refine Sh.nx_mk ?_ | refine Sh.st_nx ?_ | refine Sh.rt_mk ?_ | refine Sh.ct_mk ?_ | refine Sh.bk_mk ?_))
local macro_rules | `(tactic| walk_at "sq") => `(tactic| first | exact SqL.of upd_same | exact SqT.of upd_same | exact SqL.of (by assumption) | exact SqT.of (by assumption) | assumption | exact Or.inl (SqL.of (by assumption)) | exact Or.inr (SqT.of (by assumption)) | exact Or.inl (by assumption) | exact Or.inr (by assumption))
local macro_rules | `(tactic| walk_at "hp") => `(tactic| first | exact upd_same | assumption)
local macro_rules | `(tactic| walk_at "sz") => `(tactic| first | exact Nat.le_of_ble_eq_true rfl | omega)
local macro_rules | `(tactic| walk_at "sd") => `(tactic| first | omega | exact rfl | assumption | (show (0 : Int) < _; omega) | exact And.intro (by omega) (by omega) | exact Or.inl (And.intro (by omega) (by omega)) | exact Or.inr (And.intro (by omega) (by omega)) | omega | exact Sh.sz_S (by omega) | decide)
local macro_rules | `(tactic| walk_at "rd1") => `(tactic| first
  | (with_reducible first | refine Sh.gn_mk ?_ | refine Sh.nx_mk ?_ | refine Sh.st_nx ?_ | refine Sh.rt_mk ?_ | refine Sh.ct_mk ?_ | refine Sh.bk_mk ?_)
  | refine Exists.intro (α := V) _ (And.intro rfl ?_)
  | refine Exists.intro (α := Bool) _ (And.intro rfl ?_)
  | refine Exists.intro (α := Int) _ (And.intro rfl ?_)
  | refine Exists.intro (α := PySem.Str) _ (And.intro rfl ?_)
  | refine Exists.intro (α := Int) _ (Exists.intro (α := Int) _ (And.intro rfl (And.intro rfl ?_)))
  | refine Exists.intro (α := PySem.Str) _ (Exists.intro (α := PySem.Str) _ (And.intro rfl (And.intro rfl ?_)))
  | refine Exists.intro (α := Int) _ (Exists.intro (α := Int) _ (And.intro rfl ?_))
  | refine Or.inl (Exists.intro (α := Int) _ (And.intro rfl ?_))
  | refine Exists.intro _ (Exists.intro _ (Exists.intro _ (Exists.intro _ (And.intro rfl (And.intro rfl (And.intro (by walk_at "sq") (And.intro rfl ?_)))))))
  | refine Exists.intro _ (Exists.intro _ (Exists.intro _ (Exists.intro _ (And.intro rfl (And.intro rfl (And.intro (by walk_at "hp") (And.intro rfl ?_)))))))
  | refine And.intro (by walk_at "sd") ?_
  )
local macro_rules | `(tactic| walk_at "rd") => `(tactic| repeat walk_at "rd1")
local macro_rules | `(tactic| walk_at "lk") => `(tactic| first | exact rfl | (rw [lookup_putF, if_pos rfl]) | (rw [lookup_putF, if_neg (by decide +kernel)]; walk_at "lk"))

theorem whole_cut {xs : List V} {lo hi : Option Int} (h : HT.sIx xs.length 0 lo = 0 ∧ HT.sIx xs.length xs.length hi = xs.length) : cutV xs lo hi = xs := by
  unfold cutV
  rw [h.1, h.2, List.drop_zero, Nat.sub_zero, List.take_length]
/-- a slice of a tuple, be it the whole or not -/
theorem slA_J {K : PySem.W.Frag} {a : Addr} {xs : List V} {lo hi : Option Int} {H : Hp} {Q : VK} (h : SqT K H a xs) (k : ∀ q H', Same H H' → SqT K H' q (cutV xs lo hi) → Q (.ref q) H') : rSlA K (.ref a) lo hi H Q :=
  ⟨a, xs, rfl, h, fun hw => k a H (Same.refl _) (by rw [whole_cut hw]; exact h), fun _ p hp => k p _ (same_new hp) (SqT.of upd_same)⟩
/-- two tuples put together -/
theorem catA_J {K : PySem.W.Frag} {a b : Addr} {xs ys : List V} {H : Hp} {Q : VK} (h : SqT K H a xs) (g : SqT K H b ys) (l : xs.length + ys.length ≤ sizeLine) (k : ∀ q H', Same H H' → SqT K H' q (xs ++ ys) → Q (.ref q) H') : rCatA K (.ref a) (.ref b) H Q :=
  ⟨a, b, xs, ys, rfl, rfl, h, g, l, fun e => k b H (Same.refl _) (by rw [e]; exact g), fun _ e => k a H (Same.refl _) (by rw [e, List.append_nil]; exact h), fun _ _ p hp => k p _ (same_new hp) (SqT.of upd_same)⟩
section
variable {P : Program} {w : World} {K : PySem.W.Frag} {mg : Str → Option Value} {base : Heap} {C0 XA FA DI XS FS DT SE : Addr}
theorem Items.imp {α : Type} {Rel Rel' : Hp → V → α → Prop} {H H' : Hp} {xs : List V} {l : List α} (h : Items Rel H xs l) (m : ∀ x y, Rel H x y → Rel' H' x y) : Items Rel' H' xs l := ⟨h.1, fun i x y a b => m _ _ (h.2 i x y a b)⟩
theorem tNoPart_mk {σ : L2.St} {H : Hp} {Q : Option Int → Hp → Prop} (h : Q none H) : tNoPart σ H Q := h
/-- what check_automaton refuses with the place z -/
def Refused (K : PySem.W.Frag) (XA : Addr) (sg : List Nat) (v : V) (z : Int) (H : Hp) : Prop := ∀ Q : VK, (∀ H3, Same H H3 → Q (.int z) H3) → spAut K XA [.str (S sg), v] H (fun _ H' => Q .non H') (EP Q)
theorem thr {z : Int} {H H2 : Hp} {Q : VK} (k : ∀ H3, Same H H3 → Q (.int z) H3) (s : Same H H2) : Thrown (EP Q) H2 XA "place" (.int z) := fun d hd z' dd e h => by
  cases e
  rw [upd_same] at h
  cases h
  exact k _ (s.trans (same_new hd))
theorem refW {sg : List Nat} {v : V} {H : Hp} (h : BadW K H v) : Refused K XA sg v (-1) H := fun Q k => ⟨sg, v, rfl, .inl ⟨h, thr k (Same.refl _)⟩⟩
theorem refE {sg : List Nat} {q m : Nat} {qe qd : Nat} {pre r2 dys : List V} {es : List Eg} {v : V} {z : Int} {H : Hp} (hq : SqX K H q [.int (m : Nat), .ref qe, .ref qd]) (he : SqX K H qe (pre ++ v :: r2)) (hd : SqX K H qd dys) (m1 : 1 ≤ m) (m4 : m ≤ 40) (hl : (pre ++ v :: r2).length ≤ 400)
    (ok : EsOk sg m es) (it : Items (EdX K) H pre es) (od : OddE K sg m es H v) (hz : z = (es.length : Nat)) : Refused K XA sg (.ref q) z H := fun Q k =>
  ⟨sg, _, rfl, .inr ⟨q, m, qe, _, qd, dys, rfl, hq, he, hd, m1, m4, .inr ⟨hl, es, pre, _, ok, rfl, it, .inl ⟨v, r2, rfl, od, fun H' s => hz ▸ thr k s⟩⟩⟩⟩
theorem refD {sg : List Nat} {q m : Nat} {qe qd : Nat} {eys r2 : List V} {es : List Eg} {ds : List Nat} {v : V} {z : Int} {H : Hp} (hq : SqX K H q [.int (m : Nat), .ref qe, .ref qd]) (he : SqX K H qe eys) (hd : SqX K H qd (ds.map dV ++ v :: r2)) (m1 : 1 ≤ m) (m4 : m ≤ 40) (hl : eys.length ≤ 400) (hl2 : (ds.map dV ++ v :: r2).length ≤ 400)
    (ok : EsOk sg m es) (it : Items (EdX K) H eys es) (dk : DsOk m ds) (od : OddD m ds v) (hz : z = (es.length + ds.length : Nat)) : Refused K XA sg (.ref q) z H := fun Q k =>
  ⟨sg, _, rfl, .inr ⟨q, m, qe, eys, qd, _, rfl, hq, he, hd, m1, m4, .inr ⟨hl, es, eys, [], ok, (List.append_nil _).symm, it, .inr ⟨rfl, hl2, ds, _, dk, rfl, .inl ⟨v, r2, rfl, od, fun H' s => hz ▸ thr k s⟩⟩⟩⟩⟩
theorem EsOk.take {sg : List Nat} {m : Nat} {es : List Eg} (h : EsOk sg m es) (k : Nat) : EsOk sg m (es.take k) := by
  refine ⟨fun e he => h.good e (List.mem_of_mem_take he), fun i a b h1 h2 => ?_⟩
  have hi := (List.getElem?_eq_some_iff.mp h2).1
  rw [List.length_take] at hi
  rw [List.getElem?_take_of_lt (by omega)] at h1 h2
  exact h.asc i a b h1 h2
theorem EsOk.snoc {sg : List Nat} {m : Nat} {es : List Eg} (h : EsOk sg m es) {e : Eg} (hg : goodE sg m e) (hl : ∀ p, es[es.length - 1]? = some p → 0 < es.length → eLt p e = true) : EsOk sg m (es ++ [e]) := by
  refine ⟨fun x hx => ?_, fun i a b h1 h2 => ?_⟩
  · rcases List.mem_append.mp hx with z | z
    · exact h.good x z
    · rw [List.mem_singleton] at z; rw [z]; exact hg
  · rcases Nat.lt_trichotomy (i + 1) es.length with q | q | q
    · rw [List.getElem?_append_left (by omega)] at h1
      rw [List.getElem?_append_left q] at h2
      exact h.asc i a b h1 h2
    · rw [List.getElem?_append_left (by omega)] at h1
      rw [List.getElem?_append_right (by omega), q, Nat.sub_self] at h2
      cases h2
      exact hl a (by rw [show es.length - 1 = i by omega]; exact h1) (by omega)
    · have := (List.getElem?_eq_some_iff.mp h2).1
      simp at this
      omega
theorem DsOk.take {m : Nat} {ds : List Nat} (h : DsOk m ds) (k : Nat) : DsOk m (ds.take k) := by
  refine ⟨fun e he => h.good e (List.mem_of_mem_take he), fun i a b h1 h2 => ?_⟩
  have hi := (List.getElem?_eq_some_iff.mp h2).1
  rw [List.length_take] at hi
  rw [List.getElem?_take_of_lt (by omega)] at h1 h2
  exact h.asc i a b h1 h2
theorem DsOk.snoc {m : Nat} {ds : List Nat} (h : DsOk m ds) {d : Nat} (hg : d < m) (hl : ∀ p, ds[ds.length - 1]? = some p → 0 < ds.length → p < d) : DsOk m (ds ++ [d]) := by
  refine ⟨fun x hx => ?_, fun i a b h1 h2 => ?_⟩
  · rcases List.mem_append.mp hx with z | z
    · exact h.good x z
    · rw [List.mem_singleton] at z; rw [z]; exact hg
  · rcases Nat.lt_trichotomy (i + 1) ds.length with q | q | q
    · rw [List.getElem?_append_left (by omega)] at h1
      rw [List.getElem?_append_left q] at h2
      exact h.asc i a b h1 h2
    · rw [List.getElem?_append_left (by omega)] at h1
      rw [List.getElem?_append_right (by omega), q, Nat.sub_self] at h2
      cases h2
      exact hl a (by rw [show ds.length - 1 = i by omega]; exact h1) (by omega)
    · have := (List.getElem?_eq_some_iff.mp h2).1
      simp at this
      omega
def spSp (K : PySem.W.Frag) (XA : Addr) : Sp := fun vs H Q _ => ∃ (a q : Addr) (sg : List Nat) (m : Nat) (qe : Addr) (eys : List V) (es : List Eg) (qd : Addr) (ds : List Nat), vs = [.ref a, .str (S sg), .ref q] ∧ Src H a ∧ AutT K H q m qe eys es qd ds ∧ EsOk sg m es ∧ DsOk m ds ∧ 1 ≤ m ∧ m ≤ 5 ∧ es.length ≤ 11 ∧ ds.length ≤ 5 ∧ 113 ∉ sg ∧
  ∀ (r : Addr) (v : V) (z : Int) (H' : Hp), But a H H' → Src H' a → H' r = some (.tup [v, .int z]) → Refused K XA sg v z H' → Q (.ref r) H'
theorem c__law_spoilt (T : Txt K mg) : Cal P w K mg base CX0 2 "_law_spoilt" (spSp K XA) := by
  have c__law_pick := c__law_pick (P := P) (w := w) (base := base) T
  refine Cal.mk0 T.d__law_spoilt sc__law_spoilt (fun vs H Q E h => ?_) (fun f cdv A outer s H vs Q E hr h => ?_)
  · obtain ⟨a, q, sg, m, qe, eys, es, qd, ds, rfl, _⟩ := h
    rfl
  · obtain ⟨a, q, sg, m, qe, eys, es, qd, ds, rfl, hS, AT, hE, hD, m1, m5, el, dl, hnq, k⟩ := h
    refine ⟨_, (pss_cons (ps_asg (pv 2) (pg_tup (by rfl) (pgs_cons (pg_name (i := 3) sc__law_spoilt.nd rfl (Or.inl rfl)) (pgs_cons (pg_name (i := 4) sc__law_spoilt.nd rfl (Or.inl rfl)) (pgs_cons (pg_name (i := 5) sc__law_spoilt.nd rfl (Or.inl rfl)) pgs_nil)))))
  (pss_cons (ps_set (i := 6) sc__law_spoilt.nd rfl (Or.inl rfl) (pe_c c__law_pick hr (by decide) rfl (pa_cons (pv 0) (pa_cons pe_int pa_nil))))
  (pss_cons (ps_if (PW.pt (pw_or (pt_cmpR op_lt (pv 6) pe_int (nomark _)) (pw_or (PW.pt (pw_and (pt_cmpR op_lt (pv 6) pe_int (nomark _)) (pw_and1 (pt_not (pt_truth (pv 4) (by intro _; rfl)))))) (pw_or1 (PW.pt (pw_and (pt_cmpR op_ge (pv 6) pe_int (nomark _)) (pw_and1 (pt_not (pt_truth (pv 5) (by intro _; rfl))))))))))
    (pss_cons (ps_set (i := 7) sc__law_spoilt.nd rfl (Or.inl rfl) (pe_lst (pa_cons pe_int (pa_cons pe_int (pa_cons pe_bl (pa_cons pe_str (pa_cons pe_non (pa_cons (pe_un un_neg pe_int) pa_nil))))))))
    (pss_cons (ps_set (i := 8) sc__law_spoilt.nd rfl (Or.inl rfl) (pe_lst (pa_cons (pe_tup (pa_cons (pe_ix ix_list (pv 7) (pe_c c__law_pick hr (by decide) rfl (pa_cons (pv 0) (pa_cons pe_int pa_nil))) (fun _ _ => rfl)) (pa_cons (pv 4) (pa_cons (pv 5) pa_nil)))) (pa_cons (pe_tup (pa_cons (pv 3) (pa_cons (pv 4) pa_nil))) (pa_cons (pe_tup (pa_cons (pv 3) (pa_cons pe_str (pa_cons (pv 5) pa_nil)))) (pa_cons (pe_tup (pa_cons (pv 3) (pa_cons (pv 4) (pa_cons pe_int pa_nil)))) (pa_cons (pe_tup (pa_cons (pv 3) (pa_cons (pv 4) (pa_cons pe_non pa_nil)))) (pa_cons pe_str (pa_cons (pe_tup (pa_cons (pv 3) (pa_cons (pv 4) (pa_cons (pv 5) (pa_cons (pe_tup pa_nil) pa_nil))))) (pa_cons pe_non pa_nil))))))))))
    (pss_one (ps_ret (pe_tup (pa_cons (pe_ix ix_list (pv 8) (pe_c c__law_pick hr (by decide) rfl (pa_cons (pv 0) (pa_cons pe_int pa_nil))) (fun _ _ => rfl)) (pa_cons (pe_un un_neg pe_int) pa_nil)))))))
    pss_nil)
  (pss_cons (ps_if (pt_cmpR op_lt (pv 6) pe_int (nomark _))
    (pss_cons (ps_set (i := 9) sc__law_spoilt.nd rfl (Or.inl rfl) (pe_c c__law_pick hr (by decide) rfl (pa_cons (pv 0) (pa_cons (pe_callB call_len_seq (by rfl) T.b_len (by decide +kernel) (pa_cons (pv 4) pa_nil)) pa_nil))))
    (pss_cons (ps_asg (pe_ix ix_tup (pv 4) (pv 9) (fun _ _ => rfl)) (pg_tup (by rfl) (pgs_cons (pg_name (i := 10) sc__law_spoilt.nd rfl (Or.inl rfl)) (pgs_cons (pg_name (i := 11) sc__law_spoilt.nd rfl (Or.inl rfl)) (pgs_cons (pg_name (i := 12) sc__law_spoilt.nd rfl (Or.inl rfl)) pgs_nil)))))
    (pss_cons (ps_if (pt_cmpR op_eq (pv 6) pe_int (nomark _))
      (pss_one (ps_ret (pe_tup (pa_cons (pe_tup (pa_cons (pv 3) (pa_cons (pe_op op_catA (pe_op op_catA (pe_slice sl_tupA (pv 4) po_none (po_some (pe_op op_add (pv 9) pe_int))) (pe_tup (pa_cons (pe_ix ix_tup (pv 4) (pv 9) (fun _ _ => rfl)) pa_nil))) (pe_slice sl_tupA (pv 4) (po_some (pe_op op_add (pv 9) pe_int)) po_none)) (pa_cons (pv 5) pa_nil)))) (pa_cons (pe_op op_add (pv 9) pe_int) pa_nil)))))
      pss_nil)
    (pss_cons (ps_if (PW.pt (pw_and (pt_cmpR op_eq (pv 6) pe_int (nomark _)) (pw_and1 (pt_cmpR op_lt (pe_op op_add (pv 9) pe_int) (pe_callB call_len_seq (by rfl) T.b_len (by decide +kernel) (pa_cons (pv 4) pa_nil)) (nomark _)))))
      (pss_one (ps_ret (pe_tup (pa_cons (pe_tup (pa_cons (pv 3) (pa_cons (pe_op op_catA (pe_op op_catA (pe_slice sl_tupA (pv 4) po_none (po_some (pv 9))) (pe_tup (pa_cons (pe_ix ix_tup (pv 4) (pe_op op_add (pv 9) pe_int) (fun _ _ => rfl)) (pa_cons (pe_ix ix_tup (pv 4) (pv 9) (fun _ _ => rfl)) pa_nil)))) (pe_slice sl_tupA (pv 4) (po_some (pe_op op_add (pv 9) pe_int)) po_none)) (pa_cons (pv 5) pa_nil)))) (pa_cons (pe_op op_add (pv 9) pe_int) pa_nil)))))
      pss_nil)
    (pss_cons (ps_set (i := 8) sc__law_spoilt.nd rfl (Or.inl rfl) (pe_lst (pa_cons (pe_tup (pa_cons (pv 3) (pa_cons (pv 11) (pa_cons (pv 12) pa_nil)))) (pa_cons (pe_tup (pa_cons (pv 10) (pa_cons (pv 11) (pa_cons (pv 3) pa_nil)))) (pa_cons (pe_tup (pa_cons (pv 10) (pa_cons pe_str (pa_cons (pv 12) pa_nil)))) (pa_cons (pe_tup (pa_cons (pv 10) (pa_cons pe_str (pa_cons (pv 12) pa_nil)))) (pa_cons (pe_tup (pa_cons (pv 10) (pa_cons (pv 11) pa_nil))) (pa_cons (pe_tup (pa_cons pe_bl (pa_cons (pv 11) (pa_cons (pv 12) pa_nil)))) (pa_cons (pe_tup (pa_cons (pv 10) (pa_cons pe_int (pa_cons (pv 12) pa_nil)))) (pa_cons (pe_tup (pa_cons (pv 10) (pa_cons (pv 11) (pa_cons (pe_un un_neg pe_int) pa_nil)))) (pa_cons pe_str (pa_cons (pe_tup (pa_cons (pv 10) (pa_cons (pv 11) (pa_cons (pv 12) (pa_cons pe_int pa_nil))))) (pa_cons pe_non pa_nil)))))))))))))
    (pss_one (ps_ret (pe_tup (pa_cons (pe_tup (pa_cons (pv 3) (pa_cons (pe_op op_catA (pe_op op_catA (pe_slice sl_tupA (pv 4) po_none (po_some (pv 9))) (pe_tup (pa_cons (pe_ix ix_list (pv 8) (pe_c c__law_pick hr (by decide) rfl (pa_cons (pv 0) (pa_cons pe_int pa_nil))) (fun _ _ => rfl)) pa_nil))) (pe_slice sl_tupA (pv 4) (po_some (pe_op op_add (pv 9) pe_int)) po_none)) (pa_cons (pv 5) pa_nil)))) (pa_cons (pv 9) pa_nil))))))))))
    pss_nil)
  (pss_cons (ps_set (i := 9) sc__law_spoilt.nd rfl (Or.inl rfl) (pe_c c__law_pick hr (by decide) rfl (pa_cons (pv 0) (pa_cons (pe_callB call_len_seq (by rfl) T.b_len (by decide +kernel) (pa_cons (pv 5) pa_nil)) pa_nil))))
  (pss_cons (ps_if (pt_cmpR op_eq (pv 6) pe_int (nomark _))
    (pss_one (ps_ret (pe_tup (pa_cons (pe_tup (pa_cons (pv 3) (pa_cons (pv 4) (pa_cons (pe_op op_catA (pe_op op_catA (pe_slice sl_tupA (pv 5) po_none (po_some (pe_op op_add (pv 9) pe_int))) (pe_tup (pa_cons (pe_ix ix_tup (pv 5) (pv 9) (fun _ _ => rfl)) pa_nil))) (pe_slice sl_tupA (pv 5) (po_some (pe_op op_add (pv 9) pe_int)) po_none)) pa_nil)))) (pa_cons (pe_op op_add (pe_op op_add (pe_callB call_len_seq (by rfl) T.b_len (by decide +kernel) (pa_cons (pv 4) pa_nil)) (pv 9)) pe_int) pa_nil)))))
    pss_nil)
  (pss_cons (ps_if (PW.pt (pw_and (pt_cmpR op_eq (pv 6) pe_int (nomark _)) (pw_and1 (pt_cmpR op_lt (pe_op op_add (pv 9) pe_int) (pe_callB call_len_seq (by rfl) T.b_len (by decide +kernel) (pa_cons (pv 5) pa_nil)) (nomark _)))))
    (pss_one (ps_ret (pe_tup (pa_cons (pe_tup (pa_cons (pv 3) (pa_cons (pv 4) (pa_cons (pe_op op_catA (pe_op op_catA (pe_slice sl_tupA (pv 5) po_none (po_some (pv 9))) (pe_tup (pa_cons (pe_ix ix_tup (pv 5) (pe_op op_add (pv 9) pe_int) (fun _ _ => rfl)) (pa_cons (pe_ix ix_tup (pv 5) (pv 9) (fun _ _ => rfl)) pa_nil)))) (pe_slice sl_tupA (pv 5) (po_some (pe_op op_add (pv 9) pe_int)) po_none)) pa_nil)))) (pa_cons (pe_op op_add (pe_op op_add (pe_callB call_len_seq (by rfl) T.b_len (by decide +kernel) (pa_cons (pv 4) pa_nil)) (pv 9)) pe_int) pa_nil)))))
    pss_nil)
  (pss_cons (ps_set (i := 8) sc__law_spoilt.nd rfl (Or.inl rfl) (pe_lst (pa_cons (pv 3) (pa_cons (pe_un un_neg pe_int) (pa_cons pe_str (pa_cons pe_non (pa_cons pe_bl (pa_cons (pe_op op_add (pv 3) pe_int) pa_nil))))))))
  (pss_one (ps_ret (pe_tup (pa_cons (pe_tup (pa_cons (pv 3) (pa_cons (pv 4) (pa_cons (pe_op op_catA (pe_op op_catA (pe_slice sl_tupA (pv 5) po_none (po_some (pv 9))) (pe_tup (pa_cons (pe_ix ix_list (pv 8) (pe_c c__law_pick hr (by decide) rfl (pa_cons (pv 0) (pa_cons pe_int pa_nil))) (fun _ _ => rfl)) pa_nil))) (pe_slice sl_tupA (pv 5) (po_some (pe_op op_add (pv 9) pe_int)) po_none)) pa_nil)))) (pa_cons (pe_op op_add (pe_callB call_len_seq (by rfl) T.b_len (by decide +kernel) (pa_cons (pv 4) pa_nil)) (pv 9)) pa_nil))))))))))))), ?_⟩
    walk_at "rd"
    refine ⟨q, _, rfl, AT.sq, rfl, _, _, rfl, _, _, rfl, _, _, rfl, rfl, ?_⟩
    walk_at "nx"
    refine ⟨_, rfl, a, 12, rfl, hS, by decide, by decide, fun kd H1 k0 k1 hS1 b1 => ?_⟩
    have A1 := AT.keep (Keep.but b1 hS)
    walk_at "nx"
    refine st_ifK (decide (kd < 4) || (decide (kd < 9) && eys.isEmpty || decide (9 ≤ kd) && (ds.map dV).isEmpty)) (fun Q' hQ => ?_) (fun hb => ?_) (fun hb => ?_)
    · refine ⟨_, rfl, _, _, rfl, rfl, _, rfl, ?_⟩
      refine ite2 (fun c1 => by rw [c1] at hQ; exact hQ) (fun c1 => ?_)
      rw [Bool.not_eq_true] at c1
      rw [c1, Bool.false_or] at hQ
      refine ⟨_, rfl, _, _, rfl, rfl, _, rfl, ?_⟩
      refine ite2 (fun c2 => ?_) (fun c2 => ?_)
      · have c3 : decide (9 ≤ kd) = false := decide_eq_false (by have := of_decide_eq_true c2; omega)
        rw [c2, Bool.true_and, c3, Bool.false_and, Bool.or_false] at hQ
        refine ⟨_, rfl, _, .inr (.inl ⟨_, A1.se, rfl⟩), ?_⟩
        cases he : eys.isEmpty with
        | true =>
          rw [he] at hQ
          exact hQ
        | false =>
          rw [he] at hQ
          refine iteF ?_
          refine ⟨_, rfl, _, _, rfl, rfl, _, rfl, ?_⟩
          rw [c3]
          exact iteF hQ
      · rw [Bool.not_eq_true] at c2
        have c3 : decide (9 ≤ kd) = true := decide_eq_true (by have := of_decide_eq_false c2; omega)
        rw [c2, Bool.false_and, Bool.false_or, c3, Bool.true_and] at hQ
        refine iteF ?_
        refine ⟨_, rfl, _, _, rfl, rfl, _, rfl, ?_⟩
        rw [c3]
        refine iteT ?_
        refine ⟨_, rfl, _, .inr (.inl ⟨_, A1.sd, rfl⟩), ?_⟩
        cases he : (ds.map dV).isEmpty with
        | true =>
          rw [he] at hQ
          exact hQ
        | false =>
          rw [he] at hQ
          exact hQ
    · skip
      -- BEGIN A
      walk_at "rd"
      try refine And.intro (by walk_at "sz") ?_
      intro l1 h1
      have s1 := same_new (o := .lst [.int 0, .int 41, .bl true, .str "3", .non, .int (-1)]) h1
      have e1 : (upd H1 l1 (.lst [.int 0, .int 41, .bl true, .str "3", .non, .int (-1)])) l1 = some (.lst [.int 0, .int 41, .bl true, .str "3", .non, .int (-1)]) := upd_same
      generalize upd H1 l1 (.lst [.int 0, .int 41, .bl true, .str "3", .non, .int (-1)]) = G1 at s1 e1 ⊢
      walk_at "nx"
      have hS2 : Src G1 a := by
        obtain ⟨d, e, c, z⟩ := hS1
        exact ⟨d, e, c, s1 _ _ z⟩
      refine ⟨_, rfl, _, rfl, a, 6, rfl, hS2, by decide, by decide, fun n2 H2 n20 n21 hS3 b3 => ?_⟩
      have nl1 : l1 ≠ a := by
        obtain ⟨d, e, c, z⟩ := hS1
        exact (ne_of_none z h1).symm
      have e1' := b3 _ _ nl1 e1
      obtain ⟨o, hat, ko, wo⟩ : ∃ o, atI [V.int 0, .int 41, .bl true, .str "3", .non, .int (-1)] n2 = some o ∧ Kd o ∧ intW o = false := by
        have h6 : n2 = 0 ∨ n2 = 1 ∨ n2 = 2 ∨ n2 = 3 ∨ n2 = 4 ∨ n2 = 5 := by omega
        rcases h6 with rfl | rfl | rfl | rfl | rfl | rfl
        · exact ⟨_, rfl, .inl ⟨_, rfl⟩, by decide⟩
        · exact ⟨_, rfl, .inl ⟨_, rfl⟩, by decide⟩
        · exact ⟨_, rfl, .inr (.inr (.inr ⟨_, rfl⟩)), rfl⟩
        · exact ⟨_, rfl, .inr (.inr (.inl ⟨_, rfl⟩)), rfl⟩
        · exact ⟨_, rfl, .inr (.inl rfl), rfl⟩
        · exact ⟨_, rfl, .inl ⟨_, rfl⟩, by decide⟩
      refine ⟨l1, _, _, _, rfl, rfl, SqL.of e1', hat, ?_⟩
      have A2 := (A1.keep (Keep.same s1)).keep (Keep.but b3 hS2)
      have b2 : But a H H2 := b1.trans ((But.same s1).trans b3)
      clear e1' hat nl1 e1 hS2 b3 s1 h1 A1 hS1 b1 hS AT
      walk_at "rd"
      try refine And.intro (by walk_at "sz") ?_
      intro l2 h2
      have s2 := same_new (o := .tup [o, .ref qe, .ref qd]) h2
      have e2 : (upd H2 l2 (.tup [o, .ref qe, .ref qd])) l2 = some (.tup [o, .ref qe, .ref qd]) := upd_same
      generalize upd H2 l2 (.tup [o, .ref qe, .ref qd]) = G2 at s2 e2 ⊢
      walk_at "rd"
      try refine And.intro (by walk_at "sz") ?_
      intro l3 h3
      have s3 := same_new (o := .tup [.int (m : Nat), .ref qe]) h3
      have e3 : (upd G2 l3 (.tup [.int (m : Nat), .ref qe])) l3 = some (.tup [.int (m : Nat), .ref qe]) := upd_same
      generalize upd G2 l3 (.tup [.int (m : Nat), .ref qe]) = G3 at s3 e3 ⊢
      walk_at "rd"
      try refine And.intro (by walk_at "sz") ?_
      intro l4 h4
      have s4 := same_new (o := .tup [.int (m : Nat), .str "ab", .ref qd]) h4
      have e4 : (upd G3 l4 (.tup [.int (m : Nat), .str "ab", .ref qd])) l4 = some (.tup [.int (m : Nat), .str "ab", .ref qd]) := upd_same
      generalize upd G3 l4 (.tup [.int (m : Nat), .str "ab", .ref qd]) = G4 at s4 e4 ⊢
      walk_at "rd"
      try refine And.intro (by walk_at "sz") ?_
      intro l5 h5
      have s5 := same_new (o := .tup [.int (m : Nat), .ref qe, .int 0]) h5
      have e5 : (upd G4 l5 (.tup [.int (m : Nat), .ref qe, .int 0])) l5 = some (.tup [.int (m : Nat), .ref qe, .int 0]) := upd_same
      generalize upd G4 l5 (.tup [.int (m : Nat), .ref qe, .int 0]) = G5 at s5 e5 ⊢
      walk_at "rd"
      try refine And.intro (by walk_at "sz") ?_
      intro l6 h6
      have s6 := same_new (o := .tup [.int (m : Nat), .ref qe, .non]) h6
      have e6 : (upd G5 l6 (.tup [.int (m : Nat), .ref qe, .non])) l6 = some (.tup [.int (m : Nat), .ref qe, .non]) := upd_same
      generalize upd G5 l6 (.tup [.int (m : Nat), .ref qe, .non]) = G6 at s6 e6 ⊢
      walk_at "rd"
      try refine And.intro (by walk_at "sz") ?_
      intro l7 h7
      have s7 := same_new (o := .tup []) h7
      have e7 : (upd G6 l7 (.tup [])) l7 = some (.tup []) := upd_same
      generalize upd G6 l7 (.tup []) = G7 at s7 e7 ⊢
      walk_at "rd"
      try refine And.intro (by walk_at "sz") ?_
      intro l8 h8
      have s8 := same_new (o := .tup [.int (m : Nat), .ref qe, .ref qd, .ref l7]) h8
      have e8 : (upd G7 l8 (.tup [.int (m : Nat), .ref qe, .ref qd, .ref l7])) l8 = some (.tup [.int (m : Nat), .ref qe, .ref qd, .ref l7]) := upd_same
      generalize upd G7 l8 (.tup [.int (m : Nat), .ref qe, .ref qd, .ref l7]) = G8 at s8 e8 ⊢
      walk_at "rd"
      try refine And.intro (by walk_at "sz") ?_
      intro l9 h9
      have s9 := same_new (o := .lst [.ref l2, .ref l3, .ref l4, .ref l5, .ref l6, .str "automaton", .ref l8, .non]) h9
      have e9 : (upd G8 l9 (.lst [.ref l2, .ref l3, .ref l4, .ref l5, .ref l6, .str "automaton", .ref l8, .non])) l9 = some (.lst [.ref l2, .ref l3, .ref l4, .ref l5, .ref l6, .str "automaton", .ref l8, .non]) := upd_same
      generalize upd G8 l9 (.lst [.ref l2, .ref l3, .ref l4, .ref l5, .ref l6, .str "automaton", .ref l8, .non]) = G9 at s9 e9 ⊢
      walk_at "nx"
      have s28 := s3.trans (s4.trans (s5.trans (s6.trans (s7.trans (s8.trans s9)))))
      have s29 := s2.trans s28
      have hS9 : Src G9 a := by
        obtain ⟨d, e, c, z⟩ := hS3
        exact ⟨d, e, c, s29 _ _ z⟩
      refine ⟨_, rfl, _, rfl, a, 8, rfl, hS9, by decide, by decide, fun n H3 n0 n1 hS4 b3 => ?_⟩
      have nl9 : l9 ≠ a := by
        intro e
        obtain ⟨_, _, _, z⟩ := hS9
        rw [← e, e9] at z
        cases z
      have kp := Keep.but b3 hS9
      have A3 := (A2.keep (Keep.same s29)).keep kp
      have sqe : SqX K H3 qe eys := .inr A3.se
      have sqd : SqX K H3 qd (ds.map dV) := .inr A3.sd
      have sk1 : Sk K H3 (.ref qe) := .inr ⟨_, _, rfl, sqe⟩
      have sk2 : Sk K H3 (.ref qd) := .inr ⟨_, _, rfl, sqd⟩
      have km : Kd (.int (m : Nat)) := .inl ⟨_, rfl⟩
      have hm : ∃ th, atI [V.ref l2, .ref l3, .ref l4, .ref l5, .ref l6, .str "automaton", .ref l8, .non] n = some th ∧ ∀ H4, Same H3 H4 → BadW K H4 th := by
        have h8 : n = 0 ∨ n = 1 ∨ n = 2 ∨ n = 3 ∨ n = 4 ∨ n = 5 ∨ n = 6 ∨ n = 7 := by omega
        have skm : ∀ {v : V} {H4 : Hp}, Same H3 H4 → Sk K H3 v → Sk K H4 v := fun s h => h.imp id fun ⟨q, xs, e, h⟩ => ⟨q, xs, e, h.same s⟩
        have tup : ∀ {l : Addr} {xs : List V} {H4 : Hp}, Same H3 H4 → G9 l = some (.tup xs) → SqX K H4 l xs := fun s h => .inr ((Keep.same s).seq (kp.seq (SqT.of h)))
        rcases h8 with rfl | rfl | rfl | rfl | rfl | rfl | rfl | rfl
        · exact ⟨_, rfl, fun H4 s => .inr ⟨l2, _, rfl, tup s (s28 _ _ e2), .inr ⟨_, _, _, rfl, ko, skm s sk1, skm s sk2, .inl wo⟩⟩⟩
        · exact ⟨_, rfl, fun H4 s => .inr ⟨l3, _, rfl, tup s (s9 _ _ (s8 _ _ (s7 _ _ (s6 _ _ (s5 _ _ (s4 _ _ e3)))))), .inl (by simp)⟩⟩
        · exact ⟨_, rfl, fun H4 s => .inr ⟨l4, _, rfl, tup s (s9 _ _ (s8 _ _ (s7 _ _ (s6 _ _ (s5 _ _ e4))))), .inr ⟨_, _, _, rfl, km, .inl (.inr (.inl ⟨_, rfl⟩)), skm s sk2, .inr (.inl (.inr (.inl ⟨_, rfl⟩)))⟩⟩⟩
        · exact ⟨_, rfl, fun H4 s => .inr ⟨l5, _, rfl, tup s (s9 _ _ (s8 _ _ (s7 _ _ (s6 _ _ e5)))), .inr ⟨_, _, _, rfl, km, skm s sk1, .inl (.inr (.inr ⟨_, rfl⟩)), .inr (.inr (.inr (.inr ⟨_, rfl⟩)))⟩⟩⟩
        · exact ⟨_, rfl, fun H4 s => .inr ⟨l6, _, rfl, tup s (s9 _ _ (s8 _ _ (s7 _ _ e6))), .inr ⟨_, _, _, rfl, km, skm s sk1, .inl (.inl rfl), .inr (.inr (.inl rfl))⟩⟩⟩
        · exact ⟨_, rfl, fun H4 s => .inl (.inr (.inl ⟨_, rfl⟩))⟩
        · exact ⟨_, rfl, fun H4 s => .inr ⟨l8, _, rfl, tup s (s9 _ _ e8), .inl (by simp)⟩⟩
        · exact ⟨_, rfl, fun H4 s => .inl (.inl rfl)⟩
      obtain ⟨th, hat, hbw⟩ := hm
      refine ⟨l9, _, _, _, rfl, rfl, SqL.of (b3 _ _ nl9 e9), hat, ?_⟩
      walk_at "rd"
      try refine And.intro (by walk_at "sz") ?_
      intro r hr
      have sr := same_new (o := .tup [th, .int (-1)]) hr
      refine k r th (-1) _ (b2.trans ((But.same s29).trans (b3.trans (But.same sr)))) ?_ upd_same (refW (hbw _ sr))
      obtain ⟨d, e, c, z⟩ := hS4
      exact ⟨d, e, c, sr _ _ z⟩
      -- END A
    · simp only [Bool.or_eq_false_iff, Bool.and_eq_false_iff, decide_eq_false_iff_not] at hb
      obtain ⟨hb1, hb2, hb3⟩ := hb
      have hel := A1.ie.1
      walk_at "nx"
      refine st_ifK (decide (kd < 9)) (fun Q' hQ => ?_) (fun hk => ?_) (fun hk => ?_)
      · walk_at "rd"
        exact hQ
      · have hk9 := of_decide_eq_true hk
        have hne : 0 < eys.length := by
          rcases Nat.eq_zero_or_pos eys.length with z | z
          · rw [List.eq_nil_of_length_eq_zero z] at hb2
            rcases hb2 with hb2 | hb2
            · omega
            · cases hb2
          · exact z
        clear hb1 hb2 hb3 hk
        walk_at "rd"
        refine ⟨qe, eys, rfl, .inr A1.se, ?_⟩
        refine tNil_mk ?_
        refine ⟨a, _, rfl, hS1, by omega, by omega, fun at_ H2 a0 a1 hS2 b2 => ?_⟩
        obtain ⟨t, rfl⟩ : ∃ t : Nat, at_ = t := ⟨at_.toNat, by omega⟩
        have A2 := A1.keep (Keep.but b2 hS1)
        have b02 := b1.trans b2
        clear A1 b2 b1 hS1 AT hS
        have ht : t < es.length := by omega
        have het : es[t]? = some es[t] := List.getElem?_eq_getElem ht
        obtain ⟨xi, hxi, qi, rfl, sqi⟩ := A2.ie.get het
        walk_at "nx"
        refine ⟨_, rfl, _, rfl, ⟨qe, _, _, _, rfl, rfl, A2.se, atI_nat hxi, ?_⟩⟩
        refine ⟨qi, _, rfl, sqi, rfl, _, _, rfl, _, _, rfl, _, _, rfl, rfl, ?_⟩
        walk_at "nx"
        refine st_ifK (decide (kd = 7)) (fun Q' hQ => ?_) (fun h7 => ?_) (fun h7 => ?_)
        · walk_at "rd"
          rw [show decide (V.int kd = V.int 7) = decide (kd = 7) from decide_eq_decide.mpr ⟨fun h => V.int.inj h, fun h => by rw [h]⟩]
          exact hQ
        · skip
          -- BEGIN B
          walk_at "rd"
          refine slA_J A2.se fun q1 G1 s1 hq1 => ?_
          rw [cut_toV (by omega), show ((t : Nat) + 1 : Int).toNat = t + 1 by omega] at hq1
          refine ⟨_, rfl, _, rfl, ⟨qe, _, _, _, rfl, rfl, (Keep.same s1).seq A2.se, atI_nat hxi, ?_⟩⟩
          try refine And.intro (by walk_at "sz") ?_
          intro p2 hp2
          have s2 := same_new (o := .tup [.ref qi]) hp2
          have e2 : (upd G1 p2 (.tup [.ref qi])) p2 = some (.tup [.ref qi]) := upd_same
          generalize upd G1 p2 (.tup [.ref qi]) = G2 at s2 e2 ⊢
          refine catA_J ((Keep.same s2).seq hq1) (SqT.of e2) (by rw [List.length_take]; exact Nat.le_trans (m := 20) (by simp; omega) (by decide)) fun q3 G3 s3 hq3 => ?_
          have A5 := A2.keep (Keep.same (s1.trans (s2.trans s3)))
          walk_at "rd"
          refine tNoPart_mk ?_
          refine slA_J A5.se fun q4 G4 s4 hq4 => ?_
          rw [cut_fromV (by omega), show ((t : Nat) + 1 : Int).toNat = t + 1 by omega] at hq4
          refine catA_J ((Keep.same s4).seq hq3) hq4 (by simp only [List.length_append, List.length_take, List.length_drop]; exact Nat.le_trans (m := 30) (by simp; omega) (by decide)) fun q5 G5 s5 hq5 => ?_
          have s15 := s1.trans (s2.trans (s3.trans (s4.trans s5)))
          have A6 := A2.keep (Keep.same s15)
          walk_at "rd"
          try refine And.intro (by walk_at "sz") ?_
          intro p6 hp6
          have s6 := same_new (o := .tup [.int (m : Nat), .ref q5, .ref qd]) hp6
          have e6 : (upd G5 p6 (.tup [.int (m : Nat), .ref q5, .ref qd])) p6 = some (.tup [.int (m : Nat), .ref q5, .ref qd]) := upd_same
          generalize upd G5 p6 (.tup [.int (m : Nat), .ref q5, .ref qd]) = G6 at s6 e6 ⊢
          walk_at "rd"
          try refine And.intro (by walk_at "sz") ?_
          intro r hr
          have sr := same_new (o := .tup [.ref p6, .int ((t : Nat) + 1)]) hr
          have A7 := A6.keep (Keep.same (s6.trans sr))
          have k7 : Keep G5 (upd G6 r (.tup [.ref p6, .int ((t : Nat) + 1)])) := Keep.same (s6.trans sr)
          have hq7 := k7.seq hq5
          rw [List.append_assoc] at hq7
          have hlt : (es.take (t + 1)).length = t + 1 := by rw [List.length_take]; omega
          refine k r (.ref p6) ((t : Nat) + 1) _ (b02.trans (But.same (s15.trans (s6.trans sr)))) (by obtain ⟨d, e, c, z⟩ := hS2; exact ⟨d, e, c, sr _ _ (s6 _ _ (s15 _ _ z))⟩) upd_same
            (refE (q := p6) (m := m) (qe := q5) (qd := qd) (es := es.take (t + 1)) (.inr (SqT.of (sr _ _ e6))) (.inr hq7) (.inr A7.sd) m1 (by omega) (by simp only [List.length_append, List.length_take, List.length_drop]; simp; omega) (hE.take _) ((A7.ie.take (t + 1)).imp fun x y h => h.x) (.inr ⟨es[t], es[t], ⟨qi, rfl, .inr ((Keep.same (s15.trans (s6.trans sr))).seq sqi)⟩, hE.good _ (List.mem_of_getElem? het), ?_, eLt_irr _⟩) (by rw [hlt]; omega))
          rw [hlt, Nat.add_sub_cancel, List.getElem?_take_of_lt (by omega)]
          exact het
          -- END B
        · walk_at "nx"
          clear h7
          refine st_ifK (decide (kd = 8) && decide (t + 1 < eys.length)) (fun Q' hQ => ?_) (fun h8 => ?_) (fun h8 => ?_)
          · walk_at "rd"
            rw [show decide (V.int kd = V.int 8) = decide (kd = 8) from decide_eq_decide.mpr ⟨fun h => V.int.inj h, fun h => by rw [h]⟩]
            cases h8 : decide (kd = 8) with
            | false =>
              rw [h8] at hQ
              exact iteF hQ
            | true =>
              rw [h8, Bool.true_and] at hQ
              refine iteT ?_
              walk_at "rd"
              refine ⟨qe, eys, rfl, .inr A2.se, ?_⟩
              refine ⟨_, _, rfl, rfl, _, rfl, ?_⟩
              rw [show decide (((t : Nat) : Int) + 1 < ((eys.length : Nat) : Int)) = decide (t + 1 < eys.length) from decide_eq_decide.mpr ⟨fun h => by omega, fun h => by omega⟩]
              exact hQ
          · skip
            -- BEGIN C
            rw [Bool.and_eq_true, decide_eq_true_eq, decide_eq_true_eq] at h8
            obtain ⟨_, ht1⟩ := h8
            have ht2 : t + 1 < es.length := by omega
            have het1 : es[t + 1]? = some es[t + 1] := List.getElem?_eq_getElem ht2
            obtain ⟨xn, hxn, qn, rfl, sqn⟩ := A2.ie.get het1
            walk_at "rd"
            refine slA_J A2.se fun q1 G1 s1 hq1 => ?_
            rw [cut_toV (by omega), show ((t : Nat) : Int).toNat = t by omega] at hq1
            have A3 := A2.keep (Keep.same s1)
            refine ⟨_, rfl, _, rfl, _, _, rfl, rfl, ⟨qe, _, _, _, rfl, rfl, A3.se, atI_at (by omega) (by rw [show (((t : Nat) : Int) + 1).toNat = t + 1 by omega]; exact hxn), ?_⟩⟩
            refine ⟨_, rfl, _, rfl, ⟨qe, _, _, _, rfl, rfl, A3.se, atI_nat hxi, ?_⟩⟩
            try refine And.intro (by walk_at "sz") ?_
            intro p2 hp2
            have s2 := same_new (o := .tup [.ref qn, .ref qi]) hp2
            have e2 : (upd G1 p2 (.tup [.ref qn, .ref qi])) p2 = some (.tup [.ref qn, .ref qi]) := upd_same
            generalize upd G1 p2 (.tup [.ref qn, .ref qi]) = G2 at s2 e2 ⊢
            refine catA_J ((Keep.same s2).seq hq1) (SqT.of e2) (by rw [List.length_take]; exact Nat.le_trans (m := 20) (by simp; omega) (by decide)) fun q3 G3 s3 hq3 => ?_
            have A5 := A2.keep (Keep.same (s1.trans (s2.trans s3)))
            walk_at "rd"
            refine tNoPart_mk ?_
            refine slA_J A5.se fun q4 G4 s4 hq4 => ?_
            rw [cut_fromV (by omega), show ((t : Nat) + 2 : Int).toNat = t + 2 by omega] at hq4
            refine catA_J ((Keep.same s4).seq hq3) hq4 (by simp only [List.length_append, List.length_take, List.length_drop]; exact Nat.le_trans (m := 30) (by simp; omega) (by decide)) fun q5 G5 s5 hq5 => ?_
            have s15 := s1.trans (s2.trans (s3.trans (s4.trans s5)))
            have A6 := A2.keep (Keep.same s15)
            walk_at "rd"
            try refine And.intro (by walk_at "sz") ?_
            intro p6 hp6
            have s6 := same_new (o := .tup [.int (m : Nat), .ref q5, .ref qd]) hp6
            have e6 : (upd G5 p6 (.tup [.int (m : Nat), .ref q5, .ref qd])) p6 = some (.tup [.int (m : Nat), .ref q5, .ref qd]) := upd_same
            generalize upd G5 p6 (.tup [.int (m : Nat), .ref q5, .ref qd]) = G6 at s6 e6 ⊢
            walk_at "rd"
            try refine And.intro (by walk_at "sz") ?_
            intro r hr
            have sr := same_new (o := .tup [.ref p6, .int ((t : Nat) + 1)]) hr
            have A7 := A6.keep (Keep.same (s6.trans sr))
            have k7 : Keep G5 (upd G6 r (.tup [.ref p6, .int ((t : Nat) + 1)])) := Keep.same (s6.trans sr)
            have hq7 := k7.seq hq5
            rw [show (eys.take t ++ [V.ref qn, .ref qi]) ++ eys.drop (t + 2) = (eys.take t ++ [V.ref qn]) ++ V.ref qi :: eys.drop (t + 2) by simp] at hq7
            have k27 : Keep H2 (upd G6 r (.tup [.ref p6, .int ((t : Nat) + 1)])) := Keep.same (s15.trans (s6.trans sr))
            have htk : (es.take t).length = t := by rw [List.length_take]; omega
            have hlt : (es.take t ++ [es[t + 1]]).length = t + 1 := by simp; omega
            have hE' : EsOk sg m (es.take t ++ [es[t + 1]]) := (hE.take t).snoc (hE.good _ (List.mem_of_getElem? het1)) fun pp hp hp0 => by
              rw [htk] at hp hp0
              rw [List.getElem?_take_of_lt (by omega)] at hp
              exact eLt_trans (hE.asc (t - 1) pp es[t] hp (by rw [Nat.sub_add_cancel (by omega)]; exact het)) (hE.asc t _ _ het het1)
            refine k r (.ref p6) ((t : Nat) + 1) _ (b02.trans (But.same (s15.trans (s6.trans sr)))) (by obtain ⟨d, e, c, z⟩ := hS2; exact ⟨d, e, c, sr _ _ (s6 _ _ (s15 _ _ z))⟩) upd_same
              (refE (q := p6) (m := m) (qe := q5) (qd := qd) (es := es.take t ++ [es[t + 1]]) (.inr (SqT.of (sr _ _ e6))) (.inr hq7) (.inr A7.sd) m1 (by omega) (by simp only [List.length_append, List.length_take, List.length_cons, List.length_drop]; simp; omega) hE'
                (((A7.ie.take t).snoc (fun _ _ h => h) (show EdT K _ (V.ref qn) es[t + 1] from ⟨qn, rfl, k27.seq sqn⟩)).imp fun x y h => h.x) (.inr ⟨es[t], es[t + 1], ⟨qi, rfl, .inr (k27.seq sqi)⟩, hE.good _ (List.mem_of_getElem? het), ?_, eLt_asymm (hE.asc t _ _ het het1)⟩) (by rw [hlt]; omega))
            rw [hlt, Nat.add_sub_cancel, List.getElem?_append_right (by omega), htk, Nat.sub_self]
            rfl
            -- END C
          · skip
            -- BEGIN D
            clear h8
            have hge := hE.good _ (List.mem_of_getElem? het)
            generalize hee : es[t] = ee at hge sqi ⊢
            obtain ⟨x, u, y⟩ := ee
            obtain ⟨gx, gy, gs, gl⟩ := hge
            have gx : x < m := gx
            have gy : y < m := gy
            have gs : strB sg u = true := gs
            have gl : u.length ≤ 1000 := gl
            walk_at "rd"
            try refine And.intro (by walk_at "sz") ?_
            intro l1 h1
            have s1 := same_new (o := .tup [.int (m : Nat), .str (S u), .int (y : Nat)]) h1
            have e1 : (upd H2 l1 (.tup [.int (m : Nat), .str (S u), .int (y : Nat)])) l1 = some (.tup [.int (m : Nat), .str (S u), .int (y : Nat)]) := upd_same
            generalize upd H2 l1 (.tup [.int (m : Nat), .str (S u), .int (y : Nat)]) = G1 at s1 e1 ⊢
            walk_at "rd"
            try refine And.intro (by walk_at "sz") ?_
            intro l2 h2
            have s2 := same_new (o := .tup [.int (x : Nat), .str (S u), .int (m : Nat)]) h2
            have e2 : (upd G1 l2 (.tup [.int (x : Nat), .str (S u), .int (m : Nat)])) l2 = some (.tup [.int (x : Nat), .str (S u), .int (m : Nat)]) := upd_same
            generalize upd G1 l2 (.tup [.int (x : Nat), .str (S u), .int (m : Nat)]) = G2 at s2 e2 ⊢
            walk_at "rd"
            try refine And.intro (by walk_at "sz") ?_
            intro l3 h3
            have s3 := same_new (o := .tup [.int (x : Nat), .str "q", .int (y : Nat)]) h3
            have e3 : (upd G2 l3 (.tup [.int (x : Nat), .str "q", .int (y : Nat)])) l3 = some (.tup [.int (x : Nat), .str "q", .int (y : Nat)]) := upd_same
            generalize upd G2 l3 (.tup [.int (x : Nat), .str "q", .int (y : Nat)]) = G3 at s3 e3 ⊢
            walk_at "rd"
            try refine And.intro (by walk_at "sz") ?_
            intro l4 h4
            have s4 := same_new (o := .tup [.int (x : Nat), .str "aa", .int (y : Nat)]) h4
            have e4 : (upd G3 l4 (.tup [.int (x : Nat), .str "aa", .int (y : Nat)])) l4 = some (.tup [.int (x : Nat), .str "aa", .int (y : Nat)]) := upd_same
            generalize upd G3 l4 (.tup [.int (x : Nat), .str "aa", .int (y : Nat)]) = G4 at s4 e4 ⊢
            walk_at "rd"
            try refine And.intro (by walk_at "sz") ?_
            intro l5 h5
            have s5 := same_new (o := .tup [.int (x : Nat), .str (S u)]) h5
            have e5 : (upd G4 l5 (.tup [.int (x : Nat), .str (S u)])) l5 = some (.tup [.int (x : Nat), .str (S u)]) := upd_same
            generalize upd G4 l5 (.tup [.int (x : Nat), .str (S u)]) = G5 at s5 e5 ⊢
            walk_at "rd"
            try refine And.intro (by walk_at "sz") ?_
            intro l6 h6
            have s6 := same_new (o := .tup [.bl true, .str (S u), .int (y : Nat)]) h6
            have e6 : (upd G5 l6 (.tup [.bl true, .str (S u), .int (y : Nat)])) l6 = some (.tup [.bl true, .str (S u), .int (y : Nat)]) := upd_same
            generalize upd G5 l6 (.tup [.bl true, .str (S u), .int (y : Nat)]) = G6 at s6 e6 ⊢
            walk_at "rd"
            try refine And.intro (by walk_at "sz") ?_
            intro l7 h7
            have s7 := same_new (o := .tup [.int (x : Nat), .int 7, .int (y : Nat)]) h7
            have e7 : (upd G6 l7 (.tup [.int (x : Nat), .int 7, .int (y : Nat)])) l7 = some (.tup [.int (x : Nat), .int 7, .int (y : Nat)]) := upd_same
            generalize upd G6 l7 (.tup [.int (x : Nat), .int 7, .int (y : Nat)]) = G7 at s7 e7 ⊢
            walk_at "rd"
            try refine And.intro (by walk_at "sz") ?_
            intro l8 h8
            have s8 := same_new (o := .tup [.int (x : Nat), .str (S u), .int (-1)]) h8
            have e8 : (upd G7 l8 (.tup [.int (x : Nat), .str (S u), .int (-1)])) l8 = some (.tup [.int (x : Nat), .str (S u), .int (-1)]) := upd_same
            generalize upd G7 l8 (.tup [.int (x : Nat), .str (S u), .int (-1)]) = G8 at s8 e8 ⊢
            walk_at "rd"
            try refine And.intro (by walk_at "sz") ?_
            intro l9 h9
            have s9 := same_new (o := .tup [.int (x : Nat), .str (S u), .int (y : Nat), .int 0]) h9
            have e9 : (upd G8 l9 (.tup [.int (x : Nat), .str (S u), .int (y : Nat), .int 0])) l9 = some (.tup [.int (x : Nat), .str (S u), .int (y : Nat), .int 0]) := upd_same
            generalize upd G8 l9 (.tup [.int (x : Nat), .str (S u), .int (y : Nat), .int 0]) = G9 at s9 e9 ⊢
            walk_at "rd"
            try refine And.intro (by walk_at "sz") ?_
            intro l10 h10
            have s10 := same_new (o := .lst [.ref l1, .ref l2, .ref l3, .ref l4, .ref l5, .ref l6, .ref l7, .ref l8, .str "a", .ref l9, .non]) h10
            have e10 : (upd G9 l10 (.lst [.ref l1, .ref l2, .ref l3, .ref l4, .ref l5, .ref l6, .ref l7, .ref l8, .str "a", .ref l9, .non])) l10 = some (.lst [.ref l1, .ref l2, .ref l3, .ref l4, .ref l5, .ref l6, .ref l7, .ref l8, .str "a", .ref l9, .non]) := upd_same
            generalize upd G9 l10 (.lst [.ref l1, .ref l2, .ref l3, .ref l4, .ref l5, .ref l6, .ref l7, .ref l8, .str "a", .ref l9, .non]) = G10 at s10 e10 ⊢
            have t9 := s10
            have t8 := s9.trans t9
            have t7 := s8.trans t8
            have t6 := s7.trans t7
            have t5 := s6.trans t6
            have t4 := s5.trans t5
            have t3 := s4.trans t4
            have t2 := s3.trans t3
            have t1 := s2.trans t2
            have t0 := s1.trans t1
            have A3 := A2.keep (Keep.same t0)
            have hS3 : Src G10 a := by
              obtain ⟨d, e, c, z⟩ := hS2
              exact ⟨d, e, c, t0 _ _ z⟩
            have nl : l10 ≠ a := by
              intro e
              obtain ⟨_, _, _, z⟩ := hS3
              rw [← e, e10] at z
              cases z
            walk_at "nx"
            walk_at "rd"
            refine slA_J A3.se fun q1 F1 s1' hq1 => ?_
            rw [cut_toV (by omega), show ((t : Nat) : Int).toNat = t by omega] at hq1
            have hS4 : Src F1 a := by
              obtain ⟨d, e, c, z⟩ := hS3
              exact ⟨d, e, c, s1' _ _ z⟩
            refine ⟨_, rfl, _, rfl, a, 11, rfl, hS4, by decide, by decide, fun n F2 n0 n1 hS5 b5 => ?_⟩
            have kp : Keep G10 F2 := (Keep.same s1').trans (Keep.but b5 hS4)
            have km : Kd (.int (m : Nat)) := .inl ⟨_, rfl⟩
            have kx : Kd (.int (x : Nat)) := .inl ⟨_, rfl⟩
            have ky : Kd (.int (y : Nat)) := .inl ⟨_, rfl⟩
            have imm : intB (m : Nat) (.int (m : Nat)) = false := by
              show (decide ((0 : Int) ≤ (m : Nat)) && decide (((m : Nat) : Int) ≤ (m : Nat) - 1)) = false
              rw [decide_eq_false (show ¬ ((m : Nat) : Int) ≤ (m : Nat) - 1 by omega), Bool.and_false]
            have lq : Str.ofString "q" = S [113] := by decide +kernel
            have laa : Str.ofString "aa" = S [97, 97] := by decide +kernel
            have hm : ∃ th, atI [V.ref l1, .ref l2, .ref l3, .ref l4, .ref l5, .ref l6, .ref l7, .ref l8, .str "a", .ref l9, .non] n = some th ∧ ∀ F3, Keep F2 F3 → OddEdge K sg (m : Nat) F3 th := by
              have h11 : n = 0 ∨ n = 1 ∨ n = 2 ∨ n = 3 ∨ n = 4 ∨ n = 5 ∨ n = 6 ∨ n = 7 ∨ n = 8 ∨ n = 9 ∨ n = 10 := by omega
              have tup : ∀ {l : Addr} {zs : List V} {F3 : Hp}, Keep F2 F3 → G10 l = some (.tup zs) → SqX K F3 l zs := fun s h => .inr (s.seq (kp.seq (SqT.of h)))
              rcases h11 with rfl | rfl | rfl | rfl | rfl | rfl | rfl | rfl | rfl | rfl | rfl
              · exact ⟨_, rfl, fun F3 s => .inr ⟨l1, _, rfl, tup s (t1 _ _ e1), .inr ⟨_, _, _, rfl, km, ky, .inl ⟨u, rfl, gl, by rw [imm]; rfl⟩⟩⟩⟩
              · exact ⟨_, rfl, fun F3 s => .inr ⟨l2, _, rfl, tup s (t2 _ _ e2), .inr ⟨_, _, _, rfl, kx, km, .inl ⟨u, rfl, gl, by rw [imm, Bool.and_false]; rfl⟩⟩⟩⟩
              · exact ⟨_, rfl, fun F3 s => .inr ⟨l3, _, rfl, tup s (t3 _ _ e3), .inr ⟨_, _, _, rfl, kx, ky, .inl ⟨[113], by rw [lq], by decide, by rw [show strB sg [113] = false by simp [strB, hnq], Bool.and_false]⟩⟩⟩⟩
              · exact ⟨_, rfl, fun F3 s => .inr ⟨l4, _, rfl, tup s (t4 _ _ e4), .inr ⟨_, _, _, rfl, kx, ky, .inl ⟨[97, 97], by rw [laa], by decide, by rw [show strB sg [97, 97] = false by simp [strB], Bool.and_false]⟩⟩⟩⟩
              · exact ⟨_, rfl, fun F3 s => .inr ⟨l5, _, rfl, tup s (t5 _ _ e5), .inl (by simp)⟩⟩
              · exact ⟨_, rfl, fun F3 s => .inr ⟨l6, _, rfl, tup s (t6 _ _ e6), .inr ⟨_, _, _, rfl, .inr (.inr (.inr ⟨_, rfl⟩)), ky, .inl ⟨u, rfl, gl, rfl⟩⟩⟩⟩
              · exact ⟨_, rfl, fun F3 s => .inr ⟨l7, _, rfl, tup s (t7 _ _ e7), .inr ⟨_, _, _, rfl, kx, ky, .inr ⟨_, rfl⟩⟩⟩⟩
              · exact ⟨_, rfl, fun F3 s => .inr ⟨l8, _, rfl, tup s (t8 _ _ e8), .inr ⟨_, _, _, rfl, kx, .inl ⟨_, rfl⟩, .inl ⟨u, rfl, gl, by rw [show intB (m : Nat) (.int (-1)) = false from rfl, Bool.and_false]; rfl⟩⟩⟩⟩
              · exact ⟨_, rfl, fun F3 s => .inl (.inr (.inl ⟨_, rfl⟩))⟩
              · exact ⟨_, rfl, fun F3 s => .inr ⟨l9, _, rfl, tup s (t9 _ _ e9), .inl (by simp)⟩⟩
              · exact ⟨_, rfl, fun F3 s => .inl (.inl rfl)⟩
            obtain ⟨th, hat, hod⟩ := hm
            refine ⟨l10, _, _, _, rfl, rfl, SqL.of (b5 _ _ nl (s1' _ _ e10)), hat, ?_⟩
            have A4 := A3.keep kp
            have hq1' := (Keep.but b5 hS4).seq hq1
            have bF : But a H F2 := b02.trans ((But.same t0).trans ((But.same s1').trans b5))
            clear hat A2 hS2 hS3 hS4 b5 kp hq1 s1' A3
            try refine And.intro (by walk_at "sz") ?_
            intro p2 hp2
            have s2' := same_new (o := .tup [th]) hp2
            have e2' : (upd F2 p2 (.tup [th])) p2 = some (.tup [th]) := upd_same
            generalize upd F2 p2 (.tup [th]) = F3 at s2' e2' ⊢
            refine catA_J ((Keep.same s2').seq hq1') (SqT.of e2') (by rw [List.length_take]; exact Nat.le_trans (m := 20) (by simp; omega) (by decide)) fun q3 F4 s3' hq3 => ?_
            have A5 := A4.keep (Keep.same (s2'.trans s3'))
            walk_at "rd"
            refine tNoPart_mk ?_
            refine slA_J A5.se fun q4 F5 s4' hq4 => ?_
            rw [cut_fromV (by omega), show ((t : Nat) + 1 : Int).toNat = t + 1 by omega] at hq4
            refine catA_J ((Keep.same s4').seq hq3) hq4 (by simp only [List.length_append, List.length_take, List.length_drop]; exact Nat.le_trans (m := 30) (by simp; omega) (by decide)) fun q5 F6 s5' hq5 => ?_
            have s25 := s2'.trans (s3'.trans (s4'.trans s5'))
            walk_at "rd"
            try refine And.intro (by walk_at "sz") ?_
            intro p6 hp6
            have s6' := same_new (o := .tup [.int (m : Nat), .ref q5, .ref qd]) hp6
            have e6' : (upd F6 p6 (.tup [.int (m : Nat), .ref q5, .ref qd])) p6 = some (.tup [.int (m : Nat), .ref q5, .ref qd]) := upd_same
            generalize upd F6 p6 (.tup [.int (m : Nat), .ref q5, .ref qd]) = F7 at s6' e6' ⊢
            walk_at "rd"
            try refine And.intro (by walk_at "sz") ?_
            intro r hr
            have sr := same_new (o := .tup [.ref p6, .int (t : Nat)]) hr
            have s2r := s25.trans (s6'.trans sr)
            have A7 := A4.keep (Keep.same s2r)
            have hq7 := (Keep.same (s6'.trans sr)).seq hq5
            rw [List.append_assoc] at hq7
            have htk : (es.take t).length = t := by rw [List.length_take]; omega
            exact k r (.ref p6) (t : Nat) _ (bF.trans (But.same s2r)) (by obtain ⟨d, e, c, z⟩ := hS5; exact ⟨d, e, c, s2r _ _ z⟩) upd_same
              (refE (q := p6) (m := m) (qe := q5) (qd := qd) (es := es.take t) (.inr (SqT.of (sr _ _ e6'))) (.inr hq7) (.inr A7.sd) m1 (by omega) (by simp only [List.length_append, List.length_take, List.length_cons, List.length_drop]; simp; omega) (hE.take t) ((A7.ie.take t).imp fun x y h => h.x) (.inl (hod _ (Keep.same s2r))) (by rw [htk]))
            -- END D
      · skip
        have hk9 : 9 ≤ kd := by have := of_decide_eq_false hk; omega
        have hne : 0 < ds.length := by
          rcases Nat.eq_zero_or_pos ds.length with z | z
          · rw [List.eq_nil_of_length_eq_zero z] at hb3
            rcases hb3 with hb3 | hb3
            · omega
            · cases hb3
          · exact z
        clear hb1 hb2 hb3 hk
        walk_at "nx"
        walk_at "rd"
        refine ⟨qd, _, rfl, .inr A1.sd, ?_⟩
        rw [List.length_map]
        refine tNil_mk ?_
        refine ⟨a, _, rfl, hS1, by omega, by omega, fun at_ H2 a0 a1 hS2 b2 => ?_⟩
        obtain ⟨t, rfl⟩ : ∃ t : Nat, at_ = t := ⟨at_.toNat, by omega⟩
        have A2 := A1.keep (Keep.but b2 hS1)
        have b02 := b1.trans b2
        clear A1 b2 b1 hS1 AT hS
        have ht : t < ds.length := by omega
        have het : ds[t]? = some ds[t] := List.getElem?_eq_getElem ht
        have hxi : (ds.map dV)[t]? = some (dV ds[t]) := by rw [List.getElem?_map, het]; rfl
        walk_at "nx"
        refine st_ifK (decide (kd = 9)) (fun Q' hQ => ?_) (fun h7 => ?_) (fun h7 => ?_)
        · walk_at "rd"
          rw [show decide (V.int kd = V.int 9) = decide (kd = 9) from decide_eq_decide.mpr ⟨fun h => V.int.inj h, fun h => by rw [h]⟩]
          exact hQ
        · skip
          -- BEGIN F
          walk_at "rd"
          refine slA_J A2.sd fun q1 G1 s1 hq1 => ?_
          rw [cut_toV (by omega), show ((t : Nat) + 1 : Int).toNat = t + 1 by omega] at hq1
          have A3 := A2.keep (Keep.same s1)
          refine ⟨_, rfl, _, rfl, ⟨qd, _, _, _, rfl, rfl, A3.sd, atI_nat hxi, ?_⟩⟩
          try refine And.intro (by walk_at "sz") ?_
          intro p2 hp2
          have s2' := same_new (o := .tup [dV ds[t]]) hp2
          have e2' : (upd G1 p2 (.tup [dV ds[t]])) p2 = some (.tup [dV ds[t]]) := upd_same
          generalize upd G1 p2 (.tup [dV ds[t]]) = F3 at s2' e2' ⊢
          refine catA_J ((Keep.same s2').seq hq1) (SqT.of e2') (by rw [List.length_take, List.length_map]; exact Nat.le_trans (m := 20) (by simp; omega) (by decide)) fun q3 F4 s3' hq3 => ?_
          have A5 := A3.keep (Keep.same (s2'.trans s3'))
          walk_at "rd"
          refine tNoPart_mk ?_
          refine slA_J A5.sd fun q4 F5 s4' hq4 => ?_
          rw [cut_fromV (by omega), show ((t : Nat) + 1 : Int).toNat = t + 1 by omega] at hq4
          refine catA_J ((Keep.same s4').seq hq3) hq4 (by simp only [List.length_append, List.length_take, List.length_drop, List.length_map]; exact Nat.le_trans (m := 30) (by simp; omega) (by decide)) fun q5 F6 s5' hq5 => ?_
          have s25 := s2'.trans (s3'.trans (s4'.trans s5'))
          walk_at "rd"
          try refine And.intro (by walk_at "sz") ?_
          intro p6 hp6
          have s6' := same_new (o := .tup [.int (m : Nat), .ref qe, .ref q5]) hp6
          have e6' : (upd F6 p6 (.tup [.int (m : Nat), .ref qe, .ref q5])) p6 = some (.tup [.int (m : Nat), .ref qe, .ref q5]) := upd_same
          generalize upd F6 p6 (.tup [.int (m : Nat), .ref qe, .ref q5]) = F7 at s6' e6' ⊢
          have A6 := A3.keep (Keep.same (s25.trans s6'))
          walk_at "rd"
          refine ⟨qe, eys, rfl, .inr A6.se, ?_⟩
          walk_at "rd"
          try refine And.intro (by walk_at "sz") ?_
          intro r hr
          have sr := same_new (o := .tup [.ref p6, .int ((eys.length : Nat) + (t : Nat) + 1)]) hr
          have s2r := s25.trans (s6'.trans sr)
          have A7 := A3.keep (Keep.same s2r)
          have hq7 := (Keep.same (s6'.trans sr)).seq hq5
          rw [List.append_assoc, ← List.map_take] at hq7
          have hlt : (ds.take (t + 1)).length = t + 1 := by rw [List.length_take]; omega
          exact k r (.ref p6) _ _ (b02.trans ((But.same s1).trans (But.same s2r))) (by obtain ⟨d, e, c, z⟩ := hS2; exact ⟨d, e, c, s2r _ _ (s1 _ _ z)⟩) upd_same
            (refD (q := p6) (m := m) (qe := qe) (qd := q5) (eys := eys) (es := es) (ds := ds.take (t + 1)) (.inr (SqT.of (sr _ _ e6'))) (.inr A7.se) (.inr hq7) m1 (by omega) (by omega) (by simp only [List.length_append, List.length_map, List.length_take, List.length_drop]; simp; omega) hE (A7.ie.imp fun x y h => h.x) (hD.take _) (.inr ⟨_, rfl, .inr ⟨ds[t], by rw [hlt, Nat.add_sub_cancel, List.getElem?_take_of_lt (by omega)]; exact het, Int.le_refl _⟩⟩) (by rw [hlt, A7.ie.1]; omega))
          -- END F
        · walk_at "nx"
          clear h7
          refine st_ifK (decide (kd = 10) && decide (t + 1 < ds.length)) (fun Q' hQ => ?_) (fun h8 => ?_) (fun h8 => ?_)
          · walk_at "rd"
            rw [show decide (V.int kd = V.int 10) = decide (kd = 10) from decide_eq_decide.mpr ⟨fun h => V.int.inj h, fun h => by rw [h]⟩]
            cases h8 : decide (kd = 10) with
            | false =>
              rw [h8] at hQ
              exact iteF hQ
            | true =>
              rw [h8, Bool.true_and] at hQ
              refine iteT ?_
              walk_at "rd"
              refine ⟨qd, _, rfl, .inr A2.sd, ?_⟩
              refine ⟨_, _, rfl, rfl, _, rfl, ?_⟩
              rw [List.length_map, show decide (((t : Nat) : Int) + 1 < ((ds.length : Nat) : Int)) = decide (t + 1 < ds.length) from decide_eq_decide.mpr ⟨fun h => by omega, fun h => by omega⟩]
              exact hQ
          · skip
            -- BEGIN G
            rw [Bool.and_eq_true, decide_eq_true_eq, decide_eq_true_eq] at h8
            obtain ⟨_, ht1⟩ := h8
            have het1 : ds[t + 1]? = some ds[t + 1] := List.getElem?_eq_getElem ht1
            have hxn : (ds.map dV)[t + 1]? = some (dV ds[t + 1]) := by rw [List.getElem?_map, het1]; rfl
            have hlt2 := hD.asc t _ _ het het1
            walk_at "rd"
            refine slA_J A2.sd fun q1 G1 s1 hq1 => ?_
            rw [cut_toV (by omega), show ((t : Nat) : Int).toNat = t by omega] at hq1
            have A3 := A2.keep (Keep.same s1)
            refine ⟨_, rfl, _, rfl, _, _, rfl, rfl, ⟨qd, _, _, _, rfl, rfl, A3.sd, atI_at (by omega) (by rw [show (((t : Nat) : Int) + 1).toNat = t + 1 by omega]; exact hxn), ?_⟩⟩
            refine ⟨_, rfl, _, rfl, ⟨qd, _, _, _, rfl, rfl, A3.sd, atI_nat hxi, ?_⟩⟩
            try refine And.intro (by walk_at "sz") ?_
            intro p2 hp2
            have s2' := same_new (o := .tup [dV ds[t + 1], dV ds[t]]) hp2
            have e2' : (upd G1 p2 (.tup [dV ds[t + 1], dV ds[t]])) p2 = some (.tup [dV ds[t + 1], dV ds[t]]) := upd_same
            generalize upd G1 p2 (.tup [dV ds[t + 1], dV ds[t]]) = F3 at s2' e2' ⊢
            refine catA_J ((Keep.same s2').seq hq1) (SqT.of e2') (by rw [List.length_take, List.length_map]; exact Nat.le_trans (m := 20) (by simp; omega) (by decide)) fun q3 F4 s3' hq3 => ?_
            have A5 := A3.keep (Keep.same (s2'.trans s3'))
            walk_at "rd"
            refine tNoPart_mk ?_
            refine slA_J A5.sd fun q4 F5 s4' hq4 => ?_
            rw [cut_fromV (by omega), show ((t : Nat) + 2 : Int).toNat = t + 2 by omega] at hq4
            refine catA_J ((Keep.same s4').seq hq3) hq4 (by simp only [List.length_append, List.length_take, List.length_drop, List.length_map]; exact Nat.le_trans (m := 30) (by simp; omega) (by decide)) fun q5 F6 s5' hq5 => ?_
            have s25 := s2'.trans (s3'.trans (s4'.trans s5'))
            walk_at "rd"
            try refine And.intro (by walk_at "sz") ?_
            intro p6 hp6
            have s6' := same_new (o := .tup [.int (m : Nat), .ref qe, .ref q5]) hp6
            have e6' : (upd F6 p6 (.tup [.int (m : Nat), .ref qe, .ref q5])) p6 = some (.tup [.int (m : Nat), .ref qe, .ref q5]) := upd_same
            generalize upd F6 p6 (.tup [.int (m : Nat), .ref qe, .ref q5]) = F7 at s6' e6' ⊢
            have A6 := A3.keep (Keep.same (s25.trans s6'))
            walk_at "rd"
            refine ⟨qe, eys, rfl, .inr A6.se, ?_⟩
            walk_at "rd"
            try refine And.intro (by walk_at "sz") ?_
            intro r hr
            have sr := same_new (o := .tup [.ref p6, .int ((eys.length : Nat) + (t : Nat) + 1)]) hr
            have s2r := s25.trans (s6'.trans sr)
            have A7 := A3.keep (Keep.same s2r)
            have hq7 := (Keep.same (s6'.trans sr)).seq hq5
            rw [← List.map_take, show ((ds.take t).map dV ++ [dV ds[t + 1], dV ds[t]]) ++ (ds.map dV).drop (t + 2) = (ds.take t ++ [ds[t + 1]]).map dV ++ dV ds[t] :: (ds.map dV).drop (t + 2) by simp] at hq7
            have htk : (ds.take t).length = t := by rw [List.length_take]; omega
            have hlt : (ds.take t ++ [ds[t + 1]]).length = t + 1 := by simp; omega
            have hD' : DsOk m (ds.take t ++ [ds[t + 1]]) := (hD.take t).snoc (hD.good _ (List.mem_of_getElem? het1)) fun pp hp hp0 => by
              rw [htk] at hp hp0
              rw [List.getElem?_take_of_lt (by omega)] at hp
              have := hD.asc (t - 1) pp ds[t] hp (by rw [Nat.sub_add_cancel (by omega)]; exact het)
              omega
            exact k r (.ref p6) _ _ (b02.trans ((But.same s1).trans (But.same s2r))) (by obtain ⟨d, e, c, z⟩ := hS2; exact ⟨d, e, c, s2r _ _ (s1 _ _ z)⟩) upd_same
              (refD (q := p6) (m := m) (qe := qe) (qd := q5) (eys := eys) (es := es) (ds := ds.take t ++ [ds[t + 1]]) (.inr (SqT.of (sr _ _ e6'))) (.inr A7.se) (.inr hq7) m1 (by omega) (by omega) (by simp only [List.length_append, List.length_map, List.length_take, List.length_cons, List.length_drop]; simp; omega) hE (A7.ie.imp fun x y h => h.x) hD' (.inr ⟨_, rfl, .inr ⟨ds[t + 1], by rw [hlt, Nat.add_sub_cancel, List.getElem?_append_right (by omega), htk, Nat.sub_self]; rfl, by omega⟩⟩) (by rw [hlt, A7.ie.1]; omega))
            -- END G
          · skip
            -- BEGIN Z
            clear h8
            walk_at "nx"
            walk_at "rd"
            refine tNil_mk ?_
            refine ⟨by walk_at "sz", fun l1 h1 => ?_⟩
            have s1 := same_new (o := .lst [.int (m : Nat), .int (-1), .str "0", .non, .bl false, .int ((m : Nat) + 7)]) h1
            have e1 : (upd H2 l1 (.lst [.int (m : Nat), .int (-1), .str "0", .non, .bl false, .int ((m : Nat) + 7)])) l1 = some (.lst [.int (m : Nat), .int (-1), .str "0", .non, .bl false, .int ((m : Nat) + 7)]) := upd_same
            generalize upd H2 l1 (.lst [.int (m : Nat), .int (-1), .str "0", .non, .bl false, .int ((m : Nat) + 7)]) = G1 at s1 e1 ⊢
            have A3 := A2.keep (Keep.same s1)
            have hS3 : Src G1 a := by
              obtain ⟨d, e, c, z⟩ := hS2
              exact ⟨d, e, c, s1 _ _ z⟩
            have nl : l1 ≠ a := by
              intro e
              obtain ⟨_, _, _, z⟩ := hS3
              rw [← e, e1] at z
              cases z
            walk_at "nx"
            walk_at "rd"
            refine slA_J A3.sd fun q1 G2 s1' hq1 => ?_
            rw [cut_toV (by omega), show ((t : Nat) : Int).toNat = t by omega] at hq1
            have hS4 : Src G2 a := by
              obtain ⟨d, e, c, z⟩ := hS3
              exact ⟨d, e, c, s1' _ _ z⟩
            refine ⟨_, rfl, _, rfl, a, 6, rfl, hS4, by decide, by decide, fun n F1 n0 n1 hS5 b5 => ?_⟩
            have hm : ∃ o, atI [V.int (m : Nat), .int (-1), .str "0", .non, .bl false, .int ((m : Nat) + 7)] n = some o ∧ ∀ ds' : List Nat, OddD m ds' o := by
              have h6 : n = 0 ∨ n = 1 ∨ n = 2 ∨ n = 3 ∨ n = 4 ∨ n = 5 := by omega
              rcases h6 with rfl | rfl | rfl | rfl | rfl | rfl
              · exact ⟨_, rfl, fun _ => .inr ⟨_, rfl, .inl (by show (decide ((0 : Int) ≤ (m : Nat)) && decide (((m : Nat) : Int) ≤ (m : Nat) - 1)) = false; rw [decide_eq_false (show ¬ ((m : Nat) : Int) ≤ (m : Nat) - 1 by omega), Bool.and_false])⟩⟩
              · exact ⟨_, rfl, fun _ => .inr ⟨_, rfl, .inl rfl⟩⟩
              · exact ⟨_, rfl, fun _ => .inl (.inr (.inl ⟨_, rfl⟩))⟩
              · exact ⟨_, rfl, fun _ => .inl (.inl rfl)⟩
              · exact ⟨_, rfl, fun _ => .inl (.inr (.inr ⟨_, rfl⟩))⟩
              · exact ⟨_, rfl, fun _ => .inr ⟨_, rfl, .inl (by show (decide ((0 : Int) ≤ (m : Nat) + 7) && decide (((m : Nat) + 7 : Int) ≤ (m : Nat) - 1)) = false; rw [decide_eq_false (show ¬ ((m : Nat) + 7 : Int) ≤ (m : Nat) - 1 by omega), Bool.and_false])⟩⟩
            obtain ⟨o, hat, hod⟩ := hm
            refine ⟨l1, _, _, _, rfl, rfl, SqL.of (b5 _ _ nl (s1' _ _ e1)), hat, ?_⟩
            have kp : Keep G1 F1 := (Keep.same s1').trans (Keep.but b5 hS4)
            have A4 := A3.keep kp
            have hq1 := (Keep.but b5 hS4).seq hq1
            have bF : But a H F1 := b02.trans ((But.same s1).trans ((But.same s1').trans b5))
            try refine And.intro (by walk_at "sz") ?_
            intro p2 hp2
            have s2' := same_new (o := .tup [o]) hp2
            have e2' : (upd F1 p2 (.tup [o])) p2 = some (.tup [o]) := upd_same
            generalize upd F1 p2 (.tup [o]) = F3 at s2' e2' ⊢
            refine catA_J ((Keep.same s2').seq hq1) (SqT.of e2') (by rw [List.length_take, List.length_map]; exact Nat.le_trans (m := 20) (by simp; omega) (by decide)) fun q3 F4 s3' hq3 => ?_
            have A5 := A4.keep (Keep.same (s2'.trans s3'))
            walk_at "rd"
            refine tNoPart_mk ?_
            refine slA_J A5.sd fun q4 F5 s4' hq4 => ?_
            rw [cut_fromV (by omega), show ((t : Nat) + 1 : Int).toNat = t + 1 by omega] at hq4
            refine catA_J ((Keep.same s4').seq hq3) hq4 (by simp only [List.length_append, List.length_take, List.length_drop, List.length_map]; exact Nat.le_trans (m := 30) (by simp; omega) (by decide)) fun q5 F6 s5' hq5 => ?_
            have s25 := s2'.trans (s3'.trans (s4'.trans s5'))
            walk_at "rd"
            try refine And.intro (by walk_at "sz") ?_
            intro p6 hp6
            have s6' := same_new (o := .tup [.int (m : Nat), .ref qe, .ref q5]) hp6
            have e6' : (upd F6 p6 (.tup [.int (m : Nat), .ref qe, .ref q5])) p6 = some (.tup [.int (m : Nat), .ref qe, .ref q5]) := upd_same
            generalize upd F6 p6 (.tup [.int (m : Nat), .ref qe, .ref q5]) = F7 at s6' e6' ⊢
            have A6 := A4.keep (Keep.same (s25.trans s6'))
            walk_at "rd"
            refine ⟨qe, eys, rfl, .inr A6.se, ?_⟩
            walk_at "rd"
            try refine And.intro (by walk_at "sz") ?_
            intro r hr
            have sr := same_new (o := .tup [.ref p6, .int ((eys.length : Nat) + (t : Nat))]) hr
            have s2r := s25.trans (s6'.trans sr)
            have A7 := A4.keep (Keep.same s2r)
            have hq7 := (Keep.same (s6'.trans sr)).seq hq5
            rw [List.append_assoc, ← List.map_take] at hq7
            have htk : (ds.take t).length = t := by rw [List.length_take]; omega
            exact k r (.ref p6) _ _ (bF.trans (But.same s2r)) (by obtain ⟨d, e, c, z⟩ := hS5; exact ⟨d, e, c, s2r _ _ z⟩) upd_same
              (refD (q := p6) (m := m) (qe := qe) (qd := q5) (eys := eys) (es := es) (ds := ds.take t) (.inr (SqT.of (sr _ _ e6'))) (.inr A7.se) (.inr hq7) m1 (by omega) (by omega) (by simp only [List.length_append, List.length_map, List.length_take, List.length_cons, List.length_drop]; simp; omega) hE (A7.ie.imp fun x y h => h.x) (hD.take _) (hod _) (by rw [htk, A7.ie.1]; omega))
            -- END Z
end
end Sh
set_option Elab.async false
set_option linter.all false
set_option maxRecDepth 100000
/-! how data are shown: bounds -/
namespace Sh
open PySem PySem.Spec PyProof.Rows L2
open SX (S S_inj S_len S_cat)
def Shw (d : PyData) (k m : Nat) : Prop := d.showable = true ∧ d.hasDict = false ∧ d.depth ≤ k ∧ d.shown.length ≤ m
theorem Shw.mono {d : PyData} {k m k' m' : Nat} (h : Shw d k m) (h1 : k ≤ k') (h2 : m ≤ m') : Shw d k' m' := ⟨h.1, h.2.1, Nat.le_trans h.2.2.1 h1, Nat.le_trans h.2.2.2 h2⟩
theorem Shw.non : Shw .none 0 4 := ⟨rfl, rfl, Nat.le_refl _, by decide⟩
theorem Shw.bl (b : Bool) : Shw (.bool b) 0 5 := by cases b <;> exact ⟨rfl, rfl, Nat.le_refl _, by decide⟩
theorem Shw.str {u : List Nat} (h : ∀ c ∈ u, c < 1114112) : Shw (.str (S u)) 0 (10 * u.length + 2) := by
  refine ⟨rfl, rfl, Nat.le_refl _, ?_⟩
  have := PySem.StrLaws.reprText_len (S u) (fun c hc => Nat.lt_trans (h c hc) (by decide))
  rw [S_len] at this
  exact this
theorem showAll {ds : List PyData} {k m : Nat} (h : ∀ d ∈ ds, Shw d k m) : PyData.showableAll ds = true ∧ PyData.hasDictAll ds = false ∧ PyData.depthAll ds ≤ k ∧ (((PyData.shownAll ds).map (·.length)).sum ≤ ds.length * m) ∧ (PyData.shownAll ds).length = ds.length := by
  induction ds with
  | nil => exact ⟨rfl, rfl, Nat.zero_le _, Nat.zero_le _, rfl⟩
  | cons d ds ih =>
    obtain ⟨a1, a2, a3, a4⟩ := h d List.mem_cons_self
    obtain ⟨b1, b2, b3, b4, b5⟩ := ih fun x hx => h x (List.mem_cons_of_mem _ hx)
    refine ⟨?_, ?_, ?_, ?_, ?_⟩
    · show (d.showable && PyData.showableAll ds) = true
      rw [a1, b1]; rfl
    · show (d.hasDict || PyData.hasDictAll ds) = false
      rw [a2, b2]; rfl
    · show max d.depth (PyData.depthAll ds) ≤ k
      omega
    · show d.shown.length + ((PyData.shownAll ds).map (·.length)).sum ≤ (ds.length + 1) * m
      rw [Nat.succ_mul]
      omega
    · show (PyData.shownAll ds).length + 1 = ds.length + 1
      rw [b5]
theorem Shw.tup {ds : List PyData} {k m : Nat} (h : ∀ d ∈ ds, Shw d k m) : Shw (.tuple ds) (k + 1) (ds.length * m + 2 * ds.length + 3) := by
  obtain ⟨b1, b2, b3, b4, b5⟩ := showAll h
  refine ⟨b1, b2, ?_, ?_⟩
  · show PyData.depthAll ds + 1 ≤ k + 1
    omega
  · have := PySem.tupleText_len_le (PyData.shownAll ds)
    rw [b5] at this
    show (tupleText (PyData.shownAll ds)).length ≤ _
    omega
theorem Shw.lst {ds : List PyData} {k m : Nat} (h : ∀ d ∈ ds, Shw d k m) : Shw (.list ds) (k + 1) (ds.length * m + 2 * ds.length + 3) := by
  obtain ⟨b1, b2, b3, b4, b5⟩ := showAll h
  refine ⟨b1, b2, ?_, ?_⟩
  · show PyData.depthAll ds + 1 ≤ k + 1
    omega
  · have := PySem.listText_len_le (PyData.shownAll ds)
    rw [b5] at this
    show (listText (PyData.shownAll ds)).length ≤ _
    omega
theorem Shw.ok {d : PyData} {k m : Nat} (h : Shw d k m) (h1 : k ≤ 60) (h2 : m ≤ 16777216) : d.showable = true ∧ d.hasDict = false ∧ d.depth ≤ 60 ∧ d.shown.length ≤ sizeLine := ⟨h.1, h.2.1, Nat.le_trans h.2.2.1 h1, Nat.le_trans h.2.2.2 (Nat.le_trans h2 (by decide))⟩
end Sh
set_option Elab.async false
set_option linter.all false
/-! blocks of a def's body, by their places -/
namespace Sh
open PySem PySem.Spec PyProof.Rows L2
def stBody (l : List Stmt) (n : Nat) : List Stmt := match l.drop n with
  | .For _ _ b _ _ :: _ => b
  | .While _ b _ _ :: _ => b
  | .If _ b _ _ :: _ => b
  | _ => []
def stElse (l : List Stmt) (n : Nat) : List Stmt := match l.drop n with
  | .If _ _ b _ :: _ => b
  | _ => []
end Sh
set_option Elab.async false
set_option linter.all false
set_option maxRecDepth 100000
set_option maxHeartbeats 4000000
namespace Sh
open PySem PySem.Spec PyProof.Rows L2
open SX (S S_inj S_len S_cat)
section
variable {P : Program} {w : World} {K : PySem.W.Frag} {mg : Str → Option Value} {base : Heap} {C0 XA FA DI XS FS DT SE : Addr}
/-- the automaton of the law -/
def Wa (K : PySem.W.Frag) (sg : List Nat) (q qe qd : Addr) (m : Nat) (eys : List V) (es : List Eg) (ds : List Nat) (H : Hp) : Prop := AutT K H q m qe eys es qd ds
structure WaP (sg : List Nat) (m : Nat) (es : List Eg) (ds : List Nat) : Prop where
  hE : EsOk sg m es
  hD : DsOk m ds
  m1 : 1 ≤ m
  m5 : m ≤ 5
  el : es.length ≤ 11
  dl : ds.length ≤ 5
  sgn : isSigns sg = true
  s0 : 0 < sg.length
  s3 : sg.length ≤ 3
  nq : 113 ∉ sg
theorem But.toSame {p : Addr} {H H' : Hp} (b : But p H H') (n : H p = none) : Same H H' := fun c o e => b c o (ne_of_none e n) e
theorem Same.but {p : Addr} {H H1 H2 : Hp} (s : Same H H1) (b : But p H1 H2) (n : H p = none) : Same H H2 := fun c o e => b c o (ne_of_none e n) (s c o e)
theorem op_eqDs {X : Cx} {a : Addr} {pn : List (Addr × Obj)} (hu : X.A.units + 64 < cLine) : OpR (X.suite a pn) (compareOp .Eq) (rEqD X.K) := op_eqD (X := X.suite a pn) hu
theorem eqv_int (z : Int) : PyData.eqv (.int z) (.int z) = true := by
  show (z == z) = true
  exact beq_self_eq_true z
theorem shaped_int (z : Int) : SeqAt.shaped (.int z) = true := rfl
end
end Sh
set_option Elab.async false
set_option linter.all false
set_option maxRecDepth 100000
set_option maxHeartbeats 4000000
namespace Sh
open PySem PySem.Spec PyProof.Rows L2
open SX (S S_inj S_len S_cat)
local macro_rules | `(tactic| walk_at "nx") => `(tactic| repeat (with_reducible first | refine Sh.gn_mk ?_ | refine Sh.nx_mk ?_ | refine Sh.st_nx ?_ | refine Sh.rt_mk ?_ | refine Sh.ct_mk ?_ | refine Sh.bk_mk ?_))
local macro_rules | `(tactic| walk_at "sq") => `(tactic| first | exact SqL.of upd_same | exact SqT.of upd_same | exact SqL.of (by assumption) | exact SqT.of (by assumption) | assumption | exact Or.inl (SqL.of (by assumption)) | exact Or.inr (SqT.of (by assumption)) | exact Or.inl (by assumption) | exact Or.inr (by assumption))
local macro_rules | `(tactic| walk_at "hp") => `(tactic| first | exact upd_same | assumption)
local macro_rules | `(tactic| walk_at "sz") => `(tactic| first | exact Nat.le_of_ble_eq_true rfl | omega)
local macro_rules | `(tactic| walk_at "sd") => `(tactic| first | omega | exact rfl | assumption | (show (0 : Int) < _; omega) | exact And.intro (by omega) (by omega) | exact Or.inl (And.intro (by omega) (by omega)) | exact Or.inr (And.intro (by omega) (by omega)) | omega | exact Sh.sz_S (by omega) | decide)
local macro_rules | `(tactic| walk_at "rd1") => `(tactic| first
  | (with_reducible first | refine Sh.gn_mk ?_ | refine Sh.nx_mk ?_ | refine Sh.st_nx ?_ | refine Sh.rt_mk ?_ | refine Sh.ct_mk ?_ | refine Sh.bk_mk ?_)
  | refine Exists.intro (α := V) _ (And.intro rfl ?_)
  | refine Exists.intro (α := Bool) _ (And.intro rfl ?_)
  | refine Exists.intro (α := Int) _ (And.intro rfl ?_)
  | refine Exists.intro (α := PySem.Str) _ (And.intro rfl ?_)
  | refine Exists.intro (α := Int) _ (Exists.intro (α := Int) _ (And.intro rfl (And.intro rfl ?_)))
  | refine Exists.intro (α := PySem.Str) _ (Exists.intro (α := PySem.Str) _ (And.intro rfl (And.intro rfl ?_)))
  | refine Exists.intro (α := Int) _ (Exists.intro (α := Int) _ (And.intro rfl ?_))
  | refine Or.inl (Exists.intro (α := Int) _ (And.intro rfl ?_))
  | refine Exists.intro _ (Exists.intro _ (Exists.intro _ (Exists.intro _ (And.intro rfl (And.intro rfl (And.intro (by walk_at "sq") (And.intro rfl ?_)))))))
  | refine Exists.intro _ (Exists.intro _ (Exists.intro _ (Exists.intro _ (And.intro rfl (And.intro rfl (And.intro (by walk_at "hp") (And.intro rfl ?_)))))))
  | refine And.intro (by walk_at "sd") ?_
  )
local macro_rules | `(tactic| walk_at "rd") => `(tactic| repeat walk_at "rd1")
local macro_rules | `(tactic| walk_at "lk") => `(tactic| first | exact rfl | (rw [lookup_putF, if_pos rfl]) | (rw [lookup_putF, if_neg (by decide +kernel)]; walk_at "lk"))

section
variable {P : Program} {w : World} {K : PySem.W.Frag} {mg : Str → Option Value} {base : Heap} {C0 XA FA DI XS FS DT SE : Addr}
theorem blk_turn (T : TxtX P K mg C0 XA FA DI XS FS DT SE) (f : Addr) (cdv : Value) (A : Around) (outer : List Env) (s : Shared) (H : Hp) (E : XK) (hr : Room 9 (A.deeper (envOfC "law" (defScope s_law) s.heap.objs.size f cdv))) (hgd : A.guards = some []) :
    ∃ t_, PSs (cxOf CX0 P w K mg base ["_law_script", "_law_source_here", "_law_signs_here", "_law_automaton", "_law_told", "_law_turn", "_law_thing", "_law_place_here", "_law_many", "_law_edges", "_law_menu", "_law_odd", "raised", "_law_k"] "law" (defScope s_law) f cdv A outer s H E).nox ((stBody (defBody s_law) 5).drop 0) t_ ∧
    ∀ (D : Ends) (H0 : Hp) (i : Nat) (a p q qe qd : Addr) (sg : List Nat) (m : Nat) (eys : List V) (es : List Eg) (ds : List Nat) (ns : List Int) (v4 v6 v7 v8 v9 v10 v11 v12 v13 : Option V), Wa K sg q qe qd m eys es ds H0 → WaP sg m es ds → SqL K H0 a (ns.map V.int) → (∀ z ∈ ns, Builtin.Int.intBits z ≤ 1048576) → ns.length ≤ 63 → i < 3 → (∀ σ' H', (∃ v4 v5 v6 v7 v8 v9 v10 v11 v12 v13 : Option V, σ' = [some (.ref a), some (.ref p), some (.str (S sg)), some (.ref q), v4, v5, v6, v7, v8, v9, v10, v11, v12, v13] ∧ Same H0 H') → D.nx σ' H') → t_ D [some (.ref a), some (.ref p), some (.str (S sg)), some (.ref q), v4, some (.int (i : Nat)), v6, v7, v8, v9, v10, v11, v12, v13] H0 := by
  have c__law_source := c__law_source (P := P) (w := w) (base := base) T.toTxtC.toTxt
  have c__law_signs := c__law_signs (P := P) (w := w) (base := base) T.toTxtC.toTxt
  have c__law_nfa := c__law_nfa (P := P) (w := w) (base := base) T.toTxtC.toTxt
  have c_X_checked_automaton := c_X_checked_automaton (P := P) (w := w) (base := base) T
  have c__law_spoilt := c__law_spoilt (P := P) (w := w) (base := base) (XA := XA) T.toTxtC.toTxt
  have c__law_pick := c__law_pick (P := P) (w := w) (base := base) T.toTxtC.toTxt
  have c__law_listed := c__law_listed (P := P) (w := w) (base := base) T.toTxtC.toTxt
  have c__law_place := c__law_place (P := P) (w := w) (base := base) T
  have hgd : (A.deeper (envOfC "law" (defScope s_law) s.heap.objs.size f cdv)).guards = some [] := hgd
  have hu := hu_of hr
  refine ⟨_, (pss_cons (ps_asg (pe_c c__law_spoilt hr (by decide) rfl (pa_cons (pe_c c__law_source hr (by decide) rfl (pa_cons (pv 0) (pa_cons (pe_op op_add (pv 5) pe_int) pa_nil))) (pa_cons (pv 2) (pa_cons (pv 3) pa_nil)))) (pg_tup (by rfl) (pgs_cons (pg_name (i := 6) sc_law.nd rfl (Or.inl rfl)) (pgs_cons (pg_name (i := 7) sc_law.nd rfl (Or.inl rfl)) pgs_nil))))
  (pss_one (ps_if (pt_cmpR (op_neD hr.units) (pe_c c__law_place hr (by decide) rfl (pa_cons (pv 2) (pa_cons (pv 6) pa_nil))) (pv 7) (nomark _))
    (pss_one (ps_ret pe_bl))
    pss_nil))), ?_⟩
  intro D H0 i a p q qe qd sg m eys es ds ns v4 v6 v7 v8 v9 v10 v11 v12 v13 W0 WP hS hbits hlen hi kD
  refine ⟨_, rfl, ?_⟩
  walk_at "rd"
  refine ⟨a, ns, _, rfl, hS, hbits, hlen, by omega, by omega, fun pd H1 hpd s1 hs1 => ?_⟩
  have W1 : AutT K H1 q m qe eys es qd ds := AutT.keep W0 (Keep.same s1)
  refine ⟨_, rfl, _, rfl, pd, q, sg, m, qe, eys, es, qd, ds, rfl, hs1, W1, WP.hE, WP.hD, WP.m1, WP.m5, WP.el, WP.dl, WP.nq, fun r v z H2 b2 hs2 hr2 hrf => ?_⟩
  refine ⟨r, _, rfl, SqT.of hr2, rfl, _, _, rfl, _, _, rfl, rfl, ?_⟩
  have s2 := Same.but s1 b2 hpd
  walk_at "nx"
  refine if_KH false (fun H' => Same H2 H') (fun Q' hQ => ?_) (fun zz => by cases zz) (fun _ H3 s3 => ?_)
  · refine ⟨_, rfl, _, rfl, sg, v, rfl, WP.sgn, by have := WP.s3; omega, hrf _ fun H3 s3 => ?_⟩
    refine ⟨_, rfl, .int z, .int z, .int _, .int _, shaped_int z, shaped_int z, _, rfl, ?_⟩
    rw [eqv_int]
    exact hQ _ s3
  · show D.nx _ _
    refine kD _ _ ?_
    exact ⟨_, _, _, _, _, _, _, _, _, _, rfl, s2.trans s3⟩
end
end Sh
set_option Elab.async false
set_option linter.all false
set_option maxRecDepth 100000
set_option maxHeartbeats 4000000
namespace Sh
open PySem PySem.Spec PyProof.Rows L2
open SX (S S_inj S_len S_cat)
local macro_rules | `(tactic| walk_at "nx") => `(tactic| repeat (with_reducible first | refine Sh.gn_mk ?_ | refine Sh.nx_mk ?_ | refine Sh.st_nx ?_ | refine Sh.rt_mk ?_ | refine Sh.ct_mk ?_ | refine Sh.bk_mk ?_))
local macro_rules | `(tactic| walk_at "sq") => `(tactic| first | exact SqL.of upd_same | exact SqT.of upd_same | exact SqL.of (by assumption) | exact SqT.of (by assumption) | assumption | exact Or.inl (SqL.of (by assumption)) | exact Or.inr (SqT.of (by assumption)) | exact Or.inl (by assumption) | exact Or.inr (by assumption))
local macro_rules | `(tactic| walk_at "hp") => `(tactic| first | exact upd_same | assumption)
local macro_rules | `(tactic| walk_at "sz") => `(tactic| first | exact Nat.le_of_ble_eq_true rfl | omega)
local macro_rules | `(tactic| walk_at "sd") => `(tactic| first | omega | exact rfl | assumption | (show (0 : Int) < _; omega) | exact And.intro (by omega) (by omega) | exact Or.inl (And.intro (by omega) (by omega)) | exact Or.inr (And.intro (by omega) (by omega)) | omega | exact Sh.sz_S (by omega) | decide)
local macro_rules | `(tactic| walk_at "rd1") => `(tactic| first
  | (with_reducible first | refine Sh.gn_mk ?_ | refine Sh.nx_mk ?_ | refine Sh.st_nx ?_ | refine Sh.rt_mk ?_ | refine Sh.ct_mk ?_ | refine Sh.bk_mk ?_)
  | refine Exists.intro (α := V) _ (And.intro rfl ?_)
  | refine Exists.intro (α := Bool) _ (And.intro rfl ?_)
  | refine Exists.intro (α := Int) _ (And.intro rfl ?_)
  | refine Exists.intro (α := PySem.Str) _ (And.intro rfl ?_)
  | refine Exists.intro (α := Int) _ (Exists.intro (α := Int) _ (And.intro rfl (And.intro rfl ?_)))
  | refine Exists.intro (α := PySem.Str) _ (Exists.intro (α := PySem.Str) _ (And.intro rfl (And.intro rfl ?_)))
  | refine Exists.intro (α := Int) _ (Exists.intro (α := Int) _ (And.intro rfl ?_))
  | refine Or.inl (Exists.intro (α := Int) _ (And.intro rfl ?_))
  | refine Exists.intro _ (Exists.intro _ (Exists.intro _ (Exists.intro _ (And.intro rfl (And.intro rfl (And.intro (by walk_at "sq") (And.intro rfl ?_)))))))
  | refine Exists.intro _ (Exists.intro _ (Exists.intro _ (Exists.intro _ (And.intro rfl (And.intro rfl (And.intro (by walk_at "hp") (And.intro rfl ?_)))))))
  | refine And.intro (by walk_at "sd") ?_
  )
local macro_rules | `(tactic| walk_at "rd") => `(tactic| repeat walk_at "rd1")
local macro_rules | `(tactic| walk_at "lk") => `(tactic| first | exact rfl | (rw [lookup_putF, if_pos rfl]) | (rw [lookup_putF, if_neg (by decide +kernel)]; walk_at "lk"))

section
variable {P : Program} {w : World} {K : PySem.W.Frag} {mg : Str → Option Value} {base : Heap} {C0 XA FA DI XS FS DT SE : Addr}
theorem blk_end (T : TxtX P K mg C0 XA FA DI XS FS DT SE) (f : Addr) (cdv : Value) (A : Around) (outer : List Env) (s : Shared) (H : Hp) (E : XK) (hr : Room 9 (A.deeper (envOfC "law" (defScope s_law) s.heap.objs.size f cdv))) (hgd : A.guards = some []) :
    ∃ t_, PSs (cxOf CX0 P w K mg base ["_law_script", "_law_source_here", "_law_signs_here", "_law_automaton", "_law_told", "_law_turn", "_law_thing", "_law_place_here", "_law_many", "_law_edges", "_law_menu", "_law_odd", "raised", "_law_k"] "law" (defScope s_law) f cdv A outer s H E).nox ((defBody s_law).drop 7) t_ ∧
    ∀ (D : Ends) (H0 : Hp) (a p q qe qd : Addr) (sg : List Nat) (m : Nat) (eys : List V) (es : List Eg) (ds : List Nat) (v4 v5 v6 v7 v8 v9 v10 v11 v12 v13 : Option V), Wa K sg q qe qd m eys es ds H0 → WaP sg m es ds → Src H0 p → (∀ H', D.rt (.bl true) H') → t_ D [some (.ref a), some (.ref p), some (.str (S sg)), some (.ref q), v4, v5, v6, v7, v8, v9, v10, v11, v12, v13] H0 := by
  have c__law_source := c__law_source (P := P) (w := w) (base := base) T.toTxtC.toTxt
  have c__law_signs := c__law_signs (P := P) (w := w) (base := base) T.toTxtC.toTxt
  have c__law_nfa := c__law_nfa (P := P) (w := w) (base := base) T.toTxtC.toTxt
  have c_X_checked_automaton := c_X_checked_automaton (P := P) (w := w) (base := base) T
  have c__law_spoilt := c__law_spoilt (P := P) (w := w) (base := base) (XA := XA) T.toTxtC.toTxt
  have c__law_pick := c__law_pick (P := P) (w := w) (base := base) T.toTxtC.toTxt
  have c__law_listed := c__law_listed (P := P) (w := w) (base := base) T.toTxtC.toTxt
  have c__law_place := c__law_place (P := P) (w := w) (base := base) T
  have hgd : (A.deeper (envOfC "law" (defScope s_law) s.heap.objs.size f cdv)).guards = some [] := hgd
  have hu := hu_of hr
  refine ⟨_, (pss_cons (ps_set (i := 10) sc_law.nd rfl (Or.inl rfl) (pe_lst (pa_cons pe_str (pa_cons pe_str (pa_cons pe_str (pa_cons pe_str (pa_cons pe_int (pa_cons pe_str (pa_cons pe_non (pa_cons pe_str (pa_cons (pe_tup (pa_cons pe_str (pa_cons pe_str pa_nil))) (pa_cons pe_str pa_nil))))))))))))
  (pss_cons (ps_set (i := 11) sc_law.nd rfl (Or.inl rfl) (pe_ix ix_list (pv 10) (pe_c c__law_pick hr (by decide) rfl (pa_cons (pv 1) (pa_cons pe_int pa_nil))) (fun _ _ => rfl)))
  (pss_one (ps_tryT rfl rfl sc_law.nd takes0 (fun W pn xe tk po => (pss_cons (ps_expr (pe_cX c_X_checked_automaton hr (by decide) tk rfl (pa_cons (pv 11) (pa_cons (pe_ifExp (pt_cmpR op_eq (pe_c c__law_pick hr (by decide) rfl (pa_cons (pv 1) (pa_cons pe_int pa_nil))) pe_int (nomark _)) (pv 3) pe_non) pa_nil))))
    (pss_one (ps_ret pe_bl))))
    (HdsA.cons (i := 12) rfl rfl ⟨rfl, by decide, Or.inl T.e_BadSigns.mgC⟩ (fun a oe cls d pn hz hf => (pss_one (ps_ret (pe_and (pe_cmpR (op_eqDs hr.units) (pe_xf T.e_BadSigns.xf T.nf_BadSigns_thing hz hf (pv 12)) (pv 11) (nomark _)) (pe_and (pe_callB (call_isX T.c_BadSigns hz hf) (by rfl) T.b_isinstance (by decide +kernel) (pa_cons (pv 12) (pa_cons (pe_glob (v := .ref DT) rfl T.gc_WrongThing rfl) pa_nil))) (pe_one (pe_not (pe_callB (call_isX T.c_BadSigns hz hf) (by rfl) T.b_isinstance (by decide +kernel) (pa_cons (pv 12) (pa_cons (pe_glob (v := .ref DI) rfl T.gc_WrongItem rfl) pa_nil))))))))))
    HdsA.nil))))), ?_⟩
  intro D H0 a p q qe qd sg m eys es ds v4 v5 v6 v7 v8 v9 v10 v11 v12 v13 W0 WP hS kD
  walk_at "rd"
  intro l1 h1
  have s1 := same_new (o := .tup [.str "a", .str "b"]) h1
  have e1 : (upd H0 l1 (.tup [.str "a", .str "b"])) l1 = some (.tup [.str "a", .str "b"]) := upd_same
  generalize upd H0 l1 (.tup [.str "a", .str "b"]) = G1 at s1 e1 ⊢
  walk_at "rd"
  try refine And.intro (by walk_at "sz") ?_
  intro l2 h2
  have s2 := same_new (o := .lst [.str "ba", .str "", .str "aab", .str "aB", .int 5, .str "abcdefghi", .non, .str "a b", .ref l1, .str "a1"]) h2
  have e2 : (upd G1 l2 (.lst [.str "ba", .str "", .str "aab", .str "aB", .int 5, .str "abcdefghi", .non, .str "a b", .ref l1, .str "a1"])) l2 = some (.lst [.str "ba", .str "", .str "aab", .str "aB", .int 5, .str "abcdefghi", .non, .str "a b", .ref l1, .str "a1"]) := upd_same
  generalize upd G1 l2 (.lst [.str "ba", .str "", .str "aab", .str "aB", .int 5, .str "abcdefghi", .non, .str "a b", .ref l1, .str "a1"]) = G2 at s2 e2 ⊢
  have hS2 : Src G2 p := by
    obtain ⟨d, e, c, z⟩ := hS
    exact ⟨d, e, c, s2 _ _ (s1 _ _ z)⟩
  walk_at "nx"
  refine ⟨_, rfl, _, rfl, p, 10, rfl, hS2, by decide, by decide, fun n G3 n0 n1 hS3 b3 => ?_⟩
  have nl : l2 ≠ p := by
    intro e
    obtain ⟨_, _, _, z⟩ := hS2
    rw [← e, e2] at z
    cases z
  have hk3 : Keep G1 G3 := (Keep.same s2).trans (Keep.but b3 hS2)
  obtain ⟨o, d, hat, hbad, hsh, heq⟩ : ∃ (o : V) (d : PyData), atI [V.str "ba", .str "", .str "aab", .str "aB", .int 5, .str "abcdefghi", .non, .str "a b", .ref l1, .str "a1"] n = some o ∧ (∀ H4, Keep G1 H4 → ((∃ sg, o = .str (S sg) ∧ sg.length ≤ 1000000 ∧ isSigns sg = false) ∨ NotStr K H4 o) ∧ Dp K H4 o d) ∧ SeqAt.shaped d = true ∧ PyData.eqv d d = true := by
    have h10 : n = 0 ∨ n = 1 ∨ n = 2 ∨ n = 3 ∨ n = 4 ∨ n = 5 ∨ n = 6 ∨ n = 7 ∨ n = 8 ∨ n = 9 := by omega
    rcases h10 with rfl | rfl | rfl | rfl | rfl | rfl | rfl | rfl | rfl | rfl
    · exact ⟨_, .str "ba", rfl, fun H4 s => ⟨.inl ⟨[98, 97], congrArg V.str (by decide +kernel), by decide, by decide +kernel⟩, .str _⟩, by decide +kernel, by decide +kernel⟩
    · exact ⟨_, .str "", rfl, fun H4 s => ⟨.inl ⟨[], congrArg V.str (by decide +kernel), by decide, by decide +kernel⟩, .str _⟩, by decide +kernel, by decide +kernel⟩
    · exact ⟨_, .str "aab", rfl, fun H4 s => ⟨.inl ⟨[97, 97, 98], congrArg V.str (by decide +kernel), by decide, by decide +kernel⟩, .str _⟩, by decide +kernel, by decide +kernel⟩
    · exact ⟨_, .str "aB", rfl, fun H4 s => ⟨.inl ⟨[97, 66], congrArg V.str (by decide +kernel), by decide, by decide +kernel⟩, .str _⟩, by decide +kernel, by decide +kernel⟩
    · exact ⟨_, .int 5, rfl, fun H4 s => ⟨.inr ⟨"int", .base (.int _), by decide, by decide⟩, .int _⟩, by decide +kernel, by decide +kernel⟩
    · exact ⟨_, .str "abcdefghi", rfl, fun H4 s => ⟨.inl ⟨[97, 98, 99, 100, 101, 102, 103, 104, 105], congrArg V.str (by decide +kernel), by decide, by decide +kernel⟩, .str _⟩, by decide +kernel, by decide +kernel⟩
    · exact ⟨_, .none, rfl, fun H4 s => ⟨.inr ⟨"NoneType", .base .non, by decide, by decide⟩, .non⟩, by decide +kernel, by decide +kernel⟩
    · exact ⟨_, .str "a b", rfl, fun H4 s => ⟨.inl ⟨[97, 32, 98], congrArg V.str (by decide +kernel), by decide, by decide +kernel⟩, .str _⟩, by decide +kernel, by decide +kernel⟩
    · exact ⟨_, .tuple [.str "a", .str "b"], rfl, fun H4 s => ⟨.inr ⟨"tuple", ty_tup (s.seq (SqT.of e1)), by decide, by decide⟩, .tup (s.seq (SqT.of e1)) (.cons (.str _) (.cons (.str _) .nil))⟩, by decide +kernel, by decide +kernel⟩
    · exact ⟨_, .str "a1", rfl, fun H4 s => ⟨.inl ⟨[97, 49], congrArg V.str (by decide +kernel), by decide, by decide +kernel⟩, .str _⟩, by decide +kernel, by decide +kernel⟩
  refine ⟨l2, _, _, _, rfl, rfl, SqL.of (b3 _ _ nl e2), hat, ?_⟩
  walk_at "nx"
  unfold tTry
  refine ⟨_, rfl, ?_⟩
  walk_at "rd"
  refine ⟨p, 2, rfl, hS3, by decide, by decide, fun n2 G4 n20 n21 hS4 b4 => ?_⟩
  have hk4 := hk3.trans (Keep.but b4 hS3)
  walk_at "rd"
  refine ite2 (fun c => ?_) (fun c => ?_)
  · skip
    refine ⟨_, rfl, ?_⟩
    refine ⟨o, _, rfl, .inl ⟨(hbad _ hk4).1, fun dd hdd => ⟨true, T.mm_BadSigns_BadSigns, fun _ a0 ha0 => ?_, fun zz => (by cases zz)⟩⟩⟩
    dsimp only [outA]
    have dp := (hbad _ (hk4.trans (Keep.same (same_new (o := .xd [(Str.ofString "thing", o)]) hdd)))).2
    refine ⟨_, rfl, rfl, rfl, dd, _, _, rfl, upd_same, lk1, ?_⟩
    refine ⟨_, rfl, d, d, dp, dp, hsh, hsh, ?_⟩
    rw [heq]
    refine ⟨true, rfl, ?_⟩
    refine iteT ?_
    refine ⟨_, rfl, rfl, _, _, true, dd, _, rfl, rfl, upd_same, fun u h => h, T.ko_BadSigns_WrongThing, true, rfl, ?_⟩
    refine iteT ?_
    refine ⟨_, rfl, rfl, _, _, false, dd, _, rfl, rfl, upd_same, fun u h => h, T.ko_BadSigns_WrongItem, ?_⟩
    exact ⟨_, rfl, kD _⟩
  · skip
    refine ⟨o, _, rfl, .inl ⟨(hbad _ hk4).1, fun dd hdd => ⟨true, T.mm_BadSigns_BadSigns, fun _ a0 ha0 => ?_, fun zz => (by cases zz)⟩⟩⟩
    dsimp only [outA]
    have dp := (hbad _ (hk4.trans (Keep.same (same_new (o := .xd [(Str.ofString "thing", o)]) hdd)))).2
    refine ⟨_, rfl, rfl, rfl, dd, _, _, rfl, upd_same, lk1, ?_⟩
    refine ⟨_, rfl, d, d, dp, dp, hsh, hsh, ?_⟩
    rw [heq]
    refine ⟨true, rfl, ?_⟩
    refine iteT ?_
    refine ⟨_, rfl, rfl, _, _, true, dd, _, rfl, rfl, upd_same, fun u h => h, T.ko_BadSigns_WrongThing, true, rfl, ?_⟩
    refine iteT ?_
    refine ⟨_, rfl, rfl, _, _, false, dd, _, rfl, rfl, upd_same, fun u h => h, T.ko_BadSigns_WrongItem, ?_⟩
    exact ⟨_, rfl, kD _⟩
end
end Sh
set_option Elab.async false
set_option linter.all false
set_option maxRecDepth 100000
set_option maxHeartbeats 4000000
namespace Sh
open PySem PySem.Spec PyProof.Rows L2
open SX (S S_inj S_len S_cat)
local macro_rules | `(tactic| walk_at "nx") => `(tactic| repeat (with_reducible first | refine Sh.gn_mk ?_ | refine Sh.nx_mk ?_ | refine Sh.st_nx ?_ | refine Sh.rt_mk ?_ | refine Sh.ct_mk ?_ | refine Sh.bk_mk ?_))
local macro_rules | `(tactic| walk_at "sq") => `(tactic| first | exact SqL.of upd_same | exact SqT.of upd_same | exact SqL.of (by assumption) | exact SqT.of (by assumption) | assumption | exact Or.inl (SqL.of (by assumption)) | exact Or.inr (SqT.of (by assumption)) | exact Or.inl (by assumption) | exact Or.inr (by assumption))
local macro_rules | `(tactic| walk_at "hp") => `(tactic| first | exact upd_same | assumption)
local macro_rules | `(tactic| walk_at "sz") => `(tactic| first | exact Nat.le_of_ble_eq_true rfl | omega)
local macro_rules | `(tactic| walk_at "sd") => `(tactic| first | omega | exact rfl | assumption | (show (0 : Int) < _; omega) | exact And.intro (by omega) (by omega) | exact Or.inl (And.intro (by omega) (by omega)) | exact Or.inr (And.intro (by omega) (by omega)) | omega | exact Sh.sz_S (by omega) | decide)
local macro_rules | `(tactic| walk_at "rd1") => `(tactic| first
  | (with_reducible first | refine Sh.gn_mk ?_ | refine Sh.nx_mk ?_ | refine Sh.st_nx ?_ | refine Sh.rt_mk ?_ | refine Sh.ct_mk ?_ | refine Sh.bk_mk ?_)
  | refine Exists.intro (α := V) _ (And.intro rfl ?_)
  | refine Exists.intro (α := Bool) _ (And.intro rfl ?_)
  | refine Exists.intro (α := Int) _ (And.intro rfl ?_)
  | refine Exists.intro (α := PySem.Str) _ (And.intro rfl ?_)
  | refine Exists.intro (α := Int) _ (Exists.intro (α := Int) _ (And.intro rfl (And.intro rfl ?_)))
  | refine Exists.intro (α := PySem.Str) _ (Exists.intro (α := PySem.Str) _ (And.intro rfl (And.intro rfl ?_)))
  | refine Exists.intro (α := Int) _ (Exists.intro (α := Int) _ (And.intro rfl ?_))
  | refine Or.inl (Exists.intro (α := Int) _ (And.intro rfl ?_))
  | refine Exists.intro _ (Exists.intro _ (Exists.intro _ (Exists.intro _ (And.intro rfl (And.intro rfl (And.intro (by walk_at "sq") (And.intro rfl ?_)))))))
  | refine Exists.intro _ (Exists.intro _ (Exists.intro _ (Exists.intro _ (And.intro rfl (And.intro rfl (And.intro (by walk_at "hp") (And.intro rfl ?_)))))))
  | refine And.intro (by walk_at "sd") ?_
  )
local macro_rules | `(tactic| walk_at "rd") => `(tactic| repeat walk_at "rd1")
local macro_rules | `(tactic| walk_at "lk") => `(tactic| first | exact rfl | (rw [lookup_putF, if_pos rfl]) | (rw [lookup_putF, if_neg (by decide +kernel)]; walk_at "lk"))

section
variable {P : Program} {w : World} {K : PySem.W.Frag} {mg : Str → Option Value} {base : Heap} {C0 XA FA DI XS FS DT SE : Addr}
def bigE (c k : Nat) : Eg := (k / 40, [c], k % 40)
theorem big_lt (c k : Nat) : eLt (bigE c k) (bigE c (k + 1)) = true := by
  show tupLt [.int ((k / 40 : Nat) : Int), .str (S [c]), .int ((k % 40 : Nat) : Int)] [.int (((k + 1) / 40 : Nat) : Int), .str (S [c]), .int (((k + 1) % 40 : Nat) : Int)] = true
  simp only [tupLt]
  by_cases h : k % 40 = 39
  · have h1 : (k + 1) / 40 = k / 40 + 1 := by omega
    rw [if_neg (fun e => by have := V.int.inj e; omega)]
    exact decide_eq_true (by omega)
  · have h1 : (k + 1) / 40 = k / 40 := by omega
    rw [h1, if_pos rfl, if_pos trivial, if_neg (fun e => by have := V.int.inj e; omega)]
    exact decide_eq_true (by omega)
def bigEs (c n : Nat) : List Eg := (List.range n).map (bigE c)
theorem bigEs_succ (c n : Nat) : bigEs c (n + 1) = bigEs c n ++ [bigE c n] := by
  unfold bigEs
  rw [List.range_succ, List.map_append]
  rfl
theorem bigEs_ok {sg : List Nat} {c n : Nat} (hc : c ∈ sg) (hn : n ≤ 1600) : EsOk sg 40 (bigEs c n) := by
  refine ⟨fun e he => ?_, fun i a b h1 h2 => ?_⟩
  · obtain ⟨k, hk, rfl⟩ := List.mem_map.mp he
    rw [List.mem_range] at hk
    refine ⟨show k / 40 < 40 by omega, show k % 40 < 40 by omega, ?_, by show 1 ≤ 1000; decide⟩
    show strB sg [c] = true
    simp [strB, hc]
  · unfold bigEs at h1 h2
    rw [List.getElem?_map] at h1 h2
    have hi2 := (List.getElem?_eq_some_iff.mp (show (List.range n)[i + 1]? = some (i + 1) by
      cases e : (List.range n)[i + 1]? with
      | none => rw [e] at h2; cases h2
      | some z => rw [List.getElem?_range (by have := (List.getElem?_eq_some_iff.mp e).1; simpa using this)] at e; rw [← e])).1
    rw [List.length_range] at hi2
    rw [List.getElem?_range (by omega)] at h1
    rw [List.getElem?_range (by omega)] at h2
    cases h1; cases h2
    exact big_lt c i
theorem blk_big (T : TxtX P K mg C0 XA FA DI XS FS DT SE) (f : Addr) (cdv : Value) (A : Around) (outer : List Env) (s : Shared) (H : Hp) (E : XK) (hr : Room 9 (A.deeper (envOfC "law" (defScope s_law) s.heap.objs.size f cdv))) (hgd : A.guards = some []) :
    ∃ t_, PSs (cxOf CX0 P w K mg base ["_law_script", "_law_source_here", "_law_signs_here", "_law_automaton", "_law_told", "_law_turn", "_law_thing", "_law_place_here", "_law_many", "_law_edges", "_law_menu", "_law_odd", "raised", "_law_k"] "law" (defScope s_law) f cdv A outer s H E).nox ((defBody s_law).drop 6) t_ ∧
    ∀ (D : Ends) (H0 : Hp) (a p q qe qd : Addr) (sg : List Nat) (m : Nat) (eys : List V) (es : List Eg) (ds : List Nat) (v4 v5 v6 v7 v8 v9 v10 v11 v12 v13 : Option V), Wa K sg q qe qd m eys es ds H0 → WaP sg m es ds → Src H0 p → (∀ H', D.rt (.bl true) H') → t_ D [some (.ref a), some (.ref p), some (.str (S sg)), some (.ref q), v4, v5, v6, v7, v8, v9, v10, v11, v12, v13] H0 := by
  have c__law_source := c__law_source (P := P) (w := w) (base := base) T.toTxtC.toTxt
  have c__law_signs := c__law_signs (P := P) (w := w) (base := base) T.toTxtC.toTxt
  have c__law_nfa := c__law_nfa (P := P) (w := w) (base := base) T.toTxtC.toTxt
  have c_X_checked_automaton := c_X_checked_automaton (P := P) (w := w) (base := base) T
  have c__law_spoilt := c__law_spoilt (P := P) (w := w) (base := base) (XA := XA) T.toTxtC.toTxt
  have c__law_pick := c__law_pick (P := P) (w := w) (base := base) T.toTxtC.toTxt
  have c__law_listed := c__law_listed (P := P) (w := w) (base := base) T.toTxtC.toTxt
  have c__law_place := c__law_place (P := P) (w := w) (base := base) T
  obtain ⟨tb_end, hb_end, kb_end⟩ := blk_end (P := P) (w := w) (base := base) T f cdv A outer s H E hr hgd
  have hgd : (A.deeper (envOfC "law" (defScope s_law) s.heap.objs.size f cdv)).guards = some [] := hgd
  have hu := hu_of hr
  refine ⟨_, (pss_cons (ps_if (pt_cmpR op_eq (pe_c c__law_pick hr (by decide) rfl (pa_cons (pv 1) (pa_cons pe_int pa_nil))) pe_int (nomark _))
    (pss_cons (ps_set (i := 8) sc_law.nd rfl (Or.inl rfl) (pe_op op_add pe_int (pe_c c__law_pick hr (by decide) rfl (pa_cons (pv 1) (pa_cons pe_int pa_nil)))))
    (pss_cons (ps_set (i := 9) sc_law.nd rfl (Or.inl rfl) (pe_callTy call_tuple_of (by rfl) T.b_tuple (by decide +kernel) (pa_cons (pe_lc (own := [("_law_k", 13)]) (g := gName 13) (tt := tYes) rfl sc_law.nd (pi_range1 (by rfl) T.b_range (pa_cons (pv 8) pa_nil)) (blkOk_by (N := ["_law_script", "_law_source_here", "_law_signs_here", "_law_automaton", "_law_told", "_law_turn", "_law_thing", "_law_place_here", "_law_many", "_law_edges", "_law_menu", "_law_odd", "raised", "_law_k"]) (sc := defScope s_law) (by decide +kernel)) (fun _ _ _ _ _ => (pg_name (i := 13) sc_law.nd rfl (Or.inl rfl))) (fun _ _ _ _ _ => pts_nil) (fun _ _ _ _ _ => (pe_tup (pa_cons (pe_op op_fdiv (pv 13) pe_int) (pa_cons (pe_ix ix_str (pv 2) pe_int (fun _ _ => rfl)) (pa_cons (pe_op op_mod (pe_callTy call_int1 (by rfl) T.b_int (by decide +kernel) (pa_cons (pv 13) pa_nil)) pe_int) pa_nil)))))) pa_nil)))
    (pss_one (ps_if (pt_cmpR (op_neD hr.units) (pe_c c__law_place hr (by decide) rfl (pa_cons (pv 2) (pa_cons (pe_tup (pa_cons pe_int (pa_cons (pv 9) (pa_cons (pe_tup (pa_cons pe_int pa_nil)) pa_nil)))) pa_nil))) (pe_ifExp (pt_cmpR op_eq (pv 8) pe_int (nomark _)) pe_non (pe_un un_neg pe_int)) (nomark _))
      (pss_one (ps_ret pe_bl))
      pss_nil))))
    pss_nil)
  hb_end), ?_⟩
  intro D H0 a p q qe qd sg m eys es ds v4 v5 v6 v7 v8 v9 v10 v11 v12 v13 W0 WP hS kD
  refine st_ifJ (fun σ H' => ∃ (v4 v5 v6 v7 v8 v9 v10 v11 v12 v13 : Option V), σ = [some (.ref a), some (.ref p), some (.str (S sg)), some (.ref q), v4, v5, v6, v7, v8, v9, v10, v11, v12, v13] ∧ Wa K sg q qe qd m eys es ds H' ∧ Src H' p) (fun N kN => ?_) ?_
  · walk_at "rd"
    refine ⟨p, 6, rfl, hS, by decide, by decide, fun n H1 n0 n1 hS1 b1 => ?_⟩
    have W1 : AutT K H1 q m qe eys es qd ds := AutT.keep W0 (Keep.but b1 hS)
    walk_at "rd"
    refine ite2 (fun c => ?_) (fun c => ?_)
    · walk_at "rd"
      refine ⟨p, 2, rfl, hS1, by decide, by decide, fun n2 H2 n20 n21 hS2 b2 => ?_⟩
      have W2 : AutT K H2 q m qe eys es qd ds := AutT.keep W1 (Keep.but b2 hS1)
      walk_at "rd"
      obtain ⟨mn, hmn, hm4⟩ : ∃ mn : Nat, (400 + n2 : Int) = (mn : Nat) ∧ (mn = 400 ∨ mn = 401) := ⟨(400 + n2 : Int).toNat, by omega, by omega⟩
      rw [show (fun i j : Int => V.int (i + j)) 400 n2 = V.int (mn : Nat) from congrArg V.int hmn]
      rw [hmn]
      intro D9 hD
      obtain ⟨c0, hc0⟩ : ∃ c0, sg[0]? = some c0 := ⟨sg[0]'WP.s0, List.getElem?_eq_getElem _⟩
      have hcm : c0 ∈ sg := List.mem_of_getElem? hc0
      have hSg := S_len sg
      refine lc_range (lo := 0) (n := ((mn : Nat) : Int).toNat) (fun i H3 => ∃ acc, H3 D9 = some (.lst acc) ∧ Items (TupAt eTup) H3 acc (bigEs c0 i) ∧ Same H2 H3) ⟨[], upd_same, Items.nil, same_new hD⟩ ?_ ?_
      · rintro i H3 hi ⟨acc, h3, it3, s3⟩
        rw [Int.zero_add]
        refine ⟨rfl, ty_T ?_⟩
        refine ⟨_, rfl, _, _, rfl, rfl, ⟨by omega, by omega⟩, ?_⟩
        refine ⟨_, rfl, _, 0, c0, rfl, rfl, sz_S (t := sg) (by have := WP.s3; omega), atI_at (Int.le_refl 0) (by show sg[0]? = _; exact hc0), ?_⟩
        refine ⟨_, rfl, .inl ⟨_, rfl, ?_⟩⟩
        refine ⟨_, _, rfl, rfl, show (0 : Int) < 40 by decide, ?_⟩
        refine ⟨by walk_at "sz", fun pp hpp => ?_⟩
        have e9 : [V.int (((i : Nat) : Int) / 40), .str ⟨#[c0]⟩, .int (((i : Nat) : Int) % 40)] = eTup (bigE c0 i) := by
          show _ = [V.int ((i / 40 : Nat) : Int), .str (S [c0]), .int ((i % 40 : Nat) : Int)]
          rw [Int.natCast_ediv, Int.natCast_emod]
          rfl
        have s4 := same_new (o := .tup (eTup (bigE c0 i))) hpp
        have e4 : (upd H3 pp (.tup (eTup (bigE c0 i)))) pp = some (.tup (eTup (bigE c0 i))) := upd_same
        show ∃ acc, (upd H3 pp (.tup [V.int (((i : Nat) : Int) / 40), .str ⟨#[c0]⟩, .int (((i : Nat) : Int) % 40)])) D9 = some (.lst acc) ∧ _
        rw [e9]
        generalize upd H3 pp (.tup (eTup (bigE c0 i))) = H4 at s4 e4 ⊢
        refine ⟨acc, s4 _ _ h3, ?_, acc ++ [.ref pp], upd_same, ?_, same_mut (s3.trans s4) hD⟩
        · have z1 := it3.1
          unfold bigEs at z1
          rw [List.length_map, List.length_range] at z1
          exact Nat.lt_of_le_of_lt (m := 500) (by omega) (by decide)
        · have kt : KeepT H4 (upd H4 D9 (.lst (acc ++ [.ref pp]))) := KeepT.upd (s4 _ _ h3)
          rw [bigEs_succ]
          exact it3.snoc (fun x y h => h.kt ((KeepT.same s4).trans kt)) ⟨pp, rfl, kt _ _ e4⟩
      · rintro H3 ⟨acc, h3, it3, s3⟩
        have hmm : ((mn : Nat) : Int).toNat = mn := by omega
        rw [hmm] at it3
        refine ⟨D9, _, rfl, .inl ⟨SqL.of h3, fun l hl => ?_⟩⟩
        have s4 := same_new (o := .tup acc) hl
        have e4 : (upd H3 l (.tup acc)) l = some (.tup acc) := upd_same
        generalize upd H3 l (.tup acc) = H4 at s4 e4 ⊢
        have W4 : AutT K H4 q m qe eys es qd ds := AutT.keep W2 (Keep.same (s3.trans s4))
        have hS4 : Src H4 p := by
          obtain ⟨d, e, c, z⟩ := hS2
          exact ⟨d, e, c, s4 _ _ (s3 _ _ z)⟩
        walk_at "nx"
        refine if_KH false (fun H' => Same H4 H') (fun Q' hQ => ?_) (fun zz => by cases zz) (fun _ H5 s5 => ?_)
        · refine ⟨_, rfl, _, rfl, ?_⟩
          refine ⟨by walk_at "sz", fun l3 hl3 => ?_⟩
          have s5 := same_new (o := .tup [.int 39]) hl3
          have e5 : (upd H4 l3 (.tup [.int 39])) l3 = some (.tup [.int 39]) := upd_same
          generalize upd H4 l3 (.tup [.int 39]) = H5 at s5 e5 ⊢
          refine ⟨by walk_at "sz", fun l6 hl6 => ?_⟩
          have s6 := same_new (o := .tup [.int 40, .ref l, .ref l3]) hl6
          have e6 : (upd H5 l6 (.tup [.int 40, .ref l, .ref l3])) l6 = some (.tup [.int 40, .ref l, .ref l3]) := upd_same
          generalize upd H5 l6 (.tup [.int 40, .ref l, .ref l3]) = H6 at s6 e6 ⊢
          have s46 := s5.trans s6
          have hacc : acc.length = mn := by rw [it3.1]; unfold bigEs; rw [List.length_map, List.length_range]
          refine ⟨sg, .ref l6, rfl, WP.sgn, by have := WP.s3; omega, sg, _, rfl, .inr ⟨l6, 40, l, acc, l3, [.int 39], rfl, .inr (SqT.of e6), .inr (SqT.of (s46 _ _ e4)), .inr (SqT.of (s6 _ _ e5)), by decide, by decide, ?_⟩⟩
          rcases hm4 with rfl | rfl
          · refine .inr ⟨by omega, bigEs c0 400, acc, [], bigEs_ok hcm (by decide), (List.append_nil _).symm, ⟨it3.1, fun i x y h1 h2 => (let ⟨q9, e9, h9⟩ := it3.2 i x y h1 h2; ⟨q9, e9, .inr (SqT.of (s46 _ _ (s4 _ _ h9)))⟩)⟩, .inr ⟨rfl, by decide, [39], [], ⟨fun d hd => by rw [List.mem_singleton] at hd; omega, fun i x y h1 h2 => by have := (List.getElem?_eq_some_iff.mp h2).1; simp at this⟩, rfl, .inr ⟨rfl, fun v' H7 s7 tp => ?_⟩⟩⟩
            refine ⟨_, rfl, rfl, _, rfl, ?_⟩
            rw [show decide (V.int ((400 : Nat) : Int) = V.int 400) = true by decide +kernel]
            refine iteT ?_
            refine ⟨.none, .none, .non, .non, by decide +kernel, by decide +kernel, _, rfl, ?_⟩
            rw [show PyData.eqv .none .none = true by decide +kernel]
            exact hQ _ (s46.trans s7)
          · refine .inl ⟨by omega, thr (fun H7 s7 => ?_) (Same.refl _)⟩
            refine ⟨_, rfl, rfl, _, rfl, ?_⟩
            rw [show decide (V.int ((401 : Nat) : Int) = V.int 400) = false by decide +kernel]
            refine iteF ?_
            refine ⟨1, rfl, ?_⟩
            refine ⟨.int (-1), .int (-1), .int _, .int _, shaped_int _, shaped_int _, _, rfl, ?_⟩
            rw [eqv_int]
            exact hQ _ (s46.trans s7)
        · walk_at "nx"
          refine kN _ _ ?_
          exact ⟨_, _, _, _, _, _, _, _, _, _, rfl, AutT.keep W4 (Keep.same s5), (by obtain ⟨d, e, c, z⟩ := hS4; exact ⟨d, e, c, s5 _ _ z⟩)⟩
    · walk_at "nx"
      exact kN _ _ ⟨_, _, _, _, _, _, _, _, _, _, rfl, W1, hS1⟩
  · rintro σ H1 ⟨v4, v5, v6, v7, v8, v9, v10, v11, v12, v13, rfl, W1, hS1⟩
    exact kb_end D H1 a p q qe qd sg m eys es ds v4 v5 v6 v7 v8 v9 v10 v11 v12 v13 W1 WP hS1 kD
end
end Sh
set_option Elab.async false
set_option linter.all false
set_option maxRecDepth 100000
set_option maxHeartbeats 4000000
namespace Sh
open PySem PySem.Spec PyProof.Rows L2
open SX (S S_inj S_len S_cat)
local macro_rules | `(tactic| walk_at "nx") => `(tactic| repeat (with_reducible first | refine Sh.gn_mk ?_ | refine Sh.nx_mk ?_ | refine Sh.st_nx ?_ | refine Sh.rt_mk ?_ | refine Sh.ct_mk ?_ | refine Sh.bk_mk ?_))
local macro_rules | `(tactic| walk_at "sq") => `(tactic| first | exact SqL.of upd_same | exact SqT.of upd_same | exact SqL.of (by assumption) | exact SqT.of (by assumption) | assumption | exact Or.inl (SqL.of (by assumption)) | exact Or.inr (SqT.of (by assumption)) | exact Or.inl (by assumption) | exact Or.inr (by assumption))
local macro_rules | `(tactic| walk_at "hp") => `(tactic| first | exact upd_same | assumption)
local macro_rules | `(tactic| walk_at "sz") => `(tactic| first | exact Nat.le_of_ble_eq_true rfl | omega)
local macro_rules | `(tactic| walk_at "sd") => `(tactic| first | omega | exact rfl | assumption | (show (0 : Int) < _; omega) | exact And.intro (by omega) (by omega) | exact Or.inl (And.intro (by omega) (by omega)) | exact Or.inr (And.intro (by omega) (by omega)) | omega | exact Sh.sz_S (by omega) | decide)
local macro_rules | `(tactic| walk_at "rd1") => `(tactic| first
  | (with_reducible first | refine Sh.gn_mk ?_ | refine Sh.nx_mk ?_ | refine Sh.st_nx ?_ | refine Sh.rt_mk ?_ | refine Sh.ct_mk ?_ | refine Sh.bk_mk ?_)
  | refine Exists.intro (α := V) _ (And.intro rfl ?_)
  | refine Exists.intro (α := Bool) _ (And.intro rfl ?_)
  | refine Exists.intro (α := Int) _ (And.intro rfl ?_)
  | refine Exists.intro (α := PySem.Str) _ (And.intro rfl ?_)
  | refine Exists.intro (α := Int) _ (Exists.intro (α := Int) _ (And.intro rfl (And.intro rfl ?_)))
  | refine Exists.intro (α := PySem.Str) _ (Exists.intro (α := PySem.Str) _ (And.intro rfl (And.intro rfl ?_)))
  | refine Exists.intro (α := Int) _ (Exists.intro (α := Int) _ (And.intro rfl ?_))
  | refine Or.inl (Exists.intro (α := Int) _ (And.intro rfl ?_))
  | refine Exists.intro _ (Exists.intro _ (Exists.intro _ (Exists.intro _ (And.intro rfl (And.intro rfl (And.intro (by walk_at "sq") (And.intro rfl ?_)))))))
  | refine Exists.intro _ (Exists.intro _ (Exists.intro _ (Exists.intro _ (And.intro rfl (And.intro rfl (And.intro (by walk_at "hp") (And.intro rfl ?_)))))))
  | refine And.intro (by walk_at "sd") ?_
  )
local macro_rules | `(tactic| walk_at "rd") => `(tactic| repeat walk_at "rd1")
local macro_rules | `(tactic| walk_at "lk") => `(tactic| first | exact rfl | (rw [lookup_putF, if_pos rfl]) | (rw [lookup_putF, if_neg (by decide +kernel)]; walk_at "lk"))

theorem Shw.int {i : Int} (h0 : 0 ≤ i) (h1 : i < 1000) : Shw (.int i) 0 13 := ⟨decide_eq_true (Nat.lt_of_le_of_lt (Nat.log2_le_self _) (by omega)), rfl, Nat.le_refl _, PyData.shown_int_le (by omega)⟩
theorem strB_len {sg s : List Nat} (h : strB sg s = true) : s.length ≤ 1 ∧ ∀ c ∈ s, c ∈ sg := by
  match s, h with
  | [], _ => exact ⟨by decide, fun c h => (by cases h)⟩
  | [c], h =>
    refine ⟨by simp, fun x hx => ?_⟩
    rw [List.mem_singleton] at hx
    rw [hx]
    simpa [strB] using h
  | _ :: _ :: _, h => simp [strB] at h
theorem shw_aut {sg : List Nat} {m : Nat} {es : List Eg} {ds : List Nat} (hsg : isSigns sg = true) (hE : EsOk sg m es) (hD : DsOk m ds) (m5 : m ≤ 5) (el : es.length ≤ 11) (dl : ds.length ≤ 5) : Shw (autD m es ds) 3 16777216 := by
  have h1 : Shw (.tuple (es.map eD)) 2 1000 := by
    refine (Shw.tup (k := 1) (m := 60) fun d hd => ?_).mono (Nat.le_refl _) (by rw [List.length_map]; omega)
    obtain ⟨e, he, rfl⟩ := List.mem_map.mp hd
    obtain ⟨g1, g2, g3, _⟩ := hE.good e he
    obtain ⟨gl, gc⟩ := strB_len g3
    refine (Shw.tup (k := 0) (m := 13) fun d hd => ?_).mono (Nat.le_refl _) (by show 3 * 13 + 2 * 3 + 3 ≤ 60; decide)
    simp only [List.mem_cons, List.not_mem_nil, or_false] at hd
    rcases hd with rfl | rfl | rfl
    · exact Shw.int (by omega) (by omega)
    · exact (Shw.str (fun c hc => signs_chars hsg c (gc c hc))).mono (Nat.le_refl _) (by omega)
    · exact Shw.int (by omega) (by omega)
  have h2 : Shw (.tuple (ds.map fun d => PyData.int (d : Nat))) 1 100 := by
    refine (Shw.tup (k := 0) (m := 13) fun d hd => ?_).mono (Nat.le_refl _) (by rw [List.length_map]; omega)
    obtain ⟨e, he, rfl⟩ := List.mem_map.mp hd
    have := hD.good e he
    exact Shw.int (by omega) (by omega)
  refine (Shw.tup (k := 2) (m := 1000) fun d hd => ?_).mono (Nat.le_refl _) (by show 3 * 1000 + 2 * 3 + 3 ≤ 16777216; decide)
  simp only [List.mem_cons, List.not_mem_nil, or_false] at hd
  rcases hd with rfl | rfl | rfl
  · exact (Shw.int (by omega) (by omega)).mono (by decide) (by decide)
  · exact h1
  · exact h2.mono (by decide) (by decide)
theorem dpInts {K : PySem.W.Frag} {H : Hp} : ∀ l : List Nat, DpAll K H (l.map dV) (l.map fun d => PyData.int (d : Nat))
  | [] => .nil
  | _ :: l => .cons (.int _) (dpInts l)
theorem EdT.dp {K : PySem.W.Frag} {H : Hp} {v : V} {e : Eg} (h : EdT K H v e) : Dp K H v (eD e) := by
  obtain ⟨q, rfl, hq⟩ := h
  exact .tup hq (.cons (.int _) (.cons (.str _) (.cons (.int _) .nil)))
theorem menu_nq : ∀ sg ∈ sgMenu, 113 ∉ sg := by decide +kernel
section
variable {P : Program} {w : World} {K : PySem.W.Frag} {mg : Str → Option Value} {base : Heap} {C0 XA FA DI XS FS DT SE : Addr}
theorem law_body (T : TxtX P K mg C0 XA FA DI XS FS DT SE) (f : Addr) (cdv : Value) (A : Around) (outer : List Env) (s : Shared) (H : Hp) (E : XK) (hr : Room 9 (A.deeper (envOfC "law" (defScope s_law) s.heap.objs.size f cdv))) (hgd : A.guards = some [])
    (a : Addr) (ns : List Int) (hS : SqL K H a (ns.map V.int)) (hbits : ∀ z ∈ ns, Builtin.Int.intBits z ≤ 1048576) (hlen : ns.length ≤ 63) :
    ∃ t, PSs (cxOf CX0 P w K mg base ["_law_script", "_law_source_here", "_law_signs_here", "_law_automaton", "_law_told", "_law_turn", "_law_thing", "_law_place_here", "_law_many", "_law_edges", "_law_menu", "_law_odd", "raised", "_law_k"] "law" (defScope s_law) f cdv A outer s H E).nox (defBody s_law) t ∧
      t { nx := fun _ _ => V.non = V.bl true, rt := fun v _ => v = .bl true } (start ["_law_script", "_law_source_here", "_law_signs_here", "_law_automaton", "_law_told", "_law_turn", "_law_thing", "_law_place_here", "_law_many", "_law_edges", "_law_menu", "_law_odd", "raised", "_law_k"] [.ref a]) H := by
  have c__law_source := c__law_source (P := P) (w := w) (base := base) T.toTxtC.toTxt
  have c__law_signs := c__law_signs (P := P) (w := w) (base := base) T.toTxtC.toTxt
  have c__law_nfa := c__law_nfa (P := P) (w := w) (base := base) T.toTxtC.toTxt
  have c_X_checked_automaton := c_X_checked_automaton (P := P) (w := w) (base := base) T
  have c__law_spoilt := c__law_spoilt (P := P) (w := w) (base := base) (XA := XA) T.toTxtC.toTxt
  have c__law_pick := c__law_pick (P := P) (w := w) (base := base) T.toTxtC.toTxt
  have c__law_listed := c__law_listed (P := P) (w := w) (base := base) T.toTxtC.toTxt
  have c__law_place := c__law_place (P := P) (w := w) (base := base) T
  obtain ⟨tb_turn, hb_turn, kb_turn⟩ := blk_turn (P := P) (w := w) (base := base) T f cdv A outer s H E hr hgd
  obtain ⟨tb_big, hb_big, kb_big⟩ := blk_big (P := P) (w := w) (base := base) T f cdv A outer s H E hr hgd
  have hgd : (A.deeper (envOfC "law" (defScope s_law) s.heap.objs.size f cdv)).guards = some [] := hgd
  have hu := hu_of hr
  refine ⟨_, (pss_cons (ps_set (i := 1) sc_law.nd rfl (Or.inl rfl) (pe_c c__law_source hr (by decide) rfl (pa_cons (pv 0) (pa_cons pe_int pa_nil))))
  (pss_cons (ps_set (i := 2) sc_law.nd rfl (Or.inr rfl) (pe_c c__law_signs hr (by decide) rfl (pa_cons (pv 1) pa_nil)))
  (pss_cons (ps_set (i := 3) sc_law.nd rfl (Or.inl rfl) (pe_c c__law_nfa hr (by decide) rfl (pa_cons (pv 1) (pa_cons (pv 2) (pa_cons pe_int pa_nil)))))
  (pss_cons (ps_set (i := 4) sc_law.nd rfl (Or.inl rfl) (pe_cXn c_X_checked_automaton hr (by decide) rfl (pa_cons (pv 2) (pa_cons (pe_ifExp (pt_cmpR op_eq (pe_c c__law_pick hr (by decide) rfl (pa_cons (pv 1) (pa_cons pe_int pa_nil))) pe_int (nomark _)) (pv 3) (pe_c c__law_listed hr (by decide) rfl (pa_cons (pv 3) pa_nil))) pa_nil))))
  (pss_cons (ps_if (pt_cmpR op_ne (pe_callB (call_reprD hgd hr.units) (by rfl) T.b_repr (by decide +kernel) (pa_cons (pv 4) pa_nil)) (pe_callB (call_reprD hgd hr.units) (by rfl) T.b_repr (by decide +kernel) (pa_cons (pv 3) pa_nil)) (nomark _))
    (pss_one (ps_ret pe_bl))
    pss_nil)
  (pss_cons (ps_for PassesOwn.never rfl (pi_range1 (by rfl) T.b_range (pa_cons pe_int pa_nil)) (pg_name (i := 5) sc_law.nd rfl (Or.inl rfl))
    hb_turn)
  hb_big)))))), ?_⟩
  refine ⟨_, rfl, a, ns, 0, rfl, hS, hbits, hlen, by decide, by decide, fun p H1 hp s1 hp1 => ?_⟩
  walk_at "nx"
  refine ⟨_, rfl, p, rfl, hp1, fun sg H2 hsg hp2 b2 => ?_⟩
  have hsl := menu_len sg hsg
  have hssg := menu_signs sg hsg
  walk_at "nx"
  refine ⟨_, rfl, _, rfl, p, sg, rfl, hp2, hssg, hsl.1, by omega, fun q m qe eys es qd ds H3 A3 hE hD m1 m5 el dl hp3 b3 _ => ?_⟩
  have s3 : Same H H3 := ((But.same s1).trans (b2.trans b3)).toSame hp
  have WP : WaP sg m es ds := ⟨hE, hD, m1, m5, el, dl, hssg, hsl.1, hsl.2, menu_nq sg hsg⟩
  have hS3 := s3.seq hS
  clear b3 hp2 b2 s1 hp1
  walk_at "nx"
  refine st_asgJ (fun v H5 => AutT K H5 q m qe eys es qd ds ∧ Src H5 p ∧ Same H H5 ∧ Tp K H5 v (autD m es ds)) (fun Q' hQ => ?_) (fun v H5 hv => ?_)
  · refine ⟨_, rfl, ?_⟩
    walk_at "rd"
    refine ⟨p, 2, rfl, hp3, by decide, by decide, fun n H4 n0 n1 hp4 b4 => ?_⟩
    have A4 := A3.keep (Keep.but b4 hp3)
    have s4 := Same.but s3 b4 hp
    walk_at "rd"
    refine ite2 (fun c => ?_) (fun c => ?_)
    · refine ⟨_, rfl, ?_⟩
      exact ⟨_, _, rfl, .inr ⟨sg, rfl, by omega, hssg, sg, _, rfl, .inr ⟨q, m, qe, eys, qd, ds.map dV, rfl, .inr A4.sq, .inr A4.se, .inr A4.sd, m1, by omega, .inr ⟨by have := A4.ie.1; omega, es, eys, [], hE, (List.append_nil _).symm, Items.imp A4.ie fun x y h => EdT.x h, .inr ⟨rfl, by rw [List.length_map]; omega, ds, [], hD, (List.append_nil _).symm, .inr ⟨rfl, fun v' H' s tp => hQ _ _ ⟨A4.keep (Keep.same s), (by obtain ⟨d, e, c, z⟩ := hp4; exact ⟨d, e, c, s _ _ z⟩), s4.trans s, tp⟩⟩⟩⟩⟩⟩⟩
    · refine ⟨_, rfl, q, m, qe, eys, es, qd, ds, rfl, A4, by omega, fun l le zs ld H5 s5 h1 h2 h3 h4 => ?_⟩
      exact ⟨_, _, rfl, .inr ⟨sg, rfl, by omega, hssg, sg, _, rfl, .inr ⟨l, m, le, zs, ld, ds.map dV, rfl, .inl h1, .inl h2, .inl h4, m1, by omega, .inr ⟨by have := h3.1; omega, es, zs, [], hE, (List.append_nil _).symm, h3, .inr ⟨rfl, by rw [List.length_map]; omega, ds, [], hD, (List.append_nil _).symm, .inr ⟨rfl, fun v' H' s tp => hQ _ _ ⟨(A4.keep (Keep.same s5)).keep (Keep.same s), (by obtain ⟨d, e, c, z⟩ := hp4; exact ⟨d, e, c, s _ _ (s5 _ _ z)⟩), s4.trans (s5.trans s), tp⟩⟩⟩⟩⟩⟩⟩
  obtain ⟨A5, hp5, s5, tp⟩ := hv
  walk_at "nx"
  have sh := (shw_aut hssg hE hD m5 el dl).ok (by decide) (by decide)
  have hS5 := s5.seq hS
  refine st_ifK false (fun Q' hQ => ?_) (fun zz => by cases zz) (fun _ => ?_)
  · refine ⟨_, rfl, v, autD m es ds, rfl, Tp.dp tp, sh.1, sh.2.1, sh.2.2.1, sh.2.2.2, ?_⟩
    refine ⟨_, rfl, _, autD m es ds, rfl, .tup A5.sq (.cons (.int _) (.cons (.tup A5.se (dpAll_of (fun _ _ h => EdT.dp h) A5.ie)) (.cons (.tup A5.sd (dpInts ds)) .nil))), sh.1, sh.2.1, sh.2.2.1, sh.2.2.2, rfl, _, rfl, ?_⟩
    rw [decide_eq_true rfl]
    exact hQ
  walk_at "nx"
  walk_at "rd"
  refine for_range (lo := 0) (n := _) (fun i σ H8 => ∃ (v4 v5 v6 v7 v8 v9 v10 v11 v12 v13 : Option V), σ = [some (.ref a), some (.ref p), some (.str (S sg)), some (.ref q), v4, v5, v6, v7, v8, v9, v10, v11, v12, v13] ∧ Same H5 H8)
    ⟨_, _, _, _, _, _, _, _, _, _, rfl, Same.refl H5⟩ ?_ ?_
  · rintro i σ H8 hi ⟨v4, v5, v6, v7, v8, v9, v10, v11, v12, v13, rfl, s8⟩
    rw [Int.zero_add]
    have hi3 : i < 3 := hi
    refine kb_turn _ H8 i a p q qe qd sg m eys es ds ns v4 v6 v7 v8 v9 v10 v11 v12 v13 (AutT.keep A5 (Keep.same s8)) WP (s8.seq hS5) hbits hlen hi3 ?_
    rintro σ2 H9 ⟨w4, w5, w6, w7, w8, w9, w10, w11, w12, w13, rfl, s9⟩
    exact ⟨_, _, _, _, _, _, _, _, _, _, rfl, s8.trans s9⟩
  · rintro σ H8 ⟨v4, v5, v6, v7, v8, v9, v10, v11, v12, v13, rfl, s8⟩
    refine kb_big _ H8 a p q qe qd sg m eys es ds v4 v5 v6 v7 v8 v9 v10 v11 v12 v13 (AutT.keep A5 (Keep.same s8)) WP (by obtain ⟨d, e, c, z⟩ := hp5; exact ⟨d, e, c, s8 _ _ z⟩) fun H' => rfl
end
end Sh
set_option Elab.async false
set_option linter.all false
set_option maxRecDepth 100000
namespace Sh
open PySem PySem.Spec PyProof.Rows L2
section
variable {P : Program} {K : PySem.W.Frag} {h : Heap} {mg : Str → Option Value}
/-- an exception class -/
theorem exc_mk {x : Str} {C f D N : Addr} {nm q : Str} {bs bm : List Value} {sn : List Str} {sub : List Value} {ab : Bool} {col : Option Bool} {dd : Option Addr} {k0 k1 k2 k3 k5 : Option Value} (X : K.In h) (Y : h.Ns mainGlobals mg)
    (a : PySem.W.nsIn K mainGlobals x = some (some (.ref C))) (l : K.lookup C = some (excClassObj nm q C N bs bm true sn sub ab col dd k0 k1 k2 k3 k5 "ValueError.__new__")) (vb : PySem.HandSPX.refsVE bm = true)
    (sa : PySem.W.findIn K (.ref C) "__setattr__" = some (some (.builtin "object.__setattr__"))) (ga : PySem.W.findIn K (.ref C) "__getattribute__" = some (some (.builtin "BaseException.__getattribute__"))) (gg : PySem.W.findIn K (.ref C) "__getattr__" = some none)
    (ic : PySem.W.findIn K (.ref C) "__init__" = some (some (.ref f))) (ti : PySem.W.typeIn K (.ref f) = some (.type "function")) (kc : PySem.W.keepIn K (.ref C) = true) (ex : PySem.W.subIn K (.ref C) (.type "BaseException") = some true)
    (ty : PySem.W.typeIn K (.ref C) = some (.type "type")) (hd : PySem.W.hasDictIn K C = true) (su : PySem.W.mroIn K C (.ref D) = some true) (sp : PySem.W.ks_superIn K C D "__init__" = some (some (.builtin "ValueError.__init__"))) (ve : PySem.W.subIn K (.ref C) (.type "ValueError") = some true) :
    ExcAt K mg x C f D :=
  ⟨⟨⟨nm, q, N, bs, bm, sn, sub, ab, col, dd, k0, k1, k2, k3, k5, l, vb⟩, sa, ex, ty, kc⟩, PySem.W.mg_of X Y a, ic, ti, ⟨su, sp, ve⟩, ⟨ga, gg, ex, hd⟩⟩
/-- its __init__ -/
theorem xinit_mk {q : Str} {st : Stmt} {ps : List Str} {D f cc cda : Addr} {oc kv dc pm ct cl cl2 : Value} {od an cld cld2 : Option Addr} {sl csl csl2 : Array (Option Value)} {vs : Array Value} {file : Str} {tf : Tok} {cd : ClassData}
    (l : K.lookup f = some ⟨oc, od, .func (PySem.W.fnX "__init__" q (defArgs st) (defBody st) (defScope st) [("__class__", cc)] .none kv dc pm an (.ref cda) ct), sl⟩) (c : PySem.W.codeIn K (.ref cda) q = true)
    (hcc : K.lookup cc = some ⟨cl, cld, .cell (some (.ref D)), csl⟩) (hcd : K.lookup cda = some ⟨cl2, cld2, .fields vs, csl2⟩) (hvs : vs[2]? = some (.str file tf)) (hfl : ((P.main.file : Str) == file) = true) (top : (P.main.scope.names.lookup ("super" : Str)).isSome = false)
    (hD : PySem.W.clsIn K D = some cd) (op : PySem.W.nsIn K cStatics "thirdparty.any" = some none) (ms : mg "super" = none) (hp : ∃ ar : Arg, ((defArgs st).posonlyargs ++ (defArgs st).args).head? = some ar ∧ ar.arg = "self") (hks : (defScope st).names.lookup ("super" : Str) = some .globalImplicit)
    (b : ∀ (kV doc pm : Value) (an : Option Addr) (cdv ct : Value) (us : List Value), us.length = ps.length → bindArgs (PySem.W.fnX "__init__" q (defArgs st) (defBody st) (defScope st) [("__class__", cc)] .none kV doc pm an cdv ct) ⟨us, []⟩ = pure (ps.zip us)) : XInit P K mg q st ps D f :=
  ⟨_, ⟨⟨cc, cda, oc, kv, dc, pm, ct, od, an, sl, rfl, l, c, ⟨cl, cld, csl, hcc⟩, ⟨cl2, cld2, vs, csl2, file, tf, hcd, hvs, hfl⟩⟩, top, ms, ⟨cd, hD⟩, op, hp, hks⟩, Binds.all fun us hl => b kv dc pm an (.ref cda) ct us hl⟩
end
end Sh
set_option Elab.async false
set_option linter.all false
set_option maxRecDepth 100000
namespace Sh
open PySem PySem.Spec PyProof.Rows L2
theorem all_exc {P : Program} {K : PySem.W.Frag} {h : Heap} {mg : Str → Option Value} {C0 XA FA DI XS FS DT SE : Addr}
    {N_BadAutomaton : Addr} {nm_BadAutomaton q_BadAutomaton : Str} {bs_BadAutomaton bm_BadAutomaton : List Value} {sn_BadAutomaton : List Str} {sub_BadAutomaton : List Value} {ab_BadAutomaton : Bool} {col_BadAutomaton : Option Bool} {dd_BadAutomaton : Option Addr} {k0_BadAutomaton k1_BadAutomaton k2_BadAutomaton k3_BadAutomaton k5_BadAutomaton : Option Value}
    {cc_WrongItem ca_WrongItem : Addr} {oc_WrongItem kv_WrongItem dc_WrongItem pm_WrongItem ct_WrongItem cl_WrongItem cm_WrongItem : Value} {od_WrongItem an_WrongItem ce_WrongItem cf_WrongItem : Option Addr} {sl_WrongItem cs_WrongItem ct2_WrongItem : Array (Option Value)} {fv_WrongItem : Array Value} {fi_WrongItem : Str} {tf_WrongItem : Tok} {cd_WrongItem : ClassData}
    {N_BadSigns : Addr} {nm_BadSigns q_BadSigns : Str} {bs_BadSigns bm_BadSigns : List Value} {sn_BadSigns : List Str} {sub_BadSigns : List Value} {ab_BadSigns : Bool} {col_BadSigns : Option Bool} {dd_BadSigns : Option Addr} {k0_BadSigns k1_BadSigns k2_BadSigns k3_BadSigns k5_BadSigns : Option Value}
    {cc_WrongThing ca_WrongThing : Addr} {oc_WrongThing kv_WrongThing dc_WrongThing pm_WrongThing ct_WrongThing cl_WrongThing cm_WrongThing : Value} {od_WrongThing an_WrongThing ce_WrongThing cf_WrongThing : Option Addr} {sl_WrongThing cs_WrongThing ct2_WrongThing : Array (Option Value)} {fv_WrongThing : Array Value} {fi_WrongThing : Str} {tf_WrongThing : Tok} {cd_WrongThing : ClassData}
    (KX : K.In h) (G : h.Ns mainGlobals mg) (TC : TxtC K mg C0)
    (op : PySem.W.nsIn K cStatics "thirdparty.any" = some none)
    (a_BadAutomaton : PySem.W.nsIn K mainGlobals "BadAutomaton" = some (some (.ref XA)))
    (xl_BadAutomaton : K.lookup XA = some (excClassObj nm_BadAutomaton q_BadAutomaton XA N_BadAutomaton bs_BadAutomaton bm_BadAutomaton true sn_BadAutomaton sub_BadAutomaton ab_BadAutomaton col_BadAutomaton dd_BadAutomaton k0_BadAutomaton k1_BadAutomaton k2_BadAutomaton k3_BadAutomaton k5_BadAutomaton "ValueError.__new__"))
    (vb_BadAutomaton : PySem.HandSPX.refsVE bm_BadAutomaton = true)
    (sa_BadAutomaton : PySem.W.findIn K (.ref XA) "__setattr__" = some (some (.builtin "object.__setattr__")))
    (ga_BadAutomaton : PySem.W.findIn K (.ref XA) "__getattribute__" = some (some (.builtin "BaseException.__getattribute__")))
    (gg_BadAutomaton : PySem.W.findIn K (.ref XA) "__getattr__" = some none)
    (ic_BadAutomaton : PySem.W.findIn K (.ref XA) "__init__" = some (some (.ref FA)))
    (ti_BadAutomaton : PySem.W.typeIn K (.ref FA) = some (.type "function"))
    (kc_BadAutomaton : PySem.W.keepIn K (.ref XA) = true)
    (ex_BadAutomaton : PySem.W.subIn K (.ref XA) (.type "BaseException") = some true)
    (ty_BadAutomaton : PySem.W.typeIn K (.ref XA) = some (.type "type"))
    (hd_BadAutomaton : PySem.W.hasDictIn K XA = true)
    (l_WrongItem : K.lookup FA = some ⟨oc_WrongItem, od_WrongItem, .func (PySem.W.fnX "__init__" "WrongItem.__init__" (defArgs s_WrongItem___init__) (defBody s_WrongItem___init__) (defScope s_WrongItem___init__) [("__class__", cc_WrongItem)] .none kv_WrongItem dc_WrongItem pm_WrongItem an_WrongItem (.ref ca_WrongItem) ct_WrongItem), sl_WrongItem⟩)
    (c_WrongItem : PySem.W.codeIn K (.ref ca_WrongItem) "WrongItem.__init__" = true)
    (cl1_WrongItem : K.lookup cc_WrongItem = some ⟨cl_WrongItem, ce_WrongItem, .cell (some (.ref DI)), cs_WrongItem⟩)
    (cl2_WrongItem : K.lookup ca_WrongItem = some ⟨cm_WrongItem, cf_WrongItem, .fields fv_WrongItem, ct2_WrongItem⟩)
    (fv1_WrongItem : fv_WrongItem[2]? = some (.str fi_WrongItem tf_WrongItem))
    (fl_WrongItem : ((P.main.file : Str) == fi_WrongItem) = true)
    (cD_WrongItem : PySem.W.clsIn K DI = some cd_WrongItem)
    (top : (P.main.scope.names.lookup ("super" : Str)).isSome = false)
    (su_BadAutomaton : PySem.W.mroIn K XA (.ref DI) = some true)
    (sp_BadAutomaton : PySem.W.ks_superIn K XA DI "__init__" = some (some (.builtin "ValueError.__init__")))
    (ve_BadAutomaton : PySem.W.subIn K (.ref XA) (.type "ValueError") = some true)
    (nf_BadAutomaton_place : PySem.W.findIn K (.ref XA) "place" = some none)
    (a_BadSigns : PySem.W.nsIn K mainGlobals "BadSigns" = some (some (.ref XS)))
    (xl_BadSigns : K.lookup XS = some (excClassObj nm_BadSigns q_BadSigns XS N_BadSigns bs_BadSigns bm_BadSigns true sn_BadSigns sub_BadSigns ab_BadSigns col_BadSigns dd_BadSigns k0_BadSigns k1_BadSigns k2_BadSigns k3_BadSigns k5_BadSigns "ValueError.__new__"))
    (vb_BadSigns : PySem.HandSPX.refsVE bm_BadSigns = true)
    (sa_BadSigns : PySem.W.findIn K (.ref XS) "__setattr__" = some (some (.builtin "object.__setattr__")))
    (ga_BadSigns : PySem.W.findIn K (.ref XS) "__getattribute__" = some (some (.builtin "BaseException.__getattribute__")))
    (gg_BadSigns : PySem.W.findIn K (.ref XS) "__getattr__" = some none)
    (ic_BadSigns : PySem.W.findIn K (.ref XS) "__init__" = some (some (.ref FS)))
    (ti_BadSigns : PySem.W.typeIn K (.ref FS) = some (.type "function"))
    (kc_BadSigns : PySem.W.keepIn K (.ref XS) = true)
    (ex_BadSigns : PySem.W.subIn K (.ref XS) (.type "BaseException") = some true)
    (ty_BadSigns : PySem.W.typeIn K (.ref XS) = some (.type "type"))
    (hd_BadSigns : PySem.W.hasDictIn K XS = true)
    (l_WrongThing : K.lookup FS = some ⟨oc_WrongThing, od_WrongThing, .func (PySem.W.fnX "__init__" "WrongThing.__init__" (defArgs s_WrongThing___init__) (defBody s_WrongThing___init__) (defScope s_WrongThing___init__) [("__class__", cc_WrongThing)] .none kv_WrongThing dc_WrongThing pm_WrongThing an_WrongThing (.ref ca_WrongThing) ct_WrongThing), sl_WrongThing⟩)
    (c_WrongThing : PySem.W.codeIn K (.ref ca_WrongThing) "WrongThing.__init__" = true)
    (cl1_WrongThing : K.lookup cc_WrongThing = some ⟨cl_WrongThing, ce_WrongThing, .cell (some (.ref DT)), cs_WrongThing⟩)
    (cl2_WrongThing : K.lookup ca_WrongThing = some ⟨cm_WrongThing, cf_WrongThing, .fields fv_WrongThing, ct2_WrongThing⟩)
    (fv1_WrongThing : fv_WrongThing[2]? = some (.str fi_WrongThing tf_WrongThing))
    (fl_WrongThing : ((P.main.file : Str) == fi_WrongThing) = true)
    (cD_WrongThing : PySem.W.clsIn K DT = some cd_WrongThing)
    (su_BadSigns : PySem.W.mroIn K XS (.ref DT) = some true)
    (sp_BadSigns : PySem.W.ks_superIn K XS DT "__init__" = some (some (.builtin "ValueError.__init__")))
    (ve_BadSigns : PySem.W.subIn K (.ref XS) (.type "ValueError") = some true)
    (nf_BadSigns_thing : PySem.W.findIn K (.ref XS) "thing" = some none)
    (h_BadAutomaton_BadAutomaton : PySem.W.subIn K (.ref XA) (.ref XA) = some true)
    (h_BadSigns_BadSigns : PySem.W.subIn K (.ref XS) (.ref XS) = some true)
    (cg_ : PySem.W.specialIn K (.builtin "object.__class__") "__get__" = some (some (.builtin "getset_descriptor.__get__")))
    (ct_ : PySem.W.takesIn K (.builtin "object.__class__") = some true)
    (co_BadAutomaton : PySem.W.findIn K (.ref XA) "__class__" = some (some (.builtin "object.__class__")))
    (cm_o_BadAutomaton : PySem.W.mroIn K XA (.type "object") = some true)
    (co_BadSigns : PySem.W.findIn K (.ref XS) "__class__" = some (some (.builtin "object.__class__")))
    (cm_o_BadSigns : PySem.W.mroIn K XS (.type "object") = some true)
    (ag_WrongItem : PySem.W.nsIn K mainGlobals "WrongItem" = some (some (.ref DI)))
    (hdb_WrongItem : PySem.W.hasDictIn K DI = true)
    (tyb_WrongItem : PySem.W.typeIn K (.ref DI) = some (.type "type"))
    (ag_WrongThing : PySem.W.nsIn K mainGlobals "WrongThing" = some (some (.ref DT)))
    (hdb_WrongThing : PySem.W.hasDictIn K DT = true)
    (tyb_WrongThing : PySem.W.typeIn K (.ref DT) = some (.type "type"))
    (ag_ShrunkError : PySem.W.nsIn K mainGlobals "ShrunkError" = some (some (.ref SE)))
    (hdb_ShrunkError : PySem.W.hasDictIn K SE = true)
    (tyb_ShrunkError : PySem.W.typeIn K (.ref SE) = some (.type "type"))
    (sb_BadAutomaton_WrongItem : PySem.W.subIn K (.ref XA) (.ref DI) = some true)
    (sb_BadAutomaton_ShrunkError : PySem.W.subIn K (.ref XA) (.ref SE) = some true)
    (sb_BadAutomaton_WrongThing : PySem.W.subIn K (.ref XA) (.ref DT) = some false)
    (sl_WrongThing : PySem.W.subIn K (.ref DT) (.ref DT) = some true)
    (sb_BadSigns_WrongThing : PySem.W.subIn K (.ref XS) (.ref DT) = some true)
    (sb_BadSigns_WrongItem : PySem.W.subIn K (.ref XS) (.ref DI) = some false)
    (sl_WrongItem : PySem.W.subIn K (.ref DI) (.ref DI) = some true) :
    ∃ XA FA DI XS FS DT SE : Addr, TxtX P K mg C0 XA FA DI XS FS DT SE :=
  ⟨XA, FA, DI, XS, FS, DT, SE, { TC with
    e_BadAutomaton := exc_mk KX G a_BadAutomaton xl_BadAutomaton vb_BadAutomaton sa_BadAutomaton ga_BadAutomaton gg_BadAutomaton ic_BadAutomaton ti_BadAutomaton kc_BadAutomaton ex_BadAutomaton ty_BadAutomaton hd_BadAutomaton su_BadAutomaton sp_BadAutomaton ve_BadAutomaton
    q_WrongItem := xinit_mk l_WrongItem c_WrongItem cl1_WrongItem cl2_WrongItem fv1_WrongItem fl_WrongItem top cD_WrongItem op TC.b_super ⟨_, rfl, rfl⟩ (by decide +kernel) (fun _ _ _ _ _ _ us hl => match us, hl with | [_, _], _ => rfl)
    nf_BadAutomaton_place := nf_BadAutomaton_place
    e_BadSigns := exc_mk KX G a_BadSigns xl_BadSigns vb_BadSigns sa_BadSigns ga_BadSigns gg_BadSigns ic_BadSigns ti_BadSigns kc_BadSigns ex_BadSigns ty_BadSigns hd_BadSigns su_BadSigns sp_BadSigns ve_BadSigns
    q_WrongThing := xinit_mk l_WrongThing c_WrongThing cl1_WrongThing cl2_WrongThing fv1_WrongThing fl_WrongThing top cD_WrongThing op TC.b_super ⟨_, rfl, rfl⟩ (by decide +kernel) (fun _ _ _ _ _ _ us hl => match us, hl with | [_, _], _ => rfl)
    nf_BadSigns_thing := nf_BadSigns_thing
    mm_BadAutomaton_BadAutomaton := PySem.W.exm_ref ex_BadAutomaton hd_BadAutomaton ty_BadAutomaton h_BadAutomaton_BadAutomaton
    mm_BadSigns_BadSigns := PySem.W.exm_ref ex_BadSigns hd_BadSigns ty_BadSigns h_BadSigns_BadSigns
    c_BadAutomaton := ⟨ga_BadAutomaton, gg_BadAutomaton, ex_BadAutomaton, hd_BadAutomaton, co_BadAutomaton, cg_, ct_, cm_o_BadAutomaton⟩
    c_BadSigns := ⟨ga_BadSigns, gg_BadSigns, ex_BadSigns, hd_BadSigns, co_BadSigns, cg_, ct_, cm_o_BadSigns⟩
    gc_WrongItem := PySem.W.mg_of KX G ag_WrongItem
    gc_WrongThing := PySem.W.mg_of KX G ag_WrongThing
    gc_ShrunkError := PySem.W.mg_of KX G ag_ShrunkError
    ko_BadAutomaton_WrongItem := kit_true hdb_WrongItem tyb_WrongItem sb_BadAutomaton_WrongItem
    ko_BadAutomaton_ShrunkError := kit_true hdb_ShrunkError tyb_ShrunkError sb_BadAutomaton_ShrunkError
    ko_BadAutomaton_WrongThing := kit_false hdb_WrongThing tyb_WrongThing sl_WrongThing sb_BadAutomaton_WrongThing
    ko_BadSigns_WrongThing := kit_true hdb_WrongThing tyb_WrongThing sb_BadSigns_WrongThing
    ko_BadSigns_WrongItem := kit_false hdb_WrongItem tyb_WrongItem sl_WrongItem sb_BadSigns_WrongItem }⟩
end Sh
open PySem PySem.W PyProof.Rows
set_option maxRecDepth 100000 in
set_option maxHeartbeats 0 in
theorem PySem.Challenge.cw_shrunkalike_k01_automata_checked_holds : PySem.Challenge.rw_shrunkalike_k01_automata_checked.Holds := by
  w_on; o_law; k_head; (case hw => w_witness2)
  k_fill
  refine Sh.walk_law (l := PySem.Challenge.rw_shrunkalike_k01_automata_checked) (n := 63) (k := 9) (x := "law") (p1 := "_law_script") (st := Sh.s_law) (N := ["_law_script", "_law_source_here", "_law_signs_here", "_law_automaton", "_law_told", "_law_turn", "_law_thing", "_law_place_here", "_law_many", "_law_edges", "_law_menu", "_law_odd", "raised", "_law_k"]) rfl (by decide) rfl ⟨rfl, by decide, by decide⟩ Sh.sc_law (fun w h Y => PySem.W.kIn_of Y) ?F
  case F =>
    intro w mg fa h KX G hmg
    have b_len : mg "len" = none := by refine' PySem.W.mg_none_of KX G ?z; (case z => k_is)
    have b_range : mg "range" = none := by refine' PySem.W.mg_none_of KX G ?z; (case z => k_is)
    have b_min : mg "min" = none := by refine' PySem.W.mg_none_of KX G ?z; (case z => k_is)
    have b_max : mg "max" = none := by refine' PySem.W.mg_none_of KX G ?z; (case z => k_is)
    have b_isinstance : mg "isinstance" = none := by refine' PySem.W.mg_none_of KX G ?z; (case z => k_is)
    have b_abs : mg "abs" = none := by refine' PySem.W.mg_none_of KX G ?z; (case z => k_is)
    have b_int : mg "int" = none := by refine' PySem.W.mg_none_of KX G ?z; (case z => k_is)
    have b_str : mg "str" = none := by refine' PySem.W.mg_none_of KX G ?z; (case z => k_is)
    have b_bool : mg "bool" = none := by refine' PySem.W.mg_none_of KX G ?z; (case z => k_is)
    have b_tuple : mg "tuple" = none := by refine' PySem.W.mg_none_of KX G ?z; (case z => k_is)
    have b_list : mg "list" = none := by refine' PySem.W.mg_none_of KX G ?z; (case z => k_is)
    have b_repr : mg "repr" = none := by refine' PySem.W.mg_none_of KX G ?z; (case z => k_is)
    have b_sorted : mg "sorted" = none := by refine' PySem.W.mg_none_of KX G ?z; (case z => k_is)
    have b_super : mg "super" = none := by refine' PySem.W.mg_none_of KX G ?z; (case z => k_is)
    have g_LETTERS : ∃ u, mg "LETTERS" = some u ∧ L2.RelV (.str "abcdefghijklmnopqrstuvwxyz") u := by refine' Sh.con_mk KX G ?a ?r; (case a => k_is); (case r => exact ⟨_, rfl⟩)
    have g_MOST_PASSED : ∃ u, mg "MOST_PASSED" = some u ∧ L2.RelV (.int 40) u := by refine' Sh.con_mk KX G ?a ?r; (case a => k_is); (case r => exact ⟨_, rfl⟩)
    have g_MOST_EDGES : ∃ u, mg "MOST_EDGES" = some u ∧ L2.RelV (.int 400) u := by refine' Sh.con_mk KX G ?a ?r; (case a => k_is); (case r => exact ⟨_, rfl⟩)
    have d_is_integer : Sh.DefAt (L2.KOf KX) mg "is_integer" Sh.s_is_integer ["thing", "low", "high"] := by delta L2.KOf; refine' Sh.def_mk KX G ?a ?l ?c ?k ?b; (case a => k_is); (case l => k_is); (case c => k_is); (case k => k_is); (case b => exact fun _ _ _ _ _ _ us hl => match us, hl with | [_, _, _], _ => rfl)
    have d_is_listed : Sh.DefAt (L2.KOf KX) mg "is_listed" Sh.s_is_listed ["thing"] := by delta L2.KOf; refine' Sh.def_mk KX G ?a ?l ?c ?k ?b; (case a => k_is); (case l => k_is); (case c => k_is); (case k => k_is); (case b => exact fun _ _ _ _ _ _ us hl => match us, hl with | [_], _ => rfl)
    have d_deep : Sh.DefAt (L2.KOf KX) mg "deep" Sh.s_deep ["thing"] := by delta L2.KOf; refine' Sh.def_mk KX G ?a ?l ?c ?k ?b; (case a => k_is); (case l => k_is); (case c => k_is); (case k => k_is); (case b => exact fun _ _ _ _ _ _ us hl => match us, hl with | [_], _ => rfl)
    have d_is_signs : Sh.DefAt (L2.KOf KX) mg "is_signs" Sh.s_is_signs ["thing"] := by delta L2.KOf; refine' Sh.def_mk KX G ?a ?l ?c ?k ?b; (case a => k_is); (case l => k_is); (case c => k_is); (case k => k_is); (case b => exact fun _ _ _ _ _ _ us hl => match us, hl with | [_], _ => rfl)
    have d_check_signs : Sh.DefAt (L2.KOf KX) mg "check_signs" Sh.s_check_signs ["thing"] := by delta L2.KOf; refine' Sh.def_mk KX G ?a ?l ?c ?k ?b; (case a => k_is); (case l => k_is); (case c => k_is); (case k => k_is); (case b => exact fun _ _ _ _ _ _ us hl => match us, hl with | [_], _ => rfl)
    have d_is_edge : Sh.DefAt (L2.KOf KX) mg "is_edge" Sh.s_is_edge ["signs", "many", "thing"] := by delta L2.KOf; refine' Sh.def_mk KX G ?a ?l ?c ?k ?b; (case a => k_is); (case l => k_is); (case c => k_is); (case k => k_is); (case b => exact fun _ _ _ _ _ _ us hl => match us, hl with | [_, _, _], _ => rfl)
    have d_check_automaton : Sh.DefAt (L2.KOf KX) mg "check_automaton" Sh.s_check_automaton ["signs", "thing"] := by delta L2.KOf; refine' Sh.def_mk KX G ?a ?l ?c ?k ?b; (case a => k_is); (case l => k_is); (case c => k_is); (case k => k_is); (case b => exact fun _ _ _ _ _ _ us hl => match us, hl with | [_, _], _ => rfl)
    have d_checked_automaton : Sh.DefAt (L2.KOf KX) mg "checked_automaton" Sh.s_checked_automaton ["signs", "thing"] := by delta L2.KOf; refine' Sh.def_mk KX G ?a ?l ?c ?k ?b; (case a => k_is); (case l => k_is); (case c => k_is); (case k => k_is); (case b => exact fun _ _ _ _ _ _ us hl => match us, hl with | [_, _], _ => rfl)
    have d__law_source : Sh.DefAt (L2.KOf KX) mg "_law_source" Sh.s__law_source ["_law_script", "_law_place_here"] := by delta L2.KOf; refine' Sh.def_mk KX G ?a ?l ?c ?k ?b; (case a => k_is); (case l => k_is); (case c => k_is); (case k => k_is); (case b => exact fun _ _ _ _ _ _ us hl => match us, hl with | [_, _], _ => rfl)
    have d__law_pick : Sh.DefAt (L2.KOf KX) mg "_law_pick" Sh.s__law_pick ["_law_source_here", "_law_many"] := by delta L2.KOf; refine' Sh.def_mk KX G ?a ?l ?c ?k ?b; (case a => k_is); (case l => k_is); (case c => k_is); (case k => k_is); (case b => exact fun _ _ _ _ _ _ us hl => match us, hl with | [_, _], _ => rfl)
    have d__law_signs : Sh.DefAt (L2.KOf KX) mg "_law_signs" Sh.s__law_signs ["_law_source_here"] := by delta L2.KOf; refine' Sh.def_mk KX G ?a ?l ?c ?k ?b; (case a => k_is); (case l => k_is); (case c => k_is); (case k => k_is); (case b => exact fun _ _ _ _ _ _ us hl => match us, hl with | [_], _ => rfl)
    have d__law_nfa : Sh.DefAt (L2.KOf KX) mg "_law_nfa" Sh.s__law_nfa ["_law_source_here", "_law_signs_here", "_law_most"] := by delta L2.KOf; refine' Sh.def_mk KX G ?a ?l ?c ?k ?b; (case a => k_is); (case l => k_is); (case c => k_is); (case k => k_is); (case b => exact fun _ _ _ _ _ _ us hl => match us, hl with | [_, _, _], _ => rfl)
    have d__law_listed : Sh.DefAt (L2.KOf KX) mg "_law_listed" Sh.s__law_listed ["_law_automaton"] := by delta L2.KOf; refine' Sh.def_mk KX G ?a ?l ?c ?k ?b; (case a => k_is); (case l => k_is); (case c => k_is); (case k => k_is); (case b => exact fun _ _ _ _ _ _ us hl => match us, hl with | [_], _ => rfl)
    have d__law_place : Sh.DefAt (L2.KOf KX) mg "_law_place" Sh.s__law_place ["_law_signs_here", "_law_thing"] := by delta L2.KOf; refine' Sh.def_mk KX G ?a ?l ?c ?k ?b; (case a => k_is); (case l => k_is); (case c => k_is); (case k => k_is); (case b => exact fun _ _ _ _ _ _ us hl => match us, hl with | [_, _], _ => rfl)
    have d__law_spoilt : Sh.DefAt (L2.KOf KX) mg "_law_spoilt" Sh.s__law_spoilt ["_law_source_here", "_law_signs_here", "_law_automaton"] := by delta L2.KOf; refine' Sh.def_mk KX G ?a ?l ?c ?k ?b; (case a => k_is); (case l => k_is); (case c => k_is); (case k => k_is); (case b => exact fun _ _ _ _ _ _ us hl => match us, hl with | [_, _, _], _ => rfl)
    have T0 : Sh.Txt (L2.KOf KX) mg := ⟨b_len, b_range, b_min, b_max, b_isinstance, b_abs, b_int, b_str, b_bool, b_tuple, b_list, b_repr, b_sorted, b_super, g_LETTERS, g_MOST_PASSED, g_MOST_EDGES, d_is_integer, d_is_listed, d_deep, d_is_signs, d_check_signs, d_is_edge, d_check_automaton, d_checked_automaton, d__law_source, d__law_pick, d__law_signs, d__law_nfa, d__law_listed, d__law_place, d__law_spoilt⟩
    obtain ⟨C0, T⟩ : ∃ C0 : Addr, Sh.TxtC (L2.KOf KX) mg C0 := ⟨0, ⟨T0⟩⟩
    obtain ⟨XA, FA, DI, XS, FS, DT, SE, T⟩ : ∃ XA FA DI XS FS DT SE : Addr, Sh.TxtX (PySem.Challenge.rw_shrunkalike_k01_automata_checked).prog (L2.KOf KX) mg C0 XA FA DI XS FS DT SE := by
      delta L2.KOf at T ⊢; refine' Sh.all_exc KX G T ?op ?a_BadAutomaton ?xl_BadAutomaton ?vb_BadAutomaton ?sa_BadAutomaton ?ga_BadAutomaton ?gg_BadAutomaton ?ic_BadAutomaton ?ti_BadAutomaton ?kc_BadAutomaton ?ex_BadAutomaton ?ty_BadAutomaton ?hd_BadAutomaton ?l_WrongItem ?c_WrongItem ?cl1_WrongItem ?cl2_WrongItem ?fv1_WrongItem ?fl_WrongItem ?cD_WrongItem ?top ?su_BadAutomaton ?sp_BadAutomaton ?ve_BadAutomaton ?nf_BadAutomaton_place ?a_BadSigns ?xl_BadSigns ?vb_BadSigns ?sa_BadSigns ?ga_BadSigns ?gg_BadSigns ?ic_BadSigns ?ti_BadSigns ?kc_BadSigns ?ex_BadSigns ?ty_BadSigns ?hd_BadSigns ?l_WrongThing ?c_WrongThing ?cl1_WrongThing ?cl2_WrongThing ?fv1_WrongThing ?fl_WrongThing ?cD_WrongThing ?su_BadSigns ?sp_BadSigns ?ve_BadSigns ?nf_BadSigns_thing ?h_BadAutomaton_BadAutomaton ?h_BadSigns_BadSigns ?cg_ ?ct_ ?co_BadAutomaton ?cm_o_BadAutomaton ?co_BadSigns ?cm_o_BadSigns ?ag_WrongItem ?hdb_WrongItem ?tyb_WrongItem ?ag_WrongThing ?hdb_WrongThing ?tyb_WrongThing ?ag_ShrunkError ?hdb_ShrunkError ?tyb_ShrunkError ?sb_BadAutomaton_WrongItem ?sb_BadAutomaton_ShrunkError ?sb_BadAutomaton_WrongThing ?sl_WrongThing ?sb_BadSigns_WrongThing ?sb_BadSigns_WrongItem ?sl_WrongItem
      (case op => k_is)
      (case a_BadAutomaton => k_is)
      (case xl_BadAutomaton => k_is)
      (case vb_BadAutomaton => first | rfl | decide +kernel)
      (case sa_BadAutomaton => k_is)
      (case ga_BadAutomaton => k_is)
      (case gg_BadAutomaton => k_is)
      (case ic_BadAutomaton => k_is)
      (case ti_BadAutomaton => k_is)
      (case kc_BadAutomaton => k_is)
      (case ex_BadAutomaton => k_is)
      (case ty_BadAutomaton => k_is)
      (case hd_BadAutomaton => k_is)
      (case l_WrongItem => k_is)
      (case c_WrongItem => k_is)
      (case cl1_WrongItem => k_is)
      (case cl2_WrongItem => k_is)
      (case fv1_WrongItem => rfl)
      (case fl_WrongItem => first | rfl | decide +kernel)
      (case cD_WrongItem => k_is)
      (case top => first | rfl | decide +kernel)
      (case su_BadAutomaton => k_is)
      (case sp_BadAutomaton => ks_is)
      (case ve_BadAutomaton => k_is)
      (case nf_BadAutomaton_place => k_is)
      (case a_BadSigns => k_is)
      (case xl_BadSigns => k_is)
      (case vb_BadSigns => first | rfl | decide +kernel)
      (case sa_BadSigns => k_is)
      (case ga_BadSigns => k_is)
      (case gg_BadSigns => k_is)
      (case ic_BadSigns => k_is)
      (case ti_BadSigns => k_is)
      (case kc_BadSigns => k_is)
      (case ex_BadSigns => k_is)
      (case ty_BadSigns => k_is)
      (case hd_BadSigns => k_is)
      (case l_WrongThing => k_is)
      (case c_WrongThing => k_is)
      (case cl1_WrongThing => k_is)
      (case cl2_WrongThing => k_is)
      (case fv1_WrongThing => rfl)
      (case fl_WrongThing => first | rfl | decide +kernel)
      (case cD_WrongThing => k_is)
      (case su_BadSigns => k_is)
      (case sp_BadSigns => ks_is)
      (case ve_BadSigns => k_is)
      (case nf_BadSigns_thing => k_is)
      (case h_BadAutomaton_BadAutomaton => first | rfl | k_is)
      (case h_BadSigns_BadSigns => first | rfl | k_is)
      (case cg_ => k_is)
      (case ct_ => k_is)
      (case co_BadAutomaton => k_is)
      (case cm_o_BadAutomaton => k_is)
      (case co_BadSigns => k_is)
      (case cm_o_BadSigns => k_is)
      (case ag_WrongItem => k_is)
      (case hdb_WrongItem => k_is)
      (case tyb_WrongItem => k_is)
      (case ag_WrongThing => k_is)
      (case hdb_WrongThing => k_is)
      (case tyb_WrongThing => k_is)
      (case ag_ShrunkError => k_is)
      (case hdb_ShrunkError => k_is)
      (case tyb_ShrunkError => k_is)
      (case sb_BadAutomaton_WrongItem => first | rfl | k_is)
      (case sb_BadAutomaton_ShrunkError => first | rfl | k_is)
      (case sb_BadAutomaton_WrongThing => first | rfl | k_is)
      (case sl_WrongThing => first | rfl | k_is)
      (case sb_BadSigns_WrongThing => first | rfl | k_is)
      (case sb_BadSigns_WrongItem => first | rfl | k_is)
      (case sl_WrongItem => first | rfl | k_is)
    obtain ⟨fd, Fn, bi⟩ : ∃ fd : FuncData, L2.Fun (L2.KOf KX) "law" "law" Sh.s_law fa fd ∧ ∀ (s : Shared) (u : Value), BindsTo s fd ⟨[u], []⟩ [("_law_script", u)] := by
      delta L2.KOf; refine' Sh.law_mk KX G hmg ?a ?l ?c ?k ?b; (case a => k_is); (case l => k_is); (case c => k_is); (case k => k_is); (case b => exact fun _ _ _ _ _ _ s u => .of_eq rfl)
    exact ⟨fd, Fn, bi, fun s1 a zs base H cdv hl hb hr hS => Sh.law_body T fa cdv callerA [] s1 H _ hr rfl a zs hS hb hl⟩
#print axioms PySem.Challenge.cw_shrunkalike_k01_automata_checked_holds
