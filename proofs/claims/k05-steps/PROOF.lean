import PyProof.Rows.All
import Wide.All
import OpenK.AllK
import Wide.FinOn
import HandS.ForMost
import HandS.Codes
import HandS.IsInst
import HandS.TupLe
import HandS.TupAny
import HandS.Deep
import HandS.Wide
import HandS.WideBits
import HandS.WideMore
import HandS.EndBits
import HandS.Star
import HandS.StrMore
import HandS.Walk
import PySem.Challenge.RW_shrunkalike_k05_steps
import PyProof.ReprRoads
import PyProof.Rows.Range3
import HandS.SortKw
import HandS.Keys
import HandS.Conv
import HandS.Property
import HandS.DictComp
import KE.KExcSuper
import HandS.ExcInit
import HandS.Nested
import HandS.WordsExc
import HandS.ExcField
import HandS.RaiseMore
import HandS.TryMany
import HandS.ExcIs
import KE.KExcIs
import KE.LtData
import PyProof.ReprLen
import HandS.Flow
import HandS.TupMul
set_option Elab.async false
set_option linter.all false
set_option maxRecDepth 100000
/-! My base over the hand layer: callables, heaps but for one object, the law's source of draws, the lacking rules -/
namespace Sh
open PySem PySem.Spec PyProof.Rows L2
open SX (S S_inj S_len S_cat)

/-- all that was tracked is as it was, but for the object at a -/
def But (a : Addr) (H H' : Hp) : Prop := ∀ b o, b ≠ a → H b = some o → H' b = some o
theorem But.refl (a : Addr) (H : Hp) : But a H H := fun _ _ _ h => h
theorem But.trans {a : Addr} {H H1 H2 : Hp} (x : But a H H1) (y : But a H1 H2) : But a H H2 := fun b o n h => y b o n (x b o n h)
theorem But.same {a : Addr} {H H1 : Hp} (x : Same H H1) : But a H H1 := fun b o _ h => x b o h
theorem same_new {H : Hp} {p : Addr} {o : HO} (h : H p = none) : Same H (upd H p o) := fun b u e => by
  rw [upd_ne (ne_of_none e h)]
  exact e
theorem but_upd {H : Hp} {p : Addr} {o : HO} : But p H (upd H p o) := fun b u n e => by
  rw [upd_ne n]
  exact e
/-- a fresh object may change -/
theorem same_mut {H H1 : Hp} {p : Addr} {o : HO} (s : Same H H1) (h : H p = none) : Same H (upd H1 p o) := fun b u e => by
  rw [upd_ne (ne_of_none e h)]
  exact s b u e
theorem but_mut {a : Addr} {H H1 : Hp} {p : Addr} {o : HO} (s : But a H H1) (h : H p = none) : But a H (upd H1 p o) := fun b u n e => by
  rw [upd_ne (ne_of_none e h)]
  exact s b u n e
theorem But.none_of {a : Addr} {H H1 : Hp} (s : But a H H1) {p : Addr} (n : p ≠ a) (h : H1 p = none) : H p = none := by
  cases e : H p with
  | none => rfl
  | some o => rw [s p o n e] at h; cases h

/-- the law's source of draws: a list of three ints -/
def Src (H : Hp) (a : Addr) : Prop := ∃ d s c : Int, H a = some (.lst [.int d, .int s, .int c])

/-- a def that may be called by its name -/
structure Cal (P : Program) (w : World) (K : PySem.W.Frag) (mg : Str → Option Value) (base : Heap) (CX : CXT) (k : Nat) (x : Str) (sp : Sp) : Prop where
  ex : ∃ (f : Addr) (fd : FuncData) (ps : List Str), FnOk P w K mg base CX k f fd ps sp ∧ mg x = some (.ref f) ∧ PySem.W.keepIn K (.ref f) = true ∧ Binds K fd ps []
/-- a def of the text under its name, its parameters bound by place -/
structure DefAt (K : PySem.W.Frag) (mg : Str → Option Value) (x : Str) (st : Stmt) (ps : List Str) : Prop where
  ex : ∃ (f : Addr) (fd : FuncData), L2.Fun K x x st f fd ∧ mg x = some (.ref f) ∧ Binds K fd ps []
section
variable {P : Program} {w : World} {K : PySem.W.Frag} {mg : Str → Option Value} {base : Heap}
theorem Cal.mk0 {x : Str} {st : Stmt} {N ps : List Str} {k : Nat} {sp : Sp} (D : DefAt K mg x st ps) (S : FnScope N ps (defScope st)) (len : ∀ vs H Q E, sp vs H Q E → vs.length = ps.length)
    (hbody : ∀ (f : Addr) (cdv : Value) (A : Around) (outer : List Env) (s : Shared) (H : Hp) (vs : List V) (Q : VK) (E : XK), Room k (A.deeper (envOfC x (defScope st) s.heap.objs.size f cdv)) → sp vs H Q E →
      ∃ t, PSs (cxOf CX0 P w K mg base N x (defScope st) f cdv A outer s H E).nox (defBody st) t ∧ t { nx := fun _ H' => Q .non H', rt := Q } (start N vs) H) : Cal P w K mg base CX0 (k + 1) x sp := by
  obtain ⟨f, fd, F, m, b⟩ := D.ex
  exact ⟨f, fd, ps, F.ok S len (hbody f), m, F.kp, b⟩
end
section
variable {X : Cx} {k j : Nat} {x : Str} {sp : Sp} {p pos : Pos} {e : Expr} {es : List Expr} {t : TA}
theorem pe_c (c : Cal X.prog X.w X.K X.mg X.base CX0 k x sp) (hr : Room j X.A) (hk : k ≤ j) (hg : Gl X x) (ha : PA X (e :: es) t)
    (hdb : (x == ("__debug__" : Str)) = false := by decide) (he : starEach (e :: es) X.env = (false, eval e X.env) :: starEach es X.env := by rfl) (hpl : (backTo pos (starEach es X.env)).any (·.1) = false := by rfl) :
    PE X (.Call (.Name x p) (e :: es) [] pos) (tCall sp [] E0 t) := by
  obtain ⟨f, fd, ps, F, hm, kp, b⟩ := c.ex
  exact pe_call F (hr.mono hk) hg hm kp b .nil pass0 ha hdb he hpl
end

/-! ### walks by what has been taken -/
section
variable {J : It} {G : Hp → Prop} {Y : Nat → Hp → V → Hp → Prop} {α : Type}
theorem take_succ_of {l : List α} {i : Nat} {a : α} (h : l[i]? = some a) : l.take (i + 1) = l.take i ++ [a] ∧ l = l.take i ++ a :: l.drop (i + 1) := by
  obtain ⟨hi, rfl⟩ := List.getElem?_eq_some_iff.mp h
  refine ⟨?_, ?_⟩
  · rw [List.take_succ, h]; rfl
  · rw [← List.drop_eq_getElem_cons hi, List.take_append_drop]
/-- a for over l: Pv by the part that was taken -/
theorem for_pre {l : List α} (w : Walk J l.length G Y) (Rel : α → V → Hp → Prop) (hY : ∀ i H x H', i < l.length → G H → Y i H x H' → H' = H ∧ ∃ a, l[i]? = some a ∧ Rel a x H) {g : TG} {tb : TS} {D : Ends} {σ : L2.St} {H : Hp}
    (Pv : List α → L2.St → Hp → Prop) (h0 : Pv [] σ H) (hG : ∀ pre σ H, Pv pre σ H → G H)
    (hs : ∀ pre a post x σ H, l = pre ++ a :: post → Rel a x H → Pv pre σ H → g x σ H fun σ2 H2 => tb { D with nx := Pv (pre ++ [a]), ct := Pv (pre ++ [a]), bk := D.nx } σ2 H2) (hd : ∀ σ H, Pv l σ H → D.nx σ H) :
    ∃ W : Nat → Nat → L2.St → Hp → Prop, (∃ m, W 0 m σ H) ∧ ∀ i m σ H, W i m σ H →
      (J.stop i H ∧ D.nx σ H) ∨ (J.go i H ∧ ∃ N : L2.St → Hp → Prop, (∀ σ' H', N σ' H' → ∃ m', m' < m ∧ W (i + 1) m' σ' H') ∧ ∀ x H', J.yld i H x H' → g x σ H' fun σ2 H2 => tb { D with nx := N, ct := N, bk := D.nx } σ2 H2) := by
  refine for_it w (fun i σ H => Pv (l.take i) σ H) (by simpa using h0) (fun i σ H _ p => hG _ σ H p) (fun i x σ H H' hi p y => ?_) (fun σ H p => hd σ H (by simpa using p))
  obtain ⟨rfl, a, ha, r⟩ := hY i H x H' hi (hG _ _ _ p) y
  obtain ⟨e1, e2⟩ := take_succ_of ha
  have q := hs _ a _ x σ H' e2 r p
  rw [← e1] at q
  exact q
/-- a comprehension over l -/
theorem lc_pre {l : List α} (w : Walk J l.length G Y) (Rel : α → V → Hp → Prop) (hY : ∀ i H x H', i < l.length → G H → Y i H x H' → H' = H ∧ ∃ a, l[i]? = some a ∧ Rel a x H) {g : TG} {tt : TT} {te : TE} {vs : List Nat} {σ : L2.St} {H1 : Hp} {D : Addr} {Qd : Hp → Prop}
    (Pv : List α → Hp → Prop) (h0 : Pv [] (upd H1 D (.lst []))) (hG : ∀ pre H, Pv pre H → G H)
    (hs : ∀ pre a post x H, l = pre ++ a :: post → Rel a x H → Pv pre H → g x (wipe σ vs) H fun σ2 H2 => wipe σ2 vs = wipe σ vs ∧ tt σ2 H2 fun b H3 =>
      if b = true then te σ2 H3 fun y H4 => ∃ acc, H4 D = some (.lst acc) ∧ acc.length < sizeLine ∧ Pv (pre ++ [a]) (upd H4 D (.lst (acc ++ [y]))) else Pv (pre ++ [a]) H3) (hd : ∀ H, Pv l H → Qd H) :
    ∃ W : Nat → Nat → Hp → Prop, (∃ m, W 0 m (upd H1 D (.lst []))) ∧ ∀ i m H, W i m H →
      (J.stop i H ∧ Qd H) ∨ (J.go i H ∧ ∃ Nx : Hp → Prop, (∀ H', Nx H' → ∃ m', m' < m ∧ W (i + 1) m' H') ∧ ∀ x H', J.yld i H x H' → g x (wipe σ vs) H' fun σ2 H2 => wipe σ2 vs = wipe σ vs ∧ tt σ2 H2 fun b H3 =>
        if b = true then te σ2 H3 fun y H4 => ∃ acc, H4 D = some (.lst acc) ∧ acc.length < sizeLine ∧ Nx (upd H4 D (.lst (acc ++ [y]))) else Nx H3) := by
  refine lc_it w (fun i H => Pv (l.take i) H) (by simpa using h0) (fun i H _ p => hG _ H p) (fun i x H H' hi p y => ?_) (fun H p => hd H (by simpa using p))
  obtain ⟨rfl, a, ha, r⟩ := hY i H x H' hi (hG _ _ p) y
  obtain ⟨e1, e2⟩ := take_succ_of ha
  have q := hs _ a _ x H' e2 r p
  rw [← e1] at q
  exact q
theorem yStr {l : List Nat} : ∀ (i : Nat) (H : Hp) (x : V) (H' : Hp), i < l.length → True → (H' = H ∧ ∃ c, (S l).cps[i]? = some c ∧ x = V.str ⟨#[c]⟩) → H' = H ∧ ∃ a, l[i]? = some a ∧ x = V.str (S [a]) := by
  rintro i H x H' _ _ ⟨rfl, c, hc, rfl⟩
  exact ⟨rfl, c, by simpa using hc, rfl⟩
theorem wStr {l : List Nat} : Walk (Its (S l)) l.length (fun _ => True) (fun i H v H' => H' = H ∧ ∃ c, (S l).cps[i]? = some c ∧ v = .str ⟨#[c]⟩) := by
  have h := walk_str (z := S l)
  simpa using h
end
/-! ### data of None, bools, ints, texts and tuples -/
mutual
inductive Tp (K : PySem.W.Frag) (H : Hp) : V → PyData → Prop
  | non : Tp K H .non .none
  | bl (b : Bool) : Tp K H (.bl b) (.bool b)
  | int (i : Int) : Tp K H (.int i) (.int i)
  | str (x : Str) : Tp K H (.str x) (.str x)
  | tup {a : Addr} {xs : List V} {ds : List PyData} : SqT K H a xs → TpAll K H xs ds → Tp K H (.ref a) (.tuple ds)
inductive TpAll (K : PySem.W.Frag) (H : Hp) : List V → List PyData → Prop
  | nil : TpAll K H [] []
  | cons {v : V} {vs : List V} {d : PyData} {ds : List PyData} : Tp K H v d → TpAll K H vs ds → TpAll K H (v :: vs) (d :: ds)
end
/-- what was a tuple is one -/
def Keep (H H' : Hp) : Prop := ∀ b xs, Rd H b (.tup xs) → Rd H' b (.tup xs)
theorem Keep.refl (H : Hp) : Keep H H := fun _ _ h => h
theorem Keep.trans {H H1 H2 : Hp} (a : Keep H H1) (b : Keep H1 H2) : Keep H H2 := fun x y h => b x y (a x y h)
theorem Keep.same {H H' : Hp} (s : Same H H') : Keep H H' := fun b xs h => by
  rcases h with h | ⟨o, h⟩
  · exact .inl (s _ _ h)
  · exact .inr ⟨o, s _ _ h⟩
theorem Keep.but {H H' : Hp} {a : Addr} (s : But a H H') (z : Src H a) : Keep H H' := fun b xs h => by
  obtain ⟨d, e, c, z⟩ := z
  rcases h with h | ⟨o, h⟩
  · exact .inl (s _ _ (ne_of h z (by intro q; cases q)) h)
  · exact .inr ⟨o, s _ _ (ne_of h z (by intro q; cases q)) h⟩
theorem Keep.butL {H H' : Hp} {a : Addr} {ys : List V} (s : But a H H') (z : H a = some (.lst ys)) : Keep H H' := fun b xs h => by
  rcases h with h | ⟨o, h⟩
  · exact .inl (s _ _ (ne_of h z (by intro q; cases q)) h)
  · exact .inr ⟨o, s _ _ (ne_of h z (by intro q; cases q)) h⟩
theorem Keep.seq {K : PySem.W.Frag} {H H' : Hp} {a : Addr} {xs : List V} (k : Keep H H') (h : SqT K H a xs) : SqT K H' a xs := by
  rcases h with h | h
  · exact .inl (k _ _ h)
  · exact .inr h
mutual
theorem Tp.keep {K : PySem.W.Frag} {H H' : Hp} (k : Keep H H') : ∀ {v : V} {d : PyData}, Tp K H v d → Tp K H' v d
  | _, _, .non => .non
  | _, _, .bl b => .bl b
  | _, _, .int i => .int i
  | _, _, .str x => .str x
  | _, _, .tup h t => .tup (k.seq h) (TpAll.keep k t)
theorem TpAll.keep {K : PySem.W.Frag} {H H' : Hp} (k : Keep H H') : ∀ {vs : List V} {ds : List PyData}, TpAll K H vs ds → TpAll K H' vs ds
  | _, _, .nil => .nil
  | _, _, .cons h t => .cons (Tp.keep k h) (TpAll.keep k t)
end
mutual
theorem Tp.dp {K : PySem.W.Frag} {H : Hp} : ∀ {v : V} {d : PyData}, Tp K H v d → Dp K H v d
  | _, _, .non => .non
  | _, _, .bl b => .bl b
  | _, _, .int i => .int i
  | _, _, .str x => .str x
  | _, _, .tup h t => .tup h (TpAll.dp t)
theorem TpAll.dp {K : PySem.W.Frag} {H : Hp} : ∀ {vs : List V} {ds : List PyData}, TpAll K H vs ds → DpAll K H vs ds
  | _, _, .nil => .nil
  | _, _, .cons h t => .cons (Tp.dp h) (TpAll.dp t)
end
section
variable {K : PySem.W.Frag} {H : Hp} {v : V} {d : PyData} {vs ws : List V} {ds es : List PyData}
theorem Tp.inv (h : Tp K H v (.tuple ds)) : ∃ a xs, v = .ref a ∧ SqT K H a xs ∧ TpAll K H xs ds := by
  cases h with
  | tup h t => exact ⟨_, _, rfl, h, t⟩
theorem TpAll.len : ∀ {vs : List V} {ds : List PyData}, TpAll K H vs ds → vs.length = ds.length
  | _, _, .nil => rfl
  | _, _, .cons _ t => congrArg (· + 1) (TpAll.len t)
theorem TpAll.get : ∀ {vs : List V} {ds : List PyData}, TpAll K H vs ds → ∀ {i : Nat} {d : PyData}, ds[i]? = some d → ∃ v, vs[i]? = some v ∧ Tp K H v d
  | _, _, .nil, _, _, e => by simp at e
  | _, _, .cons h _, 0, _, e => by simp at e; subst e; exact ⟨_, rfl, h⟩
  | _, _, .cons _ t, i + 1, d, e => by
    obtain ⟨v, h1, h2⟩ := TpAll.get t (i := i) (d := d) (by simpa using e)
    exact ⟨v, by simpa using h1, h2⟩
theorem TpAll.getV : ∀ {vs : List V} {ds : List PyData}, TpAll K H vs ds → ∀ {i : Nat} {v : V}, vs[i]? = some v → ∃ d, ds[i]? = some d ∧ Tp K H v d
  | _, _, .nil, _, _, e => by simp at e
  | _, _, .cons h _, 0, _, e => by simp at e; subst e; exact ⟨_, rfl, h⟩
  | _, _, .cons _ t, i + 1, v, e => by
    obtain ⟨d, h1, h2⟩ := TpAll.getV t (i := i) (v := v) (by simpa using e)
    exact ⟨d, by simpa using h1, h2⟩
theorem TpAll.app (h : TpAll K H vs ds) (k : TpAll K H ws es) : TpAll K H (vs ++ ws) (ds ++ es) := by
  induction h using TpAll.rec (motive_1 := fun _ _ _ => True) with
  | nil => exact k
  | cons a _ _ ih => exact .cons a ih
  | _ => trivial
end
end Sh
namespace Sh
open PySem PySem.Spec PyProof.Rows L2
theorem pe_gK {X : Cx} {x : Str} {pos : Pos} {v : V} (hg : Gl X x) (h : ∃ u, X.mg x = some u ∧ RelV v u) (hd : (x == ("__debug__" : Str)) = false := by decide) : PE X (.Name x pos) (tC v) := by
  obtain ⟨u, hu, r⟩ := h
  exact pe_glob hg hu r hd
end Sh
namespace Sh
open PySem PySem.Spec PyProof.Rows L2
/-- the ways through an assignment's expression meet in P -/
theorem st_asgJ {te : TE} {g : TG} {u : TS} {D : Ends} {σ : L2.St} {H : Hp} (P : V → Hp → Prop) (h : ∀ Q : VK, (∀ v H', P v H' → Q v H') → te σ H Q) (k : ∀ v H', P v H' → g v σ H' (u D)) : tSeq (tAsg te g) u D σ H := h _ k
/-- the ways through an if meet in P -/
theorem st_ifJ {c : TT} {t v u : TS} {D : Ends} {σ : L2.St} {H : Hp} (P : L2.St → Hp → Prop) (h : ∀ N : L2.St → Hp → Prop, (∀ σ' H', P σ' H' → N σ' H') → tIfS c t v { D with nx := N } σ H) (k : ∀ σ' H', P σ' H' → u D σ' H') : tSeq (tIfS c t v) u D σ H := h _ k
/-- any statement's ways meet in P -/
theorem st_J {t u : TS} {D : Ends} {σ : L2.St} {H : Hp} (P : L2.St → Hp → Prop) (h : ∀ N : L2.St → Hp → Prop, (∀ σ' H', P σ' H' → N σ' H') → t { D with nx := N } σ H) (k : ∀ σ' H', P σ' H' → u D σ' H') : tSeq t u D σ H := h _ k
/-- the ways through an expression meet in P -/
theorem ev_J {te : TE} {σ : L2.St} {H : Hp} {Q : VK} (P : V → Hp → Prop) (h : ∀ Q : VK, (∀ v H', P v H' → Q v H') → te σ H Q) (k : ∀ v H', P v H' → Q v H') : te σ H Q := h _ k
theorem tt_J {te : TT} {σ : L2.St} {H : Hp} {Q : Bool → Hp → Prop} (P : Bool → Hp → Prop) (h : ∀ Q : Bool → Hp → Prop, (∀ v H', P v H' → Q v H') → te σ H Q) (k : ∀ v H', P v H' → Q v H') : te σ H Q := h _ k
end Sh
namespace Sh
open PySem PySem.Spec PyProof.Rows L2
theorem atI_at {α : Type} {xs : List α} {i : Int} {v : α} (h0 : 0 ≤ i) (h : xs[i.toNat]? = some v) : atI xs i = some v := by
  have := atI_nat h
  rwa [Int.toNat_of_nonneg h0] at this
theorem rList {α : Type} {f : α → V} {l : List α} : ∀ (i : Nat) (H : Hp) (x : V) (H' : Hp), i < l.length → True → (YAt (l.map f) i H x H') → H' = H ∧ ∃ a, l[i]? = some a ∧ x = f a := by
  rintro i H x H' hi _ ⟨rfl, h⟩
  refine ⟨rfl, l[i], by simp [hi], ?_⟩
  rw [List.getElem?_map, List.getElem?_eq_getElem hi] at h
  exact (Option.some.inj h).symm
/-- a for over a list of l's values -/
theorem for_lst {α : Type} {f : α → V} {l : List α} {K : PySem.W.Frag} {a : Addr} {g : TG} {tb : TS} {D : Ends} {σ : L2.St} {H : Hp}
    (Pv : List α → L2.St → Hp → Prop) (h0 : Pv [] σ H) (hG : ∀ pre σ H, Pv pre σ H → SqL K H a (l.map f))
    (hs : ∀ pre x post σ H, l = pre ++ x :: post → Pv pre σ H → g (f x) σ H fun σ2 H2 => tb { D with nx := Pv (pre ++ [x]), ct := Pv (pre ++ [x]), bk := D.nx } σ2 H2) (hd : ∀ σ H, Pv l σ H → D.nx σ H) :
    ∃ W : Nat → Nat → L2.St → Hp → Prop, (∃ m, W 0 m σ H) ∧ ∀ i m σ H, W i m σ H →
      ((Itl K a).stop i H ∧ D.nx σ H) ∨ ((Itl K a).go i H ∧ ∃ N : L2.St → Hp → Prop, (∀ σ' H', N σ' H' → ∃ m', m' < m ∧ W (i + 1) m' σ' H') ∧ ∀ x H', (Itl K a).yld i H x H' → g x σ H' fun σ2 H2 => tb { D with nx := N, ct := N, bk := D.nx } σ2 H2) := by
  have w := walk_list (K := K) (a := a) (xs := l.map f)
  rw [List.length_map] at w
  refine for_pre w (fun x v _ => v = f x) (fun i H x H' hi _ y => rList i H x H' hi trivial y) Pv h0 hG (fun pre x post v σ H e r p => ?_) hd
  subst r
  exact hs pre x post σ H e p
/-- a for over a text's signs -/
theorem for_str {l : List Nat} {g : TG} {tb : TS} {D : Ends} {σ : L2.St} {H : Hp}
    (Pv : List Nat → L2.St → Hp → Prop) (h0 : Pv [] σ H)
    (hs : ∀ pre x post σ H, l = pre ++ x :: post → Pv pre σ H → g (.str (SX.S [x])) σ H fun σ2 H2 => tb { D with nx := Pv (pre ++ [x]), ct := Pv (pre ++ [x]), bk := D.nx } σ2 H2) (hd : ∀ σ H, Pv l σ H → D.nx σ H) :
    ∃ W : Nat → Nat → L2.St → Hp → Prop, (∃ m, W 0 m σ H) ∧ ∀ i m σ H, W i m σ H →
      ((Its (SX.S l)).stop i H ∧ D.nx σ H) ∨ ((Its (SX.S l)).go i H ∧ ∃ N : L2.St → Hp → Prop, (∀ σ' H', N σ' H' → ∃ m', m' < m ∧ W (i + 1) m' σ' H') ∧ ∀ x H', (Its (SX.S l)).yld i H x H' → g x σ H' fun σ2 H2 => tb { D with nx := N, ct := N, bk := D.nx } σ2 H2) := by
  refine for_pre wStr (fun x v _ => v = .str (SX.S [x])) (fun i H x H' hi _ y => yStr i H x H' hi trivial y) Pv h0 (fun _ _ _ _ => trivial) (fun pre x post v σ H e r p => ?_) hd
  subst r
  exact hs pre x post σ H e p
/-- tuples whose items are told by l -/
theorem for_tupR {α : Type} {Rel : Hp → V → α → Prop} {l : List α} {xs : List V} {K : PySem.W.Frag} {a : Addr} {g : TG} {tb : TS} {D : Ends} {σ : L2.St} {H : Hp} (hlen : xs.length = l.length)
    (Pv : List α → L2.St → Hp → Prop) (h0 : Pv [] σ H) (hG : ∀ pre σ H, Pv pre σ H → SqT K H a xs ∧ ∀ (i : Nat) x y, xs[i]? = some x → l[i]? = some y → Rel H x y)
    (hs : ∀ pre y post x σ H, l = pre ++ y :: post → xs[pre.length]? = some x → Rel H x y → Pv pre σ H → g x σ H fun σ2 H2 => tb { D with nx := Pv (pre ++ [y]), ct := Pv (pre ++ [y]), bk := D.nx } σ2 H2) (hd : ∀ σ H, Pv l σ H → D.nx σ H) :
    ∃ W : Nat → Nat → L2.St → Hp → Prop, (∃ m, W 0 m σ H) ∧ ∀ i m σ H, W i m σ H →
      ((Itt K a).stop i H ∧ D.nx σ H) ∨ ((Itt K a).go i H ∧ ∃ N : L2.St → Hp → Prop, (∀ σ' H', N σ' H' → ∃ m', m' < m ∧ W (i + 1) m' σ' H') ∧ ∀ x H', (Itt K a).yld i H x H' → g x σ H' fun σ2 H2 => tb { D with nx := N, ct := N, bk := D.nx } σ2 H2) := by
  have w := walk_tup (K := K) (a := a) (xs := xs)
  refine for_it w (fun i σ H => Pv (l.take i) σ H) (by simpa using h0) (fun i σ H _ p => (hG _ σ H p).1) (fun i x σ H H' hi p y => ?_) (fun σ H p => hd σ H (by simpa [hlen] using p))
  obtain ⟨rfl, hx⟩ := y
  have hi' : i < l.length := hlen ▸ hi
  have hl : l[i]? = some l[i] := by simp [hi']
  obtain ⟨e1, e2⟩ := take_succ_of hl
  have q := hs _ l[i] _ x σ H' e2 (by rw [List.length_take, Nat.min_eq_left (Nat.le_of_lt hi')]; exact hx) ((hG _ σ H' p).2 i x l[i] hx hl) p
  rw [← e1] at q
  exact q
end Sh
namespace Sh
open PySem PySem.Spec PyProof.Rows L2
theorem st_nx {D : Ends} {σ : L2.St} {H : Hp} (q : D.nx σ H) : tNext D σ H := q
end Sh
namespace Sh
open PySem PySem.Spec PyProof.Rows L2
theorem nx_mk {a c d : L2.St → Hp → Prop} {b : VK} {σ : L2.St} {H : Hp} (h : a σ H) : (Ends.mk a b c d).nx σ H := h
theorem rt_mk {a c d : L2.St → Hp → Prop} {b : VK} {v : V} {H : Hp} (h : b v H) : (Ends.mk a b c d).rt v H := h
theorem bk_mk {a c d : L2.St → Hp → Prop} {b : VK} {σ : L2.St} {H : Hp} (h : c σ H) : (Ends.mk a b c d).bk σ H := h
theorem ct_mk {a c d : L2.St → Hp → Prop} {b : VK} {σ : L2.St} {H : Hp} (h : d σ H) : (Ends.mk a b c d).ct σ H := h
end Sh
namespace Sh
open PySem PySem.Spec PyProof.Rows L2
theorem gn_mk {i : Nat} {v : V} {σ : L2.St} {H : Hp} {Q : L2.St → Hp → Prop} (h : Q (σ.set i (some v)) H) : gName i v σ H Q := h
theorem sz_S {t : List Nat} (h : t.length ≤ 1000000) : (SX.S t).length ≤ sizeLine := by
  rw [SX.S_len]
  exact Nat.le_trans h (by decide)
end Sh
namespace Sh
open PySem PySem.Spec PyProof.Rows L2
theorem ty_T {A B : Hp → Prop} {σ : L2.St} {H : Hp} (h : A H) : tYes σ H (fun b H3 => if b = true then A H3 else B H3) := h
end Sh
namespace Sh
open PySem PySem.Spec PyProof.Rows L2
/-- a comprehension over a tuple whose items are told by l -/
theorem lc_tupR {α : Type} {Rel : Hp → V → α → Prop} {l : List α} {xs : List V} {K : PySem.W.Frag} {a : Addr} {g : TG} {tt : TT} {te : TE} {vs : List Nat} {σ : L2.St} {H1 : Hp} {D : Addr} {Qd : Hp → Prop} (hlen : xs.length = l.length)
    (Pv : List α → Hp → Prop) (h0 : Pv [] (upd H1 D (.lst []))) (hG : ∀ pre H, Pv pre H → SqT K H a xs ∧ ∀ (i : Nat) x y, xs[i]? = some x → l[i]? = some y → Rel H x y)
    (hs : ∀ pre y post x H, l = pre ++ y :: post → xs[pre.length]? = some x → Rel H x y → Pv pre H → g x (wipe σ vs) H fun σ2 H2 => wipe σ2 vs = wipe σ vs ∧ tt σ2 H2 fun b H3 =>
      if b = true then te σ2 H3 fun y' H4 => ∃ acc, H4 D = some (.lst acc) ∧ acc.length < sizeLine ∧ Pv (pre ++ [y]) (upd H4 D (.lst (acc ++ [y']))) else Pv (pre ++ [y]) H3) (hd : ∀ H, Pv l H → Qd H) :
    ∃ W : Nat → Nat → Hp → Prop, (∃ m, W 0 m (upd H1 D (.lst []))) ∧ ∀ i m H, W i m H →
      ((Itt K a).stop i H ∧ Qd H) ∨ ((Itt K a).go i H ∧ ∃ Nx : Hp → Prop, (∀ H', Nx H' → ∃ m', m' < m ∧ W (i + 1) m' H') ∧ ∀ x H', (Itt K a).yld i H x H' → g x (wipe σ vs) H' fun σ2 H2 => wipe σ2 vs = wipe σ vs ∧ tt σ2 H2 fun b H3 =>
        if b = true then te σ2 H3 fun y H4 => ∃ acc, H4 D = some (.lst acc) ∧ acc.length < sizeLine ∧ Nx (upd H4 D (.lst (acc ++ [y]))) else Nx H3) := by
  have w := walk_tup (K := K) (a := a) (xs := xs)
  refine lc_it w (fun i H => Pv (l.take i) H) (by simpa using h0) (fun i H _ p => (hG _ H p).1) (fun i x H H' hi p y => ?_) (fun H p => hd H (by simpa [hlen] using p))
  obtain ⟨rfl, hx⟩ := y
  have hi' : i < l.length := hlen ▸ hi
  have hl : l[i]? = some l[i] := by simp [hi']
  obtain ⟨e1, e2⟩ := take_succ_of hl
  have q := hs _ l[i] _ x H' e2 (by rw [List.length_take, Nat.min_eq_left (Nat.le_of_lt hi')]; exact hx) ((hG _ H' p).2 i x l[i] hx hl) p
  rw [← e1] at q
  exact q
end Sh
namespace Sh
open PySem PySem.Spec PyProof.Rows L2
section
variable {X : Cx} {s : Shared} {H : Hp} {sc : Scope} {ce : Env} {fp : List Addr}
theorem ix_tupB : IxR (X.blk s H sc ce fp) (rIxT X.K) := ix_tup
theorem ix_listB : IxR (X.blk s H sc ce fp) (rIxL X.K) := ix_list
theorem sl_tupAB : SlR (X.blk s H sc ce fp) (rSlA X.K) := sl_tupA
theorem sl_listB : SlR (X.blk s H sc ce fp) (rSlL X.K) := sl_list
theorem call_len_seqB : CallR (X.blk s H sc ce fp) (.builtin "len") (fun xs H Q => ∃ p ys, xs = [.ref p] ∧ (SqL X.K H p ys ∨ SqT X.K H p ys) ∧ Q (.int ys.length) H) := call_len_seq
theorem call_list_ofB : CallR (X.blk s H sc ce fp) (.type "list") (fun xs H Q => ∃ p ys, xs = [.ref p] ∧ (SqL X.K H p ys ∨ SqT X.K H p ys) ∧ ∀ l, H l = none → Q (.ref l) (upd H l (.lst ys))) := call_list_of
end
end Sh
namespace Sh
open PySem PySem.Spec PyProof.Rows L2
/-- the values xs tell the list l -/
def Items {α : Type} (Rel : Hp → V → α → Prop) (H : Hp) (xs : List V) (l : List α) : Prop := xs.length = l.length ∧ ∀ (i : Nat) x y, xs[i]? = some x → l[i]? = some y → Rel H x y
section
variable {α : Type} {Rel : Hp → V → α → Prop} {H H' : Hp} {xs : List V} {l : List α}
theorem Items.nil : Items Rel H [] [] := ⟨rfl, fun i x y h _ => by simp at h⟩
theorem Items.mono (h : Items Rel H xs l) (m : ∀ x y, Rel H x y → Rel H' x y) : Items Rel H' xs l := ⟨h.1, fun i x y h1 h2 => m x y (h.2 i x y h1 h2)⟩
theorem Items.snoc (h : Items Rel H xs l) (m : ∀ x y, Rel H x y → Rel H' x y) {x : V} {y : α} (r : Rel H' x y) : Items Rel H' (xs ++ [x]) (l ++ [y]) := by
  refine ⟨by simp [h.1], fun i a b h1 h2 => ?_⟩
  rcases Nat.lt_or_ge i xs.length with q | q
  · rw [List.getElem?_append_left q] at h1
    rw [List.getElem?_append_left (h.1 ▸ q)] at h2
    exact m a b (h.2 i a b h1 h2)
  · rw [List.getElem?_append_right q] at h1
    rw [List.getElem?_append_right (h.1 ▸ q)] at h2
    have e : i - xs.length = i - l.length := by rw [h.1]
    rcases Nat.eq_zero_or_pos (i - xs.length) with z | z
    · rw [z] at h1
      rw [← e, z] at h2
      simp at h1 h2
      subst h1; subst h2
      exact r
    · rw [List.getElem?_eq_none (by simp; omega)] at h1
      cases h1
theorem Items.get (h : Items Rel H xs l) {i : Nat} {y : α} (hy : l[i]? = some y) : ∃ x, xs[i]? = some x ∧ Rel H x y := by
  obtain ⟨hi, _⟩ := List.getElem?_eq_some_iff.mp hy
  have hi2 : i < xs.length := by rw [h.1]; exact hi
  exact ⟨xs[i], List.getElem?_eq_getElem hi2, h.2 i _ y (List.getElem?_eq_getElem hi2) hy⟩
end
/-- a for over a list whose items are told by l -/
theorem for_lstR {α : Type} {Rel : Hp → V → α → Prop} {l : List α} {xs : List V} {K : PySem.W.Frag} {a : Addr} {g : TG} {tb : TS} {D : Ends} {σ : L2.St} {H : Hp} (hlen : xs.length = l.length)
    (Pv : List α → L2.St → Hp → Prop) (h0 : Pv [] σ H) (hG : ∀ pre σ H, Pv pre σ H → SqL K H a xs ∧ ∀ (i : Nat) x y, xs[i]? = some x → l[i]? = some y → Rel H x y)
    (hs : ∀ pre y post x σ H, l = pre ++ y :: post → xs[pre.length]? = some x → Rel H x y → Pv pre σ H → g x σ H fun σ2 H2 => tb { D with nx := Pv (pre ++ [y]), ct := Pv (pre ++ [y]), bk := D.nx } σ2 H2) (hd : ∀ σ H, Pv l σ H → D.nx σ H) :
    ∃ W : Nat → Nat → L2.St → Hp → Prop, (∃ m, W 0 m σ H) ∧ ∀ i m σ H, W i m σ H →
      ((Itl K a).stop i H ∧ D.nx σ H) ∨ ((Itl K a).go i H ∧ ∃ N : L2.St → Hp → Prop, (∀ σ' H', N σ' H' → ∃ m', m' < m ∧ W (i + 1) m' σ' H') ∧ ∀ x H', (Itl K a).yld i H x H' → g x σ H' fun σ2 H2 => tb { D with nx := N, ct := N, bk := D.nx } σ2 H2) := by
  have w := walk_list (K := K) (a := a) (xs := xs)
  refine for_it w (fun i σ H => Pv (l.take i) σ H) (by simpa using h0) (fun i σ H _ p => (hG _ σ H p).1) (fun i x σ H H' hi p y => ?_) (fun σ H p => hd σ H (by simpa [hlen] using p))
  obtain ⟨rfl, hx⟩ := y
  have hi' : i < l.length := hlen ▸ hi
  have hl : l[i]? = some l[i] := by simp [hi']
  obtain ⟨e1, e2⟩ := take_succ_of hl
  have q := hs _ l[i] _ x σ H' e2 (by rw [List.length_take, Nat.min_eq_left (Nat.le_of_lt hi')]; exact hx) ((hG _ σ H' p).2 i x l[i] hx hl) p
  rw [← e1] at q
  exact q
end Sh
namespace Sh
open PySem PySem.Spec PyProof.Rows L2
/-- an if whose test is known -/
theorem st_ifK {c : TT} {t u v : TS} {D : Ends} {σ : L2.St} {H : Hp} (b : Bool) (h : ∀ Q : Bool → Hp → Prop, Q b H → c σ H Q) (k1 : b = true → t { D with nx := v D } σ H) (k2 : b = false → u { D with nx := v D } σ H) : tSeq (tIfS c t u) v D σ H := by
  refine h _ ?_
  cases b with
  | true => exact iteT (k1 rfl)
  | false => exact iteF (k2 rfl)
theorem if_K {c : TT} {t u : TS} {D : Ends} {σ : L2.St} {H : Hp} (b : Bool) (h : ∀ Q : Bool → Hp → Prop, Q b H → c σ H Q) (k1 : b = true → t D σ H) (k2 : b = false → u D σ H) : tIfS c t u D σ H := by
  refine h _ ?_
  cases b with
  | true => exact iteT (k1 rfl)
  | false => exact iteF (k2 rfl)
/-- .. which may lay new objects -/
theorem if_KH {c : TT} {t u : TS} {D : Ends} {σ : L2.St} {H : Hp} (b : Bool) (P : Hp → Prop) (h : ∀ Q : Bool → Hp → Prop, (∀ H', P H' → Q b H') → c σ H Q) (k1 : b = true → ∀ H', P H' → t D σ H') (k2 : b = false → ∀ H', P H' → u D σ H') : tIfS c t u D σ H := by
  refine h _ fun H' p => ?_
  cases b with
  | true => exact iteT (k1 rfl H' p)
  | false => exact iteF (k2 rfl H' p)
theorem st_ifKH {c : TT} {t u v : TS} {D : Ends} {σ : L2.St} {H : Hp} (b : Bool) (P : Hp → Prop) (h : ∀ Q : Bool → Hp → Prop, (∀ H', P H' → Q b H') → c σ H Q) (k1 : b = true → ∀ H', P H' → t { D with nx := v D } σ H') (k2 : b = false → ∀ H', P H' → u { D with nx := v D } σ H') : tSeq (tIfS c t u) v D σ H := by
  refine h _ fun H' p => ?_
  cases b with
  | true => exact iteT (k1 rfl H' p)
  | false => exact iteF (k2 rfl H' p)
theorem q_of {b c : Bool} {Q : Bool → Hp → Prop} {H : Hp} (h : Q b H) (e : c = b) : Q c H := e ▸ h
end Sh
set_option Elab.async false
set_option linter.all false
set_option maxRecDepth 100000
namespace Sh
open PySem PySem.Spec PyProof.Rows L2
def top (i : Nat) : Stmt := PySem.Challenge.pw_shrunkalike_k05_steps.main.body.getD i (.Pass ⟨0, 0, 0, 0⟩)
abbrev s__wall : Stmt := top 0
abbrev s_WrongThing___init__ : Stmt := inClass (top 3) 0
abbrev s_WrongItem___init__ : Stmt := inClass (top 4) 0
abbrev s_NoStep___init__ : Stmt := inClass (top 9) 0
abbrev s_is_integer : Stmt := top 13
abbrev s_is_listed : Stmt := top 14
abbrev s_is_signs : Stmt := top 15
abbrev s_check_signs : Stmt := top 16
abbrev s_is_text : Stmt := top 17
abbrev s_check_text : Stmt := top 18
abbrev s_text_key : Stmt := top 19
abbrev s_first_rules : Stmt := top 21
abbrev s_longest_left : Stmt := top 22
abbrev s_used_at_end : Stmt := top 23
abbrev s_left_over : Stmt := top 24
abbrev s_overlap_rows : Stmt := top 25
abbrev s_both_results : Stmt := top 26
abbrev s_quarrel_of : Stmt := top 27
abbrev s_end_moves : Stmt := top 28
abbrev s_kept_tail : Stmt := top 29
abbrev s_can_step : Stmt := top 32
abbrev s_made_step : Stmt := top 33
abbrev s_all_steps : Stmt := top 34
abbrev s_steps : Stmt := top 35
abbrev s_step : Stmt := top 36
abbrev s_played : Stmt := top 37
abbrev s_is_rule : Stmt := top 41
abbrev s_checked_rules : Stmt := top 42
abbrev s_Book___init__ : Stmt := inClass (top 43) 0
abbrev s_Book_quarrel : Stmt := inClass (top 43) 1
abbrev s_Book___len__ : Stmt := inClass (top 43) 2
abbrev s_Book___getitem__ : Stmt := inClass (top 43) 3
abbrev s_Book___iter__ : Stmt := inClass (top 43) 4
abbrev s_Book___eq__ : Stmt := inClass (top 43) 5
abbrev s_Book___call__ : Stmt := inClass (top 43) 6
abbrev s__law_source : Stmt := top 45
abbrev s__law_pick : Stmt := top 46
abbrev s__law_signs : Stmt := top 47
abbrev s__law_text : Stmt := top 48
abbrev s__law_rule : Stmt := top 49
abbrev s__law_steps : Stmt := top 50
abbrev s__law_step : Stmt := top 51
abbrev s__law_drawn : Stmt := top 52
abbrev s__law_place : Stmt := top 53
abbrev s_law : Stmt := top 54
theorem sc__wall : FnScope ["k"] ["k"] (defScope s__wall) := ⟨rfl, rfl, rfl, by decide +kernel, rfl, by decide +kernel, by decide +kernel⟩
theorem sc_is_integer : FnScope ["thing", "low", "high"] ["thing", "low", "high"] (defScope s_is_integer) := ⟨rfl, rfl, rfl, by decide +kernel, rfl, by decide +kernel, by decide +kernel⟩
theorem sc_is_listed : FnScope ["thing"] ["thing"] (defScope s_is_listed) := ⟨rfl, rfl, rfl, by decide +kernel, rfl, by decide +kernel, by decide +kernel⟩
theorem sc_is_signs : FnScope ["thing", "k"] ["thing"] (defScope s_is_signs) := ⟨rfl, rfl, rfl, by decide +kernel, rfl, by decide +kernel, by decide +kernel⟩
theorem sc_check_signs : FnScope ["thing"] ["thing"] (defScope s_check_signs) := ⟨rfl, rfl, rfl, by decide +kernel, rfl, by decide +kernel, by decide +kernel⟩
theorem sc_is_text : FnScope ["signs", "thing", "low", "high", "sign"] ["signs", "thing", "low", "high"] (defScope s_is_text) := ⟨rfl, rfl, rfl, by decide +kernel, rfl, by decide +kernel, by decide +kernel⟩
theorem sc_check_text : FnScope ["signs", "thing"] ["signs", "thing"] (defScope s_check_text) := ⟨rfl, rfl, rfl, by decide +kernel, rfl, by decide +kernel, by decide +kernel⟩
theorem sc_text_key : FnScope ["text"] ["text"] (defScope s_text_key) := ⟨rfl, rfl, rfl, by decide +kernel, rfl, by decide +kernel, by decide +kernel⟩
theorem sc_first_rules : FnScope ["rules", "found", "k", "left", "right"] ["rules"] (defScope s_first_rules) := ⟨rfl, rfl, rfl, by decide +kernel, rfl, by decide +kernel, by decide +kernel⟩
theorem sc_longest_left : FnScope ["rules", "rule"] ["rules"] (defScope s_longest_left) := ⟨rfl, rfl, rfl, by decide +kernel, rfl, by decide +kernel, by decide +kernel⟩
theorem sc_used_at_end : FnScope ["lefts", "longest", "pile", "best", "size", "found"] ["lefts", "longest", "pile"] (defScope s_used_at_end) := ⟨rfl, rfl, rfl, by decide +kernel, rfl, by decide +kernel, by decide +kernel⟩
theorem sc_left_over : FnScope ["lefts", "longest", "text", "pile", "sign", "shorter"] ["lefts", "longest", "text"] (defScope s_left_over) := ⟨rfl, rfl, rfl, by decide +kernel, rfl, by decide +kernel, by decide +kernel⟩
theorem sc_overlap_rows : FnScope ["rules", "found", "one", "left", "other", "right", "place", "shared"] ["rules"] (defScope s_overlap_rows) := ⟨rfl, rfl, rfl, by decide +kernel, rfl, by decide +kernel, by decide +kernel⟩
theorem sc_both_results : FnScope ["rules", "overlap", "text", "one", "place", "other", "first", "second"] ["rules", "overlap"] (defScope s_both_results) := ⟨rfl, rfl, rfl, by decide +kernel, rfl, by decide +kernel, by decide +kernel⟩
theorem sc_quarrel_of : FnScope ["rules", "lefts", "longest", "best", "overlap", "first", "second"] ["rules", "lefts", "longest"] (defScope s_quarrel_of) := ⟨rfl, rfl, rfl, by decide +kernel, rfl, by decide +kernel, by decide +kernel⟩
theorem sc_end_moves : FnScope ["signs", "rules", "lefts", "names", "numbers", "moves", "longest", "row", "sign", "text", "tail", "rule", "left"] ["signs", "rules"] (defScope s_end_moves) := ⟨rfl, rfl, rfl, by decide +kernel, rfl, by decide +kernel, by decide +kernel⟩
theorem sc_kept_tail : FnScope ["lefts", "longest", "text", "size", "tail", "left"] ["lefts", "longest", "text"] (defScope s_kept_tail) := ⟨rfl, rfl, rfl, by decide +kernel, rfl, by decide +kernel, by decide +kernel⟩
theorem sc_can_step : FnScope ["book", "text", "place", "number", "left"] ["book", "text", "place", "number"] (defScope s_can_step) := ⟨rfl, rfl, rfl, by decide +kernel, rfl, by decide +kernel, by decide +kernel⟩
theorem sc_made_step : FnScope ["book", "text", "place", "number", "left", "right"] ["book", "text", "place", "number"] (defScope s_made_step) := ⟨rfl, rfl, rfl, by decide +kernel, rfl, by decide +kernel, by decide +kernel⟩
theorem sc_all_steps : FnScope ["book", "text", "found", "place", "number", "left"] ["book", "text"] (defScope s_all_steps) := ⟨rfl, rfl, rfl, by decide +kernel, rfl, by decide +kernel, by decide +kernel⟩
theorem sc_steps : FnScope ["book", "text"] ["book", "text"] (defScope s_steps) := ⟨rfl, rfl, rfl, by decide +kernel, rfl, by decide +kernel, by decide +kernel⟩
theorem sc_step : FnScope ["book", "text", "place", "number"] ["book", "text", "place", "number"] (defScope s_step) := ⟨rfl, rfl, rfl, by decide +kernel, rfl, by decide +kernel, by decide +kernel⟩
theorem sc_played : FnScope ["book", "text", "run", "texts", "k", "pair"] ["book", "text", "run"] (defScope s_played) := ⟨rfl, rfl, rfl, by decide +kernel, rfl, by decide +kernel, by decide +kernel⟩
theorem sc_is_rule : FnScope ["signs", "thing"] ["signs", "thing"] (defScope s_is_rule) := ⟨rfl, rfl, rfl, by decide +kernel, rfl, by decide +kernel, by decide +kernel⟩
theorem sc_checked_rules : FnScope ["signs", "thing", "rules", "k"] ["signs", "thing"] (defScope s_checked_rules) := ⟨rfl, rfl, rfl, by decide +kernel, rfl, by decide +kernel, by decide +kernel⟩
theorem sc_Book___init__ : FnScope ["self", "signs", "rules"] ["self", "signs", "rules"] (defScope s_Book___init__) := ⟨rfl, rfl, rfl, by decide +kernel, rfl, by decide +kernel, by decide +kernel⟩
theorem sc_Book_quarrel : FnScope ["self"] ["self"] (defScope s_Book_quarrel) := ⟨rfl, rfl, rfl, by decide +kernel, rfl, by decide +kernel, by decide +kernel⟩
theorem sc_Book___len__ : FnScope ["self"] ["self"] (defScope s_Book___len__) := ⟨rfl, rfl, rfl, by decide +kernel, rfl, by decide +kernel, by decide +kernel⟩
theorem sc_Book___getitem__ : FnScope ["self", "number"] ["self", "number"] (defScope s_Book___getitem__) := ⟨rfl, rfl, rfl, by decide +kernel, rfl, by decide +kernel, by decide +kernel⟩
theorem sc_Book___iter__ : FnScope ["self"] ["self"] (defScope s_Book___iter__) := ⟨rfl, rfl, rfl, by decide +kernel, rfl, by decide +kernel, by decide +kernel⟩
theorem sc_Book___eq__ : FnScope ["self", "other"] ["self", "other"] (defScope s_Book___eq__) := ⟨rfl, rfl, rfl, by decide +kernel, rfl, by decide +kernel, by decide +kernel⟩
theorem sc_Book___call__ : FnScope ["self", "text"] ["self", "text"] (defScope s_Book___call__) := ⟨rfl, rfl, rfl, by decide +kernel, rfl, by decide +kernel, by decide +kernel⟩
theorem sc__law_source : FnScope ["_law_script", "_law_place_here", "_law_cell", "_law_seed", "_law_one", "_law_number"] ["_law_script", "_law_place_here"] (defScope s__law_source) := ⟨rfl, rfl, rfl, by decide +kernel, rfl, by decide +kernel, by decide +kernel⟩
theorem sc__law_pick : FnScope ["_law_source_here", "_law_many", "_law_digit", "_law_mixed"] ["_law_source_here", "_law_many"] (defScope s__law_pick) := ⟨rfl, rfl, rfl, by decide +kernel, rfl, by decide +kernel, by decide +kernel⟩
theorem sc__law_signs : FnScope ["_law_source_here", "_law_menu"] ["_law_source_here"] (defScope s__law_signs) := ⟨rfl, rfl, rfl, by decide +kernel, rfl, by decide +kernel, by decide +kernel⟩
theorem sc__law_text : FnScope ["_law_source_here", "_law_signs_here", "_law_most", "_law_told", "_law_k"] ["_law_source_here", "_law_signs_here", "_law_most"] (defScope s__law_text) := ⟨rfl, rfl, rfl, by decide +kernel, rfl, by decide +kernel, by decide +kernel⟩
theorem sc__law_rule : FnScope ["_law_source_here", "_law_signs_here", "_law_longest", "_law_size", "_law_left", "_law_k"] ["_law_source_here", "_law_signs_here", "_law_longest"] (defScope s__law_rule) := ⟨rfl, rfl, rfl, by decide +kernel, rfl, by decide +kernel, by decide +kernel⟩
theorem sc__law_steps : FnScope ["_law_rules", "_law_text_here", "_law_told", "_law_place_here", "_law_k"] ["_law_rules", "_law_text_here"] (defScope s__law_steps) := ⟨rfl, rfl, rfl, by decide +kernel, rfl, by decide +kernel, by decide +kernel⟩
theorem sc__law_step : FnScope ["_law_rules", "_law_text_here", "_law_pair", "_law_left", "_law_right"] ["_law_rules", "_law_text_here", "_law_pair"] (defScope s__law_step) := ⟨rfl, rfl, rfl, by decide +kernel, rfl, by decide +kernel, by decide +kernel⟩
theorem sc__law_drawn : FnScope ["_law_source_here", "_law_signs_here", "_law_rules", "_law_k", "_law_rule_here"] ["_law_source_here", "_law_signs_here"] (defScope s__law_drawn) := ⟨rfl, rfl, rfl, by decide +kernel, rfl, by decide +kernel, by decide +kernel⟩
theorem sc__law_place : FnScope ["_law_book", "_law_text_here", "_law_run", "raised"] ["_law_book", "_law_text_here", "_law_run"] (defScope s__law_place) := ⟨rfl, rfl, rfl, by decide +kernel, rfl, by decide +kernel, by decide +kernel⟩
theorem sc_law : FnScope ["_law_script", "_law_source_here", "_law_signs_here", "_law_rules", "_law_book", "_law_turn", "_law_draws", "_law_text_here", "_law_due", "_law_run", "_law_texts", "_law_near", "_law_pair", "_law_given", "_law_at", "_law_menu", "_law_odd", "_law_place_here", "_law_number", "raised", "_law_whole"] ["_law_script"] (defScope s_law) := ⟨rfl, rfl, rfl, by decide +kernel, rfl, by decide +kernel, by decide +kernel⟩
structure Txt (K : PySem.W.Frag) (mg : Str → Option Value) : Prop where
  b_len : mg "len" = none
  b_range : mg "range" = none
  b_min : mg "min" = none
  b_max : mg "max" = none
  b_any : mg "any" = none
  b_isinstance : mg "isinstance" = none
  b_abs : mg "abs" = none
  b_int : mg "int" = none
  b_str : mg "str" = none
  b_bool : mg "bool" = none
  b_tuple : mg "tuple" = none
  b_list : mg "list" = none
  b_repr : mg "repr" = none
  b_iter : mg "iter" = none
  b_super : mg "super" = none
  g_LETTERS : ∃ u, mg "LETTERS" = some u ∧ RelV (.str "abcdefghijklmnopqrstuvwxyz") u
  g_LONGEST_TEXT : ∃ u, mg "LONGEST_TEXT" = some u ∧ RelV (.int 200) u
  g_MOST_STEPS : ∃ u, mg "MOST_STEPS" = some u ∧ RelV (.int 400) u
  g_MOST_RULES : ∃ u, mg "MOST_RULES" = some u ∧ RelV (.int 64) u
  g_LONGEST_LEFT : ∃ u, mg "LONGEST_LEFT" = some u ∧ RelV (.int 4) u
  d_is_integer : DefAt K mg "is_integer" s_is_integer ["thing", "low", "high"]
  d_is_listed : DefAt K mg "is_listed" s_is_listed ["thing"]
  d_is_signs : DefAt K mg "is_signs" s_is_signs ["thing"]
  d_check_signs : DefAt K mg "check_signs" s_check_signs ["thing"]
  d_is_text : DefAt K mg "is_text" s_is_text ["signs", "thing", "low", "high"]
  d_check_text : DefAt K mg "check_text" s_check_text ["signs", "thing"]
  d_text_key : DefAt K mg "text_key" s_text_key ["text"]
  d_first_rules : DefAt K mg "first_rules" s_first_rules ["rules"]
  d_longest_left : DefAt K mg "longest_left" s_longest_left ["rules"]
  d_used_at_end : DefAt K mg "used_at_end" s_used_at_end ["lefts", "longest", "pile"]
  d_left_over : DefAt K mg "left_over" s_left_over ["lefts", "longest", "text"]
  d_overlap_rows : DefAt K mg "overlap_rows" s_overlap_rows ["rules"]
  d_both_results : DefAt K mg "both_results" s_both_results ["rules", "overlap"]
  d_quarrel_of : DefAt K mg "quarrel_of" s_quarrel_of ["rules", "lefts", "longest"]
  d_end_moves : DefAt K mg "end_moves" s_end_moves ["signs", "rules"]
  d_kept_tail : DefAt K mg "kept_tail" s_kept_tail ["lefts", "longest", "text"]
  d_can_step : DefAt K mg "can_step" s_can_step ["book", "text", "place", "number"]
  d_made_step : DefAt K mg "made_step" s_made_step ["book", "text", "place", "number"]
  d_all_steps : DefAt K mg "all_steps" s_all_steps ["book", "text"]
  d_steps : DefAt K mg "steps" s_steps ["book", "text"]
  d_step : DefAt K mg "step" s_step ["book", "text", "place", "number"]
  d_played : DefAt K mg "played" s_played ["book", "text", "run"]
  d_is_rule : DefAt K mg "is_rule" s_is_rule ["signs", "thing"]
  d_checked_rules : DefAt K mg "checked_rules" s_checked_rules ["signs", "thing"]
  d__law_source : DefAt K mg "_law_source" s__law_source ["_law_script", "_law_place_here"]
  d__law_pick : DefAt K mg "_law_pick" s__law_pick ["_law_source_here", "_law_many"]
  d__law_signs : DefAt K mg "_law_signs" s__law_signs ["_law_source_here"]
  d__law_text : DefAt K mg "_law_text" s__law_text ["_law_source_here", "_law_signs_here", "_law_most"]
  d__law_rule : DefAt K mg "_law_rule" s__law_rule ["_law_source_here", "_law_signs_here", "_law_longest"]
  d__law_steps : DefAt K mg "_law_steps" s__law_steps ["_law_rules", "_law_text_here"]
  d__law_step : DefAt K mg "_law_step" s__law_step ["_law_rules", "_law_text_here", "_law_pair"]
  d__law_drawn : DefAt K mg "_law_drawn" s__law_drawn ["_law_source_here", "_law_signs_here"]
  d__law_place : DefAt K mg "_law_place" s__law_place ["_law_book", "_law_text_here", "_law_run"]
end Sh
set_option Elab.async false
set_option linter.all false
set_option maxRecDepth 100000
set_option maxHeartbeats 4000000
namespace Sh
open PySem PySem.Spec PyProof.Rows L2
open SX (S S_inj S_len S_cat)
local macro_rules | `(tactic| walk_at "nx") => `(tactic| repeat (with_reducible first | refine Sh.gn_mk ?_ | refine Sh.nx_mk ?_ | refine Sh.st_nx ?_ | refine Sh.rt_mk ?_ | refine Sh.ct_mk ?_ | refine Sh.bk_mk ?_))
local macro_rules | `(tactic| walk_at "sq") => `(tactic| first | exact SqL.of upd_same | exact SqT.of upd_same | exact SqL.of (by assumption) | exact SqT.of (by assumption) | assumption | exact Or.inl (SqL.of (by assumption)) | exact Or.inr (SqT.of (by assumption)) | exact Or.inl (by assumption) | exact Or.inr (by assumption))
local macro_rules | `(tactic| walk_at "hp") => `(tactic| first | exact upd_same | assumption)
local macro_rules | `(tactic| walk_at "sz") => `(tactic| first | exact Nat.le_of_ble_eq_true rfl | omega)
local macro_rules | `(tactic| walk_at "sd") => `(tactic| first | omega | exact rfl | assumption | (show (0 : Int) < _; omega) | exact And.intro (by omega) (by omega) | exact Or.inl (And.intro (by omega) (by omega)) | exact Or.inr (And.intro (by omega) (by omega)) | omega | exact Sh.sz_S (by omega) | decide)
local macro_rules | `(tactic| walk_at "rd1") => `(tactic| first
  | (with_reducible first | refine Sh.gn_mk ?_ | refine Sh.nx_mk ?_ | refine Sh.st_nx ?_ | refine Sh.rt_mk ?_ | refine Sh.ct_mk ?_ | refine Sh.bk_mk ?_)
  | refine Exists.intro (α := V) _ (And.intro rfl ?_)
  | refine Exists.intro (α := Bool) _ (And.intro rfl ?_)
  | refine Exists.intro (α := Int) _ (And.intro rfl ?_)
  | refine Exists.intro (α := PySem.Str) _ (And.intro rfl ?_)
  | refine Exists.intro (α := Int) _ (Exists.intro (α := Int) _ (And.intro rfl (And.intro rfl ?_)))
  | refine Exists.intro (α := PySem.Str) _ (Exists.intro (α := PySem.Str) _ (And.intro rfl (And.intro rfl ?_)))
  | refine Exists.intro (α := Int) _ (Exists.intro (α := Int) _ (And.intro rfl ?_))
  | refine Or.inl (Exists.intro (α := Int) _ (And.intro rfl ?_))
  | refine Exists.intro _ (Exists.intro _ (Exists.intro _ (Exists.intro _ (And.intro rfl (And.intro rfl (And.intro (by walk_at "sq") (And.intro rfl ?_)))))))
  | refine Exists.intro _ (Exists.intro _ (Exists.intro _ (Exists.intro _ (And.intro rfl (And.intro rfl (And.intro (by walk_at "hp") (And.intro rfl ?_)))))))
  | refine And.intro (by walk_at "sd") ?_
  )
local macro_rules | `(tactic| walk_at "rd") => `(tactic| repeat walk_at "rd1")
local macro_rules | `(tactic| walk_at "lk") => `(tactic| first | exact rfl | (rw [lookup_putF, if_pos rfl]) | (rw [lookup_putF, if_neg (by decide +kernel)]; walk_at "lk"))

section
variable {P : Program} {w : World} {K : PySem.W.Frag} {mg : Str → Option Value} {base : Heap}
/-- _law_pick(source, many): any number from 0 to many - 1; the source changes alone -/
def spPick : Sp := fun vs H Q _ => ∃ (a : Addr) (m : Int), vs = [.ref a, .int m] ∧ Src H a ∧ 0 < m ∧ m < 1000000 ∧ ∀ (r : Int) (H' : Hp), 0 ≤ r → r < m → Src H' a → But a H H' → Q (.int r) H'
theorem c__law_pick (T : Txt K mg) : Cal P w K mg base CX0 1 "_law_pick" spPick := by
  refine Cal.mk0 T.d__law_pick sc__law_pick (fun vs H Q E h => ?_) (fun f cdv A outer s H vs Q E hr h => ?_)
  · obtain ⟨a, m, rfl, _⟩ := h
    rfl
  · obtain ⟨a, m, rfl, ⟨d, sd, c, ha⟩, h0, h1, k⟩ := h
    refine ⟨_, (pss_cons (ps_if (pt_cmpR op_gt (pe_ix ix_list (pv 0) pe_int (fun _ _ => rfl)) pe_int (nomark _))
    (pss_cons (ps_set (i := 2) sc__law_pick.nd rfl (Or.inl rfl) (pe_op op_mod (pe_callTy call_int1 (by rfl) T.b_int (by decide +kernel) (pa_cons (pe_ix ix_list (pv 0) pe_int (fun _ _ => rfl)) pa_nil)) (pv 1)))
    (pss_cons (ps_asg (pe_op op_fdiv (pe_ix ix_list (pv 0) pe_int (fun _ _ => rfl)) (pv 1)) (pg_sub (pv 0) pe_int set_list))
    (pss_one (ps_ret (pv 2)))))
    pss_nil)
  (pss_cons (ps_asg (pe_op op_add (pe_ix ix_list (pv 0) pe_int (fun _ _ => rfl)) pe_int) (pg_sub (pv 0) pe_int set_list))
  (pss_cons (ps_set (i := 3) sc__law_pick.nd rfl (Or.inl rfl) (pe_op op_mod (pe_callTy call_int1 (by rfl) T.b_int (by decide +kernel) (pa_cons (pe_op op_mul (pe_op op_add (pe_ix ix_list (pv 0) pe_int (fun _ _ => rfl)) (pe_op op_mul pe_int (pe_ix ix_list (pv 0) pe_int (fun _ _ => rfl)))) pe_int) pa_nil)) pe_int))
  (pss_cons (ps_set (i := 3) sc__law_pick.nd rfl (Or.inl rfl) (pe_op op_mod (pe_callTy call_int1 (by rfl) T.b_int (by decide +kernel) (pa_cons (pe_op op_add (pe_op op_add (pe_op op_mul (pv 3) (pv 3)) (pe_op op_mul pe_int (pe_ix ix_list (pv 0) pe_int (fun _ _ => rfl)))) (pe_ix ix_list (pv 0) pe_int (fun _ _ => rfl))) pa_nil)) pe_int))
  (pss_cons (ps_set (i := 3) sc__law_pick.nd rfl (Or.inl rfl) (pe_op op_mod (pe_callTy call_int1 (by rfl) T.b_int (by decide +kernel) (pa_cons (pe_op op_add (pe_op op_mul (pv 3) pe_int) pe_int) pa_nil)) pe_int))
  (pss_cons (ps_set (i := 3) sc__law_pick.nd rfl (Or.inl rfl) (pe_op op_mod (pe_callTy call_int1 (by rfl) T.b_int (by decide +kernel) (pa_cons (pe_op op_add (pe_op op_mul (pv 3) (pv 3)) (pv 3)) pa_nil)) pe_int))
  (pss_one (ps_ret (pe_op op_mod (pe_callTy call_int1 (by rfl) T.b_int (by decide +kernel) (pa_cons (pe_op op_fdiv (pv 3) pe_int) pa_nil)) (pv 1)))))))))), ?_⟩
    walk_at "rd"
    refine ite2 (fun c0 => ?_) (fun c0 => ?_)
    · walk_at "rd"
      exact k _ _ (Int.emod_nonneg _ (by omega)) (Int.emod_lt_of_pos _ h0) ⟨_, _, _, upd_same⟩ but_upd
    · walk_at "rd"
      exact k _ _ (Int.emod_nonneg _ (by omega)) (Int.emod_lt_of_pos _ h0) ⟨_, _, _, upd_same⟩ but_upd
/-- _law_source(script, place): a new source -/
def spSource (K : PySem.W.Frag) : Sp := fun vs H Q _ => ∃ (a : Addr) (ns : List Int) (i : Int), vs = [.ref a, .int i] ∧ SqL K H a (ns.map V.int) ∧ (∀ z ∈ ns, Builtin.Int.intBits z ≤ 1048576) ∧ ns.length ≤ 63 ∧ 0 ≤ i ∧ i < 100 ∧
  ∀ (p : Addr) (H' : Hp), H p = none → Same H H' → Src H' p → Q (.ref p) H'
theorem cut_ints (ns : List Int) : ∃ ms : List Int, cutV (ns.map V.int) none (some 4) = ms.map V.int := ⟨_, by unfold cutV; rw [← List.map_drop, ← List.map_take]⟩
theorem c__law_source (T : Txt K mg) : Cal P w K mg base CX0 1 "_law_source" (spSource K) := by
  refine Cal.mk0 T.d__law_source sc__law_source (fun vs H Q E h => ?_) (fun f cdv A outer s H vs Q E hr h => ?_)
  · obtain ⟨a, ns, i, rfl, _⟩ := h
    rfl
  · obtain ⟨a, ns, i, rfl, hS, hb, hl, hi0, hi1, k⟩ := h
    obtain ⟨ms, hms⟩ := cut_ints ns
    refine ⟨_, (pss_cons (ps_set (i := 2) sc__law_source.nd rfl (Or.inl rfl) (pe_ifExp (pt_cmpR op_lt (pv 1) (pe_callB call_len_seq (by rfl) T.b_len (by decide +kernel) (pa_cons (pv 0) pa_nil)) (nomark _)) (pe_ix ix_list (pv 0) (pv 1) (fun _ _ => rfl)) (pe_op op_add (pe_op op_mul pe_int (pv 1)) pe_int)))
  (pss_cons (ps_set (i := 3) sc__law_source.nd rfl (Or.inl rfl) (pe_op op_add (pe_op op_mul pe_int (pv 1)) pe_int))
  (pss_cons (ps_for PassesOwn.never rfl (pi_list (pe_slice sl_list (pv 0) po_none (po_some pe_int))) (pg_name (i := 4) sc__law_source.nd rfl (Or.inl rfl))
    (pss_one (ps_set (i := 3) sc__law_source.nd rfl (Or.inl rfl) (pe_op op_mod (pe_callTy call_int1 (by rfl) T.b_int (by decide +kernel) (pa_cons (pe_op op_add (pe_op op_mul (pv 3) pe_int) (pe_op op_mod (pe_callTy call_int1 (by rfl) T.b_int (by decide +kernel) (pa_cons (pv 4) pa_nil)) pe_int)) pa_nil)) pe_int))))
  (pss_cons (ps_set (i := 3) sc__law_source.nd rfl (Or.inl rfl) (pe_op op_mod (pe_callTy call_int1 (by rfl) T.b_int (by decide +kernel) (pa_cons (pe_op op_add (pe_op op_mul (pv 3) pe_int) (pe_op op_mod (pe_callTy call_int1 (by rfl) T.b_int (by decide +kernel) (pa_cons (pv 2) pa_nil)) pe_int)) pa_nil)) pe_int))
  (pss_cons (ps_set (i := 5) sc__law_source.nd rfl (Or.inl rfl) (pe_callB call_abs (by rfl) T.b_abs (by decide +kernel) (pa_cons (pv 2) pa_nil)))
  (pss_cons (ps_if (pt_cmpR op_lt (pv 5) (pe_op op_pow pe_int pe_int) (nomark _))
    (pss_one (ps_ret (pe_lst (pa_cons pe_int (pa_cons (pv 3) (pa_cons pe_int pa_nil))))))
    pss_nil)
  (pss_cons (ps_if (pt_cmpR op_gt (pe_op op_shr (pv 5) pe_int) pe_int (nomark _))
    (pss_one (ps_set (i := 5) sc__law_source.nd rfl (Or.inl rfl) (pe_op op_sub (pv 5) (pe_op op_shlW (pe_op op_shr (pv 5) pe_int) pe_int))))
    pss_nil)
  (pss_one (ps_ret (pe_lst (pa_cons (pv 5) (pa_cons (pv 3) (pa_cons pe_int pa_nil))))))))))))), ?_⟩
    -- cell
    refine st_asgJ (fun v H' => H' = H ∧ ∃ z, v = V.int z ∧ Builtin.Int.intBits z ≤ 1048576) (fun Q' kQ => ?_) ?_
    · refine ⟨_, rfl, _, rfl, _, _, rfl, .inl hS, _, _, rfl, rfl, _, rfl, ?_⟩
      refine ite2 (fun c0 => ?_) (fun c0 => ?_)
      · have c1 : i < (ns.map V.int).length := of_decide_eq_true c0
        rw [List.length_map] at c1
        have c2 : i.toNat < ns.length := by omega
        refine ⟨_, rfl, _, rfl, _, _, _, .int ns[i.toNat], rfl, rfl, hS, ?_, kQ _ _ ⟨rfl, _, rfl, hb _ (List.getElem_mem c2)⟩⟩
        exact atI_at hi0 (by simp [c2])
      · walk_at "rd"
        refine kQ _ _ ⟨rfl, _, rfl, ?_⟩
        refine Nat.le_trans ((PySem.intBits_le_iff (m := 20)).mpr ?_) (by decide)
        show (7 * i + 5).natAbs < 2 ^ 20
        omega
    · rintro v H' ⟨rfl, cell, rfl, hcell⟩
      walk_at "rd"
      -- script[:4]
      refine ⟨_, _, rfl, hS, fun p hp => ?_⟩
      rw [hms]
      refine ⟨p, rfl, ⟨_, SqL.of upd_same⟩, for_lst (K := K) (a := p) (f := V.int) (l := ms) (fun pre σ H2 => ∃ (sd : Int) (v : Option V), σ = [some (.ref a), some (.int i), some (.int cell), some (.int sd), v, none] ∧ H2 = upd H' p (.lst (ms.map V.int)))
        ⟨_, _, rfl, rfl⟩ (fun pre σ H2 ⟨_, _, _, e⟩ => e ▸ SqL.of upd_same) ?_ ?_⟩
      · rintro pre x post σ H2 e ⟨sd, v, rfl, rfl⟩
        walk_at "rd"
        exact ⟨_, _, rfl, rfl⟩
      · rintro σ H2 ⟨sd, v, rfl, rfl⟩
        walk_at "rd"
        refine ite2 (fun c0 => ?_) (fun c0 => ?_)
        · walk_at "rd"
          refine ⟨by walk_at "sz", fun q hq => ?_⟩
          have s1 : Same H' (upd H' p (.lst (ms.map V.int))) := same_new hp
          exact k q _ (s1.free hq) (s1.trans (same_new hq)) ⟨_, _, _, upd_same⟩
        · walk_at "nx"
          refine st_ifJ (fun σ' H3 => H3 = upd H' p (.lst (ms.map V.int)) ∧ ∃ n sd v, σ' = [some (.ref a), some (.int i), some (.int cell), some (.int sd), v, some (.int n)]) (fun N kN => ?_) ?_
          · walk_at "rd"
            refine ite2 (fun c1 => ?_) (fun c1 => ?_)
            · walk_at "rd"
              have hn : Builtin.Int.intBits (if cell < 0 then -cell else cell) ≤ 1048576 := by
                split
                · exact PySem.intBits_neg_le hcell
                · exact hcell
              refine ⟨?_, ?_⟩
              · have h2 := PySem.intBits_le_of_natAbs (x := (if cell < 0 then -cell else cell) / 2 ^ Int.toNat 2500) (y := if cell < 0 then -cell else cell) (by first | exact Int.natAbs_ediv_le_natAbs _ _ | exact Int.natAbs_div_le_natAbs _ _) hn
                refine ⟨by decide, ?_⟩
                show _ + (2500 : Int) ≤ 134217728
                omega
              · walk_at "rd"
                exact kN _ _ ⟨rfl, _, _, _, rfl⟩
            · walk_at "rd"
              exact kN _ _ ⟨rfl, _, _, _, rfl⟩
          · rintro σ' H3 ⟨rfl, n, sd', v', rfl⟩
            walk_at "rd"
            refine ⟨by walk_at "sz", fun q hq => ?_⟩
            have s1 : Same H' (upd H' p (.lst (ms.map V.int))) := same_new hp
            exact k q _ (s1.free hq) (s1.trans (same_new hq)) ⟨_, _, _, upd_same⟩
end
end Sh
set_option Elab.async false
set_option linter.all false
namespace Sh
open PySem PySem.Spec PyProof.Rows L2
open SX (S S_inj S_len S_cat)
theorem cut_from {t : List Nat} {i : Int} (h : 0 ≤ i) : cutS (S t) (some i) none = S (t.drop i.toNat) := by
  rw [C8.cutS_slice]; exact SX.slice_from h
theorem cut_to {t : List Nat} {i : Int} (h : 0 ≤ i) : cutS (S t) none (some i) = S (t.take i.toNat) := by
  rw [C8.cutS_slice]; exact SX.slice_to h
theorem cut_mid {t : List Nat} {i j : Int} (h : 0 ≤ i) (k : 0 ≤ j) : cutS (S t) (some i) (some j) = S ((t.drop i.toNat).take (j.toNat - i.toNat)) := by
  unfold cutS
  have e : (S t).length = t.length := S_len t
  have h1 : HT.sIx t.length 0 (some i) = min i.toNat t.length := by
    show (if i < 0 then _ else min i.toNat t.length) = _
    rw [if_neg (by omega)]
  have h2 : HT.sIx t.length t.length (some j) = min j.toNat t.length := by
    show (if j < 0 then _ else min j.toNat t.length) = _
    rw [if_neg (by omega)]
  rw [e, h1, h2]
  show S ((t.drop (min i.toNat t.length)).take (min j.toNat t.length - min i.toNat t.length)) = _
  congr 1
  apply List.ext_getElem?
  intro n
  simp only [List.getElem?_take, List.getElem?_drop]
  by_cases hi : i.toNat ≤ t.length
  · rw [Nat.min_eq_left hi]
    by_cases hn : n < j.toNat - i.toNat
    · rw [if_pos hn]
      by_cases hn2 : n < min j.toNat t.length - i.toNat
      · rw [if_pos hn2]
      · rw [if_neg hn2, List.getElem?_eq_none (by omega)]
    · rw [if_neg hn, if_neg (by omega)]
  · have e1 : min i.toNat t.length = t.length := by omega
    rw [e1, List.getElem?_eq_none (l := t) (i := t.length + n) (by omega), List.getElem?_eq_none (l := t) (i := i.toNat + n) (by omega)]
    simp
theorem endswith_S (a b : List Nat) : Txt.endswith (S a) (S b) = b.isSuffixOf a := by
  unfold Txt.endswith
  rw [PySem.StrLaws.subAt_eq, S_len, S_len, Bool.eq_iff_iff, List.isSuffixOf_iff_suffix, List.suffix_iff_eq_drop]
  simp only [Bool.and_eq_true, decide_eq_true_eq, beq_iff_eq]
  constructor
  · rintro ⟨h1, h2⟩
    rw [List.take_of_length_le (by rw [List.length_drop]; omega)] at h2
    exact h2.symm
  · intro h
    have hl := congrArg List.length h
    rw [List.length_drop] at hl
    refine ⟨by omega, ?_⟩
    rw [List.take_of_length_le (by rw [List.length_drop]; omega)]
    exact h.symm
theorem startswith_S (a b : List Nat) : Txt.startswith (S a) (S b) = b.isPrefixOf a := by
  unfold Txt.startswith
  rw [PySem.StrLaws.subAt_eq, S_len, S_len, Bool.eq_iff_iff, List.isPrefixOf_iff_prefix, List.prefix_iff_eq_take]
  simp only [Bool.and_eq_true, decide_eq_true_eq, beq_iff_eq, List.drop_zero]
  constructor
  · rintro ⟨h1, h2⟩
    exact h2.symm
  · intro h
    have hl := congrArg List.length h
    rw [List.length_take] at hl
    exact ⟨by omega, h.symm⟩
theorem join_nil (l : List (List Nat)) : Txt.join (S []) (l.map S) = S l.flatten := by
  rw [SX.join_S]
  congr 1
  induction l with
  | nil => rfl
  | cons x l ih =>
    cases l with
    | nil => simp [TL.joinL]
    | cons y l =>
      rw [List.flatten_cons, ← ih]
      simp [TL.joinL]
theorem flat_one (l : List Nat) : (l.map fun c => [c]).flatten = l := by
  induction l with
  | nil => rfl
  | cons x l ih => rw [List.map_cons, List.flatten_cons, ih]; rfl
end Sh
set_option Elab.async false
set_option linter.all false
set_option maxRecDepth 100000
set_option maxHeartbeats 4000000
namespace Sh
open PySem PySem.Spec PyProof.Rows L2
open SX (S S_inj S_len S_cat)
local macro_rules | `(tactic| walk_at "nx") => `(tactic| repeat (with_reducible first | refine Sh.gn_mk ?_ | refine Sh.nx_mk ?_ | refine Sh.st_nx ?_ | refine Sh.rt_mk ?_ | refine Sh.ct_mk ?_ | refine Sh.bk_mk ?_))
local macro_rules | `(tactic| walk_at "sq") => `(tactic| first | exact SqL.of upd_same | exact SqT.of upd_same | exact SqL.of (by assumption) | exact SqT.of (by assumption) | assumption | exact Or.inl (SqL.of (by assumption)) | exact Or.inr (SqT.of (by assumption)) | exact Or.inl (by assumption) | exact Or.inr (by assumption))
local macro_rules | `(tactic| walk_at "hp") => `(tactic| first | exact upd_same | assumption)
local macro_rules | `(tactic| walk_at "sz") => `(tactic| first | exact Nat.le_of_ble_eq_true rfl | omega)
local macro_rules | `(tactic| walk_at "sd") => `(tactic| first | omega | exact rfl | assumption | (show (0 : Int) < _; omega) | exact And.intro (by omega) (by omega) | exact Or.inl (And.intro (by omega) (by omega)) | exact Or.inr (And.intro (by omega) (by omega)) | omega | exact Sh.sz_S (by omega) | decide)
local macro_rules | `(tactic| walk_at "rd1") => `(tactic| first
  | (with_reducible first | refine Sh.gn_mk ?_ | refine Sh.nx_mk ?_ | refine Sh.st_nx ?_ | refine Sh.rt_mk ?_ | refine Sh.ct_mk ?_ | refine Sh.bk_mk ?_)
  | refine Exists.intro (α := V) _ (And.intro rfl ?_)
  | refine Exists.intro (α := Bool) _ (And.intro rfl ?_)
  | refine Exists.intro (α := Int) _ (And.intro rfl ?_)
  | refine Exists.intro (α := PySem.Str) _ (And.intro rfl ?_)
  | refine Exists.intro (α := Int) _ (Exists.intro (α := Int) _ (And.intro rfl (And.intro rfl ?_)))
  | refine Exists.intro (α := PySem.Str) _ (Exists.intro (α := PySem.Str) _ (And.intro rfl (And.intro rfl ?_)))
  | refine Exists.intro (α := Int) _ (Exists.intro (α := Int) _ (And.intro rfl ?_))
  | refine Or.inl (Exists.intro (α := Int) _ (And.intro rfl ?_))
  | refine Exists.intro _ (Exists.intro _ (Exists.intro _ (Exists.intro _ (And.intro rfl (And.intro rfl (And.intro (by walk_at "sq") (And.intro rfl ?_)))))))
  | refine Exists.intro _ (Exists.intro _ (Exists.intro _ (Exists.intro _ (And.intro rfl (And.intro rfl (And.intro (by walk_at "hp") (And.intro rfl ?_)))))))
  | refine And.intro (by walk_at "sd") ?_
  )
local macro_rules | `(tactic| walk_at "rd") => `(tactic| repeat walk_at "rd1")
local macro_rules | `(tactic| walk_at "lk") => `(tactic| first | exact rfl | (rw [lookup_putF, if_pos rfl]) | (rw [lookup_putF, if_neg (by decide +kernel)]; walk_at "lk"))

section
variable {P : Program} {w : World} {K : PySem.W.Frag} {mg : Str → Option Value} {base : Heap}
/-- the signs that the law draws -/
def sgMenu : List (List Nat) := [[97, 98], [97, 98, 99], [97, 98], [97, 99], [97, 98, 99], [98, 122], [97], [98, 99, 100], [97, 98], [107, 109, 122], [97, 98, 99], [120, 121]]
def spSigns : Sp := fun vs H Q _ => ∃ (a : Addr), vs = [.ref a] ∧ Src H a ∧ ∀ (sg : List Nat) (H' : Hp), sg ∈ sgMenu → Src H' a → But a H H' → Q (.str (S sg)) H'
theorem sgMenu_V : ([V.str "ab", V.str "abc", V.str "ab", V.str "ac", V.str "abc", V.str "bz", V.str "a", V.str "bcd", V.str "ab", V.str "kmz", V.str "abc", V.str "xy"] : List V) = sgMenu.map fun l => V.str (S l) := by decide +kernel
theorem c__law_signs (T : Txt K mg) : Cal P w K mg base CX0 2 "_law_signs" spSigns := by
  have c__law_pick := c__law_pick (P := P) (w := w) (base := base) T
  refine Cal.mk0 T.d__law_signs sc__law_signs (fun vs H Q E h => ?_) (fun f cdv A outer s H vs Q E hr h => ?_)
  · obtain ⟨a, rfl, _⟩ := h
    rfl
  · obtain ⟨a, rfl, hs, k⟩ := h
    refine ⟨_, (pss_cons (ps_set (i := 1) sc__law_signs.nd rfl (Or.inl rfl) (pe_lst (pa_cons pe_str (pa_cons pe_str (pa_cons pe_str (pa_cons pe_str (pa_cons pe_str (pa_cons pe_str (pa_cons pe_str (pa_cons pe_str (pa_cons pe_str (pa_cons pe_str (pa_cons pe_str (pa_cons pe_str pa_nil))))))))))))))
  (pss_one (ps_ret (pe_ix ix_list (pv 1) (pe_c c__law_pick hr (by decide) rfl (pa_cons (pv 0) (pa_cons (pe_callB call_len_seq (by rfl) T.b_len (by decide +kernel) (pa_cons (pv 1) pa_nil)) pa_nil))) (fun _ _ => rfl))))), ?_⟩
    refine ⟨by walk_at "sz", fun p hp => ?_⟩
    rw [sgMenu_V]
    have ns := same_new (o := .lst (sgMenu.map fun l => V.str (S l))) hp
    obtain ⟨d, sd, c, ha⟩ := id hs
    have hs1 : Src (upd H p (.lst (sgMenu.map fun l => V.str (S l)))) a := ⟨d, sd, c, ns _ _ ha⟩
    have npa : p ≠ a := (ne_of_none ha hp).symm
    refine ⟨_, rfl, _, rfl, _, rfl, p, _, rfl, .inl (SqL.of upd_same), ?_⟩
    refine ⟨_, _, rfl, hs1, by decide, by decide, fun r H2 r0 r1 s2 b2 => ?_⟩
    have r1' : r < 12 := r1
    have hr2 : r.toNat < sgMenu.length := by show _ < 12; omega
    refine ⟨p, _, r, .str (S sgMenu[r.toNat]), rfl, rfl, SqL.of (b2 _ _ npa upd_same), atI_at r0 (by rw [List.getElem?_map, List.getElem?_eq_getElem hr2]; rfl), ?_⟩
    exact k _ _ (List.getElem_mem hr2) s2 (But.trans (But.same ns) b2)
/-- a drawn text -/
def spText : Sp := fun vs H Q _ => ∃ (a : Addr) (sg : List Nat) (m : Int), vs = [.ref a, .str (S sg), .int m] ∧ Src H a ∧ 0 < sg.length ∧ sg.length ≤ 1000 ∧ 0 ≤ m ∧ m < 1000 ∧
  ∀ (t : List Nat) (H' : Hp), (t.length : Int) ≤ m → (∀ c ∈ t, c ∈ sg) → Src H' a → But a H H' → Q (.str (S t)) H'
theorem c__law_text (T : Txt K mg) : Cal P w K mg base CX0 2 "_law_text" spText := by
  have c__law_pick := c__law_pick (P := P) (w := w) (base := base) T
  refine Cal.mk0 T.d__law_text sc__law_text (fun vs H Q E h => ?_) (fun f cdv A outer s H vs Q E hr h => ?_)
  · obtain ⟨a, sg, m, rfl, _⟩ := h
    rfl
  · obtain ⟨a, sg, m, rfl, hs, hg0, hg1, hm0, hm1, k⟩ := h
    refine ⟨_, (pss_cons (ps_set (i := 3) sc__law_text.nd rfl (Or.inl rfl) pe_str)
  (pss_cons (ps_for PassesOwn.never rfl (pi_range1 (by rfl) T.b_range (pa_cons (pe_c c__law_pick hr (by decide) rfl (pa_cons (pv 0) (pa_cons (pe_op op_add (pv 2) pe_int) pa_nil))) pa_nil)) (pg_name (i := 4) sc__law_text.nd rfl (Or.inl rfl))
    (pss_one (ps_set (i := 3) sc__law_text.nd rfl (Or.inl rfl) (pe_op op_add_str (pv 3) (pe_ix ix_str (pv 1) (pe_c c__law_pick hr (by decide) rfl (pa_cons (pv 0) (pa_cons (pe_callB call_len_str (by rfl) T.b_len (by decide +kernel) (pa_cons (pv 1) pa_nil)) pa_nil))) (fun _ _ => rfl))))))
  (pss_one (ps_ret (pv 3))))), ?_⟩
    walk_at "rd"
    refine ⟨_, _, rfl, hs, by omega, by omega, fun n H1 n0 n1 s1 b1 => ?_⟩
    refine ⟨_, rfl, by omega, by omega, for_range (lo := 0) (n := n.toNat) (fun i σ H2 => ∃ (t : List Nat) (v : Option V), σ = [some (.ref a), some (.str (S sg)), some (.int m), some (.str (S t)), v] ∧ t.length = i ∧ (∀ c ∈ t, c ∈ sg) ∧ Src H2 a ∧ But a H H2)
      ⟨[], _, rfl, rfl, by simp, s1, b1⟩ ?_ ?_⟩
    · rintro i σ H2 hi ⟨t, v, rfl, ht, hc, s2, b2⟩
      refine ⟨_, rfl, _, rfl, _, rfl, _, rfl, _, rfl, sz_S (by omega), ?_⟩
      refine ⟨_, _, rfl, s2, by rw [S_len]; omega, by rw [S_len]; omega, fun r H3 r0 r1 s3 b3 => ?_⟩
      rw [S_len] at r1
      have hr2 : r.toNat < sg.length := by omega
      refine ⟨_, r, sg[r.toNat], rfl, rfl, sz_S (by omega), atI_at r0 (by show sg[r.toNat]? = _; simp [hr2]), ?_⟩
      refine ⟨_, _, rfl, rfl, by show (S t).length + (S [sg[r.toNat]]).length ≤ _; rw [S_len, S_len]; exact Nat.le_trans (m := 1000000) (by simp; omega) (by decide), ?_⟩
      refine ⟨t ++ [sg[r.toNat]], some (.int (0 + i)), ?_, by simp [ht], ?_, s3, b2.trans b3⟩
      · rw [← S_cat]; rfl
      · intro c hcc
        rcases List.mem_append.mp hcc with q | q
        · exact hc c q
        · rw [List.mem_singleton] at q; rw [q]; exact List.getElem_mem hr2
    · rintro σ H2 ⟨t, v, rfl, ht, hc, s2, b2⟩
      walk_at "rd"
      exact k _ _ (by omega) hc s2 b2
/-- (len(text), text) -/
def spKey : Sp := fun vs H Q _ => ∃ t : List Nat, vs = [.str (S t)] ∧ t.length ≤ 1000000 ∧ ∀ p, H p = none → Q (.ref p) (upd H p (.tup [.int t.length, .str (S t)]))
theorem c_text_key (T : Txt K mg) : Cal P w K mg base CX0 1 "text_key" spKey := by
  refine Cal.mk0 T.d_text_key sc_text_key (fun vs H Q E h => ?_) (fun f cdv A outer s H vs Q E hr h => ?_)
  · obtain ⟨t, rfl, _⟩ := h
    rfl
  · obtain ⟨t, rfl, ht, k⟩ := h
    refine ⟨_, (pss_one (ps_ret (pe_tup (pa_cons (pe_callB call_len_str (by rfl) T.b_len (by decide +kernel) (pa_cons (pv 0) pa_nil)) (pa_cons (pv 0) pa_nil))))), ?_⟩
    refine ⟨_, rfl, _, rfl, sz_S ht, _, rfl, by walk_at "sz", fun p hp => ?_⟩
    have q := k p hp
    rw [← S_len] at q
    exact q
/-- a drawn rule: its left side has 1 to longest signs, its right side none, or one and the left side two or more -/
def RuleOk (sg : List Nat) (m : Nat) (r : List Nat × List Nat) : Prop :=
  1 ≤ r.1.length ∧ r.1.length ≤ m ∧ (∀ c ∈ r.1, c ∈ sg) ∧ (∀ c ∈ r.2, c ∈ sg) ∧ r.2.length ≤ 1 ∧ r.2.length < r.1.length
def rTup (r : List Nat × List Nat) : List V := [.str (S r.1), .str (S r.2)]
def spRule : Sp := fun vs H Q _ => ∃ (a : Addr) (sg : List Nat) (m : Int), vs = [.ref a, .str (S sg), .int m] ∧ Src H a ∧ 0 < sg.length ∧ sg.length ≤ 1000 ∧ 1 ≤ m ∧ m ≤ 4 ∧
  ∀ (r : List Nat × List Nat) (p : Addr) (H' : Hp), RuleOk sg m.toNat r → Src H' a → But a H H' → H p = none → H' p = some (.tup (rTup r)) → Q (.ref p) H'
theorem c__law_rule (T : Txt K mg) : Cal P w K mg base CX0 2 "_law_rule" spRule := by
  have c__law_pick := c__law_pick (P := P) (w := w) (base := base) T
  refine Cal.mk0 T.d__law_rule sc__law_rule (fun vs H Q E h => ?_) (fun f cdv A outer s H vs Q E hr h => ?_)
  · obtain ⟨a, sg, m, rfl, _⟩ := h
    rfl
  · obtain ⟨a, sg, m, rfl, hs, hg0, hg1, hm0, hm1, k⟩ := h
    refine ⟨_, (pss_cons (ps_set (i := 3) sc__law_rule.nd rfl (Or.inl rfl) (pe_op op_add pe_int (pe_c c__law_pick hr (by decide) rfl (pa_cons (pv 0) (pa_cons (pv 2) pa_nil)))))
  (pss_cons (ps_if (PW.pt (pw_and (pt_cmpR op_eq (pv 3) pe_int (nomark _)) (pw_and1 (pt_cmpR op_gt (pe_c c__law_pick hr (by decide) rfl (pa_cons (pv 0) (pa_cons pe_int pa_nil))) pe_int (nomark _)))))
    (pss_one (ps_set (i := 3) sc__law_rule.nd rfl (Or.inl rfl) (pe_callB (call_min2 rfl) (by rfl) T.b_min (by decide +kernel) (pa_cons pe_int (pa_cons (pv 2) pa_nil)))))
    pss_nil)
  (pss_cons (ps_set (i := 4) sc__law_rule.nd rfl (Or.inl rfl) (pe_join pe_str (pe_lc (own := [("_law_k", 5)]) (g := gName 5) (tt := tYes) rfl sc__law_rule.nd (pi_range1 (by rfl) T.b_range (pa_cons (pv 3) pa_nil)) (blkOk_by (N := ["_law_source_here", "_law_signs_here", "_law_longest", "_law_size", "_law_left", "_law_k"]) (sc := defScope s__law_rule) (by decide +kernel)) (fun _ _ _ _ _ => (pg_name (i := 5) sc__law_rule.nd rfl (Or.inl rfl))) (fun _ _ _ _ _ => pts_nil) (fun _ _ _ _ _ => (pe_ix ix_str (pv 1) (pe_c c__law_pick hr (by decide) rfl (pa_cons (pv 0) (pa_cons (pe_callB call_len_str (by rfl) T.b_len (by decide +kernel) (pa_cons (pv 1) pa_nil)) pa_nil))) (fun _ _ => rfl))))))
  (pss_cons (ps_if (PW.pt (pw_or (pt_cmpR op_eq (pv 3) pe_int (nomark _)) (pw_or1 (pt_cmpR op_eq (pe_c c__law_pick hr (by decide) rfl (pa_cons (pv 0) (pa_cons pe_int pa_nil))) pe_int (nomark _)))))
    (pss_one (ps_ret (pe_tup (pa_cons (pv 4) (pa_cons pe_str pa_nil)))))
    pss_nil)
  (pss_one (ps_ret (pe_tup (pa_cons (pv 4) (pa_cons (pe_ix ix_str (pv 1) (pe_c c__law_pick hr (by decide) rfl (pa_cons (pv 0) (pa_cons (pe_callB call_len_str (by rfl) T.b_len (by decide +kernel) (pa_cons (pv 1) pa_nil)) pa_nil))) (fun _ _ => rfl)) pa_nil))))))))), ?_⟩
    walk_at "rd"
    refine ⟨_, _, rfl, hs, by omega, by omega, fun n H1 n0 n1 s1 b1 => ?_⟩
    refine ⟨_, _, rfl, rfl, ?_⟩
    walk_at "nx"
    refine st_ifJ (fun σ' H' => ∃ z : Int, 1 ≤ z ∧ z ≤ m ∧ σ' = [some (.ref a), some (.str (S sg)), some (.int m), some (.int z), none, none] ∧ Src H' a ∧ But a H H') (fun N kN => ?_) ?_
    · walk_at "rd"
      refine ite2 (fun c0 => ?_) (fun c0 => ?_)
      · walk_at "rd"
        refine ⟨_, _, rfl, s1, by decide, by decide, fun r H2 r0 r1 s2 b2 => ?_⟩
        walk_at "rd"
        refine ite2 (fun c1 => ?_) (fun c1 => ?_)
        · walk_at "rd"
          refine kN _ _ ⟨_, ?_, ?_, rfl, s2, b1.trans b2⟩
          · split <;> omega
          · split <;> omega
        · walk_at "nx"
          exact kN _ _ ⟨_, by omega, by omega, rfl, s2, b1.trans b2⟩
      · walk_at "nx"
        refine iteF ?_
        walk_at "nx"
        exact kN _ _ ⟨_, by omega, by omega, rfl, s1, b1⟩
    · rintro σ' H2 ⟨z, z0, z1, rfl, s2, b2⟩
      refine ⟨⟨_, rfl⟩, _, rfl, _, rfl, by omega, by omega, fun D hD => lc_range (lo := 0) (n := z.toNat) (fun i H3 => ∃ l : List Nat, l.length = i ∧ (∀ c ∈ l, c ∈ sg) ∧ H3 D = some (.lst (l.map fun c => .str (S [c]))) ∧ Src H3 a ∧ But a H2 H3) ?_ ?_ ?_⟩
      · obtain ⟨d, sd, c, ha⟩ := id s2
        exact ⟨[], rfl, by simp, upd_same, ⟨d, sd, c, same_new hD _ _ ha⟩, But.same (same_new hD)⟩
      · rintro i H3 hi ⟨l, hl, hc, h3, s3, b3⟩
        refine ⟨rfl, ty_T ?_⟩
        walk_at "rd"
        refine ⟨_, _, rfl, s3, by rw [S_len]; omega, by rw [S_len]; omega, fun r H4 r0 r1 s4 b4 => ?_⟩
        rw [S_len] at r1
        have hr2 : r.toNat < sg.length := by omega
        have nDa : D ≠ a := by
          obtain ⟨d, sd, c, ha⟩ := id s2
          exact (ne_of_none ha hD).symm
        refine ⟨_, r, sg[r.toNat], rfl, rfl, sz_S (by omega), atI_at r0 (by show sg[r.toNat]? = _; simp [hr2]), ?_⟩
        have h4 := b4 _ _ nDa h3
        refine ⟨_, h4, by rw [List.length_map, hl]; exact Nat.lt_of_le_of_lt (m := 4) (by omega) (by decide), l ++ [sg[r.toNat]], by simp [hl], ?_, ?_, ?_, ?_⟩
        · intro c hcc
          rcases List.mem_append.mp hcc with q | q
          · exact hc c q
          · rw [List.mem_singleton] at q; rw [q]; exact List.getElem_mem hr2
        · rw [List.map_append]; exact upd_same
        · obtain ⟨d, sd, c, ha⟩ := id s4
          exact ⟨d, sd, c, by rw [upd_ne nDa.symm]; exact ha⟩
        · exact but_mut (b3.trans b4) hD
      · rintro H3 ⟨l, hl, hc, h3, s3, b3⟩
        have hjoin : Txt.join (S []) (l.map fun c => S [c]) = S l := by
          have := join_nil (l.map fun c => [c])
          rw [flat_one, List.map_map] at this
          exact this
        have hsum : ∀ l : List Nat, ((l.map fun c => S [c]).map (·.length)).sum = l.length := by
          intro l
          induction l with
          | nil => rfl
          | cons x l ih => rw [List.map_cons, List.map_cons, List.sum_cons, ih, S_len]; simp [Nat.add_comm]
        refine ⟨_, D, l.map fun c => S [c], rfl, rfl, .inl (SqL.of (by rw [List.map_map]; exact h3)), ?_, ?_⟩
        · show ((l.map fun c => S [c]).map (·.length)).sum + (l.map fun c => S [c]).length * 0 ≤ 16777216
          rw [hsum]
          omega
        · show gName 4 (.str (Txt.join (S []) (l.map fun c => S [c]))) _ _ _
          rw [hjoin]
          have nDa : D ≠ a := by
            obtain ⟨d, sd, c, ha⟩ := id s2
            exact (ne_of_none ha hD).symm
          have hDH : H D = none := b2.none_of nDa hD
          have fin : ∀ (r : List Nat) (H4 : Hp) (p : Addr), (∀ c ∈ r, c ∈ sg) → r.length ≤ 1 → r.length < l.length → Src H4 a → But a H3 H4 → H4 p = none → Q (.ref p) (upd H4 p (.tup (rTup (l, r)))) := by
            intro r H4 p hr0 hr1 hr2 s4 b4 hp
            have npa : p ≠ a := by
              obtain ⟨d, sd, c, ha⟩ := id s4
              exact (ne_of_none ha hp).symm
            refine k (l, r) p _ ⟨by show 1 ≤ l.length; omega, by show l.length ≤ m.toNat; omega, hc, hr0, hr1, hr2⟩ ?_ ?_ ?_ upd_same
            · obtain ⟨d, sd, c, ha⟩ := id s4
              exact ⟨d, sd, c, by rw [upd_ne npa.symm]; exact ha⟩
            · exact ((b2.trans b3).trans b4).trans (But.same (same_new hp))
            · exact ((b2.trans b3).trans b4).none_of npa hp
          walk_at "rd"
          refine ite2 (fun c0 => ?_) (fun c0 => ?_)
          · refine iteT ?_
            walk_at "rd"
            refine ⟨by walk_at "sz", fun p hp => ?_⟩
            exact fin [] H3 p (by simp) (by simp) (by show 0 < l.length; omega) s3 (But.refl a H3) hp
          · have hz : ¬ z = 1 := fun e => c0 (by rw [e]; rfl)
            walk_at "rd"
            refine ⟨_, _, rfl, s3, by decide, by decide, fun r H4 r0 r1 s4 b4 => ?_⟩
            walk_at "rd"
            refine ite2 (fun c1 => ?_) (fun c1 => ?_)
            · walk_at "rd"
              refine ⟨by walk_at "sz", fun p hp => ?_⟩
              exact fin [] H4 p (by simp) (by simp) (by show 0 < l.length; omega) s4 b4 hp
            · walk_at "rd"
              refine ⟨_, _, rfl, s4, by rw [S_len]; omega, by rw [S_len]; omega, fun r2 H5 r20 r21 s5 b5 => ?_⟩
              rw [S_len] at r21
              have hr2 : r2.toNat < sg.length := by omega
              refine ⟨_, r2, sg[r2.toNat], rfl, rfl, sz_S (by omega), atI_at r20 (by show sg[r2.toNat]? = _; simp [hr2]), ?_⟩
              refine ⟨by walk_at "sz", fun p hp => ?_⟩
              exact fin [sg[r2.toNat]] H5 p (by intro c hc; rw [List.mem_singleton] at hc; rw [hc]; exact List.getElem_mem hr2) (by simp) (by show 1 < l.length; omega) s5 (b4.trans b5) hp
end
end Sh
/-! texts, rules, piles, ends: plain Lean -/
namespace Bk
abbrev T := List Nat
abbrev Rule := T × T

def fits (p : T) (r : Rule) : Bool := r.1.isSuffixOf p
def useR (p : T) (r : Rule) : T := p.take (p.length - r.1.length) ++ r.2
def used (R : List Rule) (p : T) : Option T := (R.find? (fits p)).map (useR p)
def drain (R : List Rule) : Nat → T → T
  | 0, p => p
  | n + 1, p => match used R p with
    | none => p
    | some q => drain R n q
def pushS (R : List Rule) (p : T) (c : Nat) : T := drain R (p.length + 1) (p ++ [c])
def left (R : List Rule) (t : T) : T := t.foldl (pushS R) []

/-- every right side is shorter than its left side and has at most one sign -/
def Wf (R : List Rule) : Prop := ∀ r ∈ R, r.2.length < r.1.length ∧ r.2.length ≤ 1

inductive Step (R : List Rule) : T → T → Prop where
  | mk (x y : T) (r : Rule) (h : r ∈ R) : Step R (x ++ r.1 ++ y) (x ++ r.2 ++ y)
inductive Reach (R : List Rule) : T → T → Prop where
  | refl (t : T) : Reach R t t
  | step {a b c : T} : Step R a b → Reach R b c → Reach R a c
def IsEnd (R : List Rule) (t : T) : Prop := ∀ u, ¬ Step R t u

theorem Reach.trans {R : List Rule} {a b c : T} (h : Reach R a b) (k : Reach R b c) : Reach R a c := by
  induction h with
  | refl => exact k
  | step s _ ih => exact .step s (ih k)
theorem Step.ctx {R : List Rule} {a b : T} (x y : T) (h : Step R a b) : Step R (x ++ a ++ y) (x ++ b ++ y) := by
  cases h with
  | mk p q r hr =>
    have := Step.mk (R := R) (x ++ p) (q ++ y) r hr
    simpa [List.append_assoc] using this
theorem Reach.ctx {R : List Rule} {a b : T} (x y : T) (h : Reach R a b) : Reach R (x ++ a ++ y) (x ++ b ++ y) := by
  induction h with
  | refl => exact .refl _
  | step s _ ih => exact .step (s.ctx x y) ih
theorem Step.len {R : List Rule} (w : Wf R) {a b : T} (h : Step R a b) : b.length < a.length := by
  cases h with
  | mk p q r hr => have := (w r hr).1; simp; omega
theorem Reach.len {R : List Rule} (w : Wf R) {a b : T} (h : Reach R a b) : b.length ≤ a.length := by
  induction h with
  | refl => exact Nat.le_refl _
  | step s _ ih => have := s.len w; omega

theorem fits_iff {p : T} {r : Rule} : fits p r = true ↔ ∃ x, p = x ++ r.1 := by
  unfold fits
  rw [List.isSuffixOf_iff_suffix]
  constructor
  · rintro ⟨x, h⟩; exact ⟨x, h.symm⟩
  · rintro ⟨x, h⟩; exact ⟨x, h.symm⟩
theorem useR_app {x : T} {r : Rule} : useR (x ++ r.1) r = x ++ r.2 := by
  unfold useR
  simp
theorem used_some {R : List Rule} {p q : T} (h : used R p = some q) : ∃ x r, r ∈ R ∧ p = x ++ r.1 ∧ q = x ++ r.2 := by
  unfold used at h
  cases e : R.find? (fits p) with
  | none => rw [e] at h; cases h
  | some r =>
    rw [e] at h
    have hr := List.mem_of_find?_eq_some e
    have hf := List.find?_some e
    obtain ⟨x, hx⟩ := fits_iff.mp hf
    subst hx
    simp only [Option.map_some, Option.some.injEq] at h
    rw [useR_app] at h
    exact ⟨x, r, hr, rfl, h.symm⟩
theorem used_none {R : List Rule} {p : T} (h : used R p = none) : ∀ r ∈ R, ∀ x, p ≠ x ++ r.1 := by
  intro r hr x e
  unfold used at h
  rw [Option.map_eq_none_iff, List.find?_eq_none] at h
  exact h r hr (fits_iff.mpr ⟨x, e⟩)
theorem used_step {R : List Rule} {p q : T} (h : used R p = some q) : Step R p q := by
  obtain ⟨x, r, hr, rfl, rfl⟩ := used_some h
  have := Step.mk (R := R) x [] r hr
  simpa using this
theorem drain_reach {R : List Rule} : ∀ (n : Nat) (p : T), Reach R p (drain R n p)
  | 0, p => .refl _
  | n + 1, p => by
    unfold drain
    split
    · exact .refl _
    · next q h => exact .step (used_step h) (drain_reach n q)
theorem drain_none {R : List Rule} (w : Wf R) : ∀ (n : Nat) (p : T), p.length ≤ n → used R (drain R n p) = none
  | 0, p, h => by
    have : p = [] := by cases p with | nil => rfl | cons => simp at h
    subst this
    unfold drain
    cases e : used R [] with
    | none => rfl
    | some q => have := (used_step e).len w; simp at this
  | n + 1, p, h => by
    unfold drain
    split
    · next e => exact e
    · next q e =>
      have := (used_step e).len w
      exact drain_none w n q (by omega)
/-- all but the last sign is an end -/
def Near (R : List Rule) (p : T) : Prop := ∃ x y, p = x ++ y ∧ y.length ≤ 1 ∧ IsEnd R x
theorem isEnd_iff {R : List Rule} {t : T} : IsEnd R t ↔ ∀ r ∈ R, ∀ x y, t ≠ x ++ r.1 ++ y := by
  constructor
  · intro h r hr x y e
    exact h (x ++ r.2 ++ y) (e ▸ Step.mk x y r hr)
  · intro h u s
    cases s with
    | mk x y r hr => exact h r hr x y rfl
theorem IsEnd.pre {R : List Rule} {x y : T} (h : IsEnd R (x ++ y)) : IsEnd R x := by
  rw [isEnd_iff] at h ⊢
  intro r hr a b e
  refine h r hr a (b ++ y) ?_
  rw [e]; simp [List.append_assoc]
theorem IsEnd.infix {R : List Rule} {x y z : T} (h : IsEnd R (x ++ y ++ z)) : IsEnd R y := by
  rw [isEnd_iff] at h ⊢
  intro r hr a b e
  refine h r hr (x ++ a) (b ++ z) ?_
  rw [e]; simp [List.append_assoc]
theorem near_end {R : List Rule} (w : Wf R) {p : T} (h : Near R p) (hu : used R p = none) : IsEnd R p := by
  obtain ⟨x, y, rfl, hy, hx⟩ := h
  rw [isEnd_iff] at hx ⊢
  intro r hr a b e
  rcases List.append_eq_append_iff.mp e with ⟨c, e1, e2⟩ | ⟨c, e1, e2⟩
  · -- a ++ r.1 = x ++ c, y = c ++ b
    cases b with
    | nil => exact used_none hu r hr a (by rw [e]; simp)
    | cons b0 b' =>
      have : c = [] := by
        cases c with
        | nil => rfl
        | cons c0 c' =>
          have q := congrArg List.length e2
          simp at q
          omega
      subst this
      exact hx r hr a [] (by simpa using e1.symm)
  · exact hx r hr a c e1
theorem near_used {R : List Rule} (w : Wf R) {p q : T} (h : Near R p) (hu : used R p = some q) : Near R q := by
  obtain ⟨x, y, rfl, hy, hx⟩ := h
  obtain ⟨a, r, hr, e, rfl⟩ := used_some hu
  refine ⟨a, r.2, rfl, (w r hr).2, ?_⟩
  have hl := (w r hr).1
  rcases List.append_eq_append_iff.mp e with ⟨c, e1, e2⟩ | ⟨c, e1, e2⟩
  · -- a = x ++ c, y = c ++ r.1
    have : c = [] := by
      cases c with
      | nil => rfl
      | cons c0 c' =>
        have q := congrArg List.length e2
        simp at q
        omega
    subst this
    simp at e1
    rw [e1]; exact hx
  · rw [e1] at hx; exact hx.pre
theorem near_drain {R : List Rule} (w : Wf R) : ∀ (n : Nat) (p : T), Near R p → p.length ≤ n → IsEnd R (drain R n p)
  | 0, p, h, hn => by
    have hu := drain_none w 0 p hn
    exact near_end w h hu
  | n + 1, p, h, hn => by
    unfold drain
    split
    · next e => exact near_end w h e
    · next q e =>
      have := (used_step e).len w
      exact near_drain w n q (near_used w h e) (by omega)
theorem push_end {R : List Rule} (w : Wf R) {p : T} {c : Nat} (h : IsEnd R p) : IsEnd R (pushS R p c) :=
  near_drain w _ _ ⟨p, [c], rfl, Nat.le_refl _, h⟩ (by simp)
theorem foldl_end {R : List Rule} (w : Wf R) : ∀ (t p : T), IsEnd R p → IsEnd R (t.foldl (pushS R) p)
  | [], _, h => h
  | c :: t, p, h => foldl_end w t _ (push_end w h)
theorem end_nil {R : List Rule} (w : Wf R) : IsEnd R [] := by
  intro u s
  have := s.len w
  simp at this
theorem left_end {R : List Rule} (w : Wf R) (t : T) : IsEnd R (left R t) := foldl_end w t [] (end_nil w)
theorem foldl_reach {R : List Rule} : ∀ (t p : T), Reach R (p ++ t) (t.foldl (pushS R) p)
  | [], p => by simpa using Reach.refl (R := R) p
  | c :: t, p => by
    have h1 : Reach R (p ++ [c]) (pushS R p c) := drain_reach _ _
    have h2 := h1.ctx [] t
    have h3 := foldl_reach (R := R) t (pushS R p c)
    simp only [List.nil_append, List.append_assoc, List.singleton_append] at h2
    exact h2.trans h3
theorem left_reach {R : List Rule} (t : T) : Reach R t (left R t) := by
  exact foldl_reach (R := R) t []
theorem reach_end {R : List Rule} {a b : T} (h : IsEnd R a) (k : Reach R a b) : b = a := by
  cases k with
  | refl => rfl
  | step s _ => exact absurd s (h _)
theorem left_of_end {R : List Rule} {t : T} (h : IsEnd R t) : left R t = t := reach_end h (left_reach t)

/-! ### overlaps -/
def Join (R : List Rule) (a b : T) : Prop := ∃ c, Reach R a c ∧ Reach R b c
theorem Join.symm {R : List Rule} {a b : T} (h : Join R a b) : Join R b a := by
  obtain ⟨c, h1, h2⟩ := h; exact ⟨c, h2, h1⟩
theorem Join.ctx {R : List Rule} {a b : T} (x y : T) (h : Join R a b) : Join R (x ++ a ++ y) (x ++ b ++ y) := by
  obtain ⟨c, h1, h2⟩ := h; exact ⟨_, h1.ctx x y, h2.ctx x y⟩

/-- the overlap of a with b at a place below the length of a: the text, if they agree -/
def over (a b : T) (k : Nat) : Option T :=
  if (a.drop k).take (min (a.length - k) b.length) = b.take (min (a.length - k) b.length) then some (a ++ b.drop (min (a.length - k) b.length)) else none
/-- both results -/
def res1 (r : Rule) (t : T) : T := r.2 ++ t.drop r.1.length
def res2 (r : Rule) (t : T) (k : Nat) : T := t.take k ++ r.2 ++ t.drop (k + r.1.length)
/-- the overlaps of all pairs of rules, each with equal ends -/
def Meets (R : List Rule) : Prop := ∀ r ∈ R, ∀ q ∈ R, ∀ k, k < r.1.length → ∀ t, over r.1 q.1 k = some t → left R (res1 r t) = left R (res2 q t k)

theorem over_app {p b y a z : T} (h : p ++ b ++ y = a ++ z) (hk : p.length < a.length) :
    ∃ t y', over a b p.length = some t ∧ p ++ b ++ y = t ++ y' ∧ t.drop a.length ++ y' = z ∧ t.drop (p.length + b.length) ++ y' = y ∧ t.take p.length = p := by
  have hlen : (p ++ b ++ y).length = (a ++ z).length := by rw [h]
  simp at hlen
  rw [List.append_assoc] at h
  rcases List.append_eq_append_iff.mp h with ⟨c, e1, e2⟩ | ⟨c, e1, e2⟩
  · -- a = p ++ c, b ++ y = c ++ z
    subst e1
    rcases List.append_eq_append_iff.mp e2 with ⟨d, e3, e4⟩ | ⟨d, e3, e4⟩
    · -- c = b ++ d, y = d ++ z : b within a
      subst e3; subst e4
      refine ⟨p ++ (b ++ d), z, ?_, ?_, ?_, ?_, ?_⟩
      · unfold over
        have : min ((p ++ (b ++ d)).length - p.length) b.length = b.length := by simp
        rw [this]
        simp
      · simp [List.append_assoc]
      · simp
      · rw [← List.append_assoc p b d, ← List.length_append, List.drop_left]
      · simp
    · -- b = c ++ d, z = d ++ y
      subst e3; subst e4
      refine ⟨p ++ c ++ d, y, ?_, ?_, ?_, ?_, ?_⟩
      · unfold over
        have : min ((p ++ c).length - p.length) (c ++ d).length = c.length := by simp
        rw [this]
        simp
      · simp [List.append_assoc]
      · rw [List.drop_left]
      · simp [← Nat.add_assoc]
      · simp [List.append_assoc]
  · -- p = a ++ c
    subst e1
    simp at hk
    omega
theorem local_le {R : List Rule} (M : Meets R) {x1 y1 x2 y2 : T} {r q : Rule} (hr : r ∈ R) (hq : q ∈ R) (e : x1 ++ r.1 ++ y1 = x2 ++ q.1 ++ y2) (hl : x1.length ≤ x2.length) :
    Join R (x1 ++ r.2 ++ y1) (x2 ++ q.2 ++ y2) := by
  have e' : x1 ++ (r.1 ++ y1) = x2 ++ (q.1 ++ y2) := by simpa [List.append_assoc] using e
  obtain ⟨p, hp⟩ : ∃ p, x2 = x1 ++ p := by
    rcases List.append_eq_append_iff.mp e' with ⟨c, e1, _⟩ | ⟨c, e1, _⟩
    · exact ⟨c, e1⟩
    · have : c = [] := by
        have := congrArg List.length e1
        simp at this
        cases c with
        | nil => rfl
        | cons => simp at this; omega
      subst this
      exact ⟨[], by simpa using e1.symm⟩
  subst hp
  have e2 : r.1 ++ y1 = p ++ (q.1 ++ y2) := by
    rw [List.append_assoc] at e'
    exact List.append_cancel_left e'
  by_cases hk : p.length < r.1.length
  · obtain ⟨t, y', ho, _, hz, hy, htk⟩ := over_app (p := p) (b := q.1) (y := y2) (a := r.1) (z := y1) (by rw [e2, List.append_assoc]) hk
    have m := M r hr q hq p.length hk t ho
    have j : Join R (res1 r t) (res2 q t p.length) := ⟨_, left_reach _, m ▸ left_reach _⟩
    have j2 := j.ctx x1 y'
    have a1 : x1 ++ res1 r t ++ y' = x1 ++ r.2 ++ y1 := by
      unfold res1; rw [← hz]; simp [List.append_assoc]
    have a2 : x1 ++ res2 q t p.length ++ y' = x1 ++ p ++ q.2 ++ y2 := by
      unfold res2; rw [← hy, htk]; simp [List.append_assoc]
    rw [a1, a2] at j2
    exact j2
  · -- apart
    obtain ⟨m, hm⟩ : ∃ m, p = r.1 ++ m := by
      rcases List.append_eq_append_iff.mp e2 with ⟨c, e1, _⟩ | ⟨c, e1, _⟩
      · exact ⟨c, e1⟩
      · have : c = [] := by
          have := congrArg List.length e1
          simp at this
          cases c with
          | nil => rfl
          | cons => simp at this; omega
        subst this
        exact ⟨[], by simpa using e1.symm⟩
    subst hm
    have hy1 : y1 = m ++ (q.1 ++ y2) := by
      rw [List.append_assoc] at e2
      exact List.append_cancel_left e2
    subst hy1
    refine ⟨x1 ++ r.2 ++ m ++ q.2 ++ y2, ?_, ?_⟩
    · have := Step.mk (R := R) (x1 ++ r.2 ++ m) y2 q hq
      refine .step ?_ (.refl _)
      simpa [List.append_assoc] using this
    · have := Step.mk (R := R) x1 (m ++ q.2 ++ y2) r hr
      refine .step ?_ (.refl _)
      simpa [List.append_assoc] using this
theorem local_conf {R : List Rule} (M : Meets R) {s a b : T} (h : Step R s a) (k : Step R s b) : Join R a b := by
  generalize hs : s = s' at k
  cases h with
  | mk x1 y1 r hr =>
    cases k with
    | mk x2 y2 q hq =>
      by_cases hl : x1.length ≤ x2.length
      · exact local_le M hr hq hs hl
      · exact (local_le M hq hr hs.symm (by omega)).symm
/-- in a book whose overlaps meet each text has one end -/
theorem one_end {R : List Rule} (w : Wf R) (M : Meets R) : ∀ (n : Nat) (s : T), s.length ≤ n → ∀ a b, Reach R s a → Reach R s b → IsEnd R a → IsEnd R b → a = b
  | n, s, hn, a, b, ha, hb, ea, eb => by
    cases ha with
    | refl => exact (reach_end ea hb).symm
    | step s1 r1 =>
      cases hb with
      | refl => exact absurd s1 (eb _)
      | step s2 r2 =>
        rename_i u v
        cases n with
        | zero => have := s1.len w; omega
        | succ n =>
          have l1 := s1.len w
          have l2 := s2.len w
          obtain ⟨c, c1, c2⟩ := local_conf M s1 s2
          have z1 := one_end w M n u (by omega) a (left R c) r1 (c1.trans (left_reach c)) ea (left_end w c)
          have z2 := one_end w M n v (by omega) b (left R c) r2 (c2.trans (left_reach c)) eb (left_end w c)
          rw [z1, z2]
theorem left_eq {R : List Rule} (w : Wf R) (M : Meets R) {s a : T} (h : Reach R s a) : left R s = left R a :=
  one_end w M s.length s (Nat.le_refl _) _ _ (left_reach s) (h.trans (left_reach a)) (left_end w s) (left_end w a)
/-- pieces may be shrunk apart -/
theorem left_app {R : List Rule} (w : Wf R) (M : Meets R) (x y : T) : left R (x ++ y) = left R (left R x ++ left R y) := by
  refine left_eq w M ?_
  have h1 := (left_reach (R := R) x).ctx [] y
  have h2 := (left_reach (R := R) y).ctx (left R x) []
  simp only [List.nil_append, List.append_nil] at h1 h2
  exact h1.trans h2
theorem left_congr {R : List Rule} (w : Wf R) (M : Meets R) {x x' y y' : T} (h : left R x = left R x') (k : left R y = left R y') : left R (x ++ y) = left R (x' ++ y') := by
  rw [left_app w M x y, left_app w M x' y', h, k]

/-! ### exchanging signs -/
def Swap (R : List Rule) (x y : T) : Prop := left R (x ++ y) = left R (y ++ x)
theorem Swap.app {R : List Rule} (w : Wf R) (M : Meets R) {x y z : T} (h : Swap R x z) (k : Swap R y z) : Swap R (x ++ y) z := by
  unfold Swap at *
  have e1 : left R (x ++ y ++ z) = left R (x ++ z ++ y) := by
    rw [List.append_assoc, List.append_assoc]
    exact left_congr w M rfl k
  have e2 : left R (x ++ z ++ y) = left R (z ++ x ++ y) := left_congr w M h rfl
  rw [e1, e2, List.append_assoc]
theorem Swap.symm {R : List Rule} {x y : T} (h : Swap R x y) : Swap R y x := Eq.symm h
theorem swap_all {R : List Rule} (w : Wf R) (M : Meets R) {s : List Nat} (h : ∀ a ∈ s, ∀ b ∈ s, Swap R [a] [b]) :
    ∀ x y : T, (∀ c ∈ x, c ∈ s) → (∀ c ∈ y, c ∈ s) → Swap R x y := by
  have one : ∀ (a : Nat), a ∈ s → ∀ y : T, (∀ c ∈ y, c ∈ s) → Swap R y [a] := by
    intro a ha y
    induction y with
    | nil => intro _; unfold Swap; simp
    | cons b y ih =>
      intro hy
      exact Swap.app (x := [b]) (y := y) w M (h b (hy b List.mem_cons_self) a ha) (ih fun c hc => hy c (List.mem_cons_of_mem _ hc))
  intro x
  induction x with
  | nil => intro y _ _; unfold Swap; simp
  | cons a x ih =>
    intro y hx hy
    exact Swap.app (x := [a]) (y := x) w M (one a (hx a List.mem_cons_self) y hy).symm (ih y (fun c hc => hx c (List.mem_cons_of_mem _ hc)) hy)
end Bk
/-! the pile of the program: rules by their left sides; plain Lean -/
namespace Bk
def firstAt : List Rule → Nat → T → Option (Nat × T)
  | [], _, _ => none
  | r :: R, k, l => if r.1 = l then some (k, r.2) else firstAt R (k + 1) l
theorem firstAt_app (R Q : List Rule) (k : Nat) (l : T) : firstAt (R ++ Q) k l = match firstAt R k l with
    | some z => some z
    | none => firstAt Q (k + R.length) l := by
  induction R generalizing k with
  | nil => simp [firstAt]
  | cons r R ih =>
    simp only [List.cons_append, firstAt]
    by_cases h : r.1 = l
    · simp [h]
    · simp only [h, if_false]
      rw [ih (k + 1)]
      have : k + 1 + R.length = k + (r :: R).length := by simp; omega
      rw [this]
theorem firstAt_snoc (R : List Rule) (r : Rule) (l : T) : firstAt (R ++ [r]) 0 l = match firstAt R 0 l with
    | some z => some z
    | none => if r.1 = l then some (R.length, r.2) else none := by
  rw [firstAt_app]
  simp [firstAt]
theorem firstAt_snoc_some {R : List Rule} (r : Rule) {l : T} {z : Nat × T} (h : firstAt R 0 l = some z) : firstAt (R ++ [r]) 0 l = some z := by
  rw [firstAt_snoc, h]
theorem firstAt_snoc_none {R : List Rule} (r : Rule) {l : T} (h : firstAt R 0 l = none) : firstAt (R ++ [r]) 0 l = if r.1 = l then some (R.length, r.2) else none := by
  rw [firstAt_snoc, h]
theorem firstAt_none {R : List Rule} {k : Nat} {l : T} : firstAt R k l = none ↔ ∀ r ∈ R, r.1 ≠ l := by
  induction R generalizing k with
  | nil => simp [firstAt]
  | cons r R ih =>
    simp only [firstAt, List.mem_cons, forall_eq_or_imp]
    by_cases h : r.1 = l
    · simp [h]
    · simp [h, ih]
theorem firstAt_some {R : List Rule} {k j : Nat} {l s : T} (h : firstAt R k l = some (j, s)) : k ≤ j ∧ R[j - k]? = some (l, s) ∧ ∀ i, i < j - k → ∀ r, R[i]? = some r → r.1 ≠ l := by
  induction R generalizing k with
  | nil => simp [firstAt] at h
  | cons r R ih =>
    simp only [firstAt] at h
    by_cases hr : r.1 = l
    · rw [if_pos hr] at h
      simp only [Option.some.injEq, Prod.mk.injEq] at h
      obtain ⟨rfl, rfl⟩ := h
      refine ⟨Nat.le_refl _, by simp [← hr], fun i hi => by omega⟩
    · rw [if_neg hr] at h
      obtain ⟨h1, h2, h3⟩ := ih h
      have e : j - k = (j - (k + 1)) + 1 := by omega
      refine ⟨by omega, by rw [e]; simpa using h2, fun i hi q hq => ?_⟩
      cases i with
      | zero => simp at hq; rw [← hq]; exact hr
      | succ i => exact h3 i (by omega) q (by simpa using hq)
/-- the length of the longest left side -/
def lg (R : List Rule) : Nat := (R.map (·.1.length)).foldl max 0
theorem foldl_max_le {l : List Nat} {a : Nat} : a ≤ l.foldl max a ∧ ∀ x ∈ l, x ≤ l.foldl max a := by
  induction l generalizing a with
  | nil => simp
  | cons b l ih =>
    obtain ⟨h1, h2⟩ := ih (a := max a b)
    simp only [List.foldl_cons, List.mem_cons, forall_eq_or_imp]
    exact ⟨Nat.le_trans (Nat.le_max_left _ _) h1, Nat.le_trans (Nat.le_max_right _ _) h1, h2⟩
theorem foldl_max_mem {l : List Nat} {a : Nat} : l.foldl max a = a ∨ l.foldl max a ∈ l := by
  induction l generalizing a with
  | nil => simp
  | cons b l ih =>
    simp only [List.foldl_cons, List.mem_cons]
    rcases ih (a := max a b) with h | h
    · rw [h]
      rcases Nat.le_total a b with q | q
      · right; left; exact Nat.max_eq_right q
      · left; exact Nat.max_eq_left q
    · exact .inr (.inr h)
theorem lg_le {R : List Rule} {r : Rule} (h : r ∈ R) : r.1.length ≤ lg R := foldl_max_le.2 _ (List.mem_map_of_mem h)
theorem lg_eq {R : List Rule} {m : Nat} (h1 : m ∈ 0 :: R.map (·.1.length)) (h2 : ∀ y ∈ 0 :: R.map (·.1.length), y ≤ m) : m = lg R := by
  have a : lg R ≤ m := by
    rcases foldl_max_mem (l := R.map (·.1.length)) (a := 0) with h | h
    · unfold lg; rw [h]; exact Nat.zero_le _
    · exact h2 _ (List.mem_cons_of_mem _ h)
  have b : m ≤ lg R := by
    rcases List.mem_cons.mp h1 with h | h
    · rw [h]; exact Nat.zero_le _
    · exact foldl_max_le.2 _ h
  omega
/-- the best rule of left sides up to i signs: its number, its size, its right side -/
def bestUp (R : List Rule) (t : T) : Nat → Option (Nat × Nat × T)
  | 0 => none
  | i + 1 => match firstAt R 0 (t.drop (t.length - (i + 1))) with
    | none => bestUp R t i
    | some (k, r) => match bestUp R t i with
      | none => some (k, i + 1, r)
      | some b => if k < b.1 then some (k, i + 1, r) else some b
/-- rules with at most i signs that stand at the end -/
def Fit (R : List Rule) (t : T) (i k : Nat) (r : Rule) : Prop := R[k]? = some r ∧ 1 ≤ r.1.length ∧ r.1.length ≤ i ∧ ∃ x, t = x ++ r.1
theorem suffix_drop {t x l : T} (h : t = x ++ l) : t.drop (t.length - l.length) = l := by
  subst h; simp
theorem bestUp_spec (R : List Rule) (t : T) : ∀ i, i ≤ t.length → match bestUp R t i with
    | none => ∀ k r, ¬ Fit R t i k r
    | some (k, s, r) => (∃ l, Fit R t i k (l, r) ∧ l.length = s) ∧ ∀ k' r', Fit R t i k' r' → k ≤ k'
  | 0, _ => by
    simp only [bestUp]
    rintro k r ⟨_, h1, h2, _⟩
    omega
  | i + 1, hi => by
    have ih := bestUp_spec R t i (by omega)
    have wide : ∀ (k : Nat) (r : Rule), Fit R t (i + 1) k r → Fit R t i k r ∨ (r.1.length = i + 1 ∧ R[k]? = some r ∧ r.1 = t.drop (t.length - (i + 1))) := by
      rintro k r ⟨h1, h2, h3, x, hx⟩
      by_cases e : r.1.length = i + 1
      · exact .inr ⟨e, h1, by rw [← e]; exact (suffix_drop hx).symm⟩
      · exact .inl ⟨h1, h2, by omega, x, hx⟩
    have mono : ∀ (k : Nat) (r : Rule), Fit R t i k r → Fit R t (i + 1) k r := fun k r ⟨h1, h2, h3, h4⟩ => ⟨h1, h2, by omega, h4⟩
    simp only [bestUp]
    cases hf : firstAt R 0 (t.drop (t.length - (i + 1))) with
    | none =>
      have hn := firstAt_none.mp hf
      have no : ∀ (k : Nat) (r : Rule), R[k]? = some r → r.1 ≠ t.drop (t.length - (i + 1)) := fun k r h => hn r (List.mem_of_getElem? h)
      cases hb : bestUp R t i with
      | none =>
        rw [hb] at ih
        intro k r h
        rcases wide k r h with q | ⟨_, q1, q2⟩
        · exact ih k r q
        · exact no k r q1 q2
      | some b =>
        obtain ⟨k, s, r⟩ := b
        rw [hb] at ih
        obtain ⟨⟨l, h1, h2⟩, h3⟩ := ih
        refine ⟨⟨l, mono _ _ h1, h2⟩, fun k' r' h => ?_⟩
        rcases wide k' r' h with q | ⟨_, q1, q2⟩
        · exact h3 k' r' q
        · exact absurd q2 (no k' r' q1)
    | some z =>
      obtain ⟨k, r⟩ := z
      obtain ⟨_, f2, f3⟩ := firstAt_some hf
      rw [Nat.sub_zero] at f2 f3
      have hl : (t.drop (t.length - (i + 1))).length = i + 1 := by rw [List.length_drop]; omega
      have new : Fit R t (i + 1) k (t.drop (t.length - (i + 1)), r) := ⟨f2, by simp only; omega, by simp only; omega, t.take (t.length - (i + 1)), by simp⟩
      have least : ∀ (k' : Nat) (r' : Rule), R[k']? = some r' → r'.1 = t.drop (t.length - (i + 1)) → k ≤ k' := fun k' r' h e => by
        rcases Nat.lt_or_ge k' k with q | q
        · exact absurd e (f3 k' q r' h)
        · exact q
      cases hb : bestUp R t i with
      | none =>
        rw [hb] at ih
        refine ⟨⟨_, new, hl⟩, fun k' r' h => ?_⟩
        rcases wide k' r' h with q | ⟨_, q1, q2⟩
        · exact absurd q (ih k' r')
        · exact least k' r' q1 q2
      | some b =>
        obtain ⟨kb, sb, rb⟩ := b
        rw [hb] at ih
        obtain ⟨⟨l, h1, h2⟩, h3⟩ := ih
        simp only
        by_cases hk : k < kb
        · rw [if_pos hk]
          refine ⟨⟨_, new, hl⟩, fun k' r' h => ?_⟩
          rcases wide k' r' h with q | ⟨_, q1, q2⟩
          · have := h3 k' r' q; omega
          · exact least k' r' q1 q2
        · rw [if_neg hk]
          refine ⟨⟨l, mono _ _ h1, h2⟩, fun k' r' h => ?_⟩
          rcases wide k' r' h with q | ⟨_, q1, q2⟩
          · exact h3 k' r' q
          · have := least k' r' q1 q2; omega
theorem find_least {R : List Rule} {p : Rule → Bool} {k : Nat} {r : Rule} (h1 : R[k]? = some r) (h2 : p r = true) (h3 : ∀ k' r', R[k']? = some r' → p r' = true → k ≤ k') : R.find? p = some r := by
  induction R generalizing k with
  | nil => simp at h1
  | cons a R ih =>
    cases k with
    | zero =>
      simp at h1
      subst h1
      simp [h2]
    | succ k =>
      have ha : p a = false := by
        cases e : p a with
        | false => rfl
        | true => have := h3 0 a (by simp) e; omega
      rw [List.find?_cons, ha]
      exact ih (k := k) (by simpa using h1) (fun k' r' q1 q2 => by have := h3 (k' + 1) r' (by simpa using q1) q2; omega)
/-- what the program finds is what the first fitting rule gives -/
theorem used_best {R : List Rule} (w : Wf R) (t : T) : used R t = (bestUp R t (min (lg R) t.length)).map fun b => t.take (t.length - b.2.1) ++ b.2.2 := by
  have sp := bestUp_spec R t (min (lg R) t.length) (by omega)
  have full : ∀ (k : Nat) (r : Rule), R[k]? = some r → fits t r = true → Fit R t (min (lg R) t.length) k r := by
    intro k r h f
    obtain ⟨x, hx⟩ := fits_iff.mp f
    have hm := List.mem_of_getElem? h
    have h1 := (w r hm).1
    have h2 := lg_le hm
    have h3 : r.1.length ≤ t.length := by rw [hx]; simp
    exact ⟨h, by omega, by omega, x, hx⟩
  cases hb : bestUp R t (min (lg R) t.length) with
  | none =>
    rw [hb] at sp
    simp only [Option.map_none]
    unfold used
    rw [Option.map_eq_none_iff, List.find?_eq_none]
    intro r hr f
    obtain ⟨k, hk, rfl⟩ := List.mem_iff_getElem.mp hr
    exact sp k R[k] (full k R[k] (by simp [hk]) f)
  | some b =>
    obtain ⟨k, s, r⟩ := b
    rw [hb] at sp
    obtain ⟨⟨l, ⟨h1, h2, h3, x, hx⟩, hs⟩, h4⟩ := sp
    have hf : R.find? (fits t) = some (l, r) := find_least h1 (fits_iff.mpr ⟨x, hx⟩) (fun k' r' q1 q2 => h4 k' r' (full k' r' q1 q2))
    unfold used
    rw [hf]
    simp only [Option.map_some, useR, hs]
end Bk
set_option Elab.async false
set_option linter.all false
set_option maxRecDepth 100000
set_option maxHeartbeats 4000000
namespace Sh
open PySem PySem.Spec PyProof.Rows L2
open SX (S S_inj S_len S_cat)
open Bk (Rule firstAt lg bestUp used left drain pushS Wf)
local macro_rules | `(tactic| walk_at "nx") => `(tactic| repeat (with_reducible first | refine Sh.gn_mk ?_ | refine Sh.nx_mk ?_ | refine Sh.st_nx ?_ | refine Sh.rt_mk ?_ | refine Sh.ct_mk ?_ | refine Sh.bk_mk ?_))
local macro_rules | `(tactic| walk_at "sq") => `(tactic| first | exact SqL.of upd_same | exact SqT.of upd_same | exact SqL.of (by assumption) | exact SqT.of (by assumption) | assumption | exact Or.inl (SqL.of (by assumption)) | exact Or.inr (SqT.of (by assumption)) | exact Or.inl (by assumption) | exact Or.inr (by assumption))
local macro_rules | `(tactic| walk_at "hp") => `(tactic| first | exact upd_same | assumption)
local macro_rules | `(tactic| walk_at "sz") => `(tactic| first | exact Nat.le_of_ble_eq_true rfl | omega)
local macro_rules | `(tactic| walk_at "sd") => `(tactic| first | omega | exact rfl | assumption | (show (0 : Int) < _; omega) | exact And.intro (by omega) (by omega) | exact Or.inl (And.intro (by omega) (by omega)) | exact Or.inr (And.intro (by omega) (by omega)) | omega | exact Sh.sz_S (by omega) | decide)
local macro_rules | `(tactic| walk_at "rd1") => `(tactic| first
  | (with_reducible first | refine Sh.gn_mk ?_ | refine Sh.nx_mk ?_ | refine Sh.st_nx ?_ | refine Sh.rt_mk ?_ | refine Sh.ct_mk ?_ | refine Sh.bk_mk ?_)
  | refine Exists.intro (α := V) _ (And.intro rfl ?_)
  | refine Exists.intro (α := Bool) _ (And.intro rfl ?_)
  | refine Exists.intro (α := Int) _ (And.intro rfl ?_)
  | refine Exists.intro (α := PySem.Str) _ (And.intro rfl ?_)
  | refine Exists.intro (α := Int) _ (Exists.intro (α := Int) _ (And.intro rfl (And.intro rfl ?_)))
  | refine Exists.intro (α := PySem.Str) _ (Exists.intro (α := PySem.Str) _ (And.intro rfl (And.intro rfl ?_)))
  | refine Exists.intro (α := Int) _ (Exists.intro (α := Int) _ (And.intro rfl ?_))
  | refine Or.inl (Exists.intro (α := Int) _ (And.intro rfl ?_))
  | refine Exists.intro _ (Exists.intro _ (Exists.intro _ (Exists.intro _ (And.intro rfl (And.intro rfl (And.intro (by walk_at "sq") (And.intro rfl ?_)))))))
  | refine Exists.intro _ (Exists.intro _ (Exists.intro _ (Exists.intro _ (And.intro rfl (And.intro rfl (And.intro (by walk_at "hp") (And.intro rfl ?_)))))))
  | refine And.intro (by walk_at "sd") ?_
  )
local macro_rules | `(tactic| walk_at "rd") => `(tactic| repeat walk_at "rd1")
local macro_rules | `(tactic| walk_at "lk") => `(tactic| first | exact rfl | (rw [lookup_putF, if_pos rfl]) | (rw [lookup_putF, if_neg (by decide +kernel)]; walk_at "lk"))

section
variable {P : Program} {w : World} {K : PySem.W.Frag} {mg : Str → Option Value} {base : Heap}
/-! ### kinds of values -/
def tys : List String := ["NoneType", "bool", "int", "str", "list", "tuple", "dict"]
def isaB (n m : String) : Bool := n == m || (n == "bool" && m == "int")
theorem kit_all : ∀ n ∈ tys, ∀ m ∈ ["tuple", "list", "str", "int", "bool"], kitB n m = some (isaB n m) := by decide +kernel
theorem ty_tup {H : Hp} {a : Addr} {xs : List V} (h : SqT K H a xs) : TyX K H (.ref a) (.type "tuple") := by
  rcases h with (h | ⟨o, h⟩) | ⟨o, its, n, hk, hc, _⟩
  · exact .base (.tup h)
  · exact .fTuple h
  · exact .kTuple hk hc
theorem ty_lst {H : Hp} {a : Addr} {xs : List V} (h : SqL K H a xs) : TyX K H (.ref a) (.type "list") := by
  rcases h with (h | ⟨o, h⟩) | ⟨o, its, n, hk, hc, _⟩
  · exact .base (.lst h)
  · exact .base (.frz h)
  · exact .kList hk hc
def spListed (K : PySem.W.Frag) : Sp := fun vs H Q _ => ∃ (v : V) (n : String), vs = [v] ∧ TyX K H v (.type n) ∧ n ∈ tys ∧ Q (.bl (n == "tuple" || n == "list")) H
theorem isaB_tup {n : String} (h : n ∈ tys) : isaB n "tuple" = (n == "tuple") := by
  simp only [tys, List.mem_cons, List.not_mem_nil, or_false] at h
  rcases h with rfl | rfl | rfl | rfl | rfl | rfl | rfl <;> decide
theorem isaB_lst {n : String} (h : n ∈ tys) : isaB n "list" = (n == "list") := by
  simp only [tys, List.mem_cons, List.not_mem_nil, or_false] at h
  rcases h with rfl | rfl | rfl | rfl | rfl | rfl | rfl <;> decide
theorem isaB_str {n : String} (h : n ∈ tys) : isaB n "str" = (n == "str") := by
  simp only [tys, List.mem_cons, List.not_mem_nil, or_false] at h
  rcases h with rfl | rfl | rfl | rfl | rfl | rfl | rfl <;> decide
theorem c_is_listed (T : Txt K mg) : Cal P w K mg base CX0 1 "is_listed" (spListed K) := by
  refine Cal.mk0 T.d_is_listed sc_is_listed (fun vs H Q E h => ?_) (fun f cdv A outer s H vs Q E hr h => ?_)
  · obtain ⟨v, n, rfl, _⟩ := h
    rfl
  · obtain ⟨v, n, rfl, ht, hn, k⟩ := h
    refine ⟨_, (pss_one (ps_ret (pe_or (pe_callB call_isi (by rfl) T.b_isinstance (by decide +kernel) (pa_cons (pv 0) (pa_cons (pe_bltn (v := .ty "tuple") (by rfl) T.b_tuple (by decide +kernel) rfl) pa_nil))) (pe_one (pe_callB call_isi (by rfl) T.b_isinstance (by decide +kernel) (pa_cons (pv 0) (pa_cons (pe_bltn (v := .ty "list") (by rfl) T.b_list (by decide +kernel) rfl) pa_nil))))))), ?_⟩
    walk_at "rd"
    refine ⟨_, _, _, _, _, rfl, .ty _, ht, kit_ty (kit_all _ hn _ (by decide)), _, rfl, ?_⟩
    rw [isaB_tup hn]
    by_cases c : (n == "tuple") = true
    · rw [c] at k ⊢
      exact iteT k
    · rw [Bool.not_eq_true] at c
      rw [c] at k ⊢
      refine iteF ?_
      walk_at "rd"
      refine ⟨_, _, _, _, _, rfl, .ty _, ht, kit_ty (kit_all _ hn _ (by decide)), ?_⟩
      rw [isaB_lst hn]
      exact k
/-! ### signs -/
def letters : List Nat := (Str.ofString "abcdefghijklmnopqrstuvwxyz").cps.toList
def okAt (sg : List Nat) (k : Nat) : Bool := decide (sg.getD k 0 ∈ letters) && (k == 0 || decide ([sg.getD (k - 1) 0] < [sg.getD k 0]))
def isSigns (sg : List Nat) : Bool := decide (1 ≤ sg.length) && decide (sg.length ≤ 8) && (List.range sg.length).all (okAt sg)
theorem menu_signs : ∀ sg ∈ sgMenu, isSigns sg = true := by decide +kernel
theorem menu_len : ∀ sg ∈ sgMenu, 0 < sg.length ∧ sg.length ≤ 3 := by decide +kernel
/-- a value that is no text -/
def NotStr (K : PySem.W.Frag) (H : Hp) (v : V) : Prop := ∃ n, TyX K H v (.type n) ∧ n ∈ tys ∧ n ≠ "str"
/-- is_signs of a text, or of what is none -/
def spIsSigns (K : PySem.W.Frag) : Sp := fun vs H Q _ => (∃ sg : List Nat, vs = [.str (S sg)] ∧ sg.length ≤ 1000000 ∧ Q (.bl (isSigns sg)) H) ∨ ∃ v : V, vs = [v] ∧ NotStr K H v ∧ Q (.bl false) H
theorem getD_some {l : List Nat} {k : Nat} (h : k < l.length) : l[k]? = some (l.getD k 0) := by
  rw [List.getD_eq_getElem?_getD, List.getElem?_eq_getElem h]; rfl
theorem c_is_signs (T : Txt K mg) : Cal P w K mg base CX0 1 "is_signs" (spIsSigns K) := by
  refine Cal.mk0 T.d_is_signs sc_is_signs (fun vs H Q E h => ?_) (fun f cdv A outer s H vs Q E hr h => ?_)
  · rcases h with ⟨sg, rfl, _⟩ | ⟨v, rfl, _⟩ <;> rfl
  · rcases h with ⟨sg, rfl, hl, k⟩ | ⟨v, rfl, ⟨n, ht, hn, hs⟩, k⟩
    rotate_left
    · refine ⟨_, (pss_cons (ps_if (PW.pt (pw_or (pt_not (pt_val (pe_callB call_isi (by rfl) T.b_isinstance (by decide +kernel) (pa_cons (pv 0) (pa_cons (pe_bltn (v := .ty "str") (by rfl) T.b_str (by decide +kernel) rfl) pa_nil))))) (pw_or1 (pt_not (pt_chain op_le op_le pe_int (pe_callB call_len_str (by rfl) T.b_len (by decide +kernel) (pa_cons (pv 0) pa_nil)) pe_int)))))
    (pss_one (ps_ret pe_bl))
    pss_nil)
  (pss_cons (ps_for PassesOwn.never rfl (pi_range1 (by rfl) T.b_range (pa_cons (pe_callB call_len_str (by rfl) T.b_len (by decide +kernel) (pa_cons (pv 0) pa_nil)) pa_nil)) (pg_name (i := 1) sc_is_signs.nd rfl (Or.inl rfl))
    (pss_one (ps_if (PW.pt (pw_or (pt_cmpR op_notIn_sign (pe_ix ix_str (pv 0) (pv 1) (fun _ _ => rfl)) (pe_gK rfl T.g_LETTERS) (by rfl)) (pw_or1 (PW.pt (pw_and (pt_cmpR op_gt (pv 1) pe_int (nomark _)) (pw_and1 (pt_cmpR op_ge_str (pe_ix ix_str (pv 0) (pe_op op_sub (pv 1) pe_int) (fun _ _ => rfl)) (pe_ix ix_str (pv 0) (pv 1) (fun _ _ => rfl)) (nomark _))))))))
      (pss_one (ps_ret pe_bl))
      pss_nil)))
  (pss_one (ps_ret pe_bl)))), ?_⟩
      walk_at "rd"
      refine ⟨_, _, _, _, _, rfl, .ty _, ht, kit_ty (kit_all _ hn _ (by decide)), _, rfl, ?_⟩
      rw [isaB_str hn, show (n == "str") = false from by simp [hs]]
      refine iteT ?_
      walk_at "rd"
      exact k
    refine ⟨_, (pss_cons (ps_if (PW.pt (pw_or (pt_not (pt_val (pe_callB call_isi (by rfl) T.b_isinstance (by decide +kernel) (pa_cons (pv 0) (pa_cons (pe_bltn (v := .ty "str") (by rfl) T.b_str (by decide +kernel) rfl) pa_nil))))) (pw_or1 (pt_not (pt_chain op_le op_le pe_int (pe_callB call_len_str (by rfl) T.b_len (by decide +kernel) (pa_cons (pv 0) pa_nil)) pe_int)))))
    (pss_one (ps_ret pe_bl))
    pss_nil)
  (pss_cons (ps_for PassesOwn.never rfl (pi_range1 (by rfl) T.b_range (pa_cons (pe_callB call_len_str (by rfl) T.b_len (by decide +kernel) (pa_cons (pv 0) pa_nil)) pa_nil)) (pg_name (i := 1) sc_is_signs.nd rfl (Or.inl rfl))
    (pss_one (ps_if (PW.pt (pw_or (pt_cmpR op_notIn_sign (pe_ix ix_str (pv 0) (pv 1) (fun _ _ => rfl)) (pe_gK rfl T.g_LETTERS) (by rfl)) (pw_or1 (PW.pt (pw_and (pt_cmpR op_gt (pv 1) pe_int (nomark _)) (pw_and1 (pt_cmpR op_ge_str (pe_ix ix_str (pv 0) (pe_op op_sub (pv 1) pe_int) (fun _ _ => rfl)) (pe_ix ix_str (pv 0) (pv 1) (fun _ _ => rfl)) (nomark _))))))))
      (pss_one (ps_ret pe_bl))
      pss_nil)))
  (pss_one (ps_ret pe_bl)))), ?_⟩
    walk_at "rd"
    refine ⟨_, _, _, _, _, rfl, .ty _, .base (.str _), kit_ty (r := true) (by decide +kernel), _, rfl, ?_⟩
    refine iteF ?_
    have hSl := S_len sg
    have bad : ∀ b : Bool, isSigns sg = b → Q (.bl b) H := fun b e => e ▸ k
    walk_at "rd"
    refine ite2 (fun c0 => ?_) (fun c0 => ?_)
    · have c0' : (1 : Int) ≤ (S sg).length := of_decide_eq_true c0
      walk_at "rd"
      refine ite2 (fun c1 => ?_) (fun c1 => ?_)
      · walk_at "rd"
        refine bad false ?_
        have c1' : ¬ ((S sg).length : Int) ≤ 8 := by simpa using c1
        have c2 : ¬ sg.length ≤ 8 := by omega
        simp only [isSigns, c2, decide_false, Bool.and_false, Bool.false_and]
      · have c1' : ((S sg).length : Int) ≤ 8 := by simpa using c1
        walk_at "rd"
        refine for_range (lo := 0) (n := (((S sg).length : Int)).toNat) (fun i σ H2 => (∃ v, σ = [some (.str (S sg)), v]) ∧ H2 = H ∧ ∀ j, j < i → okAt sg j = true)
          ⟨⟨_, rfl⟩, rfl, fun j hj => by omega⟩ ?_ ?_
        · rintro i σ H2 hi ⟨⟨v, rfl⟩, rfl, ok⟩
          have hi2 : i < sg.length := by omega
          have e1 : atI sg ((0 : Int) + i) = some (sg.getD i 0) := atI_at (by omega) (by rw [show ((0 : Int) + i).toNat = i by omega]; exact getD_some hi2)
          walk_at "rd"
          refine ⟨_, _, _, rfl, rfl, sz_S hl, e1, ?_⟩
          refine ⟨_, _, rfl, rfl, ?_⟩
          have notOk : okAt sg i = false → isSigns sg = false := fun e => by
            cases hb : isSigns sg with
            | false => rfl
            | true =>
              simp only [isSigns, Bool.and_eq_true, List.all_eq_true] at hb
              rw [hb.2 i (List.mem_range.mpr hi2)] at e
              cases e
          have more : okAt sg i = true → ∀ j, j < i + 1 → okAt sg j = true := fun e j hj => by
            rcases Nat.lt_succ_iff_lt_or_eq.mp hj with q | q
            · exact ok j q
            · rw [q]; exact e
          walk_at "rd"
          refine ite2 (fun d0 => ?_) (fun d0 => ?_)
          · refine iteT ?_
            walk_at "rd"
            refine bad false (notOk ?_)
            have d1 : ¬ sg.getD i 0 ∈ letters := by
              intro hm
              have : decide (sg.getD i 0 ∈ letters) = true := decide_eq_true hm
              rw [show (PySem.Str.cps (Str.ofString "abcdefghijklmnopqrstuvwxyz")).toList = letters from rfl, this] at d0
              cases d0
            simp only [okAt, d1, decide_false, Bool.false_and]
          · have d1 : sg.getD i 0 ∈ letters := by
              by_cases hm : sg.getD i 0 ∈ letters
              · exact hm
              · exact absurd (by rw [show (PySem.Str.cps (Str.ofString "abcdefghijklmnopqrstuvwxyz")).toList = letters from rfl, decide_eq_false hm]; rfl) d0
            walk_at "rd"
            refine ite2 (fun d2 => ?_) (fun d2 => ?_)
            · have d3 : (0 : Int) < 0 + i := of_decide_eq_true d2
              have e2 : atI sg ((0 : Int) + i - 1) = some (sg.getD (i - 1) 0) := atI_at (by omega) (by rw [show ((0 : Int) + i - 1).toNat = i - 1 by omega]; exact getD_some (by omega))
              walk_at "rd"
              refine ⟨_, _, _, rfl, rfl, sz_S hl, e2, ?_⟩
              walk_at "rd"
              refine ⟨_, _, _, rfl, rfl, sz_S hl, e1, ?_⟩
              refine ⟨_, _, rfl, rfl, ?_⟩
              walk_at "rd"
              refine ite2 (fun d4 => ?_) (fun d4 => ?_)
              · walk_at "rd"
                refine bad false (notOk ?_)
                have d5 : decide ([sg.getD (i - 1) 0] < [sg.getD i 0]) = false := by
                  cases hd : decide ([sg.getD (i - 1) 0] < [sg.getD i 0]) with
                  | false => rfl
                  | true =>
                    have d4' : (!decide ([sg.getD (i - 1) 0] < [sg.getD i 0])) = true := d4
                    rw [hd] at d4'; cases d4'
                have d6 : (i == 0) = false := by rw [beq_eq_false_iff_ne]; omega
                simp only [okAt, d5, d6, Bool.or_false, Bool.and_false]
              · walk_at "rd"
                refine ⟨⟨_, rfl⟩, rfl, more ?_⟩
                have d5 : decide ([sg.getD (i - 1) 0] < [sg.getD i 0]) = true := by
                  cases hd : decide ([sg.getD (i - 1) 0] < [sg.getD i 0]) with
                  | true => rfl
                  | false =>
                    refine absurd ?_ d4
                    show (!decide ([sg.getD (i - 1) 0] < [sg.getD i 0])) = true
                    rw [hd]; rfl
                simp only [okAt, d1, d5, decide_true, Bool.or_true, Bool.and_true]
            · have d3 : i = 0 := by
                have : ¬ (0 : Int) < 0 + i := by simpa using d2
                omega
              refine iteF ?_
              walk_at "rd"
              refine ⟨⟨_, rfl⟩, rfl, more ?_⟩
              subst d3
              simp only [okAt, d1, decide_true, Bool.true_and, beq_self_eq_true, Bool.true_or]
        · rintro σ H2 ⟨⟨v, rfl⟩, rfl, ok⟩
          walk_at "rd"
          refine bad true ?_
          have c2 : 1 ≤ sg.length := by omega
          have c3 : sg.length ≤ 8 := by omega
          simp only [isSigns, c2, c3, decide_true, Bool.true_and, List.all_eq_true]
          intro j hj
          exact ok j (by have := List.mem_range.mp hj; omega)
    · have c0' : ¬ (1 : Int) ≤ (S sg).length := by simpa using c0
      walk_at "rd"
      refine iteT ?_
      walk_at "rd"
      refine bad false ?_
      have c2 : ¬ 1 ≤ sg.length := by omega
      simp only [isSigns, c2, decide_false, Bool.false_and]
/-- check_signs: what are signs passes -/
def spCheckSigns : Sp := fun vs H Q _ => ∃ sg : List Nat, vs = [.str (S sg)] ∧ isSigns sg = true ∧ Q .non H
theorem signs_len {sg : List Nat} (h : isSigns sg = true) : 1 ≤ sg.length ∧ sg.length ≤ 8 := by
  simp only [isSigns, Bool.and_eq_true, decide_eq_true_eq] at h
  exact h.1
theorem c_check_signs (T : Txt K mg) : Cal P w K mg base CX0 2 "check_signs" spCheckSigns := by
  have c_is_signs := c_is_signs (P := P) (w := w) (base := base) T
  refine Cal.mk0 T.d_check_signs sc_check_signs (fun vs H Q E h => ?_) (fun f cdv A outer s H vs Q E hr h => ?_)
  · obtain ⟨sg, rfl, _⟩ := h
    rfl
  · obtain ⟨sg, rfl, hs, k⟩ := h
    have hl := signs_len hs
    refine ⟨_, (pss_one (ps_if (pt_not (pt_truth (pe_c c_is_signs hr (by decide) rfl (pa_cons (pv 0) pa_nil)) (by intro _; rfl)))
    (pss_one ps_never)
    pss_nil)), ?_⟩
    walk_at "rd"
    refine .inl ⟨sg, rfl, by omega, ?_⟩
    rw [hs]
    walk_at "rd"
    refine iteF ?_
    walk_at "rd"
    exact k
/-- is_text of a text -/
def isText (sg t : List Nat) (lo hi : Int) : Bool := decide (lo ≤ t.length) && decide ((t.length : Int) ≤ hi) && t.all fun c => decide (c ∈ sg)
def spIsText (K : PySem.W.Frag) : Sp := fun vs H Q _ => (∃ (sg t : List Nat) (lo hi : Int), vs = [.str (S sg), .str (S t), .int lo, .int hi] ∧ t.length ≤ 1000000 ∧ Q (.bl (isText sg t lo hi)) H) ∨ ∃ (u v a b : V), vs = [u, v, a, b] ∧ NotStr K H v ∧ Q (.bl false) H
theorem c_is_text (T : Txt K mg) : Cal P w K mg base CX0 1 "is_text" (spIsText K) := by
  refine Cal.mk0 T.d_is_text sc_is_text (fun vs H Q E h => ?_) (fun f cdv A outer s H vs Q E hr h => ?_)
  · rcases h with ⟨sg, t, lo, hi, rfl, _⟩ | ⟨u, v, a, b, rfl, _⟩ <;> rfl
  · rcases h with ⟨sg, t, lo, hi, rfl, hl, k⟩ | ⟨u, v, a, b, rfl, ⟨n, ht, hn, hs⟩, k⟩
    rotate_left
    · refine ⟨_, (pss_cons (ps_if (PW.pt (pw_or (pt_not (pt_val (pe_callB call_isi (by rfl) T.b_isinstance (by decide +kernel) (pa_cons (pv 1) (pa_cons (pe_bltn (v := .ty "str") (by rfl) T.b_str (by decide +kernel) rfl) pa_nil))))) (pw_or1 (pt_not (pt_chain op_le op_le (pv 2) (pe_callB call_len_str (by rfl) T.b_len (by decide +kernel) (pa_cons (pv 1) pa_nil)) (pv 3))))))
    (pss_one (ps_ret pe_bl))
    pss_nil)
  (pss_cons (ps_for PassesOwn.never rfl (pi_str (pv 1)) (pg_name (i := 4) sc_is_text.nd rfl (Or.inl rfl))
    (pss_one (ps_if (pt_cmpR op_notIn_sign (pv 4) (pv 0) (by rfl))
      (pss_one (ps_ret pe_bl))
      pss_nil)))
  (pss_one (ps_ret pe_bl)))), ?_⟩
      walk_at "rd"
      refine ⟨_, _, _, _, _, rfl, .ty _, ht, kit_ty (kit_all _ hn _ (by decide)), _, rfl, ?_⟩
      rw [isaB_str hn, show (n == "str") = false from by simp [hs]]
      refine iteT ?_
      walk_at "rd"
      exact k
    refine ⟨_, (pss_cons (ps_if (PW.pt (pw_or (pt_not (pt_val (pe_callB call_isi (by rfl) T.b_isinstance (by decide +kernel) (pa_cons (pv 1) (pa_cons (pe_bltn (v := .ty "str") (by rfl) T.b_str (by decide +kernel) rfl) pa_nil))))) (pw_or1 (pt_not (pt_chain op_le op_le (pv 2) (pe_callB call_len_str (by rfl) T.b_len (by decide +kernel) (pa_cons (pv 1) pa_nil)) (pv 3))))))
    (pss_one (ps_ret pe_bl))
    pss_nil)
  (pss_cons (ps_for PassesOwn.never rfl (pi_str (pv 1)) (pg_name (i := 4) sc_is_text.nd rfl (Or.inl rfl))
    (pss_one (ps_if (pt_cmpR op_notIn_sign (pv 4) (pv 0) (by rfl))
      (pss_one (ps_ret pe_bl))
      pss_nil)))
  (pss_one (ps_ret pe_bl)))), ?_⟩
    have hSl := S_len t
    walk_at "rd"
    refine ⟨_, _, _, _, _, rfl, .ty _, .base (.str _), kit_ty (r := true) (by decide +kernel), _, rfl, ?_⟩
    refine iteF ?_
    have bad : ∀ b : Bool, isText sg t lo hi = b → Q (.bl b) H := fun b e => e ▸ k
    walk_at "rd"
    refine ite2 (fun c0 => ?_) (fun c0 => ?_)
    · have c0' : lo ≤ (S t).length := of_decide_eq_true c0
      walk_at "rd"
      refine ite2 (fun c1 => ?_) (fun c1 => ?_)
      · walk_at "rd"
        refine bad false ?_
        have c1' : ¬ ((S t).length : Int) ≤ hi := by simpa using c1
        have c2 : ¬ (t.length : Int) ≤ hi := by omega
        simp only [isText, c2, decide_false, Bool.and_false, Bool.false_and]
      · have c1' : ((S t).length : Int) ≤ hi := by simpa using c1
        walk_at "rd"
        refine for_str (l := t) (fun pre σ H2 => (∃ v, σ = [some (.str (S sg)), some (.str (S t)), some (.int lo), some (.int hi), v]) ∧ H2 = H ∧ ∀ c ∈ pre, c ∈ sg) ⟨⟨_, rfl⟩, rfl, by simp⟩ ?_ ?_
        · rintro pre c post σ H2 e ⟨⟨v, rfl⟩, rfl, ok⟩
          walk_at "rd"
          refine ⟨_, _, rfl, rfl, _, rfl, ?_⟩
          refine ite2 (fun d0 => ?_) (fun d0 => ?_)
          · walk_at "rd"
            refine bad false ?_
            have d1 : c ∉ sg := by
              intro hm
              have d2 : (!decide (c ∈ sg)) = true := d0
              rw [decide_eq_true hm] at d2
              cases d2
            have d2 : (t.all fun c => decide (c ∈ sg)) = false := by
              rw [List.all_eq_false]
              exact ⟨c, by rw [e]; simp, by rw [decide_eq_false d1]; exact Bool.false_ne_true⟩
            simp only [isText, d2, Bool.and_false]
          · walk_at "rd"
            refine ⟨⟨_, rfl⟩, rfl, fun x hx => ?_⟩
            rcases List.mem_append.mp hx with q | q
            · exact ok x q
            · rw [List.mem_singleton] at q
              rw [q]
              by_cases hm : c ∈ sg
              · exact hm
              · refine absurd ?_ d0
                show (!decide (c ∈ sg)) = true
                rw [decide_eq_false hm]; rfl
        · rintro σ H2 ⟨⟨v, rfl⟩, rfl, ok⟩
          walk_at "rd"
          refine bad true ?_
          have c2 : lo ≤ (t.length : Int) := by omega
          have c3 : (t.length : Int) ≤ hi := by omega
          simp only [isText, c2, c3, decide_true, Bool.true_and, List.all_eq_true]
          exact fun c hc => decide_eq_true (ok c hc)
    · have c0' : ¬ lo ≤ (S t).length := by simpa using c0
      walk_at "rd"
      refine iteT ?_
      walk_at "rd"
      refine bad false ?_
      have c2 : ¬ lo ≤ (t.length : Int) := by omega
      simp only [isText, c2, decide_false, Bool.false_and]
def spCheckText : Sp := fun vs H Q _ => ∃ (sg t : List Nat), vs = [.str (S sg), .str (S t)] ∧ t.length ≤ 200 ∧ (∀ c ∈ t, c ∈ sg) ∧ Q .non H
theorem c_check_text (T : Txt K mg) : Cal P w K mg base CX0 2 "check_text" spCheckText := by
  have c_is_text := c_is_text (P := P) (w := w) (base := base) T
  refine Cal.mk0 T.d_check_text sc_check_text (fun vs H Q E h => ?_) (fun f cdv A outer s H vs Q E hr h => ?_)
  · obtain ⟨sg, t, rfl, _⟩ := h
    rfl
  · obtain ⟨sg, t, rfl, hl, hc, k⟩ := h
    refine ⟨_, (pss_one (ps_if (pt_not (pt_truth (pe_c c_is_text hr (by decide) rfl (pa_cons (pv 0) (pa_cons (pv 1) (pa_cons pe_int (pa_cons (pe_gK rfl T.g_LONGEST_TEXT) pa_nil))))) (by intro _; rfl)))
    (pss_one ps_never)
    pss_nil)), ?_⟩
    walk_at "rd"
    refine .inl ⟨sg, t, 0, 200, rfl, by omega, ?_⟩
    have e : isText sg t 0 200 = true := by
      have c2 : (0 : Int) ≤ (t.length : Int) := by omega
      have c3 : (t.length : Int) ≤ 200 := by omega
      simp only [isText, c2, c3, decide_true, Bool.true_and, List.all_eq_true]
      exact fun c h => decide_eq_true (hc c h)
    rw [e]
    walk_at "rd"
    refine iteF ?_
    walk_at "rd"
    exact k
end
end Sh
set_option Elab.async false
set_option linter.all false
set_option maxRecDepth 100000
set_option maxHeartbeats 4000000
namespace Sh
open PySem PySem.Spec PyProof.Rows L2
open SX (S S_inj S_len S_cat)
open Bk (Rule firstAt lg bestUp used left drain pushS Wf)
local macro_rules | `(tactic| walk_at "nx") => `(tactic| repeat (with_reducible first | refine Sh.gn_mk ?_ | refine Sh.nx_mk ?_ | refine Sh.st_nx ?_ | refine Sh.rt_mk ?_ | refine Sh.ct_mk ?_ | refine Sh.bk_mk ?_))
local macro_rules | `(tactic| walk_at "sq") => `(tactic| first | exact SqL.of upd_same | exact SqT.of upd_same | exact SqL.of (by assumption) | exact SqT.of (by assumption) | assumption | exact Or.inl (SqL.of (by assumption)) | exact Or.inr (SqT.of (by assumption)) | exact Or.inl (by assumption) | exact Or.inr (by assumption))
local macro_rules | `(tactic| walk_at "hp") => `(tactic| first | exact upd_same | assumption)
local macro_rules | `(tactic| walk_at "sz") => `(tactic| first | exact Nat.le_of_ble_eq_true rfl | omega)
local macro_rules | `(tactic| walk_at "sd") => `(tactic| first | omega | exact rfl | assumption | (show (0 : Int) < _; omega) | exact And.intro (by omega) (by omega) | exact Or.inl (And.intro (by omega) (by omega)) | exact Or.inr (And.intro (by omega) (by omega)) | omega | exact Sh.sz_S (by omega) | decide)
local macro_rules | `(tactic| walk_at "rd1") => `(tactic| first
  | (with_reducible first | refine Sh.gn_mk ?_ | refine Sh.nx_mk ?_ | refine Sh.st_nx ?_ | refine Sh.rt_mk ?_ | refine Sh.ct_mk ?_ | refine Sh.bk_mk ?_)
  | refine Exists.intro (α := V) _ (And.intro rfl ?_)
  | refine Exists.intro (α := Bool) _ (And.intro rfl ?_)
  | refine Exists.intro (α := Int) _ (And.intro rfl ?_)
  | refine Exists.intro (α := PySem.Str) _ (And.intro rfl ?_)
  | refine Exists.intro (α := Int) _ (Exists.intro (α := Int) _ (And.intro rfl (And.intro rfl ?_)))
  | refine Exists.intro (α := PySem.Str) _ (Exists.intro (α := PySem.Str) _ (And.intro rfl (And.intro rfl ?_)))
  | refine Exists.intro (α := Int) _ (Exists.intro (α := Int) _ (And.intro rfl ?_))
  | refine Or.inl (Exists.intro (α := Int) _ (And.intro rfl ?_))
  | refine Exists.intro _ (Exists.intro _ (Exists.intro _ (Exists.intro _ (And.intro rfl (And.intro rfl (And.intro (by walk_at "sq") (And.intro rfl ?_)))))))
  | refine Exists.intro _ (Exists.intro _ (Exists.intro _ (Exists.intro _ (And.intro rfl (And.intro rfl (And.intro (by walk_at "hp") (And.intro rfl ?_)))))))
  | refine And.intro (by walk_at "sd") ?_
  )
local macro_rules | `(tactic| walk_at "rd") => `(tactic| repeat walk_at "rd1")
local macro_rules | `(tactic| walk_at "lk") => `(tactic| first | exact rfl | (rw [lookup_putF, if_pos rfl]) | (rw [lookup_putF, if_neg (by decide +kernel)]; walk_at "lk"))

section
variable {P : Program} {w : World} {K : PySem.W.Frag} {mg : Str → Option Value} {base : Heap}
/-- a tuple of rules stands at a -/
structure RulesAt (K : PySem.W.Frag) (H : Hp) (a : Addr) (xs : List V) (R : List Rule) : Prop where
  sq : SqT K H a xs
  len : xs.length = R.length
  it : ∀ (i : Nat) x r, xs[i]? = some x → R[i]? = some r → ∃ q, x = .ref q ∧ SqT K H q (rTup r)
theorem RulesAt.keep {H H' : Hp} {a : Addr} {xs : List V} {R : List Rule} (h : RulesAt K H a xs R) (k : Keep H H') : RulesAt K H' a xs R :=
  ⟨k.seq h.sq, h.len, fun i x r h1 h2 => let ⟨q, e, s⟩ := h.it i x r h1 h2; ⟨q, e, k.seq s⟩⟩
theorem RulesAt.same {H H' : Hp} {a : Addr} {xs : List V} {R : List Rule} (h : RulesAt K H a xs R) (k : Same H H') : RulesAt K H' a xs R := h.keep (Keep.same k)
theorem RulesAt.get {H : Hp} {a : Addr} {xs : List V} {R : List Rule} (h : RulesAt K H a xs R) {i : Nat} {r : Rule} (hr : R[i]? = some r) : ∃ q, xs[i]? = some (.ref q) ∧ SqT K H q (rTup r) := by
  obtain ⟨hi, _⟩ := List.getElem?_eq_some_iff.mp hr
  have hi2 : i < xs.length := by rw [h.len]; exact hi
  obtain ⟨q, e, s⟩ := h.it i xs[i] r (List.getElem?_eq_getElem hi2) hr
  exact ⟨q, by rw [List.getElem?_eq_getElem hi2, e], s⟩
/-- the dict of the left sides -/
def LeftsK (H : Hp) (kvs : List (Key × V)) (R : List Rule) : Prop :=
  ∀ l : List Nat, (firstAt R 0 l = none → valV kvs (Sum.inr (S l)) = none) ∧ ∀ k r, firstAt R 0 l = some (k, r) → ∃ q, valV kvs (Sum.inr (S l)) = some (.ref q) ∧ H q = some (.tup [.int (k : Nat), .str (S r)])
theorem LeftsK.same {H H' : Hp} {kvs : List (Key × V)} {R : List Rule} (h : LeftsK H kvs R) (s : Same H H') : LeftsK H' kvs R :=
  fun l => ⟨(h l).1, fun k r e => let ⟨q, e1, e2⟩ := (h l).2 k r e; ⟨q, e1, s _ _ e2⟩⟩
/-- .. stands at p -/
def LeftsAt (H : Hp) (p : Addr) (R : List Rule) : Prop := ∃ kvs, H p = some (.dK kvs) ∧ LeftsK H kvs R
theorem LeftsAt.same {H H' : Hp} {p : Addr} {R : List Rule} (h : LeftsAt H p R) (s : Same H H') : LeftsAt H' p R := let ⟨kvs, e, k⟩ := h; ⟨kvs, s _ _ e, k.same s⟩
theorem LeftsAt.but {H H' : Hp} {p a : Addr} {R : List Rule} (h : LeftsAt H p R) (s : But a H H') (z : Src H a) : LeftsAt H' p R := by
  obtain ⟨kvs, e, k⟩ := h
  obtain ⟨d, sd, c, ha⟩ := z
  refine ⟨kvs, s _ _ (ne_of e ha (by intro q; cases q)) e, fun l => ⟨(k l).1, fun j r e => ?_⟩⟩
  obtain ⟨q, e1, e2⟩ := (k l).2 j r e
  exact ⟨q, e1, s _ _ (ne_of e2 ha (by intro q; cases q)) e2⟩
def spFirst (K : PySem.W.Frag) : Sp := fun vs H Q _ => ∃ (a : Addr) (xs : List V) (R : List Rule), vs = [.ref a] ∧ RulesAt K H a xs R ∧ R.length ≤ 64 ∧ ∀ (p : Addr) (H' : Hp), H p = none → Same H H' → LeftsAt H' p R → Q (.ref p) H'
theorem lefts_snoc {H H' : Hp} {kvs : List (Key × V)} {R : List Rule} {r : Rule} {q : Addr} (h : LeftsK H kvs R) (s : ∀ b o, H b = some o → (∃ ys, o = .tup ys) → H' b = some o) (hn : valV kvs (Sum.inr (S r.1)) = none)
    (hq : H' q = some (.tup [.int (R.length : Nat), .str (S r.2)])) : LeftsK H' (putK kvs (Sum.inr (S r.1)) (.ref q)) (R ++ [r]) := by
  have none_of : firstAt R 0 r.1 = none := by
    cases e : firstAt R 0 r.1 with
    | none => rfl
    | some z =>
      obtain ⟨q, e1, _⟩ := (h r.1).2 z.1 z.2 e
      rw [hn] at e1; cases e1
  intro l
  rw [valV_put]
  by_cases hl : l = r.1
  · subst hl
    rw [Bk.firstAt_snoc_none r none_of]
    simp only [if_true]
    refine ⟨fun e => by simp at e, fun k z e => ?_⟩
    simp only [Option.some.injEq, Prod.mk.injEq] at e
    obtain ⟨rfl, rfl⟩ := e
    exact ⟨q, rfl, hq⟩
  · have hne : ¬ (Sum.inr (S l) : Key) = Sum.inr (S r.1) := fun e => hl (S_inj (Sum.inr.inj e))
    rw [if_neg hne]
    cases e : firstAt R 0 l with
    | none =>
      rw [Bk.firstAt_snoc_none r e, if_neg (Ne.symm hl)]
      exact ⟨fun _ => (h l).1 e, fun k z e => by cases e⟩
    | some z =>
      rw [Bk.firstAt_snoc_some r e]
      refine ⟨fun e => (by cases e), fun k y e' => ?_⟩
      cases e'
      obtain ⟨q', e1, e2⟩ := (h l).2 k y e
      exact ⟨q', e1, s _ _ e2 ⟨_, rfl⟩⟩
theorem lefts_skip {H : Hp} {kvs : List (Key × V)} {R : List Rule} {r : Rule} (h : LeftsK H kvs R) (hn : valV kvs (Sum.inr (S r.1)) ≠ none) : LeftsK H kvs (R ++ [r]) := by
  intro l
  cases e : firstAt R 0 l with
  | some z =>
    rw [Bk.firstAt_snoc_some r e]
    exact ⟨fun e => (by cases e), fun k y e' => by cases e'; exact (h l).2 _ _ e⟩
  | none =>
    have hne : ¬ r.1 = l := fun e' => hn (by rw [e']; exact (h l).1 e)
    rw [Bk.firstAt_snoc_none r e, if_neg hne]
    exact ⟨fun _ => (h l).1 e, fun k z e => by cases e⟩
theorem c_first_rules (T : Txt K mg) : Cal P w K mg base CX0 1 "first_rules" (spFirst K) := by
  refine Cal.mk0 T.d_first_rules sc_first_rules (fun vs H Q E h => ?_) (fun f cdv A outer s H vs Q E hr h => ?_)
  · obtain ⟨a, xs, R, rfl, _⟩ := h
    rfl
  · obtain ⟨a, xs, R, rfl, hR, hl, k⟩ := h
    have hu := hu_of hr
    have hlx := hR.len
    refine ⟨_, (pss_cons (ps_set (i := 1) sc_first_rules.nd rfl (Or.inl rfl) pe_dnewK)
  (pss_cons (ps_for PassesOwn.never rfl (pi_range1 (by rfl) T.b_range (pa_cons (pe_callB call_len_seq (by rfl) T.b_len (by decide +kernel) (pa_cons (pv 0) pa_nil)) pa_nil)) (pg_name (i := 2) sc_first_rules.nd rfl (Or.inl rfl))
    (pss_cons (ps_asg (pe_ix ix_tup (pv 0) (pv 2) (fun _ _ => rfl)) (pg_tup (by rfl) (pgs_cons (pg_name (i := 3) sc_first_rules.nd rfl (Or.inl rfl)) (pgs_cons (pg_name (i := 4) sc_first_rules.nd rfl (Or.inl rfl)) pgs_nil))))
    (pss_one (ps_if (pt_cmp (pc_dnotin hu (pv 3) (pv 1)))
      (pss_one (ps_dput hu (pv 1) (pv 3) (pe_tup (pa_cons (pv 2) (pa_cons (pv 4) pa_nil))) rfl))
      pss_nil))))
  (pss_one (ps_ret (pv 1))))), ?_⟩
    walk_at "rd"
    intro p hp
    have hR1 := hR.same (same_new (o := .dK []) hp)
    refine ⟨_, rfl, a, xs, rfl, .inr hR1.sq, ?_⟩
    walk_at "rd"
    refine for_range (lo := 0) (n := ((xs.length : Int)).toNat) (fun i σ H2 => ∃ (kvs : List (Key × V)) (v2 v3 v4 : Option V), σ = [some (.ref a), some (.ref p), v2, v3, v4] ∧ Same H H2 ∧ H2 p = some (.dK kvs) ∧ kvs.length ≤ i ∧ LeftsK H2 kvs (R.take i))
      ⟨[], _, _, _, rfl, same_new hp, upd_same, Nat.le_refl _, fun l => ⟨fun _ => rfl, fun k r e => by simp [firstAt] at e⟩⟩ ?_ ?_
    · rintro i σ H2 hi ⟨kvs, v2, v3, v4, rfl, s2, hp2, hk, L⟩
      have hi2 : i < R.length := by omega
      have hr2 : R[i]? = some R[i] := by simp [hi2]
      obtain ⟨q, hq, sq⟩ := (hR.same s2).get hr2
      refine ⟨_, rfl, _, rfl, a, xs, _, .ref q, rfl, rfl, (hR.same s2).sq, atI_at (by omega) (by rw [show ((0 : Int) + i).toNat = i by omega]; exact hq), ?_⟩
      refine ⟨q, _, rfl, sq, rfl, _, _, rfl, _, _, rfl, rfl, ?_⟩
      have et : R.take (i + 1) = R.take i ++ [R[i]] := by rw [List.take_succ, hr2]; rfl
      walk_at "rd"
      refine ⟨p, _, rfl, DGet.k (k := Sum.inr (S R[i].1)) hp2, ?_⟩
      walk_at "rd"
      cases hv : valV kvs (Sum.inr (S R[i].1) : Key) with
      | none =>
        refine iteT ?_
        refine ⟨_, rfl, _, rfl, by walk_at "sz", fun q2 hq2 => ?_⟩
        have nq : q2 ≠ p := (ne_of_none hp2 hq2).symm
        refine ⟨_, rfl, _, rfl, p, _, rfl, DPut.k (k := Sum.inr (S R[i].1)) (by rw [upd_ne nq.symm]; exact hp2) (by exact Nat.lt_of_le_of_lt (m := 64) (by omega) (by decide)), ?_⟩
        have s3 : Same H2 (upd H2 q2 (.tup [.int (0 + (i : Int)), .str (S R[i].2)])) := same_new hq2
        refine ⟨_, _, _, _, rfl, same_mut (s2.trans s3) hp, upd_same, ?_, ?_⟩
        · rw [putK_new _ hv]; simp; omega
        · rw [et]
          refine lefts_snoc L (fun b o hb ⟨ys, e⟩ => ?_) hv ?_
          · rw [upd_ne (ne_of hb hp2 (by intro z; rw [e] at z; cases z))]
            exact s3 b o hb
          · rw [upd_ne nq, List.length_take, Nat.min_eq_left (by omega)]
            rw [upd_same]
            simp
      | some z =>
        refine iteF ?_
        walk_at "rd"
        refine ⟨_, _, _, _, rfl, s2, hp2, by omega, ?_⟩
        rw [et]
        exact lefts_skip L (by rw [hv]; simp)
    · rintro σ H2 ⟨kvs, v2, v3, v4, rfl, s2, hp2, hk, L⟩
      walk_at "rd"
      refine k p H2 hp s2 ⟨kvs, hp2, ?_⟩
      rw [List.take_of_length_le (by omega)] at L
      exact L
/-- the longest left side -/
def spLongest (K : PySem.W.Frag) : Sp := fun vs H Q _ => ∃ (a : Addr) (xs : List V) (R : List Rule), vs = [.ref a] ∧ RulesAt K H a xs R ∧ R.length ≤ 64 ∧ (∀ r ∈ R, r.1.length ≤ 1000000) ∧ ∀ (H' : Hp), Same H H' → Q (.int (lg R : Nat)) H'
theorem c_longest_left (T : Txt K mg) : Cal P w K mg base CX0 1 "longest_left" (spLongest K) := by
  refine Cal.mk0 T.d_longest_left sc_longest_left (fun vs H Q E h => ?_) (fun f cdv A outer s H vs Q E hr h => ?_)
  · obtain ⟨a, xs, R, rfl, _⟩ := h
    rfl
  · obtain ⟨a, xs, R, rfl, hR, hl, hz, k⟩ := h
    refine ⟨_, (pss_one (ps_ret (pe_callB (cr_max rfl) (by rfl) T.b_max (by decide +kernel) (pa_cons (pe_op op_cat (pe_lst (pa_cons pe_int pa_nil)) (pe_lc (own := [("rule", 1)]) (g := gName 1) (tt := tYes) rfl sc_longest_left.nd (pi_tup (pv 0)) (blkOk_by (N := ["rules", "rule"]) (sc := defScope s_longest_left) (by decide +kernel)) (fun _ _ _ _ _ => (pg_name (i := 1) sc_longest_left.nd rfl (Or.inl rfl))) (fun _ _ _ _ _ => pts_nil) (fun _ _ _ _ _ => (pe_callB call_len_str (by rfl) T.b_len (by decide +kernel) (pa_cons (pe_ix ix_tupB (pv 1) pe_int (fun _ _ => rfl)) pa_nil))))) pa_nil)))), ?_⟩
    refine ⟨by walk_at "sz", fun p1 hp1 => ?_⟩
    have s1 : Same H (upd H p1 (.lst [.int 0])) := same_new hp1
    refine ⟨_, rfl, a, rfl, ⟨_, (hR.same s1).sq⟩, fun D hD => lc_tupR (K := K) (a := a) (xs := xs) (l := R) (Rel := fun H v r => ∃ q, v = .ref q ∧ SqT K H q (rTup r)) hR.len
      (fun pre H3 => H3 D = some (.lst (pre.map fun r => V.int (r.1.length : Nat))) ∧ Same (upd H p1 (.lst [.int 0])) H3) ⟨upd_same, same_new hD⟩ (fun pre H3 ⟨_, s3⟩ => ⟨(hR.same (s1.trans s3)).sq, (hR.same (s1.trans s3)).it⟩) ?_ ?_⟩
    · rintro pre r post x H3 e hx ⟨q, rfl, sq⟩ ⟨h3, s3⟩
      have hrm : r ∈ R := by rw [e]; simp
      refine ⟨rfl, ty_T ?_⟩
      refine ⟨_, rfl, q, _, 0, .str (S r.1), rfl, rfl, sq, rfl, _, rfl, sz_S (hz r hrm), ?_⟩
      have hpl : pre.length ≤ 64 := by
        have := congrArg List.length e
        simp at this
        omega
      refine ⟨_, h3, by rw [List.length_map]; exact Nat.lt_of_le_of_lt (m := 64) hpl (by decide), ?_, same_mut s3 hD⟩
      rw [List.map_append, S_len]
      exact upd_same
    · rintro H3 ⟨h3, s3⟩
      refine ⟨p1, D, _, _, rfl, rfl, s3 _ _ upd_same, h3, ?_, fun p2 hp2 => ?_⟩
      · rw [List.length_map]; exact Nat.le_trans (m := 65) (by simp; omega) (by decide)
      · refine ⟨p2, (0 :: R.map fun r => r.1.length).map Int.ofNat, rfl, SqL.of ?_, by simp, fun m hm hle => ?_⟩
        · rw [upd_same, List.map_map]
          simp only [List.map_cons, List.map_map]
          rfl
        · obtain ⟨n, hn, rfl⟩ := List.mem_map.mp hm
          have : n = lg R := Bk.lg_eq hn (fun y hy => by
            have := hle (Int.ofNat y) (List.mem_map_of_mem hy)
            exact Int.ofNat_le.mp this)
          rw [this]
          exact k _ ((s1.trans s3).trans (same_new hp2))
/-- used_at_end: the first rule that fits, or None -/
def optS : Option (List Nat) → V
  | none => .non
  | some u => .str (S u)
def spUsed : Sp := fun vs H Q _ => ∃ (p : Addr) (R : List Rule) (t : List Nat), vs = [.ref p, .int (lg R : Nat), .str (S t)] ∧ LeftsAt H p R ∧ Wf R ∧ t.length ≤ 100000 ∧ ∀ (H' : Hp), Same H H' → Q (optS (used R t)) H'
/-- best so far -/
def BestV (H : Hp) : V → Option (Nat × Nat × List Nat) → Prop
  | v, none => v = .non
  | v, some (k, s, r) => ∃ q, v = .ref q ∧ H q = some (.tup [.int (k : Nat), .int (s : Nat), .str (S r)])
theorem BestV.same {H H' : Hp} {v : V} : ∀ {b}, BestV H v b → Same H H' → BestV H' v b
  | none, h, _ => h
  | some (_, _, _), ⟨q, e, h⟩, s => ⟨q, e, s _ _ h⟩
theorem c_used_at_end (T : Txt K mg) : Cal P w K mg base CX0 1 "used_at_end" spUsed := by
  refine Cal.mk0 T.d_used_at_end sc_used_at_end (fun vs H Q E h => ?_) (fun f cdv A outer s H vs Q E hr h => ?_)
  · obtain ⟨p, R, t, rfl, _⟩ := h
    rfl
  · obtain ⟨p, R, t, rfl, ⟨kvs, hp, L⟩, hw, hl, k⟩ := h
    have hu := hu_of hr
    have hSl := S_len t
    refine ⟨_, (pss_cons (ps_set (i := 3) sc_used_at_end.nd rfl (Or.inl rfl) pe_non)
  (pss_cons (ps_for PassesOwn.never rfl (pi_range2 (by rfl) T.b_range (pa_cons pe_int (pa_cons (pe_op op_add (pe_callB (call_min2 rfl) (by rfl) T.b_min (by decide +kernel) (pa_cons (pv 1) (pa_cons (pe_callB call_len_str (by rfl) T.b_len (by decide +kernel) (pa_cons (pv 2) pa_nil)) pa_nil))) pe_int) pa_nil))) (pg_name (i := 4) sc_used_at_end.nd rfl (Or.inl rfl))
    (pss_cons (ps_set (i := 5) sc_used_at_end.nd rfl (Or.inl rfl) (pe_dget1 hu (pv 0) (pe_slice sl_str (pv 2) (po_some (pe_op op_sub (pe_callB call_len_str (by rfl) T.b_len (by decide +kernel) (pa_cons (pv 2) pa_nil)) (pv 4))) po_none) ⟨rfl, rfl, rfl, rfl⟩))
    (pss_one (ps_if (PW.pt (pw_and (pt_cmpR op_notN (pv 5) pe_non (nomark _)) (pw_and1 (PW.pt (pw_or (pt_cmpR op_isN (pv 3) pe_non (nomark _)) (pw_or1 (pt_cmpR op_lt (pe_ix ix_tup (pv 5) pe_int (fun _ _ => rfl)) (pe_ix ix_tup (pv 3) pe_int (fun _ _ => rfl)) (nomark _))))))))
      (pss_one (ps_set (i := 3) sc_used_at_end.nd rfl (Or.inl rfl) (pe_tup (pa_cons (pe_ix ix_tup (pv 5) pe_int (fun _ _ => rfl)) (pa_cons (pv 4) (pa_cons (pe_ix ix_tup (pv 5) pe_int (fun _ _ => rfl)) pa_nil))))))
      pss_nil))))
  (pss_cons (ps_if (pt_cmpR op_isN (pv 3) pe_non (nomark _))
    (pss_one (ps_ret pe_non))
    pss_nil)
  (pss_one (ps_ret (pe_op op_add_str (pe_slice sl_str (pv 2) po_none (po_some (pe_op op_sub (pe_callB call_len_str (by rfl) T.b_len (by decide +kernel) (pa_cons (pv 2) pa_nil)) (pe_ix ix_tup (pv 3) pe_int (fun _ _ => rfl))))) (pe_ix ix_tup (pv 3) pe_int (fun _ _ => rfl)))))))), ?_⟩
    walk_at "rd"
    refine for_range (lo := 1) (n := _) (fun i σ H2 => ∃ (vb : V) (v4 v5 : Option V), σ = [some (.ref p), some (.int (lg R : Nat)), some (.str (S t)), some vb, v4, v5] ∧ Same H H2 ∧ BestV H2 vb (bestUp R t i))
      ⟨_, _, _, rfl, Same.refl H, rfl⟩ ?_ ?_
    · rintro i σ H2 hi ⟨vb, v4, v5, rfl, s2, hb⟩
      have hi2 : i < t.length := by
        split at hi <;> omega
      have hL := L.same s2
      refine ⟨_, rfl, p, rfl, .inl ⟨kvs, .inl (s2 _ _ hp)⟩, ?_⟩
      walk_at "rd"
      rw [cut_from (by omega), hSl, show ((t.length : Int) - (1 + (i : Int))).toNat = t.length - (i + 1) by omega]
      refine ⟨_, DGet.k (k := Sum.inr (S (t.drop (t.length - (i + 1))))) (s2 _ _ hp), ?_⟩
      walk_at "nx"
      cases hf : firstAt R 0 (t.drop (t.length - (i + 1))) with
      | none =>
        rw [(hL _).1 hf]
        have eb : bestUp R t (i + 1) = bestUp R t i := by simp only [bestUp, hf]
        walk_at "rd"
        refine iteF ?_
        walk_at "rd"
        refine iteF ?_
        walk_at "rd"
        exact ⟨_, _, _, rfl, s2, eb ▸ hb⟩
      | some z =>
        obtain ⟨k2, r2⟩ := z
        obtain ⟨q, hq, hqt⟩ := (hL _).2 _ _ hf
        rw [hq]
        have s3 : ∀ q2 o, H2 q2 = none → Same H (upd H2 q2 o) := fun q2 o h => s2.trans (same_new h)
        cases hbb : bestUp R t i with
        | none =>
          rw [hbb] at hb
          have hb' : vb = .non := hb
          subst hb'
          have eb : bestUp R t (i + 1) = some (k2, i + 1, r2) := by simp only [bestUp, hf, hbb]
          walk_at "rd"
          refine ⟨by walk_at "sz", fun q2 hq2 => ?_⟩
          refine ⟨_, _, _, rfl, s3 _ _ hq2, ?_⟩
          rw [eb]
          refine ⟨q2, rfl, ?_⟩
          rw [upd_same]
          show some (HO.tup [V.int (k2 : Nat), V.int (1 + (i : Int)), V.str (S r2)]) = _
          rw [show (1 + (i : Int)) = ((i + 1 : Nat) : Int) by omega]
        | some b =>
          obtain ⟨k3, s3', r3⟩ := b
          rw [hbb] at hb
          obtain ⟨q3, rfl, hq3⟩ := id hb
          walk_at "rd"
          refine ite2 (fun c0 => ?_) (fun c0 => ?_)
          · have c1 : k2 < k3 := by have := of_decide_eq_true c0; omega
            have eb : bestUp R t (i + 1) = some (k2, i + 1, r2) := by simp only [bestUp, hf, hbb, if_pos c1]
            walk_at "rd"
            refine ⟨by walk_at "sz", fun q2 hq2 => ?_⟩
            refine ⟨_, _, _, rfl, s3 _ _ hq2, ?_⟩
            rw [eb]
            refine ⟨q2, rfl, ?_⟩
            rw [upd_same]
            show some (HO.tup [V.int (k2 : Nat), V.int (1 + (i : Int)), V.str (S r2)]) = _
            rw [show (1 + (i : Int)) = ((i + 1 : Nat) : Int) by omega]
          · have c1 : ¬ k2 < k3 := by
              intro h
              exact c0 (decide_eq_true (by omega))
            have eb : bestUp R t (i + 1) = some (k3, s3', r3) := by simp only [bestUp, hf, hbb, if_neg c1]
            walk_at "rd"
            exact ⟨_, _, _, rfl, s2, by rw [eb]; exact hb⟩
    · rintro σ H2 ⟨vb, v4, v5, rfl, s2, hb⟩
      have hn : ((if ((S t).length : Int) < (lg R : Nat) then ((S t).length : Int) else (lg R : Nat)) + 1 - 1).toNat = min (lg R) t.length := by
        split <;> omega
      rw [hn] at hb
      have hU := Bk.used_best hw t
      cases hbb : bestUp R t (min (lg R) t.length) with
      | none =>
        rw [hbb] at hb hU
        have hb' : vb = .non := hb
        subst hb'
        walk_at "rd"
        have q := k H2 s2
        rw [hU] at q
        exact q
      | some b =>
        obtain ⟨k3, s3', r3⟩ := b
        rw [hbb] at hb hU
        obtain ⟨q3, rfl, hq3⟩ := id hb
        walk_at "rd"
        have sp := Bk.bestUp_spec R t (min (lg R) t.length) (by omega)
        rw [hbb] at sp
        obtain ⟨⟨l, ⟨_, _, _, x, hx⟩, hs⟩, _⟩ := sp
        have hst : s3' ≤ t.length := by
          rw [hx, List.length_append]
          show s3' ≤ x.length + l.length
          omega
        have hU2 : used R t = some (t.take (t.length - s3') ++ r3) := hU
        have hlen := (Bk.used_step hU2).len hw
        rw [cut_to (by omega), hSl, show ((t.length : Int) - (s3' : Int)).toNat = t.length - s3' by omega]
        refine ⟨?_, ?_⟩
        · rw [S_len, S_len, ← List.length_append]
          exact Nat.le_trans (m := 100000) (by omega) (by decide)
        · rw [S_cat]
          have q := k H2 s2
          rw [hU2] at q
          exact q
/-- what is left over -/
def spLeft : Sp := fun vs H Q _ => ∃ (p : Addr) (R : List Rule) (t : List Nat), vs = [.ref p, .int (lg R : Nat), .str (S t)] ∧ LeftsAt H p R ∧ Wf R ∧ t.length ≤ 100000 ∧ ∀ (H' : Hp), Same H H' → Q (.str (S (left R t))) H'
theorem left_snoc (R : List Rule) (t : List Nat) (c : Nat) : left R (t ++ [c]) = pushS R (left R t) c := by
  unfold left; rw [List.foldl_append]; rfl
theorem left_len {R : List Rule} (w : Wf R) (t : List Nat) : (left R t).length ≤ t.length := (Bk.left_reach t).len w
theorem c_left_over (T : Txt K mg) : Cal P w K mg base CX0 2 "left_over" spLeft := by
  have c_used_at_end := c_used_at_end (P := P) (w := w) (base := base) T
  refine Cal.mk0 T.d_left_over sc_left_over (fun vs H Q E h => ?_) (fun f cdv A outer s H vs Q E hr h => ?_)
  · obtain ⟨p, R, t, rfl, _⟩ := h
    rfl
  · obtain ⟨p, R, t, rfl, L, hw, hl, k⟩ := h
    refine ⟨_, (pss_cons (ps_set (i := 3) sc_left_over.nd rfl (Or.inl rfl) pe_str)
  (pss_cons (ps_for PassesOwn.never rfl (pi_str (pv 2)) (pg_name (i := 4) sc_left_over.nd rfl (Or.inl rfl))
    (pss_cons (ps_set (i := 3) sc_left_over.nd rfl (Or.inl rfl) (pe_op op_add_str (pv 3) (pv 4)))
    (pss_cons (ps_set (i := 5) sc_left_over.nd rfl (Or.inl rfl) (pe_c c_used_at_end hr (by decide) rfl (pa_cons (pv 0) (pa_cons (pv 1) (pa_cons (pv 3) pa_nil)))))
    (pss_one (ps_while PassesOwn.never (pt_cmpR op_notN (pv 5) pe_non (nomark _))
      (pss_cons (ps_set (i := 3) sc_left_over.nd rfl (Or.inl rfl) (pv 5))
      (pss_one (ps_set (i := 5) sc_left_over.nd rfl (Or.inl rfl) (pe_c c_used_at_end hr (by decide) rfl (pa_cons (pv 0) (pa_cons (pv 1) (pa_cons (pv 3) pa_nil))))))))))))
  (pss_one (ps_ret (pv 3))))), ?_⟩
    walk_at "rd"
    refine for_str (l := t) (fun pre σ H2 => ∃ (v4 v5 : Option V), σ = [some (.ref p), some (.int (lg R : Nat)), some (.str (S t)), some (.str (S (left R pre))), v4, v5] ∧ Same H H2)
      ⟨_, _, rfl, Same.refl H⟩ ?_ ?_
    · rintro pre c post σ H2 e ⟨v4, v5, rfl, s2⟩
      have hpl : pre.length + 1 ≤ t.length := by
        have := congrArg List.length e
        simp at this
        omega
      have hlp := left_len hw pre
      refine ⟨_, rfl, _, rfl, _, _, rfl, rfl, by rw [S_len, S_len]; exact Nat.le_trans (m := 100001) (by simp; omega) (by decide), ?_⟩
      rw [S_cat]
      walk_at "nx"
      refine ⟨_, rfl, _, rfl, _, rfl, p, R, left R pre ++ [c], rfl, L.same s2, hw, by simp; omega, fun H3 s3 => ?_⟩
      walk_at "nx"
      refine ⟨fun m σ H4 => ∃ (q : List Nat) (v4 : Option V), σ = [some (.ref p), some (.int (lg R : Nat)), some (.str (S t)), some (.str (S q)), v4, some (optS (used R q))] ∧ Same H H4 ∧ q.length ≤ m ∧ q.length ≤ 100000 ∧ drain R m q = left R (pre ++ [c]),
        ⟨(left R pre).length + 1, left R pre ++ [c], _, rfl, s2.trans s3, by simp, by simp; omega, (left_snoc R pre c).symm⟩, ?_⟩
      rintro m σ H4 ⟨q, v4, rfl, s4, hm, hq, hd⟩
      cases hu1 : used R q with
      | none =>
        have e1 : drain R m q = q := by
          cases m with
          | zero => rfl
          | succ m => simp only [drain, hu1]
        rw [e1] at hd
        walk_at "rd"
        refine iteF ?_
        walk_at "nx"
        exact ⟨_, _, by rw [hd], s4⟩
      | some u =>
        have hlt := (Bk.used_step hu1).len hw
        cases m with
        | zero => omega
        | succ m =>
          have hd2 : drain R m u = left R (pre ++ [c]) := by
            rw [← hd]; simp only [drain, hu1]
          walk_at "rd"
          refine iteT ⟨_, fun _ _ h => h, ?_⟩
          refine ⟨_, rfl, ?_⟩
          walk_at "nx"
          refine ⟨_, rfl, _, rfl, _, rfl, p, R, u, rfl, L.same s4, hw, by omega, fun H5 s5 => ?_⟩
          walk_at "nx"
          exact ⟨m, Nat.lt_succ_self m, u, _, rfl, s4.trans s5, by omega, by omega, hd2⟩
    · rintro σ H2 ⟨v4, v5, rfl, s2⟩
      walk_at "rd"
      exact k H2 s2
end
end Sh
set_option Elab.async false
set_option linter.all false
set_option maxRecDepth 100000
namespace Sh
open PySem PySem.Spec PyProof.Rows L2
/-! ### t < u of tuples of ints and texts -/
def sameK : V → V → Bool
  | .int _, .int _ => true
  | .str _, .str _ => true
  | _, _ => false
def sameKs : List V → List V → Bool
  | x :: xs, y :: ys => sameK x y && sameKs xs ys
  | _, _ => true
def vLt : V → V → Bool
  | .int i, .int j => decide (i < j)
  | .str a, .str b => decide (a.cps.toList < b.cps.toList)
  | _, _ => false
def tupLt : List V → List V → Bool
  | [], [] => false
  | [], _ :: _ => true
  | _ :: _, [] => false
  | x :: xs, y :: ys => if x = y then tupLt xs ys else vLt x y
theorem lexAt_tup : ∀ (xs ys : List V) (e r : Nat → Bool) (k : Nat), sameKs xs ys = true →
    (∀ j x y, xs[j]? = some x → ys[j]? = some y → e (k + j) = decide (x = y)) → (∀ j x y, xs[j]? = some x → ys[j]? = some y → r (k + j) = vLt x y) →
    Ob.lexAt e r (decide (xs.length < ys.length)) k (min xs.length ys.length) = tupLt xs ys
  | [], [], e, r, k, _, _, _ => rfl
  | [], _ :: _, e, r, k, _, _, _ => by
    show Ob.lexAt e r (decide (0 < _ + 1)) k 0 = true
    rw [Ob.lexAt_zero]
    exact decide_eq_true (by omega)
  | _ :: _, [], e, r, k, _, _, _ => by
    show Ob.lexAt e r (decide (_ + 1 < 0)) k 0 = false
    rw [Ob.lexAt_zero]
    exact decide_eq_false (by omega)
  | x :: xs, y :: ys, e, r, k, hs, he, hr => by
    have e0 := he 0 x y rfl rfl
    have r0 := hr 0 x y rfl rfl
    rw [Nat.add_zero] at e0 r0
    have hs2 : sameKs xs ys = true := by
      have : (sameK x y && sameKs xs ys) = true := hs
      rw [Bool.and_eq_true] at this
      exact this.2
    have ih := lexAt_tup xs ys e r (k + 1) hs2 (fun j a b h1 h2 => by have := he (j + 1) a b (by simpa using h1) (by simpa using h2); rw [← this]; congr 1; omega)
      (fun j a b h1 h2 => by have := hr (j + 1) a b (by simpa using h1) (by simpa using h2); rw [← this]; congr 1; omega)
    have em : min (x :: xs).length (y :: ys).length = min xs.length ys.length + 1 := by simp only [List.length_cons]; omega
    have el : decide ((x :: xs).length < (y :: ys).length) = decide (xs.length < ys.length) := by
      simp only [List.length_cons]
      exact decide_eq_decide.mpr (by omega)
    rw [em, el, Ob.lexAt_succ, e0, r0, ih]
    show _ = if x = y then tupLt xs ys else vLt x y
    by_cases h : x = y
    · rw [if_pos h, if_pos (decide_eq_true h)]
    · rw [if_neg h, if_neg (by simpa using h)]
theorem sameKs_get : ∀ {xs ys : List V}, sameKs xs ys = true → ∀ {j : Nat} {x y : V}, xs[j]? = some x → ys[j]? = some y → sameK x y = true
  | [], _, _, j, _, _, h, _ => by simp at h
  | _ :: _, [], _, j, _, _, _, h => by simp at h
  | x :: xs, y :: ys, hs, j, a, b, h1, h2 => by
    have hs' : (sameK x y && sameKs xs ys) = true := hs
    rw [Bool.and_eq_true] at hs'
    cases j with
    | zero => simp at h1 h2; subst h1; subst h2; exact hs'.1
    | succ j => exact sameKs_get hs'.2 (by simpa using h1) (by simpa using h2)
def rLtTM (K : PySem.W.Frag) : R2 := fun x y H Q => ∃ a b xs ys, x = .ref a ∧ y = .ref b ∧ SqT K H a xs ∧ SqT K H b ys ∧ sameKs xs ys = true ∧ Q (.bl (tupLt xs ys)) H
theorem op_ltTM {X : Cx} (hu : X.A.units + 64 < cLine) : OpR X (compareOp .Lt) (rLtTM X.K) := by
  intro pins s σ H x y v u Q I rx ry h
  obtain ⟨a, b, xs, ys, rfl, rfl, ha, hb, hk, q⟩ := h
  cases rx
  cases ry
  obtain ⟨its, r1, p1, _⟩ := I.tuple ha
  obtain ⟨its2, r2, p2, _⟩ := I.tuple hb
  have l1 : its.toArray.size = xs.length := by rw [List.size_toArray]; exact r1.length.symm
  have l2 : its2.toArray.size = ys.length := by rw [List.size_toArray]; exact r2.length.symm
  have get : ∀ (j : Nat) (h1 : j < its.toArray.size) (h2 : j < its2.toArray.size), ∃ x y, xs[j]? = some x ∧ ys[j]? = some y ∧ RelV x its.toArray[j] ∧ RelV y its2.toArray[j] ∧ sameK x y = true := by
    intro j h1 h2
    have g1 : j < xs.length := l1 ▸ h1
    have g2 : j < ys.length := l2 ▸ h2
    obtain ⟨u1, e1, q1⟩ := r1.get (List.getElem?_eq_getElem g1)
    obtain ⟨u2, e2, q2⟩ := r2.get (List.getElem?_eq_getElem g2)
    have f1 : its.toArray[j] = u1 := by
      have : its[j]? = some its[j] := List.getElem?_eq_getElem (by simpa using h1)
      rw [this] at e1
      simpa using Option.some.inj e1
    have f2 : its2.toArray[j] = u2 := by
      have : its2[j]? = some its2[j] := List.getElem?_eq_getElem (by simpa using h2)
      rw [this] at e2
      simpa using Option.some.inj e2
    exact ⟨xs[j], ys[j], List.getElem?_eq_getElem g1, List.getElem?_eq_getElem g2, f1 ▸ q1, f2 ▸ q2, sameKs_get hk (List.getElem?_eq_getElem g1) (List.getElem?_eq_getElem g2)⟩
  let e : Nat → Bool := fun j => match xs[j]?, ys[j]? with
    | some x, some y => decide (x = y)
    | _, _ => false
  let r : Nat → Bool := fun j => match xs[j]?, ys[j]? with
    | some x, some y => vLt x y
    | _, _ => false
  have key := Ob.RcOp.tuples_lt (A := X.A) (s := s) (e := e) (r := r) p1 p2 (by omega) (fun j h1 h2 => ?_) (fun j h1 h2 _ => ?_)
  · rw [l1, l2, lexAt_tup xs ys e r 0 hk (fun j x y h1 h2 => by rw [Nat.zero_add]; simp only [e, h1, h2]) (fun j x y h1 h2 => by rw [Nat.zero_add]; simp only [r, h1, h2])] at key
    exact key X.prog X.w X.xe _ ⟨.bl (tupLt xs ys), H, I, rfl, q⟩
  · obtain ⟨x, y, g1, g2, q1, q2, hk2⟩ := get j h1 h2
    have he : e j = decide (x = y) := by simp only [e, g1, g2]
    rw [he]
    cases x <;> cases y <;> first | cases hk2 | skip
    · obtain ⟨t1, z1⟩ := q1
      obtain ⟨t2, z2⟩ := q2
      rw [z1, z2]
      have := SeqAt.EqAt.int_int (A := X.A.in1) (s := s)
      rename_i i k
      have w1 := this i t1 k t2
      have w2 : (i == k) = decide (V.int i = V.int k) := by
        by_cases hh : i = k
        · subst hh; simp
        · rw [decide_eq_false (fun z => hh (V.int.inj z))]; exact beq_eq_false_iff_ne.mpr hh
      rw [w2] at w1
      exact w1
    · obtain ⟨t1, z1⟩ := q1
      obtain ⟨t2, z2⟩ := q2
      rw [z1, z2]
      have := SeqAt.EqAt.str_str (A := X.A.in1) (s := s)
      rename_i i k
      have w1 := this i t1 k t2
      have w2 : (i == k) = decide (V.str i = V.str k) := by
        by_cases hh : i = k
        · subst hh; simp
        · rw [decide_eq_false (fun z => hh (V.str.inj z))]; exact beq_eq_false_iff_ne.mpr hh
      rw [w2] at w1
      exact w1
  · obtain ⟨x, y, g1, g2, q1, q2, hk2⟩ := get j h1 h2
    have he : r j = vLt x y := by simp only [r, g1, g2]
    rw [he]
    cases x <;> cases y <;> first | cases hk2 | skip
    · obtain ⟨t1, z1⟩ := q1
      obtain ⟨t2, z2⟩ := q2
      rw [z1, z2]
      exact Ob.RcOp.lt_int _ _ _ _
    · obtain ⟨t1, z1⟩ := q1
      obtain ⟨t2, z2⟩ := q2
      rw [z1, z2]
      exact fun _ _ _ _ h => PyProof.Rows.lt_str h
/-! ### repr of data of None, bools, ints, texts and tuples -/
theorem call_reprD {X : Cx} (hg : X.A.guards = some []) (hu : X.A.units + 64 < cLine) :
    CallR X (.builtin "repr") (fun xs H Q => ∃ v d, xs = [v] ∧ Dp X.K H v d ∧ d.showable = true ∧ d.hasDict = false ∧ d.depth ≤ 60 ∧ d.shown.length ≤ sizeLine ∧ Q (.str d.shown) H) := by
  intro pins s σ H xs us Q I r h
  obtain ⟨v, d, rfl, hd, h1, h2, h3, h4, q⟩ := h
  cases r with
  | cons rv rn =>
    cases rn
    rename_i u
    obtain ⟨as, hr⟩ := Dp.reads I d v u hd rv
    have big : ∀ a : Addr, u = .ref a → wpAny (model X.prog X.w) X.A (call (.builtin "repr") [u]) (EP X pins σ Q) X.xe s := fun a e => by
      subst e
      exact PySem.repr_of_reads' hr h1 (fun z => by rw [h2] at z; cases z) hg (by omega) (fun _ _ e => e) (fun h' w tk k => ⟨.str d.shown, H, I.kept k, ⟨_, rfl⟩, q⟩) h4
    cases hd with
    | non =>
      cases (show u = Value.none from rv)
      exact PySem.P.repr_of_none ⟨.str _, H, I.tok _, ⟨_, rfl⟩, q⟩
    | bl b =>
      cases (show u = Value.bool b from rv)
      refine PySem.P.repr_of_bool ⟨.str _, H, I.tok _, ⟨_, rfl⟩, q⟩
    | int i =>
      obtain ⟨t, e⟩ := (show ∃ t, u = Value.int i t from rv)
      subst e
      have h1' : i.natAbs.log2 < 1920 := by simpa [PyData.showable] using h1
      exact PySem.P.repr_of_int h1' ⟨.str _, H, I.tok _, ⟨_, rfl⟩, q⟩
    | str x =>
      obtain ⟨t, e⟩ := (show ∃ t, u = Value.str x t from rv)
      subst e
      exact PySem.P.repr_of_str ⟨.str _, H, I.tok _, ⟨_, rfl⟩, q⟩ h4
    | lst hs ha => exact big _ rv
    | tup hs ha => exact big _ rv
end Sh
set_option Elab.async false
set_option linter.all false
set_option maxRecDepth 100000
set_option maxHeartbeats 2000000
namespace Sh
open PySem PySem.Spec PyProof.Rows
section
variable {prog : Program} {w : World} {A : Around} {E : Value → Shared → Prop} {s : Shared} {K : PySem.W.Frag} {x C f : Addr} {ox : Obj} {odd : Option Obj}
theorem truthy_own {Q : Bool → Shared → Prop} (X : K.In s.heap) (I : PySem.W.InstAt s.heap x ox C odd) (hs : PySem.W.findIn K (.ref C) "__bool__" = some (some (.ref f))) (hf : PySem.W.isFn K (.ref f) = true)
    (h : wpAny (model prog w) A (call (.ref f) [.ref x]) (fun r s₁ => ∃ b, r = Value.bool b ∧ Q b s₁) E s) : wpAny (model prog w) A (truthy (.ref x)) Q E s := by
  unfold truthy
  first
    | refine wpAny_bind (m := callSpecial? (.ref x) (Str.ofString "__bool__")) (PySem.W.special_fn X I hs (beq_iff_eq.mp hf) (wpAny_mono h (fun r s' hr => ?_) fun _ _ y => y))
    | refine wpAny_bind (wpAny_pure (wpAny_bind (m := callSpecial? (.ref x) (Str.ofString "__bool__")) (PySem.W.special_fn X I hs (beq_iff_eq.mp hf) (wpAny_mono h (fun r s' hr => ?_) fun _ _ y => y))))
  obtain ⟨b, rfl, hq⟩ := hr
  first
    | exact wpAny_pure hq
    | exact wpAny_bind (wpAny_pure hq)
theorem meets_bool_own : MeetsIn prog w (Builtin.«bool.__new__» ⟨[.type "bool", .ref x], []⟩) (fun A R s => K.In s.heap ∧ PySem.W.InstAt s.heap x ox C odd ∧ PySem.W.findIn K (.ref C) "__bool__" = some (some (.ref f)) ∧ PySem.W.isFn K (.ref f) = true ∧
    wpAny (model prog w) A.in1 (call (.ref f) [.ref x]) (fun r s₁ => ∃ b, r = Value.bool b ∧ R (.ok (.ret (.bool b))) s₁) (fun e s' => R (.error e) s') s) :=
  MeetsIn.of_wp fun A R s hs => by
    obtain ⟨X, I, h1, h2, h⟩ := hs
    have f1 := F.conv_sub_bool
    have key : ∀ Q : Bool → Shared → Prop, (∀ b s₁, R (.ok (.ret (.bool b))) s₁ → Q b s₁) → wpAny (model prog w) A.in1 (truthy (.ref x)) Q (fun e s' => R (.error e) s') s := fun Q hq =>
      truthy_own X I h1 h2 (wpAny_mono h (fun r s₁ ⟨b, e, k⟩ => ⟨b, e, hq b s₁ k⟩) fun _ _ z => z)
    obtain ⟨hp, g, d, tk, os⟩ := s
    repeat (any_goals (first | assumption | (with_reducible refine key _ fun b s₁ k => ?_) | wp_step))
    all_goals first | exact ⟨_, rfl, by assumption⟩ | skip
theorem call_bool_own {Q : Value → Shared → Prop} (X : K.In s.heap) (I : PySem.W.InstAt s.heap x ox C odd) (hs : PySem.W.findIn K (.ref C) "__bool__" = some (some (.ref f))) (hf : PySem.W.isFn K (.ref f) = true)
    (h : wpAny (model prog w) A.in1.in1 (call (.ref f) [.ref x]) (fun r s₁ => ∃ b, r = Value.bool b ∧ Q r s₁) E s) : wpAny (model prog w) A (call (.type "bool") [.ref x]) Q E s := by
  refine callType_newIn F.called_bool F.newNe_bool (F.typeCall_bool_1 _) (F.newCall_bool_1 _) (fun obj => F.args_object_init_2 obj _) F.entry_bool_new (meets_bool_own (K := K) (C := C) (f := f) (ox := ox) (odd := odd)) ⟨X, I, hs, hf, ?_⟩
  refine wpAny_mono h (fun r s₁ ⟨b, e, k⟩ => ⟨b, e, ?_⟩) fun _ _ z => z
  subst e
  exact ⟨rfl, k⟩
end
end Sh
namespace Sh
open PySem PySem.Spec PyProof.Rows L2
section
variable {X : Cx} {CX : CXT} {C g : Addr} {n : Nat} {sp : Sp} {E : XK}
theorem fnR_of {P : Program} {w : World} {K : PySem.W.Frag} {mg : Str → Option Value} {base : Heap} {k : Nat} {f : Addr} {fd : FuncData} {ps : List Str} (F : FnOk P w K mg base CX k f fd ps sp) (b : Binds K fd ps []) : FnR P w K mg base CX k f sp := by
  intro A outer s H us vs Q E hr e0 r h
  have hl := F.len _ _ _ _ h
  have KX : K.In s.heap := e0.mod.kin.keeps fun b o e => (e0.bs b o e).1
  have hul : (us ++ []).length = ps.length := by rw [List.append_nil, ← r.length]; exact hl
  have hb := b s us KX hul
  rw [List.append_nil] at hb
  exact F.run A outer s H ⟨us, []⟩ us vs Q E hr e0 hb r h
/-- the callee runs below the running body -/
theorem run_in {pins : List (Addr × Obj)} {σ : L2.St} {H : Hp} {s : Shared} {A : Around} {Q : VK} {us : List Value} {ws : List V} (F : FnR X.prog X.w X.K X.mg X.base CX n g sp) (hr : Room n A) (e0 : Env0 X.prog X.w X.K X.mg X.base A X.stack s H) (hx : Passes CX X E)
    (I : Inv X pins σ H s) (r : Vals ws us) (h : sp ws H Q E) : wpAny (model X.prog X.w) A (call (.ref g) us) (EP X pins σ Q) X.xe s := by
  refine wpAny_call (codeAny_mono (F A X.stack s H us ws Q E hr e0 r h) fun r s' hq => ?_)
  cases r with
  | error e => exact hx pins σ H s e s' I hq
  | ok fl =>
    cases fl with
    | ret u => exact I.after hq
    | next => exact False.elim hq
    | brk => exact False.elim hq
    | cont => exact False.elim hq
/-- bool(x), x an instance of the class at C with an own __bool__ -/
def rBoolO (C : Addr) (sp : Sp) (E : XK) : List V → Hp → VK → Prop := fun xs H Q => ∃ a dx fs, xs = [V.ref a] ∧ H a = some (.ins C dx fs) ∧ sp [.ref a] H (fun z H' => ∃ b, z = .bl b ∧ Q z H') E
theorem call_boolO (hs : PySem.W.findIn X.K (.ref C) "__bool__" = some (some (.ref g))) (hf : PySem.W.isFn X.K (.ref g) = true) (F : FnR X.prog X.w X.K X.mg X.base CX n g sp) (hr : Room (n + 2) X.A) (hx : Passes CX X E) : CallR X (.type "bool") (rBoolO C sp E) := by
  intro pins s σ H xs us Q I r h
  obtain ⟨a, dx, fs, rfl, ha, q⟩ := h
  obtain rfl := Vals.ref1 r
  obtain ⟨ox, od, J, _⟩ := StX.insC_at (C := C) I (.inr ⟨dx, fs, ha⟩)
  have hr2 : Room n X.A.in1.in1 := (show Room (n + 1) X.A.in1 from Room.in1 hr).in1
  refine call_bool_own I.kIn J hs hf (wpAny_mono (run_in (us := [.ref a]) (ws := [.ref a]) F hr2 I.env0.in1.in1 hx I (.cons rfl .nil) q) (fun v s' z => ?_) fun _ _ x => x)
  obtain ⟨z', H', I', rz, b, eb, qz⟩ := z
  subst eb
  cases (show v = Value.bool b from rz)
  exact ⟨b, rfl, .bl b, H', I', rfl, qz⟩
end
end Sh
set_option Elab.async false
set_option linter.all false
set_option maxRecDepth 100000
set_option maxHeartbeats 2000000
namespace Sh
open PySem PySem.Spec PyProof.Rows L2
/-- a class of the text -/
structure ClassAt (K : PySem.W.Frag) (mg : Str → Option Value) (x : Str) (C : Addr) : Prop where
  cl : Cls K C
  mgC : mg x = some (.ref C)
  makes : PySem.W.makesIn K C = true
  kp : PySem.W.keepIn K (.ref C) = true
/-- a method of the class at C -/
structure MethAt (K : PySem.W.Frag) (C : Addr) (m q : Str) (st : Stmt) (ps : List Str) : Prop where
  ex : ∃ (f : Addr) (fd : FuncData), L2.Fun K m q st f fd ∧ Binds K fd ps [] ∧ PySem.W.findIn K (.ref C) m = some (some (.ref f)) ∧ PySem.W.isFn K (.ref f) = true ∧ PySem.W.fnIn K f = true
structure MetC (P : Program) (w : World) (K : PySem.W.Frag) (mg : Str → Option Value) (base : Heap) (k : Nat) (C : Addr) (m : Str) (sp : Sp) : Prop where
  ex : ∃ (f : Addr) (fd : FuncData) (ps : List Str), FnOk P w K mg base CX0 k f fd ps sp ∧ Binds K fd ps [] ∧ PySem.W.findIn K (.ref C) m = some (some (.ref f)) ∧ PySem.W.isFn K (.ref f) = true ∧ PySem.W.fnIn K f = true
section
variable {P : Program} {w : World} {K : PySem.W.Frag} {mg : Str → Option Value} {base : Heap}
theorem MetC.mk0 {m q : Str} {C : Addr} {st : Stmt} {N ps : List Str} {k : Nat} {sp : Sp} (D : MethAt K C m q st ps) (S : FnScope N ps (defScope st)) (len : ∀ vs H Q E, sp vs H Q E → vs.length = ps.length)
    (hbody : ∀ (f : Addr) (cdv : Value) (A : Around) (outer : List Env) (s : Shared) (H : Hp) (vs : List V) (Q : VK) (E : XK), Room k (A.deeper (envOfC q (defScope st) s.heap.objs.size f cdv)) → sp vs H Q E →
      ∃ t, PSs (cxOf CX0 P w K mg base N q (defScope st) f cdv A outer s H E).nox (defBody st) t ∧ t { nx := fun _ H' => Q .non H', rt := Q } (start N vs) H) : MetC P w K mg base (k + 1) C m sp := by
  obtain ⟨f, fd, F, b, i, n, o⟩ := D.ex
  exact ⟨f, fd, ps, F.ok S len (hbody f), b, i, n, o⟩
end
section
variable {X : Cx} {k j : Nat} {x m : Str} {C : Addr} {sp : Sp} {p pos : Pos} {e fe : Expr} {es : List Expr} {t : TA} {tf : TE}
/-- C(e, ..) -/
theorem pe_mkC (c : ClassAt X.K X.mg x C) (d : MetC X.prog X.w X.K X.mg X.base k C "__init__" sp) (hr : Room j X.A) (hk : k + 1 ≤ j) (hg : Gl X x) (ha : PA X (e :: es) t)
    (hdb : (x == ("__debug__" : Str)) = false := by decide) (he : starEach (e :: es) X.env = (false, eval e X.env) :: starEach es X.env := by rfl) (hpl : (backTo pos (starEach es X.env)).any (·.1) = false := by rfl) :
    PE X (.Call (.Name x p) (e :: es) [] pos) (tMake C sp [] E0 t) := by
  obtain ⟨f, fd, ps, F, b, i, n, o⟩ := d.ex
  exact pe_make ⟨c.makes, i, n, c.kp⟩ F (hr.mono hk) hg c.mgC b .nil pass0 ha hdb he hpl
/-- o(e, ..), o an instance -/
theorem pe_instC (hf : PE X fe tf) (d : MetC X.prog X.w X.K X.mg X.base k C "__call__" sp) (hr : Room j X.A) (hk : k ≤ j) (ha : PA X (e :: es) t)
    (ht : eval (.Call fe (e :: es) [] pos) X.env = (do callWith pos (← eval fe X.env) [] (backTo pos (starEach (e :: es) X.env)) (backToKw pos (keywordEach [] X.env))) := by rfl)
    (he : starEach (e :: es) X.env = (false, eval e X.env) :: starEach es X.env := by rfl) (hpl : (backTo pos (starEach es X.env)).any (·.1) = false := by rfl) : PE X (.Call fe (e :: es) [] pos) (StX.tCallO X C sp E0 tf t) := by
  obtain ⟨f, fd, ps, F, b, i, n, o⟩ := d.ex
  exact StX.pe_callO hf ⟨i, n, o⟩ (fnR_of F b) (hr.mono hk) pass0 ha ht he hpl
/-- bool(o) -/
theorem call_boolC (d : MetC X.prog X.w X.K X.mg X.base k C "__bool__" sp) (hr : Room j X.A) (hk : k + 2 ≤ j) : CallR X (.type "bool") (rBoolO C sp E0) := by
  obtain ⟨f, fd, ps, F, b, i, n, o⟩ := d.ex
  exact call_boolO i n (fnR_of F b) (hr.mono hk) pass0
end
theorem putF_le (f : Str) (v : V) : ∀ fs : List (Str × V), (putF f v fs).length ≤ fs.length + 1
  | [] => Nat.le_refl _
  | (g, x) :: r => by
    show (if g = f then (g, v) :: r else (g, x) :: putF f v r).length ≤ _
    have := putF_le f v r
    split <;> simp <;> omega
theorem Keep.butI {H H' : Hp} {a C dx : Addr} {fs : List (Str × V)} (s : But a H H') (z : H a = some (.ins C dx fs)) : Keep H H' := fun b xs h => by
  rcases h with h | ⟨o, h⟩
  · exact .inl (s _ _ (ne_of h z (by intro q; cases q)) h)
  · exact .inr ⟨o, s _ _ (ne_of h z (by intro q; cases q)) h⟩
end Sh
set_option Elab.async false
set_option linter.all false
set_option maxRecDepth 100000
set_option maxHeartbeats 2000000
namespace Sh
open PySem PySem.Spec PyProof.Rows L2
section
variable {X : Cx} {C : Addr} {k j : Nat} {sp : Sp} {a : Expr} {ta : TE} {pos : Pos}
/-- not o, o an instance of the class at C with an own __bool__ -/
def tNotI (C : Addr) (sp : Sp) (ta : TE) : TE := fun σ H Q => ta σ H fun x H1 => ∃ p dx fs, x = .ref p ∧ H1 p = some (.ins C dx fs) ∧ sp [.ref p] H1 (fun z H2 => ∃ b, z = .bl b ∧ Q (.bl (!b)) H2) E0
theorem pe_notI (d : MetC X.prog X.w X.K X.mg X.base k C "__bool__" sp) (hr : Room j X.A) (hk : k ≤ j) (ha : PE X a ta) : PE X (.UnaryOp .Not a pos) (tNotI C sp ta) := by
  obtain ⟨f, fd, ps, F, b, i, n, o⟩ := d.ex
  refine ⟨fun pins s σ H Q I h => ?_⟩
  refine UnaryOp_ (thn (ha.run pins s σ H _ I h) fun v s1 ⟨x, H1, I1, r1, p, dx, fs, ex, hH, q⟩ => ?_)
  subst ex
  obtain rfl : v = .ref p := r1
  obtain ⟨ox, od, J, _⟩ := StX.insC_at (C := C) I1 (.inr ⟨dx, fs, hH⟩)
  refine not_of (truthy_own I1.kIn J i n (wpAny_mono (run_in (us := [.ref p]) (ws := [.ref p]) (fnR_of F b) (hr.mono hk) I1.env0 pass0 I1 (.cons rfl .nil) q) (fun v s' z => ?_) fun _ _ x => x))
  obtain ⟨z', H', I', rz, c, ec, qz⟩ := z
  subst ec
  obtain rfl : v = .bool c := rz
  exact ⟨c, rfl, .bl (!c), H', I', rfl, qz⟩
end
end Sh
set_option Elab.async false
set_option linter.all false
set_option maxRecDepth 100000
set_option maxHeartbeats 2000000
namespace Sh
open PySem PySem.Spec PyProof.Rows L2
section
variable {X : Cx} {k j : Nat} {C : Addr} {sp : Sp} {pos : Pos} {e fe : Expr} {es : List Expr} {t : TA} {tf : TE}
/-- o(e, ..), o an instance with fields: a reading that does not name the frame (for comprehensions) -/
def tInst (C : Addr) (sp : Sp) (tf : TE) (t : TA) : TE := fun σ H Q => tf σ H fun y H1 => ∃ a, y = V.ref a ∧ t σ H1 fun zs H2 => (∃ dx fs, H2 a = some (.ins C dx fs)) ∧ sp (V.ref a :: zs) H2 Q E0
theorem pe_instP (hf : PE X fe tf) (d : MetC X.prog X.w X.K X.mg X.base k C "__call__" sp) (hr : Room j X.A) (hk : k ≤ j) (ha : PA X (e :: es) t)
    (h1 : eval (.Call fe (e :: es) [] pos) X.env = (do callWith pos (← eval fe X.env) [] (backTo pos (starEach (e :: es) X.env)) (backToKw pos (keywordEach [] X.env))) := by rfl)
    (h2 : starEach (e :: es) X.env = (false, eval e X.env) :: starEach es X.env := by rfl) (h3 : (backTo pos (starEach es X.env)).any (·.1) = false := by rfl) : PE X (.Call fe (e :: es) [] pos) (tInst C sp tf t) := by
  obtain ⟨f, fd, ps, F, b, i, n, o⟩ := d.ex
  constructor
  intro pins s σ H Q I h
  refine Call_ (thn (hf.run pins s σ H _ I h) ?_) h1
  rintro u s1 ⟨_, H1, I1, ry, a, rfl, q⟩
  obtain rfl : u = .ref a := ry
  refine StX.callO_with (thn (ha.run pos pins s1 σ H1 _ I1 q) ?_) h2 h3
  rintro us s2 ⟨zs, H2, I2, rz, isC, q2⟩
  obtain ⟨ox, od, J, dat⟩ := StX.insC_at (C := C) I2 (.inr isC)
  exact ⟨⟨C, ox, od, J, dat⟩, StX.run_callO ⟨i, n, o⟩ (fnR_of F b) (hr.mono hk) pass0 I2 (.inr isC) rz q2⟩
end
end Sh
set_option Elab.async false
set_option linter.all false
set_option maxRecDepth 100000
set_option maxHeartbeats 2000000
/-! sorted of tuples of ints and texts, of any length, without and with a key def -/
namespace Sh
open PySem PySem.Spec PyProof.Rows L2
/-! ### a total order -/
def cd : V → List Int
  | .int i => [0, i]
  | .str s => 1 :: s.cps.toList.map Int.ofNat
  | _ => [2]
def cLt (a b : List V) : Bool := decide (a.map cd < b.map cd)
theorem ofNat_lt (a b : List Nat) : (a.map Int.ofNat < b.map Int.ofNat) ↔ a < b := by
  induction a generalizing b with
  | nil => cases b <;> simp
  | cons x a ih =>
    cases b with
    | nil => simp
    | cons y b =>
      rw [List.map_cons, List.map_cons, List.cons_lt_cons_iff, List.cons_lt_cons_iff, ih]
      constructor
      · rintro (h | ⟨h, k⟩)
        · exact .inl (Int.ofNat_lt.mp h)
        · exact .inr ⟨Int.ofNat.inj h, k⟩
      · rintro (h | ⟨h, k⟩)
        · exact .inl (Int.ofNat_lt.mpr h)
        · exact .inr ⟨congrArg Int.ofNat h, k⟩
theorem cd_lt {x y : V} (h : sameK x y = true) : vLt x y = decide (cd x < cd y) := by
  cases x <;> cases y <;> first | cases h | skip
  · rename_i i j
    show decide (i < j) = decide ([0, i] < [0, j])
    refine decide_eq_decide.mpr ?_
    simp [List.cons_lt_cons_iff]
  · rename_i a b
    show decide (a.cps.toList < b.cps.toList) = decide ((1 : Int) :: a.cps.toList.map Int.ofNat < 1 :: b.cps.toList.map Int.ofNat)
    refine decide_eq_decide.mpr ?_
    rw [List.cons_lt_cons_iff, ofNat_lt]
    simp
theorem cd_eq {x y : V} (h : sameK x y = true) : (x = y) ↔ (cd x = cd y) := by
  cases x <;> cases y <;> first | cases h | skip
  · rename_i i j
    simp [cd]
  · rename_i a b
    refine ⟨fun e => by rw [e], fun e => ?_⟩
    have e' : a.cps.toList.map Int.ofNat = b.cps.toList.map Int.ofNat := (List.cons.inj e).2
    have inj : Function.Injective Int.ofNat := fun a b h => Int.ofNat.inj h
    have e2 : a.cps.toList = b.cps.toList := by
      have := congrArg (List.map Int.toNat) e'
      simpa [List.map_map, Function.comp_def] using this
    have e3 : a.cps = b.cps := Array.toList_inj.mp e2
    cases a; cases b
    simp only at e3
    rw [e3]
theorem tup_cLt : ∀ {a b : List V}, sameKs a b = true → tupLt a b = cLt a b
  | [], [], _ => by simp [tupLt, cLt]
  | [], _ :: _, _ => by simp [tupLt, cLt]
  | _ :: _, [], _ => by simp [tupLt, cLt]
  | x :: xs, y :: ys, h => by
    have h' : (sameK x y && sameKs xs ys) = true := h
    rw [Bool.and_eq_true] at h'
    have ih := tup_cLt h'.2
    unfold tupLt cLt
    by_cases e : x = y
    · subst e
      rw [if_pos rfl, ih]
      unfold cLt
      refine decide_eq_decide.mpr ?_
      rw [List.map_cons, List.map_cons, List.cons_lt_cons_iff]
      constructor
      · exact fun k => .inr ⟨rfl, k⟩
      · rintro (k | ⟨_, k⟩)
        · exact absurd k (List.lt_irrefl _)
        · exact k
    · rw [if_neg e, cd_lt h'.1]
      refine decide_eq_decide.mpr ?_
      rw [List.map_cons, List.map_cons, List.cons_lt_cons_iff]
      constructor
      · exact fun k => .inl k
      · rintro (k | ⟨k, _⟩)
        · exact k
        · exact absurd ((cd_eq h'.1).mpr k) e
theorem swo_cLt {α : Type} (k : α → List V) : SrtO.Swo fun u v => cLt (k u) (k v) := by
  refine ⟨fun x y h => ?_, fun x y z h1 h2 => ?_⟩
  · have a := of_decide_eq_true h
    exact decide_eq_false fun b => List.lt_irrefl _ (List.lt_trans a b)
  · have a := of_decide_eq_false h1
    have b := of_decide_eq_false h2
    refine decide_eq_false fun c => ?_
    rcases Classical.em ((k y).map cd < (k x).map cd) with q | q
    · exact a q
    · -- x ≤ y, y ≤ z, z < x
      rcases Classical.em ((k x).map cd < (k y).map cd) with p | p
      · exact b (List.lt_trans c p)
      · have e : (k x).map cd = (k y).map cd := by
          have h1 : (k x).map cd ≤ (k y).map cd := List.not_lt.mp q
          have h2 : (k y).map cd ≤ (k x).map cd := List.not_lt.mp p
          exact List.le_antisymm h1 h2
        rw [e] at c
        exact b c
/-! ### tuples in a heap -/
def TupV (h : Heap) (v : Value) (ks : List V) : Prop := ∃ (a : Addr) (o : Obj) (its : List Value) (n : Nat), v = .ref a ∧ h.get? a = some o ∧ o.cls = .type "tuple" ∧ o.data = .seq its.toArray n ∧ Vals ks its
theorem TupV.keeps {h h' : Heap} {v : Value} {ks : List V} (x : TupV h v ks) (k : ∀ b o, h.get? b = some o → o.cls = .type "tuple" → h'.get? b = some o) : TupV h' v ks := by
  obtain ⟨a, o, its, n, e, ho, hc, hd, r⟩ := x
  exact ⟨a, o, its, n, e, k _ _ ho hc, hc, hd, r⟩
inductive First : String → V → Prop
  | int (i : Int) : First "int" (.int i)
  | str (s : Str) : First "str" (.str s)
def Head (T : String) (ks : List V) : Prop := ∃ x r, ks = x :: r ∧ First T x
section
variable {prog : Program} {w : World} {A : Around} {s : Shared} {E : Value → Shared → Prop} {Q : Bool → Shared → Prop}
theorem oneLt_str' (c : Bool) {p q : Str} {t u : Tok} (h : Q (decide (p.cps.toList < q.cps.toList)) s) : wpAny (model prog w) A (oneLt' c (.str p t) (.str q u)) Q E s := by
  cases c with
  | true => exact oneLt_str h
  | false => exact PySem.W.kat_one _ _ (PyProof.Rows.lt_str (Q := PySem.W.BoolBack Q) h)
theorem lex_mixed {b fin : Bool} : ∀ {ks ms : List V} {xs ys : List Value} (i : Nat), Vals ks xs → Vals ms ys → sameKs ks ms = true → fin = decide (ks.length < ms.length) → Q (tupLt ks ms) s → PySem.W.KatLex prog w A b fin Q (xs.zip ys) i s
  | [], [], _, _, i, .nil, .nil, _, e, h => by
    subst e
    exact PySem.W.kat_nil h
  | [], y :: ms, _, _, i, .nil, .cons _ _, _, e, h => by
    refine PySem.W.kat_nil ?_
    rw [e, show decide (([] : List V).length < (y :: ms).length) = true from decide_eq_true (by simp)]
    exact h
  | x :: ks, [], _, _, i, .cons _ _, .nil, _, e, h => by
    refine PySem.W.kat_nil ?_
    rw [e, show decide ((x :: ks).length < ([] : List V).length) = false from decide_eq_false (by simp)]
    exact h
  | x :: ks, y :: ms, _, _, i, .cons rx rxs, .cons ry rys, hs, e, h => by
    have h' : (sameK x y && sameKs ks ms) = true := hs
    rw [Bool.and_eq_true] at h'
    have e' : fin = decide (ks.length < ms.length) := by
      rw [e]
      exact decide_eq_decide.mpr (by simp)
    have hq : Q (if x = y then tupLt ks ms else vLt x y) s := h
    cases x <;> cases y <;> first | cases h'.1 | skip
    · rename_i i1 i2
      obtain ⟨t1, rfl⟩ := rx
      obtain ⟨t2, rfl⟩ := ry
      refine PySem.W.kat_cons (SeqAt.EqAt.int_int i1 t1 i2 t2 prog w _ _ ?_)
      by_cases c : i1 = i2
      · subst c
        rw [if_pos rfl] at hq
        rw [beq_self_eq_true]
        exact PySem.W.kat_yes (lex_mixed (i + 1) rxs rys h'.2 e' hq)
      · rw [if_neg (fun z => c (V.int.inj z))] at hq
        rw [show (i1 == i2) = false from beq_eq_false_iff_ne.mpr c]
        exact PySem.W.kat_no (TS.oneLt_ints _ hq)
    · rename_i s1 s2
      obtain ⟨t1, rfl⟩ := rx
      obtain ⟨t2, rfl⟩ := ry
      refine PySem.W.kat_cons (SeqAt.EqAt.str_str s1 t1 s2 t2 prog w _ _ ?_)
      by_cases c : s1 = s2
      · subst c
        rw [if_pos rfl] at hq
        rw [beq_self_eq_true]
        exact PySem.W.kat_yes (lex_mixed (i + 1) rxs rys h'.2 e' hq)
      · rw [if_neg (fun z => c (V.str.inj z))] at hq
        rw [show (s1 == s2) = false from beq_eq_false_iff_ne.mpr c]
        exact PySem.W.kat_no (oneLt_str' _ hq)
theorem tup_cmp {b : Bool} {vs : List Value} {k : Value → List V} (hp : ∀ v ∈ vs, TupV s.heap v (k v)) (hs : ∀ v ∈ vs, ∀ u ∈ vs, sameKs (k v) (k u) = true) : SrtO.Cmp prog w A s (tuples' b) (fun p => p.1 ∈ vs) (SrtO.lt2 fun v u => cLt (k v) (k u)) := by
  intro p q hm hm'
  show wpAny (model prog w) A (keyLt' (tuples' b) p.1 q.1) (fun r s' => s' = s ∧ r = cLt (k p.1) (k q.1)) (fun _ _ => False) s
  rw [← tup_cLt (hs _ hm _ hm')]
  have h2 := hs _ hm _ hm'
  obtain ⟨a, o, its, n, e, ho, hc, hd, r⟩ := hp _ hm
  obtain ⟨a', o', its', n', e', ho', hc', hd', r'⟩ := hp _ hm'
  generalize k p.1 = kp at r h2 ⊢
  generalize k q.1 = kq at r' h2 ⊢
  rw [e, e']
  refine PySem.W.kat_lt ho hd ho' hd' ?_
  refine lex_mixed (Q := fun b s' => s' = s ∧ b = tupLt kp kq) 0 r r' h2 ?_ ⟨rfl, rfl⟩
  rw [List.size_toArray, List.size_toArray, r.length, r'.length]
theorem tups_first {h : Heap} {T : String} {k : Value → List V} : ∀ (vs : List Value), (∀ v ∈ vs, TupV h v (k v)) → (∀ v ∈ vs, Head T (k v)) → ∃ fs, PySem.W.KatTups h vs fs ∧ fs.length = vs.length ∧ ∀ f ∈ fs, ∃ x, First T x ∧ RelV x f
  | [], _, _ => ⟨[], PySem.W.KatTups.nil, rfl, fun f hf => by simp at hf⟩
  | v :: vs, h1, h2 => by
    obtain ⟨fs, g1, g2, g3⟩ := tups_first vs (fun u hu => h1 u (List.mem_cons_of_mem _ hu)) (fun u hu => h2 u (List.mem_cons_of_mem _ hu))
    obtain ⟨a, o, its, n, e, ho, hc, hd, r⟩ := h1 v List.mem_cons_self
    obtain ⟨x, rr, ek, fx⟩ := h2 v List.mem_cons_self
    rw [ek] at r
    cases r with
    | cons rx rest =>
      rename_i u us
      refine ⟨u :: fs, ?_, by simp [g2], fun f hf => ?_⟩
      · rw [e]
        exact PySem.W.KatTups.cons ho hc hd (by simp) g1
      · rcases List.mem_cons.mp hf with q | q
        · rw [q]; exact ⟨x, fx, rx⟩
        · exact g3 f q
theorem tup_kind {T : String} {vs : List Value} {k : Value → List V} {Q : SortKind → Shared → Prop} (h0 : 0 < vs.length) (hp : ∀ v ∈ vs, TupV s.heap v (k v)) (ht : ∀ v ∈ vs, Head T (k v)) (hq : Q (tuples' (Value.type T != Value.type "tuple")) s) : wpAny (model prog w) A (keyKind' vs.toArray) Q E s := by
  obtain ⟨fs, g1, g2, g3⟩ := tups_first vs hp ht
  refine PySem.W.kat_kind (T := .type T) g1 (by omega) (fun f hm => ?_) (by
    have : T = "int" ∨ T = "str" := by
      cases fs with
      | nil => simp at g2; omega
      | cons f fs =>
        obtain ⟨x, fx, _⟩ := g3 f List.mem_cons_self
        cases fx
        · exact .inl rfl
        · exact .inr rfl
    rcases this with rfl | rfl <;> rfl) hq
  obtain ⟨x, fx, rx⟩ := g3 f hm
  cases fx with
  | int i => obtain ⟨t, rfl⟩ := rx; exact PySem.W.Looks.of_pure rfl
  | str z => obtain ⟨t, rfl⟩ := rx; exact PySem.W.Looks.of_pure rfl
end
/-! ### rows that stand beside each other -/
theorem paired_perm {α β : Type} {R : α → β → Prop} {l l' : List α} (p : l'.Perm l) : ∀ {m : List β}, Paired R l m → ∃ m', m'.Perm m ∧ Paired R l' m' := by
  induction p with
  | nil => intro m h; exact ⟨m, List.Perm.refl _, h⟩
  | cons x _ ih =>
    intro m h
    cases h with
    | cons r t =>
      obtain ⟨m', p', h'⟩ := ih t
      exact ⟨_ :: m', p'.cons _, .cons r h'⟩
  | swap x y l =>
    intro m h
    cases h with
    | cons r t =>
      cases t with
      | cons r2 t2 => exact ⟨_, List.Perm.swap _ _ _, .cons r2 (.cons r t2)⟩
  | trans _ _ ih1 ih2 =>
    intro m h
    obtain ⟨m1, p1, h1⟩ := ih2 h
    obtain ⟨m2, p2, h2⟩ := ih1 h1
    exact ⟨m2, p2.trans p1, h2⟩
end Sh
set_option Elab.async false
set_option linter.all false
set_option maxRecDepth 100000
set_option maxHeartbeats 2000000
namespace Sh
open PySem PySem.Spec PyProof.Rows L2
theorem paired_pairwise {α β : Type} {R : α → β → Prop} {P : α → α → Prop} {P' : β → β → Prop} (h : ∀ a a' b b', R a b → R a' b' → P a a' → P' b b') : ∀ {l : List α} {m : List β}, Paired R l m → l.Pairwise P → m.Pairwise P'
  | _, _, .nil, _ => List.Pairwise.nil
  | _, _, .cons r t, p => by
    obtain ⟨p1, p2⟩ := List.pairwise_cons.mp p
    refine List.pairwise_cons.mpr ⟨fun b' hb => ?_, paired_pairwise h t p2⟩
    have key : ∀ {l : List α} {m : List β}, Paired R l m → ∀ b ∈ m, ∃ a ∈ l, R a b := by
      intro l m hp
      induction hp with
      | nil => intro b hb; cases hb
      | cons r t ih =>
        intro b hb
        rcases List.mem_cons.mp hb with e | hb
        · subst e; exact ⟨_, List.mem_cons_self, r⟩
        · obtain ⟨a, ha, hr⟩ := ih b hb
          exact ⟨a, List.mem_cons_of_mem _ ha, hr⟩
    obtain ⟨a', ha, ra⟩ := key t b' hb
    exact h _ _ _ _ r ra (p1 a' ha)
theorem paired_mem {α β : Type} {R : α → β → Prop} {l : List α} {m : List β} (h : Paired R l m) : ∀ a ∈ l, ∃ b ∈ m, R a b := by
  induction h with
  | nil => intro b hb; cases hb
  | cons r t ih =>
    intro b hb
    rcases List.mem_cons.mp hb with e | hb
    · subst e; exact ⟨_, List.mem_cons_self, r⟩
    · obtain ⟨a, ha, hr⟩ := ih b hb
      exact ⟨a, List.mem_cons_of_mem _ ha, hr⟩
theorem paired_imp {α β : Type} {R S : α → β → Prop} {l : List α} {m : List β} (h : Paired R l m) (k : ∀ a b, R a b → S a b) : Paired S l m := by
  induction h with
  | nil => exact .nil
  | cons r t ih => exact .cons (k _ _ r) ih
theorem paired_snoc {α β : Type} {R : α → β → Prop} {l : List α} {m : List β} (h : Paired R l m) {a : α} {b : β} (r : R a b) : Paired R (l ++ [a]) (m ++ [b]) := by
  induction h with
  | nil => exact .cons r .nil
  | cons r0 t ih => exact .cons r0 ih
theorem paired_at {α β : Type} {R : α → β → Prop} : ∀ {l : List α} {m : List β}, l.length = m.length → (∀ (i : Nat) a b, l[i]? = some a → m[i]? = some b → R a b) → Paired R l m
  | [], [], _, _ => .nil
  | [], _ :: _, h, _ => by simp at h
  | _ :: _, [], h, _ => by simp at h
  | a :: l, b :: m, h, k => .cons (k 0 a b rfl rfl) (paired_at (by simpa using h) fun i x y h1 h2 => k (i + 1) x y (by simpa using h1) (by simpa using h2))
theorem paired_get {α β : Type} {R : α → β → Prop} {l : List α} {m : List β} (h : Paired R l m) : l.length = m.length ∧ ∀ (i : Nat) a b, l[i]? = some a → m[i]? = some b → R a b := by
  induction h with
  | nil => exact ⟨rfl, fun i a b e => by simp at e⟩
  | cons r t ih =>
    refine ⟨by simp [ih.1], fun i a b h1 h2 => ?_⟩
    cases i with
    | zero => simp at h1 h2; subst h1; subst h2; exact r
    | succ i => exact ih.2 i a b (by simpa using h1) (by simpa using h2)
/-- what stands at a value -/
def kvH (H : Hp) : Value → List V
  | .ref q => match H q with
    | some (.tup ks) => ks
    | _ => []
  | _ => []
theorem kvH_at {H : Hp} {q : Addr} {ks : List V} (h : H q = some (.tup ks)) : kvH H (.ref q) = ks := by
  unfold kvH
  simp only [h]
/-- a tuple of y's stands at v -/
def TupAt {α : Type} (g : α → List V) (H : Hp) (v : V) (y : α) : Prop := ∃ q, v = .ref q ∧ H q = some (.tup (g y))
theorem TupAt.sm {α : Type} {g : α → List V} {H H' : Hp} {v : V} {y : α} (h : TupAt g H v y) (s : Same H H') : TupAt g H' v y := let ⟨q, e, k⟩ := h; ⟨q, e, s _ _ k⟩
section
variable {X : Cx}
theorem Inv.tupV {pins : List (Addr × Obj)} {σ : L2.St} {H : Hp} {s : Shared} (I : Inv X pins σ H s) {q : Addr} {ks : List V} (h : H q = some (.tup ks)) : TupV s.heap (.ref q) ks := by
  obtain ⟨_, its, r, o, ho, hc, n, hd⟩ := I.hok q _ h
  exact ⟨q, o, its, n, rfl, ho, hc, hd, r⟩
def rSortM (K : PySem.W.Frag) : List V → Hp → VK → Prop := fun vs H Q => ∃ (α : Type) (g : α → List V) (T : String) (a : Addr) (xs : List V) (l : List α), vs = [.ref a] ∧ SqL K H a xs ∧ Items (TupAt g) H xs l ∧ (∀ y ∈ l, Head T (g y)) ∧ (∀ y ∈ l, ∀ z ∈ l, sameKs (g y) (g z) = true) ∧
  ∀ (l' : List α) (ys : List V) (p : Addr) (H' : Hp), l'.Perm l → l'.Pairwise (fun y z => cLt (g z) (g y) = false) → H p = none → Same H H' → H' p = some (.lst ys) → Items (TupAt g) H' ys l' → Q (.ref p) H'
theorem cr_sortM : CallR X (.builtin "sorted") (rSortM X.K) := by
  intro pins s σ H vs us Q I r h
  obtain ⟨α, g, T, a, xs, l, rfl, hs, it, ht, hsk, q⟩ := h
  obtain ⟨its, rv, hl, hz⟩ := I.list hs
  obtain ⟨u, rfl, ru⟩ := vals1 r
  obtain rfl : u = Value.ref a := ru
  have pr : Paired (fun u y => ∃ q, u = Value.ref q ∧ H q = some (.tup (g y))) its l := by
    refine paired_at (by rw [← rv.length, it.1]) fun i u y h1 h2 => ?_
    obtain ⟨x, hx, q', e, hq⟩ := it.get h2
    obtain ⟨u', hu, ru⟩ := rv.get hx
    rw [hu] at h1
    cases h1
    subst e
    obtain rfl : u = Value.ref q' := ru
    exact ⟨q', rfl, hq⟩
  have hk : ∀ v ∈ its, ∃ y ∈ l, kvH H v = g y ∧ TupV s.heap v (kvH H v) := by
    intro v hv
    obtain ⟨y, hy, q', e, hq⟩ := paired_mem pr v hv
    subst e
    refine ⟨y, hy, kvH_at hq, ?_⟩
    rw [kvH_at hq]
    exact Inv.tupV I hq
  have hsame : ∀ v ∈ its, ∀ u ∈ its, sameKs (kvH H v) (kvH H u) = true := by
    intro v hv u hu
    obtain ⟨y, hy, e1, _⟩ := hk v hv
    obtain ⟨z, hz', e2, _⟩ := hk u hu
    rw [e1, e2]
    exact hsk y hy z hz'
  refine SrtO.sorted_ord (swo_cLt (kvH H)) hl.isList (by rw [← rv.length]; exact hz) (fun h2 h₁ a' ha kk => ?_) fun out h1 h2 => ?_
  · intro h' keep
    have hp' : ∀ v ∈ its, TupV h' v (kvH H v) := fun v hv => by
      obtain ⟨_, _, _, tv⟩ := hk v hv
      exact tv.keeps fun b o e _ => keep b o (kk b o e).1 (kk b o e).2
    refine ⟨tuples' (Value.type T != Value.type "tuple"), fun Q' E' hq => ?_, tup_cmp (s := { s with heap := h' }) hp' hsame⟩
    refine tup_kind (s := { s with heap := h' }) (T := T) (k := kvH H) (by omega) hp' (fun v hv => ?_) hq
    obtain ⟨y, hy, e, _⟩ := hk v hv
    rw [e]
    exact ht y hy
  · obtain ⟨l', pl, pr'⟩ := paired_perm h2.perm pr
    have h3 : ∀ u ∈ out, ∃ a, u = Value.ref a := fun u hu => by
      obtain ⟨y, _, q', e, _⟩ := paired_mem pr' u hu
      exact ⟨q', e⟩
    obtain ⟨ep, he'⟩ := PyProof.Rows.sortedAll_at s.heap its out.toArray
    have hp : H (s.heap.objs.size + 1) = none := I.hok.fresh (Nat.le_succ _)
    have hlen : (out.map backV).length ≤ sizeLine := by
      rw [List.length_map, h2.perm.length_eq, ← rv.length]
      exact hz
    refine ⟨.ref (s.heap.objs.size + 1), upd H (s.heap.objs.size + 1) (.lst (out.map backV)), I.laid (t' := s.toks) (fun _ _ => PyProof.Rows.sortedAll_old) (Nat.le_succ _) ⟨hlen, out, ep, vals_back h3, he'⟩, rfl, ?_⟩
    refine q l' _ _ _ pl ?_ hp (same_new hp) upd_same ?_
    · refine paired_pairwise (R := fun u y => ∃ q, u = Value.ref q ∧ H q = some (.tup (g y))) ?_ pr' h1
      rintro u u' y y' ⟨q1, rfl, e1⟩ ⟨q2, rfl, e2⟩ h
      have h' : cLt (kvH H (.ref q2)) (kvH H (.ref q1)) = false := h
      rw [kvH_at e1, kvH_at e2] at h'
      exact h'
    · obtain ⟨e1, e2⟩ := paired_get pr'
      refine ⟨by rw [List.length_map]; exact e1, fun i x y hx hy => ?_⟩
      rw [List.getElem?_map] at hx
      cases hu : out[i]? with
      | none => rw [hu] at hx; cases hx
      | some u =>
        rw [hu] at hx
        obtain ⟨q', rfl, hq⟩ := e2 i u y hu hy
        cases hx
        exact ⟨q', rfl, same_new hp _ _ hq⟩
end
/-! ### with a key def -/
section
variable {X : Cx} {pins : List (Addr × Obj)} {σ : L2.St} {H : Hp} {s : Shared} {a g : Addr} {n N : Nat} {sp : Sp} {α : Type} {f : α → V} {gk : α → List V} {l : List α} {vs : List Value} {T : String} {P : PySem.Fin → Shared → Prop}
theorem list_sort_keyX (I : Inv X pins σ H s) (F : FnR X.prog X.w X.K X.mg X.base CX0 n g sp) (hr : Room n X.A.in1.in1)
    (ho : s.heap.get? a = some (seqObj "list" vs.toArray N)) (fpa : FpOk X pins H a) (rv : Vals (l.map f) vs) (hz : l.length ≤ sizeLine)
    (hk : ∀ y ∈ l, ∀ H1, Same H H1 → ∀ Q' : VK, (∀ q H2, Same H1 H2 → H2 q = some (.tup (gk y)) → Q' (.ref q) H2) → sp [f y] H1 Q' E0)
    (ht : ∀ y ∈ l, Head T (gk y)) (hs : ∀ y ∈ l, ∀ z ∈ l, sameKs (gk y) (gk z) = true)
    (h : ∀ (l' : List α) (s' : Shared) (H' : Hp), l'.Perm l → l'.Pairwise (fun y z => cLt (gk z) (gk y) = false) → Inv X pins σ H' s' → Same H H' → H' a = some (.lst (l'.map f)) → P (.done (.ret .none)) s') :
    wpAny (model X.prog X.w) X.A.in1.in1 (ksk_tree a (.ref g) false) P X.xe s := by
  have hlen : vs.length = l.length := by rw [← rv.length, List.length_map]
  obtain ⟨hn, hL, hfs, hex, hcell, hpin⟩ := id fpa
  have ha : a < s.heap.objs.size := Heap.lt_size ho
  have s1 := Heap.SameBut.update s.heap a (Obj.mapSeq fun _ => (#[] : Array Value))
  obtain ⟨e1, ho1⟩ : ∃ e1, (s.heap.update a (Obj.mapSeq fun _ => (#[] : Array Value))).get? a = some (seqObj "list" #[] e1) := ⟨_, get?_update_seq ho fun _ => #[]⟩
  unfold ksk_tree
  refine wpAny_bind (listItems_at ho rfl ?_)
  refine wpAny_bind (listUpdate_at ho rfl ?_ (by rw [List.size_toArray, hlen]; exact hz) (Nat.zero_le _))
  refine wpAny_bind (seqEpoch_at ho1 rfl ?_)
  refine wpAny_bind (wpAny_newTuple ?_ (by show vs.length ≤ _; rw [hlen]; exact hz))
  refine wpAny_bind (wpAny_newList ?_ (Nat.zero_le _))
  refine wpAny_holding ?_
  have J1 : Inv X pins σ H { s with heap := s.heap.update a (Obj.mapSeq fun _ => (#[] : Array Value)), toks := s.toks } := I.turned (fun b o hb e => (s1.2 b hb).trans e) hn hL hex hcell hpin
  have z1 : (s.heap.update a (Obj.mapSeq fun _ => (#[] : Array Value))).objs.size = s.heap.objs.size := Heap.size_update _ _ _
  show wpAny _ _ (ksk_rest a (.ref g) false vs.toArray e1 (.ref (((s.heap.update a (Obj.mapSeq fun _ => (#[] : Array Value))).push (seqObj "tuple" vs.toArray 0)).objs.size))) P X.xe { s with heap := ((s.heap.update a (Obj.mapSeq fun _ => (#[] : Array Value))).push (seqObj "tuple" vs.toArray 0)).push (seqObj "list" #[] 0) }
  generalize s.heap.update a (Obj.mapSeq fun _ => (#[] : Array Value)) = h1 at J1 ho1 z1 ⊢
  have z2 : (h1.push (seqObj "tuple" vs.toArray 0)).objs.size = h1.objs.size + 1 := size_push' _ _
  have J2 : Inv X pins σ (upd H (h1.push (seqObj "tuple" vs.toArray 0)).objs.size (.lst [])) { s with heap := (h1.push (seqObj "tuple" vs.toArray 0)).push (seqObj "list" #[] 0), toks := s.toks } :=
    J1.laid (fun b o e => Heap.get?_push_of_some _ (Heap.get?_push_of_some _ e)) (by rw [z2]; exact Nat.le_succ _) ⟨Nat.zero_le _, [], 0, .nil, Heap.get?_push_size _ rfl⟩
  have hk0 : H (h1.push (seqObj "tuple" vs.toArray 0)).objs.size = none := J1.hok.fresh (by rw [z2]; exact Nat.le_succ _)
  have hne : a ≠ (h1.push (seqObj "tuple" vs.toArray 0)).objs.size := by rw [z2, z1]; exact Nat.ne_of_lt (Nat.lt_succ_of_lt ha)
  have J3 : Inv X (pins ++ [(a, seqObj "list" #[] e1)]) σ (upd H (h1.push (seqObj "tuple" vs.toArray 0)).objs.size (.lst [])) { s with heap := (h1.push (seqObj "tuple" vs.toArray 0)).push (seqObj "list" #[] 0), toks := s.toks } :=
    J2.pins_of fun p hp => (List.mem_append.mp hp).elim (fun z => J2.pin p (List.mem_append_right _ z)) fun z => by
      rw [List.mem_singleton.mp z]
      exact ⟨Heap.get?_push_of_some _ (Heap.get?_push_of_some _ ho1), by rw [upd_ne hne]; exact hn, hL, hfs, fun v e => by cases e⟩
  generalize (h1.push (seqObj "tuple" vs.toArray 0)).objs.size = kS at J2 J3 hk0 hne ⊢
  generalize hs0 : ({ s with heap := (h1.push (seqObj "tuple" vs.toArray 0)).push (seqObj "list" #[] 0) } : Shared) = s0 at J3 ⊢
  clear hs0 J2 z2 J1 z1 ho1 h1
  unfold ksk_rest
  refine wpAny_bind (wpAny_rule ?_)
  first
    | rw [List.forIn_toArray]
    | (rw [← Array.forIn_toList]; simp only [List.toList_toArray])
    | rw [← Array.forIn_toList]
  refine wpAny_bind (ksk_fold (fun i s' => ∃ H' ys, Inv X (pins ++ [(a, seqObj "list" #[] e1)]) σ H' s' ∧ Same H H' ∧ H' kS = some (.lst ys) ∧ Paired (fun v y => ∃ q, v = V.ref q ∧ H' q = some (.tup (gk y))) ys (l.take i)) vs 0 s0
    ⟨_, [], J3, same_new hk0, upd_same, .nil⟩ ?step ?done)
  case step =>
    rintro j x s' hx ⟨H', ys, J, sm, hkS, pr⟩
    simp only [Nat.zero_add] at pr ⊢
    have hj : j < vs.length := (List.getElem?_eq_some_iff.mp hx).1
    have hjl : j < l.length := by omega
    have hy : l[j]? = some l[j] := List.getElem?_eq_getElem hjl
    have hym : l[j] ∈ l := List.getElem_mem hjl
    have rx : RelV (f l[j]) x := by
      obtain ⟨u, hu, ru⟩ := rv.get (i := j) (x := f l[j]) (by rw [List.getElem?_map, hy]; rfl)
      rw [hx] at hu
      cases hu
      exact ru
    have yl : ys.length = j := by
      have := Paired.length pr
      rw [List.length_take] at this
      omega
    refine wpAny_bind (wpAny_attempt (wpAny_mono (run_in (X := X.wish fun _ _ => False) (us := [x]) (ws := [f l[j]]) (Q := fun v H2 => ∃ q, v = .ref q ∧ Same H' H2 ∧ H2 q = some (.tup (gk l[j]))) F hr (J.wish _).env0.in1.in1 pass0 (J.wish _) (.cons rx .nil)
      (hk _ hym H' sm _ fun q H2 sm2 hq => ⟨q, rfl, sm2, hq⟩)) (fun v s'' he => ?_) fun _ _ hF => hF.elim))
    obtain ⟨v', H2, J', rv', q, rfl, sm2, hq⟩ := he
    obtain rfl : v = .ref q := rv'
    have J2 := J'.unwish
    have hkS2 := sm2 _ _ hkS
    obtain ⟨hzz, its, n2, rvi, hli, hget⟩ := J2.lstM hkS2
    try dsimp only
    have s2 := Heap.SameBut.update s''.heap kS (Obj.mapSeq (·.push (Value.ref q)))
    obtain ⟨c2, hc2⟩ : ∃ c2, (s''.heap.update kS (Obj.mapSeq (·.push (Value.ref q)))).get? kS = some (seqObj "list" (its.toArray.push (Value.ref q)) c2) := ⟨_, get?_update_seq hget (·.push (Value.ref q))⟩
    refine wpAny_bind (listUpdate_at hget rfl ?_ (by rw [List.size_toArray, ← hli]; exact hzz) (by rw [Array.size_push, List.size_toArray, ← hli]; omega))
    have et : l.take (j + 1) = l.take j ++ [l[j]] := by rw [List.take_succ, hy]; rfl
    refine wpAny_pure ⟨rfl, upd H2 kS (.lst (ys ++ [.ref q])), ys ++ [.ref q], ?_, same_mut (sm.trans sm2) hk0, upd_same, ?_⟩
    · refine J2.write (t' := s''.toks) (by rw [hkS2]; trivial) (.inl rfl) (fun b u hb e => (s2.2 b hb).trans e) ⟨_, hc2⟩ ⟨by rw [List.length_append, yl]; show j + 1 ≤ _; omega, its ++ [.ref q], c2, ?_, ?_⟩
      · exact paired_snoc rvi (show RelV (.ref q) (.ref q) from rfl)
      · rw [hc2, List.push_toArray]
    · rw [et]
      have up : ∀ q0 ks, H2 q0 = some (.tup ks) → upd H2 kS (.lst (ys ++ [.ref q])) q0 = some (.tup ks) := fun q0 ks e => by
        rw [upd_ne (ne_of e hkS2 (by intro z; cases z))]
        exact e
      exact paired_snoc (paired_imp pr fun v y ⟨q0, e, hq0⟩ => ⟨q0, e, up q0 _ (sm2 _ _ hq0)⟩) ⟨q, rfl, up q _ hq⟩
  case done =>
    rintro s' ⟨H', ys, J, sm, hkS, pr⟩
    rw [show l.take (0 + vs.length) = l from List.take_of_length_le (by omega)] at pr
    obtain ⟨hzz, its, n2, rvi, hli, hget⟩ := J.lstM hkS
    have pa := J.pin (a, seqObj "list" #[] e1) (List.mem_append_right _ (List.mem_append_right _ (List.mem_singleton.mpr rfl)))
    have hH'a : H' a = none := pa.2.1
    have hga : s'.heap.get? a = some (seqObj "list" #[] e1) := pa.1
    try dsimp only
    refine wpAny_bind (listItems_at hget rfl ?_)
    have hil : its.length = l.length := by rw [← hli, Paired.length pr]
    -- the keys
    have pk : Paired (fun u y => ∃ q, u = Value.ref q ∧ H' q = some (.tup (gk y))) its l := by
      obtain ⟨e1, e2⟩ := paired_get pr
      refine paired_at hil fun i u y h1 h2 => ?_
      have hi : i < ys.length := by
        have := (List.getElem?_eq_some_iff.mp h2).1
        omega
      obtain ⟨u', hu, ru⟩ := rvi.get (List.getElem?_eq_getElem hi)
      rw [h1] at hu
      cases hu
      obtain ⟨q, e, hq⟩ := e2 i _ y (List.getElem?_eq_getElem hi) h2
      rw [e] at ru
      exact ⟨q, ru, hq⟩
    have hkk : ∀ v ∈ its, ∃ y ∈ l, kvH H' v = gk y ∧ TupV s'.heap v (kvH H' v) := by
      intro v hv
      obtain ⟨y, hy, q', e, hq⟩ := paired_mem pk v hv
      subst e
      refine ⟨y, hy, kvH_at hq, ?_⟩
      rw [kvH_at hq]
      exact Inv.tupV J hq
    have hsame : ∀ v ∈ its, ∀ u ∈ its, sameKs (kvH H' v) (kvH H' u) = true := by
      intro v hv u hu
      obtain ⟨y, hy, e1, _⟩ := hkk v hv
      obtain ⟨z, hz', e2, _⟩ := hkk u hu
      rw [e1, e2]
      exact hs y hy z hz'
    have p2 : Paired (fun (p : Value × Value) y => kvH H' p.1 = gk y ∧ RelV (f y) p.2) (its.zip vs) l := by
      obtain ⟨_, e2⟩ := paired_get pk
      refine paired_at (by rw [List.length_zip]; omega) fun i p y h1 h2 => ?_
      rw [List.getElem?_zip_eq_some] at h1
      obtain ⟨q, e, hq⟩ := e2 i _ y h1.1 h2
      obtain ⟨u, hu, ru⟩ := rv.get (i := i) (x := f y) (by rw [List.getElem?_map, h2]; rfl)
      rw [h1.2] at hu
      cases hu
      refine ⟨?_, ru⟩
      rw [e]
      exact kvH_at hq
    have tail : ∀ st : SortSt, SrtO.Srtd (SrtO.lt2 fun v u => cLt (kvH H' v) (kvH H' u)) (arrOf st).toList → (arrOf st).toList.Perm (its.zip vs) → failedOf st = none → wpAny (model X.prog X.w) X.A.in1.in1 (ksk_tail a false e1 (.ref kS) st) P X.xe s' := by
      intro st hso hpe hfl
      obtain ⟨l', pl, pr'⟩ := paired_perm hpe p2
      have hkne : a ≠ kS := fun z => by rw [← z, hH'a] at hkS; cases hkS
      have s2 := Heap.SameBut.update s'.heap kS (Obj.mapSeq fun _ => (#[] : Array Value))
      obtain ⟨c2, hc2⟩ : ∃ c2, (s'.heap.update kS (Obj.mapSeq fun _ => (#[] : Array Value))).get? kS = some (seqObj "list" #[] c2) := ⟨_, get?_update_seq hget fun _ => #[]⟩
      have hga2 : (s'.heap.update kS (Obj.mapSeq fun _ => (#[] : Array Value))).get? a = some (seqObj "list" #[] e1) := (s2.2 a hkne).trans hga
      have K1 : Inv X (pins ++ [(a, seqObj "list" #[] e1)]) σ (upd H' kS (.lst [])) { s' with heap := s'.heap.update kS (Obj.mapSeq fun _ => (#[] : Array Value)), toks := s'.toks } :=
        J.write (by rw [hkS]; trivial) (.inl rfl) (fun b u hb e => (s2.2 b hb).trans e) ⟨_, hc2⟩ ⟨Nat.zero_le _, [], c2, .nil, hc2⟩
      unfold ksk_tail
      try dsimp only
      refine wpAny_bind (listUpdate_at hget rfl ?_ (by rw [List.size_toArray, ← hli]; exact hzz) (Nat.zero_le _))
      refine wpAny_bind (wpAny_letGo ?_)
      refine wpAny_bind (seqEpoch_at hga2 rfl ?_)
      have hsz : ((arrOf st).map (·.2)).size ≤ sizeLine := by
        have := hpe.length_eq
        rw [Array.length_toList, List.length_zip] at this
        rw [Array.size_map, this]
        omega
      simp only [Bool.false_eq_true, if_false]
      refine wpAny_bind (listUpdate_at hga2 rfl ?_ (Nat.zero_le _) (by omega))
      rw [hfl]
      simp only [bne_self_eq_false, Bool.false_eq_true, if_false]
      generalize hh2 : s'.heap.update kS (Obj.mapSeq fun _ => (#[] : Array Value)) = h2 at K1 hga2 ⊢
      have s3 := Heap.SameBut.update h2 a (Obj.mapSeq fun _ => (arrOf st).map (·.2))
      obtain ⟨c3, hc3⟩ : ∃ c3, (h2.update a (Obj.mapSeq fun _ => (arrOf st).map (·.2))).get? a = some (seqObj "list" ((arrOf st).map (·.2)) c3) := ⟨_, get?_update_seq hga2 fun _ => (arrOf st).map (·.2)⟩
      have hupa : upd H' kS (.lst []) a = none := by rw [upd_ne hkne]; exact hH'a
      have hvals : Vals (l'.map f) (((arrOf st).map (·.2)).toList) := by
        rw [Array.toList_map]
        have key : ∀ {ps : List (Value × Value)} {m : List α}, Paired (fun (p : Value × Value) y => kvH H' p.1 = gk y ∧ RelV (f y) p.2) ps m → Vals (m.map f) (ps.map (·.2)) := by
          intro ps m hp
          induction hp with
          | nil => exact .nil
          | cons r t ih => exact .cons r.2 ih
        exact key pr'
      have K3 : Inv X pins σ (upd (upd H' kS (.lst [])) a (.lst (l'.map f))) { s' with heap := h2.update a (Obj.mapSeq fun _ => (arrOf st).map (·.2)), toks := s'.toks } := by
        refine Inv.take (s := { s' with heap := h2, toks := s'.toks }) (Inv.unpinned K1) (fun b ob hb e => (s3.2 b hb).trans e) ⟨hupa, hL, hfs, hex, hcell, hpin⟩ ⟨?_, _, c3, hvals, ?_⟩
        · rw [List.length_map, pl.length_eq]; exact hz
        · rw [hc3, Array.toArray_toList]
      refine wpAny_pure (h l' _ _ pl ?_ K3 ?_ upd_same)
      · refine paired_pairwise (R := fun (p : Value × Value) y => kvH H' p.1 = gk y ∧ RelV (f y) p.2) ?_ pr' hso
        rintro p p' y y' ⟨k1, _⟩ ⟨k2, _⟩ hlt
        have hlt' : cLt (kvH H' p'.1) (kvH H' p.1) = false := hlt
        rw [k1, k2] at hlt'
        exact hlt'
      · exact fun b o e => by
          rw [upd_ne (ne_of_none e hn)]
          exact same_mut sm hk0 b o e
    have hzip : (its.toArray.zip vs.toArray).toList = its.zip vs := by simp
    unfold ksk_end
    try dsimp only
    simp only [Bool.false_eq_true, if_false]
    by_cases h2 : vs.toArray.size < 2
    · rw [if_pos h2, if_pos h2]
      refine wpAny_bind (wpAny_pure ?_)
      rw [StateT.run_pure]
      refine wpAny_bind (wpAny_pure ?_)
      try dsimp only
      rw [List.size_toArray] at h2
      refine tail (SortSt.mk' general' (its.toArray.zip vs.toArray) #[] 7 none) ?_ (by show (its.toArray.zip vs.toArray).toList.Perm _; rw [hzip]) rfl
      show SrtO.Srtd _ (its.toArray.zip vs.toArray).toList
      rw [hzip]
      have hl2 : (its.zip vs).length < 2 := by rw [List.length_zip]; omega
      match its.zip vs, hl2 with
      | [], _ => exact List.Pairwise.nil
      | [v], _ => exact List.pairwise_singleton _ _
      | _ :: _ :: l, h => exact absurd h (by simp)
    · rw [if_neg h2, if_neg h2]
      rw [List.size_toArray] at h2
      refine wpAny_bind (tup_kind (T := T) (vs := its) (k := kvH H') (by omega) (fun v hv => (hkk v hv).choose_spec.2.2) (fun v hv => ?_) ?_)
      · obtain ⟨y, hy, e, _⟩ := hkk v hv
        rw [e]
        exact ht y hy
      refine wpAny_bind (wpAny_mono (SrtO.wpS_sortO (st0 := SortSt.mk' (tuples' (Value.type T != Value.type "tuple")) (its.toArray.zip vs.toArray) #[] 7 none)
        (Q := fun _ st' => SrtO.Srtd (SrtO.lt2 fun v u => cLt (kvH H' v) (kvH H' u)) (arrOf st').toList ∧ (arrOf st').toList.Perm (its.zip vs) ∧ failedOf st' = none) (SrtO.swo2 (swo_cLt (kvH H'))) (tup_cmp (s := s') (fun v hv => (hkk v hv).choose_spec.2.2) hsame) rfl
        (fun p hp => ?_) rfl rfl fun st' a1 a2 a3 => ⟨a1, ?_, a3⟩) ?_ fun _ _ e => e)
      · have hp' : p ∈ (its.toArray.zip vs.toArray).toList := hp
        rw [hzip] at hp'
        exact (List.of_mem_zip (a := p.1) (b := p.2) hp').1
      · have := a2.perm
        have e : (arrOf (SortSt.mk' (tuples' (Value.type T != Value.type "tuple")) (its.toArray.zip vs.toArray) #[] 7 none)).toList = its.zip vs := hzip
        rw [e] at this
        exact this
      · rintro ⟨⟨⟩, st'⟩ s2 ⟨rfl, hp1, hp2, hf⟩
        try dsimp only
        exact tail st' hp1 hp2 hf
end
end Sh
set_option Elab.async false
set_option linter.all false
set_option maxRecDepth 100000
set_option maxHeartbeats 2000000
namespace Sh
open PySem PySem.Spec PyProof.Rows L2
/-- a list of these, or a dict whose keys they are -/
def KSrc (K : PySem.W.Frag) (H : Hp) (v : V) (xs : List V) : Prop := ∃ a, v = .ref a ∧ (SqL K H a xs ∨ ∃ kvs : List (Key × V), Rd H a (.dK kvs) ∧ xs = kvs.map fun p => kV p.1)
def rSortK (K : PySem.W.Frag) (sp : Sp) : List V → Hp → VK → Prop := fun vs H Q => ∃ (α : Type) (f : α → V) (gk : α → List V) (T : String) (l : List α) (v : V), vs = [v] ∧ KSrc K H v (l.map f) ∧
  (∀ y ∈ l, ∀ H1, Same H H1 → ∀ Q' : VK, (∀ q H2, Same H1 H2 → H2 q = some (.tup (gk y)) → Q' (.ref q) H2) → sp [f y] H1 Q' E0) ∧
  (∀ y ∈ l, Head T (gk y)) ∧ (∀ y ∈ l, ∀ z ∈ l, sameKs (gk y) (gk z) = true) ∧
  ∀ (l' : List α) (p : Addr) (H' : Hp), l'.Perm l → l'.Pairwise (fun y z => cLt (gk z) (gk y) = false) → H p = none → Same H H' → H' p = some (.lst (l'.map f)) → Q (.ref p) H'
section
variable {X : Cx} {n : Nat} {g : Addr} {sp : Sp}
theorem cr_sortKey (F : FnR X.prog X.w X.K X.mg X.base CX0 n g sp) (hr : Room (n + 2) X.A) (hc : X.calm = true) : CallRK X (.builtin "sorted") [Str.ofString "key"] (fun vs zs H Q => zs = [.ref g] ∧ rSortK X.K sp vs H Q) := by
  intro pins s σ H vs zs us ws Q I r rz h
  obtain ⟨rfl, α, f, gk, T, l, v, rfl, ⟨a, rfl, src⟩, hk, ht, hs, q⟩ := h
  obtain ⟨w1, rfl, e1⟩ := vals1 rz
  obtain rfl : w1 = Value.ref g := e1
  obtain ⟨u, rfl, ru⟩ := vals1 r
  obtain rfl : u = Value.ref a := ru
  have hr2 : Room n X.A.in1.in1 := (show Room (n + 1) X.A.in1 from Room.in1 hr).in1
  refine call_function_entry_kw kind_sorted plain_sorted entry_sorted (ksk_s1 _ _) ?_
  unfold Builtin.«sorted»
  refine wpAny_bind (m := checkCount "sorted" 1 1 _) (wpAny_pure ?_)
  have col : ∀ R : List Value → Shared → Prop, (∀ h' tk us, (∀ b o, s.heap.get? b = some o → h'.get? b = some o) → Vals (l.map f) us → l.length ≤ sizeLine → R us { s with heap := h', toks := tk }) → wpAny (model X.prog X.w) X.A.in1 (collect (.ref a)) R X.xe s := by
    intro R hR
    rcases src with hL | ⟨kvs, hD, ek⟩
    · obtain ⟨its, rv, hl, hz⟩ := I.list hL
      refine collect_list hl.isList (hR _ s.toks its (fun b o e => ?_) rv (by rw [List.length_map] at hz; exact hz)) (by rw [← rv.length]; exact hz)
      have hlt : b < s.heap.objs.size := Heap.lt_size e
      rw [Heap.get?_update_ne _ _ _ _ (Nat.ne_of_lt hlt)]
      exact Heap.get?_push_of_some _ e
    · obtain ⟨z, lo, vs, rel, dd⟩ := dk_rd I.hok hD
      obtain ⟨ep, hat⟩ := dd.dictAt
      have hl : kvs.length = vs.length := Paired.length rel
      refine PySem.W.kdu_collect (A := X.A.in1) (PySem.W.kdl_dict (knd := mixKind X.prog X.w) (kvs := vs) (ep := ep) lo) (I.ok.hd hc) hat (by rw [← hl]; exact z) fun h' tk acc hk hacc => ?_
      have ll : l.length = kvs.length := by
        have := congrArg List.length ek
        rw [List.length_map, List.length_map] at this
        exact this
      refine hR h' tk acc.toList hk ?_ (by rw [ll]; exact z)
      rw [ek]
      have el : acc.toList.length = acc.size := by simp
      refine vals_of_at (by rw [List.length_map, el, hacc.1, hl]) fun j x w h1 h2 => ?_
      obtain ⟨k, y, hky, hi⟩ := hacc.2 j w (by rw [← Array.getElem?_toList]; exact h2)
      have e1 : (kvs.map (·.1))[j]? = some k := by
        rw [KV.keys rel, List.getElem?_map, hky] <;> rfl
      have e2 : (kvs.map fun kv => kV kv.1)[j]? = some (kV k) := by
        have e3 : (kvs.map fun kv => kV kv.1) = (kvs.map (·.1)).map kV := by rw [List.map_map] <;> rfl
        rw [e3, List.getElem?_map, e1] <;> rfl
      rw [e2] at h1
      cases h1
      exact keyIs_rel hi
  refine wpAny_bind (col _ fun h' tk us hkp rv hz => ?_)
  have hul : us.length = l.length := by rw [← rv.length, List.length_map]
  refine wpAny_bind (wpAny_newList ?_ (by rw [hul]; exact hz))
  have I1 : Inv X pins σ H { s with heap := h', toks := tk } := I.kept hkp
  have hoL : (h'.push (seqObj "list" us.toArray 0)).get? h'.objs.size = some (seqObj "list" us.toArray 0) := Heap.get?_push_size _ rfl
  have hfr : H h'.objs.size = none := I1.hok.fresh (Nat.le_refl _)
  have fp : FpOk X pins H h'.objs.size := I1.fpOk (Nat.le_refl _) hfr
  have I2 : Inv X pins σ H { s with heap := h'.push (seqObj "list" us.toArray 0), toks := tk } := I1.kept fun b o e => Heap.get?_push_of_some _ e
  show wpAny _ _ _ _ _ { s with heap := h'.push (seqObj "list" us.toArray 0), toks := tk }
  refine wpAny_bind (wpAny_holding (wpAny_call_entry_kw slot_list_sort ⟨_, hoL, rfl⟩ entry_list_sort ?body (ksk_l1 _ _)))
  case body =>
    show wpAny (model X.prog X.w) X.A.in1.in1 (Builtin.«list.sort» ⟨[.ref h'.objs.size], [(Str.ofString "key", .ref g)]⟩) _ _ _
    rw [ksk_t1]
    refine list_sort_keyX I2 F hr2 hoL fp rv hz hk ht hs fun l' s' H' pl po J sm hp => ⟨_, rfl, ?_⟩
    exact wpAny_pure ⟨_, rfl, .ref h'.objs.size, H', J, rfl, q l' _ H' pl po hfr sm hp⟩
end
section
variable {X : Cx} {k j : Nat} {x : Str} {sp : Sp} {p p2 pos kpos : Pos} {e : Expr} {t : TA}
def tSortK (K : PySem.W.Frag) (sp : Sp) (t : TA) : TE := fun σ H Q => t σ H fun vs H1 => rSortK K sp vs H1 Q
/-- sorted(e, key=f), f a def of the text -/
theorem pe_sortK (c : Cal X.prog X.w X.K X.mg X.base CX0 k x sp) (hr : Room j X.A) (hk : k + 2 ≤ j) (hc : X.calm = true) (hg : Gl X "sorted") (hm : X.mg "sorted" = none) (hgx : Gl X x) (ha : PA X [e] t)
    (hdb : (x == ("__debug__" : Str)) = false := by decide)
    (he : backTo pos (starEach [e] X.env) = (false, eval e X.env) :: backTo pos (starEach [] X.env) := by rfl) (hpl : (backTo pos (starEach [e] X.env)).any (·.1) = false := by rfl) :
    PE X (.Call (.Name "sorted" p) [e] [⟨some (Str.ofString "key"), .Name x p2, kpos⟩] pos) (tSortK X.K sp t) := by
  obtain ⟨f, fd, ps, F, hmx, kp, b⟩ := c.ex
  have P0 := pe_callBK (p := p) (pos := pos) (cr_sortKey (fnR_of F b) (hr.mono hk) hc) hg hm (by rfl) ha (pk_cons (kpos := kpos) (nm := some (Str.ofString "key")) (pe_glob (pos := p2) (v := .ref f) hgx hmx rfl hdb) pk_nil) (by decide) (by decide) he hpl
  refine ⟨fun pins s σ H Q I h => P0.run pins s σ H Q I ?_⟩
  have e9 : (fun (vs : List V) (H1 : Hp) => ([V.ref f] : List V) = [.ref f] ∧ rSortK X.K sp vs H1 Q) = fun vs H1 => rSortK X.K sp vs H1 Q := by
    funext vs H1
    exact propext ⟨fun h => h.2, fun h => ⟨rfl, h⟩⟩
  show t σ H fun vs H1 => ([V.ref f] : List V) = [.ref f] ∧ rSortK X.K sp vs H1 Q
  rw [e9]
  exact h
end
/-! ### == by an own __eq__ -/
section
variable {X : Cx} {C : Addr} {k j : Nat} {sp : Sp}
def rEqI (C : Addr) (sp : Sp) : R2 := fun x y H Q => ∃ a dx fs b dy gs, x = .ref a ∧ y = .ref b ∧ H a = some (.ins C dx fs) ∧ H b = some (.ins C dy gs) ∧ sp [.ref a, .ref b] H (fun v H' => ∃ c, v = .bl c ∧ Q v H') E0
theorem op_eqI (d : MetC X.prog X.w X.K X.mg X.base k C "__eq__" sp) (hr : Room j X.A) (hk : k ≤ j) : OpR X (compareOp .Eq) (rEqI C sp) := by
  obtain ⟨f, fd, ps, F, b, hs, hf, ho⟩ := d.ex
  intro pins s σ H x y v u Q I rx ry h
  obtain ⟨a, dx, fs, a2, dy, gs, rfl, rfl, ha, hb, q⟩ := h
  obtain rfl : v = Value.ref a := rx
  obtain rfl : u = Value.ref a2 := ry
  obtain ⟨ox, od, J, _⟩ := StX.insC_at (C := C) I (.inr ⟨dx, fs, ha⟩)
  obtain ⟨ox', od', J', _⟩ := StX.insC_at (C := C) I (.inr ⟨dy, gs, hb⟩)
  obtain ⟨m, hF⟩ := I.fr
  show wpAny (model X.prog X.w) X.A (richCompare .Eq (.ref a) (.ref a2)) (EP X pins σ Q) X.xe s
  refine PySem.W.cmp_K (op := .Eq) (tb := .ref C) (hr.mono hk).units0 hF I.ok.mod.kin J J'.type (by simp [PySem.W.notFirst]) hs hf ?_
  refine wpAny_mono (run_in (us := [.ref a, .ref a2]) (ws := [.ref a, .ref a2]) (fnR_of F b) (hr.mono hk) I.env0 pass0 I (.cons rfl (.cons rfl .nil)) q) (fun v s' z => ?_) fun _ _ x => x
  obtain ⟨z', H', I', rz, c, ec, qz⟩ := z
  subst ec
  obtain rfl : v = .bool c := rz
  exact ⟨.bl c, H', I', rfl, qz⟩
end
end Sh
set_option Elab.async false
set_option linter.all false
set_option maxRecDepth 100000
set_option maxHeartbeats 2000000
namespace Sh
open PySem PySem.Spec PyProof.Rows L2
/-! ### a property of a class of the text -/
structure PropAt (K : PySem.W.Frag) (C : Addr) (f q : Str) (st : Stmt) : Prop where
  ex : ∃ (p g : Addr) (fd : FuncData), PropOf K C f p g ∧ L2.Fun K f q st g fd ∧ Binds K fd ["self"] []
structure PropC (P : Program) (w : World) (K : PySem.W.Frag) (mg : Str → Option Value) (base : Heap) (k : Nat) (C : Addr) (f : Str) (sp : Sp) : Prop where
  ex : ∃ (p g : Addr) (fd : FuncData) (ps : List Str), PropOf K C f p g ∧ FnOk P w K mg base CX0 k g fd ps sp ∧ Binds K fd ps []
section
variable {P : Program} {w : World} {K : PySem.W.Frag} {mg : Str → Option Value} {base : Heap}
theorem PropC.mk0 {f q : Str} {C : Addr} {st : Stmt} {N : List Str} {k : Nat} {sp : Sp} (D : PropAt K C f q st) (S : FnScope N ["self"] (defScope st)) (len : ∀ vs H Q E, sp vs H Q E → vs.length = 1)
    (hbody : ∀ (f : Addr) (cdv : Value) (A : Around) (outer : List Env) (s : Shared) (H : Hp) (vs : List V) (Q : VK) (E : XK), Room k (A.deeper (envOfC q (defScope st) s.heap.objs.size f cdv)) → sp vs H Q E →
      ∃ t, PSs (cxOf CX0 P w K mg base N q (defScope st) f cdv A outer s H E).nox (defBody st) t ∧ t { nx := fun _ H' => Q .non H', rt := Q } (start N vs) H) : PropC P w K mg base (k + 1) C f sp := by
  obtain ⟨p, g, fd, hp, F, b⟩ := D.ex
  exact ⟨p, g, fd, ["self"], hp, F.ok S len (hbody g), b⟩
end
section
variable {X : Cx} {k j : Nat} {f : Str} {C : Addr} {sp : Sp} {pos : Pos} {e : Expr} {ta : TE}
/-- o.f, f a property -/
theorem pe_propC (ho : PE X e ta) (c : Cls X.K C) (d : PropC X.prog X.w X.K X.mg X.base k C f sp) (hr : Room j X.A) (hk : k + 1 ≤ j) (hab : attributeBase e f X.env (eval e X.env) = eval e X.env := by rfl) :
    PE X (.Attribute e f pos) (tProp C sp [] E0 ta) := by
  obtain ⟨p, g, fd, ps, hp, F, b⟩ := d.ex
  exact pe_prop ho c hp F (hr.mono hk) b .nil pass0 hab
end
section
variable {X : Cx} {C : Addr} {k j : Nat} {sp : Sp} {a : Expr} {ta : TE}
/-- o as a test, o an instance of the class at C with an own __bool__ -/
def tTestI (C : Addr) (sp : Sp) (ta : TE) : TT := fun σ H Q => ta σ H fun x H1 => ∃ p dx fs, x = .ref p ∧ H1 p = some (.ins C dx fs) ∧ sp [.ref p] H1 (fun z H2 => ∃ b, z = .bl b ∧ Q b H2) E0
theorem pt_inst (d : MetC X.prog X.w X.K X.mg X.base k C "__bool__" sp) (hr : Room j X.A) (hk : k ≤ j) (ha : PE X a ta) (he : ∀ whole, isTrue a X.env whole = (do let v ← whole; standAt a.pos; holding [v] (truthy v))) : PT X a (tTestI C sp ta) := by
  obtain ⟨f, fd, ps, F, b, i, n, o⟩ := d.ex
  refine ⟨fun pins s σ H Q I h => ?_⟩
  refine isTrue_plain (thn (ha.run pins s σ H _ I h) fun v s1 ⟨x, H1, I1, r1, p, dx, fs, ex, hH, q⟩ => ?_) (he _)
  subst ex
  obtain rfl : v = .ref p := r1
  obtain ⟨ox, od, J, _⟩ := StX.insC_at (C := C) I1 (.inr ⟨dx, fs, hH⟩)
  refine truthy_own I1.kIn J i n (wpAny_mono (run_in (us := [.ref p]) (ws := [.ref p]) (fnR_of F b) (hr.mono hk) I1.env0 pass0 I1 (.cons rfl .nil) q) (fun v s' z => ?_) fun _ _ x => x)
  obtain ⟨z', H', I', rz, c, ec, qz⟩ := z
  subst ec
  obtain rfl : v = .bool c := rz
  exact ⟨c, rfl, H', I', qz⟩
end
/-! ### what walks over the keys of a dict -/
theorem lc_keys {d : Addr} {o : Obj} {kvs : List (Key × V)} {g : TG} {tt : TT} {te : TE} {vs : List Nat} {σ : L2.St} {H1 : Hp} {D : Addr} {Qd : Hp → Prop}
    (Pv : List Key → Hp → Prop) (h0 : Pv [] (upd H1 D (.lst []))) (hG : ∀ pre H, Pv pre H → H d = some (.frz o (.dK kvs)))
    (hs : ∀ pre k post H, kvs.map (·.1) = pre ++ k :: post → Pv pre H → g (kV k) (wipe σ vs) H fun σ2 H2 => wipe σ2 vs = wipe σ vs ∧ tt σ2 H2 fun b H3 =>
      if b = true then te σ2 H3 fun y' H4 => ∃ acc, H4 D = some (.lst acc) ∧ acc.length < sizeLine ∧ Pv (pre ++ [k]) (upd H4 D (.lst (acc ++ [y']))) else Pv (pre ++ [k]) H3) (hd : ∀ H, Pv (kvs.map (·.1)) H → Qd H) :
    ∃ W : Nat → Nat → Hp → Prop, (∃ m, W 0 m (upd H1 D (.lst []))) ∧ ∀ i m H, W i m H →
      ((Itk d o kvs).stop i H ∧ Qd H) ∨ ((Itk d o kvs).go i H ∧ ∃ Nx : Hp → Prop, (∀ H', Nx H' → ∃ m', m' < m ∧ W (i + 1) m' H') ∧ ∀ x H', (Itk d o kvs).yld i H x H' → g x (wipe σ vs) H' fun σ2 H2 => wipe σ2 vs = wipe σ vs ∧ tt σ2 H2 fun b H3 =>
        if b = true then te σ2 H3 fun y H4 => ∃ acc, H4 D = some (.lst acc) ∧ acc.length < sizeLine ∧ Nx (upd H4 D (.lst (acc ++ [y]))) else Nx H3) := by
  have w := walk_keys (d := d) (o := o) (kvs := kvs)
  refine lc_it w (fun i H => Pv ((kvs.map (·.1)).take i) H) (by simpa using h0) (fun i H _ p => hG _ H p) (fun i x H H' hi p y => ?_) (fun H p => hd H (by rw [List.take_of_length_le (by simp)] at p; exact p))
  obtain ⟨rfl, k, v, hk, rfl⟩ := y
  have hl : (kvs.map (·.1))[i]? = some k := by rw [List.getElem?_map, hk]; rfl
  obtain ⟨e1, e2⟩ := take_succ_of hl
  have q := hs _ k _ H' e2 p
  rw [← e1] at q
  exact q
/-- a dict comprehension over a tuple whose items are told by l -/
theorem dc_tupR {α : Type} {Rel : Hp → V → α → Prop} {l : List α} {xs : List V} {K : PySem.W.Frag} {a : Addr} {g : TG} {tt : TT} {tk tv : TE} {vs : List Nat} {σ : L2.St} {H1 : Hp} {D : Addr} {Qd : Hp → Prop} (hlen : xs.length = l.length)
    (Pv : List α → Hp → Prop) (h0 : Pv [] (upd H1 D (.dK []))) (hG : ∀ pre H, Pv pre H → SqT K H a xs ∧ ∀ (i : Nat) x y, xs[i]? = some x → l[i]? = some y → Rel H x y)
    (hs : ∀ pre y post x H, l = pre ++ y :: post → xs[pre.length]? = some x → Rel H x y → Pv pre H → g x (wipe σ vs) H fun σ2 H2 => wipe σ2 vs = wipe σ vs ∧ tt σ2 H2 fun b H3 =>
      if b = true then tk σ2 H3 fun y1 H4 => tv σ2 H4 fun z H5 => ∃ kvs k, y1 = kV k ∧ H5 D = some (.dK kvs) ∧ kvs.length < sizeLine ∧ Pv (pre ++ [y]) (upd H5 D (.dK (putK kvs k z))) else Pv (pre ++ [y]) H3) (hd : ∀ H, Pv l H → Qd H) :
    ∃ W : Nat → Nat → Hp → Prop, (∃ m, W 0 m (upd H1 D (.dK []))) ∧ ∀ i m H, W i m H →
      ((Itt K a).stop i H ∧ Qd H) ∨ ((Itt K a).go i H ∧ ∃ Nx : Hp → Prop, (∀ H', Nx H' → ∃ m', m' < m ∧ W (i + 1) m' H') ∧ ∀ x H', (Itt K a).yld i H x H' → g x (wipe σ vs) H' fun σ2 H2 => wipe σ2 vs = wipe σ vs ∧ tt σ2 H2 fun b H3 =>
        if b = true then tk σ2 H3 fun y H4 => tv σ2 H4 fun z H5 => ∃ kvs k, y = kV k ∧ H5 D = some (.dK kvs) ∧ kvs.length < sizeLine ∧ Nx (upd H5 D (.dK (putK kvs k z))) else Nx H3) := by
  refine dc_tup (K := K) (a := a) (xs := xs) (fun i H => Pv (l.take i) H) (by simpa using h0) (fun i H _ p => (hG _ H p).1) (fun i x H hx p => ?_) (fun H p => hd H (by rw [hlen, List.take_length] at p; exact p))
  have hi' : i < l.length := by
    have := (List.getElem?_eq_some_iff.mp hx).1
    omega
  have hl : l[i]? = some l[i] := by simp [hi']
  obtain ⟨e1, e2⟩ := take_succ_of hl
  have q := hs _ l[i] _ x H e2 (by rw [List.length_take, Nat.min_eq_left (Nat.le_of_lt hi')]; exact hx) ((hG _ H p).2 i x l[i] hx hl) p
  rw [← e1] at q
  exact q
end Sh
set_option Elab.async false
set_option linter.all false
set_option maxRecDepth 100000
namespace Sh
open PySem PySem.Spec PyProof.Rows L2
structure TxtC (K : PySem.W.Frag) (mg : Str → Option Value) (CB : Addr) : Prop extends Txt K mg where
  k_Book : ClassAt K mg "Book" CB
  m_Book___init__ : MethAt K CB "__init__" "Book.__init__" s_Book___init__ ["self", "signs", "rules"]
  n_Book_signs : NoAttr K CB "signs"
  n_Book_rules : NoAttr K CB "rules"
  n_Book__lefts : NoAttr K CB "_lefts"
  n_Book__longest : NoAttr K CB "_longest"
  n_Book__quarrel : NoAttr K CB "_quarrel"
  n_Book__moves : NoAttr K CB "_moves"
end Sh
set_option Elab.async false
set_option linter.all false
set_option maxRecDepth 100000
set_option maxHeartbeats 2000000
/-! The law's own call, known to be the outermost one: no repr runs around it (guards = some []), which FnOk does not tell. -/
namespace Sh
open PySem PySem.Spec PyProof.Rows L2
section
variable {P : Program} {w : World} {K : PySem.W.Frag} {mg mb : Str → Option Value}
/-- one def run at one place B: what fn_of says for every place -/
theorem run_at {base : Heap} {j : Nat} {g : Addr} {q : Str} {st : Stmt} {fd : FuncData} {N ps : List Str} {B : Around} {out : List Env} {s0 : Shared} {H0 : Hp} {ar : Args} {us : List Value} {zs : List V} {R : VK} {X0 : XK}
    (F : L2.Fun K q q st g fd) (S : FnScope N ps (defScope st)) (hl : zs.length = ps.length) (room : Room (j + 1) B) (en : Env0 P w K mg base B out s0 H0) (bi : BindsTo s0 fd ar (ps.zip us)) (rv : Vals zs us)
    (body : ∀ cdv : Value, Room j (B.deeper (envOfC q (defScope st) s0.heap.objs.size g cdv)) →
      ∃ t, PSs (cxOf CX0 P w K mg base N q (defScope st) g cdv B out s0 H0 X0).nox (defBody st) t ∧ t { nx := fun _ H' => R .non H', rt := R } (start N zs) H0) :
    codeAny (model P w) B (.call (.ref g) ar) (CR CX0 out P w H0 s0 R X0) s0 := by
  obtain ⟨oc, od, kV, doc, pm, an, cdv, ct, osl, rfl, look, code⟩ := F.ex
  have inK : K.In s0.heap := en.mod.kin.keeps fun b o z => (en.bs b o z).1
  have noL : s0.heap.NoLimit := en.mod.nolimit.keeps fun b o z => (en.bs b o z).1
  refine codeAny_call_function room.depth (inK _ _ look) rfl S.co S.gen rfl (PySem.W.codeRec_of inK code) (bi _ _ _ _ ?_)
  refine wpAny_newFunctionEnv_cells S.kind ?_ fun env same s2 at2 => ?_
  · rintro ⟨n, v⟩ mem
    exact (S.par n (List.of_mem_zip mem).1).imp id fun z => ⟨z, PySem.W.cellsFrom_some _ _ _ (.inl z)⟩
  · subst same
    refine ⟨noL.keeps at2.toInCall.keep, codeAny_func ?_⟩
    obtain ⟨t, run, val⟩ := body cdv (room.deeper _)
    have I0 := inv_start (CX := CX0) (E := X0) S room.hd en hl rv at2
    refine wpAny_mono (run.nox.run [] s2 _ H0 _ I0 val) (fun fl s3 out3 => ?_) fun e s3 z => z
    match fl, out3 with
    | .ret u, ⟨v, _, H3, J, r3, z⟩ => exact ⟨v, H3, J.os, J.bare, J.base, J.hok, r3, z⟩
    | .next, ⟨_, H3, J, z⟩ => exact ⟨.non, H3, J.os, J.bare, J.base, J.hok, rfl, z⟩
    | .brk, ⟨_, _, _, z⟩ => exact z.elim
    | .cont, ⟨_, _, _, z⟩ => exact z.elim
/-- at most the script is tracked, as an object that keeps -/
def OnlyA (a : Addr) (ls : List V) (vs : List Value) (H : Hp) : Prop := ∀ b u, H b = some u → b = a ∧ u = .frz { cls := .type "list", data := .seq vs.toArray } (.lst ls)
theorem law_in {k : Nat} {fa a : Addr} {x p1 : Str} {st : Stmt} {fd : FuncData} {N : List Str} {s1 : Shared} {vs : List Value} {zs : List Int}
    (kin : K.In s1.heap) (glob : s1.heap.Ns mainGlobals mg) (bltn : s1.heap.Ns builtinsNs mb) (bboot : ∀ y : Str, y ≠ "__name__" → mb y = bootBuiltins y) (noL : s1.heap.NoLimit) (noG : s1.gens = #[])
    (scr : s1.heap.get? a = some { cls := .type "list", data := .seq vs.toArray }) (isI : IntsAre vs zs) (small : zs.length ≤ sizeLine) (room : Room (k + 1) callerA)
    (F : L2.Fun K x x st fa fd) (S : FnScope N [p1] (defScope st)) (bi : ∀ (s : Shared) (u : Value), BindsTo s fd ⟨[u], []⟩ [(p1, u)])
    (body : ∀ (base : Heap) (H : Hp) (cdv : Value), Room k (callerA.deeper (envOfC x (defScope st) s1.heap.objs.size fa cdv)) → SqL K H a (zs.map V.int) →
      ∃ t, PSs (cxOf CX0 P w K mg base N x (defScope st) fa cdv callerA [] s1 H fun _ _ _ => False).nox (defBody st) t ∧ t { nx := fun _ _ => V.non = V.bl true, rt := fun v _ => v = .bl true } (start N [.ref a]) H) :
    codeAny (model P w) callerA (.call (.ref fa) ⟨[.ref a], []⟩) (fun r s' => r = .ok (.ret (.bool true)) ∧ OldK s1.heap s'.heap ∧ s'.os = s1.os ∧ AllBare s'.gens) s1 := by
  have isV := vals_ints isI
  have sameL := isI.length
  have main : ∀ H : Hp, OnlyA a (zs.map V.int) vs H → SqL K H a (zs.map V.int) → HOk P w H s1.heap → (K.lookup a ≠ none → H a = none) →
      codeAny (model P w) callerA (.call (.ref fa) ⟨[.ref a], []⟩) (fun r s' => r = .ok (.ret (.bool true)) ∧ OldK s1.heap s'.heap ∧ s'.os = s1.os ∧ AllBare s'.gens) s1 := by
    intro H lone sq good apart
    -- what is not the script is not tracked
    have free : ∀ {b : Addr}, b ≠ a → H b = none := fun {b} n => by
      cases z : H b with
      | none => rfl
      | some u => exact absurd (lone b u z).1 n
    have nsF : ∀ {b : Addr} {m : Str → Option Value}, s1.heap.Ns b m → (hidT s1.heap H).Ns b m := by
      rintro b m ⟨o, es, ep, z, dat, rest⟩
      refine ⟨o, es, ep, hidT_get z (free ?_), dat, rest⟩
      rintro rfl
      rw [scr] at z
      cases z
      cases (show Data.seq vs.toArray _ = Data.dict es ep from dat)
    have kinF : K.In (hidT s1.heap H) := fun b o z => by
      by_cases n : b = a
      · subst n
        exact hidT_get (kin _ _ z) (apart (by rw [z]; simp))
      · exact hidT_get (kin b o z) (free n)
    obtain ⟨mc, c1, c2⟩ := noL
    have en : Env0 P w K mg (hidT s1.heap H) callerA [] s1 H := by
      refine ⟨rfl, ⟨kinF, nsF glob, ⟨mb, nsF bltn, bboot⟩, ⟨mc, nsF c1, c2⟩⟩, fun b o z => of_hidT z, Nat.le_of_eq (hidT_size _ _), trivial, fun b z => ?_, good, .of_eq noG⟩
      cases z
    refine codeAny_mono (run_at (R := fun v _ => v = .bl true) (zs := [.ref a]) (us := [.ref a]) F S rfl room en (bi s1 (.ref a)) (.cons rfl .nil) fun cdv r => body _ H cdv r sq) fun res s2 h => ?_
    match res, h with
    | .error e, h => exact (show False from h).elim
    | .ok .next, h => exact (show False from h).elim
    | .ok .brk, h => exact (show False from h).elim
    | .ok .cont, h => exact (show False from h).elim
    | .ok (.ret u), ⟨v, H2, os, bare, un, good2, rv, ev⟩ =>
      obtain rfl : v = .bl true := ev
      obtain rfl : u = Value.bool true := rv
      refine ⟨rfl, OldK.of_keep fun b o z => ?_, os, bare⟩
      cases q : H b with
      | none => exact un.keep b o z q (fun m => by cases m) (by simp)
      | some u =>
        obtain ⟨rfl, rfl⟩ := lone b u q
        have g1 := (good _ _ q).1
        rw [z] at g1
        cases g1
        exact (good2 _ _ (un.frzs _ _ _ q)).1
  by_cases own : K.lookup a = none
  · refine main (fun b => if b = a then some (.frz { cls := .type "list", data := .seq vs.toArray } (.lst (zs.map V.int))) else none) ?_ (.inl (.inr ⟨_, if_pos rfl⟩)) ?_ fun n => absurd own n
    · intro b u z
      by_cases n : b = a
      · exact ⟨n, (Option.some.inj ((if_pos n).symm.trans z)).symm⟩
      · cases (if_neg n).symm.trans z
    · intro b u z
      by_cases n : b = a
      · subst n
        cases (if_pos rfl).symm.trans z
        exact ⟨scr, by rw [List.length_map]; exact small, vs, _, isV, scr⟩
      · cases (if_neg n).symm.trans z
  · obtain ⟨o, z⟩ := Option.ne_none_iff_exists'.mp own
    have same := kin a o z
    rw [scr] at same
    cases same
    exact main (fun _ => none) (fun _ _ z => by cases z) (.inr ⟨_, vs.toArray, _, z, rfl, rfl, rfl, by rw [List.size_toArray, sameL]; exact small, by simpa using isV⟩) (fun _ _ z => by cases z) fun _ => rfl
end
/-- the law's claim from its body, walked where no repr runs around it -/
theorem walk_law {l : PySem.W.OpenLaw} {n k : Nat} {q : Program} {loose : List Str} {XP : (Str → Option Value) → Heap → Prop} {YP : World → Heap → Prop} {d : DefRec} {K : Params → PySem.W.Frag} {x p1 : Str} {st : Stmt} {N : List Str}
    (hn : l.most = some n) (hn2 : n ≤ sizeLine) (hdf : d.params.defaults = []) (room : Room (k + 1) callerA) (S : FnScope N [p1] (defScope st))
    (hY : ∀ (w : World) (h : Heap), YP w h → (K w.params).In h)
    (F : ∀ (w : World) (mg : Str → Option Value) (fa : Addr) (h : Heap), (K w.params).In h → h.Ns mainGlobals mg → mg d.name = some (.ref fa) →
      ∃ fd : FuncData, L2.Fun (K w.params) x x st fa fd ∧ (∀ (s : Shared) (u : Value), BindsTo s fd ⟨[u], []⟩ [(p1, u)]) ∧
        ∀ (s1 : Shared) (a : Addr) (zs : List Int) (base : Heap) (H : Hp) (cdv : Value), zs.length ≤ n → (∀ z ∈ zs, Builtin.Int.intBits z ≤ 1048576) → Room k (callerA.deeper (envOfC x (defScope st) s1.heap.objs.size fa cdv)) → SqL (K w.params) H a (zs.map V.int) →
          ∃ t, PSs (cxOf CX0 l.prog w (K w.params) mg base N x (defScope st) fa cdv callerA [] s1 H fun _ _ _ => False).nox (defBody st) t ∧ t { nx := fun _ _ => V.non = V.bl true, rt := fun v _ => v = .bl true } (start N [.ref a]) H) :
    PySem.W.WalkO q loose XP YP l.row.toRowW d [] (fun f vs => PySem.call f vs) := by
  refine Att.attach_callB hn hdf fun w s0 s1 mg mb fa o pm cd doc a vs zs G Y ho hd hcd hmg hobj isI len bits noG => ?_
  have kin := hY w _ Y
  obtain ⟨fd, Fn, bi, body⟩ := F w mg fa _ kin G.T.g hmg
  exact law_in kin G.T.g G.T.b G.T.builtins G.T.nolimit noG hobj isI (Nat.le_trans len hn2) room Fn S bi fun base H cdv r sq => body s1 a zs base H cdv len bits r sq
end Sh
set_option Elab.async false
set_option linter.all false
set_option maxRecDepth 100000
namespace Sh
open PySem PySem.Spec PyProof.Rows L2
section
variable {K : PySem.W.Frag} {h : Heap} {mg : Str → Option Value}
/-- a constant that the top has written -/
theorem con_mk {x : Str} {u : Value} {v : V} (X : K.In h) (Y : h.Ns mainGlobals mg) (a : PySem.W.nsIn K mainGlobals x = some (some u)) (r : RelV v u) : ∃ u, mg x = some u ∧ RelV v u := ⟨u, PySem.W.mg_of X Y a, r⟩
/-- a def -/
theorem def_mk {x : Str} {st : Stmt} {ps : List Str} {f : Addr} {oc kv dc pm cd ct : Value} {od an : Option Addr} {sl : Array (Option Value)} (X : K.In h) (Y : h.Ns mainGlobals mg) (a : PySem.W.nsIn K mainGlobals x = some (some (.ref f)))
    (l : K.lookup f = some ⟨oc, od, .func (PySem.W.fnOf x x (defArgs st) (defBody st) (defScope st) .none kv dc pm an cd ct), sl⟩) (c : PySem.W.codeIn K cd x = true) (k : PySem.W.keepIn K (.ref f) = true)
    (b : ∀ (kV doc pm : Value) (an : Option Addr) (cdv ct : Value) (us : List Value), us.length = ps.length → bindArgs (PySem.W.fnOf x x (defArgs st) (defBody st) (defScope st) .none kV doc pm an cdv ct) ⟨us, []⟩ = pure (ps.zip us)) : DefAt K mg x st ps := by
  have F := fun_mk (st := st) l c k
  exact ⟨f, _, F, PySem.W.mg_of X Y a, F.binds b⟩
/-- a method -/
theorem meth_mk {C : Addr} {m q : Str} {st : Stmt} {ps : List Str} {f : Addr} {oc kv dc pm cd ct : Value} {od an : Option Addr} {sl : Array (Option Value)}
    (l : K.lookup f = some ⟨oc, od, .func (PySem.W.fnOf m q (defArgs st) (defBody st) (defScope st) .none kv dc pm an cd ct), sl⟩) (c : PySem.W.codeIn K cd q = true) (k : PySem.W.keepIn K (.ref f) = true)
    (i : PySem.W.findIn K (.ref C) m = some (some (.ref f))) (n : PySem.W.isFn K (.ref f) = true) (o : PySem.W.fnIn K f = true)
    (b : ∀ (kV doc pm : Value) (an : Option Addr) (cdv ct : Value) (us : List Value), us.length = ps.length → bindArgs (PySem.W.fnOf m q (defArgs st) (defBody st) (defScope st) .none kV doc pm an cdv ct) ⟨us, []⟩ = pure (ps.zip us)) : MethAt K C m q st ps := by
  have F := fun_mk (st := st) l c k
  exact ⟨f, _, F, F.binds b, i, n, o⟩
/-- the law's def -/
theorem law_mk {x p1 : Str} {st : Stmt} {fa f : Addr} {oc kv dc pm cd ct : Value} {od an : Option Addr} {sl : Array (Option Value)} (X : K.In h) (Y : h.Ns mainGlobals mg) (g : mg x = some (.ref fa)) (a : PySem.W.nsIn K mainGlobals x = some (some (.ref f)))
    (l : K.lookup f = some ⟨oc, od, .func (PySem.W.fnOf x x (defArgs st) (defBody st) (defScope st) .none kv dc pm an cd ct), sl⟩) (c : PySem.W.codeIn K cd x = true) (k : PySem.W.keepIn K (.ref f) = true)
    (b : ∀ (kV doc pm : Value) (an : Option Addr) (cdv ct : Value) (s : Shared) (u : Value), BindsTo s (PySem.W.fnOf x x (defArgs st) (defBody st) (defScope st) .none kV doc pm an cdv ct) ⟨[u], []⟩ [(p1, u)]) :
    ∃ fd : FuncData, L2.Fun K x x st fa fd ∧ ∀ (s : Shared) (u : Value), BindsTo s fd ⟨[u], []⟩ [(p1, u)] := by
  cases g.symm.trans (PySem.W.mg_of X Y a)
  exact ⟨_, fun_mk l c k, b _ _ _ _ _ _⟩
end
end Sh
set_option Elab.async false
set_option linter.all false
set_option maxRecDepth 100000
namespace Sh
open PySem PySem.Spec PyProof.Rows L2
section
variable {K : PySem.W.Frag} {h : Heap} {mg : Str → Option Value}
theorem kit_self {C : Addr} : PySem.W.kitOne K (.ref C) (.ref C) = some true := if_pos (by simp)
/-- a property -/
theorem prop_mk {C p : Addr} {m q : Str} {st : Stmt} {f : Addr} {oc kv dc pm cd ct : Value} {od an : Option Addr} {sl : Array (Option Value)} {rest : List Value}
    (l : K.lookup f = some ⟨oc, od, .func (PySem.W.fnOf m q (defArgs st) (defBody st) (defScope st) .none kv dc pm an cd ct), sl⟩) (c : PySem.W.codeIn K cd q = true) (k : PySem.W.keepIn K (.ref f) = true)
    (i : PySem.W.findIn K (.ref C) m = some (some (.ref p))) (g : PySem.W.specialIn K (.ref p) "__get__" = some (some (.builtin "property.__get__"))) (t : PySem.W.takesIn K (.ref p) = some true) (r : PySem.W.recIn K p "property" = some (.ref f :: rest))
    (b : ∀ (kV doc pm : Value) (an : Option Addr) (cdv ct : Value) (us : List Value), us.length = 1 → bindArgs (PySem.W.fnOf m q (defArgs st) (defBody st) (defScope st) .none kV doc pm an cdv ct) ⟨us, []⟩ = pure ([("self" : Str)].zip us)) : PropAt K C m q st := by
  have F := fun_mk (st := st) l c k
  exact ⟨p, f, _, ⟨i, g, t, rest, r⟩, F, F.binds b⟩
end
end Sh
set_option Elab.async false
set_option linter.all false
set_option maxRecDepth 100000
set_option maxHeartbeats 4000000
/-! an own exception's __init__ that begins with super().__init__(e), over ValueError -/
namespace Sh
open PySem PySem.Spec PyProof.Rows L2 NdefX
/-- of the class at C: its super().__init__ as seen from D is ValueError's -/
structure SupC (K : PySem.W.Frag) (C D : Addr) : Prop where
  sub : PySem.W.mroIn K C (.ref D) = some true
  sup : PySem.W.ks_superIn K C D "__init__" = some (some (.builtin "ValueError.__init__"))
  ve : PySem.W.subIn K (.ref C) (.type "ValueError") = some true
/-- the def at f, its class cell at cc (the class at D), its code's file -/
structure SupF (P : Program) (K : PySem.W.Frag) (mg : Str → Option Value) (q : Str) (st : Stmt) (ps : List Str) (D f : Addr) (fd : FuncData) : Prop where
  ex : ∃ (cc cda : Addr) (oc kv doc pm ct : Value) (od an : Option Addr) (osl : Array (Option Value)), fd = PySem.W.fnX "__init__" q (defArgs st) (defBody st) (defScope st) [("__class__", cc)] .none kv doc pm an (.ref cda) ct ∧
    K.lookup f = some ⟨oc, od, .func fd, osl⟩ ∧ PySem.W.codeIn K (.ref cda) q = true ∧
    (∃ (cl : Value) (cld : Option Addr) (csl : Array (Option Value)), K.lookup cc = some ⟨cl, cld, .cell (some (.ref D)), csl⟩) ∧
    (∃ (cl : Value) (cld : Option Addr) (vs : Array Value) (csl : Array (Option Value)) (file : Str) (tf : Tok), K.lookup cda = some ⟨cl, cld, .fields vs, csl⟩ ∧ vs[2]? = some (.str file tf) ∧ ((P.main.file : Str) == file) = true)
  top : (P.main.scope.names.lookup ("super" : Str)).isSome = false
  mgs : mg "super" = none
  hD : ∃ cd, PySem.W.clsIn K D = some cd
  op : PySem.W.nsIn K cStatics "thirdparty.any" = some none
  hp : ∃ ar : Arg, ((defArgs st).posonlyargs ++ (defArgs st).args).head? = some ar ∧ ar.arg = "self"
  hks : (defScope st).names.lookup ("super" : Str) = some .globalImplicit
section
variable {CX : CXT} {P : Program} {w : World} {K : PySem.W.Frag} {mg : Str → Option Value} {base : Heap} {N ps : List Str} {k : Nat} {f cda cc D : Addr} {q : Str} {st : Stmt} {fd : FuncData} {sp : Sp}
theorem look1 {cc c : Addr} {y : Str} (h : List.lookup y [(("__class__" : Str), cc)] = some c) : y = "__class__" ∧ c = cc := by
  by_cases e : y = "__class__"
  · subst e
    simp [List.lookup] at h
    exact ⟨rfl, h.symm⟩
  · have e' : (y == ("__class__" : Str)) = false := by simpa using e
    simp [List.lookup, e'] at h
theorem cells1 {A : Around} {outer : List Env} {s : Shared} {H : Hp} {cl : Value} {cld : Option Addr} {csl : Array (Option Value)} {v : Option Value} (e0 : Env0 P w K mg base A outer s H) (hc : K.lookup cc = some ⟨cl, cld, .cell v, csl⟩) : CellsAt [("__class__", cc)] ["__class__"] [none] s.heap H := by
  have hb := e0.bs _ _ (e0.mod.kin _ _ hc)
  refine ⟨rfl, fun y c h => ?_, fun x y c h1 h2 => (look1 h1).1.trans (look1 h2).1.symm, fun i y h => ?_⟩
  · obtain ⟨_, rfl⟩ := look1 h
    exact ⟨hb.2, v, _, hb.1, rfl⟩
  · match i, h with
    | 0, h =>
      cases h
      exact ⟨cc, by simp [List.lookup], fun v e => by cases e⟩
    | _ + 1, h => cases h
/-- the statement super().__init__(e, ..) -/
theorem sup_run {X : Cx} {σ : L2.St} {H : Hp} {s : Shared} {body : List Stmt} {q : Str} {scope : Scope} {L f cda cc D a C : Addr} {fd : FuncData} {oc : Value} {od : Option Addr} {osl : Array (Option Value)} {ar : Arg} {p0 p1 p2 p3 p4 : Pos} {e : Expr} {es : List Expr} {ta : TA} {G : Hp → Prop}
    {cl cl2 : Value} {cld cld2 : Option Addr} {csl csl2 : Array (Option Value)} {fvs : Array Value} {file : Str} {tf : Tok}
    (I : Inv X [] σ H s) (henv : X.env = PySem.W.ksEnv q scope L f (.ref cda) cc) (hk : scope.kind = .function) (hks : scope.names.lookup ("super" : Str) = some .globalImplicit) (hkc : scope.names.lookup ("__class__" : Str) = some .free) (hka : scope.names.lookup ("self" : Str) = some .local)
    (lk : X.K.lookup f = some ⟨oc, od, .func fd, osl⟩) (hp : (fd.params.posonlyargs ++ fd.params.args).head? = some ar) (har : ar.arg = "self") (hcc : X.K.lookup cc = some ⟨cl, cld, .cell (some (.ref D)), csl⟩)
    (hcda : X.K.lookup cda = some ⟨cl2, cld2, .fields fvs, csl2⟩) (hvs : fvs[2]? = some (.str file tf)) (hfile : ((X.prog.main.file : Str) == file) = true) (htop : (X.prog.main.scope.names.lookup ("super" : Str)).isSome = false) (hmg : X.mg "super" = none) (hop : PySem.W.nsIn X.K cStatics "thirdparty.any" = some none)
    (hN : X.N[0]? = some ("self" : Str)) (hσ : σ[0]? = some (some (.ref a))) {cdD : ClassData} (hD : PySem.W.clsIn X.K D = some cdD) (T : OexC X.K C) (SC : SupC X.K C D) (ea : H a = some (exo a C none)) (ha : PA X (e :: es) ta)
    (he : starEach (e :: es) X.env = (false, eval e X.env) :: starEach es X.env) (hpl : ∀ pos, (backTo pos (starEach es X.env)).any (·.1) = false)
    {pl : Sem Bool} (hev : eval (.Call (.Attribute (.Call (.Name "super" p0) [] [] p1) "__init__" p2) (e :: es) [] p3) X.env = (do
      let ov ← attributeBase (.Call (.Name "super" p0) [] [] p1) "__init__" X.env (eval (.Call (.Name "super" p0) [] [] p1) X.env)
      standAt p2.atName
      let (f, first) ← holding [ov] (getMethod ov "__init__" pl)
      callWith p3 f first (backTo p3 (starEach (e :: es) X.env)) []))
    (hq : ta σ H fun us H1 => us.length ≤ 1000 ∧ H1 a = some (exo a C none) ∧ G H1) :
    _root_.PySem.wpAt (model X.prog X.w) X.A (.func body X.env) (exec (.Expr (.Call (.Attribute (.Call (.Name "super" p0) [] [] p1) "__init__" p2) (e :: es) [] p3) p4) X.env) (fun fl s' => fl = .next ∧ ∃ H1, Inv X [] σ H1 s' ∧ G H1) X.xe s := by
  have KX := I.kIn
  refine ks_wpAt_Expr_any (ks_wpAt_MethodCall (pl := pl) ?_ hev) (by unfold interactive; rw [I.ok.kind]; rfl)
  obtain ⟨oD, hD1, hD2⟩ : ∃ oD, s.heap.get? D = some oD ∧ oD.data = .cls cdD := by
    unfold PySem.W.clsIn at hD
    split at hD
    · rename_i c d cd' sl ho
      cases hD
      exact ⟨_, KX _ _ ho, rfl⟩
    · cases hD
  have k1 : X.env.kindOf "super" = some .globalImplicit := by rw [henv]; exact hks
  have k2 : X.env.kindOf "__class__" = some .free := by rw [henv]; exact hkc
  have k3 : X.env.kindOf "self" = some .local := by rw [henv]; exact hka
  refine ks_wpAt_super_base (f := f) (cc := cda) k1 k2 (by decide) (by rw [henv]) (KX _ _ lk) rfl hp (by rw [henv]) (KX _ _ hcda) rfl hvs hfile htop ?_
  obtain ⟨mb, g1, g2⟩ := I.mod.blt
  refine PySem.W.ks_loadName_global I.ok.kind k1 (Calls.loadGlobal_builtin (by rw [I.ok.glob]; exact I.mod.glob.keeps I.bk) hmg (by rw [I.ok.blt]; exact g1.keeps I.bk) ((g2 _ (by decide)).trans (by first | boot_by_name | rfl | kernel_rfl)) ⟨rfl, ?_⟩)
  refine wpAny_loadName_free I.ok.kind k2 (by rw [henv]; simp [List.lookup]) ⟨_, KX _ _ hcc, rfl⟩ ?_
  obtain ⟨m, hn, hl⟩ := I.loc
  obtain ⟨u, ru, lo⟩ := hl 0 _ _ hN hσ (.inl (by rw [henv]; exact hka))
  obtain rfl : u = Value.ref a := ru
  have hm : m "self" = some (.ref a) := by
    rcases lo with ⟨_, hm⟩ | ⟨hk | hk, _⟩
    · exact hm
    · rw [k3] at hk; cases hk
    · rw [k3] at hk; cases hk
  rw [har]
  refine wpAny_loadName_local I.ok.kind k3 hn hm ?_
  refine ks_wpAny_isType_cls hD1 hD2 ⟨rfl, ?_⟩
  obtain ⟨t1, hx⟩ := exo_at I.hok ea
  have IA : PySem.W.InstAt s.heap a { cls := .ref C, dict := none, data := .fields #[.ref t1, .none, .none, .none, .bool false, .none] } C none := ⟨hx, rfl, rfl, trivial⟩
  obtain ⟨cdC, hcC⟩ : ∃ cd, PySem.W.clsIn X.K C = some cd := by
    obtain ⟨nm, q, N, bs, bm, sn, sub, ab, col, dd, k0, k1, k2, k3, k5, hC, hbm⟩ := T.cls
    exact ⟨_, by unfold PySem.W.clsIn; rw [hC] <;> rfl⟩
  have hsup := SC.sup
  unfold PySem.W.ks_superIn at hsup
  rw [hcC, Option.bind_some] at hsup
  have hsz : s.heap.objs.size ≤ s.heap.objs.size := Nat.le_refl _
  obtain ⟨hh, g, d, t, os⟩ := s
  refine ks_wpAny_call_super hD1 hD2 hx rfl (fun c z => by cases z) (PySem.W.looks_mroIn KX SC.sub) (fun h' hso k => ?_)
  have I1 : Inv X [] σ H ⟨h', g, d, t, os⟩ := I.kept (t' := t) k
  have X1 : X.K.In h' := I1.kIn
  have hx1 := k _ _ hx
  have IA1 : PySem.W.InstAt h' a { cls := .ref C, dict := none, data := .fields #[.ref t1, .none, .none, .none, .bool false, .none] } C none := ⟨hx1, rfl, rfl, trivial⟩
  refine PySem.W.kxs_getMethod PySem.W.kxs_ValueError hso (PySem.W.looks_opaque X1 hop) (l₀ := cdC.mro) (fun A Q E s k q => wpAny_bind ((PySem.W.looks_clsIn X1 hcC) A _ E s k (wpAny_pure q))) rfl X1 hsup (IA1.type.andThen (PySem.W.looks_subIn X1 SC.ve)) (PySem.W.ks_ne X1 IA1 hcC) (by decide) ?_
  have I2 : Inv X [] σ H ⟨h'.push (PySem.W.kxs_mw "ValueError.__init__" a), g, d, t + 1, os⟩ := I1.kept (t' := t + 1) fun b o e => Heap.get?_push_of_some _ e
  have fp : FpOk X [] H h'.objs.size := I1.fpOk (Nat.le_refl _) (I1.hok.fresh (Nat.le_refl _))
  have I3 : Inv X [(h'.objs.size, PySem.W.kxs_mw "ValueError.__init__" a)] σ H ⟨h'.push (PySem.W.kxs_mw "ValueError.__init__" a), g, d, t + 1, os⟩ := I2.pins_of fun p hp => by
    rw [List.mem_singleton.mp hp]
    exact ⟨Heap.get?_push_size _ rfl, fp.1, fp.2.1, fp.2.2.1, fun v z => by cases z⟩
  show wpAny _ _ (callWith p3 (.ref h'.objs.size) [] (backTo p3 (starEach (e :: es) X.env)) []) _ _ _
  refine PySem.W.kxs_callWith (i := "ValueError.__init__") (x := a) (by rw [he]; show (false || (backTo p3 (starEach es X.env)).any (·.1)) = false; rw [hpl]; rfl) ?_
  have hs := ha.run p3 _ _ σ H _ I3 hq
  rw [he] at hs ⊢
  refine PySem.Calls.evalArgs_plain (thn hs fun us s1 ⟨vs, H1, J, r1, hl, ea1, hG⟩ => ?_)
  have hu : s1.heap.get? h'.objs.size = some (PySem.W.kxs_mw "ValueError.__init__" a) := (J.pin _ (List.mem_append_right _ List.mem_cons_self)).1
  refine ⟨hu, ?_⟩
  show wpAny _ _ (call (.ref h'.objs.size) us) _ _ _
  obtain ⟨nm, qn, N, bs, bm, sn, sub, ab, col, dd, k0, k1', k2', k3', k5, hC, hbm⟩ := T.cls
  obtain ⟨t2, he2⟩ := exo_at J.hok ea1
  have hlen : us.length ≤ sizeLine := by
    rw [← r1.length, sizeLine_eq]
    omega
  have hC2 := J.kIn _ _ hC
  obtain ⟨hp2, gn2, dr2, tk2, os2⟩ := s1
  refine wpAny_call (codeAny_of_tree ?_)
  show wpAny _ X.A.in1 (callAny (.ref h'.objs.size) ⟨us, []⟩) _ _ _
  simp only [callAny]
  refine wpAny_bind (wpAny_load hu ?_)
  simp only [PySem.W.kxs_mw, show (Value.type "method-wrapper" == Value.type "method" || Value.type "method-wrapper" == Value.type "builtin_function_or_method" || Value.type "method-wrapper" == Value.type "method-wrapper") = true by decide, if_true]
  refine PySem.W.KFB.if_so (by decide) ?_
  refine wpAny_bind (PySem.W.check_bound_init F.excBase_ValueError.toExcCallFacts hC2 he2 rfl ?_)
  refine wpAny_bind (wpAny_pure (wpAny_pure ?_))
  refine ⟨plainId_quiet F.excBase_ValueError.init.plain _, codeAny_builtin F.excBase_ValueError.initEntry ?_⟩
  refine PySem.W.exc_init_tree (cls := .ref C) (t0 := t2) (dv := none) (c2 := .none) (c3 := .none) (b4 := .bool false) he2 hlen ?_
  intro h3 k3 e3 t3
  have J2 := J.write (t' := tk2) (x := a) (e := a) (o := exo a C none) (by rw [ea1]; exact True.intro) (.inl rfl) k3 ⟨_, e3⟩ (exo_ok e3)
  have eu : upd H1 a (exo a C none) = H1 := by
    funext b
    by_cases hb : b = a
    · rw [hb, upd_same, ea1]
    · rw [upd_ne hb]
  rw [eu] at J2
  exact ⟨trivial, H1, J2.pins_of (fun p hp => absurd hp (by simp)), hG⟩
theorem fn_sup {p0 p1 p2 p3 p4 : Pos} {es : List Expr} {e : Expr} {rest : List Stmt} (F : SupF P K mg q st ps D f fd) (S : NScope N ps ["__class__"] (defScope st))
    (hself : ps.head? = some "self") (hst : defBody st = .Expr (.Call (.Attribute (.Call (.Name "super" p0) [] [] p1) "__init__" p2) (e :: es) [] p3) p4 :: rest)
    (len : ∀ vs H Q E, sp vs H Q E → vs.length = ps.length)
    (hbody : ∀ (cc cda : Addr) (A : Around) (outer : List Env) (s : Shared) (H : Hp) (vs : List V) (Q : VK) (E : XK), Room k (A.deeper (PySem.W.ksEnv q (defScope st) s.heap.objs.size f (.ref cda) cc)) → sp vs H Q E →
      ∃ ta t pl, PA (ncx CX P w K mg base N ⟨"__init__", q, defArgs st, defBody st, defScope st, [("__class__", cc)], cda⟩ f A outer s H E) (e :: es) ta ∧ PSs (ncx CX P w K mg base N ⟨"__init__", q, defArgs st, defBody st, defScope st, [("__class__", cc)], cda⟩ f A outer s H E) rest t ∧ starEach (e :: es) (PySem.W.ksEnv q (defScope st) s.heap.objs.size f (.ref cda) cc) = (false, eval e (PySem.W.ksEnv q (defScope st) s.heap.objs.size f (.ref cda) cc)) :: starEach es (PySem.W.ksEnv q (defScope st) s.heap.objs.size f (.ref cda) cc) ∧ (∀ pos, (backTo pos (starEach es (PySem.W.ksEnv q (defScope st) s.heap.objs.size f (.ref cda) cc))).any (·.1) = false) ∧
        eval (.Call (.Attribute (.Call (.Name "super" p0) [] [] p1) "__init__" p2) (e :: es) [] p3) (PySem.W.ksEnv q (defScope st) s.heap.objs.size f (.ref cda) cc) = (do
          let ov ← attributeBase (.Call (.Name "super" p0) [] [] p1) "__init__" (PySem.W.ksEnv q (defScope st) s.heap.objs.size f (.ref cda) cc) (eval (.Call (.Name "super" p0) [] [] p1) (PySem.W.ksEnv q (defScope st) s.heap.objs.size f (.ref cda) cc))
          standAt p2.atName
          let (g0, first) ← holding [ov] (getMethod ov "__init__" pl)
          callWith p3 g0 first (backTo p3 (starEach (e :: es) (PySem.W.ksEnv q (defScope st) s.heap.objs.size f (.ref cda) cc))) []) ∧
        ∃ (a C : Addr) (ws : List V), vs = .ref a :: ws ∧ OexC K C ∧ SupC K C D ∧ H a = some (exo a C none) ∧
        ta (startF N vs [none]) H (fun us H1 => us.length ≤ 1000 ∧ H1 a = some (exo a C none) ∧ t { nx := fun _ H' => Q .non H', rt := Q } (startF N vs [none]) H1)) :
    FnOk P w K mg base CX (k + 1) f fd ps sp := by
  obtain ⟨cc, cda, oc, kv, doc, pm, ct, od, an, osl, rfl, lk, hcd, ⟨cl, cld, csl, hcc⟩, ⟨cl2, cld2, fvs, csl2, file, tf, hcda, hvs, hfile⟩⟩ := F.ex
  refine ⟨len, fun A outer s H args us vs Q E hr e0 hb r hsp => ?_⟩
  have hl := len _ _ _ _ hsp
  have KX : K.In s.heap := e0.mod.kin.keeps fun b o e => (e0.bs b o e).1
  have lim : s.heap.NoLimit := e0.mod.nolimit.keeps fun b o e => (e0.bs b o e).1
  refine ks_codeAny_call_defAt (binds := ps.zip us) (body := defBody st) hr.depth (KX _ _ lk) rfl lim (PySem.W.codeRec_of KX hcd) rfl hb S.nocell (fun ⟨n, v⟩ hy => S.par n (List.of_mem_zip hy).1) (fun h₁ hns kp => ?_) S.co S.gen S.kind
  have I0 : Inv (ncx CX P w K mg base N ⟨"__init__", q, defArgs st, defBody st, defScope st, [("__class__", cc)], cda⟩ f A outer s H E) [] (startF N vs [none]) H { s with heap := h₁, toks := s.toks + (ps.zip us).length } := inv_startN S hr.hd e0 hl r (cells1 e0 hcc) hns kp
  obtain ⟨ta, t, pl, hpa, hps, he, hpl, hev, a, C, ws, rfl, T, SC, ea, hta⟩ := hbody cc cda A outer s H vs Q E (hr.deeper _) hsp
  obtain ⟨cdD, hD⟩ := F.hD
  obtain ⟨ar, har1, har2⟩ := F.hp
  obtain ⟨ps', rfl⟩ : ∃ ps', ps = ("self" : Str) :: ps' := by
    cases ps with
    | nil => cases hself
    | cons x xs => cases hself; exact ⟨xs, rfl⟩
  have hN0 : N[0]? = some ("self" : Str) := by
    have := congrArg (fun l => l[0]?) S.pre
    simpa using this
  have key : _root_.PySem.wpAt (model P w) (A.deeper (PySem.W.ksEnv q (defScope st) s.heap.objs.size f (.ref cda) cc)) (.func (defBody st) (PySem.W.ksEnv q (defScope st) s.heap.objs.size f (.ref cda) cc)) (execs (.Expr (.Call (.Attribute (.Call (.Name "super" p0) [] [] p1) "__init__" p2) (e :: es) [] p3) p4 :: rest) (PySem.W.ksEnv q (defScope st) s.heap.objs.size f (.ref cda) cc))
      (SP (ncx CX P w K mg base N ⟨"__init__", q, defArgs st, defBody st, defScope st, [("__class__", cc)], cda⟩ f A outer s H E) [] { nx := fun _ H' => Q .non H', rt := Q })
      (ncx CX P w K mg base N ⟨"__init__", q, defArgs st, defBody st, defScope st, [("__class__", cc)], cda⟩ f A outer s H E).xe { s with heap := h₁, toks := s.toks + ((("self" : Str) :: ps').zip us).length } := by
    refine ks_wpAt_execs_cons (ks_wpAt_mono (sup_run (G := fun H1 => t { nx := fun _ H' => Q .non H', rt := Q } (startF N (.ref a :: ws) [none]) H1) I0 rfl S.kind F.hks (S.frk _ List.mem_cons_self) (S.par _ List.mem_cons_self) lk har1 har2 hcc hcda hvs hfile F.top F.mgs F.op hN0 rfl hD T SC ea hpa he hpl hev hta) (fun fl s' ⟨e1, H1, J, hG⟩ => ?_) fun _ _ z => z)
    subst e1
    exact wpAt_of_wpAny (hps.run [] s' _ H1 _ J hG)
  rw [← hst] at key
  refine ks_wpAt_mono key (fun fl s' hs => ?_) fun _ _ z => z
  have fin : ∀ {σ' : L2.St} {H' : Hp} {v : V} {u : Value}, Inv (ncx CX P w K mg base N ⟨"__init__", q, defArgs st, defBody st, defScope st, [("__class__", cc)], cda⟩ f A outer s H E) [] σ' H' s' → L2.RelV v u → Q v H' → CE outer P w H s Q u s' :=
    fun {σ' H' v u} J rv q => ⟨v, H', J.os, J.bare, J.base, J.hok, rv, q⟩
  cases fl with
  | ret u =>
    obtain ⟨v, σ', H', J, rv, q⟩ := hs
    exact fin J rv q
  | next =>
    obtain ⟨σ', H', J, q⟩ := hs
    exact fin (v := V.non) (u := Value.none) J rfl q
  | brk =>
    obtain ⟨_, _, _, q⟩ := hs
    exact False.elim q
  | cont =>
    obtain ⟨_, _, _, q⟩ := hs
    exact False.elim q
end
end Sh
set_option Elab.async false
set_option linter.all false
set_option maxRecDepth 100000
/-! own exceptions over ValueError: made, raised, told by defs that may raise -/
namespace Sh
open PySem PySem.Spec PyProof.Rows L2 NdefX
/-- an exception class of the text: its __init__ (own or an ancestor's, written in the class at D) at f -/
structure ExcAt (K : PySem.W.Frag) (mg : Str → Option Value) (x : Str) (C f D : Addr) : Prop where
  oex : OexC K C
  mgC : mg x = some (.ref C)
  iC : PySem.W.findIn K (.ref C) "__init__" = some (some (.ref f))
  tI : PySem.W.typeIn K (.ref f) = some (.type "function")
  sup : SupC K C D
  xf : XfC K C
/-- its __init__ stands in the text -/
structure XInit (P : Program) (K : PySem.W.Frag) (mg : Str → Option Value) (q : Str) (st : Stmt) (ps : List Str) (D f : Addr) : Prop where
  ex : ∃ fd, SupF P K mg q st ps D f fd ∧ Binds K fd ps []
/-- __init__(self, thing): super().__init__(..), then self.fld = thing -/
def spX1 (K : PySem.W.Frag) (D : Addr) (fld : Str) (ok : V → Prop) : Sp := fun vs H Q _ => ∃ (a C : Addr) (v : V), vs = [.ref a, v] ∧ OexC K C ∧ SupC K C D ∧ PySem.W.findIn K (.ref C) fld = some none ∧ H a = some (exo a C none) ∧ ok v ∧
  ∀ dx, H dx = none → dx ≠ a → Q .non (upd (upd H dx (exd dx [(fld, v)])) a (exo a C (some dx)))
theorem mk1 {K : PySem.W.Frag} {mg : Str → Option Value} {x fld : Str} {C f D : Addr} {ok : V → Prop} {v : V} {H1 : Hp} {Q : XK} {E : XK} (T : ExcAt K mg x C f D) (hno : PySem.W.findIn K (.ref C) fld = some none) (hv : ok v) (k : ∀ d, H1 d = none → Q (.ref C) (some d) (upd H1 d (.xd [(fld, v)]))) :
    [v].length ≤ 1000 ∧ ∀ a, H1 a = none → spX1 K D fld ok (.ref a :: ([v] ++ [])) (upd H1 a (exo a C none)) (fun u H2 => u = .non ∧ ∃ (d : Addr) (fs : List (Str × V)), H2 a = some (exo a C (some d)) ∧ H2 d = some (exd d fs) ∧ H1 d = none ∧ Q (.ref C) (some d) (upd (del H2 a) d (.xd fs))) E := by
  refine ⟨by simp, fun a ha => ⟨a, C, v, rfl, T.oex, T.sup, hno, upd_same, hv, fun dx h1 h2 => ⟨rfl, dx, [(fld, v)], upd_same, ?_, ?_, ?_⟩⟩⟩
  · rw [upd_ne h2, upd_same]
  · rw [upd_ne h2] at h1; exact h1
  · rw [upd_ne h2] at h1
    have e : upd (del (upd (upd (upd H1 a (exo a C none)) dx (exd dx [(fld, v)])) a (exo a C (some dx))) a) dx (.xd [(fld, v)]) = upd H1 dx (.xd [(fld, v)]) := by
      funext b
      by_cases hb : b = dx
      · rw [hb, upd_same, upd_same]
      · rw [upd_ne hb, upd_ne hb]
        by_cases hba : b = a
        · rw [hba, del_same, ha]
        · rw [del_ne hba, upd_ne hba, upd_ne hb, upd_ne hba]
    rw [e]
    exact k dx h1
/-- such an __init__ keeps its promise -/
structure XiOk (P : Program) (w : World) (K : PySem.W.Frag) (mg : Str → Option Value) (base : Heap) (k : Nat) (f : Addr) (sp : Sp) : Prop where
  ex : ∃ (fd : FuncData) (ps : List Str), FnOk P w K mg base CX0 k f fd ps sp ∧ Binds K fd ps []
/-! ### a def that may raise -/
section
variable {P : Program} {w : World} {K : PySem.W.Frag} {mg : Str → Option Value} {base : Heap}
theorem Cal.mkX {x : Str} {st : Stmt} {N ps : List Str} {k : Nat} {sp : Sp} (D : DefAt K mg x st ps) (S : FnScope N ps (defScope st)) (len : ∀ vs H Q E, sp vs H Q E → vs.length = ps.length)
    (hbody : ∀ (f : Addr) (cdv : Value) (A : Around) (outer : List Env) (s : Shared) (H : Hp) (vs : List V) (Q : VK) (E : XK), Room k (A.deeper (envOfC x (defScope st) s.heap.objs.size f cdv)) → sp vs H Q E →
      ∃ t, PSs (cxOf (L2.CX P w) P w K mg base N x (defScope st) f cdv A outer s H E) (defBody st) t ∧ t { nx := fun _ H' => Q .non H', rt := Q } (start N vs) H) : Cal P w K mg base (L2.CX P w) (k + 1) x sp := by
  obtain ⟨f, fd, F, m, b⟩ := D.ex
  exact ⟨f, fd, ps, F.okX S len (fun cdv A outer s H vs Q E hr h => hbody f cdv A outer s H vs Q E hr h), m, F.kp, b⟩
end
section
variable {X : Cx} {k j : Nat} {x : Str} {sp : Sp} {p pos : Pos} {e : Expr} {es : List Expr} {t : TA} {W : WX}
/-- f(e, ..), f a def that may raise; what it raises is wished by W -/
theorem pe_cX (c : Cal X.prog X.w X.K X.mg X.base (L2.CX X.prog X.w) k x sp) (hr : Room j X.A) (hk : k ≤ j) (tk : Takes X W) (hg : Gl X x) (ha : PA X (e :: es) t)
    (hdb : (x == ("__debug__" : Str)) = false := by decide) (he : starEach (e :: es) X.env = (false, eval e X.env) :: starEach es X.env := by rfl) (hpl : (backTo pos (starEach es X.env)).any (·.1) = false := by rfl) :
    PE X (.Call (.Name x p) (e :: es) [] pos) (tCallS sp (WE W) t) := by
  obtain ⟨f, fd, ps, F, hm, kp, b⟩ := c.ex
  exact pe_callS F (hr.mono hk) hg hm kp b (fun σ => passAt tk σ) ha hdb he hpl
/-- the same where it does not raise -/
theorem pe_cXn (c : Cal X.prog X.w X.K X.mg X.base (L2.CX X.prog X.w) k x sp) (hr : Room j X.A) (hk : k ≤ j) (hg : Gl X x) (ha : PA X (e :: es) t)
    (hdb : (x == ("__debug__" : Str)) = false := by decide) (he : starEach (e :: es) X.env = (false, eval e X.env) :: starEach es X.env := by rfl) (hpl : (backTo pos (starEach es X.env)).any (·.1) = false := by rfl) :
    PE X (.Call (.Name x p) (e :: es) [] pos) (tCall sp [] E0 t) := by
  obtain ⟨f, fd, ps, F, hm, kp, b⟩ := c.ex
  exact pe_call F (hr.mono hk) hg hm kp b .nil passL ha hdb he hpl
/-- raise C(e) -/
theorem ps_raiseX {C D f : Addr} {pos2 : Pos} (T : ExcAt X.K X.mg x C f D) (F : XiOk X.prog X.w X.K X.mg X.base k f sp) (hr : Room j X.A) (hk : k + 1 ≤ j) (hc : X.calm = true) (tk : Takes X W) (hg : Gl X x) (ha : PA X (e :: es) t)
    (hdb : (x == ("__debug__" : Str)) = false := by decide) (he : starEach (e :: es) X.env = (false, eval e X.env) :: starEach es X.env := by rfl) (hpl : (backTo pos (starEach es X.env)).any (·.1) = false := by rfl) :
    PS X (.Raise (some (.Call (.Name x p) (e :: es) [] pos)) none pos2) (fun _ σ H => tMkO C sp [] t σ H fun cls d H' => W cls d σ H') := by
  obtain ⟨fd, ps, F, b⟩ := F.ex
  exact ps_raise hc tk (pmk_oex (ds := []) (dvs := []) T.oex T.iC T.tI F (hr.mono hk) b .nil (fun _ _ _ _ _ _ _ z => z.elim) hg T.mgC ha hdb he hpl)
/-- repr of a text -/
theorem call_repr_str : CallR X (.builtin "repr") (fun xs H Q => ∃ z, xs = [.str z] ∧ (reprText z).length ≤ sizeLine ∧ Q (.str (reprText z)) H) := by
  intro pins s σ H xs us Q I r h
  obtain ⟨z, rfl, hz, q⟩ := h
  obtain ⟨u, rfl, t, rfl⟩ := vals1 r
  exact PySem.P.repr_of_str ⟨.str _, H, I.tok _, ⟨_, rfl⟩, q⟩ hz
end
end Sh
set_option Elab.async false
set_option linter.all false
set_option maxRecDepth 100000
set_option maxHeartbeats 2000000
/-! try with several clauses «except C as n» -/
namespace Sh
open PySem PySem.Spec PyProof.Rows L2
abbrev ClA := Value × Nat × (Addr → Value → Option Addr → TS)
def outA (D : Ends) (i : Nat) : Ends := { nx := fun σ' H' => D.nx (σ'.set i none) H', rt := D.rt, bk := fun σ' H' => D.bk (σ'.set i none) H', ct := fun σ' H' => D.ct (σ'.set i none) H' }
/-- what the clauses wish of an exception of the body -/
def wAsN (K : PySem.W.Frag) (Wo : WX) (D : Ends) : List ClA → WX
  | [] => Wo
  | p :: r => fun cls d σ H => ∃ b, PySem.W.exmOne K cls p.1 = some b ∧ (b = true → ∀ a, H a = none → p.2.2 a cls d (outA D p.2.1) (σ.set p.2.1 (some (.ref a))) H) ∧ (b = false → wAsN K Wo D r cls d σ H)
inductive HdsA (X : Cx) : List ExceptHandler → List ClA → Prop
  | nil : HdsA X [] []
  | cons {x n : Str} {c : Value} {i : Nat} {ts : Addr → Value → Option Addr → TS} {b0 : Stmt} {su : List Stmt} {np pos' : Pos} {hds : List ExceptHandler} {l : List ClA} (hi : X.N[i]? = some n) (hl : X.env.kindOf n = some .local) (hc : Names X x c)
      (hsu : ∀ (a : Addr) (oe : Obj) (cls : Value) (d : Option Addr) (pn : List (Addr × Obj)), Zc cls d oe → (∃ vs, oe.data = .fields vs) → PSs (X.suite a ((a, oe) :: pn)) (b0 :: su) (ts a cls d)) (r : HdsA X hds l) :
      HdsA X (.ExceptHandler (some (.Name x np)) (some n) (b0 :: su) pos' :: hds) ((c, i, ts) :: l)
section
variable {X : Cx} {body : List Stmt} {h0 : ExceptHandler} {hds : List ExceptHandler} {l : List ClA} {pos : Pos} {tb : WX → TS} {Wo : WX}
theorem ps_try_asN (hs : X.stack = X.env :: X.outer) (hf : X.env.frame = some X.env.locals) (hN : X.N.Nodup) (tk : Takes X Wo)
    (hb : ∀ (W : WX) (pn : List (Addr × Obj)) (xe : Value → Shared → Prop), Takes (X.tr pn xe) W → PassesOwn (model X.prog X.w) X.A X.env xe → PSs (X.tr pn xe) body (tb W))
    (hh : HdsA X (h0 :: hds) l) : PS X (.Try body (h0 :: hds) [] [] pos) (fun D σ H => tb (wAsN X.K Wo D l) D σ H) := by
  refine ⟨fun pins s σ H D I hgo => ?_⟩
  have okX := I.ok
  have frX : X.A.frames = some (X.env :: X.outer) := okX.frames.trans (congrArg some hs)
  refine wpAny_Try_except (wpAny_mono ((hb (wAsN X.K Wo D l) (X.pn ++ pins) (fun e s₁ => wpAny (model X.prog X.w) X.A (noteFrame e X.env) (fun _ s₂ => wpAny (model X.prog X.w) X.A (setFlight e none) (fun _ s₃ =>
    wpAny (model X.prog X.w) X.A (handleBy e X.env (h0 :: hds)) (SP X pins D) X.xe s₃) X.xe s₂) X.xe s₁) (fun u s' air => ?_) PassesOwn.looking).run [] s σ H D (I.toTry _) hgo) (fun fl s1 done => ?_) fun _ _ he => he)
  · obtain ⟨a, B, sI, pn0, σ1, H1, cls, d, rfl, J0, nb, up, sky, na, os, ag, wish⟩ := air
    have J : Inv X pins σ1 H1 sI := J0.ofTry okX
    show wpAny (model X.prog X.w) X.A (noteFrame (.ref a) X.env) _ _ _
    refine Sky.land Zc.steady frX hf (hs ▸ sky) fun g3 fl3 up3 => ?_
    have J3 : Inv X pins σ1 H1 { s' with heap := g3 } := J.landed nb fl3.1 (up.trans up3) os ag
    obtain ⟨oe3, vs3, at3, z3, d3⟩ := fl3.there
    have offF : a ∉ frs (X.env :: X.outer) := fun hm => by
      obtain ⟨_, o', e', isF⟩ := fl3.2.2.1.mem hm
      cases at3.symm.trans e'
      exact isF _ d3
    have offL : a ≠ X.env.locals := fun z => offF (List.mem_filterMap.mpr ⟨X.env, List.mem_cons_self, hf.trans (congrArg some z.symm)⟩)
    have offO : a ∉ X.fs := fun hm => let ⟨e, he, q⟩ := List.mem_filterMap.mp hm; offF (List.mem_filterMap.mpr ⟨e, List.mem_cons_of_mem _ he, q⟩)
    have S3 := J3.suite at3 d3 na offL offO
    have steps : ∀ {hs' : List ExceptHandler} {l' : List ClA}, HdsA X hs' l' → wAsN X.K Wo D l' cls d σ1 H1 → wpAny (model X.prog X.w) X.A (handleBy (.ref a) X.env hs') (SP X pins D) X.xe { s' with heap := g3 } := by
      intro hs' l' hk
      induction hk with
      | nil =>
        intro wo
        refine wpAny_handleBy_nil ?_
        obtain ⟨_, _, _, oe, vs, Tb, oT, ts', he, _, hd, h1, _⟩ := id fl3
        unfold PySem.passOn
        refine wpAny_bind (wpAny_field he hd h1 ?_)
        rw [if_neg (show ¬ ((Value.ref Tb == Value.none) = true) from by simp)]
        have away : wpAny (model X.prog X.w) X.A (setFlight (.ref a) X.env.frame) (fun _ s4 => wpAny (model X.prog X.w) X.A (throw (.ref a) : Sem Flow) (SP X pins D) X.xe s4) X.xe { s' with heap := g3 } := by
          rw [hf]
          exact HandSPX.setFlight_upZ fl3 fun h4 hh4 up4 => wpAny_throw (tk _ _ ⟨a, B, sI, pins, σ1, H1, cls, d, rfl, J, nb, (up.trans up3).trans up4, .inr (.inr (hs ▸ hh4)), na, os, ag, wo⟩)
        first
          | exact wpAny_bind (wpAny_pure (wpAny_bind away))
          | exact wpAny_bind away
      | @cons x n c i ts b0 su np pos' hd2 l2 hi hl hc hsu r ih =>
        intro wo
        obtain ⟨b, hb1, hy, hn⟩ := wo
        refine wpAny_handleBy_cons (codeAny_handlers_test ?_) (fun q => by cases q)
        have LTy : PySem.W.Looks (model X.prog X.w) g3 (typeOf (.ref a)) cls := fun _ _ _ s k q => wpAny_typeOf_ref (k _ _ at3) (by rw [z3.1]; exact q)
        have LMa := PySem.W.exm_one (M := model X.prog X.w) J3.kIn LTy hb1
        have named : ∀ {Q : Value → Shared → Prop} {E : Value → Shared → Prop}, Q c { s' with heap := g3 } → wpAny (model X.prog X.w) (X.A.mark (some (.ref a))) (eval (.Name x np) X.env) Q E { s' with heap := g3 } := fun {Q E} q => by
          obtain ⟨hg, hdb, hm | ⟨hm, hv, hnn⟩⟩ := hc
          · exact ld_glob (X := X.suite a ((a, oe3) :: (X.pn ++ pins))) S3 hg hm q hdb
          · exact ld_blt (X := X.suite a ((a, oe3) :: (X.pn ++ pins))) S3 hg hm hv q hnn hdb
        refine named (LMa.here ?_)
        cases b with
        | false => exact ih (hn rfl)
        | true =>
          refine codeAny_handlers_suite_as (HandSPX.lands_againZ fl3 fun g4 fl4 up4 => ?_)
          have J4 : Inv X pins σ1 H1 { s' with heap := g4 } := J.landed nb fl4.1 ((up.trans up3).trans up4) os ag
          obtain ⟨oe4, vs4, at4, z4, d4⟩ := fl4.there
          have S4 := J4.suite at4 d4 na offL offO
          refine store_ok (X := X.suite a ((a, oe4) :: (X.pn ++ pins))) (v := .ref a) S4 hN hi (.inl hl) rfl (fun s5 S5 => ?_) (.inr hl)
          refine wpAny_mono ((hsu a oe4 cls d (X.pn ++ pins) z4 ⟨_, d4⟩).run [] s5 _ H1 _ S5 (hy rfl a na)) (fun fl s6 end6 => ?_) (fun _ _ z => z.elim)
          have shut : ∀ {σ6 : L2.St} {H6 : Hp} {Q : Shared → Prop}, Inv (X.suite a ((a, oe4) :: (X.pn ++ pins))) [] σ6 H6 s6 → (∀ s7, Inv X pins (σ6.set i none) H6 s7 → Q s7) →
              wpAny (model X.prog X.w) X.A (do bindName X.env n .none; unbindBehindTheSuite X.env n pos') (fun _ s7 => Q s7) X.xe s6 := fun {σ6 H6 Q} S6 hq => gone_ok (S6.unsuite okX) hN hi hl hq
          cases fl with
          | next => exact let ⟨_, _, S6, q6⟩ := end6; shut S6 fun s7 J7 => ⟨_, _, J7, q6⟩
          | brk => exact let ⟨_, _, S6, q6⟩ := end6; shut S6 fun s7 J7 => ⟨_, _, J7, q6⟩
          | cont => exact let ⟨_, _, S6, q6⟩ := end6; shut S6 fun s7 J7 => ⟨_, _, J7, q6⟩
          | ret u => exact let ⟨_, _, _, S6, r6, q6⟩ := end6; shut S6 fun s7 J7 => ⟨_, _, _, J7, r6, q6⟩
    exact steps hh wish
  · cases fl with
    | next => exact let ⟨σ', H', J', q⟩ := done; wpAny_execs_nil ⟨σ', H', J'.ofTry okX, q⟩
    | brk => exact let ⟨σ', H', J', q⟩ := done; ⟨σ', H', J'.ofTry okX, q⟩
    | cont => exact let ⟨σ', H', J', q⟩ := done; ⟨σ', H', J'.ofTry okX, q⟩
    | ret u => exact let ⟨v, σ', H', J', r, q⟩ := done; ⟨v, σ', H', J'.ofTry okX, r, q⟩
end
end Sh
set_option Elab.async false
set_option linter.all false
set_option maxRecDepth 100000
/-! what leaves a def that raises; a try within a loop -/
namespace Sh
open PySem PySem.Spec PyProof.Rows L2
/-- an exception with one field is let out -/
def Thrown (E : XK) (H : Hp) (X : Addr) (fld : Str) (v : V) : Prop := ∀ d, H d = none → E (.ref X) (some d) (upd H d (.xd [(fld, v)]))
theorem lk1 {f : Str} {v : V} : List.lookup f [(f, v)] = some v := by simp [List.lookup]
/-- the reading of a try, as a word of its own (within a loop) -/
def tTry (tb : WX → TS) (K : PySem.W.Frag) (Wo : WX) (l : List ClA) : TS := fun D σ H => tb (wAsN K Wo D l) D σ H
theorem ps_tryT {X : Cx} {body : List Stmt} {h0 : ExceptHandler} {hds : List ExceptHandler} {l : List ClA} {pos : Pos} {tb : WX → TS} {Wo : WX} (hs : X.stack = X.env :: X.outer) (hf : X.env.frame = some X.env.locals) (hN : X.N.Nodup) (tk : Takes X Wo)
    (hb : ∀ (W : WX) (pn : List (Addr × Obj)) (xe : Value → Shared → Prop), Takes (X.tr pn xe) W → PassesOwn (model X.prog X.w) X.A X.env xe → PSs (X.tr pn xe) body (tb W))
    (hh : HdsA X (h0 :: hds) l) : PS X (.Try body (h0 :: hds) [] [] pos) (tTry tb X.K Wo l) := ps_try_asN hs hf hN tk hb hh
/-- fields of an exception with two: self.f = a, self.g = b -/
def spX2 (K : PySem.W.Frag) (D : Addr) (f g : Str) (ok : V → V → Prop) : Sp := fun vs H Q _ => ∃ (a C : Addr) (u v : V), vs = [.ref a, u, v] ∧ OexC K C ∧ SupC K C D ∧ PySem.W.findIn K (.ref C) f = some none ∧ PySem.W.findIn K (.ref C) g = some none ∧ H a = some (exo a C none) ∧ ok u v ∧
  ∀ (dx : Addr) (H' : Hp), H dx = none → dx ≠ a → H' a = some (exo a C (some dx)) → H' dx = some (exd dx [(g, v), (f, u)]) → (∀ b, b ≠ a → b ≠ dx → H' b = H b) → Q .non H'
theorem mk2 {K : PySem.W.Frag} {mg : Str → Option Value} {x f g : Str} {C fI D : Addr} {ok : V → V → Prop} {u v : V} {H1 : Hp} {Q : XK} {E : XK} (T : ExcAt K mg x C fI D) (hf : PySem.W.findIn K (.ref C) f = some none) (hg : PySem.W.findIn K (.ref C) g = some none) (hv : ok u v)
    (k : ∀ d, H1 d = none → Q (.ref C) (some d) (upd H1 d (.xd [(g, v), (f, u)]))) :
    [u, v].length ≤ 1000 ∧ ∀ a, H1 a = none → spX2 K D f g ok (.ref a :: ([u, v] ++ [])) (upd H1 a (exo a C none)) (fun z H2 => z = .non ∧ ∃ (d : Addr) (fs : List (Str × V)), H2 a = some (exo a C (some d)) ∧ H2 d = some (exd d fs) ∧ H1 d = none ∧ Q (.ref C) (some d) (upd (del H2 a) d (.xd fs))) E := by
  refine ⟨by simp, fun a ha => ⟨a, C, u, v, rfl, T.oex, T.sup, hf, hg, upd_same, hv, fun dx H' h1 h2 e1 e2 e3 => ?_⟩⟩
  rw [upd_ne h2] at h1
  refine ⟨rfl, dx, _, e1, e2, h1, ?_⟩
  have e : upd (del H' a) dx (.xd [(g, v), (f, u)]) = upd H1 dx (.xd [(g, v), (f, u)]) := by
    funext b
    by_cases hb : b = dx
    · rw [hb, upd_same, upd_same]
    · rw [upd_ne hb, upd_ne hb]
      by_cases hba : b = a
      · rw [hba, del_same, ha]
      · rw [del_ne hba, e3 b hba hb, upd_ne hba]
  rw [e]
  exact k dx h1
end Sh
set_option Elab.async false
set_option linter.all false
set_option maxRecDepth 100000
/-! isinstance of a caught error of an own class that has fields -/
namespace Sh
open PySem PySem.Spec PyProof.Rows L2
/-- isinstance(e, c): e the caught exception at a, of the class D, its fields at d -/
def rIsX (K : PySem.W.Frag) (D a : Addr) (cls : Value) (d : Option Addr) : List V → Hp → VK → Prop := fun xs H Q => cls = .ref D ∧ ∃ (c : V) (cv : Value) (b : Bool) (dd : Addr) (fs : List (Str × V)), xs = [.ref a, c] ∧ d = some dd ∧ H dd = some (.xd fs) ∧ (∀ u, RelV c u → u = cv) ∧ PySem.W.kitOne K (.ref D) cv = some b ∧ Q (.bl b) H
theorem inst_cls {K : PySem.W.Frag} {D : Addr} (h : PySem.W.hasDictIn K D = true) : (PySem.W.clsIn K D).isSome = true := by
  obtain ⟨cd, hc, _⟩ := PySem.W.any_some h
  rw [hc]; rfl
theorem call_isX {X : Cx} {a D : Addr} {cls : Value} {d : Option Addr} {oe : Obj} {pn : List (Addr × Obj)} (C : ExcC X.K D) (hz : Zc cls d oe) (hf : ∃ vs, oe.data = .fields vs) : CallR (X.suite a ((a, oe) :: pn)) (.builtin "isinstance") (rIsX X.K D a cls d) := by
  intro pins s σ H xs us Q I r h
  obtain ⟨ec, c, cv, b, dd, fs, rfl, ed, hd, hcv, e, q⟩ := h
  subst ec ed
  obtain ⟨t, rfl, rt⟩ : ∃ t, us = [Value.ref a, t] ∧ RelV c t := by
    cases r with
    | cons rx rr =>
      cases rr with
      | cons rt rr => cases rr; cases rx; exact ⟨_, rfl, rt⟩
  obtain rfl := hcv t rt
  obtain ⟨ha, _⟩ := I.pin (a, oe) (List.mem_append_left _ List.mem_cons_self)
  obtain ⟨vs, hv⟩ := hf
  obtain ⟨mA, hns, _⟩ := (show ObjOk X.prog X.w H s.heap dd (.xd fs) from I.hok dd _ hd)
  obtain ⟨od, ho, _⟩ := lookIn_ns hns
  have J : PySem.W.InstAt s.heap a oe D (some od) := ⟨ha, hz.1, by unfold PySem.W.notCls; rw [hv] <;> rfl, by rw [hz.2]; exact ho⟩
  exact PySem.W.kia_one (PySem.W.kitx_exc (inst_cls C.hd) C.hg C.hk C.hs C.ha C.hn C.ht C.hm) I.kIn J e (fun z => nomatch z) fun tk => ⟨.bl b, H, I.kept (t' := tk) fun _ _ z => z, rfl, q⟩
/-- repr in an except suite -/
theorem call_reprDs {X : Cx} {a : Addr} {pn : List (Addr × Obj)} (hg : X.A.guards = some []) (hu : X.A.units + 64 < cLine) :
    CallR (X.suite a pn) (.builtin "repr") (fun xs H Q => ∃ v d, xs = [v] ∧ Dp X.K H v d ∧ d.showable = true ∧ d.hasDict = false ∧ d.depth ≤ 60 ∧ d.shown.length ≤ sizeLine ∧ Q (.str d.shown) H) :=
  call_reprD (X := X.suite a pn) hg hu
/-- a class asked of its own heir -/
theorem kit_true {K : PySem.W.Frag} {D C : Addr} (hd : PySem.W.hasDictIn K C = true) (ty : PySem.W.typeIn K (.ref C) = some (.type "type")) (h : PySem.W.subIn K (.ref D) (.ref C) = some true) : PySem.W.kitOne K (.ref D) (.ref C) = some true := by
  unfold PySem.W.kitOne
  split
  · rfl
  · unfold PySem.W.kitCls
    dsimp only
    rw [if_pos (by rw [inst_cls hd, ty]; rfl)]
    exact h
/-- what str tells of a small number, a text, or nothing -/
inductive StrV : V → Str → Prop
  | int {i : Int} (h : i.natAbs.log2 < 1920) : StrV (.int i) (toString i)
  | str (z : Str) : StrV (.str z) z
  | non : StrV .non "None"
theorem call_str_any {X : Cx} : CallR X (.type "str") (fun xs H Q => ∃ v z, xs = [v] ∧ StrV v z ∧ Q (.str z) H) := by
  intro pins s σ H xs us Q I r h
  obtain ⟨v, z, rfl, hv, q⟩ := h
  cases hv with
  | int hi => exact call_str_int pins s σ H _ us Q I r ⟨_, rfl, hi, q⟩
  | str z => exact SkE.call_str_str pins s σ H _ us Q I r ⟨_, rfl, q⟩
  | non =>
    obtain ⟨u, rfl, ru⟩ := vals1 r
    obtain rfl : u = Value.none := ru
    exact PySem.P.str_of_none ⟨.str "None", H, I.tok _, ⟨_, rfl⟩, q⟩
end Sh
set_option Elab.async false
set_option linter.all false
set_option maxRecDepth 100000
namespace Sh
open PySem PySem.Spec PyProof.Rows L2
theorem nsc_WrongItem : NdefX.NScope ["self", "place", "__class__"] ["self", "place"] ["__class__"] (defScope s_WrongItem___init__) := NdefX.nscope_by (by decide +kernel)
theorem nsc_NoStep : NdefX.NScope ["self", "place", "number", "__class__"] ["self", "place", "number"] ["__class__"] (defScope s_NoStep___init__) := NdefX.nscope_by (by decide +kernel)
theorem nsc_WrongThing : NdefX.NScope ["self", "thing", "__class__"] ["self", "thing"] ["__class__"] (defScope s_WrongThing___init__) := NdefX.nscope_by (by decide +kernel)
structure TxtX (P : Program) (K : PySem.W.Frag) (mg : Str → Option Value) (CB XR FR DI XO FO XT FT DT SE : Addr) : Prop extends TxtC K mg CB where
  e_BadRun : ExcAt K mg "BadRun" XR FR DI
  q_WrongItem : XInit P K mg "WrongItem.__init__" s_WrongItem___init__ ["self", "place"] DI FR
  nf_BadRun_place : PySem.W.findIn K (.ref XR) "place" = some none
  e_NoStep : ExcAt K mg "NoStep" XO FO XO
  q_NoStep : XInit P K mg "NoStep.__init__" s_NoStep___init__ ["self", "place", "number"] XO FO
  nf_NoStep_place : PySem.W.findIn K (.ref XO) "place" = some none
  nf_NoStep_number : PySem.W.findIn K (.ref XO) "number" = some none
  e_BadText : ExcAt K mg "BadText" XT FT DT
  q_WrongThing : XInit P K mg "WrongThing.__init__" s_WrongThing___init__ ["self", "thing"] DT FT
  nf_BadText_thing : PySem.W.findIn K (.ref XT) "thing" = some none
  mm_BadRun_BadRun : PySem.W.exmOne K (.ref XR) (.ref XR) = some true
  mm_NoStep_NoStep : PySem.W.exmOne K (.ref XO) (.ref XO) = some true
  mm_BadText_BadText : PySem.W.exmOne K (.ref XT) (.ref XT) = some true
  c_BadRun : ExcC K XR
  gc_WrongItem : mg "WrongItem" = some (.ref DI)
  gc_ShrunkError : mg "ShrunkError" = some (.ref SE)
  ko_BadRun_WrongItem : PySem.W.kitOne K (.ref XR) (.ref DI) = some true
  ko_BadRun_ShrunkError : PySem.W.kitOne K (.ref XR) (.ref SE) = some true
end Sh
set_option Elab.async false
set_option linter.all false
set_option maxRecDepth 100000
set_option maxHeartbeats 4000000
namespace Sh
open PySem PySem.Spec PyProof.Rows L2
open SX (S S_inj S_len S_cat)
local macro_rules | `(tactic| walk_at "nx") => `(tactic| repeat (with_reducible first | refine Sh.gn_mk ?_ | refine Sh.nx_mk ?_ | refine Sh.st_nx ?_ | refine Sh.rt_mk ?_ | refine Sh.ct_mk ?_ | refine Sh.bk_mk ?_))
local macro_rules | `(tactic| walk_at "sq") => `(tactic| first | exact SqL.of upd_same | exact SqT.of upd_same | exact SqL.of (by assumption) | exact SqT.of (by assumption) | assumption | exact Or.inl (SqL.of (by assumption)) | exact Or.inr (SqT.of (by assumption)) | exact Or.inl (by assumption) | exact Or.inr (by assumption))
local macro_rules | `(tactic| walk_at "hp") => `(tactic| first | exact upd_same | assumption)
local macro_rules | `(tactic| walk_at "sz") => `(tactic| first | exact Nat.le_of_ble_eq_true rfl | omega)
local macro_rules | `(tactic| walk_at "sd") => `(tactic| first | omega | exact rfl | assumption | (show (0 : Int) < _; omega) | exact And.intro (by omega) (by omega) | exact Or.inl (And.intro (by omega) (by omega)) | exact Or.inr (And.intro (by omega) (by omega)) | omega | exact Sh.sz_S (by omega) | decide)
local macro_rules | `(tactic| walk_at "rd1") => `(tactic| first
  | (with_reducible first | refine Sh.gn_mk ?_ | refine Sh.nx_mk ?_ | refine Sh.st_nx ?_ | refine Sh.rt_mk ?_ | refine Sh.ct_mk ?_ | refine Sh.bk_mk ?_)
  | refine Exists.intro (α := V) _ (And.intro rfl ?_)
  | refine Exists.intro (α := Bool) _ (And.intro rfl ?_)
  | refine Exists.intro (α := Int) _ (And.intro rfl ?_)
  | refine Exists.intro (α := PySem.Str) _ (And.intro rfl ?_)
  | refine Exists.intro (α := Int) _ (Exists.intro (α := Int) _ (And.intro rfl (And.intro rfl ?_)))
  | refine Exists.intro (α := PySem.Str) _ (Exists.intro (α := PySem.Str) _ (And.intro rfl (And.intro rfl ?_)))
  | refine Exists.intro (α := Int) _ (Exists.intro (α := Int) _ (And.intro rfl ?_))
  | refine Or.inl (Exists.intro (α := Int) _ (And.intro rfl ?_))
  | refine Exists.intro _ (Exists.intro _ (Exists.intro _ (Exists.intro _ (And.intro rfl (And.intro rfl (And.intro (by walk_at "sq") (And.intro rfl ?_)))))))
  | refine Exists.intro _ (Exists.intro _ (Exists.intro _ (Exists.intro _ (And.intro rfl (And.intro rfl (And.intro (by walk_at "hp") (And.intro rfl ?_)))))))
  | refine And.intro (by walk_at "sd") ?_
  )
local macro_rules | `(tactic| walk_at "rd") => `(tactic| repeat walk_at "rd1")
local macro_rules | `(tactic| walk_at "lk") => `(tactic| first | exact rfl | (rw [lookup_putF, if_pos rfl]) | (rw [lookup_putF, if_neg (by decide +kernel)]; walk_at "lk"))

section
variable {P : Program} {w : World} {K : PySem.W.Frag} {mg : Str → Option Value} {base : Heap} {CB XR FR DI XO FO XT FT DT SE : Addr}
/-- is_integer of a number, or of what is none -/
def spIsInt (K : PySem.W.Frag) : Sp := fun vs H Q _ => (∃ z lo hi : Int, vs = [.int z, .int lo, .int hi] ∧ Q (.bl (decide (lo ≤ z) && decide (z ≤ hi))) H) ∨ ∃ (v a b : V) (n : String), vs = [v, a, b] ∧ TyX K H v (.type n) ∧ n ∈ tys ∧ n ≠ "int" ∧ Q (.bl false) H
theorem isaB_int {n : String} (h : n ∈ tys) : isaB n "int" = (n == "int" || n == "bool") := by
  simp only [tys, List.mem_cons, List.not_mem_nil, or_false] at h
  rcases h with rfl | rfl | rfl | rfl | rfl | rfl | rfl <;> decide
theorem isaB_bool {n : String} (h : n ∈ tys) : isaB n "bool" = (n == "bool") := by
  simp only [tys, List.mem_cons, List.not_mem_nil, or_false] at h
  rcases h with rfl | rfl | rfl | rfl | rfl | rfl | rfl <;> decide
theorem c_is_integer (T : Txt K mg) : Cal P w K mg base CX0 1 "is_integer" (spIsInt K) := by
  refine Cal.mk0 T.d_is_integer sc_is_integer (fun vs H Q E h => ?_) (fun f cdv A outer s H vs Q E hr h => ?_)
  · rcases h with ⟨z, lo, hi, rfl, _⟩ | ⟨v, a, b, n, rfl, _⟩ <;> rfl
  · rcases h with ⟨z, lo, hi, rfl, k⟩ | ⟨v, a, b, n, rfl, ht, hn, hs, k⟩
    · refine ⟨_, (pss_one (ps_ret (pe_and (pe_callB call_isi (by rfl) T.b_isinstance (by decide +kernel) (pa_cons (pv 0) (pa_cons (pe_bltn (v := .ty "int") (by rfl) T.b_int (by decide +kernel) rfl) pa_nil))) (pe_and (pe_not (pe_callB call_isi (by rfl) T.b_isinstance (by decide +kernel) (pa_cons (pv 0) (pa_cons (pe_bltn (v := .ty "bool") (by rfl) T.b_bool (by decide +kernel) rfl) pa_nil)))) (pe_one (pe_chain op_le op_le (pv 1) (pv 0) (pv 2))))))), ?_⟩
      walk_at "rd"
      refine ⟨_, _, _, _, _, rfl, .ty _, .base (.int _), kit_ty (r := true) (by decide +kernel), _, rfl, ?_⟩
      walk_at "rd"
      refine ⟨_, _, _, _, _, rfl, .ty _, .base (.int _), kit_ty (r := false) (by decide +kernel), _, rfl, ?_⟩
      walk_at "rd"
      by_cases c1 : lo ≤ z
      · rw [decide_eq_true c1, Bool.true_and] at k
        rw [decide_eq_true c1, if_pos rfl]
        walk_at "rd"
        exact k
      · rw [decide_eq_false c1, Bool.false_and] at k
        rw [decide_eq_false c1, if_neg Bool.false_ne_true]
        exact k
    · refine ⟨_, (pss_one (ps_ret (pe_and (pe_callB call_isi (by rfl) T.b_isinstance (by decide +kernel) (pa_cons (pv 0) (pa_cons (pe_bltn (v := .ty "int") (by rfl) T.b_int (by decide +kernel) rfl) pa_nil))) (pe_and (pe_not (pe_callB call_isi (by rfl) T.b_isinstance (by decide +kernel) (pa_cons (pv 0) (pa_cons (pe_bltn (v := .ty "bool") (by rfl) T.b_bool (by decide +kernel) rfl) pa_nil)))) (pe_one (pe_chain op_le op_le (pv 1) (pv 0) (pv 2))))))), ?_⟩
      walk_at "rd"
      refine ⟨_, _, _, _, _, rfl, .ty _, ht, kit_ty (kit_all _ hn _ (by decide)), _, rfl, ?_⟩
      rw [isaB_int hn, show (n == "int") = false from by simp [hs], Bool.false_or]
      by_cases hb : (n == "bool") = true
      · rw [hb]
        walk_at "rd"
        refine ⟨_, _, _, _, _, rfl, .ty _, ht, kit_ty (kit_all _ hn _ (by decide)), _, rfl, ?_⟩
        rw [isaB_bool hn, hb]
        walk_at "rd"
        exact k
      · rw [Bool.not_eq_true] at hb
        rw [hb]
        walk_at "rd"
        exact k
/-- BadText, BadRun: what __init__ keeps -/
def okAny : V → Prop := fun _ => True
theorem x_WrongThing (T : TxtX P K mg CB XR FR DI XO FO XT FT DT SE) : XiOk P w K mg base 1 FT (spX1 K DT "thing" okAny) := by
  obtain ⟨fd, SF, b⟩ := T.q_WrongThing.ex
  refine ⟨fd, _, fn_sup SF nsc_WrongThing rfl rfl (fun vs H Q E h => ?_) (fun cc cda A outer s H vs Q E hr h => ?_), b⟩
  · obtain ⟨a, C, v, rfl, _⟩ := h
    rfl
  · obtain ⟨a, C, v, rfl, o, sc, hno, ea, _, k⟩ := h
    refine ⟨_, _, _, (pa_cons pe_str pa_nil), (pss_cons (ps_ost (pv 0) (pv 1)) pss_nil), rfl, fun _ => rfl, rfl, ?_⟩
    refine ⟨a, C, _, rfl, o, sc, ea, ?_⟩
    refine ⟨by simp, ea, _, rfl, _, rfl, a, C, rfl, o, hno, .inl ⟨ea, fun dx n1 n2 => ?_⟩⟩
    exact k dx n1 n2
/-- BadRun: a small number -/
def okNum : V → Prop := fun v => ∃ i : Int, v = .int i ∧ -1 ≤ i ∧ i ≤ 1000
theorem num_short : ∀ n : Nat, n < 1002 → (Str.ofString (toString ((n : Int) - 1))).length ≤ 5 ∧ ((n : Int) - 1).natAbs.log2 < 1920 := by decide +kernel
theorem x_WrongItem (T : TxtX P K mg CB XR FR DI XO FO XT FT DT SE) : XiOk P w K mg base 1 FR (spX1 K DI "place" okNum) := by
  obtain ⟨fd, SF, b⟩ := T.q_WrongItem.ex
  refine ⟨fd, _, fn_sup SF nsc_WrongItem rfl rfl (fun vs H Q E h => ?_) (fun cc cda A outer s H vs Q E hr h => ?_), b⟩
  · obtain ⟨a, C, v, rfl, _⟩ := h
    rfl
  · obtain ⟨a, C, v, rfl, o, sc, hno, ea, ⟨i, rfl, h1, h2⟩, k⟩ := h
    refine ⟨_, _, _, (pa_cons (pe_op op_add_str (pe_op op_add_str pe_str (pe_callTy call_str_int (by rfl) T.b_str (by decide +kernel) (pa_cons (pv 1) pa_nil))) pe_str) pa_nil), (pss_cons (ps_ost (pv 0) (pv 1)) pss_nil), rfl, fun _ => rfl, rfl, ?_⟩
    refine ⟨a, C, _, rfl, o, sc, ea, ?_⟩
    obtain ⟨l5, lg⟩ := num_short (i + 1).toNat (by omega)
    rw [show (((i + 1).toNat : Nat) : Int) - 1 = i by omega] at l5 lg
    have hsl : (1100 : Nat) ≤ sizeLine := by decide
    have e1 : (Str.ofString "the thing at the place ").length = 23 := by decide
    have e2 : (Str.ofString " is wrong").length = 9 := by decide
    refine ⟨_, rfl, _, rfl, lg, _, _, rfl, rfl, by omega, _, _, rfl, rfl, ?_, ?_⟩
    · rw [PySem.Str.length_append, e1, e2]; omega
    refine ⟨by simp, ea, _, rfl, _, rfl, a, C, rfl, o, hno, .inl ⟨ea, fun dx n1 n2 => ?_⟩⟩
    exact k dx n1 n2
def okStr : V → V → Prop := fun u v => (∃ z, StrV u z ∧ z.length ≤ 1000) ∧ ∃ z, StrV v z ∧ z.length ≤ 1000
theorem x_NoStep (T : TxtX P K mg CB XR FR DI XO FO XT FT DT SE) : XiOk P w K mg base 1 FO (spX2 K XO "place" "number" okStr) := by
  obtain ⟨fd, SF, b⟩ := T.q_NoStep.ex
  refine ⟨fd, _, fn_sup SF nsc_NoStep rfl rfl (fun vs H Q E h => ?_) (fun cc cda A outer s H vs Q E hr h => ?_), b⟩
  · obtain ⟨a, C, u, v, rfl, _⟩ := h
    rfl
  · obtain ⟨a, C, u, v, rfl, o, sc, hno, hno2, ea, ⟨⟨z, hz, hl⟩, y, hy, hm⟩, k⟩ := h
    refine ⟨_, _, _, (pa_cons (pe_op op_add_str (pe_op op_add_str (pe_op op_add_str pe_str (pe_callTy call_str_any (by rfl) T.b_str (by decide +kernel) (pa_cons (pv 2) pa_nil))) pe_str) (pe_callTy call_str_any (by rfl) T.b_str (by decide +kernel) (pa_cons (pv 1) pa_nil))) pa_nil), (pss_cons (ps_ost (pv 0) (pv 1)) (pss_cons (ps_ost (pv 0) (pv 2)) pss_nil)), rfl, fun _ => rfl, rfl, ?_⟩
    refine ⟨a, C, _, rfl, o, sc, ea, ?_⟩
    have hsl : (2200 : Nat) ≤ sizeLine := by decide
    have e1 : (Str.ofString "rule ").length = 5 := by decide
    have e2 : (Str.ofString " cannot be used at place ").length = 25 := by decide
    refine ⟨_, rfl, _, _, rfl, hy, _, _, rfl, rfl, by omega, _, _, rfl, rfl, ?_, _, rfl, _, _, rfl, hz, _, _, rfl, rfl, ?_, ?_⟩
    · rw [PySem.Str.length_append, e1, e2]; omega
    · rw [PySem.Str.length_append, PySem.Str.length_append, e1, e2]; omega
    refine ⟨by simp, ea, _, rfl, _, rfl, a, C, rfl, o, hno, .inl ⟨ea, fun dx n1 n2 => ?_⟩⟩
    have hda : dx ≠ a := n2
    refine ⟨_, rfl, _, rfl, a, C, rfl, o, hno2, .inr ⟨dx, _, upd_same, (upd_ne hda).trans upd_same, by simp, ?_⟩⟩
    refine k dx _ n1 n2 ((upd_ne (Ne.symm hda)).trans upd_same) upd_same fun b h1 h2 => ?_
    rw [upd_ne h2, upd_ne h1, upd_ne h2]
end
end Sh
/-! overlaps as the program lists them; plain Lean -/
namespace Bk
abbrev Ov := T × Nat × Nat × Nat
def ovAt (i : Nat) (l : T) (j : Nat) (r : T) (k : Nat) : Option Ov := if k = 0 ∧ j ≤ i then none else (over l r k).map fun t => (t, i, k, j)
def ovP (i : Nat) (l : T) (j : Nat) (r : T) (n : Nat) : List Ov := (List.range n).filterMap (ovAt i l j r)
def lf (R : List Rule) (i : Nat) : T := (R.getD i ([], [])).1
def ovJ (R : List Rule) (i n : Nat) : List Ov := (List.range n).flatMap fun j => ovP i (lf R i) j (lf R j) (lf R i).length
def ovI (R : List Rule) (n : Nat) : List Ov := (List.range n).flatMap fun i => ovJ R i R.length
def ovs (R : List Rule) : List Ov := ovI R R.length
theorem ovP_succ (i : Nat) (l : T) (j : Nat) (r : T) (n : Nat) : ovP i l j r (n + 1) = ovP i l j r n ++ (ovAt i l j r n).toList := by
  unfold ovP
  rw [List.range_succ, List.filterMap_append]
  cases h : ovAt i l j r n <;> simp [h]
theorem ovJ_succ (R : List Rule) (i n : Nat) : ovJ R i (n + 1) = ovJ R i n ++ ovP i (lf R i) n (lf R n) (lf R i).length := by
  unfold ovJ
  rw [List.range_succ, List.flatMap_append]
  simp
theorem ovI_succ (R : List Rule) (n : Nat) : ovI R (n + 1) = ovI R n ++ ovJ R n R.length := by
  unfold ovI
  rw [List.range_succ, List.flatMap_append]
  simp
theorem lf_get {R : List Rule} {i : Nat} {r : Rule} (h : R[i]? = some r) : lf R i = r.1 := by
  unfold lf
  rw [List.getD_eq_getElem?_getD, h]; rfl
theorem mem_ovs {R : List Rule} {o : Ov} : o ∈ ovs R ↔ ∃ i r j q k t, R[i]? = some r ∧ R[j]? = some q ∧ k < r.1.length ∧ ¬ (k = 0 ∧ j ≤ i) ∧ over r.1 q.1 k = some t ∧ o = (t, i, k, j) := by
  unfold ovs ovI ovJ ovP ovAt
  simp only [List.mem_flatMap, List.mem_range, List.mem_filterMap]
  constructor
  · rintro ⟨i, hi, j, hj, k, hk, h⟩
    have hr : R[i]? = some R[i] := by simp [hi]
    have hq : R[j]? = some R[j] := by simp [hj]
    rw [lf_get hr, lf_get hq] at h
    rw [lf_get hr] at hk
    by_cases c : k = 0 ∧ j ≤ i
    · rw [if_pos c] at h; cases h
    · rw [if_neg c, Option.map_eq_some_iff] at h
      obtain ⟨t, h1, rfl⟩ := h
      exact ⟨i, R[i], j, R[j], k, t, hr, hq, hk, c, h1, rfl⟩
  · rintro ⟨i, r, j, q, k, t, hr, hq, hk, c, h1, rfl⟩
    refine ⟨i, (List.getElem?_eq_some_iff.mp hr).1, j, (List.getElem?_eq_some_iff.mp hq).1, k, by rw [lf_get hr]; exact hk, ?_⟩
    rw [lf_get hr, lf_get hq, if_neg c, h1]; rfl
/-- a text is less than another one -/
def keyLt (a b : T) : Bool := if a.length = b.length then decide (a < b) else decide (a.length < b.length)
/-- an overlap whose results have one end -/
def okOv (R : List Rule) (o : Ov) : Bool := match R[o.2.1]?, R[o.2.2.2]? with
  | some r, some q => decide (left R (res1 r o.1) = left R (res2 q o.1 o.2.2.1))
  | _, _ => true
def qstep (R : List Rule) (best : Option T) (o : Ov) : Option T :=
  if (match best with | none => true | some b => keyLt o.1 b) = true then (if okOv R o = true then best else some o.1) else best
def quarrel (R : List Rule) : Option T := (ovs R).foldl (qstep R) none
theorem qstep_none {R : List Rule} {b : Option T} {o : Ov} (h : qstep R b o = none) : b = none ∧ okOv R o = true := by
  unfold qstep at h
  cases hb : b with
  | none =>
    subst hb
    refine ⟨rfl, ?_⟩
    simp only [if_true] at h
    cases c : okOv R o with
    | true => rfl
    | false => rw [c] at h; simp at h
  | some b' =>
    subst hb
    exfalso
    cases c : okOv R o <;> cases d : keyLt o.1 b' <;> simp [c, d] at h
theorem foldl_q {R : List Rule} : ∀ (l : List Ov) (b : Option T), l.foldl (qstep R) b = none → b = none ∧ ∀ o ∈ l, okOv R o = true
  | [], b, h => ⟨h, by simp⟩
  | o :: l, b, h => by
    obtain ⟨h1, h2⟩ := foldl_q l (qstep R b o) h
    have := qstep_none h1
    exact ⟨this.1, fun o' ho => by
      rcases List.mem_cons.mp ho with rfl | q
      · exact this.2
      · exact h2 o' q⟩
theorem foldl_q' {R : List Rule} : ∀ (l : List Ov), (∀ o ∈ l, okOv R o = true) → l.foldl (qstep R) none = none
  | [], _ => rfl
  | o :: l, h => by
    have : qstep R none o = none := by
      unfold qstep
      simp only [if_true]
      rw [if_pos (h o List.mem_cons_self)]
    rw [List.foldl_cons, this]
    exact foldl_q' l fun o' ho => h o' (List.mem_cons_of_mem _ ho)
theorem quarrel_none {R : List Rule} : quarrel R = none ↔ ∀ o ∈ ovs R, okOv R o = true :=
  ⟨fun h => (foldl_q _ _ h).2, foldl_q' _⟩
theorem over_symm {a b t : T} (h : over a b 0 = some t) : over b a 0 = some t := by
  unfold over at h ⊢
  simp only [List.drop_zero, Nat.sub_zero] at h ⊢
  rw [Nat.min_comm b.length a.length]
  generalize hm : min a.length b.length = m at h ⊢
  by_cases c : a.take m = b.take m
  · rw [if_pos c] at h
    rw [if_pos c.symm, ← h]
    congr 1
    rcases Nat.le_total a.length b.length with q | q
    · have e : m = a.length := by omega
      have e1 : a.drop m = [] := List.drop_eq_nil_of_le (by omega)
      have e2 : a.take m = a := List.take_of_length_le (by omega)
      rw [e1, List.append_nil, ← e2, c, List.take_append_drop]
    · have e1 : b.drop m = [] := List.drop_eq_nil_of_le (by omega)
      have e2 : b.take m = b := List.take_of_length_le (by omega)
      rw [e1, List.append_nil, ← e2, ← c, List.take_append_drop]
  · rw [if_neg c] at h; cases h
/-- a book without quarrel meets -/
theorem meets_of {R : List Rule} (w : Wf R) (h : quarrel R = none) : Meets R := by
  have ok := quarrel_none.mp h
  have use : ∀ (i : Nat) (r : Rule) (j : Nat) (q : Rule) (k : Nat) (t : T), R[i]? = some r → R[j]? = some q → k < r.1.length → ¬ (k = 0 ∧ j ≤ i) → over r.1 q.1 k = some t → left R (res1 r t) = left R (res2 q t k) := by
    intro i r j q k t hr hq hk c ho
    have := ok (t, i, k, j) (mem_ovs.mpr ⟨i, r, j, q, k, t, hr, hq, hk, c, ho, rfl⟩)
    unfold okOv at this
    simp only [hr, hq, decide_eq_true_eq] at this
    exact this
  intro r hr q hq k hk t ho
  obtain ⟨i, hi, rfl⟩ := List.mem_iff_getElem.mp hr
  obtain ⟨j, hj, rfl⟩ := List.mem_iff_getElem.mp hq
  have gi : R[i]? = some R[i] := by simp [hi]
  have gj : R[j]? = some R[j] := by simp [hj]
  by_cases c : k = 0 ∧ j ≤ i
  · obtain ⟨rfl, hji⟩ := c
    -- at place 0 the pair stands the other way round, or it is one rule
    by_cases e : j = i
    · subst e
      unfold over at ho
      simp at ho
      subst ho
      unfold res1 res2
      simp
    · have h1 := over_symm ho
      have hk' : 0 < R[j].1.length := by
        have := (w R[j] hq).1
        omega
      have := use j R[j] i R[i] 0 t gj gi hk' (by omega) h1
      unfold res1 res2 at this ⊢
      simp at this ⊢
      exact this.symm
  · exact use i R[i] j R[j] k t gi gj hk c ho
end Bk
namespace Bk
theorem ovP_len (i : Nat) (l : T) (j : Nat) (r : T) (n : Nat) : (ovP i l j r n).length ≤ n := by
  unfold ovP
  exact Nat.le_trans (List.length_filterMap_le _ _) (by simp)
theorem ovJ_len (R : List Rule) (i n : Nat) : (ovJ R i n).length ≤ n * (lf R i).length := by
  induction n with
  | zero => simp [ovJ]
  | succ n ih =>
    rw [ovJ_succ, List.length_append, Nat.succ_mul]
    have := ovP_len i (lf R i) n (lf R n) (lf R i).length
    omega
theorem ovI_len {R : List Rule} {m : Nat} (h : ∀ i, (lf R i).length ≤ m) (n : Nat) : (ovI R n).length ≤ n * (R.length * m) := by
  induction n with
  | zero => simp [ovI]
  | succ n ih =>
    rw [ovI_succ, List.length_append, Nat.succ_mul]
    have h1 := ovJ_len R n R.length
    have h2 : R.length * (lf R n).length ≤ R.length * m := Nat.mul_le_mul_left _ (h n)
    omega
theorem lf_le {R : List Rule} {m : Nat} (h : ∀ r ∈ R, r.1.length ≤ m) (i : Nat) : (lf R i).length ≤ m := by
  unfold lf
  rw [List.getD_eq_getElem?_getD]
  cases e : R[i]? with
  | none => simp
  | some r => exact h r (List.mem_of_getElem? e)
end Bk
set_option Elab.async false
set_option linter.all false
set_option maxRecDepth 100000
set_option maxHeartbeats 4000000
namespace Sh
open PySem PySem.Spec PyProof.Rows L2
open SX (S S_inj S_len S_cat)
open Bk (Rule firstAt lg bestUp used left drain pushS Wf Ov ovAt ovP ovJ ovI ovs lf over res1 res2 okOv qstep quarrel keyLt)
local macro_rules | `(tactic| walk_at "nx") => `(tactic| repeat (with_reducible first | refine Sh.gn_mk ?_ | refine Sh.nx_mk ?_ | refine Sh.st_nx ?_ | refine Sh.rt_mk ?_ | refine Sh.ct_mk ?_ | refine Sh.bk_mk ?_))
local macro_rules | `(tactic| walk_at "sq") => `(tactic| first | exact SqL.of upd_same | exact SqT.of upd_same | exact SqL.of (by assumption) | exact SqT.of (by assumption) | assumption | exact Or.inl (SqL.of (by assumption)) | exact Or.inr (SqT.of (by assumption)) | exact Or.inl (by assumption) | exact Or.inr (by assumption))
local macro_rules | `(tactic| walk_at "hp") => `(tactic| first | exact upd_same | assumption)
local macro_rules | `(tactic| walk_at "sz") => `(tactic| first | exact Nat.le_of_ble_eq_true rfl | omega)
local macro_rules | `(tactic| walk_at "sd") => `(tactic| first | omega | exact rfl | assumption | (show (0 : Int) < _; omega) | exact And.intro (by omega) (by omega) | exact Or.inl (And.intro (by omega) (by omega)) | exact Or.inr (And.intro (by omega) (by omega)) | omega | exact Sh.sz_S (by omega) | decide)
local macro_rules | `(tactic| walk_at "rd1") => `(tactic| first
  | (with_reducible first | refine Sh.gn_mk ?_ | refine Sh.nx_mk ?_ | refine Sh.st_nx ?_ | refine Sh.rt_mk ?_ | refine Sh.ct_mk ?_ | refine Sh.bk_mk ?_)
  | refine Exists.intro (α := V) _ (And.intro rfl ?_)
  | refine Exists.intro (α := Bool) _ (And.intro rfl ?_)
  | refine Exists.intro (α := Int) _ (And.intro rfl ?_)
  | refine Exists.intro (α := PySem.Str) _ (And.intro rfl ?_)
  | refine Exists.intro (α := Int) _ (Exists.intro (α := Int) _ (And.intro rfl (And.intro rfl ?_)))
  | refine Exists.intro (α := PySem.Str) _ (Exists.intro (α := PySem.Str) _ (And.intro rfl (And.intro rfl ?_)))
  | refine Exists.intro (α := Int) _ (Exists.intro (α := Int) _ (And.intro rfl ?_))
  | refine Or.inl (Exists.intro (α := Int) _ (And.intro rfl ?_))
  | refine Exists.intro _ (Exists.intro _ (Exists.intro _ (Exists.intro _ (And.intro rfl (And.intro rfl (And.intro (by walk_at "sq") (And.intro rfl ?_)))))))
  | refine Exists.intro _ (Exists.intro _ (Exists.intro _ (Exists.intro _ (And.intro rfl (And.intro rfl (And.intro (by walk_at "hp") (And.intro rfl ?_)))))))
  | refine And.intro (by walk_at "sd") ?_
  )
local macro_rules | `(tactic| walk_at "rd") => `(tactic| repeat walk_at "rd1")
local macro_rules | `(tactic| walk_at "lk") => `(tactic| first | exact rfl | (rw [lookup_putF, if_pos rfl]) | (rw [lookup_putF, if_neg (by decide +kernel)]; walk_at "lk"))

section
variable {P : Program} {w : World} {K : PySem.W.Frag} {mg : Str → Option Value} {base : Heap}
def ovTup (o : Ov) : List V := [.str (S o.1), .int (o.2.1 : Nat), .int (o.2.2.1 : Nat), .int (o.2.2.2 : Nat)]
def OvV (H : Hp) (v : V) (o : Ov) : Prop := ∃ q, v = .ref q ∧ H q = some (.tup (ovTup o))
theorem OvV.same {H H' : Hp} {v : V} {o : Ov} (s : Same H H') (h : OvV H v o) : OvV H' v o := let ⟨q, e, h⟩ := h; ⟨q, e, s _ _ h⟩
theorem OvV.mut {H : Hp} {v : V} {o : Ov} {p : Addr} {xs ys : List V} (hp : H p = some (.lst xs)) (h : OvV H v o) : OvV (upd H p (.lst ys)) v o := by
  obtain ⟨q, e, h⟩ := h
  exact ⟨q, e, by rw [upd_ne (ne_of h hp (by intro z; cases z))]; exact h⟩
def spRows (K : PySem.W.Frag) : Sp := fun vs H Q _ => ∃ (a : Addr) (xs : List V) (R : List Rule), vs = [.ref a] ∧ RulesAt K H a xs R ∧ R.length ≤ 64 ∧ (∀ r ∈ R, r.1.length ≤ 4) ∧
  ∀ (p : Addr) (ys : List V) (H' : Hp), H p = none → Same H H' → H' p = some (.lst ys) → Items OvV H' ys (ovs R) → Q (.ref p) H'
theorem c_overlap_rows (T : Txt K mg) : Cal P w K mg base CX0 1 "overlap_rows" (spRows K) := by
  refine Cal.mk0 T.d_overlap_rows sc_overlap_rows (fun vs H Q E h => ?_) (fun f cdv A outer s H vs Q E hr h => ?_)
  · obtain ⟨a, xs, R, rfl, _⟩ := h
    rfl
  · obtain ⟨a, xs, R, rfl, hR, hl, h4, k⟩ := h
    have hlx := hR.len
    refine ⟨_, (pss_cons (ps_set (i := 1) sc_overlap_rows.nd rfl (Or.inl rfl) (pe_lst pa_nil))
  (pss_cons (ps_for PassesOwn.never rfl (pi_range1 (by rfl) T.b_range (pa_cons (pe_callB call_len_seq (by rfl) T.b_len (by decide +kernel) (pa_cons (pv 0) pa_nil)) pa_nil)) (pg_name (i := 2) sc_overlap_rows.nd rfl (Or.inl rfl))
    (pss_cons (ps_set (i := 3) sc_overlap_rows.nd rfl (Or.inl rfl) (pe_ix ix_tup (pe_ix ix_tup (pv 0) (pv 2) (fun _ _ => rfl)) pe_int (fun _ _ => rfl)))
    (pss_one (ps_for PassesOwn.never rfl (pi_range1 (by rfl) T.b_range (pa_cons (pe_callB call_len_seq (by rfl) T.b_len (by decide +kernel) (pa_cons (pv 0) pa_nil)) pa_nil)) (pg_name (i := 4) sc_overlap_rows.nd rfl (Or.inl rfl))
      (pss_cons (ps_set (i := 5) sc_overlap_rows.nd rfl (Or.inl rfl) (pe_ix ix_tup (pe_ix ix_tup (pv 0) (pv 4) (fun _ _ => rfl)) pe_int (fun _ _ => rfl)))
      (pss_one (ps_for PassesOwn.never rfl (pi_range1 (by rfl) T.b_range (pa_cons (pe_callB call_len_str (by rfl) T.b_len (by decide +kernel) (pa_cons (pv 3) pa_nil)) pa_nil)) (pg_name (i := 6) sc_overlap_rows.nd rfl (Or.inl rfl))
        (pss_cons (ps_if (PW.pt (pw_and (pt_cmpR op_eq (pv 6) pe_int (nomark _)) (pw_and1 (pt_cmpR op_ge (pv 2) (pv 4) (nomark _)))))
          (pss_one ps_continue)
          pss_nil)
        (pss_cons (ps_set (i := 7) sc_overlap_rows.nd rfl (Or.inl rfl) (pe_callB (call_min2 rfl) (by rfl) T.b_min (by decide +kernel) (pa_cons (pe_op op_sub (pe_callB call_len_str (by rfl) T.b_len (by decide +kernel) (pa_cons (pv 3) pa_nil)) (pv 6)) (pa_cons (pe_callB call_len_str (by rfl) T.b_len (by decide +kernel) (pa_cons (pv 5) pa_nil)) pa_nil))))
        (pss_one (ps_if (pt_cmpR op_eq (pe_slice sl_str (pv 3) (po_some (pv 6)) (po_some (pe_op op_add (pv 6) (pv 7)))) (pe_slice sl_str (pv 5) po_none (po_some (pv 7))) (nomark _))
          (pss_one (ps_expr (pe_bm PySem.F.plainAttrs_list PySem.F.slot_list_append PySem.F.type_list_append mt_append (pv 1) (pa_cons (pe_tup (pa_cons (pe_op op_add_str (pv 3) (pe_slice sl_str (pv 5) (po_some (pv 7)) po_none)) (pa_cons (pv 2) (pa_cons (pv 6) (pa_cons (pv 4) pa_nil))))) pa_nil))))
          pss_nil)))))))))))
  (pss_one (ps_ret (pv 1))))), ?_⟩
    refine ⟨by walk_at "sz", fun p hp => ?_⟩
    have s1 : Same H (upd H p (.lst [])) := same_new hp
    refine ⟨_, rfl, a, xs, rfl, .inr (hR.same s1).sq, ?_⟩
    walk_at "rd"
    refine for_range (lo := 0) (n := ((xs.length : Int)).toNat) (fun i σ H2 => ∃ (ys : List V) (v2 v3 v4 v5 v6 v7 : Option V), σ = [some (.ref a), some (.ref p), v2, v3, v4, v5, v6, v7] ∧ Same H H2 ∧ H2 p = some (.lst ys) ∧ Items OvV H2 ys (ovI R i))
      ⟨[], _, _, _, _, _, _, rfl, s1, upd_same, Items.nil⟩ ?_ ?_
    · rintro i σ H2 hi ⟨ys, v2, v3, v4, v5, v6, v7, rfl, s2, hp2, it2⟩
      rw [Int.zero_add]
      have hi2 : i < R.length := by omega
      have hr2 : R[i]? = some R[i] := by simp [hi2]
      have hli : lf R i = R[i].1 := Bk.lf_get hr2
      obtain ⟨q, hq, sq⟩ := (hR.same s2).get hr2
      refine ⟨_, rfl, _, rfl, a, xs, _, .ref q, rfl, rfl, (hR.same s2).sq, atI_nat hq, q, _, 0, .str (S R[i].1), rfl, rfl, sq, rfl, ?_⟩
      walk_at "nx"
      refine ⟨_, rfl, a, xs, rfl, .inr (hR.same s2).sq, ?_⟩
      walk_at "rd"
      refine for_range (lo := 0) (n := ((xs.length : Int)).toNat) (fun j σ H3 => ∃ (ys : List V) (v4 v5 v6 v7 : Option V), σ = [some (.ref a), some (.ref p), some (.int (i : Nat)), some (.str (S R[i].1)), v4, v5, v6, v7] ∧ Same H H3 ∧ H3 p = some (.lst ys) ∧ Items OvV H3 ys (ovI R i ++ Bk.ovJ R i j))
        ⟨ys, _, _, _, _, rfl, s2, hp2, by simpa [ovJ] using it2⟩ ?_ ?_
      · rintro j σ H3 hj ⟨ys, v4, v5, v6, v7, rfl, s3, hp3, it3⟩
        rw [Int.zero_add]
        have hj2 : j < R.length := by omega
        have hr3 : R[j]? = some R[j] := by simp [hj2]
        have hlj : lf R j = R[j].1 := Bk.lf_get hr3
        obtain ⟨q3, hq3, sq3⟩ := (hR.same s3).get hr3
        have l4 : R[i].1.length ≤ 4 := h4 _ (List.getElem_mem hi2)
        have l4j : R[j].1.length ≤ 4 := h4 _ (List.getElem_mem hj2)
        refine ⟨_, rfl, _, rfl, a, xs, _, .ref q3, rfl, rfl, (hR.same s3).sq, atI_nat hq3, q3, _, 0, .str (S R[j].1), rfl, rfl, sq3, rfl, ?_⟩
        walk_at "nx"
        have hSl := S_len R[i].1
        have hSlj := S_len R[j].1
        walk_at "rd"
        refine for_range (lo := 0) (n := (((S R[i].1).length : Int)).toNat) (fun k σ H4 => ∃ (ys : List V) (v6 v7 : Option V), σ = [some (.ref a), some (.ref p), some (.int (i : Nat)), some (.str (S R[i].1)), some (.int (j : Nat)), some (.str (S R[j].1)), v6, v7] ∧ Same H H4 ∧ H4 p = some (.lst ys) ∧ Items OvV H4 ys (ovI R i ++ ovJ R i j ++ ovP i R[i].1 j R[j].1 k))
          ⟨ys, _, _, rfl, s3, hp3, by simpa [ovP] using it3⟩ ?_ ?_
        · rintro k4 σ H4 hk ⟨ys, v6, v7, rfl, s4, hp4, it4⟩
          rw [Int.zero_add]
          have hk2 : k4 < R[i].1.length := by omega
          have hz5 : ys.length < sizeLine := by
            have z1 := Bk.ovI_len (Bk.lf_le h4) i
            have z2 := Bk.ovJ_len R i j
            have z3 := Bk.ovP_len i R[i].1 j R[j].1 k4
            have z4 : i * (R.length * 4) ≤ 64 * (64 * 4) := Nat.mul_le_mul (by omega) (Nat.mul_le_mul (by omega) (by omega))
            have z5 : j * (lf R i).length ≤ 64 * 4 := Nat.mul_le_mul (by omega) (Bk.lf_le h4 i)
            have z6 := it4.1
            rw [List.length_append, List.length_append] at z6
            exact Nat.lt_of_le_of_lt (m := 100000) (by omega) (by decide)
          walk_at "nx"
          refine st_ifK (decide (k4 = 0 ∧ j ≤ i)) (fun Q' hQ => ?_) (fun hb => ?_) (fun hb => ?_)
          · walk_at "rd"
            refine ite2 (fun c => ?_) (fun c => ?_)
            · have c1 : k4 = 0 := by have := V.int.inj (of_decide_eq_true c); omega
              walk_at "rd"
              exact q_of hQ (decide_eq_decide.mpr (by omega))
            · have c1 : ¬ k4 = 0 := by
                intro e
                subst e
                exact c rfl
              exact q_of hQ (decide_eq_false (by omega)).symm
          · have hb' := of_decide_eq_true hb
            refine ⟨ys, _, _, rfl, s4, hp4, ?_⟩
            rw [Bk.ovP_succ, show ovAt i R[i].1 j R[j].1 k4 = none from if_pos hb']
            simpa using it4
          · have hb' := of_decide_eq_false hb
            walk_at "nx"
            have hmin : (if ((S R[j].1).length : Int) < (S R[i].1).length - (k4 : Int) then ((S R[j].1).length : Int) else (S R[i].1).length - (k4 : Int)) = ((min (R[i].1.length - k4) R[j].1.length : Nat) : Int) := by
              split <;> omega
            refine ⟨_, rfl, _, rfl, by walk_at "sd", _, rfl, _, _, rfl, rfl, _, rfl, _, rfl, by walk_at "sd", _, _, rfl, ?_⟩
            rw [hmin]
            generalize hm : min (R[i].1.length - k4) R[j].1.length = m
            walk_at "rd"
            rw [cut_mid (by omega) (by omega), cut_to (by omega)]
            rw [show ((k4 : Nat) : Int).toNat = k4 by omega, show (((k4 : Nat) : Int) + (m : Nat)).toNat - k4 = m by omega, show ((m : Nat) : Int).toNat = m by omega]
            by_cases hc : (R[i].1.drop k4).take m = R[j].1.take m
            · have ho : ovAt i R[i].1 j R[j].1 k4 = some (R[i].1 ++ R[j].1.drop m, i, k4, j) := by
                unfold ovAt over
                rw [if_neg hb', hm, if_pos hc]; rfl
              rw [show decide (V.str (S ((R[i].1.drop k4).take m)) = V.str (S (R[j].1.take m))) = true from decide_eq_true (by rw [hc])]
              refine iteT ?_
              refine ⟨_, rfl, .inl ⟨rfl, _, SqL.of hp4⟩, ?_⟩
              walk_at "rd"
              rw [cut_from (by omega), show ((m : Nat) : Int).toNat = m by omega]
              refine ⟨by rw [S_len, S_len]; exact Nat.le_trans (m := 8) (by simp; omega) (by decide), ?_⟩
              rw [S_cat]
              walk_at "rd"
              refine ⟨by walk_at "sz", fun q9 hq9 => ?_⟩
              have s5 : Same H4 (upd H4 q9 (.tup (ovTup (R[i].1 ++ R[j].1.drop m, i, k4, j)))) := same_new hq9
              refine ⟨p, _, _, rfl, rfl, s5 _ _ hp4, hz5, ?_⟩
              refine ⟨_, _, _, rfl, same_mut (s4.trans s5) hp, upd_same, ?_⟩
              rw [Bk.ovP_succ, ho, ← List.append_assoc]
              exact it4.snoc (fun x y r => (r.same s5).mut (s5 _ _ hp4)) ⟨q9, rfl, by rw [upd_ne (ne_of_none hp4 hq9).symm]; exact upd_same⟩
            · have ho : ovAt i R[i].1 j R[j].1 k4 = none := by
                unfold ovAt over
                rw [if_neg hb', hm, if_neg hc]; rfl
              rw [show decide (V.str (S ((R[i].1.drop k4).take m)) = V.str (S (R[j].1.take m))) = false from decide_eq_false (fun e => hc (S_inj (V.str.inj e)))]
              refine iteF ?_
              walk_at "rd"
              refine ⟨ys, _, _, rfl, s4, hp4, ?_⟩
              rw [Bk.ovP_succ, ho]
              simpa using it4
        · rintro σ H4 ⟨ys, v6, v7, rfl, s4, hp4, it4⟩
          walk_at "nx"
          refine ⟨ys, _, _, _, _, rfl, s4, hp4, ?_⟩
          rw [Bk.ovJ_succ, hli, hlj, ← List.append_assoc]
          rw [show (((S R[i].1).length : Int)).toNat = R[i].1.length by omega] at it4
          exact it4
      · rintro σ H3 ⟨ys, v4, v5, v6, v7, rfl, s3, hp3, it3⟩
        walk_at "nx"
        refine ⟨ys, _, _, _, _, _, _, rfl, s3, hp3, ?_⟩
        rw [Bk.ovI_succ]
        rw [show ((xs.length : Int)).toNat = R.length by omega] at it3
        exact it3
    · rintro σ H2 ⟨ys, v2, v3, v4, v5, v6, v7, rfl, s2, hp2, it2⟩
      walk_at "rd"
      rw [show ((xs.length : Int)).toNat = R.length by omega] at it2
      exact k p ys H2 hp s2 hp2 it2
end
end Sh
set_option Elab.async false
set_option linter.all false
set_option maxRecDepth 100000
set_option maxHeartbeats 4000000
namespace Sh
open PySem PySem.Spec PyProof.Rows L2
open SX (S S_inj S_len S_cat)
open Bk (Rule firstAt lg bestUp used left drain pushS Wf Ov ovAt ovP ovJ ovI ovs lf over res1 res2 okOv qstep quarrel keyLt)
local macro_rules | `(tactic| walk_at "nx") => `(tactic| repeat (with_reducible first | refine Sh.gn_mk ?_ | refine Sh.nx_mk ?_ | refine Sh.st_nx ?_ | refine Sh.rt_mk ?_ | refine Sh.ct_mk ?_ | refine Sh.bk_mk ?_))
local macro_rules | `(tactic| walk_at "sq") => `(tactic| first | exact SqL.of upd_same | exact SqT.of upd_same | exact SqL.of (by assumption) | exact SqT.of (by assumption) | assumption | exact Or.inl (SqL.of (by assumption)) | exact Or.inr (SqT.of (by assumption)) | exact Or.inl (by assumption) | exact Or.inr (by assumption))
local macro_rules | `(tactic| walk_at "hp") => `(tactic| first | exact upd_same | assumption)
local macro_rules | `(tactic| walk_at "sz") => `(tactic| first | exact Nat.le_of_ble_eq_true rfl | omega)
local macro_rules | `(tactic| walk_at "sd") => `(tactic| first | omega | exact rfl | assumption | (show (0 : Int) < _; omega) | exact And.intro (by omega) (by omega) | exact Or.inl (And.intro (by omega) (by omega)) | exact Or.inr (And.intro (by omega) (by omega)) | omega | exact Sh.sz_S (by omega) | decide)
local macro_rules | `(tactic| walk_at "rd1") => `(tactic| first
  | (with_reducible first | refine Sh.gn_mk ?_ | refine Sh.nx_mk ?_ | refine Sh.st_nx ?_ | refine Sh.rt_mk ?_ | refine Sh.ct_mk ?_ | refine Sh.bk_mk ?_)
  | refine Exists.intro (α := V) _ (And.intro rfl ?_)
  | refine Exists.intro (α := Bool) _ (And.intro rfl ?_)
  | refine Exists.intro (α := Int) _ (And.intro rfl ?_)
  | refine Exists.intro (α := PySem.Str) _ (And.intro rfl ?_)
  | refine Exists.intro (α := Int) _ (Exists.intro (α := Int) _ (And.intro rfl (And.intro rfl ?_)))
  | refine Exists.intro (α := PySem.Str) _ (Exists.intro (α := PySem.Str) _ (And.intro rfl (And.intro rfl ?_)))
  | refine Exists.intro (α := Int) _ (Exists.intro (α := Int) _ (And.intro rfl ?_))
  | refine Or.inl (Exists.intro (α := Int) _ (And.intro rfl ?_))
  | refine Exists.intro _ (Exists.intro _ (Exists.intro _ (Exists.intro _ (And.intro rfl (And.intro rfl (And.intro (by walk_at "sq") (And.intro rfl ?_)))))))
  | refine Exists.intro _ (Exists.intro _ (Exists.intro _ (Exists.intro _ (And.intro rfl (And.intro rfl (And.intro (by walk_at "hp") (And.intro rfl ?_)))))))
  | refine And.intro (by walk_at "sd") ?_
  )
local macro_rules | `(tactic| walk_at "rd") => `(tactic| repeat walk_at "rd1")
local macro_rules | `(tactic| walk_at "lk") => `(tactic| first | exact rfl | (rw [lookup_putF, if_pos rfl]) | (rw [lookup_putF, if_neg (by decide +kernel)]; walk_at "lk"))

section
variable {P : Program} {w : World} {K : PySem.W.Frag} {mg : Str → Option Value} {base : Heap}
def spBoth (K : PySem.W.Frag) : Sp := fun vs H Q _ => ∃ (a : Addr) (xs : List V) (R : List Rule) (q : Addr) (t : List Nat) (i k j : Nat) (r1 r2 : Rule), vs = [.ref a, .ref q] ∧ RulesAt K H a xs R ∧ R.length ≤ 64 ∧ (∀ r ∈ R, r.1.length ≤ 4 ∧ r.2.length ≤ 1) ∧
  H q = some (.tup (ovTup (t, i, k, j))) ∧ R[i]? = some r1 ∧ R[j]? = some r2 ∧ t.length ≤ 100 ∧
  ∀ (p : Addr) (H' : Hp), H p = none → Same H H' → H' p = some (.tup [.str (S (res1 r1 t)), .str (S (res2 r2 t k))]) → Q (.ref p) H'
theorem c_both_results (T : Txt K mg) : Cal P w K mg base CX0 1 "both_results" (spBoth K) := by
  refine Cal.mk0 T.d_both_results sc_both_results (fun vs H Q E h => ?_) (fun f cdv A outer s H vs Q E hr h => ?_)
  · obtain ⟨a, xs, R, q, t, i, k, j, r1, r2, rfl, _⟩ := h
    rfl
  · obtain ⟨a, xs, R, q, t, i, k, j, r1, r2, rfl, hR, hl, h4, hq, hi, hj, ht, kk⟩ := h
    have hlx := hR.len
    obtain ⟨q1, hx1, sq1⟩ := hR.get hi
    obtain ⟨q2, hx2, sq2⟩ := hR.get hj
    have hlt1 := h4 _ (List.mem_of_getElem? hi)
    have hlt2 := h4 _ (List.mem_of_getElem? hj)
    refine ⟨_, (pss_cons (ps_asg (pv 1) (pg_tup (by rfl) (pgs_cons (pg_name (i := 2) sc_both_results.nd rfl (Or.inl rfl)) (pgs_cons (pg_name (i := 3) sc_both_results.nd rfl (Or.inl rfl)) (pgs_cons (pg_name (i := 4) sc_both_results.nd rfl (Or.inl rfl)) (pgs_cons (pg_name (i := 5) sc_both_results.nd rfl (Or.inl rfl)) pgs_nil))))))
  (pss_cons (ps_set (i := 6) sc_both_results.nd rfl (Or.inl rfl) (pe_op op_add_str (pe_ix ix_tup (pe_ix ix_tup (pv 0) (pv 3) (fun _ _ => rfl)) pe_int (fun _ _ => rfl)) (pe_slice sl_str (pv 2) (po_some (pe_callB call_len_str (by rfl) T.b_len (by decide +kernel) (pa_cons (pe_ix ix_tup (pe_ix ix_tup (pv 0) (pv 3) (fun _ _ => rfl)) pe_int (fun _ _ => rfl)) pa_nil))) po_none)))
  (pss_cons (ps_set (i := 7) sc_both_results.nd rfl (Or.inl rfl) (pe_op op_add_str (pe_op op_add_str (pe_slice sl_str (pv 2) po_none (po_some (pv 4))) (pe_ix ix_tup (pe_ix ix_tup (pv 0) (pv 5) (fun _ _ => rfl)) pe_int (fun _ _ => rfl))) (pe_slice sl_str (pv 2) (po_some (pe_op op_add (pv 4) (pe_callB call_len_str (by rfl) T.b_len (by decide +kernel) (pa_cons (pe_ix ix_tup (pe_ix ix_tup (pv 0) (pv 5) (fun _ _ => rfl)) pe_int (fun _ _ => rfl)) pa_nil)))) po_none)))
  (pss_one (ps_ret (pe_tup (pa_cons (pv 6) (pa_cons (pv 7) pa_nil)))))))), ?_⟩
    walk_at "rd"
    refine ⟨q, _, rfl, SqT.of hq, rfl, _, _, rfl, _, _, rfl, _, _, rfl, _, _, rfl, rfl, ?_⟩
    walk_at "rd"
    refine ⟨a, xs, _, .ref q1, rfl, rfl, hR.sq, atI_nat hx1, q1, _, 1, .str (S r1.2), rfl, rfl, sq1, rfl, ?_⟩
    refine ⟨_, rfl, _, rfl, _, rfl, ?_⟩
    refine ⟨a, xs, _, .ref q1, rfl, rfl, hR.sq, atI_nat hx1, ?_⟩
    refine ⟨q1, _, 0, .str (S r1.1), rfl, rfl, sq1, rfl, ?_⟩
    refine ⟨_, rfl, sz_S (by omega), _, rfl, _, rfl, sz_S (t := t) (by omega), ?_⟩
    walk_at "nx"
    refine ⟨_, _, rfl, rfl, ?_, ?_⟩
    · rw [cut_from (by omega), S_len, S_len]
      exact Nat.le_trans (m := 101) (by simp; omega) (by decide)
    rw [cut_from (by omega), S_cat, S_len, show ((r1.1.length : Nat) : Int).toNat = r1.1.length by omega]
    walk_at "rd"
    refine ⟨sz_S (t := t) (by omega), ?_⟩
    refine ⟨_, rfl, _, rfl, ?_⟩
    refine ⟨a, xs, _, .ref q2, rfl, rfl, hR.sq, atI_nat hx2, q2, _, 1, .str (S r2.2), rfl, rfl, sq2, rfl, ?_⟩
    rw [cut_to (by omega)]
    refine ⟨_, _, rfl, rfl, ?_, ?_⟩
    · rw [S_len, S_len]
      exact Nat.le_trans (m := 101) (by simp; omega) (by decide)
    rw [S_cat]
    refine ⟨_, rfl, _, rfl, _, rfl, _, rfl, ?_⟩
    refine ⟨a, xs, _, .ref q2, rfl, rfl, hR.sq, atI_nat hx2, q2, _, 0, .str (S r2.1), rfl, rfl, sq2, rfl, ?_⟩
    refine ⟨_, rfl, sz_S (by omega), _, _, rfl, rfl, ?_⟩
    refine ⟨_, rfl, _, rfl, sz_S (t := t) (by omega), ?_⟩
    rw [cut_from (by rw [S_len]; omega)]
    refine ⟨_, _, rfl, rfl, ?_, ?_⟩
    · rw [S_len, S_len]
      exact Nat.le_trans (m := 301) (by simp; omega) (by decide)
    rw [S_cat]
    walk_at "rd"
    refine ⟨by walk_at "sz", fun p hp => ?_⟩
    refine kk p _ hp (same_new hp) ?_
    rw [upd_same, S_len]
    rw [show (((k : Nat) : Int)).toNat = k by omega, show (((k : Nat) : Int) + (r2.1.length : Nat)).toNat = k + r2.1.length by omega]
    rfl
theorem key_lt (t u : List Nat) : tupLt [.int (t.length : Nat), .str (S t)] [.int (u.length : Nat), .str (S u)] = keyLt t u := by
  unfold keyLt
  show (if V.int (t.length : Nat) = V.int (u.length : Nat) then (if V.str (S t) = V.str (S u) then false else decide ((S t).cps.toList < (S u).cps.toList)) else decide ((t.length : Int) < (u.length : Int))) = _
  by_cases h : t.length = u.length
  · rw [if_pos (by rw [h]), if_pos h]
    by_cases e : t = u
    · subst e
      rw [if_pos rfl]
      exact (decide_eq_false (fun z => List.lt_irrefl (α := Nat) t z)).symm
    · rw [if_neg (fun z => e (S_inj (V.str.inj z)))]
  · rw [if_neg (fun z => h (by have := V.int.inj z; omega)), if_neg h]
    exact decide_eq_decide.mpr (by omega)
theorem ovs_len {R : List Rule} (h4 : ∀ r ∈ R, r.1.length ≤ 4) {o : Ov} (h : o ∈ ovs R) : o.1.length ≤ 8 := by
  obtain ⟨i, r, j, q, k, t, hr, hq, hk, c, ho, rfl⟩ := Bk.mem_ovs.mp h
  unfold over at ho
  have h1 := h4 _ (List.mem_of_getElem? hr)
  have h2 := h4 _ (List.mem_of_getElem? hq)
  split at ho
  · cases ho
    simp
    omega
  · cases ho
def qlt : Option (List Nat) → List Nat → Bool
  | none, _ => true
  | some b, t => keyLt t b
theorem qstep_eq (R : List Rule) (b : Option (List Nat)) (o : Ov) : qstep R b o = if qlt b o.1 = true then (if okOv R o = true then b else some o.1) else b := by
  unfold qstep
  cases b <;> rfl
theorem qstep_or (R : List Rule) (b : Option (List Nat)) (o : Ov) : qstep R b o = b ∨ qstep R b o = some o.1 := by
  unfold qstep
  cases b <;> (repeat' split) <;> first | exact .inl rfl | exact .inr rfl
theorem qfold_mem {R : List Rule} : ∀ (l : List Ov) (b : Option (List Nat)) {u : List Nat}, l.foldl (qstep R) b = some u → b = some u ∨ ∃ o ∈ l, o.1 = u
  | [], b, u, h => .inl h
  | o :: l, b, u, h => by
    rcases qfold_mem l _ h with q | ⟨o', m, e⟩
    · rcases qstep_or R b o with z | z
      · rw [z] at q; exact .inl q
      · rw [z] at q; exact .inr ⟨o, List.mem_cons_self, Option.some.inj q⟩
    · exact .inr ⟨o', List.mem_cons_of_mem _ m, e⟩
theorem ov_inv {R : List Rule} {t : List Nat} {i k j : Nat} (h : (t, i, k, j) ∈ ovs R) : ∃ r q, R[i]? = some r ∧ R[j]? = some q := by
  obtain ⟨i', r, j', q, k', t', hr, hq, hk, c, ho, e⟩ := Bk.mem_ovs.mp h
  cases e
  exact ⟨r, q, hr, hq⟩
def spQuarrel (K : PySem.W.Frag) : Sp := fun vs H Q _ => ∃ (a p : Addr) (xs : List V) (R : List Rule), vs = [.ref a, .ref p, .int (lg R : Nat)] ∧ RulesAt K H a xs R ∧ LeftsAt H p R ∧ Wf R ∧ R.length ≤ 64 ∧ (∀ r ∈ R, r.1.length ≤ 4 ∧ r.2.length ≤ 1) ∧
  ∀ (H' : Hp), Same H H' → Q (optS (quarrel R)) H'
theorem c_quarrel_of (T : Txt K mg) : Cal P w K mg base CX0 3 "quarrel_of" (spQuarrel K) := by
  have c_overlap_rows := c_overlap_rows (P := P) (w := w) (base := base) T
  have c_both_results := c_both_results (P := P) (w := w) (base := base) T
  have c_text_key := c_text_key (P := P) (w := w) (base := base) T
  have c_left_over := c_left_over (P := P) (w := w) (base := base) T
  refine Cal.mk0 T.d_quarrel_of sc_quarrel_of (fun vs H Q E h => ?_) (fun f cdv A outer s H vs Q E hr h => ?_)
  · obtain ⟨a, p, xs, R, rfl, _⟩ := h
    rfl
  · obtain ⟨a, p, xs, R, rfl, hR, hL, hw, hl, h4, kk⟩ := h
    have h4' : ∀ r ∈ R, r.1.length ≤ 4 := fun r m => (h4 r m).1
    refine ⟨_, (pss_cons (ps_set (i := 3) sc_quarrel_of.nd rfl (Or.inl rfl) pe_non)
  (pss_cons (ps_for PassesOwn.never rfl (pi_list (pe_c c_overlap_rows hr (by decide) rfl (pa_cons (pv 0) pa_nil))) (pg_name (i := 4) sc_quarrel_of.nd rfl (Or.inl rfl))
    (pss_one (ps_if (PW.pt (pw_or (pt_cmpR op_isN (pv 3) pe_non (nomark _)) (pw_or1 (pt_cmpR (op_ltTM hr.units) (pe_c c_text_key hr (by decide) rfl (pa_cons (pe_ix ix_tup (pv 4) pe_int (fun _ _ => rfl)) pa_nil)) (pe_c c_text_key hr (by decide) rfl (pa_cons (pv 3) pa_nil)) (nomark _)))))
      (pss_cons (ps_asg (pe_c c_both_results hr (by decide) rfl (pa_cons (pv 0) (pa_cons (pv 4) pa_nil))) (pg_tup (by rfl) (pgs_cons (pg_name (i := 5) sc_quarrel_of.nd rfl (Or.inl rfl)) (pgs_cons (pg_name (i := 6) sc_quarrel_of.nd rfl (Or.inl rfl)) pgs_nil))))
      (pss_one (ps_if (pt_cmpR op_ne (pe_c c_left_over hr (by decide) rfl (pa_cons (pv 1) (pa_cons (pv 2) (pa_cons (pv 5) pa_nil)))) (pe_c c_left_over hr (by decide) rfl (pa_cons (pv 1) (pa_cons (pv 2) (pa_cons (pv 6) pa_nil)))) (nomark _))
        (pss_one (ps_set (i := 3) sc_quarrel_of.nd rfl (Or.inl rfl) (pe_ix ix_tup (pv 4) pe_int (fun _ _ => rfl))))
        pss_nil)))
      pss_nil)))
  (pss_one (ps_ret (pv 3))))), ?_⟩
    walk_at "rd"
    refine ⟨a, xs, R, rfl, hR, hl, h4', fun p1 ys H1 hp1 s1 hq1 it1 => ?_⟩
    walk_at "nx"
    refine ⟨p1, rfl, ⟨_, SqL.of hq1⟩, ?_⟩
    refine for_lstR (K := K) (a := p1) (xs := ys) (l := ovs R) (Rel := OvV) it1.1 (fun pre σ H2 => ∃ (v4 v5 v6 : Option V), σ = [some (.ref a), some (.ref p), some (.int (lg R : Nat)), some (optS (pre.foldl (qstep R) none)), v4, v5, v6] ∧ Same H1 H2)
      ⟨_, _, _, rfl, Same.refl H1⟩ (fun pre σ H2 ⟨_, _, _, _, s2⟩ => ⟨SqL.of (s2 _ _ hq1), fun i x y h1 h2 => (it1.2 i x y h1 h2).same s2⟩) ?_ ?_
    · rintro pre o post x σ H2 e hx ⟨q, rfl, hq⟩ ⟨v4, v5, v6, rfl, s2⟩
      have ho : o ∈ ovs R := by rw [e]; simp
      have s02 := s1.trans s2
      have hto' := ovs_len h4' ho
      obtain ⟨t, i, k, j⟩ := o
      have hto : t.length ≤ 8 := hto'
      walk_at "nx"
      generalize hb : pre.foldl (qstep R) none = b
      have qt : SqT K H2 q [.str (S t), .int (i : Nat), .int (k : Nat), .int (j : Nat)] := SqT.of hq
      have e2 : (pre ++ [(t, i, k, j)]).foldl (qstep R) none = qstep R b (t, i, k, j) := by rw [List.foldl_append, hb]; rfl
      rw [e2]
      refine if_KH (qlt b t) (fun H' => Same H2 H') (fun Q' hQ => ?_) (fun hb1 H3 s3 => ?_) (fun hb1 H3 s3 => ?_)
      · cases b with
        | none =>
          walk_at "rd"
          exact hQ _ (Same.refl _)
        | some u =>
          have hu8 : u.length ≤ 8 := by
            rcases qfold_mem _ _ hb with z | ⟨o, m, rfl⟩
            · cases z
            · exact ovs_len h4' (by rw [e]; exact List.mem_append_left _ m)
          walk_at "rd"
          refine ⟨t, rfl, by omega, fun p3 hp3 => ?_⟩
          have s3 : Same H2 (upd H2 p3 (.tup [.int (t.length : Nat), .str (S t)])) := same_new hp3
          walk_at "rd"
          refine ⟨u, rfl, by omega, fun p4 hp4 => ?_⟩
          have s4 := s3.trans (same_new (o := .tup [.int (u.length : Nat), .str (S u)]) hp4)
          refine ⟨p3, p4, _, _, rfl, rfl, SqT.of (same_new hp4 _ _ upd_same), SqT.of upd_same, rfl, _, rfl, ?_⟩
          exact q_of (hQ _ s4) (key_lt t u)
      · obtain ⟨r1, r2, hr1, hr2⟩ := ov_inv ho
        walk_at "nx"
        refine ⟨_, rfl, _, rfl, a, xs, R, q, t, i, k, j, r1, r2, rfl, hR.same (s02.trans s3), hl, h4, s3 _ _ hq, hr1, hr2, by omega, fun p3 H4 hp3 s4 hq3 => ?_⟩
        walk_at "nx"
        refine ⟨p3, _, rfl, SqT.of hq3, rfl, _, _, rfl, _, _, rfl, rfl, ?_⟩
        walk_at "nx"
        have s24 := s3.trans s4
        have hL4 := hL.same (s02.trans s24)
        have l1 := (h4 _ (List.mem_of_getElem? hr1)).2
        have l2 := (h4 _ (List.mem_of_getElem? hr2)).2
        have hk : okOv R (t, i, k, j) = decide (left R (res1 r1 t) = left R (res2 r2 t k)) := by
          unfold okOv
          rw [hr1, hr2]
        have hq2 : qstep R b (t, i, k, j) = if okOv R (t, i, k, j) = true then b else some t := by
          rw [qstep_eq]
          exact if_pos hb1
        refine if_KH (!okOv R (t, i, k, j)) (fun H' => Same H4 H') (fun Q' hQ => ?_) (fun hb2 H5 s5 => ?_) (fun hb2 H5 s5 => ?_)
        · walk_at "nx"
          refine ⟨_, rfl, _, rfl, _, rfl, p, R, res1 r1 t, rfl, hL4, hw, by unfold res1; simp; omega, fun H5 s5 => ?_⟩
          refine ⟨_, rfl, _, rfl, _, rfl, p, R, res2 r2 t k, rfl, hL4.same s5, hw, by unfold res2; simp; omega, fun H6 s6 => ?_⟩
          refine ⟨rfl, _, rfl, q_of (hQ _ (s5.trans s6)) ?_⟩
          rw [hk]
          by_cases ee : left R (res1 r1 t) = left R (res2 r2 t k)
          · rw [decide_eq_true ee, decide_eq_true (by rw [ee])]
          · rw [decide_eq_false ee, decide_eq_false (fun z => ee (S_inj (V.str.inj z)))]
        · have hok : okOv R (t, i, k, j) = false := by simpa using hb2
          walk_at "nx"
          refine ⟨_, rfl, q, _, _, _, rfl, rfl, SqT.of ((s24.trans s5) _ _ hq), rfl, ?_⟩
          walk_at "nx"
          rw [hq2, hok]
          exact ⟨_, _, _, rfl, s2.trans (s24.trans s5)⟩
        · have hok : okOv R (t, i, k, j) = true := by simpa using hb2
          walk_at "nx"
          rw [hq2, hok]
          exact ⟨_, _, _, rfl, s2.trans (s24.trans s5)⟩
      · walk_at "nx"
        have hq2 : qstep R b (t, i, k, j) = b := by
          rw [qstep_eq]
          exact if_neg (by show ¬ qlt b t = true; rw [hb1]; decide)
        rw [hq2]
        exact ⟨_, _, _, rfl, s2.trans s3⟩
    · rintro σ H2 ⟨v4, v5, v6, rfl, s2⟩
      walk_at "rd"
      exact kk H2 (s1.trans s2)
end
end Sh
set_option Elab.async false
set_option linter.all false
set_option maxRecDepth 100000
set_option maxHeartbeats 4000000
namespace Sh
open PySem PySem.Spec PyProof.Rows L2
open SX (S S_inj S_len S_cat)
open Bk (Rule firstAt lg bestUp used left drain pushS Wf)
/-- a comprehension over a list whose items are told by l -/
theorem lc_lstF {α : Type} {f : α → V} {l : List α} {K : PySem.W.Frag} {a : Addr} {g : TG} {tt : TT} {te : TE} {vs : List Nat} {σ : L2.St} {H1 : Hp} {D : Addr} {Qd : Hp → Prop}
    (Pv : List α → Hp → Prop) (h0 : Pv [] (upd H1 D (.lst []))) (hG : ∀ pre H, Pv pre H → SqL K H a (l.map f))
    (hs : ∀ pre y post H, l = pre ++ y :: post → Pv pre H → g (f y) (wipe σ vs) H fun σ2 H2 => wipe σ2 vs = wipe σ vs ∧ tt σ2 H2 fun b H3 =>
      if b = true then te σ2 H3 fun y' H4 => ∃ acc, H4 D = some (.lst acc) ∧ acc.length < sizeLine ∧ Pv (pre ++ [y]) (upd H4 D (.lst (acc ++ [y']))) else Pv (pre ++ [y]) H3) (hd : ∀ H, Pv l H → Qd H) :
    ∃ W : Nat → Nat → Hp → Prop, (∃ m, W 0 m (upd H1 D (.lst []))) ∧ ∀ i m H, W i m H →
      ((Itl K a).stop i H ∧ Qd H) ∨ ((Itl K a).go i H ∧ ∃ Nx : Hp → Prop, (∀ H', Nx H' → ∃ m', m' < m ∧ W (i + 1) m' H') ∧ ∀ x H', (Itl K a).yld i H x H' → g x (wipe σ vs) H' fun σ2 H2 => wipe σ2 vs = wipe σ vs ∧ tt σ2 H2 fun b H3 =>
        if b = true then te σ2 H3 fun y H4 => ∃ acc, H4 D = some (.lst acc) ∧ acc.length < sizeLine ∧ Nx (upd H4 D (.lst (acc ++ [y]))) else Nx H3) := by
  have w := walk_list (K := K) (a := a) (xs := l.map f)
  refine lc_it w (fun i H => Pv (l.take i) H) (by simpa using h0) (fun i H _ p => hG _ H p) (fun i x H H' hi p y => ?_) (fun H p => hd H (by simpa using p))
  obtain ⟨rfl, hx⟩ := y
  have hi' : i < l.length := by simpa using hi
  have hl : l[i]? = some l[i] := by simp [hi']
  obtain ⟨e1, e2⟩ := take_succ_of hl
  have hx2 : x = f l[i] := by
    rw [List.getElem?_map, hl] at hx
    exact (Option.some.inj hx).symm
  subst hx2
  have q := hs _ l[i] _ H' e2 p
  rw [← e1] at q
  exact q
local macro_rules | `(tactic| walk_at "nx") => `(tactic| repeat (with_reducible first | refine Sh.gn_mk ?_ | refine Sh.nx_mk ?_ | refine Sh.st_nx ?_ | refine Sh.rt_mk ?_ | refine Sh.ct_mk ?_ | refine Sh.bk_mk ?_))
local macro_rules | `(tactic| walk_at "sq") => `(tactic| first | exact SqL.of upd_same | exact SqT.of upd_same | exact SqL.of (by assumption) | exact SqT.of (by assumption) | assumption | exact Or.inl (SqL.of (by assumption)) | exact Or.inr (SqT.of (by assumption)) | exact Or.inl (by assumption) | exact Or.inr (by assumption))
local macro_rules | `(tactic| walk_at "hp") => `(tactic| first | exact upd_same | assumption)
local macro_rules | `(tactic| walk_at "sz") => `(tactic| first | exact Nat.le_of_ble_eq_true rfl | omega)
local macro_rules | `(tactic| walk_at "sd") => `(tactic| first | omega | exact rfl | assumption | (show (0 : Int) < _; omega) | exact And.intro (by omega) (by omega) | exact Or.inl (And.intro (by omega) (by omega)) | exact Or.inr (And.intro (by omega) (by omega)) | omega | exact Sh.sz_S (by omega) | decide)
local macro_rules | `(tactic| walk_at "rd1") => `(tactic| first
  | (with_reducible first | refine Sh.gn_mk ?_ | refine Sh.nx_mk ?_ | refine Sh.st_nx ?_ | refine Sh.rt_mk ?_ | refine Sh.ct_mk ?_ | refine Sh.bk_mk ?_)
  | refine Exists.intro (α := V) _ (And.intro rfl ?_)
  | refine Exists.intro (α := Bool) _ (And.intro rfl ?_)
  | refine Exists.intro (α := Int) _ (And.intro rfl ?_)
  | refine Exists.intro (α := PySem.Str) _ (And.intro rfl ?_)
  | refine Exists.intro (α := Int) _ (Exists.intro (α := Int) _ (And.intro rfl (And.intro rfl ?_)))
  | refine Exists.intro (α := PySem.Str) _ (Exists.intro (α := PySem.Str) _ (And.intro rfl (And.intro rfl ?_)))
  | refine Exists.intro (α := Int) _ (Exists.intro (α := Int) _ (And.intro rfl ?_))
  | refine Or.inl (Exists.intro (α := Int) _ (And.intro rfl ?_))
  | refine Exists.intro _ (Exists.intro _ (Exists.intro _ (Exists.intro _ (And.intro rfl (And.intro rfl (And.intro (by walk_at "sq") (And.intro rfl ?_)))))))
  | refine Exists.intro _ (Exists.intro _ (Exists.intro _ (Exists.intro _ (And.intro rfl (And.intro rfl (And.intro (by walk_at "hp") (And.intro rfl ?_)))))))
  | refine And.intro (by walk_at "sd") ?_
  )
local macro_rules | `(tactic| walk_at "rd") => `(tactic| repeat walk_at "rd1")
local macro_rules | `(tactic| walk_at "lk") => `(tactic| first | exact rfl | (rw [lookup_putF, if_pos rfl]) | (rw [lookup_putF, if_neg (by decide +kernel)]; walk_at "lk"))

section
variable {P : Program} {w : World} {K : PySem.W.Frag} {mg : Str → Option Value} {base : Heap}
abbrev vS (t : List Nat) : V := .str (S t)
/-- the begins of the left sides -/
def Beg (ls : List (List Nat)) (u : List Nat) : Prop := u = [] ∨ ∃ l ∈ ls, ∃ n, n < l.length ∧ u = l.take n
def spKept (K : PySem.W.Frag) : Sp := fun vs H Q _ => ∃ (p : Addr) (ls : List (List Nat)) (m : Nat) (t : List Nat), vs = [.ref p, .int (m : Nat), .str (S t)] ∧ H p = some (.lst (ls.map vS)) ∧ ls.length ≤ 64 ∧ (∀ l ∈ ls, l.length ≤ 4) ∧ m ≤ 4 ∧ t.length ≤ 100 ∧
  ∀ (u : List Nat) (H' : Hp), Beg ls u → Same H H' → Q (.str (S u)) H'
theorem c_kept_tail (T : Txt K mg) : Cal P w K mg base CX0 1 "kept_tail" (spKept K) := by
  refine Cal.mk0 T.d_kept_tail sc_kept_tail (fun vs H Q E h => ?_) (fun f cdv A outer s H vs Q E hr h => ?_)
  · obtain ⟨p, ls, m, t, rfl, _⟩ := h
    rfl
  · obtain ⟨p, ls, m, t, rfl, hp, hl, h4, hm, ht, kk⟩ := h
    have hSl := S_len t
    refine ⟨_, (pss_cons (ps_for PassesOwn.never rfl (pi_range3 (by rfl) T.b_range (pa_cons (pe_callB (call_min2 rfl) (by rfl) T.b_min (by decide +kernel) (pa_cons (pe_op op_sub (pv 1) pe_int) (pa_cons (pe_callB call_len_str (by rfl) T.b_len (by decide +kernel) (pa_cons (pv 2) pa_nil)) pa_nil))) (pa_cons pe_int (pa_cons (pe_un un_neg pe_int) pa_nil)))) (pg_name (i := 3) sc_kept_tail.nd rfl (Or.inr rfl))
    (pss_cons (ps_set (i := 4) sc_kept_tail.nd rfl (Or.inr rfl) (pe_slice sl_str (pv 2) (po_some (pe_op op_sub (pe_callB call_len_str (by rfl) T.b_len (by decide +kernel) (pa_cons (pv 2) pa_nil)) (pv 3))) po_none))
    (pss_one (ps_if (pt_val (pe_callB (cr_any rfl) (by rfl) T.b_any (by decide +kernel) (pa_cons (pe_lc (own := [("left", 5)]) (g := gName 5) (tt := tYes) rfl sc_kept_tail.nd (pi_list (pv 0)) (blkOk_by (N := ["lefts", "longest", "text", "size", "tail", "left"]) (sc := defScope s_kept_tail) (by decide +kernel)) (fun _ _ _ _ _ => (pg_name (i := 5) sc_kept_tail.nd rfl (Or.inl rfl))) (fun _ _ _ _ _ => pts_nil) (fun _ _ _ _ _ => (pe_and (pe_m1 PySem.F.slot_str_startswith PySem.F.type_str_startswith mt_startswith (pv 5) (pv 4)) (pe_one (pe_cmpR op_gt (pe_callB call_len_str (by rfl) T.b_len (by decide +kernel) (pa_cons (pv 5) pa_nil)) (pv 3) (nomark _)))))) pa_nil)))
      (pss_one (ps_ret (pv 4)))
      pss_nil))))
  (pss_one (ps_ret pe_str))), ?_⟩
    walk_at "rd"
    refine ⟨_, _, _, _, rfl, RgC.neg (by split <;> omega) (by split <;> omega) (by omega) (by omega), ?_⟩
    refine for_rangeC (n := _) (fun i σ H2 => ∃ (v3 v4 v5 : Option V), σ = [some (.ref p), some (.int (m : Nat)), some (.str (S t)), v3, v4, v5] ∧ Same H H2)
      ⟨_, _, _, rfl, Same.refl H⟩ ?_ ?_
    · rintro i σ H2 hi ⟨v3, v4, v5, rfl, s2⟩
      obtain ⟨d, hd, hd1, hd2, hd3⟩ : ∃ d : Nat, (if ((S t).length : Int) < (m : Int) - 1 then ((S t).length : Int) else (m : Int) - 1) + (i : Nat) * (-1) = (d : Int) ∧ 1 ≤ d ∧ d ≤ t.length ∧ d < m := by
        refine ⟨((if ((S t).length : Int) < (m : Int) - 1 then ((S t).length : Int) else (m : Int) - 1) + (i : Nat) * (-1)).toNat, ?_, ?_, ?_, ?_⟩ <;> split at hi <;> split <;> omega
      rw [hd]
      walk_at "nx"
      refine ⟨_, rfl, _, rfl, _, rfl, sz_S (t := t) (by omega), _, rfl, _, _, rfl, rfl, _, rfl, _, rfl, sz_S (t := t) (by omega), ?_⟩
      rw [cut_from (by omega), hSl, show ((t.length : Int) - (d : Int)).toNat = t.length - d by omega]
      generalize hu : t.drop (t.length - d) = u
      have hul : u.length = d := by rw [← hu]; simp; omega
      walk_at "nx"
      refine if_KH (ls.any fun l => u.isPrefixOf l && decide (d < l.length)) (fun H' => Same H2 H') (fun Q' hQ => ?_) (fun hb H3 s3 => ?_) (fun hb H3 s3 => ?_)
      · walk_at "nx"
        refine ⟨_, rfl, p, rfl, ⟨_, SqL.of (s2 _ _ hp)⟩, fun D hD => lc_lstF (K := K) (a := p) (f := vS) (l := ls) (fun pre H3 => H3 D = some (.lst ((pre.map fun l => (u.isPrefixOf l && decide (d < l.length))).map V.bl)) ∧ Same H2 H3)
          ⟨upd_same, same_new hD⟩ (fun pre H3 ⟨_, s3⟩ => SqL.of (s3 _ _ (s2 _ _ hp))) ?_ ?_⟩
        · rintro pre l post H3 e ⟨h3, s3⟩
          refine ⟨rfl, ty_T ?_⟩
          have hll := h4 l (by rw [e]; simp)
          have hpl : pre.length ≤ 64 := by
            have := congrArg List.length e
            simp at this
            omega
          refine ev_J (fun v H' => v = .bl (u.isPrefixOf l && decide (d < l.length)) ∧ H' = H3) (fun Q'' hQ2 => ?_) ?_
          · refine ⟨_, rfl, ⟨_, rfl⟩, _, rfl, _, _, rfl, rfl, _, rfl, ?_⟩
            rw [startswith_S]
            cases hc : u.isPrefixOf l with
            | false => exact iteF (hQ2 _ _ ⟨by rw [hc]; rfl, rfl⟩)
            | true =>
              refine iteT ⟨_, rfl, _, rfl, sz_S (t := l) (by omega), _, rfl, _, _, rfl, rfl, ?_⟩
              refine hQ2 _ _ ⟨?_, rfl⟩
              rw [S_len, hc, Bool.true_and]
              exact congrArg V.bl (decide_eq_decide.mpr (by omega))
          · rintro v H' ⟨rfl, rfl⟩
            refine ⟨_, h3, by rw [List.length_map, List.length_map]; exact Nat.lt_of_le_of_lt (m := 64) hpl (by decide), ?_, same_mut s3 hD⟩
            rw [List.map_append, List.map_append]
            exact upd_same
        · rintro H3 ⟨h3, s3⟩
          refine ⟨D, _, rfl, SqL.of h3, _, rfl, ?_⟩
          refine q_of (hQ _ s3) ?_
          rw [List.any_map]
          rfl
      · obtain ⟨l, hl1, hl2⟩ := List.any_eq_true.mp hb
        rw [Bool.and_eq_true] at hl2
        have hpre := List.prefix_iff_eq_take.mp (List.isPrefixOf_iff_prefix.mp hl2.1)
        walk_at "rd"
        exact kk u H3 (.inr ⟨l, hl1, d, of_decide_eq_true hl2.2, by rw [← hul]; exact hpre⟩) (s2.trans s3)
      · walk_at "nx"
        exact ⟨_, _, _, rfl, s2.trans s3⟩
    · rintro σ H2 ⟨v3, v4, v5, rfl, s2⟩
      walk_at "rd"
      exact kk [] H2 (.inl rfl) s2
end
end Sh
set_option Elab.async false
set_option linter.all false
set_option maxRecDepth 100000
set_option maxHeartbeats 4000000
namespace Sh
open PySem PySem.Spec PyProof.Rows L2
open SX (S S_inj S_len S_cat)
open Bk (Rule firstAt lg bestUp used left drain pushS Wf)
local macro_rules | `(tactic| walk_at "nx") => `(tactic| repeat (with_reducible first | refine Sh.gn_mk ?_ | refine Sh.nx_mk ?_ | refine Sh.st_nx ?_ | refine Sh.rt_mk ?_ | refine Sh.ct_mk ?_ | refine Sh.bk_mk ?_))
local macro_rules | `(tactic| walk_at "sq") => `(tactic| first | exact SqL.of upd_same | exact SqT.of upd_same | exact SqL.of (by assumption) | exact SqT.of (by assumption) | assumption | exact Or.inl (SqL.of (by assumption)) | exact Or.inr (SqT.of (by assumption)) | exact Or.inl (by assumption) | exact Or.inr (by assumption))
local macro_rules | `(tactic| walk_at "hp") => `(tactic| first | exact upd_same | assumption)
local macro_rules | `(tactic| walk_at "sz") => `(tactic| first | exact Nat.le_of_ble_eq_true rfl | omega)
local macro_rules | `(tactic| walk_at "sd") => `(tactic| first | omega | exact rfl | assumption | (show (0 : Int) < _; omega) | exact And.intro (by omega) (by omega) | exact Or.inl (And.intro (by omega) (by omega)) | exact Or.inr (And.intro (by omega) (by omega)) | omega | exact Sh.sz_S (by omega) | decide)
local macro_rules | `(tactic| walk_at "rd1") => `(tactic| first
  | (with_reducible first | refine Sh.gn_mk ?_ | refine Sh.nx_mk ?_ | refine Sh.st_nx ?_ | refine Sh.rt_mk ?_ | refine Sh.ct_mk ?_ | refine Sh.bk_mk ?_)
  | refine Exists.intro (α := V) _ (And.intro rfl ?_)
  | refine Exists.intro (α := Bool) _ (And.intro rfl ?_)
  | refine Exists.intro (α := Int) _ (And.intro rfl ?_)
  | refine Exists.intro (α := PySem.Str) _ (And.intro rfl ?_)
  | refine Exists.intro (α := Int) _ (Exists.intro (α := Int) _ (And.intro rfl (And.intro rfl ?_)))
  | refine Exists.intro (α := PySem.Str) _ (Exists.intro (α := PySem.Str) _ (And.intro rfl (And.intro rfl ?_)))
  | refine Exists.intro (α := Int) _ (Exists.intro (α := Int) _ (And.intro rfl ?_))
  | refine Or.inl (Exists.intro (α := Int) _ (And.intro rfl ?_))
  | refine Exists.intro _ (Exists.intro _ (Exists.intro _ (Exists.intro _ (And.intro rfl (And.intro rfl (And.intro (by walk_at "sq") (And.intro rfl ?_)))))))
  | refine Exists.intro _ (Exists.intro _ (Exists.intro _ (Exists.intro _ (And.intro rfl (And.intro rfl (And.intro (by walk_at "hp") (And.intro rfl ?_)))))))
  | refine And.intro (by walk_at "sd") ?_
  )
local macro_rules | `(tactic| walk_at "rd") => `(tactic| repeat walk_at "rd1")
local macro_rules | `(tactic| walk_at "lk") => `(tactic| first | exact rfl | (rw [lookup_putF, if_pos rfl]) | (rw [lookup_putF, if_neg (by decide +kernel)]; walk_at "lk"))

section
variable {P : Program} {w : World} {K : PySem.W.Frag} {mg : Str → Option Value} {base : Heap}
/-- the names numbered so far -/
structure NumV (ls ns : List (List Nat)) (kvs : List (Key × V)) : Prop where
  nod : ns.Nodup
  beg : ∀ u ∈ ns, Beg ls u
  len : kvs.length ≤ ns.length
  new : ∀ u, u ∉ ns → valV kvs (Sum.inr (S u)) = none
  val : ∀ u ∈ ns, ∃ i : Int, valV kvs (Sum.inr (S u)) = some (.int i)
theorem beg_len {ls ns : List (List Nat)} (h : ns.Nodup) (b : ∀ u ∈ ns, Beg ls u) (h4 : ∀ l ∈ ls, l.length ≤ 4) : ns.length ≤ 1 + ls.length * 4 := by
  have e : ∀ ls : List (List Nat), (∀ l ∈ ls, l.length ≤ 4) → (ls.flatMap fun l => (List.range l.length).map l.take).length ≤ ls.length * 4 := by
    intro ls
    induction ls with
    | nil => intro _; simp
    | cons l ls ih =>
      intro h
      rw [List.flatMap_cons, List.length_append, List.length_map, List.length_range, List.length_cons]
      have := ih fun x m => h x (List.mem_cons_of_mem _ m)
      have := h l List.mem_cons_self
      omega
  have s : ns ⊆ [] :: (ls.flatMap fun l => (List.range l.length).map l.take) := by
    intro u hu
    rcases b u hu with rfl | ⟨l, hl, n, hn, rfl⟩
    · exact List.mem_cons_self
    · exact List.mem_cons_of_mem _ (List.mem_flatMap.mpr ⟨l, hl, List.mem_map.mpr ⟨n, List.mem_range.mpr hn, rfl⟩⟩)
  have := List.Nodup.length_le_of_subset h s
  have := e ls h4
  simp only [List.length_cons] at *
  omega
theorem Beg.len {ls : List (List Nat)} (h4 : ∀ l ∈ ls, l.length ≤ 4) {u : List Nat} (h : Beg ls u) : u.length ≤ 4 := by
  rcases h with rfl | ⟨l, hl, n, hn, rfl⟩
  · simp
  · have := h4 l hl
    simp
    omega
theorem NumV.more {ls ns : List (List Nat)} {kvs : List (Key × V)} (h : NumV ls ns kvs) {u : List Nat} (b : Beg ls u) (n : u ∉ ns) (i : Int) : NumV ls (ns ++ [u]) (putK kvs (Sum.inr (S u)) (.int i)) := by
  refine ⟨?_, ?_, ?_, ?_, ?_⟩
  · rw [List.nodup_append]
    refine ⟨h.nod, by simp, fun a ha b hb => ?_⟩
    have : b = u := by simpa using hb
    subst this
    intro e
    exact n (e ▸ ha)
  · intro v hv
    rcases List.mem_append.mp hv with q | q
    · exact h.beg v q
    · have : v = u := by simpa using q
      exact this ▸ b
  · rw [putK_new _ (h.new u n)]
    have := h.len
    simp
    omega
  · intro v hv
    have h1 : v ∉ ns := fun z => hv (List.mem_append_left _ z)
    have h2 : v ≠ u := fun z => hv (by rw [z]; simp)
    rw [valV_put, if_neg (fun e => h2 (S_inj (Sum.inr.inj e)))]
    exact h.new v h1
  · intro v hv
    rw [valV_put]
    by_cases e : v = u
    · rw [if_pos (by rw [e])]
      exact ⟨i, rfl⟩
    · rw [if_neg (fun z => e (S_inj (Sum.inr.inj z)))]
      rcases List.mem_append.mp hv with q | q
      · exact h.val v q
      · exact absurd (by simpa using q) e
theorem NumV.start (ls : List (List Nat)) : NumV ls [[]] (mergeK [] [((Sum.inr (S []) : Key), .int 0)]) := by
  have e : NumV ls [] [] := ⟨List.nodup_nil, fun u h => (by cases h), Nat.le_refl _, fun u h => rfl, fun u h => (by cases h)⟩
  exact e.more (.inl rfl) (by simp) 0
theorem lg_le4 {R : List Rule} {m : Nat} (h : ∀ r ∈ R, r.1.length ≤ m) : lg R ≤ m := by
  unfold lg
  rcases Bk.foldl_max_mem (l := R.map (·.1.length)) (a := 0) with q | q
  · rw [q]; omega
  · obtain ⟨r, hr, e⟩ := List.mem_map.mp q
    rw [← e]
    exact h r hr
theorem putK_leS (c : List (Key × V)) (k : Key) (x : V) : (putK c k x).length ≤ c.length + 1 := by
  unfold putK
  split <;> simp
structure MInv (H : Hp) (pD pN pM pV : Addr) (ls ns : List (List Nat)) (kvs : List (Key × V)) (ms : List V) : Prop where
  d : H pD = some (.lst (ls.map vS))
  n : H pN = some (.lst (ns.map vS))
  m : H pM = some (.dK kvs)
  v : H pV = some (.lst ms)
theorem MInv.same {H H' : Hp} {pD pN pM pV : Addr} {ls ns : List (List Nat)} {kvs : List (Key × V)} {ms : List V} (h : MInv H pD pN pM pV ls ns kvs ms) (s : Same H H') : MInv H' pD pN pM pV ls ns kvs ms :=
  ⟨s _ _ h.d, s _ _ h.n, s _ _ h.m, s _ _ h.v⟩
def spMoves (K : PySem.W.Frag) : Sp := fun vs H Q _ => ∃ (a : Addr) (xs : List V) (R : List Rule) (sg : List Nat), vs = [.str (S sg), .ref a] ∧ RulesAt K H a xs R ∧ R.length ≤ 64 ∧ (∀ r ∈ R, r.1.length ≤ 4) ∧ sg.length ≤ 26 ∧
  ∀ (p : Addr) (H' : Hp), Same H H' → Q (.ref p) H'
theorem c_end_moves (T : Txt K mg) : Cal P w K mg base CX0 2 "end_moves" (spMoves K) := by
  have c_longest_left := c_longest_left (P := P) (w := w) (base := base) T
  have c_kept_tail := c_kept_tail (P := P) (w := w) (base := base) T
  refine Cal.mk0 T.d_end_moves sc_end_moves (fun vs H Q E h => ?_) (fun f cdv A outer s H vs Q E hr h => ?_)
  · obtain ⟨a, xs, R, sg, rfl, _⟩ := h
    rfl
  · obtain ⟨a, xs, R, sg, rfl, hR, hl, h4, hsg, kk⟩ := h
    have hu := hu_of hr
    have hSl := S_len sg
    refine ⟨_, (pss_cons (ps_setLc (i := 2) (own := [("rule", 11)]) (g := gName 11) (tt := tYes) (by rfl) sc_end_moves.nd rfl rfl (sw_true rfl rfl rfl (by decide +kernel)) (pi_tup (pv 1)) (blkOk_by (N := ["signs", "rules", "lefts", "names", "numbers", "moves", "longest", "row", "sign", "text", "tail", "rule", "left"]) (sc := defScope s_end_moves) (by decide +kernel)) (fun _ _ _ _ _ => (pg_name (i := 11) sc_end_moves.nd rfl (Or.inl rfl))) (fun _ _ _ _ _ => pts_nil) (fun _ _ _ _ _ => (pe_ix ix_tupB (pv 11) pe_int (fun _ _ => rfl))))
  (pss_cons (ps_set (i := 3) sc_end_moves.nd rfl (Or.inl rfl) (pe_lst (pa_cons pe_str pa_nil)))
  (pss_cons (ps_set (i := 4) sc_end_moves.nd rfl (Or.inl rfl) (pe_disp (pps_cons pe_str pe_int pps_nil) (by rfl) (by rfl) (fun z => by cases z) (by decide)))
  (pss_cons (ps_set (i := 5) sc_end_moves.nd rfl (Or.inl rfl) (pe_lst pa_nil))
  (pss_cons (ps_set (i := 6) sc_end_moves.nd rfl (Or.inl rfl) (pe_c c_longest_left hr (by decide) rfl (pa_cons (pv 1) pa_nil)))
  (pss_cons (ps_while PassesOwn.never (pt_cmpR op_lt (pe_callB call_len_seq (by rfl) T.b_len (by decide +kernel) (pa_cons (pv 5) pa_nil)) (pe_callB call_len_seq (by rfl) T.b_len (by decide +kernel) (pa_cons (pv 3) pa_nil)) (nomark _))
    (pss_cons (ps_set (i := 7) sc_end_moves.nd rfl (Or.inl rfl) pe_dnewK)
    (pss_cons (ps_for PassesOwn.never rfl (pi_str (pv 0)) (pg_name (i := 8) sc_end_moves.nd rfl (Or.inl rfl))
      (pss_cons (ps_set (i := 9) sc_end_moves.nd rfl (Or.inr rfl) (pe_op op_add_str (pe_ix ix_list (pv 3) (pe_callB call_len_seq (by rfl) T.b_len (by decide +kernel) (pa_cons (pv 5) pa_nil)) (fun _ _ => rfl)) (pv 8)))
      (pss_one (ps_if (pt_not (pt_val (pe_callB (cr_any rfl) (by rfl) T.b_any (by decide +kernel) (pa_cons (pe_lc (own := [("left", 12)]) (g := gName 12) (tt := tYes) rfl sc_end_moves.nd (pi_list (pv 2)) (blkOk_by (N := ["signs", "rules", "lefts", "names", "numbers", "moves", "longest", "row", "sign", "text", "tail", "rule", "left"]) (sc := defScope s_end_moves) (by decide +kernel)) (fun _ _ _ _ _ => (pg_name (i := 12) sc_end_moves.nd rfl (Or.inl rfl))) (fun _ _ _ _ _ => pts_nil) (fun _ _ _ _ _ => (pe_m1 PySem.F.slot_str_endswith PySem.F.type_str_endswith mt_endswith (pv 9) (pv 12)))) pa_nil))))
        (pss_cons (ps_set (i := 10) sc_end_moves.nd rfl (Or.inl rfl) (pe_c c_kept_tail hr (by decide) rfl (pa_cons (pv 2) (pa_cons (pv 6) (pa_cons (pv 9) pa_nil)))))
        (pss_cons (ps_if (pt_cmp (pc_dnotin hu (pv 10) (pv 4)))
          (pss_cons (ps_dput hu (pv 4) (pv 10) (pe_callB call_len_seq (by rfl) T.b_len (by decide +kernel) (pa_cons (pv 3) pa_nil)) rfl)
          (pss_one (ps_expr (pe_bm PySem.F.plainAttrs_list PySem.F.slot_list_append PySem.F.type_list_append mt_append (pv 3) (pa_cons (pv 10) pa_nil)))))
          pss_nil)
        (pss_one (ps_dput hu (pv 7) (pv 8) (pe_dget hu (pv 4) (pv 10) (fun _ _ => rfl)) rfl))))
        pss_nil))))
    (pss_one (ps_expr (pe_bm PySem.F.plainAttrs_list PySem.F.slot_list_append PySem.F.type_list_append mt_append (pv 5) (pa_cons (pv 7) pa_nil)))))))
  (pss_one (ps_ret (pv 5))))))))), ?_⟩
    walk_at "rd"
    have h4' : ∀ l ∈ R.map (·.1), l.length ≤ 4 := by
      intro l hl
      obtain ⟨r, hr, rfl⟩ := List.mem_map.mp hl
      exact h4 r hr
    refine ⟨a, rfl, ⟨_, hR.sq⟩, fun pD hpD => lc_tupR (K := K) (a := a) (xs := xs) (l := R) (Rel := fun H v r => ∃ q, v = .ref q ∧ SqT K H q (rTup r)) hR.len
      (fun pre H3 => H3 pD = some (.lst ((pre.map (·.1)).map vS)) ∧ Same H H3) ⟨upd_same, same_new hpD⟩ (fun pre H3 ⟨_, s3⟩ => ⟨(hR.same s3).sq, (hR.same s3).it⟩) ?_ ?_⟩
    · rintro pre r post x H3 e hx ⟨q, rfl, sq⟩ ⟨h3, s3⟩
      refine ⟨rfl, ty_T ?_⟩
      have hpl : pre.length ≤ 64 := by
        have := congrArg List.length e
        simp at this
        omega
      refine ⟨_, rfl, q, _, 0, .str (S r.1), rfl, rfl, sq, rfl, _, h3, by rw [List.length_map, List.length_map]; exact Nat.lt_of_le_of_lt (m := 64) hpl (by decide), ?_, same_mut s3 hpD⟩
      rw [List.map_append, List.map_append]
      exact upd_same
    · rintro H1 ⟨hD1, s1⟩
      walk_at "nx"
      refine ⟨by walk_at "sz", fun pN hpN => ?_⟩
      have hDN : pD ≠ pN := ne_of_none hD1 hpN
      have s2 := same_new (o := .lst [.str (Str.ofString "")]) hpN
      walk_at "nx"
      intro pM hpM
      have s3 := s2.trans (same_new (o := .dK []) hpM)
      refine ⟨upd_same, [((Sum.inr (S []) : Key), .int 0)], rfl, by decide, ?_⟩
      generalize hN2 : upd H1 pN (.lst [.str (Str.ofString "")]) = HN at hpM s2 s3 ⊢
      have hn2 : HN pN = some (.lst ([[]].map vS)) := by rw [← hN2]; exact upd_same
      have s4 : Same HN (upd (upd HN pM (.dK [])) pM (.dK (mergeK [] [((Sum.inr (S []) : Key), .int 0)]))) := same_mut (same_new hpM) hpM
      generalize hM2 : upd (upd HN pM (.dK [])) pM (.dK (mergeK [] [((Sum.inr (S []) : Key), .int 0)])) = HM at s4 ⊢
      have hm2 : HM pM = some (.dK (mergeK [] [((Sum.inr (S []) : Key), .int 0)])) := by rw [← hM2]; exact upd_same
      walk_at "nx"
      refine ⟨by walk_at "sz", fun pV hpV => ?_⟩
      have hn3 := s4 _ _ hn2
      have hd3 := s4 _ _ (s2 _ _ hD1)
      have hNV : pN ≠ pV := ne_of_none hn3 hpV
      have hDV : pD ≠ pV := ne_of_none hd3 hpV
      have s5 := same_new (o := .lst []) hpV
      have s05 : Same H (upd HM pV (.lst [])) := ((s1.trans s2).trans s4).trans s5
      have M0 : MInv (upd HM pV (.lst [])) pD pN pM pV (R.map (·.1)) [[]] (mergeK [] [((Sum.inr (S []) : Key), .int 0)]) [] :=
        ⟨s5 _ _ hd3, s5 _ _ hn3, s5 _ _ hm2, upd_same⟩
      have hpN0 : H pN = none := by
        cases e : H pN with
        | none => rfl
        | some o => rw [s1 _ _ e] at hpN; cases hpN
      have hpM0 : H pM = none := by
        cases e : H pM with
        | none => rfl
        | some o => rw [s2 _ _ (s1 _ _ e)] at hpM; cases hpM
      have hpV0 : H pV = none := by
        cases e : H pV with
        | none => rfl
        | some o => rw [s4 _ _ (s2 _ _ (s1 _ _ e))] at hpV; cases hpV
      generalize upd HM pV (.lst []) = H5 at s05 M0 ⊢
      walk_at "nx"
      refine ⟨_, rfl, a, xs, R, rfl, hR.same s05, hl, fun r hr => Nat.le_trans (h4 r hr) (by decide), fun H6 s6 => ?_⟩
      have hlg := lg_le4 h4
      walk_at "nx"
      refine ⟨fun m σ Hn => ∃ (ns : List (List Nat)) (kvs : List (Key × V)) (ms : List V) (v7 v8 v9 v10 v11 v12 : Option V), σ = [some (.str (S sg)), some (.ref a), some (.ref pD), some (.ref pN), some (.ref pM), some (.ref pV), some (.int (lg R : Nat)), v7, v8, v9, v10, v11, v12] ∧
        Same H Hn ∧ MInv Hn pD pN pM pV (R.map (·.1)) ns kvs ms ∧ NumV (R.map (·.1)) ns kvs ∧ 300 - ms.length ≤ m,
        ⟨300, [[]], _, [], _, _, _, _, _, _, rfl, s05.trans s6, M0.same s6, NumV.start _, by simp⟩, ?_⟩
      rintro m σ H7 ⟨ns, kvs, ms, v7, v8, v9, v10, v11, v12, rfl, s7, M, N, hm⟩
      have hns : ns.length ≤ 257 := by
        have := beg_len N.nod N.beg h4'
        rw [List.length_map] at this
        omega
      walk_at "rd"
      refine ⟨pV, ms, rfl, .inl (SqL.of M.v), _, rfl, pN, _, rfl, .inl (SqL.of M.n), _, _, rfl, rfl, ?_⟩
      rw [List.length_map]
      refine ⟨_, rfl, ?_⟩
      by_cases hc : ms.length < ns.length
      · rw [decide_eq_true (show ((ms.length : Nat) : Int) < (ns.length : Nat) by omega)]
        refine iteT ⟨_, fun _ _ h => h, ?_⟩
        walk_at "nx"
        intro pW hpW
        have hVW : pV ≠ pW := ne_of_none M.v hpW
        have hNW : pN ≠ pW := ne_of_none M.n hpW
        have hDW : pD ≠ pW := ne_of_none M.d hpW
        have hMW : pM ≠ pW := ne_of_none M.m hpW
        have s8 := same_new (o := .dK []) hpW
        have hpW0 : H pW = none := by
          cases e : H pW with
          | none => rfl
          | some o => rw [s7 _ _ e] at hpW; cases hpW
        have M8 := M.same s8
        have s78 := s7.trans s8
        have hW8 : (upd H7 pW (.dK [])) pW = some (.dK []) := upd_same
        generalize upd H7 pW (.dK []) = H8 at s78 M8 hW8 ⊢
        walk_at "rd"
        refine for_str (l := sg) (fun pre σ Hn => ∃ (ns : List (List Nat)) (kvs kw : List (Key × V)) (v8 v9 v10 v11 v12 : Option V), σ = [some (.str (S sg)), some (.ref a), some (.ref pD), some (.ref pN), some (.ref pM), some (.ref pV), some (.int (lg R : Nat)), some (.ref pW), v8, v9, v10, v11, v12] ∧
          Same H Hn ∧ MInv Hn pD pN pM pV (R.map (·.1)) ns kvs ms ∧ NumV (R.map (·.1)) ns kvs ∧ ms.length < ns.length ∧ Hn pW = some (.dK kw) ∧ kw.length ≤ pre.length)
          ⟨ns, kvs, [], _, _, _, _, _, rfl, s78, M8, N, hc, hW8, Nat.le_refl _⟩ ?_ ?_
        · rintro pre c post σ H9 e ⟨ns, kvs, kw, v8, v9, v10, v11, v12, rfl, s9, M, N, hc, hW, hkw⟩
          have hpl : pre.length + 1 ≤ sg.length := by
            have := congrArg List.length e
            simp at this
            omega
          have hns : ns.length ≤ 257 := by
            have := beg_len N.nod N.beg h4'
            rw [List.length_map] at this
            omega
          have hg : ns[ms.length]? = some ns[ms.length] := by simp [hc]
          generalize ns[ms.length] = nm at hg
          have hnm := (N.beg nm (List.mem_of_getElem? hg)).len h4'
          have hgv : (ns.map vS)[ms.length]? = some (vS nm) := by rw [List.getElem?_map, hg]; rfl
          walk_at "nx"
          refine ⟨_, rfl, _, rfl, pV, ms, rfl, .inl (SqL.of M.v), pN, _, _, vS nm, rfl, rfl, SqL.of M.n, atI_nat hgv, ?_⟩
          refine ⟨_, rfl, _, _, rfl, rfl, by rw [S_len, S_len]; exact Nat.le_trans (m := 5) (by simp; omega) (by decide), ?_⟩
          rw [S_cat]
          walk_at "nx"
          generalize hu : nm ++ [c] = tx
          have htl : tx.length ≤ 5 := by rw [← hu]; simp; omega
          refine if_KH (!((R.map (·.1)).any fun l => l.isSuffixOf tx)) (fun H' => Same H9 H') (fun Q' hQ => ?_) (fun hb H10 s10 => ?_) (fun hb H10 s10 => ?_)
          · walk_at "nx"
            refine ⟨_, rfl, pD, rfl, ⟨_, SqL.of M.d⟩, fun D hD => lc_lstF (K := K) (a := pD) (f := vS) (l := R.map (·.1)) (fun pre H3 => H3 D = some (.lst ((pre.map fun l => l.isSuffixOf tx).map V.bl)) ∧ Same H9 H3)
              ⟨upd_same, same_new hD⟩ (fun pre H3 ⟨_, s3⟩ => SqL.of (s3 _ _ M.d)) ?_ ?_⟩
            · rintro pre l post H3 e ⟨h3, s3⟩
              refine ⟨rfl, ty_T ?_⟩
              have hpl : pre.length ≤ 64 := by
                have := congrArg List.length e
                simp at this
                omega
              refine ⟨_, rfl, ⟨_, rfl⟩, _, rfl, _, _, rfl, rfl, ?_⟩
              rw [endswith_S]
              refine ⟨_, h3, by rw [List.length_map, List.length_map]; exact Nat.lt_of_le_of_lt (m := 64) hpl (by decide), ?_, same_mut s3 hD⟩
              rw [List.map_append, List.map_append]
              exact upd_same
            · rintro H3 ⟨h3, s3⟩
              refine ⟨D, _, rfl, SqL.of h3, _, rfl, ?_⟩
              refine q_of (hQ _ s3) ?_
              rw [List.any_map]
              rfl
          · walk_at "nx"
            have M10 := M.same s10
            refine ⟨_, rfl, _, rfl, _, rfl, pD, R.map (·.1), lg R, tx, rfl, M10.d, by simpa using hl, h4', hlg, by omega, fun u H11 hu11 s11 => ?_⟩
            have M11 := M10.same s11
            have s11' := s10.trans s11
            walk_at "nx"
            refine st_ifJ (fun σ Hn => ∃ (ns : List (List Nat)) (kvs : List (Key × V)) (v12 : Option V), σ = [some (.str (S sg)), some (.ref a), some (.ref pD), some (.ref pN), some (.ref pM), some (.ref pV), some (.int (lg R : Nat)), some (.ref pW), some (.str (S [c])), some (.str (S tx)), some (.str (S u)), v11, v12] ∧
              Same H Hn ∧ MInv Hn pD pN pM pV (R.map (·.1)) ns kvs ms ∧ NumV (R.map (·.1)) ns kvs ∧ ms.length < ns.length ∧ Hn pW = some (.dK kw) ∧ u ∈ ns) (fun N' hN' => ?_) ?_
            · walk_at "rd"
              refine ⟨pM, _, rfl, DGet.k (k := Sum.inr (S u)) M11.m, _, rfl, ?_⟩
              by_cases hun : u ∈ ns
              · obtain ⟨i9, hi9⟩ := N.val u hun
                rw [hi9]
                refine iteF ?_
                walk_at "nx"
                exact hN' _ _ ⟨ns, kvs, _, rfl, s9.trans s11', M11, N, hc, s11' _ _ hW, hun⟩
              · rw [N.new u hun]
                refine iteT ?_
                have hkz : kvs.length < sizeLine := Nat.lt_of_lt_of_le (m := 258) (by have := N.len; omega) (by decide)
                refine ⟨_, rfl, pN, _, rfl, .inl (SqL.of M11.n), _, rfl, _, rfl, pM, _, rfl, DPut.k (k := Sum.inr (S u)) M11.m hkz, ?_⟩
                have hMN : pM ≠ pN := ne_of M11.m M11.n (by intro z; cases z)
                have hMD : pM ≠ pD := ne_of M11.m M11.d (by intro z; cases z)
                have hMV : pM ≠ pV := ne_of M11.m M11.v (by intro z; cases z)
                walk_at "nx"
                have hn12 : ∀ o, (upd H11 pM o) pN = some (.lst (ns.map vS)) := fun o => by rw [upd_ne hMN.symm]; exact M11.n
                refine ⟨_, rfl, .inl ⟨rfl, _, SqL.of (hn12 _)⟩, _, rfl, pN, _, _, rfl, rfl, hn12 _, by rw [List.length_map]; exact Nat.lt_of_lt_of_le (m := 258) (by omega) (by decide), ?_⟩
                refine hN' _ _ ⟨ns ++ [u], _, _, rfl, same_mut (same_mut (s9.trans s11') hpM0) hpN0, ⟨?_, ?_, ?_, ?_⟩, N.more hu11 hun (((ns.map vS).length : Nat) : Int), by simp; omega, ?_, by simp⟩
                · rw [upd_ne hDN, upd_ne hMD.symm]; exact M11.d
                · rw [List.map_append]; exact upd_same
                · rw [upd_ne hMN]; exact upd_same
                · rw [upd_ne hNV.symm, upd_ne hMV.symm]; exact M11.v
                · rw [upd_ne hNW.symm, upd_ne hMW.symm]; exact s11' _ _ hW
            · rintro σ H12 ⟨ns, kvs, v12, rfl, s12, M, N, hc, hW, hun⟩
              walk_at "rd"
              obtain ⟨i9, hi9⟩ := N.val u hun
              refine ⟨pM, _, rfl, by rw [← hi9]; exact DGet.k (k := Sum.inr (S u)) M.m, _, rfl, _, rfl, pW, _, rfl, DPut.k (k := Sum.inr (S [c])) hW (Nat.lt_of_lt_of_le (m := 100) (by omega) (by decide)), ?_⟩
              refine ⟨ns, kvs, _, _, _, _, _, _, rfl, same_mut s12 hpW0, ⟨?_, ?_, ?_, ?_⟩, N, hc, upd_same, ?_⟩
              · rw [upd_ne hDW]; exact M.d
              · rw [upd_ne hNW]; exact M.n
              · rw [upd_ne hMW]; exact M.m
              · rw [upd_ne hVW]; exact M.v
              · have := putK_leS kw (Sum.inr (S [c])) (V.int i9)
                simp
                omega
          · walk_at "nx"
            exact ⟨ns, kvs, kw, _, _, _, _, _, rfl, s9.trans s10, M.same s10, N, hc, s10 _ _ hW, by simp; omega⟩
        · rintro σ H9 ⟨ns, kvs, kw, v8, v9, v10, v11, v12, rfl, s9, M, N, hc, hW, hkw⟩
          have hns : ns.length ≤ 257 := by
            have := beg_len N.nod N.beg h4'
            rw [List.length_map] at this
            omega
          walk_at "nx"
          refine ⟨_, rfl, .inl ⟨rfl, _, SqL.of M.v⟩, _, rfl, pV, ms, _, rfl, rfl, M.v, Nat.lt_of_lt_of_le (m := 257) (by omega) (by decide), ?_⟩
          refine ⟨m - 1, ?_, ns, kvs, ms ++ [.ref pW], _, _, _, _, _, _, rfl, same_mut s9 hpV0, ⟨?_, ?_, ?_, upd_same⟩, N, by simp; omega⟩
          · omega
          · rw [upd_ne hDV]; exact M.d
          · rw [upd_ne hNV]; exact M.n
          · rw [upd_ne (ne_of M.m M.v (by intro z; cases z))]; exact M.m
      · rw [decide_eq_false (show ¬ ((ms.length : Nat) : Int) < (ns.length : Nat) by omega)]
        refine iteF ?_
        walk_at "rd"
        exact kk pV H7 s7
end
end Sh
set_option Elab.async false
set_option linter.all false
set_option maxRecDepth 100000
set_option maxHeartbeats 4000000
namespace Sh
open PySem PySem.Spec PyProof.Rows L2
open SX (S S_inj S_len S_cat)
open Bk (Rule firstAt lg bestUp used left drain pushS Wf)
theorem hu65_of {k : Nat} {A : Around} (hr : Room k A) : A.units + 65 < cLine := by
  have := hr.un
  omega
/-- a rule as data -/
def rD (r : Rule) : PyData := .tuple [.str (S r.1), .str (S r.2)]
theorem rD_eqv (a b : Rule) : PyData.eqv (rD a) (rD b) = decide (a = b) := by
  show (S a.1 == S b.1 && (S a.2 == S b.2 && true)) = _
  rw [Bool.and_true, Bool.eq_iff_iff]
  simp only [Bool.and_eq_true, beq_iff_eq, decide_eq_true_eq]
  constructor
  · rintro ⟨h, k⟩
    exact Prod.ext (S_inj h) (S_inj k)
  · rintro rfl
    exact ⟨rfl, rfl⟩
def Chars (t : List Nat) : Prop := ∀ c ∈ t, c < 1114112
theorem strOk_S {t : List Nat} (h : Chars t) : PyData.strOk (S t) = true := by
  unfold PyData.strOk
  show (Array.all _ _) = true
  rw [← Array.all_toList, List.all_eq_true]
  intro c hc
  exact decide_eq_true (h c hc)
def RChars (R : List Rule) : Prop := ∀ r ∈ R, Chars r.1 ∧ Chars r.2
theorem shaped_rule {r : Rule} (h : Chars r.1 ∧ Chars r.2) : SeqAt.shaped (rD r) = true := by
  unfold SeqAt.shaped
  rw [Bool.and_eq_true]
  refine ⟨?_, decide_eq_true (show (1 : Nat) ≤ 64 by decide)⟩
  show (PyData.strOk (S r.1) && (PyData.strOk (S r.2) && true)) = true
  rw [strOk_S h.1, strOk_S h.2]; rfl
theorem lay_rules : ∀ {R : List Rule}, RChars R → PyData.canLayAll0 (R.map rD) = true ∧ PyData.depthAll (R.map rD) ≤ 1
  | [], _ => ⟨rfl, Nat.zero_le _⟩
  | r :: R, h => by
    obtain ⟨h1, h2⟩ := lay_rules (R := R) fun x m => h x (List.mem_cons_of_mem _ m)
    have h3 := h r List.mem_cons_self
    refine ⟨?_, ?_⟩
    · show ((PyData.strOk (S r.1) && (PyData.strOk (S r.2) && true)) && PyData.canLayAll0 (R.map rD)) = true
      rw [strOk_S h3.1, strOk_S h3.2, h1]; rfl
    · show max 1 (PyData.depthAll (R.map rD)) ≤ 1
      omega
theorem shaped_rules {R : List Rule} (h : RChars R) : SeqAt.shaped (.list (R.map rD)) = true := by
  obtain ⟨h1, h2⟩ := lay_rules h
  unfold SeqAt.shaped
  rw [Bool.and_eq_true]
  refine ⟨h1, decide_eq_true ?_⟩
  show PyData.depthAll (R.map rD) + 1 ≤ 64
  omega
theorem letters_lt : ∀ c ∈ letters, c < 1114112 := by decide +kernel
theorem signs_chars {sg : List Nat} (h : isSigns sg = true) : Chars sg := by
  intro c hc
  obtain ⟨i, hi, rfl⟩ := List.mem_iff_getElem.mp hc
  simp only [isSigns, Bool.and_eq_true, List.all_eq_true, List.mem_range] at h
  have := h.2 i hi
  simp only [okAt, Bool.and_eq_true, decide_eq_true_eq] at this
  have e : sg.getD i 0 = sg[i] := by
    rw [List.getD_eq_getElem?_getD, List.getElem?_eq_getElem hi]; rfl
  rw [e] at this
  exact letters_lt _ this.1
local macro_rules | `(tactic| walk_at "nx") => `(tactic| repeat (with_reducible first | refine Sh.gn_mk ?_ | refine Sh.nx_mk ?_ | refine Sh.st_nx ?_ | refine Sh.rt_mk ?_ | refine Sh.ct_mk ?_ | refine Sh.bk_mk ?_))
local macro_rules | `(tactic| walk_at "sq") => `(tactic| first | exact SqL.of upd_same | exact SqT.of upd_same | exact SqL.of (by assumption) | exact SqT.of (by assumption) | assumption | exact Or.inl (SqL.of (by assumption)) | exact Or.inr (SqT.of (by assumption)) | exact Or.inl (by assumption) | exact Or.inr (by assumption))
local macro_rules | `(tactic| walk_at "hp") => `(tactic| first | exact upd_same | assumption)
local macro_rules | `(tactic| walk_at "sz") => `(tactic| first | exact Nat.le_of_ble_eq_true rfl | omega)
local macro_rules | `(tactic| walk_at "sd") => `(tactic| first | omega | exact rfl | assumption | (show (0 : Int) < _; omega) | exact And.intro (by omega) (by omega) | exact Or.inl (And.intro (by omega) (by omega)) | exact Or.inr (And.intro (by omega) (by omega)) | omega | exact Sh.sz_S (by omega) | decide)
local macro_rules | `(tactic| walk_at "rd1") => `(tactic| first
  | (with_reducible first | refine Sh.gn_mk ?_ | refine Sh.nx_mk ?_ | refine Sh.st_nx ?_ | refine Sh.rt_mk ?_ | refine Sh.ct_mk ?_ | refine Sh.bk_mk ?_)
  | refine Exists.intro (α := V) _ (And.intro rfl ?_)
  | refine Exists.intro (α := Bool) _ (And.intro rfl ?_)
  | refine Exists.intro (α := Int) _ (And.intro rfl ?_)
  | refine Exists.intro (α := PySem.Str) _ (And.intro rfl ?_)
  | refine Exists.intro (α := Int) _ (Exists.intro (α := Int) _ (And.intro rfl (And.intro rfl ?_)))
  | refine Exists.intro (α := PySem.Str) _ (Exists.intro (α := PySem.Str) _ (And.intro rfl (And.intro rfl ?_)))
  | refine Exists.intro (α := Int) _ (Exists.intro (α := Int) _ (And.intro rfl ?_))
  | refine Or.inl (Exists.intro (α := Int) _ (And.intro rfl ?_))
  | refine Exists.intro _ (Exists.intro _ (Exists.intro _ (Exists.intro _ (And.intro rfl (And.intro rfl (And.intro (by walk_at "sq") (And.intro rfl ?_)))))))
  | refine Exists.intro _ (Exists.intro _ (Exists.intro _ (Exists.intro _ (And.intro rfl (And.intro rfl (And.intro (by walk_at "hp") (And.intro rfl ?_)))))))
  | refine And.intro (by walk_at "sd") ?_
  )
local macro_rules | `(tactic| walk_at "rd") => `(tactic| repeat walk_at "rd1")
local macro_rules | `(tactic| walk_at "lk") => `(tactic| first | exact rfl | (rw [lookup_putF, if_pos rfl]) | (rw [lookup_putF, if_neg (by decide +kernel)]; walk_at "lk"))

section
variable {P : Program} {w : World} {K : PySem.W.Frag} {mg : Str → Option Value} {base : Heap}
def RItem (K : PySem.W.Frag) (H : Hp) (v : V) (r : Rule) : Prop := ∃ q, v = .ref q ∧ SqT K H q (rTup r)
theorem RItem.same {H H' : Hp} {v : V} {r : Rule} (h : RItem K H v r) (k : Keep H H') : RItem K H' v r := let ⟨q, e, s⟩ := h; ⟨q, e, k.seq s⟩
theorem RItem.dp {H : Hp} {v : V} {r : Rule} (h : RItem K H v r) : Dp K H v (rD r) := by
  obtain ⟨q, rfl, s⟩ := h
  exact .tup s (.cons (.str _) (.cons (.str _) .nil))
theorem dpAll_rules {H : Hp} : ∀ {xs : List V} {R : List Rule}, Items (RItem K) H xs R → DpAll K H xs (R.map rD)
  | [], [], _ => .nil
  | [], _ :: _, h => by have := h.1; simp at this
  | _ :: _, [], h => by have := h.1; simp at this
  | x :: xs, r :: R, h => .cons (h.2 0 x r rfl rfl).dp (dpAll_rules (xs := xs) (R := R) ⟨by have := h.1; simpa using this, fun i x y h1 h2 => h.2 (i + 1) x y h1 h2⟩)
theorem RulesAt.items {H : Hp} {a : Addr} {xs : List V} {R : List Rule} (h : RulesAt K H a xs R) : Items (RItem K) H xs R := ⟨h.len, h.it⟩
theorem any_rules {R : List Rule} {r : Rule} : ((R.map rD).any fun z => PyData.eqv z (rD r)) = decide (r ∈ R) := by
  rw [List.any_map, Bool.eq_iff_iff]
  simp only [List.any_eq_true, Function.comp, rD_eqv, decide_eq_true_eq]
  constructor
  · rintro ⟨x, hx, rfl⟩; exact hx
  · intro h; exact ⟨r, h, rfl⟩
/-- the wall rules stand behind -/
def spIsRule (K : PySem.W.Frag) : Sp := fun vs H Q _ => ∃ (sg : List Nat) (q : Addr) (r : Rule), vs = [.str (S sg), .ref q] ∧ SqT K H q (rTup r) ∧ RuleOk sg 4 r ∧ Q (.bl true) H
theorem c_is_rule (T : Txt K mg) : Cal P w K mg base CX0 2 "is_rule" (spIsRule K) := by
  have c_is_listed := c_is_listed (P := P) (w := w) (base := base) T
  have c_is_text := c_is_text (P := P) (w := w) (base := base) T
  refine Cal.mk0 T.d_is_rule sc_is_rule (fun vs H Q E h => ?_) (fun f cdv A outer s H vs Q E hr h => ?_)
  · obtain ⟨sg, q, r, rfl, _⟩ := h
    rfl
  · obtain ⟨sg, q, r, rfl, hq, ⟨h1, h2, h3, h4, h5, h6⟩, k⟩ := h
    refine ⟨_, (pss_cons (ps_if (PW.pt (pw_or (pt_not (pt_truth (pe_c c_is_listed hr (by decide) rfl (pa_cons (pv 1) pa_nil)) (by intro _; rfl))) (pw_or1 (pt_cmpR op_ne (pe_callB call_len_seq (by rfl) T.b_len (by decide +kernel) (pa_cons (pv 1) pa_nil)) pe_int (nomark _)))))
    (pss_one (ps_ret pe_bl))
    pss_nil)
  (pss_cons (ps_if (PW.pt (pw_or (pt_not (pt_truth (pe_c c_is_text hr (by decide) rfl (pa_cons (pv 0) (pa_cons (pe_ix ix_tup (pv 1) pe_int (fun _ _ => rfl)) (pa_cons pe_int (pa_cons (pe_gK rfl T.g_LONGEST_LEFT) pa_nil))))) (by intro _; rfl))) (pw_or1 (pt_not (pt_truth (pe_c c_is_text hr (by decide) rfl (pa_cons (pv 0) (pa_cons (pe_ix ix_tup (pv 1) pe_int (fun _ _ => rfl)) (pa_cons pe_int (pa_cons pe_int pa_nil))))) (by intro _; rfl))))))
    (pss_one (ps_ret pe_bl))
    pss_nil)
  (pss_one (ps_ret (pe_cmpR op_lt (pe_callB call_len_str (by rfl) T.b_len (by decide +kernel) (pa_cons (pe_ix ix_tup (pv 1) pe_int (fun _ _ => rfl)) pa_nil)) (pe_callB call_len_str (by rfl) T.b_len (by decide +kernel) (pa_cons (pe_ix ix_tup (pv 1) pe_int (fun _ _ => rfl)) pa_nil)) (nomark _)))))), ?_⟩
    walk_at "rd"
    refine ⟨_, _, rfl, ty_tup hq, by decide, ?_⟩
    refine ⟨true, rfl, ?_⟩
    refine iteF ?_
    walk_at "rd"
    refine ⟨q, _, rfl, .inr hq, ?_⟩
    walk_at "rd"
    have e1 : isText sg r.1 1 4 = true := by
      have c2 : (1 : Int) ≤ (r.1.length : Int) := by omega
      have c3 : (r.1.length : Int) ≤ 4 := by omega
      simp only [isText, c2, c3, decide_true, Bool.true_and, List.all_eq_true]
      exact fun c h => decide_eq_true (h3 c h)
    have e2 : isText sg r.2 0 1 = true := by
      have c2 : (0 : Int) ≤ (r.2.length : Int) := by omega
      have c3 : (r.2.length : Int) ≤ 1 := by omega
      simp only [isText, c2, c3, decide_true, Bool.true_and, List.all_eq_true]
      exact fun c h => decide_eq_true (h4 c h)
    refine .inl ⟨sg, r.1, 1, 4, rfl, by omega, ?_⟩
    rw [e1]
    refine ⟨true, rfl, ?_⟩
    refine iteF ?_
    walk_at "rd"
    refine .inl ⟨sg, r.2, 0, 1, rfl, by omega, ?_⟩
    rw [e2]
    refine ⟨true, rfl, ?_⟩
    refine iteF ?_
    walk_at "rd"
    rw [S_len, S_len]
    show Q (.bl (decide ((r.2.length : Int) < (r.1.length : Int)))) H
    rw [decide_eq_true (by omega)]
    exact k
def BookOk (sg : List Nat) (R : List Rule) : Prop := isSigns sg = true ∧ R.length ≤ 64 ∧ (∀ r ∈ R, RuleOk sg 4 r) ∧ R.Nodup
theorem BookOk.chars {sg : List Nat} {R : List Rule} (h : BookOk sg R) : RChars R := fun r m =>
  ⟨fun c hc => signs_chars h.1 c ((h.2.2.1 r m).2.2.1 c hc), fun c hc => signs_chars h.1 c ((h.2.2.1 r m).2.2.2.1 c hc)⟩
theorem BookOk.wf {sg : List Nat} {R : List Rule} (h : BookOk sg R) : Wf R := fun r m => ⟨(h.2.2.1 r m).2.2.2.2.2, (h.2.2.1 r m).2.2.2.2.1⟩
def spChecked (K : PySem.W.Frag) : Sp := fun vs H Q _ => ∃ (sg : List Nat) (a : Addr) (xs : List V) (R : List Rule), vs = [.str (S sg), .ref a] ∧ RulesAt K H a xs R ∧ BookOk sg R ∧
  ∀ (p : Addr) (ys : List V) (H' : Hp), Same H H' → RulesAt K H' p ys R → Q (.ref p) H'
theorem c_checked_rules (T : Txt K mg) : Cal P w K mg base CX0 3 "checked_rules" (spChecked K) := by
  have c_is_listed := c_is_listed (P := P) (w := w) (base := base) T
  have c_is_rule := c_is_rule (P := P) (w := w) (base := base) T
  refine Cal.mk0 T.d_checked_rules sc_checked_rules (fun vs H Q E h => ?_) (fun f cdv A outer s H vs Q E hr h => ?_)
  · obtain ⟨sg, a, xs, R, rfl, _⟩ := h
    rfl
  · obtain ⟨sg, a, xs, R, rfl, hR, hB, kk⟩ := h
    have hu65 := hu65_of hr
    have hch := hB.chars
    have hlx := hR.len
    obtain ⟨hsg, hl, hok, hnd⟩ := hB
    refine ⟨_, (pss_cons (ps_if (PW.pt (pw_or (pt_not (pt_truth (pe_c c_is_listed hr (by decide) rfl (pa_cons (pv 1) pa_nil)) (by intro _; rfl))) (pw_or1 (pt_cmpR op_gt (pe_callB call_len_seq (by rfl) T.b_len (by decide +kernel) (pa_cons (pv 1) pa_nil)) (pe_gK rfl T.g_MOST_RULES) (nomark _)))))
    (pss_one ps_never)
    pss_nil)
  (pss_cons (ps_set (i := 2) sc_checked_rules.nd rfl (Or.inl rfl) (pe_lst pa_nil))
  (pss_cons (ps_for PassesOwn.never rfl (pi_range1 (by rfl) T.b_range (pa_cons (pe_callB call_len_seq (by rfl) T.b_len (by decide +kernel) (pa_cons (pv 1) pa_nil)) pa_nil)) (pg_name (i := 3) sc_checked_rules.nd rfl (Or.inl rfl))
    (pss_cons (ps_if (PW.pt (pw_or (pt_not (pt_truth (pe_c c_is_rule hr (by decide) rfl (pa_cons (pv 0) (pa_cons (pe_ix ix_tup (pv 1) (pv 3) (fun _ _ => rfl)) pa_nil))) (by intro _; rfl))) (pw_or1 (pt_cmpR (op_inD hu65) (pe_callTy call_tuple_of (by rfl) T.b_tuple (by decide +kernel) (pa_cons (pe_ix ix_tup (pv 1) (pv 3) (fun _ _ => rfl)) pa_nil)) (pv 2) (by rfl)))))
      (pss_one ps_never)
      pss_nil)
    (pss_one (ps_expr (pe_bm PySem.F.plainAttrs_list PySem.F.slot_list_append PySem.F.type_list_append mt_append (pv 2) (pa_cons (pe_callTy call_tuple_of (by rfl) T.b_tuple (by decide +kernel) (pa_cons (pe_ix ix_tup (pv 1) (pv 3) (fun _ _ => rfl)) pa_nil)) pa_nil))))))
  (pss_one (ps_ret (pe_callTy call_tuple_of (by rfl) T.b_tuple (by decide +kernel) (pa_cons (pv 2) pa_nil))))))), ?_⟩
    walk_at "rd"
    refine ⟨_, _, rfl, ty_tup hR.sq, by decide, ?_⟩
    walk_at "rd"
    refine ⟨a, _, rfl, .inr hR.sq, ?_⟩
    walk_at "rd"
    rw [show decide ((64 : Int) < (xs.length : Int)) = false from decide_eq_false (by omega)]
    refine iteF ?_
    walk_at "rd"
    intro p hp
    have s1 : Same H (upd H p (.lst [])) := same_new hp
    refine ⟨_, rfl, a, xs, rfl, .inr (hR.same s1).sq, ?_⟩
    walk_at "rd"
    refine for_range (lo := 0) (n := ((xs.length : Int)).toNat) (fun i σ H2 => ∃ (ys : List V) (v3 : Option V), σ = [some (.str (S sg)), some (.ref a), some (.ref p), v3] ∧ Same H H2 ∧ H2 p = some (.lst ys) ∧ Items (RItem K) H2 ys (R.take i))
      ⟨[], _, rfl, s1, upd_same, Items.nil⟩ ?_ ?_
    · rintro i σ H2 hi ⟨ys, v3, rfl, s2, hp2, it2⟩
      rw [Int.zero_add]
      have hi2 : i < R.length := by omega
      have hr2 : R[i]? = some R[i] := by simp [hi2]
      obtain ⟨q, hq, sq⟩ := (hR.same s2).get hr2
      have et : R.take (i + 1) = R.take i ++ [R[i]] := by rw [List.take_succ, hr2]; rfl
      have hni : R[i] ∉ R.take i := by
        intro hm
        obtain ⟨j, hj, e⟩ := List.mem_iff_getElem.mp hm
        have hj2 : j < i := by
          rw [List.length_take] at hj
          omega
        rw [List.getElem_take] at e
        exact absurd (List.getElem_inj hnd |>.mp e) (by omega)
      have hR2 := hR.same s2
      have hci := hch _ (List.getElem_mem hi2)
      have hct : RChars (R.take i) := fun r m => hch r (List.mem_of_mem_take m)
      walk_at "nx"
      refine st_ifK false (fun Q' hQ => ?_) (fun hb => by cases hb) (fun _ => ?_)
      · refine ⟨_, rfl, _, rfl, _, rfl, a, xs, _, .ref q, rfl, rfl, hR2.sq, atI_nat hq, sg, q, R[i], rfl, sq, hok _ (List.getElem_mem hi2), true, rfl, ?_⟩
        refine iteF ?_
        refine ⟨_, rfl, _, rfl, a, xs, _, .ref q, rfl, rfl, hR2.sq, atI_nat hq, q, _, rfl, .inr ⟨sq, _, rfl, rD R[i], (R.take i).map rD, RItem.dp ⟨q, rfl, sq⟩, .lst (SqL.of hp2) (dpAll_rules it2), shaped_rule hci, shaped_rules hct, _, rfl, ?_⟩⟩
        rw [any_rules, decide_eq_false hni]
        exact hQ
      · walk_at "nx"
        have hyl : ys.length < sizeLine := by
          have := it2.1
          rw [List.length_take] at this
          exact Nat.lt_of_le_of_lt (m := 64) (by omega) (by decide)
        refine ⟨_, rfl, .inl ⟨rfl, _, SqL.of hp2⟩, _, rfl, _, rfl, a, xs, _, .ref q, rfl, rfl, hR2.sq, atI_nat hq, q, _, rfl, .inr ⟨sq, p, _, _, rfl, rfl, hp2, hyl, ?_⟩⟩
        refine ⟨ys ++ [.ref q], _, rfl, same_mut s2 hp, upd_same, ?_⟩
        rw [et]
        have hk : Keep H2 (upd H2 p (.lst (ys ++ [.ref q]))) := Keep.butL but_upd hp2
        exact it2.snoc (fun x y r => r.same hk) ⟨q, rfl, hk.seq sq⟩
    · rintro σ H2 ⟨ys, v3, rfl, s2, hp2, it2⟩
      walk_at "rd"
      refine ⟨p, _, rfl, .inl ⟨SqL.of hp2, fun l hl => ?_⟩⟩
      rw [List.take_of_length_le (by omega)] at it2
      have s3 := s2.trans (same_new (o := .tup ys) hl)
      refine kk l ys _ s3 ⟨SqT.of upd_same, it2.1, fun i x r h1 h2 => ?_⟩
      exact (it2.2 i x r h1 h2).same (Keep.same (same_new hl))
end
end Sh
set_option Elab.async false
set_option linter.all false
set_option maxRecDepth 100000
set_option maxHeartbeats 4000000
namespace Sh
open PySem PySem.Spec PyProof.Rows L2
open SX (S S_inj S_len S_cat)
open Bk (Rule firstAt lg bestUp used left drain pushS Wf quarrel)
local macro_rules | `(tactic| walk_at "nx") => `(tactic| repeat (with_reducible first | refine Sh.gn_mk ?_ | refine Sh.nx_mk ?_ | refine Sh.st_nx ?_ | refine Sh.rt_mk ?_ | refine Sh.ct_mk ?_ | refine Sh.bk_mk ?_))
local macro_rules | `(tactic| walk_at "sq") => `(tactic| first | exact SqL.of upd_same | exact SqT.of upd_same | exact SqL.of (by assumption) | exact SqT.of (by assumption) | assumption | exact Or.inl (SqL.of (by assumption)) | exact Or.inr (SqT.of (by assumption)) | exact Or.inl (by assumption) | exact Or.inr (by assumption))
local macro_rules | `(tactic| walk_at "hp") => `(tactic| first | exact upd_same | assumption)
local macro_rules | `(tactic| walk_at "sz") => `(tactic| first | exact Nat.le_of_ble_eq_true rfl | omega)
local macro_rules | `(tactic| walk_at "sd") => `(tactic| first | omega | exact rfl | assumption | (show (0 : Int) < _; omega) | exact And.intro (by omega) (by omega) | exact Or.inl (And.intro (by omega) (by omega)) | exact Or.inr (And.intro (by omega) (by omega)) | omega | exact Sh.sz_S (by omega) | decide)
local macro_rules | `(tactic| walk_at "rd1") => `(tactic| first
  | (with_reducible first | refine Sh.gn_mk ?_ | refine Sh.nx_mk ?_ | refine Sh.st_nx ?_ | refine Sh.rt_mk ?_ | refine Sh.ct_mk ?_ | refine Sh.bk_mk ?_)
  | refine Exists.intro (α := V) _ (And.intro rfl ?_)
  | refine Exists.intro (α := Bool) _ (And.intro rfl ?_)
  | refine Exists.intro (α := Int) _ (And.intro rfl ?_)
  | refine Exists.intro (α := PySem.Str) _ (And.intro rfl ?_)
  | refine Exists.intro (α := Int) _ (Exists.intro (α := Int) _ (And.intro rfl (And.intro rfl ?_)))
  | refine Exists.intro (α := PySem.Str) _ (Exists.intro (α := PySem.Str) _ (And.intro rfl (And.intro rfl ?_)))
  | refine Exists.intro (α := Int) _ (Exists.intro (α := Int) _ (And.intro rfl ?_))
  | refine Or.inl (Exists.intro (α := Int) _ (And.intro rfl ?_))
  | refine Exists.intro _ (Exists.intro _ (Exists.intro _ (Exists.intro _ (And.intro rfl (And.intro rfl (And.intro (by walk_at "sq") (And.intro rfl ?_)))))))
  | refine Exists.intro _ (Exists.intro _ (Exists.intro _ (Exists.intro _ (And.intro rfl (And.intro rfl (And.intro (by walk_at "hp") (And.intro rfl ?_)))))))
  | refine And.intro (by walk_at "sd") ?_
  )
local macro_rules | `(tactic| walk_at "rd") => `(tactic| repeat walk_at "rd1")
local macro_rules | `(tactic| walk_at "lk") => `(tactic| first | exact rfl | (rw [lookup_putF, if_pos rfl]) | (rw [lookup_putF, if_neg (by decide +kernel)]; walk_at "lk"))

section
variable {P : Program} {w : World} {K : PySem.W.Frag} {mg : Str → Option Value} {base : Heap} {CB CE : Addr}
theorem LeftsAt.ins {H H' : Hp} {p a C dx : Addr} {fs : List (Str × V)} {R : List Rule} (h : LeftsAt H p R) (s : But a H H') (z : H a = some (.ins C dx fs)) : LeftsAt H' p R := by
  obtain ⟨kvs, e, k⟩ := h
  refine ⟨kvs, s _ _ (ne_of e z (by intro q; cases q)) e, fun l => ⟨(k l).1, fun j r e => ?_⟩⟩
  obtain ⟨q, e1, e2⟩ := (k l).2 j r e
  exact ⟨q, e1, s _ _ (ne_of e2 z (by intro q; cases q)) e2⟩
/-- a book of the rules R over the signs sg stands at p -/
def BookAt (K : PySem.W.Frag) (C : Addr) (H : Hp) (p : Addr) (sg : List Nat) (R : List Rule) : Prop :=
  ∃ (dx : Addr) (fs : List (Str × V)) (a : Addr) (xs : List V) (pl : Addr), H p = some (.ins C dx fs) ∧ fs.lookup ("signs" : Str) = some (.str (S sg)) ∧ fs.lookup ("rules" : Str) = some (.ref a) ∧ RulesAt K H a xs R ∧
    fs.lookup ("_lefts" : Str) = some (.ref pl) ∧ LeftsAt H pl R ∧ fs.lookup ("_longest" : Str) = some (.int (lg R : Nat)) ∧ fs.lookup ("_quarrel" : Str) = some (optS (quarrel R))
theorem BookAt.same {C : Addr} {H H' : Hp} {p : Addr} {sg : List Nat} {R : List Rule} (h : BookAt K C H p sg R) (s : Same H H') : BookAt K C H' p sg R :=
  let ⟨dx, fs, a, xs, pl, h1, h2, h3, h4, h5, h6, h7, h8⟩ := h
  ⟨dx, fs, a, xs, pl, s _ _ h1, h2, h3, h4.same s, h5, h6.same s, h7, h8⟩
def spBookInit (K : PySem.W.Frag) (C : Addr) : Sp := fun vs H Q _ => ∃ (p dx a : Addr) (sg : List Nat) (xs : List V) (R : List Rule), vs = [.ref p, .str (S sg), .ref a] ∧ H p = some (.ins C dx []) ∧ RulesAt K H a xs R ∧ BookOk sg R ∧
  ∀ H' : Hp, BookAt K C H' p sg R → But p H H' → Q .non H'
theorem c_Book___init__ (T : TxtC K mg CB) : MetC P w K mg base 4 CB "__init__" (spBookInit K CB) := by
  have c_check_signs := c_check_signs (P := P) (w := w) (base := base) T.toTxt
  have c_checked_rules := c_checked_rules (P := P) (w := w) (base := base) T.toTxt
  have c_first_rules := c_first_rules (P := P) (w := w) (base := base) T.toTxt
  have c_longest_left := c_longest_left (P := P) (w := w) (base := base) T.toTxt
  have c_quarrel_of := c_quarrel_of (P := P) (w := w) (base := base) T.toTxt
  have c_end_moves := c_end_moves (P := P) (w := w) (base := base) T.toTxt
  refine MetC.mk0 T.m_Book___init__ sc_Book___init__ (fun vs H Q E h => ?_) (fun f cdv A outer s H vs Q E hr h => ?_)
  · obtain ⟨p, dx, a, sg, xs, R, rfl, _⟩ := h
    rfl
  · obtain ⟨p, dx, a, sg, xs, R, rfl, hp, hR, hB, k⟩ := h
    have hw := hB.wf
    have hl := hB.2.1
    have hsg := (signs_len hB.1).2
    refine ⟨_, (pss_cons (ps_expr (pe_c c_check_signs hr (by decide) rfl (pa_cons (pv 1) pa_nil)))
  (pss_cons (ps_fld (pv 0) (pv 1) rfl)
  (pss_cons (ps_fld (pv 0) (pe_c c_checked_rules hr (by decide) rfl (pa_cons (pv 1) (pa_cons (pv 2) pa_nil))) rfl)
  (pss_cons (ps_fld (pv 0) (pe_c c_first_rules hr (by decide) rfl (pa_cons (pe_fld (pv 0) rfl) pa_nil)) rfl)
  (pss_cons (ps_fld (pv 0) (pe_c c_longest_left hr (by decide) rfl (pa_cons (pe_fld (pv 0) rfl) pa_nil)) rfl)
  (pss_cons (ps_fld (pv 0) (pe_c c_quarrel_of hr (by decide) rfl (pa_cons (pe_fld (pv 0) rfl) (pa_cons (pe_fld (pv 0) rfl) (pa_cons (pe_fld (pv 0) rfl) pa_nil)))) rfl)
  (pss_one (ps_fld (pv 0) (pe_c c_end_moves hr (by decide) rfl (pa_cons (pv 1) (pa_cons (pe_fld (pv 0) rfl) pa_nil))) rfl)))))))), ?_⟩
    refine ⟨_, rfl, sg, rfl, hB.1, ?_⟩
    have cl := T.k_Book.cl
    refine ⟨_, rfl, _, rfl, p, CB, dx, [], rfl, hp, cl, T.n_Book_signs, by show 0 < 1000; decide, ?_⟩
    -- rules
    have b1 : But p H (upd H p (.ins CB dx (putF "signs" (.str (S sg)) []))) := but_upd
    have hp1 : (upd H p (.ins CB dx (putF "signs" (.str (S sg)) []))) p = some (.ins CB dx (putF "signs" (.str (S sg)) [])) := upd_same
    have hR1 := hR.keep (Keep.butI b1 hp)
    generalize upd H p (.ins CB dx (putF "signs" (.str (S sg)) [])) = H1 at b1 hp1 hR1 ⊢
    walk_at "nx"
    refine ⟨_, rfl, _, rfl, sg, a, xs, R, rfl, hR1, hB, fun a2 ys H2 s2 hR2 => ?_⟩
    have hp2 := s2 _ _ hp1
    generalize hf1 : putF "signs" (V.str (S sg)) [] = f1 at hp2 hp1
    have l1 : f1.length ≤ 1 := by rw [← hf1]; exact putF_le _ _ []
    have g1 : f1.lookup ("signs" : Str) = some (.str (S sg)) := by rw [← hf1]; walk_at "lk"
    refine ⟨_, rfl, p, CB, dx, f1, rfl, hp2, cl, T.n_Book_rules, by omega, ?_⟩
    have b2 : But p H (upd H2 p (.ins CB dx (putF "rules" (.ref a2) f1))) := b1.trans ((But.same s2).trans but_upd)
    have hp3 : (upd H2 p (.ins CB dx (putF "rules" (.ref a2) f1))) p = some (.ins CB dx (putF "rules" (.ref a2) f1)) := upd_same
    have hR3 := hR2.keep (Keep.butI but_upd hp2 (H' := upd H2 p (.ins CB dx (putF "rules" (.ref a2) f1))))
    generalize upd H2 p (.ins CB dx (putF "rules" (.ref a2) f1)) = H3 at b2 hp3 hR3 ⊢
    have g2 : (putF "rules" (.ref a2) f1).lookup ("rules" : Str) = some (.ref a2) := by walk_at "lk"
    have g2s : (putF "rules" (.ref a2) f1).lookup ("signs" : Str) = some (.str (S sg)) := by rw [lookup_putF, if_neg (by decide +kernel)]; exact g1
    have l2 : (putF "rules" (V.ref a2) f1).length ≤ 2 := by have := putF_le "rules" (V.ref a2) f1; omega
    generalize putF "rules" (V.ref a2) f1 = f2 at hp3 g2 g2s l2
    walk_at "nx"
    -- _lefts
    refine ⟨_, rfl, p, CB, dx, f2, _, rfl, hp3, cl, T.n_Book_rules, g2, a2, ys, R, rfl, hR3, hl, fun pl H4 hpl s4 L4 => ?_⟩
    have hp4 := s4 _ _ hp3
    refine ⟨_, rfl, p, CB, dx, f2, rfl, hp4, cl, T.n_Book__lefts, by omega, ?_⟩
    have b3 : But p H (upd H4 p (.ins CB dx (putF "_lefts" (.ref pl) f2))) := b2.trans ((But.same s4).trans but_upd)
    have hp5 : (upd H4 p (.ins CB dx (putF "_lefts" (.ref pl) f2))) p = some (.ins CB dx (putF "_lefts" (.ref pl) f2)) := upd_same
    have hR5 := (hR3.same s4).keep (Keep.butI but_upd hp4 (H' := upd H4 p (.ins CB dx (putF "_lefts" (.ref pl) f2))))
    have L5 := L4.ins (but_upd (o := .ins CB dx (putF "_lefts" (.ref pl) f2))) hp4
    generalize upd H4 p (.ins CB dx (putF "_lefts" (.ref pl) f2)) = H5 at b3 hp5 hR5 L5 ⊢
    have g3 : (putF "_lefts" (.ref pl) f2).lookup ("rules" : Str) = some (.ref a2) := by rw [lookup_putF, if_neg (by decide +kernel)]; exact g2
    have g3s : (putF "_lefts" (.ref pl) f2).lookup ("signs" : Str) = some (.str (S sg)) := by rw [lookup_putF, if_neg (by decide +kernel)]; exact g2s
    have g3l : (putF "_lefts" (.ref pl) f2).lookup ("_lefts" : Str) = some (.ref pl) := by walk_at "lk"
    have l3 : (putF "_lefts" (V.ref pl) f2).length ≤ 3 := by have := putF_le "_lefts" (V.ref pl) f2; omega
    generalize putF "_lefts" (V.ref pl) f2 = f3 at hp5 g3 g3s g3l l3
    walk_at "nx"
    -- _longest
    refine ⟨_, rfl, p, CB, dx, f3, _, rfl, hp5, cl, T.n_Book_rules, g3, a2, ys, R, rfl, hR5, hl, fun r m => Nat.le_trans (hB.2.2.1 r m).2.1 (by decide), fun H6 s6 => ?_⟩
    have hp6 := s6 _ _ hp5
    refine ⟨_, rfl, p, CB, dx, f3, rfl, hp6, cl, T.n_Book__longest, by omega, ?_⟩
    have b4 : But p H (upd H6 p (.ins CB dx (putF "_longest" (.int (lg R : Nat)) f3))) := b3.trans ((But.same s6).trans but_upd)
    have hp7 : (upd H6 p (.ins CB dx (putF "_longest" (.int (lg R : Nat)) f3))) p = some (.ins CB dx (putF "_longest" (.int (lg R : Nat)) f3)) := upd_same
    have hR7 := (hR5.same s6).keep (Keep.butI but_upd hp6 (H' := upd H6 p (.ins CB dx (putF "_longest" (.int (lg R : Nat)) f3))))
    have L7 := (L5.same s6).ins (but_upd (o := .ins CB dx (putF "_longest" (.int (lg R : Nat)) f3))) hp6
    generalize upd H6 p (.ins CB dx (putF "_longest" (.int (lg R : Nat)) f3)) = H7 at b4 hp7 hR7 L7 ⊢
    have g4 : (putF "_longest" (.int (lg R : Nat)) f3).lookup ("rules" : Str) = some (.ref a2) := by rw [lookup_putF, if_neg (by decide +kernel)]; exact g3
    have g4s : (putF "_longest" (.int (lg R : Nat)) f3).lookup ("signs" : Str) = some (.str (S sg)) := by rw [lookup_putF, if_neg (by decide +kernel)]; exact g3s
    have g4l : (putF "_longest" (.int (lg R : Nat)) f3).lookup ("_lefts" : Str) = some (.ref pl) := by rw [lookup_putF, if_neg (by decide +kernel)]; exact g3l
    have g4g : (putF "_longest" (.int (lg R : Nat)) f3).lookup ("_longest" : Str) = some (.int (lg R : Nat)) := by walk_at "lk"
    have l4 : (putF "_longest" (V.int (lg R : Nat)) f3).length ≤ 4 := by have := putF_le "_longest" (V.int (lg R : Nat)) f3; omega
    generalize putF "_longest" (V.int (lg R : Nat)) f3 = f4 at hp7 g4 g4s g4l g4g l4
    walk_at "nx"
    -- _quarrel
    have h41 : ∀ r ∈ R, r.1.length ≤ 4 ∧ r.2.length ≤ 1 := fun r m => ⟨(hB.2.2.1 r m).2.1, (hw r m).2⟩
    refine ⟨_, rfl, p, CB, dx, f4, _, rfl, hp7, cl, T.n_Book_rules, g4, _, rfl, p, CB, dx, f4, _, rfl, hp7, cl, T.n_Book__lefts, g4l, _, rfl, p, CB, dx, f4, _, rfl, hp7, cl, T.n_Book__longest, g4g, a2, pl, ys, R, rfl, hR7, L7, hw, hl, h41, fun H8 s8 => ?_⟩
    have hp8 := s8 _ _ hp7
    refine ⟨_, rfl, p, CB, dx, f4, rfl, hp8, cl, T.n_Book__quarrel, by omega, ?_⟩
    have b5 : But p H (upd H8 p (.ins CB dx (putF "_quarrel" (optS (quarrel R)) f4))) := b4.trans ((But.same s8).trans but_upd)
    have hp9 : (upd H8 p (.ins CB dx (putF "_quarrel" (optS (quarrel R)) f4))) p = some (.ins CB dx (putF "_quarrel" (optS (quarrel R)) f4)) := upd_same
    have hR9 := (hR7.same s8).keep (Keep.butI but_upd hp8 (H' := upd H8 p (.ins CB dx (putF "_quarrel" (optS (quarrel R)) f4))))
    have L9 := (L7.same s8).ins (but_upd (o := .ins CB dx (putF "_quarrel" (optS (quarrel R)) f4))) hp8
    generalize upd H8 p (.ins CB dx (putF "_quarrel" (optS (quarrel R)) f4)) = H9 at b5 hp9 hR9 L9 ⊢
    have g5 : (putF "_quarrel" (optS (quarrel R)) f4).lookup ("rules" : Str) = some (.ref a2) := by rw [lookup_putF, if_neg (by decide +kernel)]; exact g4
    have g5s : (putF "_quarrel" (optS (quarrel R)) f4).lookup ("signs" : Str) = some (.str (S sg)) := by rw [lookup_putF, if_neg (by decide +kernel)]; exact g4s
    have g5l : (putF "_quarrel" (optS (quarrel R)) f4).lookup ("_lefts" : Str) = some (.ref pl) := by rw [lookup_putF, if_neg (by decide +kernel)]; exact g4l
    have g5g : (putF "_quarrel" (optS (quarrel R)) f4).lookup ("_longest" : Str) = some (.int (lg R : Nat)) := by rw [lookup_putF, if_neg (by decide +kernel)]; exact g4g
    have g5q : (putF "_quarrel" (optS (quarrel R)) f4).lookup ("_quarrel" : Str) = some (optS (quarrel R)) := by walk_at "lk"
    have l5 : (putF "_quarrel" (optS (quarrel R)) f4).length ≤ 5 := by have := putF_le "_quarrel" (optS (quarrel R)) f4; omega
    generalize putF "_quarrel" (optS (quarrel R)) f4 = f5 at hp9 g5 g5s g5l g5g g5q l5
    walk_at "nx"
    -- _moves
    refine ⟨_, rfl, _, rfl, p, CB, dx, f5, _, rfl, hp9, cl, T.n_Book_rules, g5, a2, ys, R, sg, rfl, hR9, hl, fun r m => (h41 r m).1, by omega, fun pm H10 s10 => ?_⟩
    have hp10 := s10 _ _ hp9
    refine ⟨_, rfl, p, CB, dx, f5, rfl, hp10, cl, T.n_Book__moves, by omega, ?_⟩
    refine k _ ⟨dx, putF "_moves" (.ref pm) f5, a2, ys, pl, upd_same, ?_, ?_, (hR9.same s10).keep (Keep.butI but_upd hp10), ?_, (L9.same s10).ins but_upd hp10, ?_, ?_⟩ (b5.trans ((But.same s10).trans but_upd))
    all_goals rw [lookup_putF, if_neg (by decide +kernel)]
    all_goals assumption
end
end Sh
/-! the steps of a text, and overlaps as the law finds them; plain Lean -/
namespace Bk
def stAt (R : List Rule) (t : T) (i j : Nat) : Option (Nat × Nat) := if (t.drop i).take (lf R j).length = lf R j then some (i, j) else none
def stP (R : List Rule) (t : T) (i n : Nat) : List (Nat × Nat) := (List.range n).filterMap (stAt R t i)
def stI (R : List Rule) (t : T) (n : Nat) : List (Nat × Nat) := (List.range n).flatMap fun i => stP R t i R.length
theorem stP_succ (R : List Rule) (t : T) (i n : Nat) : stP R t i (n + 1) = stP R t i n ++ (stAt R t i n).toList := by
  unfold stP
  rw [List.range_succ, List.filterMap_append]
  cases h : stAt R t i n <;> simp [h]
theorem stI_succ (R : List Rule) (t : T) (n : Nat) : stI R t (n + 1) = stI R t n ++ stP R t n R.length := by
  unfold stI
  rw [List.range_succ, List.flatMap_append]
  simp
theorem stP_len (R : List Rule) (t : T) (i n : Nat) : (stP R t i n).length ≤ n := by
  unfold stP
  exact Nat.le_trans (List.length_filterMap_le _ _) (by simp)
theorem stI_len (R : List Rule) (t : T) (n : Nat) : (stI R t n).length ≤ n * R.length := by
  induction n with
  | zero => simp [stI]
  | succ n ih =>
    rw [stI_succ, List.length_append, Nat.succ_mul]
    have := stP_len R t n R.length
    omega
theorem mem_stI {R : List Rule} {t : T} {n i j : Nat} (hi : i < n) (hj : j < R.length) (h : (t.drop i).take (lf R j).length = lf R j) : (i, j) ∈ stI R t n := by
  unfold stI stP
  simp only [List.mem_flatMap, List.mem_range, List.mem_filterMap]
  exact ⟨i, hi, j, hj, by unfold stAt; rw [if_pos h]⟩
/-- the text that the law makes of two sides -/
def dueT (l r : T) (k : Nat) : T := l ++ r.drop (l.length - k)
theorem dueT_len {l r : T} {k : Nat} (h : k ≤ l.length) : (dueT l r k).length = max l.length (k + r.length) := by
  unfold dueT
  rw [List.length_append, List.length_drop]
  omega
theorem dueT_take {l r : T} {k : Nat} : (dueT l r k).take l.length = l := by
  unfold dueT
  simp
theorem fit_iff (d r : T) : (d ++ r.drop d.length).take r.length = r ↔ d.take (min d.length r.length) = r.take (min d.length r.length) := by
  rcases Nat.lt_or_ge r.length d.length with q | q
  · rw [List.drop_eq_nil_of_le (by omega), List.append_nil, Nat.min_eq_right (by omega), List.take_length]
  · rw [Nat.min_eq_left q, List.take_length, List.take_of_length_le (by rw [List.length_append, List.length_drop]; omega)]
    constructor
    · intro e
      have := congrArg (List.take d.length) e
      rw [List.take_left] at this
      exact this
    · intro e
      conv => lhs; rw [e]
      rw [List.length_take, Nat.min_eq_left q, List.take_append_drop]
theorem dueT_fit {l r : T} {k : Nat} (h : k ≤ l.length) : ((dueT l r k).drop k).take r.length = r ↔ (l.drop k).take (min (l.length - k) r.length) = r.take (min (l.length - k) r.length) := by
  unfold dueT
  rw [List.drop_append_of_le_length h]
  have := fit_iff (l.drop k) r
  rw [List.length_drop] at this
  exact this
theorem drop_min {n : Nat} {r : T} : r.drop (min n r.length) = r.drop n := by
  rcases Nat.lt_or_ge r.length n with q | q
  · rw [Nat.min_eq_right (by omega), List.drop_length, List.drop_eq_nil_of_le (by omega)]
  · rw [Nat.min_eq_left q]
theorem over_due {l r : T} {k : Nat} (h : k ≤ l.length) : over l r k = if ((dueT l r k).drop k).take r.length = r then some (dueT l r k) else none := by
  unfold over
  rw [drop_min]
  by_cases c : (l.drop k).take (min (l.length - k) r.length) = r.take (min (l.length - k) r.length)
  · rw [if_pos c, if_pos ((dueT_fit h).mpr c)]
    rfl
  · rw [if_neg c, if_neg (fun e => c ((dueT_fit h).mp e))]
/-- both steps stand in an overlap -/
theorem ov_steps {R : List Rule} {o : Ov} (h : o ∈ ovs R) : (0, o.2.1) ∈ stI R o.1 o.1.length ∧ (o.2.2.1, o.2.2.2) ∈ stI R o.1 o.1.length := by
  obtain ⟨i, r, j, q, k, t, hr, hq, hk, c, ho, rfl⟩ := mem_ovs.mp h
  rw [over_due (by omega)] at ho
  split at ho
  · rename_i hf
    cases ho
    have hl := dueT_len (l := r.1) (r := q.1) (k := k) (by omega)
    refine ⟨mem_stI (by show 0 < (dueT r.1 q.1 k).length; omega) (List.getElem?_eq_some_iff.mp hr).1 ?_, mem_stI (by show k < (dueT r.1 q.1 k).length; omega) (List.getElem?_eq_some_iff.mp hq).1 ?_⟩
    · rw [lf_get hr]
      exact dueT_take
    · rw [lf_get hq]
      exact hf
  · cases ho
end Bk
set_option Elab.async false
set_option linter.all false
set_option maxRecDepth 100000
set_option maxHeartbeats 4000000
namespace Sh
open PySem PySem.Spec PyProof.Rows L2
open SX (S S_inj S_len S_cat)
open Bk (Rule firstAt lg bestUp used left drain pushS Wf)
local macro_rules | `(tactic| walk_at "nx") => `(tactic| repeat (with_reducible first | refine Sh.gn_mk ?_ | refine Sh.nx_mk ?_ | refine Sh.st_nx ?_ | refine Sh.rt_mk ?_ | refine Sh.ct_mk ?_ | refine Sh.bk_mk ?_))
local macro_rules | `(tactic| walk_at "sq") => `(tactic| first | exact SqL.of upd_same | exact SqT.of upd_same | exact SqL.of (by assumption) | exact SqT.of (by assumption) | assumption | exact Or.inl (SqL.of (by assumption)) | exact Or.inr (SqT.of (by assumption)) | exact Or.inl (by assumption) | exact Or.inr (by assumption))
local macro_rules | `(tactic| walk_at "hp") => `(tactic| first | exact upd_same | assumption)
local macro_rules | `(tactic| walk_at "sz") => `(tactic| first | exact Nat.le_of_ble_eq_true rfl | omega)
local macro_rules | `(tactic| walk_at "sd") => `(tactic| first | omega | exact rfl | assumption | (show (0 : Int) < _; omega) | exact And.intro (by omega) (by omega) | exact Or.inl (And.intro (by omega) (by omega)) | exact Or.inr (And.intro (by omega) (by omega)) | omega | exact Sh.sz_S (by omega) | decide)
local macro_rules | `(tactic| walk_at "rd1") => `(tactic| first
  | (with_reducible first | refine Sh.gn_mk ?_ | refine Sh.nx_mk ?_ | refine Sh.st_nx ?_ | refine Sh.rt_mk ?_ | refine Sh.ct_mk ?_ | refine Sh.bk_mk ?_)
  | refine Exists.intro (α := V) _ (And.intro rfl ?_)
  | refine Exists.intro (α := Bool) _ (And.intro rfl ?_)
  | refine Exists.intro (α := Int) _ (And.intro rfl ?_)
  | refine Exists.intro (α := PySem.Str) _ (And.intro rfl ?_)
  | refine Exists.intro (α := Int) _ (Exists.intro (α := Int) _ (And.intro rfl (And.intro rfl ?_)))
  | refine Exists.intro (α := PySem.Str) _ (Exists.intro (α := PySem.Str) _ (And.intro rfl (And.intro rfl ?_)))
  | refine Exists.intro (α := Int) _ (Exists.intro (α := Int) _ (And.intro rfl ?_))
  | refine Or.inl (Exists.intro (α := Int) _ (And.intro rfl ?_))
  | refine Exists.intro _ (Exists.intro _ (Exists.intro _ (Exists.intro _ (And.intro rfl (And.intro rfl (And.intro (by walk_at "sq") (And.intro rfl ?_)))))))
  | refine Exists.intro _ (Exists.intro _ (Exists.intro _ (Exists.intro _ (And.intro rfl (And.intro rfl (And.intro (by walk_at "hp") (And.intro rfl ?_)))))))
  | refine And.intro (by walk_at "sd") ?_
  )
local macro_rules | `(tactic| walk_at "rd") => `(tactic| repeat walk_at "rd1")
local macro_rules | `(tactic| walk_at "lk") => `(tactic| first | exact rfl | (rw [lookup_putF, if_pos rfl]) | (rw [lookup_putF, if_neg (by decide +kernel)]; walk_at "lk"))

section
variable {P : Program} {w : World} {K : PySem.W.Frag} {mg : Str → Option Value} {base : Heap} {CB XR FR DI XO FO XT FT DT SE : Addr}
def spTextX (K : PySem.W.Frag) (XT : Addr) : Sp := fun vs H Q E => ∃ (sg t : List Nat), vs = [.str (S sg), .str (S t)] ∧ t.length ≤ 1000000 ∧ (isText sg t 0 200 = true → Q .non H) ∧ (isText sg t 0 200 = false → Thrown E H XT "thing" (.str (S t)))
theorem c_X_check_text (T : TxtX P K mg CB XR FR DI XO FO XT FT DT SE) : Cal P w K mg base (L2.CX P w) 3 "check_text" (spTextX K XT) := by
  have x_WrongThing := x_WrongThing (P := P) (w := w) (base := base) T
  have c_is_text := c_is_text (P := P) (w := w) (base := base) T.toTxtC.toTxt
  refine Cal.mkX T.toTxtC.toTxt.d_check_text sc_check_text (fun vs H Q E h => ?_) (fun f cdv A outer s H vs Q E hr h => ?_)
  · obtain ⟨sg, t, rfl, _⟩ := h
    rfl
  · obtain ⟨sg, t, rfl, hl, k1, k2⟩ := h
    refine ⟨_, (pss_one (ps_if (pt_not (pt_truth (pe_c c_is_text hr (by decide) rfl (pa_cons (pv 0) (pa_cons (pv 1) (pa_cons pe_int (pa_cons (pe_gK rfl T.g_LONGEST_TEXT) pa_nil))))) (by intro _; rfl)))
    (pss_one (ps_raiseX T.e_BadText x_WrongThing hr (by decide) rfl (takes_of rfl rfl rfl rfl) rfl (pa_cons (pv 1) pa_nil)))
    pss_nil)), ?_⟩
    walk_at "rd"
    refine .inl ⟨sg, t, 0, 200, rfl, by omega, ?_⟩
    cases e : isText sg t 0 200 with
    | true =>
      walk_at "rd"
      refine iteF ?_
      walk_at "rd"
      exact k1 e
    | false =>
      walk_at "rd"
      exact mk1 T.e_BadText T.nf_BadText_thing trivial (k2 e)
/-- made_step: the text with the right side there -/
def madeS (r : Rule) (t : List Nat) (p : Nat) : List Nat := t.take p ++ r.2 ++ t.drop (p + r.1.length)
def spMade (K : PySem.W.Frag) (C : Addr) : Sp := fun vs H Q _ => ∃ (b : Addr) (sg : List Nat) (R : List Rule) (t : List Nat) (p n : Nat) (r : Rule), vs = [.ref b, .str (S t), .int p, .int n] ∧ BookAt K C H b sg R ∧ R[n]? = some r ∧ t.length ≤ 1000 ∧ r.1.length ≤ 4 ∧ r.2.length ≤ 4 ∧ Q (.str (S (madeS r t p))) H
theorem c_made_step (T : TxtC K mg CB) : Cal P w K mg base CX0 1 "made_step" (spMade K CB) := by
  refine Cal.mk0 T.d_made_step sc_made_step (fun vs H Q E h => ?_) (fun f cdv A outer s H vs Q E hr h => ?_)
  · obtain ⟨b, sg, R, t, p, n, r, rfl, _⟩ := h
    rfl
  · obtain ⟨b, sg, R, t, p, n, r, rfl, ⟨dx, fs, a, xs, pl, hp, g1, g2, hR, g3, L, g4, g5⟩, hn, hl, h1, h2, k⟩ := h
    obtain ⟨q, hx, sq⟩ := hR.get hn
    have cl := T.k_Book.cl
    refine ⟨_, (pss_cons (ps_asg (pe_ix ix_tup (pe_fld (pv 0) rfl) (pv 3) (fun _ _ => rfl)) (pg_tup (by rfl) (pgs_cons (pg_name (i := 4) sc_made_step.nd rfl (Or.inl rfl)) (pgs_cons (pg_name (i := 5) sc_made_step.nd rfl (Or.inl rfl)) pgs_nil))))
  (pss_one (ps_ret (pe_op op_add_str (pe_op op_add_str (pe_slice sl_str (pv 1) po_none (po_some (pv 2))) (pv 5)) (pe_slice sl_str (pv 1) (po_some (pe_op op_add (pv 2) (pe_callB call_len_str (by rfl) T.b_len (by decide +kernel) (pa_cons (pv 4) pa_nil)))) po_none))))), ?_⟩
    walk_at "rd"
    refine ⟨b, CB, dx, fs, _, rfl, hp, cl, T.n_Book_rules, g2, _, rfl, ?_⟩
    refine ⟨a, xs, _, .ref q, rfl, rfl, hR.sq, atI_nat hx, ?_⟩
    refine ⟨q, _, rfl, sq, rfl, _, _, rfl, _, _, rfl, rfl, ?_⟩
    have hlim : (5000 : Nat) ≤ sizeLine := by decide
    walk_at "rd"
    rw [cut_to (by omega), S_cat]
    refine ⟨?_, ?_⟩
    · rw [S_len, S_len]
      exact Nat.le_trans (m := 2000) (by simp; omega) (by decide)
    refine ⟨_, rfl, _, rfl, _, rfl, _, rfl, sz_S (t := r.1) (by omega), ?_⟩
    refine ⟨_, _, rfl, rfl, _, rfl, ?_⟩
    refine ⟨_, rfl, sz_S (t := t) (by omega), ?_⟩
    rw [cut_from (by omega)]
    refine ⟨_, _, rfl, rfl, ?_, ?_⟩
    · rw [S_len, S_len]
      exact Nat.le_trans (m := 2000) (by simp; omega) (by decide)
    rw [S_cat, show ((p : Nat) : Int).toNat = p by omega, show ((p : Nat) + ((S r.1).length : Nat) : Int).toNat = p + r.1.length by rw [S_len]; omega]
    exact k
end
end Sh
set_option Elab.async false
set_option linter.all false
set_option maxRecDepth 100000
set_option maxHeartbeats 4000000
namespace Sh
open PySem PySem.Spec PyProof.Rows L2
open SX (S S_inj S_len S_cat)
open Bk (Rule firstAt lg bestUp used left drain pushS Wf)
local macro_rules | `(tactic| walk_at "nx") => `(tactic| repeat (with_reducible first | refine Sh.gn_mk ?_ | refine Sh.nx_mk ?_ | refine Sh.st_nx ?_ | refine Sh.rt_mk ?_ | refine Sh.ct_mk ?_ | refine Sh.bk_mk ?_))
local macro_rules | `(tactic| walk_at "sq") => `(tactic| first | exact SqL.of upd_same | exact SqT.of upd_same | exact SqL.of (by assumption) | exact SqT.of (by assumption) | assumption | exact Or.inl (SqL.of (by assumption)) | exact Or.inr (SqT.of (by assumption)) | exact Or.inl (by assumption) | exact Or.inr (by assumption))
local macro_rules | `(tactic| walk_at "hp") => `(tactic| first | exact upd_same | assumption)
local macro_rules | `(tactic| walk_at "sz") => `(tactic| first | exact Nat.le_of_ble_eq_true rfl | omega)
local macro_rules | `(tactic| walk_at "sd") => `(tactic| first | omega | exact rfl | assumption | (show (0 : Int) < _; omega) | exact And.intro (by omega) (by omega) | exact Or.inl (And.intro (by omega) (by omega)) | exact Or.inr (And.intro (by omega) (by omega)) | omega | exact Sh.sz_S (by omega) | decide)
local macro_rules | `(tactic| walk_at "rd1") => `(tactic| first
  | (with_reducible first | refine Sh.gn_mk ?_ | refine Sh.nx_mk ?_ | refine Sh.st_nx ?_ | refine Sh.rt_mk ?_ | refine Sh.ct_mk ?_ | refine Sh.bk_mk ?_)
  | refine Exists.intro (α := V) _ (And.intro rfl ?_)
  | refine Exists.intro (α := Bool) _ (And.intro rfl ?_)
  | refine Exists.intro (α := Int) _ (And.intro rfl ?_)
  | refine Exists.intro (α := PySem.Str) _ (And.intro rfl ?_)
  | refine Exists.intro (α := Int) _ (Exists.intro (α := Int) _ (And.intro rfl (And.intro rfl ?_)))
  | refine Exists.intro (α := PySem.Str) _ (Exists.intro (α := PySem.Str) _ (And.intro rfl (And.intro rfl ?_)))
  | refine Exists.intro (α := Int) _ (Exists.intro (α := Int) _ (And.intro rfl ?_))
  | refine Or.inl (Exists.intro (α := Int) _ (And.intro rfl ?_))
  | refine Exists.intro _ (Exists.intro _ (Exists.intro _ (Exists.intro _ (And.intro rfl (And.intro rfl (And.intro (by walk_at "sq") (And.intro rfl ?_)))))))
  | refine Exists.intro _ (Exists.intro _ (Exists.intro _ (Exists.intro _ (And.intro rfl (And.intro rfl (And.intro (by walk_at "hp") (And.intro rfl ?_)))))))
  | refine And.intro (by walk_at "sd") ?_
  )
local macro_rules | `(tactic| walk_at "rd") => `(tactic| repeat walk_at "rd1")
local macro_rules | `(tactic| walk_at "lk") => `(tactic| first | exact rfl | (rw [lookup_putF, if_pos rfl]) | (rw [lookup_putF, if_neg (by decide +kernel)]; walk_at "lk"))

section
variable {P : Program} {w : World} {K : PySem.W.Frag} {mg : Str → Option Value} {base : Heap} {CB XR FR DI XO FO XT FT DT SE : Addr}
/-- can_step of two numbers -/
def canS (R : List Rule) (t : List Nat) (p n : Int) : Bool :=
  decide (0 ≤ n) && decide (n ≤ (R.length : Int) - 1) && (decide (0 ≤ p) && decide (p ≤ t.length)) && decide ((t.drop p.toNat).take ((R.getD n.toNat ([], [])).1.length) = (R.getD n.toNat ([], [])).1)
/-- what is no number -/
def NotInt (K : PySem.W.Frag) (H : Hp) (v : V) : Prop := ∃ n, TyX K H v (.type n) ∧ n ∈ tys ∧ n ≠ "int"
def spCan (K : PySem.W.Frag) (C : Addr) : Sp := fun vs H Q _ => ∃ (b : Addr) (sg : List Nat) (R : List Rule) (t : List Nat) (u v : V), vs = [.ref b, .str (S t), u, v] ∧ BookAt K C H b sg R ∧ t.length ≤ 1000 ∧ R.length ≤ 64 ∧ (∀ r ∈ R, r.1.length ≤ 4) ∧
  ((∃ p n : Int, u = .int p ∧ v = .int n ∧ Q (.bl (canS R t p n)) H) ∨ (NotInt K H v ∧ Q (.bl false) H) ∨ ∃ n : Int, v = .int n ∧ NotInt K H u ∧ Q (.bl false) H)
theorem c_can_step (T : TxtC K mg CB) : Cal P w K mg base CX0 2 "can_step" (spCan K CB) := by
  have c_is_integer := c_is_integer (P := P) (w := w) (base := base) T.toTxt
  refine Cal.mk0 T.d_can_step sc_can_step (fun vs H Q E h => ?_) (fun f cdv A outer s H vs Q E hr h => ?_)
  · obtain ⟨b, sg, R, t, u, v, rfl, _⟩ := h
    rfl
  · obtain ⟨b, sg, R, t, u, v, rfl, ⟨dx, fs, a, xs, pl, hp, g1, g2, hR, g3, L, g4, g5⟩, hl, hr64, h4, k⟩ := h
    have cl := T.k_Book.cl
    have hlx := hR.len
    have tail : ∀ {D : Ends}, True := fun {_} => trivial
    rcases k with ⟨p, n, rfl, rfl, k⟩ | ⟨⟨n, ht, hn, hs⟩, k⟩ | ⟨n, rfl, ⟨n', ht, hn, hs⟩, k⟩
    · refine ⟨_, (pss_cons (ps_if (PW.pt (pw_or (pt_not (pt_truth (pe_c c_is_integer hr (by decide) rfl (pa_cons (pv 3) (pa_cons pe_int (pa_cons (pe_op op_sub (pe_callB call_len_seq (by rfl) T.b_len (by decide +kernel) (pa_cons (pe_fld (pv 0) rfl) pa_nil)) pe_int) pa_nil)))) (by intro _; rfl))) (pw_or1 (pt_not (pt_truth (pe_c c_is_integer hr (by decide) rfl (pa_cons (pv 2) (pa_cons pe_int (pa_cons (pe_callB call_len_str (by rfl) T.b_len (by decide +kernel) (pa_cons (pv 1) pa_nil)) pa_nil)))) (by intro _; rfl))))))
    (pss_one (ps_ret pe_bl))
    pss_nil)
  (pss_cons (ps_set (i := 4) sc_can_step.nd rfl (Or.inl rfl) (pe_ix ix_tup (pe_ix ix_tup (pe_fld (pv 0) rfl) (pv 3) (fun _ _ => rfl)) pe_int (fun _ _ => rfl)))
  (pss_one (ps_ret (pe_cmpR op_eq (pe_slice sl_str (pv 1) (po_some (pv 2)) (po_some (pe_op op_add (pv 2) (pe_callB call_len_str (by rfl) T.b_len (by decide +kernel) (pa_cons (pv 4) pa_nil))))) (pv 4) (nomark _)))))), ?_⟩
      walk_at "rd"
      refine ⟨b, CB, dx, fs, _, rfl, hp, cl, T.n_Book_rules, g2, a, xs, rfl, .inr hR.sq, ?_⟩
      refine ⟨_, _, rfl, rfl, .inl ⟨n, 0, _, rfl, ?_⟩⟩
      rw [hlx]
      cases e1 : (decide ((0 : Int) ≤ n) && decide (n ≤ (R.length : Int) - 1)) with
      | false =>
        simp only [canS, e1, Bool.false_and] at k
        walk_at "rd"
        exact k
      | true =>
        walk_at "rd"
        refine .inl ⟨p, 0, _, rfl, ?_⟩
        cases e2 : (decide ((0 : Int) ≤ p) && decide (p ≤ ((S t).length : Int))) with
        | false =>
          rw [S_len] at e2
          simp only [canS, e1, e2, Bool.and_false, Bool.false_and] at k
          walk_at "rd"
          exact k
        | true =>
          rw [S_len] at e2
          simp only [canS, e1, e2, Bool.true_and] at k
          rw [Bool.and_eq_true, decide_eq_true_eq, decide_eq_true_eq] at e1 e2
          obtain ⟨N, rfl⟩ : ∃ N : Nat, n = N := ⟨n.toNat, by omega⟩
          obtain ⟨p, rfl⟩ : ∃ m : Nat, p = m := ⟨p.toNat, by omega⟩
          have hN : N < R.length := by omega
          have hr : R[N]? = some R[N] := List.getElem?_eq_getElem hN
          obtain ⟨q, hx, sq⟩ := hR.get hr
          rw [show ((N : Nat) : Int).toNat = N by omega, show ((p : Nat) : Int).toNat = p by omega, List.getD_eq_getElem?_getD, hr, Option.getD_some] at k
          walk_at "rd"
          refine ⟨b, CB, dx, fs, _, rfl, hp, cl, T.n_Book_rules, g2, _, rfl, ?_⟩
          refine ⟨a, xs, _, .ref q, rfl, rfl, hR.sq, atI_nat hx, ?_⟩
          refine ⟨q, _, 0, .str (S R[N].1), rfl, rfl, sq, rfl, ?_⟩
          have hl4 := h4 _ (List.mem_of_getElem? hr)
          walk_at "rd"
          rw [cut_mid (by omega) (by omega), S_len, show (((p : Nat) : Int) + ((R[N].1.length : Nat) : Int)).toNat - ((p : Nat) : Int).toNat = R[N].1.length by omega, show ((p : Nat) : Int).toNat = p by omega]
          rw [show decide (V.str (S ((t.drop p).take R[N].1.length)) = V.str (S R[N].1)) = decide ((t.drop p).take R[N].1.length = R[N].1) from decide_eq_decide.mpr ⟨fun z => S_inj (V.str.inj z), fun z => by rw [z]⟩]
          exact k
    · refine ⟨_, (pss_cons (ps_if (PW.pt (pw_or (pt_not (pt_truth (pe_c c_is_integer hr (by decide) rfl (pa_cons (pv 3) (pa_cons pe_int (pa_cons (pe_op op_sub (pe_callB call_len_seq (by rfl) T.b_len (by decide +kernel) (pa_cons (pe_fld (pv 0) rfl) pa_nil)) pe_int) pa_nil)))) (by intro _; rfl))) (pw_or1 (pt_not (pt_truth (pe_c c_is_integer hr (by decide) rfl (pa_cons (pv 2) (pa_cons pe_int (pa_cons (pe_callB call_len_str (by rfl) T.b_len (by decide +kernel) (pa_cons (pv 1) pa_nil)) pa_nil)))) (by intro _; rfl))))))
    (pss_one (ps_ret pe_bl))
    pss_nil)
  (pss_cons (ps_set (i := 4) sc_can_step.nd rfl (Or.inl rfl) (pe_ix ix_tup (pe_ix ix_tup (pe_fld (pv 0) rfl) (pv 3) (fun _ _ => rfl)) pe_int (fun _ _ => rfl)))
  (pss_one (ps_ret (pe_cmpR op_eq (pe_slice sl_str (pv 1) (po_some (pv 2)) (po_some (pe_op op_add (pv 2) (pe_callB call_len_str (by rfl) T.b_len (by decide +kernel) (pa_cons (pv 4) pa_nil))))) (pv 4) (nomark _)))))), ?_⟩
      walk_at "rd"
      refine ⟨b, CB, dx, fs, _, rfl, hp, cl, T.n_Book_rules, g2, a, xs, rfl, .inr hR.sq, ?_⟩
      refine ⟨_, _, rfl, rfl, .inr ⟨_, _, _, n, rfl, ht, hn, hs, ?_⟩⟩
      walk_at "rd"
      exact k
    · refine ⟨_, (pss_cons (ps_if (PW.pt (pw_or (pt_not (pt_truth (pe_c c_is_integer hr (by decide) rfl (pa_cons (pv 3) (pa_cons pe_int (pa_cons (pe_op op_sub (pe_callB call_len_seq (by rfl) T.b_len (by decide +kernel) (pa_cons (pe_fld (pv 0) rfl) pa_nil)) pe_int) pa_nil)))) (by intro _; rfl))) (pw_or1 (pt_not (pt_truth (pe_c c_is_integer hr (by decide) rfl (pa_cons (pv 2) (pa_cons pe_int (pa_cons (pe_callB call_len_str (by rfl) T.b_len (by decide +kernel) (pa_cons (pv 1) pa_nil)) pa_nil)))) (by intro _; rfl))))))
    (pss_one (ps_ret pe_bl))
    pss_nil)
  (pss_cons (ps_set (i := 4) sc_can_step.nd rfl (Or.inl rfl) (pe_ix ix_tup (pe_ix ix_tup (pe_fld (pv 0) rfl) (pv 3) (fun _ _ => rfl)) pe_int (fun _ _ => rfl)))
  (pss_one (ps_ret (pe_cmpR op_eq (pe_slice sl_str (pv 1) (po_some (pv 2)) (po_some (pe_op op_add (pv 2) (pe_callB call_len_str (by rfl) T.b_len (by decide +kernel) (pa_cons (pv 4) pa_nil))))) (pv 4) (nomark _)))))), ?_⟩
      walk_at "rd"
      refine ⟨b, CB, dx, fs, _, rfl, hp, cl, T.n_Book_rules, g2, a, xs, rfl, .inr hR.sq, ?_⟩
      refine ⟨_, _, rfl, rfl, .inl ⟨n, 0, _, rfl, ?_⟩⟩
      cases e1 : (decide ((0 : Int) ≤ n) && decide (n ≤ (xs.length : Int) - 1)) with
      | false =>
        walk_at "rd"
        exact k
      | true =>
        walk_at "rd"
        refine .inr ⟨_, _, _, n', rfl, ht, hn, hs, ?_⟩
        walk_at "rd"
        exact k
end
end Sh
set_option Elab.async false
set_option linter.all false
set_option maxRecDepth 100000
set_option maxHeartbeats 2000000
/-! sorted(list, key=def), the keys of any shape that can be compared (flat tuples, and a thing ahead of a tuple) -/
namespace Sh
open PySem PySem.Spec PyProof.Rows L2
structure KeyD (X : Cx) {α : Type} (gk : α → List V) (T : String) where
  At : Hp → Addr → α → Prop
  kv : Hp → Value → List V
  VV : Heap → Value → List V → Prop
  kv_at : ∀ {H q y}, At H q y → kv H (.ref q) = gk y
  same : ∀ {H H' q y}, At H q y → Same H H' → At H' q y
  wr : ∀ {H q y p xs ys}, At H q y → H p = some (.lst xs) → At (upd H p (.lst ys)) q y
  vof : ∀ {pins σ H s q y}, Inv X pins σ H s → At H q y → VV s.heap (.ref q) (gk y)
  kind : ∀ {A : Around} {s : Shared} {E : Value → Shared → Prop} {vs : List Value} {k : Value → List V} {Q : SortKind → Shared → Prop}, 0 < vs.length → (∀ v ∈ vs, VV s.heap v (k v)) → (∀ v ∈ vs, Head T (k v)) → Q (tuples' (Value.type T != Value.type "tuple")) s → wpAny (model X.prog X.w) A (keyKind' vs.toArray) Q E s
  cmp : ∀ {A : Around} {s : Shared} {b : Bool} {vs : List Value} {k : Value → List V}, A.units + 64 < cLine → (∀ v ∈ vs, VV s.heap v (k v)) → (∀ v ∈ vs, ∀ u ∈ vs, sameKs (k v) (k u) = true) → SrtO.Cmp X.prog X.w A s (tuples' b) (fun p => p.1 ∈ vs) (SrtO.lt2 fun v u => cLt (k v) (k u))
section
variable {X : Cx} {pins : List (Addr × Obj)} {σ : L2.St} {H : Hp} {s : Shared} {a g : Addr} {n N : Nat} {sp : Sp} {α : Type} {f : α → V} {gk : α → List V} {l : List α} {vs : List Value} {T : String} {P : PySem.Fin → Shared → Prop}
theorem list_sort_keyD (D : KeyD X gk T) (I : Inv X pins σ H s) (F : FnR X.prog X.w X.K X.mg X.base CX0 n g sp) (hr : Room n X.A.in1.in1)
    (ho : s.heap.get? a = some (seqObj "list" vs.toArray N)) (fpa : FpOk X pins H a) (rv : Vals (l.map f) vs) (hz : l.length ≤ sizeLine)
    (hk : ∀ y ∈ l, ∀ H1, Same H H1 → ∀ Q' : VK, (∀ q H2, Same H1 H2 → D.At H2 q y → Q' (.ref q) H2) → sp [f y] H1 Q' E0)
    (ht : ∀ y ∈ l, Head T (gk y)) (hs : ∀ y ∈ l, ∀ z ∈ l, sameKs (gk y) (gk z) = true)
    (h : ∀ (l' : List α) (s' : Shared) (H' : Hp), l'.Perm l → l'.Pairwise (fun y z => cLt (gk z) (gk y) = false) → Inv X pins σ H' s' → Same H H' → H' a = some (.lst (l'.map f)) → P (.done (.ret .none)) s') :
    wpAny (model X.prog X.w) X.A.in1.in1 (ksk_tree a (.ref g) false) P X.xe s := by
  have hlen : vs.length = l.length := by rw [← rv.length, List.length_map]
  obtain ⟨hn, hL, hfs, hex, hcell, hpin⟩ := id fpa
  have ha : a < s.heap.objs.size := Heap.lt_size ho
  have s1 := Heap.SameBut.update s.heap a (Obj.mapSeq fun _ => (#[] : Array Value))
  obtain ⟨e1, ho1⟩ : ∃ e1, (s.heap.update a (Obj.mapSeq fun _ => (#[] : Array Value))).get? a = some (seqObj "list" #[] e1) := ⟨_, get?_update_seq ho fun _ => #[]⟩
  unfold ksk_tree
  refine wpAny_bind (listItems_at ho rfl ?_)
  refine wpAny_bind (listUpdate_at ho rfl ?_ (by rw [List.size_toArray, hlen]; exact hz) (Nat.zero_le _))
  refine wpAny_bind (seqEpoch_at ho1 rfl ?_)
  refine wpAny_bind (wpAny_newTuple ?_ (by show vs.length ≤ _; rw [hlen]; exact hz))
  refine wpAny_bind (wpAny_newList ?_ (Nat.zero_le _))
  refine wpAny_holding ?_
  have J1 : Inv X pins σ H { s with heap := s.heap.update a (Obj.mapSeq fun _ => (#[] : Array Value)), toks := s.toks } := I.turned (fun b o hb e => (s1.2 b hb).trans e) hn hL hex hcell hpin
  have z1 : (s.heap.update a (Obj.mapSeq fun _ => (#[] : Array Value))).objs.size = s.heap.objs.size := Heap.size_update _ _ _
  show wpAny _ _ (ksk_rest a (.ref g) false vs.toArray e1 (.ref (((s.heap.update a (Obj.mapSeq fun _ => (#[] : Array Value))).push (seqObj "tuple" vs.toArray 0)).objs.size))) P X.xe { s with heap := ((s.heap.update a (Obj.mapSeq fun _ => (#[] : Array Value))).push (seqObj "tuple" vs.toArray 0)).push (seqObj "list" #[] 0) }
  generalize s.heap.update a (Obj.mapSeq fun _ => (#[] : Array Value)) = h1 at J1 ho1 z1 ⊢
  have z2 : (h1.push (seqObj "tuple" vs.toArray 0)).objs.size = h1.objs.size + 1 := size_push' _ _
  have J2 : Inv X pins σ (upd H (h1.push (seqObj "tuple" vs.toArray 0)).objs.size (.lst [])) { s with heap := (h1.push (seqObj "tuple" vs.toArray 0)).push (seqObj "list" #[] 0), toks := s.toks } :=
    J1.laid (fun b o e => Heap.get?_push_of_some _ (Heap.get?_push_of_some _ e)) (by rw [z2]; exact Nat.le_succ _) ⟨Nat.zero_le _, [], 0, .nil, Heap.get?_push_size _ rfl⟩
  have hk0 : H (h1.push (seqObj "tuple" vs.toArray 0)).objs.size = none := J1.hok.fresh (by rw [z2]; exact Nat.le_succ _)
  have hne : a ≠ (h1.push (seqObj "tuple" vs.toArray 0)).objs.size := by rw [z2, z1]; exact Nat.ne_of_lt (Nat.lt_succ_of_lt ha)
  have J3 : Inv X (pins ++ [(a, seqObj "list" #[] e1)]) σ (upd H (h1.push (seqObj "tuple" vs.toArray 0)).objs.size (.lst [])) { s with heap := (h1.push (seqObj "tuple" vs.toArray 0)).push (seqObj "list" #[] 0), toks := s.toks } :=
    J2.pins_of fun p hp => (List.mem_append.mp hp).elim (fun z => J2.pin p (List.mem_append_right _ z)) fun z => by
      rw [List.mem_singleton.mp z]
      exact ⟨Heap.get?_push_of_some _ (Heap.get?_push_of_some _ ho1), by rw [upd_ne hne]; exact hn, hL, hfs, fun v e => by cases e⟩
  generalize (h1.push (seqObj "tuple" vs.toArray 0)).objs.size = kS at J2 J3 hk0 hne ⊢
  generalize hs0 : ({ s with heap := (h1.push (seqObj "tuple" vs.toArray 0)).push (seqObj "list" #[] 0) } : Shared) = s0 at J3 ⊢
  clear hs0 J2 z2 J1 z1 ho1 h1
  unfold ksk_rest
  refine wpAny_bind (wpAny_rule ?_)
  first
    | rw [List.forIn_toArray]
    | (rw [← Array.forIn_toList]; simp only [List.toList_toArray])
    | rw [← Array.forIn_toList]
  refine wpAny_bind (ksk_fold (fun i s' => ∃ H' ys, Inv X (pins ++ [(a, seqObj "list" #[] e1)]) σ H' s' ∧ Same H H' ∧ H' kS = some (.lst ys) ∧ Paired (fun v y => ∃ q, v = V.ref q ∧ D.At H' q y) ys (l.take i)) vs 0 s0
    ⟨_, [], J3, same_new hk0, upd_same, .nil⟩ ?step ?done)
  case step =>
    rintro j x s' hx ⟨H', ys, J, sm, hkS, pr⟩
    simp only [Nat.zero_add] at pr ⊢
    have hj : j < vs.length := (List.getElem?_eq_some_iff.mp hx).1
    have hjl : j < l.length := by omega
    have hy : l[j]? = some l[j] := List.getElem?_eq_getElem hjl
    have hym : l[j] ∈ l := List.getElem_mem hjl
    have rx : RelV (f l[j]) x := by
      obtain ⟨u, hu, ru⟩ := rv.get (i := j) (x := f l[j]) (by rw [List.getElem?_map, hy]; rfl)
      rw [hx] at hu
      cases hu
      exact ru
    have yl : ys.length = j := by
      have := Paired.length pr
      rw [List.length_take] at this
      omega
    refine wpAny_bind (wpAny_attempt (wpAny_mono (run_in (X := X.wish fun _ _ => False) (us := [x]) (ws := [f l[j]]) (Q := fun v H2 => ∃ q, v = .ref q ∧ Same H' H2 ∧ D.At H2 q l[j]) F hr (J.wish _).env0.in1.in1 pass0 (J.wish _) (.cons rx .nil)
      (hk _ hym H' sm _ fun q H2 sm2 hq => ⟨q, rfl, sm2, hq⟩)) (fun v s'' he => ?_) fun _ _ hF => hF.elim))
    obtain ⟨v', H2, J', rv', q, rfl, sm2, hq⟩ := he
    obtain rfl : v = .ref q := rv'
    have J2 := J'.unwish
    have hkS2 := sm2 _ _ hkS
    obtain ⟨hzz, its, n2, rvi, hli, hget⟩ := J2.lstM hkS2
    try dsimp only
    have s2 := Heap.SameBut.update s''.heap kS (Obj.mapSeq (·.push (Value.ref q)))
    obtain ⟨c2, hc2⟩ : ∃ c2, (s''.heap.update kS (Obj.mapSeq (·.push (Value.ref q)))).get? kS = some (seqObj "list" (its.toArray.push (Value.ref q)) c2) := ⟨_, get?_update_seq hget (·.push (Value.ref q))⟩
    refine wpAny_bind (listUpdate_at hget rfl ?_ (by rw [List.size_toArray, ← hli]; exact hzz) (by rw [Array.size_push, List.size_toArray, ← hli]; omega))
    have et : l.take (j + 1) = l.take j ++ [l[j]] := by rw [List.take_succ, hy]; rfl
    refine wpAny_pure ⟨rfl, upd H2 kS (.lst (ys ++ [.ref q])), ys ++ [.ref q], ?_, same_mut (sm.trans sm2) hk0, upd_same, ?_⟩
    · refine J2.write (t' := s''.toks) (by rw [hkS2]; trivial) (.inl rfl) (fun b u hb e => (s2.2 b hb).trans e) ⟨_, hc2⟩ ⟨by rw [List.length_append, yl]; show j + 1 ≤ _; omega, its ++ [.ref q], c2, ?_, ?_⟩
      · exact paired_snoc rvi (show RelV (.ref q) (.ref q) from rfl)
      · rw [hc2, List.push_toArray]
    · rw [et]
      have up : ∀ q0 y, D.At H2 q0 y → D.At (upd H2 kS (.lst (ys ++ [.ref q]))) q0 y := fun q0 y e => D.wr e hkS2
      exact paired_snoc (paired_imp pr fun v y ⟨q0, e, hq0⟩ => ⟨q0, e, up q0 _ (D.same hq0 sm2)⟩) ⟨q, rfl, up q _ hq⟩
  case done =>
    rintro s' ⟨H', ys, J, sm, hkS, pr⟩
    rw [show l.take (0 + vs.length) = l from List.take_of_length_le (by omega)] at pr
    obtain ⟨hzz, its, n2, rvi, hli, hget⟩ := J.lstM hkS
    have pa := J.pin (a, seqObj "list" #[] e1) (List.mem_append_right _ (List.mem_append_right _ (List.mem_singleton.mpr rfl)))
    have hH'a : H' a = none := pa.2.1
    have hga : s'.heap.get? a = some (seqObj "list" #[] e1) := pa.1
    try dsimp only
    refine wpAny_bind (listItems_at hget rfl ?_)
    have hil : its.length = l.length := by rw [← hli, Paired.length pr]
    -- the keys
    have pk : Paired (fun u y => ∃ q, u = Value.ref q ∧ D.At H' q y) its l := by
      obtain ⟨e1, e2⟩ := paired_get pr
      refine paired_at hil fun i u y h1 h2 => ?_
      have hi : i < ys.length := by
        have := (List.getElem?_eq_some_iff.mp h2).1
        omega
      obtain ⟨u', hu, ru⟩ := rvi.get (List.getElem?_eq_getElem hi)
      rw [h1] at hu
      cases hu
      obtain ⟨q, e, hq⟩ := e2 i _ y (List.getElem?_eq_getElem hi) h2
      rw [e] at ru
      exact ⟨q, ru, hq⟩
    have hkk : ∀ v ∈ its, ∃ y ∈ l, D.kv H' v = gk y ∧ D.VV s'.heap v (D.kv H' v) := by
      intro v hv
      obtain ⟨y, hy, q', e, hq⟩ := paired_mem pk v hv
      subst e
      refine ⟨y, hy, D.kv_at hq, ?_⟩
      rw [D.kv_at hq]
      exact D.vof J hq
    have hsame : ∀ v ∈ its, ∀ u ∈ its, sameKs (D.kv H' v) (D.kv H' u) = true := by
      intro v hv u hu
      obtain ⟨y, hy, e1, _⟩ := hkk v hv
      obtain ⟨z, hz', e2, _⟩ := hkk u hu
      rw [e1, e2]
      exact hs y hy z hz'
    have p2 : Paired (fun (p : Value × Value) y => D.kv H' p.1 = gk y ∧ RelV (f y) p.2) (its.zip vs) l := by
      obtain ⟨_, e2⟩ := paired_get pk
      refine paired_at (by rw [List.length_zip]; omega) fun i p y h1 h2 => ?_
      rw [List.getElem?_zip_eq_some] at h1
      obtain ⟨q, e, hq⟩ := e2 i _ y h1.1 h2
      obtain ⟨u, hu, ru⟩ := rv.get (i := i) (x := f y) (by rw [List.getElem?_map, h2]; rfl)
      rw [h1.2] at hu
      cases hu
      refine ⟨?_, ru⟩
      rw [e]
      exact D.kv_at hq
    have tail : ∀ st : SortSt, SrtO.Srtd (SrtO.lt2 fun v u => cLt (D.kv H' v) (D.kv H' u)) (arrOf st).toList → (arrOf st).toList.Perm (its.zip vs) → failedOf st = none → wpAny (model X.prog X.w) X.A.in1.in1 (ksk_tail a false e1 (.ref kS) st) P X.xe s' := by
      intro st hso hpe hfl
      obtain ⟨l', pl, pr'⟩ := paired_perm hpe p2
      have hkne : a ≠ kS := fun z => by rw [← z, hH'a] at hkS; cases hkS
      have s2 := Heap.SameBut.update s'.heap kS (Obj.mapSeq fun _ => (#[] : Array Value))
      obtain ⟨c2, hc2⟩ : ∃ c2, (s'.heap.update kS (Obj.mapSeq fun _ => (#[] : Array Value))).get? kS = some (seqObj "list" #[] c2) := ⟨_, get?_update_seq hget fun _ => #[]⟩
      have hga2 : (s'.heap.update kS (Obj.mapSeq fun _ => (#[] : Array Value))).get? a = some (seqObj "list" #[] e1) := (s2.2 a hkne).trans hga
      have K1 : Inv X (pins ++ [(a, seqObj "list" #[] e1)]) σ (upd H' kS (.lst [])) { s' with heap := s'.heap.update kS (Obj.mapSeq fun _ => (#[] : Array Value)), toks := s'.toks } :=
        J.write (by rw [hkS]; trivial) (.inl rfl) (fun b u hb e => (s2.2 b hb).trans e) ⟨_, hc2⟩ ⟨Nat.zero_le _, [], c2, .nil, hc2⟩
      unfold ksk_tail
      try dsimp only
      refine wpAny_bind (listUpdate_at hget rfl ?_ (by rw [List.size_toArray, ← hli]; exact hzz) (Nat.zero_le _))
      refine wpAny_bind (wpAny_letGo ?_)
      refine wpAny_bind (seqEpoch_at hga2 rfl ?_)
      have hsz : ((arrOf st).map (·.2)).size ≤ sizeLine := by
        have := hpe.length_eq
        rw [Array.length_toList, List.length_zip] at this
        rw [Array.size_map, this]
        omega
      simp only [Bool.false_eq_true, if_false]
      refine wpAny_bind (listUpdate_at hga2 rfl ?_ (Nat.zero_le _) (by omega))
      rw [hfl]
      simp only [bne_self_eq_false, Bool.false_eq_true, if_false]
      generalize hh2 : s'.heap.update kS (Obj.mapSeq fun _ => (#[] : Array Value)) = h2 at K1 hga2 ⊢
      have s3 := Heap.SameBut.update h2 a (Obj.mapSeq fun _ => (arrOf st).map (·.2))
      obtain ⟨c3, hc3⟩ : ∃ c3, (h2.update a (Obj.mapSeq fun _ => (arrOf st).map (·.2))).get? a = some (seqObj "list" ((arrOf st).map (·.2)) c3) := ⟨_, get?_update_seq hga2 fun _ => (arrOf st).map (·.2)⟩
      have hupa : upd H' kS (.lst []) a = none := by rw [upd_ne hkne]; exact hH'a
      have hvals : Vals (l'.map f) (((arrOf st).map (·.2)).toList) := by
        rw [Array.toList_map]
        have key : ∀ {ps : List (Value × Value)} {m : List α}, Paired (fun (p : Value × Value) y => D.kv H' p.1 = gk y ∧ RelV (f y) p.2) ps m → Vals (m.map f) (ps.map (·.2)) := by
          intro ps m hp
          induction hp with
          | nil => exact .nil
          | cons r t ih => exact .cons r.2 ih
        exact key pr'
      have K3 : Inv X pins σ (upd (upd H' kS (.lst [])) a (.lst (l'.map f))) { s' with heap := h2.update a (Obj.mapSeq fun _ => (arrOf st).map (·.2)), toks := s'.toks } := by
        refine Inv.take (s := { s' with heap := h2, toks := s'.toks }) (Inv.unpinned K1) (fun b ob hb e => (s3.2 b hb).trans e) ⟨hupa, hL, hfs, hex, hcell, hpin⟩ ⟨?_, _, c3, hvals, ?_⟩
        · rw [List.length_map, pl.length_eq]; exact hz
        · rw [hc3, Array.toArray_toList]
      refine wpAny_pure (h l' _ _ pl ?_ K3 ?_ upd_same)
      · refine paired_pairwise (R := fun (p : Value × Value) y => D.kv H' p.1 = gk y ∧ RelV (f y) p.2) ?_ pr' hso
        rintro p p' y y' ⟨k1, _⟩ ⟨k2, _⟩ hlt
        have hlt' : cLt (D.kv H' p'.1) (D.kv H' p.1) = false := hlt
        rw [k1, k2] at hlt'
        exact hlt'
      · exact fun b o e => by
          rw [upd_ne (ne_of_none e hn)]
          exact same_mut sm hk0 b o e
    have hzip : (its.toArray.zip vs.toArray).toList = its.zip vs := by simp
    unfold ksk_end
    try dsimp only
    simp only [Bool.false_eq_true, if_false]
    by_cases h2 : vs.toArray.size < 2
    · rw [if_pos h2, if_pos h2]
      refine wpAny_bind (wpAny_pure ?_)
      rw [StateT.run_pure]
      refine wpAny_bind (wpAny_pure ?_)
      try dsimp only
      rw [List.size_toArray] at h2
      refine tail (SortSt.mk' general' (its.toArray.zip vs.toArray) #[] 7 none) ?_ (by show (its.toArray.zip vs.toArray).toList.Perm _; rw [hzip]) rfl
      show SrtO.Srtd _ (its.toArray.zip vs.toArray).toList
      rw [hzip]
      have hl2 : (its.zip vs).length < 2 := by rw [List.length_zip]; omega
      match its.zip vs, hl2 with
      | [], _ => exact List.Pairwise.nil
      | [v], _ => exact List.pairwise_singleton _ _
      | _ :: _ :: l, h => exact absurd h (by simp)
    · rw [if_neg h2, if_neg h2]
      rw [List.size_toArray] at h2
      refine wpAny_bind (D.kind (vs := its) (k := D.kv H') (by omega) (fun v hv => (hkk v hv).choose_spec.2.2) (fun v hv => ?_) ?_)
      · obtain ⟨y, hy, e, _⟩ := hkk v hv
        rw [e]
        exact ht y hy
      refine wpAny_bind (wpAny_mono (SrtO.wpS_sortO (st0 := SortSt.mk' (tuples' (Value.type T != Value.type "tuple")) (its.toArray.zip vs.toArray) #[] 7 none)
        (Q := fun _ st' => SrtO.Srtd (SrtO.lt2 fun v u => cLt (D.kv H' v) (D.kv H' u)) (arrOf st').toList ∧ (arrOf st').toList.Perm (its.zip vs) ∧ failedOf st' = none) (SrtO.swo2 (swo_cLt (D.kv H'))) (D.cmp (s := s') (Room.units hr) (fun v hv => (hkk v hv).choose_spec.2.2) hsame) rfl
        (fun p hp => ?_) rfl rfl fun st' a1 a2 a3 => ⟨a1, ?_, a3⟩) ?_ fun _ _ e => e)
      · have hp' : p ∈ (its.toArray.zip vs.toArray).toList := hp
        rw [hzip] at hp'
        exact (List.of_mem_zip (a := p.1) (b := p.2) hp').1
      · have := a2.perm
        have e : (arrOf (SortSt.mk' (tuples' (Value.type T != Value.type "tuple")) (its.toArray.zip vs.toArray) #[] 7 none)).toList = its.zip vs := hzip
        rw [e] at this
        exact this
      · rintro ⟨⟨⟩, st'⟩ s2 ⟨rfl, hp1, hp2, hf⟩
        try dsimp only
        exact tail st' hp1 hp2 hf
end
def rSortD (X : Cx) (sp : Sp) : List V → Hp → VK → Prop := fun vs H Q => ∃ (α : Type) (f : α → V) (gk : α → List V) (T : String) (D : KeyD X gk T) (l : List α) (v : V), vs = [v] ∧ KSrc X.K H v (l.map f) ∧
  (∀ y ∈ l, ∀ H1, Same H H1 → ∀ Q' : VK, (∀ q H2, Same H1 H2 → D.At H2 q y → Q' (.ref q) H2) → sp [f y] H1 Q' E0) ∧
  (∀ y ∈ l, Head T (gk y)) ∧ (∀ y ∈ l, ∀ z ∈ l, sameKs (gk y) (gk z) = true) ∧
  ∀ (l' : List α) (p : Addr) (H' : Hp), l'.Perm l → l'.Pairwise (fun y z => cLt (gk z) (gk y) = false) → H p = none → Same H H' → H' p = some (.lst (l'.map f)) → Q (.ref p) H'
section
variable {X : Cx} {n : Nat} {g : Addr} {sp : Sp}
theorem cr_sortKeyD (F : FnR X.prog X.w X.K X.mg X.base CX0 n g sp) (hr : Room (n + 2) X.A) (hc : X.calm = true) : CallRK X (.builtin "sorted") [Str.ofString "key"] (fun vs zs H Q => zs = [.ref g] ∧ rSortD X sp vs H Q) := by
  intro pins s σ H vs zs us ws Q I r rz h
  obtain ⟨rfl, α, f, gk, T, D, l, v, rfl, ⟨a, rfl, src⟩, hk, ht, hs, q⟩ := h
  obtain ⟨w1, rfl, e1⟩ := vals1 rz
  obtain rfl : w1 = Value.ref g := e1
  obtain ⟨u, rfl, ru⟩ := vals1 r
  obtain rfl : u = Value.ref a := ru
  have hr2 : Room n X.A.in1.in1 := (show Room (n + 1) X.A.in1 from Room.in1 hr).in1
  refine call_function_entry_kw kind_sorted plain_sorted entry_sorted (ksk_s1 _ _) ?_
  unfold Builtin.«sorted»
  refine wpAny_bind (m := checkCount "sorted" 1 1 _) (wpAny_pure ?_)
  have col : ∀ R : List Value → Shared → Prop, (∀ h' tk us, (∀ b o, s.heap.get? b = some o → h'.get? b = some o) → Vals (l.map f) us → l.length ≤ sizeLine → R us { s with heap := h', toks := tk }) → wpAny (model X.prog X.w) X.A.in1 (collect (.ref a)) R X.xe s := by
    intro R hR
    rcases src with hL | ⟨kvs, hD, ek⟩
    · obtain ⟨its, rv, hl, hz⟩ := I.list hL
      refine collect_list hl.isList (hR _ s.toks its (fun b o e => ?_) rv (by rw [List.length_map] at hz; exact hz)) (by rw [← rv.length]; exact hz)
      have hlt : b < s.heap.objs.size := Heap.lt_size e
      rw [Heap.get?_update_ne _ _ _ _ (Nat.ne_of_lt hlt)]
      exact Heap.get?_push_of_some _ e
    · obtain ⟨z, lo, vs, rel, dd⟩ := dk_rd I.hok hD
      obtain ⟨ep, hat⟩ := dd.dictAt
      have hl : kvs.length = vs.length := Paired.length rel
      refine PySem.W.kdu_collect (A := X.A.in1) (PySem.W.kdl_dict (knd := mixKind X.prog X.w) (kvs := vs) (ep := ep) lo) (I.ok.hd hc) hat (by rw [← hl]; exact z) fun h' tk acc hk hacc => ?_
      have ll : l.length = kvs.length := by
        have := congrArg List.length ek
        rw [List.length_map, List.length_map] at this
        exact this
      refine hR h' tk acc.toList hk ?_ (by rw [ll]; exact z)
      rw [ek]
      have el : acc.toList.length = acc.size := by simp
      refine vals_of_at (by rw [List.length_map, el, hacc.1, hl]) fun j x w h1 h2 => ?_
      obtain ⟨k, y, hky, hi⟩ := hacc.2 j w (by rw [← Array.getElem?_toList]; exact h2)
      have e1 : (kvs.map (·.1))[j]? = some k := by
        rw [KV.keys rel, List.getElem?_map, hky] <;> rfl
      have e2 : (kvs.map fun kv => kV kv.1)[j]? = some (kV k) := by
        have e3 : (kvs.map fun kv => kV kv.1) = (kvs.map (·.1)).map kV := by rw [List.map_map] <;> rfl
        rw [e3, List.getElem?_map, e1] <;> rfl
      rw [e2] at h1
      cases h1
      exact keyIs_rel hi
  refine wpAny_bind (col _ fun h' tk us hkp rv hz => ?_)
  have hul : us.length = l.length := by rw [← rv.length, List.length_map]
  refine wpAny_bind (wpAny_newList ?_ (by rw [hul]; exact hz))
  have I1 : Inv X pins σ H { s with heap := h', toks := tk } := I.kept hkp
  have hoL : (h'.push (seqObj "list" us.toArray 0)).get? h'.objs.size = some (seqObj "list" us.toArray 0) := Heap.get?_push_size _ rfl
  have hfr : H h'.objs.size = none := I1.hok.fresh (Nat.le_refl _)
  have fp : FpOk X pins H h'.objs.size := I1.fpOk (Nat.le_refl _) hfr
  have I2 : Inv X pins σ H { s with heap := h'.push (seqObj "list" us.toArray 0), toks := tk } := I1.kept fun b o e => Heap.get?_push_of_some _ e
  show wpAny _ _ _ _ _ { s with heap := h'.push (seqObj "list" us.toArray 0), toks := tk }
  refine wpAny_bind (wpAny_holding (wpAny_call_entry_kw slot_list_sort ⟨_, hoL, rfl⟩ entry_list_sort ?body (ksk_l1 _ _)))
  case body =>
    show wpAny (model X.prog X.w) X.A.in1.in1 (Builtin.«list.sort» ⟨[.ref h'.objs.size], [(Str.ofString "key", .ref g)]⟩) _ _ _
    rw [ksk_t1]
    refine list_sort_keyD D I2 F hr2 hoL fp rv hz hk ht hs fun l' s' H' pl po J sm hp => ⟨_, rfl, ?_⟩
    exact wpAny_pure ⟨_, rfl, .ref h'.objs.size, H', J, rfl, q l' _ H' pl po hfr sm hp⟩
end
section
variable {X : Cx} {k j : Nat} {x : Str} {sp : Sp} {p p2 pos kpos : Pos} {e : Expr} {t : TA}
def tSortD (X : Cx) (sp : Sp) (t : TA) : TE := fun σ H Q => t σ H fun vs H1 => rSortD X sp vs H1 Q
/-- sorted(e, key=f), f a def of the text -/
theorem pe_sortD (c : Cal X.prog X.w X.K X.mg X.base CX0 k x sp) (hr : Room j X.A) (hk : k + 2 ≤ j) (hc : X.calm = true) (hg : Gl X "sorted") (hm : X.mg "sorted" = none) (hgx : Gl X x) (ha : PA X [e] t)
    (hdb : (x == ("__debug__" : Str)) = false := by decide)
    (he : backTo pos (starEach [e] X.env) = (false, eval e X.env) :: backTo pos (starEach [] X.env) := by rfl) (hpl : (backTo pos (starEach [e] X.env)).any (·.1) = false := by rfl) :
    PE X (.Call (.Name "sorted" p) [e] [⟨some (Str.ofString "key"), .Name x p2, kpos⟩] pos) (tSortD X sp t) := by
  obtain ⟨f, fd, ps, F, hmx, kp, b⟩ := c.ex
  have P0 := pe_callBK (p := p) (pos := pos) (cr_sortKeyD (fnR_of F b) (hr.mono hk) hc) hg hm (by rfl) ha (pk_cons (kpos := kpos) (nm := some (Str.ofString "key")) (pe_glob (pos := p2) (v := .ref f) hgx hmx rfl hdb) pk_nil) (by decide) (by decide) he hpl
  refine ⟨fun pins s σ H Q I h => P0.run pins s σ H Q I ?_⟩
  have e9 : (fun (vs : List V) (H1 : Hp) => ([V.ref f] : List V) = [.ref f] ∧ rSortD X sp vs H1 Q) = fun vs H1 => rSortD X sp vs H1 Q := by
    funext vs H1
    exact propext ⟨fun h => h.2, fun h => ⟨rfl, h⟩⟩
  show t σ H fun vs H1 => ([V.ref f] : List V) = [.ref f] ∧ rSortD X sp vs H1 Q
  rw [e9]
  exact h
end
/-! ### a thing ahead of a tuple -/
def NestA {α : Type} (gk : α → List V) (H : Hp) (q : Addr) (y : α) : Prop := ∃ x ks r, gk y = x :: ks ∧ H q = some (.tup [x, .ref r]) ∧ H r = some (.tup ks)
def kvN (H : Hp) : Value → List V
  | .ref q => match H q with
    | some (.tup [x, .ref r]) => match H r with
      | some (.tup ks) => x :: ks
      | _ => []
    | _ => []
  | _ => []
theorem kvN_at {α : Type} {gk : α → List V} {H : Hp} {q : Addr} {y : α} (h : NestA gk H q y) : kvN H (.ref q) = gk y := by
  obtain ⟨x, ks, r, e, h1, h2⟩ := h
  unfold kvN
  simp only [h1, h2, e]
def NestV (h : Heap) (v : Value) (ks : List V) : Prop := ∃ (a b : Addr) (o o' : Obj) (x : V) (rs : List V) (u : Value) (its : List Value) (n m : Nat), ks = x :: rs ∧ v = .ref a ∧ h.get? a = some o ∧ o.cls = .type "tuple" ∧ o.data = .seq #[u, .ref b] n ∧ RelV x u ∧ h.get? b = some o' ∧ o'.cls = .type "tuple" ∧ o'.data = .seq its.toArray m ∧ Vals rs its
theorem nestV_of {X : Cx} {α : Type} {gk : α → List V} {pins : List (Addr × Obj)} {σ : L2.St} {H : Hp} {s : Shared} {q : Addr} {y : α} (I : Inv X pins σ H s) (h : NestA gk H q y) : NestV s.heap (.ref q) (gk y) := by
  obtain ⟨x, ks, r, e, h1, h2⟩ := h
  obtain ⟨_, its, rv, o, ho, hc, n, hd⟩ := I.hok q _ h1
  obtain ⟨_, its2, rv2, o2, ho2, hc2, n2, hd2⟩ := I.hok r _ h2
  cases rv with
  | cons r1 t1 =>
    cases t1 with
    | cons r2 t2 =>
      cases t2
      rename_i u w
      obtain rfl : w = Value.ref r := r2
      exact ⟨q, r, o, o2, x, ks, u, its2, n, n2, e, rfl, ho, hc, hd, r1, ho2, hc2, hd2, rv2⟩
def dat : V → PyData
  | .int i => .int i
  | .str s => .str s
  | _ => .none
def Plain : V → Prop
  | .int _ => True
  | .str _ => True
  | _ => False
theorem reads_dat {h : Heap} {x : V} {u : Value} (hp : Plain x) (r : RelV x u) : Reads h u (dat x) [] := by
  cases x <;> first | exact hp.elim | skip
  · obtain ⟨t, rfl⟩ := r; exact .int _ _
  · obtain ⟨t, rfl⟩ := r; exact .str _ _
theorem reads_dats {h : Heap} : ∀ {ks : List V} {us : List Value}, (∀ x ∈ ks, Plain x) → Vals ks us → ReadsAll h us (ks.map dat) []
  | [], _, _, .nil => .nil
  | x :: ks, _, hp, .cons r t => by
    have := ReadsAll.cons (reads_dat (h := h) (hp x List.mem_cons_self) r) (reads_dats (fun y m => hp y (List.mem_cons_of_mem _ m)) t)
    exact this
theorem plain_same : ∀ {x y : V}, sameK x y = true → Plain x ∧ Plain y := by
  intro x y h
  cases x <;> cases y <;> first | exact ⟨trivial, trivial⟩ | cases h
theorem alike_dat {x y : V} (h : sameK x y = true) : PySem.W.alike (dat x) (dat y) = true := by
  cases x <;> cases y <;> first | rfl | cases h
theorem eqv_dat {x y : V} (h : sameK x y = true) : PyData.eqv (dat x) (dat y) = decide (x = y) := by
  cases x <;> cases y <;> first | cases h | skip
  · rename_i i j
    show (i == j) = _
    rw [Bool.eq_iff_iff]; simp
  · rename_i i j
    show (i == j) = _
    rw [Bool.eq_iff_iff]; simp
theorem lt_dat {x y : V} (h : sameK x y = true) : PySem.W.dataLt (dat x) (dat y) = vLt x y := by
  cases x <;> cases y <;> first | cases h | skip
  · exact PySem.W.dataLt_int _ _
  · exact PySem.W.dataLt_str _ _
theorem alike_dats : ∀ {a b : List V}, sameKs a b = true → PySem.W.alikeAll (a.map dat) (b.map dat) = true
  | [], _, _ => rfl
  | _ :: _, [], _ => rfl
  | x :: xs, y :: ys, h => by
    have h' : (sameK x y && sameKs xs ys) = true := h
    rw [Bool.and_eq_true] at h'
    show (PySem.W.alike (dat x) (dat y) && PySem.W.alikeAll _ _) = true
    rw [alike_dat h'.1, alike_dats h'.2]; rfl
theorem eqv_dats : ∀ {a b : List V}, sameKs a b = true → PyData.eqvAll (a.map dat) (b.map dat) = decide (a = b)
  | [], [], _ => rfl
  | [], _ :: _, _ => rfl
  | _ :: _, [], _ => rfl
  | x :: xs, y :: ys, h => by
    have h' : (sameK x y && sameKs xs ys) = true := h
    rw [Bool.and_eq_true] at h'
    show (PyData.eqv (dat x) (dat y) && PyData.eqvAll _ _) = _
    rw [eqv_dat h'.1, eqv_dats h'.2, Bool.eq_iff_iff]
    simp
theorem toks_tup : ∀ {a b : List V}, sameKs a b = true → lexLt itemOrd (PySem.W.keyToksAll (a.map dat)) (PySem.W.keyToksAll (b.map dat)) = tupLt a b
  | [], [], _ => by rw [PyProof.Rows.lex_irrefl]; simp [tupLt]
  | [], _ :: _, _ => by
    rw [List.map_cons, PySem.W.toks_all_cons]
    simp only [List.map_nil, PySem.W.keyToksAll]
    rw [lex_diff (O := itemOrd) (by simp)]
    simp [itemLt, tupLt]
  | _ :: _, [], _ => by
    rw [List.map_cons, PySem.W.toks_all_cons]
    simp only [List.map_nil, PySem.W.keyToksAll]
    rw [lex_diff (O := itemOrd) (by simp)]
    simp [itemLt, tupLt]
  | x :: xs, y :: ys, h => by
    have h' : (sameK x y && sameKs xs ys) = true := h
    rw [Bool.and_eq_true] at h'
    rw [List.map_cons, List.map_cons]
    unfold tupLt
    by_cases e : x = y
    · rw [if_pos e, PySem.W.dataLt_all_yes (alike_dat h'.1) (by rw [eqv_dat h'.1]; exact decide_eq_true e), toks_tup h'.2]
    · rw [if_neg e, PySem.W.dataLt_all_no (alike_dat h'.1) (by rw [eqv_dat h'.1]; exact decide_eq_false e), lt_dat h'.1]
theorem tupLt_self (a : List V) : sameKs a a = true → tupLt a a = false := fun h => by
  rw [tup_cLt h]
  exact decide_eq_false (List.lt_irrefl _)
theorem toks_nest {x y : V} {a b : List V} (h : sameK x y = true) (g : sameKs a b = true) : lexLt itemOrd (PySem.W.keyToksAll [dat x, .tuple (a.map dat)]) (PySem.W.keyToksAll [dat y, .tuple (b.map dat)]) = tupLt (x :: a) (y :: b) := by
  have ga : PySem.W.alike (.tuple (a.map dat)) (.tuple (b.map dat)) = true := alike_dats g
  show _ = (if x = y then tupLt a b else vLt x y)
  by_cases e : x = y
  · rw [if_pos e, PySem.W.dataLt_all_yes (alike_dat h) (by rw [eqv_dat h]; exact decide_eq_true e)]
    by_cases e2 : a = b
    · subst e2
      rw [PyProof.Rows.lex_irrefl]
      exact (tupLt_self a g).symm
    · have : PyData.eqv (.tuple (a.map dat)) (.tuple (b.map dat)) = false := by
        show PyData.eqvAll _ _ = false
        rw [eqv_dats g]; exact decide_eq_false e2
      rw [PySem.W.dataLt_all_no ga this, PySem.W.dataLt_tuple, toks_tup g]
  · rw [if_neg e, PySem.W.dataLt_all_no (alike_dat h) (by rw [eqv_dat h]; exact decide_eq_false e), lt_dat h]
theorem dep_dats : ∀ (a : List V), PyData.depthAll (a.map dat) ≤ 1
  | [] => by decide
  | x :: a => by
    have := dep_dats a
    cases x <;> (simp only [List.map_cons, PyData.depthAll, dat, PyData.depth] at *; omega)
section
variable {prog : Program} {w : World} {A : Around} {s : Shared} {E : Value → Shared → Prop}
theorem plain_all : ∀ {l : List V}, sameKs l l = true → ∀ z ∈ l, Plain z
  | x :: xs, h, z, hz => by
    have h' : (sameK x x && sameKs xs xs) = true := h
    rw [Bool.and_eq_true] at h'
    rcases List.mem_cons.mp hz with rfl | hz
    · exact (plain_same h'.1).1
    · exact plain_all h'.2 z hz
theorem dat_not_tup (x : V) (t : List PyData) : dat x ≠ .tuple t := by
  cases x <;> intro h <;> cases h
theorem dep_dat (x : V) : PyData.depth (dat x) ≤ 1 := by
  cases x <;> (simp only [dat, PyData.depth]; first | omega | decide)
theorem nest_cmp {b : Bool} {vs : List Value} {k : Value → List V} (hu : A.units + 64 < cLine) (hp : ∀ v ∈ vs, NestV s.heap v (k v)) (hs : ∀ v ∈ vs, ∀ u ∈ vs, sameKs (k v) (k u) = true) : SrtO.Cmp prog w A s (tuples' b) (fun p => p.1 ∈ vs) (SrtO.lt2 fun v u => cLt (k v) (k u)) := by
  intro p q hm hm'
  show wpAny (model prog w) A (keyLt' (tuples' b) p.1 q.1) (fun r s' => s' = s ∧ r = cLt (k p.1) (k q.1)) (fun _ _ => False) s
  rw [← tup_cLt (hs _ hm _ hm')]
  have h2 := hs _ hm _ hm'
  have hA := hs _ hm _ hm
  have hB := hs _ hm' _ hm'
  have hpp := hp _ hm
  have hqq := hp _ hm'
  generalize k p.1 = kp at hpp h2 hA ⊢
  generalize k q.1 = kq at hqq h2 hB ⊢
  obtain ⟨a, c, o, o2, x, rs, u, its, n, m, rfl, e, ho, hc, hd, rx, ho2, hc2, hd2, rv⟩ := hpp
  obtain ⟨a', c', o', o2', x', rs', u', its', n', m', rfl, e', ho', hc', hd', rx', ho2', hc2', hd2', rv'⟩ := hqq
  have h' : (sameK x x' && sameKs rs rs') = true := h2
  rw [Bool.and_eq_true] at h'
  have pA := plain_all hA
  have pB := plain_all hB
  have r1 : ReadsAll s.heap [u, .ref c] [dat x, .tuple (rs.map dat)] [] := ReadsAll.cons (reads_dat (pA _ List.mem_cons_self) rx) (ReadsAll.cons (Reads.tuple ho2 hc2 hd2 (reads_dats (fun z hz => pA z (List.mem_cons_of_mem _ hz)) rv)) .nil)
  have r2 : ReadsAll s.heap [u', .ref c'] [dat x', .tuple (rs'.map dat)] [] := ReadsAll.cons (reads_dat (pB _ List.mem_cons_self) rx') (ReadsAll.cons (Reads.tuple ho2' hc2' hd2' (reads_dats (fun z hz => pB z (List.mem_cons_of_mem _ hz)) rv')) .nil)
  rw [e, e']
  refine PySem.W.kat_lt ho hd ho' hd' ?_
  refine PySem.W.katLex_alike (Q := fun b s' => s' = s ∧ b = tupLt (x :: rs) (x' :: rs')) [dat x, .tuple (rs.map dat)] [dat x', .tuple (rs'.map dat)] 0 _ _ _ _ r1 r2 ?_ ?_ (fun _ _ y r t ey => ?_) rfl ⟨rfl, toks_nest h'.1 h'.2⟩
  · show (PySem.W.alike (dat x) (dat x') && (PySem.W.alikeAll (rs.map dat) (rs'.map dat) && true)) = true
    rw [alike_dat h'.1, alike_dats h'.2]; rfl
  · have d1 := dep_dats rs
    have d2 := dep_dat x
    have : PyData.depthAll [dat x, .tuple (rs.map dat)] ≤ 64 := by
      simp only [PyData.depthAll, PyData.depth]
      omega
    have m1 := Nat.min_le_left (PyData.depthAll [dat x, .tuple (rs.map dat)]) (PyData.depthAll [dat x', .tuple (rs'.map dat)])
    omega
  · cases ey
    exact dat_not_tup _ _
open Classical in
theorem nest_kind {T : String} {vs : List Value} {k : Value → List V} {Q : SortKind → Shared → Prop} (h0 : 0 < vs.length) (hp : ∀ v ∈ vs, NestV s.heap v (k v)) (ht : ∀ v ∈ vs, Head T (k v)) (hq : Q (tuples' (Value.type T != Value.type "tuple")) s) : wpAny (model prog w) A (keyKind' vs.toArray) Q E s := by
  have hx : ∀ v ∈ vs, ∃ ks, TupV s.heap v ks ∧ Head T ks := by
    intro v hv
    have hpp := hp v hv
    have hh := ht v hv
    obtain ⟨a, c, o, o2, x, rs, u, its, n, m, e1, e, ho, hc, hd, rx, _⟩ := hpp
    obtain ⟨y, r, ek, fx⟩ := hh
    rw [e1] at ek
    cases ek
    exact ⟨[x, .ref c], ⟨a, o, [u, .ref c], n, e, ho, hc, hd, .cons rx (.cons rfl .nil)⟩, x, _, rfl, fx⟩
  let k' : Value → List V := fun v => if h : ∃ ks, TupV s.heap v ks ∧ Head T ks then h.choose else []
  have hk : ∀ v ∈ vs, TupV s.heap v (k' v) ∧ Head T (k' v) := by
    intro v hv
    have h := hx v hv
    show TupV s.heap v (if h : ∃ ks, TupV s.heap v ks ∧ Head T ks then h.choose else []) ∧ Head T (if h : ∃ ks, TupV s.heap v ks ∧ Head T ks then h.choose else [])
    rw [dif_pos h]
    exact h.choose_spec
  exact tup_kind (k := k') h0 (fun v hv => (hk v hv).1) (fun v hv => (hk v hv).2) hq
end
/-- keys: a thing, and a tuple of things -/
def keyN (X : Cx) {α : Type} (gk : α → List V) (T : String) : KeyD X gk T where
  At := NestA gk
  kv := kvN
  VV := NestV
  kv_at := kvN_at
  same := fun ⟨x, ks, r, e, h1, h2⟩ s => ⟨x, ks, r, e, s _ _ h1, s _ _ h2⟩
  wr := fun ⟨x, ks, r, e, h1, h2⟩ hp => ⟨x, ks, r, e, by rw [upd_ne (ne_of h1 hp (by intro z; cases z))]; exact h1, by rw [upd_ne (ne_of h2 hp (by intro z; cases z))]; exact h2⟩
  vof := nestV_of
  kind := nest_kind
  cmp := nest_cmp
end Sh
set_option Elab.async false
set_option linter.all false
set_option maxRecDepth 100000
set_option maxHeartbeats 4000000
namespace Sh
open PySem PySem.Spec PyProof.Rows L2
open SX (S S_inj S_len S_cat)
open Bk (Rule firstAt lg bestUp used left drain pushS Wf quarrel Meets Ov ovs lf stAt stP stI)
local macro_rules | `(tactic| walk_at "nx") => `(tactic| repeat (with_reducible first | refine Sh.gn_mk ?_ | refine Sh.nx_mk ?_ | refine Sh.st_nx ?_ | refine Sh.rt_mk ?_ | refine Sh.ct_mk ?_ | refine Sh.bk_mk ?_))
local macro_rules | `(tactic| walk_at "sq") => `(tactic| first | exact SqL.of upd_same | exact SqT.of upd_same | exact SqL.of (by assumption) | exact SqT.of (by assumption) | assumption | exact Or.inl (SqL.of (by assumption)) | exact Or.inr (SqT.of (by assumption)) | exact Or.inl (by assumption) | exact Or.inr (by assumption))
local macro_rules | `(tactic| walk_at "hp") => `(tactic| first | exact upd_same | assumption)
local macro_rules | `(tactic| walk_at "sz") => `(tactic| first | exact Nat.le_of_ble_eq_true rfl | omega)
local macro_rules | `(tactic| walk_at "sd") => `(tactic| first | omega | exact rfl | assumption | (show (0 : Int) < _; omega) | exact And.intro (by omega) (by omega) | exact Or.inl (And.intro (by omega) (by omega)) | exact Or.inr (And.intro (by omega) (by omega)) | omega | exact Sh.sz_S (by omega) | decide)
local macro_rules | `(tactic| walk_at "rd1") => `(tactic| first
  | (with_reducible first | refine Sh.gn_mk ?_ | refine Sh.nx_mk ?_ | refine Sh.st_nx ?_ | refine Sh.rt_mk ?_ | refine Sh.ct_mk ?_ | refine Sh.bk_mk ?_)
  | refine Exists.intro (α := V) _ (And.intro rfl ?_)
  | refine Exists.intro (α := Bool) _ (And.intro rfl ?_)
  | refine Exists.intro (α := Int) _ (And.intro rfl ?_)
  | refine Exists.intro (α := PySem.Str) _ (And.intro rfl ?_)
  | refine Exists.intro (α := Int) _ (Exists.intro (α := Int) _ (And.intro rfl (And.intro rfl ?_)))
  | refine Exists.intro (α := PySem.Str) _ (Exists.intro (α := PySem.Str) _ (And.intro rfl (And.intro rfl ?_)))
  | refine Exists.intro (α := Int) _ (Exists.intro (α := Int) _ (And.intro rfl ?_))
  | refine Or.inl (Exists.intro (α := Int) _ (And.intro rfl ?_))
  | refine Exists.intro _ (Exists.intro _ (Exists.intro _ (Exists.intro _ (And.intro rfl (And.intro rfl (And.intro (by walk_at "sq") (And.intro rfl ?_)))))))
  | refine Exists.intro _ (Exists.intro _ (Exists.intro _ (Exists.intro _ (And.intro rfl (And.intro rfl (And.intro (by walk_at "hp") (And.intro rfl ?_)))))))
  | refine And.intro (by walk_at "sd") ?_
  )
local macro_rules | `(tactic| walk_at "rd") => `(tactic| repeat walk_at "rd1")
local macro_rules | `(tactic| walk_at "lk") => `(tactic| first | exact rfl | (rw [lookup_putF, if_pos rfl]) | (rw [lookup_putF, if_neg (by decide +kernel)]; walk_at "lk"))

section
variable {P : Program} {w : World} {K : PySem.W.Frag} {mg : Str → Option Value} {base : Heap} {CB CE : Addr}
/-- a step -/
def StpV (H : Hp) (v : V) (p : Nat × Nat) : Prop := ∃ q, v = .ref q ∧ H q = some (.tup [.int (p.1 : Nat), .int (p.2 : Nat)])
theorem StpV.same {H H' : Hp} {v : V} {p : Nat × Nat} (h : StpV H v p) (s : Same H H') : StpV H' v p := let ⟨q, e, h⟩ := h; ⟨q, e, s _ _ h⟩
theorem StpV.mut {H : Hp} {v : V} {o : Nat × Nat} {p : Addr} {xs ys : List V} (hp : H p = some (.lst xs)) (h : StpV H v o) : StpV (upd H p (.lst ys)) v o := by
  obtain ⟨q, e, h⟩ := h
  exact ⟨q, e, by rw [upd_ne (ne_of h hp (by intro z; cases z))]; exact h⟩
def spAllSteps (K : PySem.W.Frag) (C : Addr) : Sp := fun vs H Q _ => ∃ (p : Addr) (sg t : List Nat) (R : List Rule), vs = [.ref p, .str (S t)] ∧ BookAt K C H p sg R ∧ R.length ≤ 64 ∧ (∀ r ∈ R, r.1.length ≤ 4) ∧ t.length ≤ 60 ∧
  ∀ (q : Addr) (xs : List V) (H' : Hp), H q = none → Same H H' → H' q = some (.lst xs) → Items StpV H' xs (stI R t t.length) → Q (.ref q) H'
theorem c_all_steps (T : TxtC K mg CB) : Cal P w K mg base CX0 1 "all_steps" (spAllSteps K CB) := by
  refine Cal.mk0 T.d_all_steps sc_all_steps (fun vs H Q E h => ?_) (fun f cdv A outer s H vs Q E hr h => ?_)
  · obtain ⟨p, sg, t, R, rfl, _⟩ := h
    rfl
  · obtain ⟨p, sg, t, R, rfl, BA, hl, h4, ht, k⟩ := h
    have cl := T.k_Book.cl
    obtain ⟨dx, fs, a, xs, pl, hp, g1, g2, hR, g3, L, g4, g5⟩ := id BA
    have hlx := hR.len
    have hSt := S_len t
    refine ⟨_, (pss_cons (ps_set (i := 2) sc_all_steps.nd rfl (Or.inl rfl) (pe_lst pa_nil))
  (pss_cons (ps_for PassesOwn.never rfl (pi_range1 (by rfl) T.b_range (pa_cons (pe_callB call_len_str (by rfl) T.b_len (by decide +kernel) (pa_cons (pv 1) pa_nil)) pa_nil)) (pg_name (i := 3) sc_all_steps.nd rfl (Or.inl rfl))
    (pss_one (ps_for PassesOwn.never rfl (pi_range1 (by rfl) T.b_range (pa_cons (pe_callB call_len_seq (by rfl) T.b_len (by decide +kernel) (pa_cons (pe_fld (pv 0) rfl) pa_nil)) pa_nil)) (pg_name (i := 4) sc_all_steps.nd rfl (Or.inl rfl))
      (pss_cons (ps_set (i := 5) sc_all_steps.nd rfl (Or.inl rfl) (pe_ix ix_tup (pe_ix ix_tup (pe_fld (pv 0) rfl) (pv 4) (fun _ _ => rfl)) pe_int (fun _ _ => rfl)))
      (pss_one (ps_if (pt_cmpR op_eq (pe_slice sl_str (pv 1) (po_some (pv 3)) (po_some (pe_op op_add (pv 3) (pe_callB call_len_str (by rfl) T.b_len (by decide +kernel) (pa_cons (pv 5) pa_nil))))) (pv 5) (nomark _))
        (pss_one (ps_expr (pe_bm PySem.F.plainAttrs_list PySem.F.slot_list_append PySem.F.type_list_append mt_append (pv 2) (pa_cons (pe_tup (pa_cons (pv 3) (pa_cons (pv 4) pa_nil))) pa_nil))))
        pss_nil))))))
  (pss_one (ps_ret (pv 2))))), ?_⟩
    refine ⟨by walk_at "sz", fun q hq => ?_⟩
    have s1 : Same H (upd H q (.lst [])) := same_new hq
    walk_at "rd"
    refine for_range (lo := 0) (n := (((S t).length : Int)).toNat) (fun i σ H2 => ∃ (ys : List V) (v3 v4 v5 : Option V), σ = [some (.ref p), some (.str (S t)), some (.ref q), v3, v4, v5] ∧ Same H H2 ∧ H2 q = some (.lst ys) ∧ Items StpV H2 ys (stI R t i))
      ⟨[], _, _, _, rfl, s1, upd_same, Items.nil⟩ ?_ ?_
    · rintro i σ H2 hi ⟨ys, v3, v4, v5, rfl, s2, hq2, it2⟩
      rw [Int.zero_add]
      have hi2 : i < t.length := by omega
      walk_at "nx"
      refine ⟨_, rfl, p, CB, dx, fs, _, rfl, s2 _ _ hp, cl, T.n_Book_rules, g2, a, xs, rfl, .inr (hR.same s2).sq, ?_⟩
      walk_at "rd"
      refine for_range (lo := 0) (n := ((xs.length : Int)).toNat) (fun j σ H3 => ∃ (ys : List V) (v4 v5 : Option V), σ = [some (.ref p), some (.str (S t)), some (.ref q), some (.int (i : Nat)), v4, v5] ∧ Same H H3 ∧ H3 q = some (.lst ys) ∧ Items StpV H3 ys (stI R t i ++ stP R t i j))
        ⟨ys, _, _, rfl, s2, hq2, by simpa [stP] using it2⟩ ?_ ?_
      · clear it2 hq2 s2 v5 v4 v3 ys
        rintro j σ H3 hj ⟨ys, v4, v5, rfl, s3, hq3, it3⟩
        rw [Int.zero_add]
        have hj2 : j < R.length := by omega
        have hr3 : R[j]? = some R[j] := by simp [hj2]
        have hlj : lf R j = R[j].1 := Bk.lf_get hr3
        have l4 : R[j].1.length ≤ 4 := h4 _ (List.getElem_mem hj2)
        obtain ⟨qr, hqr, sqr⟩ := (hR.same s3).get hr3
        have hSl := S_len R[j].1
        have hz : ys.length < sizeLine := by
          have z1 := Bk.stI_len R t i
          have z2 := Bk.stP_len R t i j
          have z3 : i * R.length ≤ 60 * 64 := Nat.mul_le_mul (by omega) hl
          have z4 := it3.1
          rw [List.length_append] at z4
          exact Nat.lt_of_le_of_lt (m := 10000) (by omega) (by decide)
        walk_at "nx"
        refine ⟨_, rfl, p, CB, dx, fs, _, rfl, s3 _ _ hp, cl, T.n_Book_rules, g2, _, rfl, a, xs, _, .ref qr, rfl, rfl, (hR.same s3).sq, atI_nat hqr, qr, _, 0, .str (S R[j].1), rfl, rfl, sqr, rfl, ?_⟩
        walk_at "nx"
        walk_at "rd"
        rw [cut_mid (by omega) (by omega), show ((i : Nat) : Int).toNat = i by omega, show ((i : Nat) + ((S R[j].1).length : Int)).toNat - i = R[j].1.length by omega]
        by_cases hc : (t.drop i).take R[j].1.length = R[j].1
        · have ho : stAt R t i j = some (i, j) := by unfold stAt; rw [hlj, if_pos hc]
          rw [show decide (V.str (S ((t.drop i).take R[j].1.length)) = V.str (S R[j].1)) = true from decide_eq_true (by rw [hc])]
          refine iteT ?_
          refine ⟨_, rfl, .inl ⟨rfl, _, SqL.of hq3⟩, ?_⟩
          walk_at "rd"
          refine ⟨by walk_at "sz", fun q9 hq9 => ?_⟩
          have s5 : Same H3 (upd H3 q9 (.tup [.int (i : Nat), .int (j : Nat)])) := same_new hq9
          refine ⟨q, _, _, rfl, rfl, s5 _ _ hq3, hz, ?_⟩
          refine ⟨_, _, _, rfl, same_mut (s3.trans s5) hq, upd_same, ?_⟩
          rw [Bk.stP_succ, ho, ← List.append_assoc]
          exact it3.snoc (fun x y r => (r.same s5).mut (s5 _ _ hq3)) ⟨q9, rfl, by rw [upd_ne (ne_of_none hq3 hq9).symm]; exact upd_same⟩
        · have ho : stAt R t i j = none := by unfold stAt; rw [hlj, if_neg hc]
          rw [show decide (V.str (S ((t.drop i).take R[j].1.length)) = V.str (S R[j].1)) = false from decide_eq_false (fun e => hc (S_inj (V.str.inj e)))]
          refine iteF ?_
          walk_at "rd"
          refine ⟨ys, _, _, rfl, s3, hq3, ?_⟩
          rw [Bk.stP_succ, ho]
          simpa using it3
      · rintro σ H3 ⟨ys, v4, v5, rfl, s3, hq3, it3⟩
        walk_at "nx"
        refine ⟨ys, _, _, _, rfl, s3, hq3, ?_⟩
        rw [Bk.stI_succ]
        rw [show ((xs.length : Int)).toNat = R.length by omega] at it3
        exact it3
    · rintro σ H2 ⟨ys, v3, v4, v5, rfl, s2, hq2, it2⟩
      walk_at "rd"
      rw [show (((S t).length : Int)).toNat = t.length by omega] at it2
      exact k q ys H2 hq s2 hq2 it2
def spSteps (K : PySem.W.Frag) (C : Addr) : Sp := fun vs H Q _ => ∃ (p : Addr) (sg t : List Nat) (R : List Rule), vs = [.ref p, .str (S t)] ∧ BookAt K C H p sg R ∧ R.length ≤ 64 ∧ (∀ r ∈ R, r.1.length ≤ 4) ∧ t.length ≤ 60 ∧ (∀ c ∈ t, c ∈ sg) ∧
  ∀ (q : Addr) (xs : List V) (H' : Hp), Same H H' → H' q = some (.tup xs) → Items StpV H' xs (stI R t t.length) → Q (.ref q) H'
theorem c_steps (T : TxtC K mg CB) : Cal P w K mg base CX0 3 "steps" (spSteps K CB) := by
  have c_check_text := c_check_text (P := P) (w := w) (base := base) T.toTxt
  have c_all_steps := c_all_steps (P := P) (w := w) (base := base) T
  refine Cal.mk0 T.d_steps sc_steps (fun vs H Q E h => ?_) (fun f cdv A outer s H vs Q E hr h => ?_)
  · obtain ⟨p, sg, t, R, rfl, _⟩ := h
    rfl
  · obtain ⟨p, sg, t, R, rfl, BA, hl, h4, ht, hc, k⟩ := h
    have cl := T.k_Book.cl
    obtain ⟨dx, fs, a, xs, pl, hp, g1, g2, hR, g3, L, g4, g5⟩ := id BA
    refine ⟨_, (pss_cons (ps_expr (pe_c c_check_text hr (by decide) rfl (pa_cons (pe_fld (pv 0) rfl) (pa_cons (pv 1) pa_nil))))
  (pss_one (ps_ret (pe_callTy call_tuple_of (by rfl) T.b_tuple (by decide +kernel) (pa_cons (pe_c c_all_steps hr (by decide) rfl (pa_cons (pv 0) (pa_cons (pv 1) pa_nil))) pa_nil))))), ?_⟩
    refine ⟨_, rfl, p, CB, dx, fs, _, rfl, hp, cl, T.n_Book_signs, g1, _, rfl, sg, t, rfl, by omega, hc, ?_⟩
    walk_at "nx"
    refine ⟨_, rfl, _, rfl, p, sg, t, R, rfl, BA, hl, h4, ht, fun q ys H1 _ s1 hq1 it1 => ?_⟩
    refine ⟨q, _, rfl, .inl ⟨SqL.of hq1, fun l hl => ?_⟩⟩
    have s2 := same_new (o := .tup ys) hl
    exact k l ys _ (s1.trans s2) upd_same (it1.mono fun x y h => h.same s2)
end
end Sh
set_option Elab.async false
set_option linter.all false
set_option maxRecDepth 100000
set_option maxHeartbeats 4000000
namespace Sh
open PySem PySem.Spec PyProof.Rows L2
open SX (S S_inj S_len S_cat)
open Bk (Rule firstAt lg bestUp used left drain pushS Wf stI)
local macro_rules | `(tactic| walk_at "nx") => `(tactic| repeat (with_reducible first | refine Sh.gn_mk ?_ | refine Sh.nx_mk ?_ | refine Sh.st_nx ?_ | refine Sh.rt_mk ?_ | refine Sh.ct_mk ?_ | refine Sh.bk_mk ?_))
local macro_rules | `(tactic| walk_at "sq") => `(tactic| first | exact SqL.of upd_same | exact SqT.of upd_same | exact SqL.of (by assumption) | exact SqT.of (by assumption) | assumption | exact Or.inl (SqL.of (by assumption)) | exact Or.inr (SqT.of (by assumption)) | exact Or.inl (by assumption) | exact Or.inr (by assumption))
local macro_rules | `(tactic| walk_at "hp") => `(tactic| first | exact upd_same | assumption)
local macro_rules | `(tactic| walk_at "sz") => `(tactic| first | exact Nat.le_of_ble_eq_true rfl | omega)
local macro_rules | `(tactic| walk_at "sd") => `(tactic| first | omega | exact rfl | assumption | (show (0 : Int) < _; omega) | exact And.intro (by omega) (by omega) | exact Or.inl (And.intro (by omega) (by omega)) | exact Or.inr (And.intro (by omega) (by omega)) | omega | exact Sh.sz_S (by omega) | decide)
local macro_rules | `(tactic| walk_at "rd1") => `(tactic| first
  | (with_reducible first | refine Sh.gn_mk ?_ | refine Sh.nx_mk ?_ | refine Sh.st_nx ?_ | refine Sh.rt_mk ?_ | refine Sh.ct_mk ?_ | refine Sh.bk_mk ?_)
  | refine Exists.intro (α := V) _ (And.intro rfl ?_)
  | refine Exists.intro (α := Bool) _ (And.intro rfl ?_)
  | refine Exists.intro (α := Int) _ (And.intro rfl ?_)
  | refine Exists.intro (α := PySem.Str) _ (And.intro rfl ?_)
  | refine Exists.intro (α := Int) _ (Exists.intro (α := Int) _ (And.intro rfl (And.intro rfl ?_)))
  | refine Exists.intro (α := PySem.Str) _ (Exists.intro (α := PySem.Str) _ (And.intro rfl (And.intro rfl ?_)))
  | refine Exists.intro (α := Int) _ (Exists.intro (α := Int) _ (And.intro rfl ?_))
  | refine Or.inl (Exists.intro (α := Int) _ (And.intro rfl ?_))
  | refine Exists.intro _ (Exists.intro _ (Exists.intro _ (Exists.intro _ (And.intro rfl (And.intro rfl (And.intro (by walk_at "sq") (And.intro rfl ?_)))))))
  | refine Exists.intro _ (Exists.intro _ (Exists.intro _ (Exists.intro _ (And.intro rfl (And.intro rfl (And.intro (by walk_at "hp") (And.intro rfl ?_)))))))
  | refine And.intro (by walk_at "sd") ?_
  )
local macro_rules | `(tactic| walk_at "rd") => `(tactic| repeat walk_at "rd1")
local macro_rules | `(tactic| walk_at "lk") => `(tactic| first | exact rfl | (rw [lookup_putF, if_pos rfl]) | (rw [lookup_putF, if_neg (by decide +kernel)]; walk_at "lk"))

section
variable {P : Program} {w : World} {K : PySem.W.Frag} {mg : Str → Option Value} {base : Heap} {CB XR FR DI XO FO XT FT DT SE : Addr}
def spStepsX (K : PySem.W.Frag) (C XT : Addr) : Sp := fun vs H Q E => ∃ (p : Addr) (sg t : List Nat) (R : List Rule), vs = [.ref p, .str (S t)] ∧ BookAt K C H p sg R ∧ R.length ≤ 64 ∧ (∀ r ∈ R, r.1.length ≤ 4) ∧ t.length ≤ 60 ∧
  (isText sg t 0 200 = false → Thrown E H XT "thing" (.str (S t))) ∧
  (isText sg t 0 200 = true → ∀ (q : Addr) (xs : List V) (H' : Hp), Same H H' → H' q = some (.tup xs) → Items StpV H' xs (stI R t t.length) → Q (.ref q) H')
theorem c_X_steps (T : TxtX P K mg CB XR FR DI XO FO XT FT DT SE) : Cal P w K mg base (L2.CX P w) 4 "steps" (spStepsX K CB XT) := by
  have c_X_check_text := c_X_check_text (P := P) (w := w) (base := base) T
  have c_all_steps := c_all_steps (P := P) (w := w) (base := base) T.toTxtC
  refine Cal.mkX T.toTxtC.toTxt.d_steps sc_steps (fun vs H Q E h => ?_) (fun f cdv A outer s H vs Q E hr h => ?_)
  · obtain ⟨p, sg, t, R, rfl, _⟩ := h
    rfl
  · obtain ⟨p, sg, t, R, rfl, BA, hl, h4, ht, ky, k⟩ := h
    have cl := T.k_Book.cl
    obtain ⟨dx, fs, a, xs, pl, hp, g1, g2, hR, g3, L, g4, g5⟩ := id BA
    refine ⟨_, (pss_cons (ps_expr (pe_cX c_X_check_text hr (by decide) (takes_of rfl rfl rfl rfl) rfl (pa_cons (pe_fld (pv 0) rfl) (pa_cons (pv 1) pa_nil))))
  (pss_one (ps_ret (pe_callTy call_tuple_of (by rfl) T.b_tuple (by decide +kernel) (pa_cons (pe_c c_all_steps hr (by decide) rfl (pa_cons (pv 0) (pa_cons (pv 1) pa_nil))) pa_nil))))), ?_⟩
    refine ⟨_, rfl, p, CB, dx, fs, _, rfl, hp, cl, T.n_Book_signs, g1, _, rfl, sg, t, rfl, by omega, fun hc => ?_, fun hc => ky hc⟩
    walk_at "nx"
    refine ⟨_, rfl, _, rfl, p, sg, t, R, rfl, BA, hl, h4, ht, fun q ys H1 _ s1 hq1 it1 => ?_⟩
    refine ⟨q, _, rfl, .inl ⟨SqL.of hq1, fun l hl => ?_⟩⟩
    have s2 := same_new (o := .tup ys) hl
    exact k hc l ys _ (s1.trans s2) upd_same (it1.mono fun x y h => h.same s2)
end
end Sh
set_option Elab.async false
set_option linter.all false
set_option maxRecDepth 100000
set_option maxHeartbeats 4000000
namespace Sh
open PySem PySem.Spec PyProof.Rows L2
open SX (S S_inj S_len S_cat)
open Bk (Rule firstAt lg bestUp used left drain pushS Wf stI)
local macro_rules | `(tactic| walk_at "nx") => `(tactic| repeat (with_reducible first | refine Sh.gn_mk ?_ | refine Sh.nx_mk ?_ | refine Sh.st_nx ?_ | refine Sh.rt_mk ?_ | refine Sh.ct_mk ?_ | refine Sh.bk_mk ?_))
local macro_rules | `(tactic| walk_at "sq") => `(tactic| first | exact SqL.of upd_same | exact SqT.of upd_same | exact SqL.of (by assumption) | exact SqT.of (by assumption) | assumption | exact Or.inl (SqL.of (by assumption)) | exact Or.inr (SqT.of (by assumption)) | exact Or.inl (by assumption) | exact Or.inr (by assumption))
local macro_rules | `(tactic| walk_at "hp") => `(tactic| first | exact upd_same | assumption)
local macro_rules | `(tactic| walk_at "sz") => `(tactic| first | exact Nat.le_of_ble_eq_true rfl | omega)
local macro_rules | `(tactic| walk_at "sd") => `(tactic| first | omega | exact rfl | assumption | (show (0 : Int) < _; omega) | exact And.intro (by omega) (by omega) | exact Or.inl (And.intro (by omega) (by omega)) | exact Or.inr (And.intro (by omega) (by omega)) | omega | exact Sh.sz_S (by omega) | decide)
local macro_rules | `(tactic| walk_at "rd1") => `(tactic| first
  | (with_reducible first | refine Sh.gn_mk ?_ | refine Sh.nx_mk ?_ | refine Sh.st_nx ?_ | refine Sh.rt_mk ?_ | refine Sh.ct_mk ?_ | refine Sh.bk_mk ?_)
  | refine Exists.intro (α := V) _ (And.intro rfl ?_)
  | refine Exists.intro (α := Bool) _ (And.intro rfl ?_)
  | refine Exists.intro (α := Int) _ (And.intro rfl ?_)
  | refine Exists.intro (α := PySem.Str) _ (And.intro rfl ?_)
  | refine Exists.intro (α := Int) _ (Exists.intro (α := Int) _ (And.intro rfl (And.intro rfl ?_)))
  | refine Exists.intro (α := PySem.Str) _ (Exists.intro (α := PySem.Str) _ (And.intro rfl (And.intro rfl ?_)))
  | refine Exists.intro (α := Int) _ (Exists.intro (α := Int) _ (And.intro rfl ?_))
  | refine Or.inl (Exists.intro (α := Int) _ (And.intro rfl ?_))
  | refine Exists.intro _ (Exists.intro _ (Exists.intro _ (Exists.intro _ (And.intro rfl (And.intro rfl (And.intro (by walk_at "sq") (And.intro rfl ?_)))))))
  | refine Exists.intro _ (Exists.intro _ (Exists.intro _ (Exists.intro _ (And.intro rfl (And.intro rfl (And.intro (by walk_at "hp") (And.intro rfl ?_)))))))
  | refine And.intro (by walk_at "sd") ?_
  )
local macro_rules | `(tactic| walk_at "rd") => `(tactic| repeat walk_at "rd1")
local macro_rules | `(tactic| walk_at "lk") => `(tactic| first | exact rfl | (rw [lookup_putF, if_pos rfl]) | (rw [lookup_putF, if_neg (by decide +kernel)]; walk_at "lk"))

section
variable {P : Program} {w : World} {K : PySem.W.Frag} {mg : Str → Option Value} {base : Heap} {CB XR FR DI XO FO XT FT DT SE : Addr}
/-- an exception with two fields is let out -/
def Thrown2 (E : XK) (H : Hp) (X : Addr) (f g : Str) (u v : V) : Prop := ∀ d, H d = none → E (.ref X) (some d) (upd H d (.xd [(g, v), (f, u)]))
def spStepX (K : PySem.W.Frag) (C XO : Addr) : Sp := fun vs H Q E => ∃ (b : Addr) (sg t : List Nat) (R : List Rule) (u v : V), vs = [.ref b, .str (S t), u, v] ∧ BookAt K C H b sg R ∧ R.length ≤ 64 ∧ (∀ r ∈ R, r.1.length ≤ 4 ∧ r.2.length ≤ 4) ∧ t.length ≤ 200 ∧ isText sg t 0 200 = true ∧
  ((∃ (p n : Nat) (r : Rule), u = .int p ∧ v = .int n ∧ R[n]? = some r ∧ canS R t p n = true ∧ Q (.str (S (madeS r t p))) H) ∨
   (okStr u v ∧ Thrown2 E H XO "place" "number" u v ∧ ((∃ p n : Int, u = .int p ∧ v = .int n ∧ canS R t p n = false) ∨ NotInt K H v ∨ ∃ n : Int, v = .int n ∧ NotInt K H u)))
theorem c_X_step (T : TxtX P K mg CB XR FR DI XO FO XT FT DT SE) : Cal P w K mg base (L2.CX P w) 4 "step" (spStepX K CB XO) := by
  have x_NoStep := x_NoStep (P := P) (w := w) (base := base) T
  have c_X_check_text := c_X_check_text (P := P) (w := w) (base := base) T
  have c_made_step := c_made_step (P := P) (w := w) (base := base) T.toTxtC
  have c_can_step := c_can_step (P := P) (w := w) (base := base) T.toTxtC
  refine Cal.mkX T.toTxtC.toTxt.d_step sc_step (fun vs H Q E h => ?_) (fun f cdv A outer s H vs Q E hr h => ?_)
  · obtain ⟨b, sg, t, R, u, v, rfl, _⟩ := h
    rfl
  · obtain ⟨b, sg, t, R, u, v, rfl, BA, hl, h4, ht, hc, k⟩ := h
    have cl := T.k_Book.cl
    obtain ⟨dx, fs, a, xs, pl, hp, g1, g2, hR, g3, L, g4, g5⟩ := id BA
    refine ⟨_, (pss_cons (ps_expr (pe_cX c_X_check_text hr (by decide) (takes_of rfl rfl rfl rfl) rfl (pa_cons (pe_fld (pv 0) rfl) (pa_cons (pv 1) pa_nil))))
  (pss_cons (ps_if (pt_not (pt_truth (pe_c c_can_step hr (by decide) rfl (pa_cons (pv 0) (pa_cons (pv 1) (pa_cons (pv 2) (pa_cons (pv 3) pa_nil))))) (by intro _; rfl)))
    (pss_one (ps_raiseX T.e_NoStep x_NoStep hr (by decide) rfl (takes_of rfl rfl rfl rfl) rfl (pa_cons (pv 2) (pa_cons (pv 3) pa_nil))))
    pss_nil)
  (pss_one (ps_ret (pe_c c_made_step hr (by decide) rfl (pa_cons (pv 0) (pa_cons (pv 1) (pa_cons (pv 2) (pa_cons (pv 3) pa_nil))))))))), ?_⟩
    refine ⟨_, rfl, b, CB, dx, fs, _, rfl, hp, cl, T.n_Book_signs, g1, _, rfl, sg, t, rfl, by omega, fun _ => ?_, fun z => by rw [hc] at z; cases z⟩
    walk_at "nx"
    rcases k with ⟨p, n, r, rfl, rfl, hr, hs, k⟩ | ⟨ok, th, k⟩
    · refine ⟨_, rfl, _, rfl, _, rfl, _, rfl, b, sg, R, t, _, _, rfl, BA, by omega, hl, fun r hr => (h4 r hr).1, .inl ⟨p, n, rfl, rfl, ?_⟩⟩
      rw [hs]
      walk_at "rd"
      refine ⟨b, sg, R, t, p, n, r, rfl, BA, hr, by omega, (h4 r (List.mem_of_getElem? hr)).1, (h4 r (List.mem_of_getElem? hr)).2, ?_⟩
      exact k
    · refine ⟨_, rfl, _, rfl, _, rfl, _, rfl, b, sg, R, t, _, _, rfl, BA, by omega, hl, fun r hr => (h4 r hr).1, ?_⟩
      rcases k with ⟨p, n, rfl, rfl, hs⟩ | nv | ⟨n, rfl, nu⟩
      · refine .inl ⟨p, n, rfl, rfl, ?_⟩
        rw [hs]
        walk_at "rd"
        exact mk2 T.e_NoStep T.nf_NoStep_place T.nf_NoStep_number ok th
      · refine .inr (.inl ⟨nv, ?_⟩)
        walk_at "rd"
        exact mk2 T.e_NoStep T.nf_NoStep_place T.nf_NoStep_number ok th
      · refine .inr (.inr ⟨n, rfl, nu, ?_⟩)
        walk_at "rd"
        exact mk2 T.e_NoStep T.nf_NoStep_place T.nf_NoStep_number ok th
end
end Sh
set_option Elab.async false
set_option linter.all false
set_option maxRecDepth 100000
set_option maxHeartbeats 4000000
namespace Sh
open PySem PySem.Spec PyProof.Rows L2
open SX (S S_inj S_len S_cat)
open Bk (Rule firstAt lg bestUp used left drain pushS Wf)
local macro_rules | `(tactic| walk_at "nx") => `(tactic| repeat (with_reducible first | refine Sh.gn_mk ?_ | refine Sh.nx_mk ?_ | refine Sh.st_nx ?_ | refine Sh.rt_mk ?_ | refine Sh.ct_mk ?_ | refine Sh.bk_mk ?_))
local macro_rules | `(tactic| walk_at "sq") => `(tactic| first | exact SqL.of upd_same | exact SqT.of upd_same | exact SqL.of (by assumption) | exact SqT.of (by assumption) | assumption | exact Or.inl (SqL.of (by assumption)) | exact Or.inr (SqT.of (by assumption)) | exact Or.inl (by assumption) | exact Or.inr (by assumption))
local macro_rules | `(tactic| walk_at "hp") => `(tactic| first | exact upd_same | assumption)
local macro_rules | `(tactic| walk_at "sz") => `(tactic| first | exact Nat.le_of_ble_eq_true rfl | omega)
local macro_rules | `(tactic| walk_at "sd") => `(tactic| first | omega | exact rfl | assumption | (show (0 : Int) < _; omega) | exact And.intro (by omega) (by omega) | exact Or.inl (And.intro (by omega) (by omega)) | exact Or.inr (And.intro (by omega) (by omega)) | omega | exact Sh.sz_S (by omega) | decide)
local macro_rules | `(tactic| walk_at "rd1") => `(tactic| first
  | (with_reducible first | refine Sh.gn_mk ?_ | refine Sh.nx_mk ?_ | refine Sh.st_nx ?_ | refine Sh.rt_mk ?_ | refine Sh.ct_mk ?_ | refine Sh.bk_mk ?_)
  | refine Exists.intro (α := V) _ (And.intro rfl ?_)
  | refine Exists.intro (α := Bool) _ (And.intro rfl ?_)
  | refine Exists.intro (α := Int) _ (And.intro rfl ?_)
  | refine Exists.intro (α := PySem.Str) _ (And.intro rfl ?_)
  | refine Exists.intro (α := Int) _ (Exists.intro (α := Int) _ (And.intro rfl (And.intro rfl ?_)))
  | refine Exists.intro (α := PySem.Str) _ (Exists.intro (α := PySem.Str) _ (And.intro rfl (And.intro rfl ?_)))
  | refine Exists.intro (α := Int) _ (Exists.intro (α := Int) _ (And.intro rfl ?_))
  | refine Or.inl (Exists.intro (α := Int) _ (And.intro rfl ?_))
  | refine Exists.intro _ (Exists.intro _ (Exists.intro _ (Exists.intro _ (And.intro rfl (And.intro rfl (And.intro (by walk_at "sq") (And.intro rfl ?_)))))))
  | refine Exists.intro _ (Exists.intro _ (Exists.intro _ (Exists.intro _ (And.intro rfl (And.intro rfl (And.intro (by walk_at "hp") (And.intro rfl ?_)))))))
  | refine And.intro (by walk_at "sd") ?_
  )
local macro_rules | `(tactic| walk_at "rd") => `(tactic| repeat walk_at "rd1")
local macro_rules | `(tactic| walk_at "lk") => `(tactic| first | exact rfl | (rw [lookup_putF, if_pos rfl]) | (rw [lookup_putF, if_neg (by decide +kernel)]; walk_at "lk"))

section
variable {P : Program} {w : World} {K : PySem.W.Frag} {mg : Str → Option Value} {base : Heap} {CB XR FR DI XO FO XT FT DT SE : Addr}
/-- a list or a tuple -/
def SqX (K : PySem.W.Frag) (H : Hp) (q : Addr) (xs : List V) : Prop := SqL K H q xs ∨ SqT K H q xs
theorem SqX.same {H H' : Hp} {q : Addr} {xs : List V} (h : SqX K H q xs) (s : Same H H') : SqX K H' q xs := h.imp (fun h => s.seq h) fun h => (Keep.same s).seq h
theorem SqX.ty {H : Hp} {q : Addr} {xs : List V} (h : SqX K H q xs) : ∃ n, TyX K H (.ref q) (.type n) ∧ n ∈ tys ∧ (n == "tuple" || n == "list") = true := by
  rcases h with h | h
  · exact ⟨"list", ty_lst h, by decide, rfl⟩
  · exact ⟨"tuple", ty_tup h, by decide, rfl⟩
/-- what is no sequence, but of no heap -/
def NoSeq (v : V) : Prop := v = .non ∨ (∃ z, v = .str z) ∨ ∃ i, v = .int i
theorem NoSeq.ty {H : Hp} {v : V} (h : NoSeq v) : ∃ n, TyX K H v (.type n) ∧ n ∈ tys ∧ (n == "tuple" || n == "list") = false := by
  rcases h with rfl | ⟨z, rfl⟩ | ⟨z, rfl⟩
  · exact ⟨"NoneType", .base .non, by decide, rfl⟩
  · exact ⟨"str", .base (.str _), by decide, rfl⟩
  · exact ⟨"int", .base (.int _), by decide, rfl⟩
def NoInt (v : V) : Prop := v = .non ∨ (∃ z, v = .str z) ∨ ∃ b, v = .bl b
theorem NoInt.ty {H : Hp} {v : V} (h : NoInt v) : NotInt K H v := by
  rcases h with rfl | ⟨z, rfl⟩ | ⟨z, rfl⟩
  · exact ⟨"NoneType", .base .non, by decide, by decide⟩
  · exact ⟨"str", .base (.str _), by decide, by decide⟩
  · exact ⟨"bool", .base (.bl _), by decide, by decide⟩
/-- a run of steps and the texts that it tells -/
structure RunOk (R : List Rule) (t : List Nat) (st : List (Nat × Nat)) (ts : List (List Nat)) : Prop where
  len : ts.length = st.length + 1
  h0 : ts[0]? = some t
  stp : ∀ i s u, st[i]? = some s → ts[i]? = some u → ∃ r, R[s.2]? = some r ∧ canS R u s.1 s.2 = true ∧ ts[i + 1]? = some (madeS r u s.1)
  sm : ∀ u ∈ ts, u.length ≤ 1000
/-- what is no step of the text u -/
def OddV (K : PySem.W.Frag) (R : List Rule) (u : List Nat) (H : Hp) (v : V) : Prop := NoSeq v ∨ ∃ q xs, v = .ref q ∧ SqX K H q xs ∧
  (xs.length ≠ 2 ∨ ∃ a b, xs = [a, b] ∧ ((∃ p n : Int, a = .int p ∧ b = .int n ∧ canS R u p n = false) ∨ NoInt b ∨ ∃ n : Int, b = .int n ∧ NoInt a))
theorem OddV.same {R : List Rule} {u : List Nat} {H H' : Hp} {v : V} (h : OddV K R u H v) (s : Same H H') : OddV K R u H' v :=
  h.imp id fun ⟨q, xs, e, hq, z⟩ => ⟨q, xs, e, hq.same s, z⟩
/-- a step, in a list or a tuple -/
def StpX (K : PySem.W.Frag) (H : Hp) (v : V) (p : Nat × Nat) : Prop := ∃ q, v = .ref q ∧ SqX K H q [.int (p.1 : Nat), .int (p.2 : Nat)]
theorem StpX.same {H H' : Hp} {v : V} {p : Nat × Nat} (h : StpX K H v p) (s : Same H H') : StpX K H' v p := let ⟨q, e, h⟩ := h; ⟨q, e, h.same s⟩
theorem ix_x {H : Hp} {q : Addr} {xs : List V} {i : Int} {v : V} {Q : VK} (h : SqX K H q xs) (e : atI xs i = some v) (k : Q v H) : rIx K (.ref q) (.int i) H Q :=
  h.elim (fun h => .inl ⟨q, xs, i, v, rfl, rfl, h, e, k⟩) fun h => .inr (.inl ⟨q, xs, i, v, rfl, rfl, h, e, k⟩)
theorem take_one_more {α : Type} {l : List α} {i : Nat} {x : α} (h : l[i]? = some x) : l.take (i + 1) = l.take i ++ [x] := by
  rw [List.take_add_one, h]; rfl
def spPlayX (K : PySem.W.Frag) (C XR : Addr) : Sp := fun vs H Q E => ∃ (b : Addr) (sg t : List Nat) (R : List Rule) (v : V), vs = [.ref b, .str (S t), v] ∧ BookAt K C H b sg R ∧ R.length ≤ 64 ∧ (∀ r ∈ R, r.1.length ≤ 4 ∧ r.2.length ≤ 4) ∧ t.length ≤ 200 ∧ isText sg t 0 200 = true ∧
  ((NoSeq v ∧ Thrown E H XR "place" (.int (-1))) ∨ ∃ q ys, v = .ref q ∧ SqX K H q ys ∧
    ((400 < ys.length ∧ Thrown E H XR "place" (.int (-1))) ∨
     (ys.length ≤ 400 ∧ ∃ st ts pre rest, RunOk R t st ts ∧ ys = pre ++ rest ∧ Items (StpX K) H pre st ∧
       ((rest = [] ∧ ∀ q H', Same H H' → H' q = some (.tup (ts.map fun u => V.str (S u))) → Q (.ref q) H') ∨
        ∃ v r2 u, rest = v :: r2 ∧ ts[st.length]? = some u ∧ OddV K R u H v ∧ ∀ H', Same H H' → Thrown E H' XR "place" (.int (st.length : Nat))))))
theorem c_X_played (T : TxtX P K mg CB XR FR DI XO FO XT FT DT SE) : Cal P w K mg base (L2.CX P w) 4 "played" (spPlayX K CB XR) := by
  have x_WrongItem := x_WrongItem (P := P) (w := w) (base := base) T
  have c_X_check_text := c_X_check_text (P := P) (w := w) (base := base) T
  have c_is_listed := c_is_listed (P := P) (w := w) (base := base) T.toTxtC.toTxt
  have c_made_step := c_made_step (P := P) (w := w) (base := base) T.toTxtC
  have c_can_step := c_can_step (P := P) (w := w) (base := base) T.toTxtC
  refine Cal.mkX T.toTxtC.toTxt.d_played sc_played (fun vs H Q E h => ?_) (fun f cdv A outer s H vs Q E hr h => ?_)
  · obtain ⟨b, sg, t, R, v, rfl, _⟩ := h
    rfl
  · obtain ⟨b, sg, t, R, v, rfl, BA, hl, h4, ht, hc, k⟩ := h
    have cl := T.k_Book.cl
    obtain ⟨dx, fs, a, xs, pl, hp, g1, g2, hR, g3, L, g4, g5⟩ := id BA
    refine ⟨_, (pss_cons (ps_expr (pe_cX c_X_check_text hr (by decide) (takes_of rfl rfl rfl rfl) rfl (pa_cons (pe_fld (pv 0) rfl) (pa_cons (pv 1) pa_nil))))
  (pss_cons (ps_if (PW.pt (pw_or (pt_not (pt_val (pe_c c_is_listed hr (by decide) rfl (pa_cons (pv 2) pa_nil)))) (pw_or1 (pt_cmpR op_gt (pe_callB call_len_seq (by rfl) T.b_len (by decide +kernel) (pa_cons (pv 2) pa_nil)) (pe_gK rfl T.g_MOST_STEPS) (nomark _)))))
    (pss_one (ps_raiseX T.e_BadRun x_WrongItem hr (by decide) rfl (takes_of rfl rfl rfl rfl) rfl (pa_cons (pe_un un_neg pe_int) pa_nil)))
    pss_nil)
  (pss_cons (ps_set (i := 3) sc_played.nd rfl (Or.inl rfl) (pe_lst (pa_cons (pv 1) pa_nil)))
  (pss_cons (ps_for (passes_of rfl) rfl (pi_range1 (by rfl) T.b_range (pa_cons (pe_callB call_len_seq (by rfl) T.b_len (by decide +kernel) (pa_cons (pv 2) pa_nil)) pa_nil)) (pg_name (i := 4) sc_played.nd rfl (Or.inl rfl))
    (pss_cons (ps_set (i := 5) sc_played.nd rfl (Or.inl rfl) (pe_ix ix_seq (pv 2) (pv 4) (fun _ _ => rfl)))
    (pss_cons (ps_if (PW.pt (pw_or (pt_not (pt_val (pe_c c_is_listed hr (by decide) rfl (pa_cons (pv 5) pa_nil)))) (pw_or (pt_cmpR op_ne (pe_callB call_len_seq (by rfl) T.b_len (by decide +kernel) (pa_cons (pv 5) pa_nil)) pe_int (nomark _)) (pw_or1 (pt_not (pt_val (pe_c c_can_step hr (by decide) rfl (pa_cons (pv 0) (pa_cons (pe_ix ix_list (pv 3) (pe_un un_neg pe_int) (fun _ _ => rfl)) (pa_cons (pe_ix ix_seq (pv 5) pe_int (fun _ _ => rfl)) (pa_cons (pe_ix ix_seq (pv 5) pe_int (fun _ _ => rfl)) pa_nil)))))))))))
      (pss_one (ps_raiseX T.e_BadRun x_WrongItem hr (by decide) rfl (takes_of rfl rfl rfl rfl) rfl (pa_cons (pv 4) pa_nil)))
      pss_nil)
    (pss_one (ps_expr (pe_bm PySem.F.plainAttrs_list PySem.F.slot_list_append PySem.F.type_list_append mt_append (pv 3) (pa_cons (pe_c c_made_step hr (by decide) rfl (pa_cons (pv 0) (pa_cons (pe_ix ix_list (pv 3) (pe_un un_neg pe_int) (fun _ _ => rfl)) (pa_cons (pe_ix ix_seq (pv 5) pe_int (fun _ _ => rfl)) (pa_cons (pe_ix ix_seq (pv 5) pe_int (fun _ _ => rfl)) pa_nil))))) pa_nil)))))))
  (pss_one (ps_ret (pe_callTy call_tuple_of (by rfl) T.b_tuple (by decide +kernel) (pa_cons (pv 3) pa_nil)))))))), ?_⟩
    refine ⟨_, rfl, b, CB, dx, fs, _, rfl, hp, cl, T.n_Book_signs, g1, _, rfl, sg, t, rfl, by omega, fun _ => ?_, fun z => by rw [hc] at z; cases z⟩
    walk_at "nx"
    rcases k with ⟨hv, th⟩ | ⟨q, ys, rfl, hq, k⟩
    · obtain ⟨n, ty, hn, e⟩ := hv.ty (K := K) (H := H)
      refine ⟨_, rfl, v, n, rfl, ty, hn, ?_⟩
      rw [e]
      walk_at "rd"
      exact (mk1 T.e_BadRun T.nf_BadRun_place (show okNum (.int (-1)) from ⟨-1, rfl, by decide, by decide⟩) th).2
    obtain ⟨n, ty, hn, e⟩ := hq.ty
    refine ⟨_, rfl, _, n, rfl, ty, hn, ?_⟩
    rw [e]
    walk_at "rd"
    refine ⟨q, ys, rfl, hq, ?_⟩
    walk_at "rd"
    rcases k with ⟨h400, th⟩ | ⟨h400, st, ts, pre, rest, hO, rfl, hi, k⟩
    · rw [decide_eq_true (show (400 : Int) < ys.length by omega)]
      refine iteT ?_
      walk_at "rd"
      exact (mk1 T.e_BadRun T.nf_BadRun_place (show okNum (.int (-1)) from ⟨-1, rfl, by decide, by decide⟩) th).2
    rw [decide_eq_false (show ¬ (400 : Int) < (pre ++ rest).length by omega)]
    refine iteF ?_
    walk_at "nx"
    refine ⟨_, rfl, by walk_at "sz", fun pt hpt => ?_⟩
    walk_at "rd"
    refine ⟨q, _, rfl, hq.same (same_new hpt), ?_⟩
    walk_at "rd"
    have hpl : pre.length = st.length := hi.1
    have hS : Same H (upd H pt (.lst [.str (S t)])) := same_new hpt
    refine for_range (lo := 0) (n := (((pre ++ rest).length : Int)).toNat) (fun i σ H2 => ∃ (u : List Nat) (v4 v5 : Option V), σ = [some (.ref b), some (.str (S t)), some (.ref q), some (.ref pt), v4, v5] ∧ i ≤ st.length ∧ Same H H2 ∧ ts[i]? = some u ∧ H2 pt = some (.lst ((ts.take i).map (fun u => V.str (S u)) ++ [.str (S u)])))
      ⟨t, _, _, rfl, Nat.zero_le _, hS, hO.h0, upd_same⟩ ?_ ?_
    · rintro i σ H2 hi9 ⟨u, v4, v5, rfl, hil, s2, hu, h2⟩
      rw [Int.zero_add]
      have hut : u.length ≤ 1000 := hO.sm u (List.mem_of_getElem? hu)
      have hi8 : i < (pre ++ rest).length := by omega
      have htl : ts.length ≤ 401 := by rw [hO.len]; rw [List.length_append] at h400; omega
      walk_at "nx"
      rcases Nat.lt_or_ge i st.length with hlt | hge
      · have hs : st[i]? = some st[i] := List.getElem?_eq_getElem hlt
        obtain ⟨r, hr, hcan, hnext⟩ := hO.stp i _ u hs hu
        have hr4 := h4 _ (List.mem_of_getElem? hr)
        obtain ⟨x, hx, qi, rfl, sqi⟩ := hi.get hs
        have hx2 : (pre ++ rest)[i]? = some (.ref qi) := by rw [List.getElem?_append_left (by omega)]; exact hx
        refine ⟨_, rfl, _, rfl, ix_x (hq.same s2) (atI_nat hx2) ?_⟩
        obtain ⟨n', ty', hn', e'⟩ := (sqi.same s2).ty
        walk_at "nx"
        refine ⟨_, rfl, _, n', rfl, ty', hn', ?_⟩
        rw [e']
        refine ⟨true, rfl, ?_⟩
        refine iteF ?_
        walk_at "rd"
        refine ⟨qi, _, rfl, sqi.same s2, ?_⟩
        walk_at "rd"
        refine ⟨pt, _, _, _, rfl, rfl, SqL.of h2, atI_last _ _, ?_⟩
        refine ⟨_, rfl, ix_x (sqi.same s2) (atI_at (Int.le_refl 0) rfl) ?_⟩
        refine ⟨_, rfl, ix_x (sqi.same s2) (atI_at (show (0 : Int) ≤ 1 by decide) rfl) ?_⟩
        refine ⟨b, sg, R, u, _, _, rfl, BA.same s2, hut, hl, fun r m => (h4 r m).1, .inl ⟨_, _, rfl, rfl, ?_⟩⟩
        rw [hcan]
        refine ⟨true, rfl, ?_⟩
        refine iteF ?_
        walk_at "nx"
        refine ⟨_, rfl, .inl ⟨rfl, _, SqL.of h2⟩, ?_⟩
        refine ⟨_, rfl, _, rfl, _, rfl, ⟨pt, _, _, _, rfl, rfl, SqL.of h2, atI_last _ _, ?_⟩⟩
        refine ⟨_, rfl, ix_x (sqi.same s2) (atI_at (Int.le_refl 0) rfl) ?_⟩
        refine ⟨_, rfl, ix_x (sqi.same s2) (atI_at (show (0 : Int) ≤ 1 by decide) rfl) ?_⟩
        refine ⟨b, sg, R, u, _, _, r, rfl, BA.same s2, hr, hut, hr4.1, hr4.2, ?_⟩
        have hz : ((ts.take i).map (fun u => V.str (S u)) ++ [V.str (S u)]).length < sizeLine := by
          rw [List.length_append, List.length_map, List.length_take]
          exact Nat.lt_of_le_of_lt (m := 500) (by simp; omega) (by decide)
        refine ⟨pt, _, _, rfl, rfl, h2, hz, ?_⟩
        refine ⟨madeS r u st[i].1, _, _, rfl, by omega, same_mut s2 hpt, hnext, ?_⟩
        rw [take_one_more hu, List.map_append]
        exact upd_same
      · have hie : i = st.length := by omega
        subst hie
        rcases k with ⟨rfl, _⟩ | ⟨v, r2, u', rfl, hu', hodd, th⟩
        · simp at hi8
          omega
        rw [hu] at hu'
        cases hu'
        have hx2 : (pre ++ v :: r2)[st.length]? = some v := by rw [List.getElem?_append_right (by omega), hpl, Nat.sub_self]; rfl
        have h3 := s2
        have th2 := th _ s2
        have okn : okNum (.int (st.length : Nat)) := ⟨_, rfl, by omega, by rw [List.length_append] at h400; omega⟩
        refine ⟨_, rfl, _, rfl, ix_x (hq.same s2) (atI_nat hx2) ?_⟩
        walk_at "nx"
        rcases hodd.same s2 with hv | ⟨qi, zs, rfl, sqi, hz⟩
        · obtain ⟨n', ty', hn', e'⟩ := hv.ty (K := K) (H := H2)
          refine ⟨_, rfl, v, n', rfl, ty', hn', ?_⟩
          rw [e']
          walk_at "rd"
          first | exact mk1 T.e_BadRun T.nf_BadRun_place okn th2 | exact (mk1 T.e_BadRun T.nf_BadRun_place okn th2).2
        obtain ⟨n', ty', hn', e'⟩ := sqi.ty
        refine ⟨_, rfl, _, n', rfl, ty', hn', ?_⟩
        rw [e']
        refine ⟨true, rfl, ?_⟩
        refine iteF ?_
        walk_at "rd"
        refine ⟨qi, _, rfl, sqi, ?_⟩
        walk_at "rd"
        by_cases h2l : zs.length = 2
        · rcases hz with hz | ⟨a', b', rfl, hz⟩
          · exact absurd h2l hz
          refine iteF ?_
          walk_at "rd"
          refine ⟨pt, _, _, _, rfl, rfl, SqL.of h2, atI_last _ _, ?_⟩
          refine ⟨_, rfl, ix_x sqi (atI_at (Int.le_refl 0) rfl) ?_⟩
          refine ⟨_, rfl, ix_x sqi (atI_at (show (0 : Int) ≤ 1 by decide) rfl) ?_⟩
          refine ⟨b, sg, R, u, _, _, rfl, BA.same s2, hut, hl, fun r m => (h4 r m).1, ?_⟩
          rcases hz with ⟨p, n, rfl, rfl, hcan⟩ | nv | ⟨n, rfl, nu⟩
          · refine .inl ⟨_, _, rfl, rfl, ?_⟩
            rw [hcan]
            walk_at "rd"
            first | exact mk1 T.e_BadRun T.nf_BadRun_place okn th2 | exact (mk1 T.e_BadRun T.nf_BadRun_place okn th2).2
          · refine .inr (.inl ⟨nv.ty, ?_⟩)
            walk_at "rd"
            first | exact mk1 T.e_BadRun T.nf_BadRun_place okn th2 | exact (mk1 T.e_BadRun T.nf_BadRun_place okn th2).2
          · refine .inr (.inr ⟨n, rfl, nu.ty, ?_⟩)
            walk_at "rd"
            first | exact mk1 T.e_BadRun T.nf_BadRun_place okn th2 | exact (mk1 T.e_BadRun T.nf_BadRun_place okn th2).2
        · rw [decide_eq_false (fun e => h2l (by have := V.int.inj e; omega))]
          refine iteT ?_
          walk_at "rd"
          first | exact mk1 T.e_BadRun T.nf_BadRun_place okn th2 | exact (mk1 T.e_BadRun T.nf_BadRun_place okn th2).2
    · rintro σ H2 ⟨u, v4, v5, rfl, hil, s2, hu, h2⟩
      rcases k with ⟨rfl, k⟩ | ⟨v, r2, u', rfl, hu', hodd, th⟩
      · have hie : (((pre ++ []).length : Int)).toNat = st.length := by rw [List.append_nil]; omega
        rw [hie] at hu h2
        have hall : (ts.take st.length).map (fun u => V.str (S u)) ++ [V.str (S u)] = ts.map fun u => V.str (S u) := by
          rw [show [V.str (S u)] = [u].map (fun u => V.str (S u)) from rfl, ← List.map_append, ← take_one_more hu, ← hO.len, List.take_length]
        rw [hall] at h2
        refine ⟨_, rfl, pt, _, rfl, .inl ⟨SqL.of h2, fun l hl => ?_⟩⟩
        exact k _ _ (s2.trans (same_new hl)) upd_same
      · exfalso
        rw [List.length_append, List.length_cons] at hil
        omega
end
end Sh
set_option Elab.async false
set_option linter.all false
set_option maxRecDepth 100000
set_option maxHeartbeats 4000000
namespace Sh
open PySem PySem.Spec PyProof.Rows L2
open SX (S S_inj S_len S_cat)
open Bk (Rule firstAt lg bestUp used left drain pushS Wf lf stAt stP stI)
local macro_rules | `(tactic| walk_at "nx") => `(tactic| repeat (with_reducible first | refine Sh.gn_mk ?_ | refine Sh.nx_mk ?_ | refine Sh.st_nx ?_ | refine Sh.rt_mk ?_ | refine Sh.ct_mk ?_ | refine Sh.bk_mk ?_))
local macro_rules | `(tactic| walk_at "sq") => `(tactic| first | exact SqL.of upd_same | exact SqT.of upd_same | exact SqL.of (by assumption) | exact SqT.of (by assumption) | assumption | exact Or.inl (SqL.of (by assumption)) | exact Or.inr (SqT.of (by assumption)) | exact Or.inl (by assumption) | exact Or.inr (by assumption))
local macro_rules | `(tactic| walk_at "hp") => `(tactic| first | exact upd_same | assumption)
local macro_rules | `(tactic| walk_at "sz") => `(tactic| first | exact Nat.le_of_ble_eq_true rfl | omega)
local macro_rules | `(tactic| walk_at "sd") => `(tactic| first | omega | exact rfl | assumption | (show (0 : Int) < _; omega) | exact And.intro (by omega) (by omega) | exact Or.inl (And.intro (by omega) (by omega)) | exact Or.inr (And.intro (by omega) (by omega)) | omega | exact Sh.sz_S (by omega) | decide)
local macro_rules | `(tactic| walk_at "rd1") => `(tactic| first
  | (with_reducible first | refine Sh.gn_mk ?_ | refine Sh.nx_mk ?_ | refine Sh.st_nx ?_ | refine Sh.rt_mk ?_ | refine Sh.ct_mk ?_ | refine Sh.bk_mk ?_)
  | refine Exists.intro (α := V) _ (And.intro rfl ?_)
  | refine Exists.intro (α := Bool) _ (And.intro rfl ?_)
  | refine Exists.intro (α := Int) _ (And.intro rfl ?_)
  | refine Exists.intro (α := PySem.Str) _ (And.intro rfl ?_)
  | refine Exists.intro (α := Int) _ (Exists.intro (α := Int) _ (And.intro rfl (And.intro rfl ?_)))
  | refine Exists.intro (α := PySem.Str) _ (Exists.intro (α := PySem.Str) _ (And.intro rfl (And.intro rfl ?_)))
  | refine Exists.intro (α := Int) _ (Exists.intro (α := Int) _ (And.intro rfl ?_))
  | refine Or.inl (Exists.intro (α := Int) _ (And.intro rfl ?_))
  | refine Exists.intro _ (Exists.intro _ (Exists.intro _ (Exists.intro _ (And.intro rfl (And.intro rfl (And.intro (by walk_at "sq") (And.intro rfl ?_)))))))
  | refine Exists.intro _ (Exists.intro _ (Exists.intro _ (Exists.intro _ (And.intro rfl (And.intro rfl (And.intro (by walk_at "hp") (And.intro rfl ?_)))))))
  | refine And.intro (by walk_at "sd") ?_
  )
local macro_rules | `(tactic| walk_at "rd") => `(tactic| repeat walk_at "rd1")
local macro_rules | `(tactic| walk_at "lk") => `(tactic| first | exact rfl | (rw [lookup_putF, if_pos rfl]) | (rw [lookup_putF, if_neg (by decide +kernel)]; walk_at "lk"))

section
variable {P : Program} {w : World} {K : PySem.W.Frag} {mg : Str → Option Value} {base : Heap} {CB XR FR DI XO FO XT FT DT SE : Addr}
def spLSteps (K : PySem.W.Frag) : Sp := fun vs H Q _ => ∃ (a : Addr) (xs : List V) (t : List Nat) (R : List Rule), vs = [.ref a, .str (S t)] ∧ RulesAt K H a xs R ∧ R.length ≤ 64 ∧ (∀ r ∈ R, r.1.length ≤ 4) ∧ t.length ≤ 60 ∧
  ∀ (q : Addr) (ys : List V) (H' : Hp), H q = none → Same H H' → H' q = some (.lst ys) → Items StpV H' ys (stI R t t.length) → Q (.ref q) H'
theorem pre_iff {l u : List Nat} : l.isPrefixOf u = decide (u.take l.length = l) := by
  rw [Bool.eq_iff_iff, List.isPrefixOf_iff_prefix, List.prefix_iff_eq_take, decide_eq_true_eq]
  exact ⟨fun h => h.symm, fun h => h.symm⟩
theorem c__law_steps (T : Txt K mg) : Cal P w K mg base CX0 1 "_law_steps" (spLSteps K) := by
  refine Cal.mk0 T.d__law_steps sc__law_steps (fun vs H Q E h => ?_) (fun f cdv A outer s H vs Q E hr h => ?_)
  · obtain ⟨a, xs, t, R, rfl, _⟩ := h
    rfl
  · obtain ⟨a, xs, t, R, rfl, hR, hl, h4, ht, k⟩ := h
    have hlx := hR.len
    have hSt := S_len t
    refine ⟨_, (pss_cons (ps_set (i := 2) sc__law_steps.nd rfl (Or.inl rfl) (pe_lst pa_nil))
  (pss_cons (ps_for PassesOwn.never rfl (pi_range1 (by rfl) T.b_range (pa_cons (pe_callB call_len_str (by rfl) T.b_len (by decide +kernel) (pa_cons (pv 1) pa_nil)) pa_nil)) (pg_name (i := 3) sc__law_steps.nd rfl (Or.inl rfl))
    (pss_one (ps_for PassesOwn.never rfl (pi_range1 (by rfl) T.b_range (pa_cons (pe_callB call_len_seq (by rfl) T.b_len (by decide +kernel) (pa_cons (pv 0) pa_nil)) pa_nil)) (pg_name (i := 4) sc__law_steps.nd rfl (Or.inl rfl))
      (pss_one (ps_if (pt_val (pe_m1 PySem.F.slot_str_startswith PySem.F.type_str_startswith mt_startswith (pe_slice sl_str (pv 1) (po_some (pv 3)) po_none) (pe_ix ix_tup (pe_ix ix_tup (pv 0) (pv 4) (fun _ _ => rfl)) pe_int (fun _ _ => rfl))))
        (pss_one (ps_expr (pe_bm PySem.F.plainAttrs_list PySem.F.slot_list_append PySem.F.type_list_append mt_append (pv 2) (pa_cons (pe_tup (pa_cons (pv 3) (pa_cons (pv 4) pa_nil))) pa_nil))))
        pss_nil)))))
  (pss_one (ps_ret (pv 2))))), ?_⟩
    refine ⟨by walk_at "sz", fun q hq => ?_⟩
    have s1 : Same H (upd H q (.lst [])) := same_new hq
    walk_at "rd"
    refine for_range (lo := 0) (n := (((S t).length : Int)).toNat) (fun i σ H2 => ∃ (ys : List V) (v3 v4 : Option V), σ = [some (.ref a), some (.str (S t)), some (.ref q), v3, v4] ∧ Same H H2 ∧ H2 q = some (.lst ys) ∧ Items StpV H2 ys (stI R t i))
      ⟨[], _, _, rfl, s1, upd_same, Items.nil⟩ ?_ ?_
    · rintro i σ H2 hi ⟨ys, v3, v4, rfl, s2, hq2, it2⟩
      rw [Int.zero_add]
      have hi2 : i < t.length := by omega
      walk_at "nx"
      refine ⟨_, rfl, a, xs, rfl, .inr (hR.same s2).sq, ?_⟩
      walk_at "rd"
      refine for_range (lo := 0) (n := ((xs.length : Int)).toNat) (fun j σ H3 => ∃ (ys : List V) (v4 : Option V), σ = [some (.ref a), some (.str (S t)), some (.ref q), some (.int (i : Nat)), v4] ∧ Same H H3 ∧ H3 q = some (.lst ys) ∧ Items StpV H3 ys (stI R t i ++ stP R t i j))
        ⟨ys, _, rfl, s2, hq2, by simpa [stP] using it2⟩ ?_ ?_
      · clear it2 hq2 s2 v4 v3 ys
        rintro j σ H3 hj ⟨ys, v4, rfl, s3, hq3, it3⟩
        rw [Int.zero_add]
        have hj2 : j < R.length := by omega
        have hr3 : R[j]? = some R[j] := by simp [hj2]
        have hlj : lf R j = R[j].1 := Bk.lf_get hr3
        have l4 : R[j].1.length ≤ 4 := h4 _ (List.getElem_mem hj2)
        obtain ⟨qr, hqr, sqr⟩ := (hR.same s3).get hr3
        have hSl := S_len R[j].1
        have hz : ys.length < sizeLine := by
          have z1 := Bk.stI_len R t i
          have z2 := Bk.stP_len R t i j
          have z3 : i * R.length ≤ 60 * 64 := Nat.mul_le_mul (by omega) hl
          have z4 := it3.1
          rw [List.length_append] at z4
          exact Nat.lt_of_le_of_lt (m := 10000) (by omega) (by decide)
        walk_at "rd"
        rw [cut_from (by omega), show ((i : Nat) : Int).toNat = i by omega]
        refine ⟨⟨_, rfl⟩, _, rfl, _, rfl, a, xs, _, .ref qr, rfl, rfl, (hR.same s3).sq, atI_nat hqr, qr, _, 0, .str (S R[j].1), rfl, rfl, sqr, rfl, _, _, rfl, rfl, _, rfl, ?_⟩
        rw [startswith_S, pre_iff]
        by_cases hc : (t.drop i).take R[j].1.length = R[j].1
        · have ho : stAt R t i j = some (i, j) := by unfold stAt; rw [hlj, if_pos hc]
          rw [decide_eq_true hc]
          refine iteT ?_
          refine ⟨_, rfl, .inl ⟨rfl, _, SqL.of hq3⟩, ?_⟩
          walk_at "rd"
          refine ⟨by walk_at "sz", fun q9 hq9 => ?_⟩
          have s5 : Same H3 (upd H3 q9 (.tup [.int (i : Nat), .int (j : Nat)])) := same_new hq9
          refine ⟨q, _, _, rfl, rfl, s5 _ _ hq3, hz, ?_⟩
          refine ⟨_, _, rfl, same_mut (s3.trans s5) hq, upd_same, ?_⟩
          rw [Bk.stP_succ, ho, ← List.append_assoc]
          exact it3.snoc (fun x y r => (r.same s5).mut (s5 _ _ hq3)) ⟨q9, rfl, by rw [upd_ne (ne_of_none hq3 hq9).symm]; exact upd_same⟩
        · have ho : stAt R t i j = none := by unfold stAt; rw [hlj, if_neg hc]
          rw [decide_eq_false hc]
          refine iteF ?_
          walk_at "rd"
          refine ⟨ys, _, rfl, s3, hq3, ?_⟩
          rw [Bk.stP_succ, ho]
          simpa using it3
      · rintro σ H3 ⟨ys, v4, rfl, s3, hq3, it3⟩
        walk_at "nx"
        refine ⟨ys, _, _, rfl, s3, hq3, ?_⟩
        rw [Bk.stI_succ]
        rw [show ((xs.length : Int)).toNat = R.length by omega] at it3
        exact it3
    · rintro σ H2 ⟨ys, v3, v4, rfl, s2, hq2, it2⟩
      walk_at "rd"
      rw [show (((S t).length : Int)).toNat = t.length by omega] at it2
      exact k q ys H2 hq s2 hq2 it2
def spLStep (K : PySem.W.Frag) : Sp := fun vs H Q _ => ∃ (a q : Addr) (xs : List V) (t : List Nat) (R : List Rule) (p n : Nat) (r : Rule), vs = [.ref a, .str (S t), .ref q] ∧ RulesAt K H a xs R ∧ SqT K H q [.int (p : Nat), .int (n : Nat)] ∧ R[n]? = some r ∧ t.length ≤ 1000 ∧ r.1.length ≤ 4 ∧ r.2.length ≤ 4 ∧ Q (.str (S (madeS r t p))) H
theorem c__law_step (T : Txt K mg) : Cal P w K mg base CX0 1 "_law_step" (spLStep K) := by
  refine Cal.mk0 T.d__law_step sc__law_step (fun vs H Q E h => ?_) (fun f cdv A outer s H vs Q E hr h => ?_)
  · obtain ⟨a, q, xs, t, R, p, n, r, rfl, _⟩ := h
    rfl
  · obtain ⟨a, q, xs, t, R, p, n, r, rfl, hR, hq, hn, hl, h1, h2, k⟩ := h
    obtain ⟨qr, hx, sq⟩ := hR.get hn
    refine ⟨_, (pss_cons (ps_asg (pe_ix ix_tup (pv 0) (pe_ix ix_tup (pv 2) pe_int (fun _ _ => rfl)) (fun _ _ => rfl)) (pg_tup (by rfl) (pgs_cons (pg_name (i := 3) sc__law_step.nd rfl (Or.inl rfl)) (pgs_cons (pg_name (i := 4) sc__law_step.nd rfl (Or.inl rfl)) pgs_nil))))
  (pss_one (ps_ret (pe_op op_add_str (pe_op op_add_str (pe_slice sl_str (pv 1) po_none (po_some (pe_ix ix_tup (pv 2) pe_int (fun _ _ => rfl)))) (pv 4)) (pe_slice sl_str (pv 1) (po_some (pe_op op_add (pe_ix ix_tup (pv 2) pe_int (fun _ _ => rfl)) (pe_callB call_len_str (by rfl) T.b_len (by decide +kernel) (pa_cons (pv 3) pa_nil)))) po_none))))), ?_⟩
    walk_at "rd"
    refine ⟨a, xs, _, .ref qr, rfl, rfl, hR.sq, atI_nat hx, ?_⟩
    refine ⟨qr, _, rfl, sq, rfl, _, _, rfl, _, _, rfl, rfl, ?_⟩
    have hlim : (5000 : Nat) ≤ sizeLine := by decide
    walk_at "rd"
    rw [cut_to (by omega), S_cat]
    refine ⟨?_, ?_⟩
    · rw [S_len, S_len]
      exact Nat.le_trans (m := 2000) (by simp; omega) (by decide)
    walk_at "rd"
    rw [cut_from (by omega)]
    refine ⟨?_, ?_⟩
    · rw [S_len, S_len]
      exact Nat.le_trans (m := 2000) (by simp; omega) (by decide)
    rw [S_cat, show ((p : Nat) : Int).toNat = p by omega, show ((p : Nat) + ((S r.1).length : Nat) : Int).toNat = p + r.1.length by rw [S_len]; omega]
    exact k
end
end Sh
set_option Elab.async false
set_option linter.all false
set_option maxRecDepth 100000
set_option maxHeartbeats 4000000
namespace Sh
open PySem PySem.Spec PyProof.Rows L2
open SX (S S_inj S_len S_cat)
open Bk (Rule firstAt lg bestUp used left drain pushS Wf)
local macro_rules | `(tactic| walk_at "nx") => `(tactic| repeat (with_reducible first | refine Sh.gn_mk ?_ | refine Sh.nx_mk ?_ | refine Sh.st_nx ?_ | refine Sh.rt_mk ?_ | refine Sh.ct_mk ?_ | refine Sh.bk_mk ?_))
local macro_rules | `(tactic| walk_at "sq") => `(tactic| first | exact SqL.of upd_same | exact SqT.of upd_same | exact SqL.of (by assumption) | exact SqT.of (by assumption) | assumption | exact Or.inl (SqL.of (by assumption)) | exact Or.inr (SqT.of (by assumption)) | exact Or.inl (by assumption) | exact Or.inr (by assumption))
local macro_rules | `(tactic| walk_at "hp") => `(tactic| first | exact upd_same | assumption)
local macro_rules | `(tactic| walk_at "sz") => `(tactic| first | exact Nat.le_of_ble_eq_true rfl | omega)
local macro_rules | `(tactic| walk_at "sd") => `(tactic| first | omega | exact rfl | assumption | (show (0 : Int) < _; omega) | exact And.intro (by omega) (by omega) | exact Or.inl (And.intro (by omega) (by omega)) | exact Or.inr (And.intro (by omega) (by omega)) | omega | exact Sh.sz_S (by omega) | decide)
local macro_rules | `(tactic| walk_at "rd1") => `(tactic| first
  | (with_reducible first | refine Sh.gn_mk ?_ | refine Sh.nx_mk ?_ | refine Sh.st_nx ?_ | refine Sh.rt_mk ?_ | refine Sh.ct_mk ?_ | refine Sh.bk_mk ?_)
  | refine Exists.intro (α := V) _ (And.intro rfl ?_)
  | refine Exists.intro (α := Bool) _ (And.intro rfl ?_)
  | refine Exists.intro (α := Int) _ (And.intro rfl ?_)
  | refine Exists.intro (α := PySem.Str) _ (And.intro rfl ?_)
  | refine Exists.intro (α := Int) _ (Exists.intro (α := Int) _ (And.intro rfl (And.intro rfl ?_)))
  | refine Exists.intro (α := PySem.Str) _ (Exists.intro (α := PySem.Str) _ (And.intro rfl (And.intro rfl ?_)))
  | refine Exists.intro (α := Int) _ (Exists.intro (α := Int) _ (And.intro rfl ?_))
  | refine Or.inl (Exists.intro (α := Int) _ (And.intro rfl ?_))
  | refine Exists.intro _ (Exists.intro _ (Exists.intro _ (Exists.intro _ (And.intro rfl (And.intro rfl (And.intro (by walk_at "sq") (And.intro rfl ?_)))))))
  | refine Exists.intro _ (Exists.intro _ (Exists.intro _ (Exists.intro _ (And.intro rfl (And.intro rfl (And.intro (by walk_at "hp") (And.intro rfl ?_)))))))
  | refine And.intro (by walk_at "sd") ?_
  )
local macro_rules | `(tactic| walk_at "rd") => `(tactic| repeat walk_at "rd1")
local macro_rules | `(tactic| walk_at "lk") => `(tactic| first | exact rfl | (rw [lookup_putF, if_pos rfl]) | (rw [lookup_putF, if_neg (by decide +kernel)]; walk_at "lk"))

section
variable {P : Program} {w : World} {K : PySem.W.Frag} {mg : Str → Option Value} {base : Heap} {CB XR FR DI XO FO XT FT DT SE : Addr}
def spDrawn (K : PySem.W.Frag) : Sp := fun vs H Q _ => ∃ (a : Addr) (sg : List Nat), vs = [.ref a, .str (S sg)] ∧ Src H a ∧ isSigns sg = true ∧ ∀ (p : Addr) (xs : List V) (R : List Rule) (H' : Hp), RulesAt K H' p xs R → BookOk sg R → R.length ≤ 5 → Src H' a → But a H H' → Q (.ref p) H'
theorem c__law_drawn (T : Txt K mg) : Cal P w K mg base CX0 3 "_law_drawn" (spDrawn K) := by
  have c__law_rule := c__law_rule (P := P) (w := w) (base := base) T
  have c__law_pick := c__law_pick (P := P) (w := w) (base := base) T
  refine Cal.mk0 T.d__law_drawn sc__law_drawn (fun vs H Q E h => ?_) (fun f cdv A outer s H vs Q E hr h => ?_)
  · obtain ⟨a, sg, rfl, _⟩ := h
    rfl
  · obtain ⟨a, sg, rfl, hS, hsg, k⟩ := h
    have hsl := signs_len hsg
    have hu65 := hu65_of hr
    refine ⟨_, (pss_cons (ps_set (i := 2) sc__law_drawn.nd rfl (Or.inl rfl) (pe_lst pa_nil))
  (pss_cons (ps_for PassesOwn.never rfl (pi_range1 (by rfl) T.b_range (pa_cons (pe_op op_add pe_int (pe_c c__law_pick hr (by decide) rfl (pa_cons (pv 0) (pa_cons pe_int pa_nil)))) pa_nil)) (pg_name (i := 3) sc__law_drawn.nd rfl (Or.inl rfl))
    (pss_cons (ps_set (i := 4) sc__law_drawn.nd rfl (Or.inl rfl) (pe_c c__law_rule hr (by decide) rfl (pa_cons (pv 0) (pa_cons (pv 1) (pa_cons pe_int pa_nil)))))
    (pss_one (ps_if (pt_cmpR (op_notInD hu65) (pv 4) (pv 2) (by rfl))
      (pss_one (ps_expr (pe_bm PySem.F.plainAttrs_list PySem.F.slot_list_append PySem.F.type_list_append mt_append (pv 2) (pa_cons (pv 4) pa_nil))))
      pss_nil))))
  (pss_one (ps_ret (pe_callTy call_tuple_of (by rfl) T.b_tuple (by decide +kernel) (pa_cons (pv 2) pa_nil)))))), ?_⟩
    refine ⟨by walk_at "sz", fun p hp => ?_⟩
    have b0 : But a H (upd H p (.lst [])) := But.same (same_new hp)
    have hna : p ≠ a := by
      obtain ⟨d, e, c, z⟩ := hS
      exact (ne_of_none z hp).symm
    have hS0 : Src (upd H p (.lst [])) a := by
      obtain ⟨d, e, c, z⟩ := hS
      exact ⟨d, e, c, by rw [upd_ne hna.symm]; exact z⟩
    walk_at "nx"
    walk_at "rd"
    refine ⟨a, _, rfl, hS0, by omega, by omega, fun n H1 hn0 hn1 hS1 b1 => ?_⟩
    walk_at "rd"
    have hp1 : H1 p = some (.lst []) := b1 _ _ hna upd_same
    have cap : ∀ r : Rule, RuleOk sg 4 r → Chars r.1 ∧ Chars r.2 := fun r h => ⟨fun c hc => signs_chars hsg c (h.2.2.1 c hc), fun c hc => signs_chars hsg c (h.2.2.2.1 c hc)⟩
    refine for_range (lo := 0) (n := (1 + n).toNat) (fun i σ H2 => ∃ (ys : List V) (R : List Rule) (v3 v4 : Option V), σ = [some (.ref a), some (.str (S sg)), some (.ref p), v3, v4] ∧ Src H2 a ∧ But a H H2 ∧ H2 p = some (.lst ys) ∧ Items (RItem K) H2 ys R ∧ R.length ≤ i ∧ (∀ r ∈ R, RuleOk sg 4 r) ∧ R.Nodup)
      ⟨[], [], _, _, rfl, hS1, b0.trans b1, hp1, Items.nil, Nat.le_refl _, fun r h => (by cases h), List.nodup_nil⟩ ?_ ?_
    · rintro i σ H2 hi ⟨ys, R, v3, v4, rfl, hS2, b2, hp2, it2, hRi, hok, hnd⟩
      rw [Int.zero_add]
      walk_at "nx"
      refine ⟨_, rfl, _, rfl, a, sg, 3, rfl, hS2, by omega, by omega, by omega, by omega, fun r q H3 hrk hS3 b3 hq2 hq3 => ?_⟩
      have hr4 : RuleOk sg 4 r := ⟨hrk.1, Nat.le_trans hrk.2.1 (by decide), hrk.2.2⟩
      have k3 := Keep.but b3 hS2
      have hb3 := b2.trans b3
      have hp3 := b3 _ _ hna hp2
      have it3 := it2.mono fun x y h => h.same k3
      have hci := cap r hr4
      have hct : RChars R := fun x m => cap x (hok x m)
      have iq : RItem K H3 (.ref q) r := ⟨q, rfl, SqT.of hq3⟩
      have hyl : ys.length ≤ 5 := by have := it3.1; omega
      walk_at "nx"
      refine if_K (decide (r ∉ R)) (fun Q' hQ => ?_) (fun hb => ?_) (fun hb => ?_)
      · refine ⟨_, rfl, _, rfl, rD r, R.map rD, RItem.dp iq, .lst (SqL.of hp3) (dpAll_rules it3), shaped_rule hci, shaped_rules hct, _, rfl, ?_⟩
        rw [any_rules]
        exact q_of hQ (by by_cases hin : r ∈ R <;> simp [hin])
      · have hin := of_decide_eq_true hb
        walk_at "nx"
        refine ⟨_, rfl, .inl ⟨rfl, _, SqL.of hp3⟩, ?_⟩
        walk_at "rd"
        refine ⟨p, _, _, rfl, rfl, hp3, Nat.lt_of_le_of_lt (m := 5) hyl (by decide), ?_⟩
        have kk : Keep H3 (upd H3 p (.lst (ys ++ [.ref q]))) := Keep.butL but_upd hp3
        refine ⟨ys ++ [.ref q], R ++ [r], _, _, rfl, ?_, ?_, upd_same, it3.snoc (fun x y h => h.same kk) ⟨q, rfl, kk.seq (SqT.of hq3)⟩, by simp; omega, ?_, ?_⟩
        · obtain ⟨d, e, c, z⟩ := hS3
          exact ⟨d, e, c, by rw [upd_ne hna.symm]; exact z⟩
        · exact but_mut hb3 hp
        · intro x hx
          rcases List.mem_append.mp hx with z | z
          · exact hok x z
          · have : x = r := by simpa using z
            exact this ▸ hr4
        · rw [List.nodup_append]
          refine ⟨hnd, by simp, fun x hx y hy => ?_⟩
          have : y = r := by simpa using hy
          subst this
          intro e
          exact hin (e ▸ hx)
      · walk_at "nx"
        exact ⟨ys, R, _, _, rfl, hS3, hb3, hp3, it3, by omega, hok, hnd⟩
    · rintro σ H2 ⟨ys, R, v3, v4, rfl, hS2, b2, hp2, it2, hRi, hok, hnd⟩
      walk_at "rd"
      refine ⟨p, _, rfl, .inl ⟨SqL.of hp2, fun l hl => ?_⟩⟩
      have s3 := same_new (o := .tup ys) hl
      obtain ⟨d9, e9, c9, z9⟩ := hS2
      exact k l ys R _ ⟨SqT.of upd_same, it2.1, fun i x r h1 h2 => RItem.same (it2.2 i x r h1 h2) (Keep.same s3)⟩ ⟨hsg, by omega, hok, hnd⟩ (by omega) ⟨d9, e9, c9, s3 _ _ z9⟩ (b2.trans (But.same s3))
end
end Sh
set_option Elab.async false
set_option linter.all false
set_option maxRecDepth 100000
set_option maxHeartbeats 4000000
namespace Sh
open PySem PySem.Spec PyProof.Rows L2
open SX (S S_inj S_len S_cat)
open Bk (Rule firstAt lg bestUp used left drain pushS Wf)
local macro_rules | `(tactic| walk_at "nx") => `(tactic| repeat (with_reducible first | refine Sh.gn_mk ?_ | refine Sh.nx_mk ?_ | refine Sh.st_nx ?_ | refine Sh.rt_mk ?_ | refine Sh.ct_mk ?_ | refine Sh.bk_mk ?_))
local macro_rules | `(tactic| walk_at "sq") => `(tactic| first | exact SqL.of upd_same | exact SqT.of upd_same | exact SqL.of (by assumption) | exact SqT.of (by assumption) | assumption | exact Or.inl (SqL.of (by assumption)) | exact Or.inr (SqT.of (by assumption)) | exact Or.inl (by assumption) | exact Or.inr (by assumption))
local macro_rules | `(tactic| walk_at "hp") => `(tactic| first | exact upd_same | assumption)
local macro_rules | `(tactic| walk_at "sz") => `(tactic| first | exact Nat.le_of_ble_eq_true rfl | omega)
local macro_rules | `(tactic| walk_at "sd") => `(tactic| first | omega | exact rfl | assumption | (show (0 : Int) < _; omega) | exact And.intro (by omega) (by omega) | exact Or.inl (And.intro (by omega) (by omega)) | exact Or.inr (And.intro (by omega) (by omega)) | omega | exact Sh.sz_S (by omega) | decide)
local macro_rules | `(tactic| walk_at "rd1") => `(tactic| first
  | (with_reducible first | refine Sh.gn_mk ?_ | refine Sh.nx_mk ?_ | refine Sh.st_nx ?_ | refine Sh.rt_mk ?_ | refine Sh.ct_mk ?_ | refine Sh.bk_mk ?_)
  | refine Exists.intro (α := V) _ (And.intro rfl ?_)
  | refine Exists.intro (α := Bool) _ (And.intro rfl ?_)
  | refine Exists.intro (α := Int) _ (And.intro rfl ?_)
  | refine Exists.intro (α := PySem.Str) _ (And.intro rfl ?_)
  | refine Exists.intro (α := Int) _ (Exists.intro (α := Int) _ (And.intro rfl (And.intro rfl ?_)))
  | refine Exists.intro (α := PySem.Str) _ (Exists.intro (α := PySem.Str) _ (And.intro rfl (And.intro rfl ?_)))
  | refine Exists.intro (α := Int) _ (Exists.intro (α := Int) _ (And.intro rfl ?_))
  | refine Or.inl (Exists.intro (α := Int) _ (And.intro rfl ?_))
  | refine Exists.intro _ (Exists.intro _ (Exists.intro _ (Exists.intro _ (And.intro rfl (And.intro rfl (And.intro (by walk_at "sq") (And.intro rfl ?_)))))))
  | refine Exists.intro _ (Exists.intro _ (Exists.intro _ (Exists.intro _ (And.intro rfl (And.intro rfl (And.intro (by walk_at "hp") (And.intro rfl ?_)))))))
  | refine And.intro (by walk_at "sd") ?_
  )
local macro_rules | `(tactic| walk_at "rd") => `(tactic| repeat walk_at "rd1")
local macro_rules | `(tactic| walk_at "lk") => `(tactic| first | exact rfl | (rw [lookup_putF, if_pos rfl]) | (rw [lookup_putF, if_neg (by decide +kernel)]; walk_at "lk"))

section
variable {P : Program} {w : World} {K : PySem.W.Frag} {mg : Str → Option Value} {base : Heap} {CB XR FR DI XO FO XT FT DT SE : Addr}
def spPlace (K : PySem.W.Frag) (C : Addr) : Sp := fun vs H Q _ => ∃ (b : Addr) (sg t : List Nat) (R : List Rule) (v : V), vs = [.ref b, .str (S t), v] ∧ BookAt K C H b sg R ∧ R.length ≤ 64 ∧ (∀ r ∈ R, r.1.length ≤ 4 ∧ r.2.length ≤ 4) ∧ t.length ≤ 200 ∧ isText sg t 0 200 = true ∧
  ((NoSeq v ∧ ∀ H', Same H H' → Q (.int (-1)) H') ∨ ∃ q ys, v = .ref q ∧ SqX K H q ys ∧
    ((400 < ys.length ∧ ∀ H', Same H H' → Q (.int (-1)) H') ∨
     (ys.length ≤ 400 ∧ ∃ st ts pre rest, RunOk R t st ts ∧ ys = pre ++ rest ∧ Items (StpX K) H pre st ∧
        ∃ v r2 u, rest = v :: r2 ∧ ts[st.length]? = some u ∧ OddV K R u H v ∧ ∀ H', Same H H' → Q (.int (st.length : Nat)) H')))
theorem c__law_place (T : TxtX P K mg CB XR FR DI XO FO XT FT DT SE) : Cal P w K mg base CX0 5 "_law_place" (spPlace K CB) := by
  have c_X_played := c_X_played (P := P) (w := w) (base := base) T
  refine Cal.mk0 T.toTxtC.toTxt.d__law_place sc__law_place (fun vs H Q E h => ?_) (fun f cdv A outer s H vs Q E hr h => ?_)
  · obtain ⟨b, sg, t, R, v, rfl, _⟩ := h
    rfl
  · obtain ⟨b, sg, t, R, v, rfl, BA, hl, h4, ht, hc, k⟩ := h
    refine ⟨_, (pss_cons (ps_tryT rfl rfl sc__law_place.nd takes0 (fun W pn xe tk po => (pss_one (ps_expr (pe_cX c_X_played hr (by decide) tk rfl (pa_cons (pv 0) (pa_cons (pv 1) (pa_cons (pv 2) pa_nil)))))))
    (HdsA.cons (i := 3) rfl rfl ⟨rfl, by decide, Or.inl T.e_BadRun.mgC⟩ (fun a oe cls d pn hz hf => (pss_one (ps_ret (pe_ifExp (PW.pt (pw_and (pt_val (pe_callB (call_isX T.c_BadRun hz hf) (by rfl) T.b_isinstance (by decide +kernel) (pa_cons (pv 3) (pa_cons (pe_glob (v := .ref DI) rfl T.gc_WrongItem rfl) pa_nil)))) (pw_and1 (pt_val (pe_callB (call_isX T.c_BadRun hz hf) (by rfl) T.b_isinstance (by decide +kernel) (pa_cons (pv 3) (pa_cons (pe_glob (v := .ref SE) rfl T.gc_ShrunkError rfl) pa_nil))))))) (pe_xf T.e_BadRun.xf T.nf_BadRun_place hz hf (pv 3)) pe_str))))
    HdsA.nil))
  (pss_one (ps_ret pe_non))), ?_⟩
    refine ⟨_, rfl, _, rfl, _, rfl, b, sg, t, R, v, rfl, BA, hl, h4, ht, hc, ?_⟩
    rcases k with ⟨hv, k⟩ | ⟨q, ys, rfl, hq, ⟨h400, k⟩ | ⟨h400, st, ts, pre, rest, hO, e, hi, v, r2, u, e2, hu, hodd, k⟩⟩
    · refine .inl ⟨hv, fun d hd => ⟨true, T.mm_BadRun_BadRun, fun _ a0 ha0 => ?_, fun zz => (by cases zz)⟩⟩
      dsimp only [outA]
      refine ⟨_, rfl, rfl, _, _, true, d, _, rfl, rfl, upd_same, fun u h => h, T.ko_BadRun_WrongItem, true, rfl, ?_⟩
      refine iteT ?_
      refine ⟨_, rfl, rfl, _, _, true, d, _, rfl, rfl, upd_same, fun u h => h, T.ko_BadRun_ShrunkError, true, rfl, ?_⟩
      refine iteT ?_
      refine ⟨_, rfl, rfl, rfl, d, _, _, rfl, upd_same, lk1, ?_⟩
      exact k _ (same_new hd)
    · refine .inr ⟨q, ys, rfl, hq, .inl ⟨h400, fun d hd => ⟨true, T.mm_BadRun_BadRun, fun _ a0 ha0 => ?_, fun zz => (by cases zz)⟩⟩⟩
      dsimp only [outA]
      refine ⟨_, rfl, rfl, _, _, true, d, _, rfl, rfl, upd_same, fun u h => h, T.ko_BadRun_WrongItem, true, rfl, ?_⟩
      refine iteT ?_
      refine ⟨_, rfl, rfl, _, _, true, d, _, rfl, rfl, upd_same, fun u h => h, T.ko_BadRun_ShrunkError, true, rfl, ?_⟩
      refine iteT ?_
      refine ⟨_, rfl, rfl, rfl, d, _, _, rfl, upd_same, lk1, ?_⟩
      exact k _ (same_new hd)
    · refine .inr ⟨q, ys, rfl, hq, .inr ⟨h400, st, ts, pre, rest, hO, e, hi, .inr ⟨v, r2, u, e2, hu, hodd, fun H9 s9 d hd => ⟨true, T.mm_BadRun_BadRun, fun _ a0 ha0 => ?_, fun zz => (by cases zz)⟩⟩⟩⟩
      dsimp only [outA]
      refine ⟨_, rfl, rfl, _, _, true, d, _, rfl, rfl, upd_same, fun u h => h, T.ko_BadRun_WrongItem, true, rfl, ?_⟩
      refine iteT ?_
      refine ⟨_, rfl, rfl, _, _, true, d, _, rfl, rfl, upd_same, fun u h => h, T.ko_BadRun_ShrunkError, true, rfl, ?_⟩
      refine iteT ?_
      refine ⟨_, rfl, rfl, rfl, d, _, _, rfl, upd_same, lk1, ?_⟩
      exact k _ (s9.trans (same_new hd))
end
end Sh
set_option Elab.async false
set_option linter.all false
set_option maxRecDepth 100000
/-! how data are shown: bounds -/
namespace Sh
open PySem PySem.Spec PyProof.Rows L2
open SX (S S_inj S_len S_cat)
def Shw (d : PyData) (k m : Nat) : Prop := d.showable = true ∧ d.hasDict = false ∧ d.depth ≤ k ∧ d.shown.length ≤ m
theorem Shw.mono {d : PyData} {k m k' m' : Nat} (h : Shw d k m) (h1 : k ≤ k') (h2 : m ≤ m') : Shw d k' m' := ⟨h.1, h.2.1, Nat.le_trans h.2.2.1 h1, Nat.le_trans h.2.2.2 h2⟩
theorem Shw.non : Shw .none 0 4 := ⟨rfl, rfl, Nat.le_refl _, by decide⟩
theorem Shw.bl (b : Bool) : Shw (.bool b) 0 5 := by cases b <;> exact ⟨rfl, rfl, Nat.le_refl _, by decide⟩
theorem Shw.str {u : List Nat} (h : ∀ c ∈ u, c < 1114112) : Shw (.str (S u)) 0 (10 * u.length + 2) := by
  refine ⟨rfl, rfl, Nat.le_refl _, ?_⟩
  have := PySem.StrLaws.reprText_len (S u) (fun c hc => Nat.lt_trans (h c hc) (by decide))
  rw [S_len] at this
  exact this
theorem showAll {ds : List PyData} {k m : Nat} (h : ∀ d ∈ ds, Shw d k m) : PyData.showableAll ds = true ∧ PyData.hasDictAll ds = false ∧ PyData.depthAll ds ≤ k ∧ (((PyData.shownAll ds).map (·.length)).sum ≤ ds.length * m) ∧ (PyData.shownAll ds).length = ds.length := by
  induction ds with
  | nil => exact ⟨rfl, rfl, Nat.zero_le _, Nat.zero_le _, rfl⟩
  | cons d ds ih =>
    obtain ⟨a1, a2, a3, a4⟩ := h d List.mem_cons_self
    obtain ⟨b1, b2, b3, b4, b5⟩ := ih fun x hx => h x (List.mem_cons_of_mem _ hx)
    refine ⟨?_, ?_, ?_, ?_, ?_⟩
    · show (d.showable && PyData.showableAll ds) = true
      rw [a1, b1]; rfl
    · show (d.hasDict || PyData.hasDictAll ds) = false
      rw [a2, b2]; rfl
    · show max d.depth (PyData.depthAll ds) ≤ k
      omega
    · show d.shown.length + ((PyData.shownAll ds).map (·.length)).sum ≤ (ds.length + 1) * m
      rw [Nat.succ_mul]
      omega
    · show (PyData.shownAll ds).length + 1 = ds.length + 1
      rw [b5]
theorem Shw.tup {ds : List PyData} {k m : Nat} (h : ∀ d ∈ ds, Shw d k m) : Shw (.tuple ds) (k + 1) (ds.length * m + 2 * ds.length + 3) := by
  obtain ⟨b1, b2, b3, b4, b5⟩ := showAll h
  refine ⟨b1, b2, ?_, ?_⟩
  · show PyData.depthAll ds + 1 ≤ k + 1
    omega
  · have := PySem.tupleText_len_le (PyData.shownAll ds)
    rw [b5] at this
    show (tupleText (PyData.shownAll ds)).length ≤ _
    omega
theorem Shw.lst {ds : List PyData} {k m : Nat} (h : ∀ d ∈ ds, Shw d k m) : Shw (.list ds) (k + 1) (ds.length * m + 2 * ds.length + 3) := by
  obtain ⟨b1, b2, b3, b4, b5⟩ := showAll h
  refine ⟨b1, b2, ?_, ?_⟩
  · show PyData.depthAll ds + 1 ≤ k + 1
    omega
  · have := PySem.listText_len_le (PyData.shownAll ds)
    rw [b5] at this
    show (listText (PyData.shownAll ds)).length ≤ _
    omega
theorem Shw.ok {d : PyData} {k m : Nat} (h : Shw d k m) (h1 : k ≤ 60) (h2 : m ≤ 16777216) : d.showable = true ∧ d.hasDict = false ∧ d.depth ≤ 60 ∧ d.shown.length ≤ sizeLine := ⟨h.1, h.2.1, Nat.le_trans h.2.2.1 h1, Nat.le_trans h.2.2.2 (Nat.le_trans h2 (by decide))⟩
end Sh
set_option Elab.async false
set_option linter.all false
/-! blocks of a def's body, by their places -/
namespace Sh
open PySem PySem.Spec PyProof.Rows L2
def stBody (l : List Stmt) (n : Nat) : List Stmt := match l.drop n with
  | .For _ _ b _ _ :: _ => b
  | .While _ b _ _ :: _ => b
  | .If _ b _ _ :: _ => b
  | _ => []
def stElse (l : List Stmt) (n : Nat) : List Stmt := match l.drop n with
  | .If _ _ b _ :: _ => b
  | _ => []
end Sh
set_option Elab.async false
set_option linter.all false
set_option maxRecDepth 100000
set_option maxHeartbeats 4000000
namespace Sh
open PySem PySem.Spec PyProof.Rows L2
open SX (S S_inj S_len S_cat)
open Bk (Rule firstAt lg bestUp used left drain pushS Wf lf stAt stP)
theorem But.toSame {p : Addr} {H H' : Hp} (b : But p H H') (n : H p = none) : Same H H' := fun c o e => b c o (ne_of_none e n) e
theorem Same.but {p : Addr} {H H1 H2 : Hp} (s : Same H H1) (b : But p H1 H2) (n : H p = none) : Same H H2 := fun c o e => b c o (ne_of_none e n) (s c o e)
def stD (p : Nat × Nat) : PyData := .tuple [.int (p.1 : Nat), .int (p.2 : Nat)]
theorem dpAll_of {α : Type} {Rel : Hp → V → α → Prop} {f : α → PyData} {K : PySem.W.Frag} {H : Hp} (hd : ∀ v y, Rel H v y → Dp K H v (f y)) : ∀ {xs : List V} {l : List α}, Items Rel H xs l → DpAll K H xs (l.map f)
  | [], [], _ => .nil
  | [], _ :: _, h => by have := h.1; simp at this
  | _ :: _, [], h => by have := h.1; simp at this
  | x :: xs, y :: l, h => .cons (hd _ _ (h.2 0 x y rfl rfl)) (dpAll_of hd (xs := xs) (l := l) ⟨by have := h.1; simpa using this, fun i a b h1 h2 => h.2 (i + 1) a b (by simpa using h1) (by simpa using h2)⟩)
theorem StpV.dp {K : PySem.W.Frag} {H : Hp} {v : V} {o : Nat × Nat} (h : StpV H v o) : Dp K H v (stD o) := by
  obtain ⟨q, rfl, hq⟩ := h
  exact .tup (SqT.of hq) (.cons (.int _) (.cons (.int _) .nil))
theorem dpStrs {α : Type} {f : α → Str} {K : PySem.W.Frag} {H : Hp} : ∀ l : List α, DpAll K H (l.map fun o => V.str (f o)) (l.map fun o => PyData.str (f o))
  | [] => .nil
  | _ :: l => .cons (.str _) (dpStrs l)
theorem Shw.int {i : Int} (h0 : 0 ≤ i) (h1 : i < 1000) : Shw (.int i) 0 13 := ⟨decide_eq_true (Nat.lt_of_le_of_lt (Nat.log2_le_self _) (by omega)), rfl, Nat.le_refl _, PyData.shown_int_le (by omega)⟩
/-! ### steps of a text -/
theorem stI_mem {R : List Rule} {t : List Nat} {m p n : Nat} (h : (p, n) ∈ Bk.stI R t m) : ∃ r, R[n]? = some r ∧ p < m ∧ (t.drop p).take r.1.length = r.1 := by
  unfold Bk.stI stP at h
  simp only [List.mem_flatMap, List.mem_range, List.mem_filterMap] at h
  obtain ⟨i, hi, j, hj, e⟩ := h
  have hr : R[j]? = some R[j] := List.getElem?_eq_getElem hj
  unfold stAt at e
  split at e
  · rename_i c
    cases e
    rw [Bk.lf_get hr] at c
    exact ⟨_, hr, hi, c⟩
  · cases e
theorem can_of {R : List Rule} {t : List Nat} {p n : Nat} {r : Rule} (hr : R[n]? = some r) (hp : p ≤ t.length) (h : (t.drop p).take r.1.length = r.1) : canS R t p n = true := by
  have hn := (List.getElem?_eq_some_iff.mp hr).1
  unfold canS
  rw [show ((n : Nat) : Int).toNat = n by omega, show ((p : Nat) : Int).toNat = p by omega, List.getD_eq_getElem?_getD, hr, Option.getD_some, h, decide_eq_true (show (0 : Int) ≤ n by omega), decide_eq_true (show (n : Int) ≤ (R.length : Int) - 1 by omega), decide_eq_true (show (0 : Int) ≤ p by omega), decide_eq_true (show (p : Int) ≤ t.length by omega), decide_eq_true rfl]
  rfl
theorem made_len {r : Rule} {t : List Nat} {p : Nat} (hr : r.2.length ≤ r.1.length) (h : (t.drop p).take r.1.length = r.1) : (madeS r t p).length ≤ t.length := by
  have := congrArg List.length h
  rw [List.length_take, List.length_drop] at this
  unfold madeS
  simp only [List.length_append, List.length_take, List.length_drop]
  omega
theorem made_chars {sg : List Nat} {r : Rule} {t : List Nat} {p : Nat} (hr : ∀ c ∈ r.2, c ∈ sg) (ht : ∀ c ∈ t, c ∈ sg) : ∀ c ∈ madeS r t p, c ∈ sg := by
  intro c hc
  unfold madeS at hc
  rcases List.mem_append.mp hc with z | z
  · rcases List.mem_append.mp z with z | z
    · exact ht c (List.mem_of_mem_take z)
    · exact hr c z
  · exact ht c (List.mem_of_mem_drop z)
theorem text_ok {sg t : List Nat} (h : ∀ c ∈ t, c ∈ sg) (hl : t.length ≤ 200) : isText sg t 0 200 = true := by
  have c2 : (0 : Int) ≤ (t.length : Int) := by omega
  have c3 : (t.length : Int) ≤ 200 := by omega
  simp only [isText, c2, c3, decide_true, Bool.true_and, List.all_eq_true]
  exact fun c m => decide_eq_true (h c m)
theorem RunOk.one {R : List Rule} {t : List Nat} (h : t.length ≤ 1000) : RunOk R t [] [t] := ⟨rfl, rfl, fun i s u h1 _ => by simp at h1, fun u m => by rw [List.mem_singleton] at m; rw [m]; exact h⟩
theorem RunOk.snoc {R : List Rule} {t u : List Nat} {st : List (Nat × Nat)} {ts : List (List Nat)} {p n : Nat} {r : Rule} (h : RunOk R t st ts) (hu : ts[st.length]? = some u) (hr : R[n]? = some r) (hc : canS R u p n = true) (hl : (madeS r u p).length ≤ 1000) : RunOk R t (st ++ [(p, n)]) (ts ++ [madeS r u p]) := by
  refine ⟨by simp [h.len], ?_, fun i s v h1 h2 => ?_, fun v m => ?_⟩
  · rw [List.getElem?_append_left (by rw [h.len]; omega)]; exact h.h0
  · rcases Nat.lt_trichotomy i st.length with q | q | q
    · rw [List.getElem?_append_left q] at h1
      rw [List.getElem?_append_left (by rw [h.len]; omega)] at h2
      obtain ⟨r', a, b, c⟩ := h.stp i s v h1 h2
      refine ⟨r', a, b, ?_⟩
      rw [List.getElem?_append_left (by rw [h.len]; omega)]
      exact c
    · subst q
      rw [List.getElem?_append_right (Nat.le_refl _), Nat.sub_self] at h1
      rw [List.getElem?_append_left (by rw [h.len]; omega), hu] at h2
      cases h1; cases h2
      refine ⟨r, hr, hc, ?_⟩
      rw [List.getElem?_append_right (by rw [h.len]; omega), h.len, Nat.sub_self]
      rfl
    · have := (List.getElem?_eq_some_iff.mp h1).1
      simp at this
      omega
  · rcases List.mem_append.mp m with z | z
    · exact h.sm v z
    · rw [List.mem_singleton] at z; rw [z]; exact hl
theorem RunOk.take {R : List Rule} {t : List Nat} {st : List (Nat × Nat)} {ts : List (List Nat)} (h : RunOk R t st ts) {k : Nat} (hk : k ≤ st.length) : RunOk R t (st.take k) (ts.take (k + 1)) := by
  refine ⟨by rw [List.length_take, List.length_take, h.len]; omega, ?_, fun i s v h1 h2 => ?_, fun v m => h.sm v (List.mem_of_mem_take m)⟩
  · rw [List.getElem?_take_of_lt (by omega)]; exact h.h0
  · have hi := (List.getElem?_eq_some_iff.mp h1).1
    rw [List.length_take] at hi
    rw [List.getElem?_take_of_lt (by omega)] at h1 h2
    obtain ⟨r, a, b, c⟩ := h.stp i s v h1 h2
    exact ⟨r, a, b, by rw [List.getElem?_take_of_lt (by omega)]; exact c⟩
/-! ### what the law holds -/
section
variable {P : Program} {w : World} {K : PySem.W.Frag} {mg : Str → Option Value} {base : Heap} {CB XR FR DI XO FO XT FT DT SE : Addr}
/-- the book and its rules -/
structure Wd (K : PySem.W.Frag) (CB : Addr) (sg : List Nat) (R : List Rule) (xs : List V) (q x : Addr) (H : Hp) : Prop where
  hR : RulesAt K H q xs R
  BA : BookAt K CB H x sg R
theorem Wd.same {sg : List Nat} {R : List Rule} {xs : List V} {q x : Addr} {H H' : Hp} (h : Wd K CB sg R xs q x H) (s : Same H H') : Wd K CB sg R xs q x H' := ⟨h.hR.same s, h.BA.same s⟩
structure WdP (sg : List Nat) (R : List Rule) : Prop where
  hB : BookOk sg R
  l5 : R.length ≤ 5
  s0 : 0 < sg.length
  s3 : sg.length ≤ 3
theorem WdP.r4 {sg : List Nat} {R : List Rule} (h : WdP sg R) : ∀ r ∈ R, r.1.length ≤ 4 ∧ r.2.length ≤ 4 := fun r m => ⟨(h.hB.2.2.1 r m).2.1, by have := (h.hB.2.2.1 r m).2.2.2.2.1; omega⟩
theorem WdP.r1 {sg : List Nat} {R : List Rule} (h : WdP sg R) : ∀ r ∈ R, r.1.length ≤ 4 := fun r m => (h.r4 r m).1
/-- a step in a tuple -/
def StpT (K : PySem.W.Frag) (H : Hp) (v : V) (p : Nat × Nat) : Prop := ∃ q, v = .ref q ∧ SqT K H q [.int (p.1 : Nat), .int (p.2 : Nat)]
theorem StpT.keep {H H' : Hp} {v : V} {p : Nat × Nat} (h : StpT K H v p) (s : Keep H H') : StpT K H' v p := let ⟨q, e, h⟩ := h; ⟨q, e, s.seq h⟩
theorem StpT.x {H : Hp} {v : V} {p : Nat × Nat} (h : StpT K H v p) : StpX K H v p := let ⟨q, e, h⟩ := h; ⟨q, e, .inr h⟩
theorem StpV.t {H : Hp} {v : V} {p : Nat × Nat} (h : StpV H v p) : StpT K H v p := let ⟨q, e, h⟩ := h; ⟨q, e, SqT.of h⟩
/-- a turn of the law: the draws, the run, its texts -/
structure Tn (K : PySem.W.Frag) (sg : List Nat) (R : List Rule) (t : List Nat) (H0 : Hp) (pd pr pt : Addr) (ys : List V) (st : List (Nat × Nat)) (ts : List (List Nat)) (H : Hp) : Prop where
  sm : Same H0 H
  src : Src H pd
  hr : H pr = some (.lst ys)
  hi : Items (StpT K) H ys st
  ht : H pt = some (.lst (ts.map fun u => V.str (S u)))
  ok : RunOk R t st ts
  ch : ∀ u ∈ ts, (∀ c ∈ u, c ∈ sg) ∧ u.length ≤ 9
  l12 : st.length ≤ 12
  nd : H0 pd = none
  nr : H0 pr = none
  nt : H0 pt = none
  dr : pd ≠ pr
  dt : pd ≠ pt
  rt : pr ≠ pt
variable {sg : List Nat} {R : List Rule} {t : List Nat} {H0 H H' : Hp} {pd pr pt : Addr} {ys : List V} {st : List (Nat × Nat)} {ts : List (List Nat)}
theorem Tn.same (h : Tn K sg R t H0 pd pr pt ys st ts H) (s : Same H H') : Tn K sg R t H0 pd pr pt ys st ts H' :=
  { h with sm := h.sm.trans s, src := (let ⟨d, e, c, z⟩ := h.src; ⟨d, e, c, s _ _ z⟩), hr := s _ _ h.hr, hi := h.hi.mono fun x y z => z.keep (Keep.same s), ht := s _ _ h.ht }
theorem Tn.but (h : Tn K sg R t H0 pd pr pt ys st ts H) (b : But pd H H') (hs : Src H' pd) : Tn K sg R t H0 pd pr pt ys st ts H' :=
  { h with sm := Same.but h.sm b h.nd, src := hs, hr := b _ _ h.dr.symm h.hr, hi := h.hi.mono fun x y z => z.keep (Keep.but b h.src), ht := b _ _ h.dt.symm h.ht }
theorem Tn.tl (h : Tn K sg R t H0 pd pr pt ys st ts H) : ts.length ≤ 13 := by rw [h.ok.len]; have := h.l12; omega
theorem Tn.yl (h : Tn K sg R t H0 pd pr pt ys st ts H) : ys.length ≤ 12 := by rw [h.hi.1]; exact h.l12
theorem shw_ts {ts : List (List Nat)} (hc : ∀ u ∈ ts, Chars u ∧ u.length ≤ 9) (hl : ts.length ≤ 13) : Shw (.tuple (ts.map fun u => PyData.str (S u))) 1 16777216 := by
  refine (Shw.tup (k := 0) (m := 92) fun d hd => ?_).mono (Nat.le_refl _) (by rw [List.length_map]; omega)
  obtain ⟨u, hu, rfl⟩ := List.mem_map.mp hd
  exact (Shw.str (hc u hu).1).mono (Nat.le_refl _) (by have := (hc u hu).2; omega)
theorem shw_st {l : List (Nat × Nat)} (h : ∀ p ∈ l, p.1 < 1000 ∧ p.2 < 1000) (hl : l.length ≤ 4000) : Shw (.tuple (l.map stD)) 2 16777216 := by
  refine (Shw.tup (k := 1) (m := 33) fun d hd => ?_).mono (Nat.le_refl _) (by rw [List.length_map]; omega)
  obtain ⟨p, hp, rfl⟩ := List.mem_map.mp hd
  refine (Shw.tup (k := 0) (m := 13) fun d hd => ?_).mono (Nat.le_refl _) (by show 2 * 13 + 2 * 2 + 3 ≤ 33; decide)
  simp only [List.mem_cons, List.not_mem_nil, or_false] at hd
  have := h p hp
  rcases hd with rfl | rfl
  · exact Shw.int (by omega) (by omega)
  · exact Shw.int (by omega) (by omega)
theorem tchars (h : WdP sg R) {u : List Nat} (hu : ∀ c ∈ u, c ∈ sg) : Chars u := fun c hc => signs_chars h.hB.1 c (hu c hc)
end
end Sh
set_option Elab.async false
set_option linter.all false
set_option maxRecDepth 100000
/-! slices of rows of values, and of what they tell -/
namespace Sh
open PySem PySem.Spec PyProof.Rows L2
theorem cut_fromV {xs : List V} {i : Int} (h : 0 ≤ i) : cutV xs (some i) none = xs.drop i.toNat := by
  unfold cutV
  have h1 : HT.sIx xs.length 0 (some i) = min i.toNat xs.length := by
    show (if i < 0 then _ else min i.toNat xs.length) = _
    rw [if_neg (by omega)]
  have h2 : HT.sIx xs.length xs.length none = xs.length := rfl
  rw [h1, h2]
  by_cases c : i.toNat ≤ xs.length
  · rw [Nat.min_eq_left c]
    exact List.take_of_length_le (by simp)
  · rw [Nat.min_eq_right (by omega)]
    rw [List.drop_eq_nil_of_le (by omega), List.drop_eq_nil_of_le (by omega), List.take_nil]
theorem cut_toV {xs : List V} {i : Int} (h : 0 ≤ i) : cutV xs none (some i) = xs.take i.toNat := by
  unfold cutV
  have h1 : HT.sIx xs.length 0 none = 0 := rfl
  have h2 : HT.sIx xs.length xs.length (some i) = min i.toNat xs.length := by
    show (if i < 0 then _ else min i.toNat xs.length) = _
    rw [if_neg (by omega)]
  rw [h1, h2, List.drop_zero, Nat.sub_zero]
  by_cases c : i.toNat ≤ xs.length
  · rw [Nat.min_eq_left c]
  · rw [Nat.min_eq_right (by omega), List.take_of_length_le (Nat.le_refl _), List.take_of_length_le (by omega)]
theorem Items.drop {α : Type} {Rel : Hp → V → α → Prop} {H : Hp} {xs : List V} {l : List α} (h : Items Rel H xs l) (n : Nat) : Items Rel H (xs.drop n) (l.drop n) := by
  refine ⟨by rw [List.length_drop, List.length_drop, h.1], fun i x y h1 h2 => ?_⟩
  rw [List.getElem?_drop] at h1 h2
  exact h.2 _ x y h1 h2
theorem Items.take {α : Type} {Rel : Hp → V → α → Prop} {H : Hp} {xs : List V} {l : List α} (h : Items Rel H xs l) (n : Nat) : Items Rel H (xs.take n) (l.take n) := by
  refine ⟨by rw [List.length_take, List.length_take, h.1], fun i x y h1 h2 => ?_⟩
  rw [List.getElem?_take] at h1 h2
  split at h1
  · next c =>
    rw [if_pos c] at h2
    exact h.2 _ x y h1 h2
  · cases h1
theorem Items.app {α : Type} {Rel : Hp → V → α → Prop} {H : Hp} {xs ys : List V} {l m : List α} (h : Items Rel H xs l) (k : Items Rel H ys m) : Items Rel H (xs ++ ys) (l ++ m) := by
  refine ⟨by rw [List.length_append, List.length_append, h.1, k.1], fun i x y h1 h2 => ?_⟩
  rcases Nat.lt_or_ge i xs.length with q | q
  · rw [List.getElem?_append_left q] at h1
    rw [List.getElem?_append_left (h.1 ▸ q)] at h2
    exact h.2 i x y h1 h2
  · rw [List.getElem?_append_right q] at h1
    rw [List.getElem?_append_right (h.1 ▸ q), ← h.1] at h2
    exact k.2 _ x y h1 h2
theorem Items.rev {α : Type} {Rel : Hp → V → α → Prop} {H : Hp} : ∀ {xs : List V} {l : List α}, Items Rel H xs l → Items Rel H xs.reverse l.reverse
  | [], [], _ => Items.nil
  | [], _ :: _, h => by have := h.1; simp at this
  | _ :: _, [], h => by have := h.1; simp at this
  | x :: xs, y :: l, h => by
    rw [List.reverse_cons, List.reverse_cons]
    exact (Items.rev (xs := xs) (l := l) ⟨by have := h.1; simpa using this, fun i a b h1 h2 => h.2 (i + 1) a b (by simpa using h1) (by simpa using h2)⟩).snoc (fun _ _ z => z) (h.2 0 x y rfl rfl)
end Sh
set_option Elab.async false
set_option linter.all false
set_option maxRecDepth 100000
set_option maxHeartbeats 4000000
namespace Sh
open PySem PySem.Spec PyProof.Rows L2
open SX (S S_inj S_len S_cat)
open Bk (Rule firstAt lg bestUp used left drain pushS Wf lf stAt stP)
local macro_rules | `(tactic| walk_at "nx") => `(tactic| repeat (with_reducible first | refine Sh.gn_mk ?_ | refine Sh.nx_mk ?_ | refine Sh.st_nx ?_ | refine Sh.rt_mk ?_ | refine Sh.ct_mk ?_ | refine Sh.bk_mk ?_))
local macro_rules | `(tactic| walk_at "sq") => `(tactic| first | exact SqL.of upd_same | exact SqT.of upd_same | exact SqL.of (by assumption) | exact SqT.of (by assumption) | assumption | exact Or.inl (SqL.of (by assumption)) | exact Or.inr (SqT.of (by assumption)) | exact Or.inl (by assumption) | exact Or.inr (by assumption))
local macro_rules | `(tactic| walk_at "hp") => `(tactic| first | exact upd_same | assumption)
local macro_rules | `(tactic| walk_at "sz") => `(tactic| first | exact Nat.le_of_ble_eq_true rfl | omega)
local macro_rules | `(tactic| walk_at "sd") => `(tactic| first | omega | exact rfl | assumption | (show (0 : Int) < _; omega) | exact And.intro (by omega) (by omega) | exact Or.inl (And.intro (by omega) (by omega)) | exact Or.inr (And.intro (by omega) (by omega)) | omega | exact Sh.sz_S (by omega) | decide)
local macro_rules | `(tactic| walk_at "rd1") => `(tactic| first
  | (with_reducible first | refine Sh.gn_mk ?_ | refine Sh.nx_mk ?_ | refine Sh.st_nx ?_ | refine Sh.rt_mk ?_ | refine Sh.ct_mk ?_ | refine Sh.bk_mk ?_)
  | refine Exists.intro (α := V) _ (And.intro rfl ?_)
  | refine Exists.intro (α := Bool) _ (And.intro rfl ?_)
  | refine Exists.intro (α := Int) _ (And.intro rfl ?_)
  | refine Exists.intro (α := PySem.Str) _ (And.intro rfl ?_)
  | refine Exists.intro (α := Int) _ (Exists.intro (α := Int) _ (And.intro rfl (And.intro rfl ?_)))
  | refine Exists.intro (α := PySem.Str) _ (Exists.intro (α := PySem.Str) _ (And.intro rfl (And.intro rfl ?_)))
  | refine Exists.intro (α := Int) _ (Exists.intro (α := Int) _ (And.intro rfl ?_))
  | refine Or.inl (Exists.intro (α := Int) _ (And.intro rfl ?_))
  | refine Exists.intro _ (Exists.intro _ (Exists.intro _ (Exists.intro _ (And.intro rfl (And.intro rfl (And.intro (by walk_at "sq") (And.intro rfl ?_)))))))
  | refine Exists.intro _ (Exists.intro _ (Exists.intro _ (Exists.intro _ (And.intro rfl (And.intro rfl (And.intro (by walk_at "hp") (And.intro rfl ?_)))))))
  | refine And.intro (by walk_at "sd") ?_
  )
local macro_rules | `(tactic| walk_at "rd") => `(tactic| repeat walk_at "rd1")
local macro_rules | `(tactic| walk_at "lk") => `(tactic| first | exact rfl | (rw [lookup_putF, if_pos rfl]) | (rw [lookup_putF, if_neg (by decide +kernel)]; walk_at "lk"))

theorem strInt {i : Int} (h1 : -1 ≤ i) (h2 : i ≤ 1000) : ∃ z, StrV (.int i) z ∧ z.length ≤ 1000 := by
  obtain ⟨l5, lg⟩ := num_short (i + 1).toNat (by omega)
  rw [show (((i + 1).toNat : Nat) : Int) - 1 = i by omega] at l5 lg
  exact ⟨_, .int lg, by omega⟩
def RepOk (u : V) : Prop := ∃ d, (∀ (K : PySem.W.Frag) (H : Hp), Dp K H u d) ∧ Shw d 0 100
theorem repInt {i : Int} (h1 : 0 ≤ i) (h2 : i < 1000) : RepOk (.int i) := ⟨_, fun _ _ => .int _, (Shw.int h1 h2).mono (Nat.le_refl _) (by decide)⟩
theorem repNeg : RepOk (.int (-1)) := ⟨_, fun _ _ => .int _, by refine ⟨?_, rfl, Nat.le_refl _, ?_⟩ <;> decide +kernel⟩
theorem repNon : RepOk .non := ⟨_, fun _ _ => .non, Shw.non.mono (Nat.le_refl _) (by decide)⟩
theorem repA : RepOk (.str "a") := ⟨_, fun _ _ => .str _, by refine ⟨?_, rfl, Nat.le_refl _, ?_⟩ <;> decide +kernel⟩
/-- what is no step of t -/
structure OddP (R : List Rule) (t : List Nat) (u v : V) : Prop where
  ok : okStr u v
  ru : RepOk u
  rv : RepOk v
  od : (∃ p n : Int, u = .int p ∧ v = .int n ∧ canS R t p n = false) ∨ NoInt v ∨ ∃ n : Int, v = .int n ∧ NoInt u
theorem can_big {R : List Rule} {t : List Nat} {p n : Int} (h : (R.length : Int) ≤ n) : canS R t p n = false := by
  unfold canS
  rw [decide_eq_false (show ¬ n ≤ (R.length : Int) - 1 by omega)]
  simp
theorem can_neg {R : List Rule} {t : List Nat} {p n : Int} (h : p < 0 ∨ n < 0) : canS R t p n = false := by
  unfold canS
  rcases h with h | h
  · rw [decide_eq_false (show ¬ 0 ≤ p by omega)]
    simp
  · rw [decide_eq_false (show ¬ 0 ≤ n by omega)]
    simp
theorem can_end {R : List Rule} {t : List Nat} (h : ∀ r ∈ R, 1 ≤ r.1.length) {p : Nat} (hp : t.length ≤ p) : canS R t p 0 = false := by
  cases R with
  | nil => exact can_big (by simp)
  | cons r R =>
    have h1 := h r List.mem_cons_self
    unfold canS
    rw [show decide ((t.drop (p : Int).toNat).take (((r :: R).getD (0 : Int).toNat ([], [])).1.length) = ((r :: R).getD (0 : Int).toNat ([], [])).1) = false from decide_eq_false (fun e => by
      have e2 : (t.drop p).take r.1.length = r.1 := e
      rw [List.drop_eq_nil_of_le hp] at e2
      have := congrArg List.length e2
      simp at this
      omega)]
    simp
theorem lk2a {u v : V} : List.lookup (Str.ofString "place") [((Str.ofString "number" : Str), v), (Str.ofString "place", u)] = some u := rfl
theorem lk2b {u v : V} : List.lookup (Str.ofString "number") [((Str.ofString "number" : Str), v), (Str.ofString "place", u)] = some v := rfl
theorem WdP.l1 {sg : List Nat} {R : List Rule} (h : WdP sg R) : ∀ r ∈ R, 1 ≤ r.1.length := fun r m => (h.hB.2.2.1 r m).1
section
variable {P : Program} {w : World} {K : PySem.W.Frag} {mg : Str → Option Value} {base : Heap} {CB XR FR DI XO FO XT FT DT SE : Addr}
theorem blk_no (T : TxtX P K mg CB XR FR DI XO FO XT FT DT SE) (f : Addr) (cdv : Value) (A : Around) (outer : List Env) (s : Shared) (H : Hp) (E : XK) (hr : Room 6 (A.deeper (envOfC "law" (defScope s_law) s.heap.objs.size f cdv))) (hgd : A.guards = some []) :
    ∃ t_, PSs (cxOf CX0 P w K mg base ["_law_script", "_law_source_here", "_law_signs_here", "_law_rules", "_law_book", "_law_turn", "_law_draws", "_law_text_here", "_law_due", "_law_run", "_law_texts", "_law_near", "_law_pair", "_law_given", "_law_at", "_law_menu", "_law_odd", "_law_place_here", "_law_number", "raised", "_law_whole"] "law" (defScope s_law) f cdv A outer s H E).nox ((stBody (defBody s_law) 4).drop 13) t_ ∧
    ∀ (D : Ends) (H0 H1 : Hp) (a p q x pd pr pt : Addr) (sg t : List Nat) (R : List Rule) (xs ys : List V) (st : List (Nat × Nat)) (ts : List (List Nat)) (v5 v8 v11 v12 v13 v14 v15 v16 v17 v18 v19 v20 : Option V), Wd K CB sg R xs q x H0 → WdP sg R → Tn K sg R t H0 pd pr pt ys st ts H1 → (∀ σ' H', (∃ v5 v6 v7 v8 v9 v10 v11 v12 v13 v14 v15 v16 v17 v18 v19 v20 : Option V, σ' = [some (.ref a), some (.ref p), some (.str (S sg)), some (.ref q), some (.ref x), v5, v6, v7, v8, v9, v10, v11, v12, v13, v14, v15, v16, v17, v18, v19, v20] ∧ Same H0 H') → D.nx σ' H') → t_ D [some (.ref a), some (.ref p), some (.str (S sg)), some (.ref q), some (.ref x), v5, some (.ref pd), some (.str (S t)), v8, some (.ref pr), some (.ref pt), v11, v12, v13, v14, v15, v16, v17, v18, v19, v20] H1 := by
  have c__law_source := c__law_source (P := P) (w := w) (base := base) T.toTxtC.toTxt
  have c__law_signs := c__law_signs (P := P) (w := w) (base := base) T.toTxtC.toTxt
  have c__law_drawn := c__law_drawn (P := P) (w := w) (base := base) T.toTxtC.toTxt
  have c_Book := c_Book___init__ (P := P) (w := w) (base := base) T.toTxtC
  have c__law_text := c__law_text (P := P) (w := w) (base := base) T.toTxtC.toTxt
  have c__law_steps := c__law_steps (P := P) (w := w) (base := base) T.toTxtC.toTxt
  have c__law_pick := c__law_pick (P := P) (w := w) (base := base) T.toTxtC.toTxt
  have c_X_steps := c_X_steps (P := P) (w := w) (base := base) T
  have c__law_place := c__law_place (P := P) (w := w) (base := base) T
  have c_X_step := c_X_step (P := P) (w := w) (base := base) T
  have c__law_step := c__law_step (P := P) (w := w) (base := base) T.toTxtC.toTxt
  have c_X_played := c_X_played (P := P) (w := w) (base := base) T
  have hgd : (A.deeper (envOfC "law" (defScope s_law) s.heap.objs.size f cdv)).guards = some [] := hgd
  have hu := hu_of hr
  refine ⟨_, (pss_cons (ps_asg (pe_ix ix_list (pe_lst (pa_cons (pe_tup (pa_cons pe_int (pa_cons (pe_callB call_len_seq (by rfl) T.b_len (by decide +kernel) (pa_cons (pv 3) pa_nil)) pa_nil))) (pa_cons (pe_tup (pa_cons (pe_callB call_len_str (by rfl) T.b_len (by decide +kernel) (pa_cons (pv 7) pa_nil)) (pa_cons pe_int pa_nil))) (pa_cons (pe_tup (pa_cons (pe_un un_neg pe_int) (pa_cons pe_int pa_nil))) (pa_cons (pe_tup (pa_cons pe_int (pa_cons pe_non pa_nil))) (pa_cons (pe_tup (pa_cons pe_str (pa_cons pe_int pa_nil))) (pa_cons (pe_tup (pa_cons pe_int (pa_cons (pe_un un_neg pe_int) pa_nil))) pa_nil))))))) (pe_c c__law_pick hr (by decide) rfl (pa_cons (pv 6) (pa_cons pe_int pa_nil))) (fun _ _ => rfl)) (pg_tup (by rfl) (pgs_cons (pg_name (i := 17) sc_law.nd rfl (Or.inl rfl)) (pgs_cons (pg_name (i := 18) sc_law.nd rfl (Or.inl rfl)) pgs_nil))))
  (pss_one (ps_tryT rfl rfl sc_law.nd takes0 (fun W pn xe tk po => (pss_cons (ps_expr (pe_cX c_X_step hr (by decide) tk rfl (pa_cons (pv 4) (pa_cons (pv 7) (pa_cons (pv 17) (pa_cons (pv 18) pa_nil))))))
    (pss_one (ps_ret pe_bl))))
    (HdsA.cons (i := 19) rfl rfl ⟨rfl, by decide, Or.inl T.e_NoStep.mgC⟩ (fun a oe cls d pn hz hf => (pss_one (ps_if (PW.pt (pw_or (pt_cmpR op_ne (pe_callB (call_reprDs hgd hr.units) (by rfl) T.b_repr (by decide +kernel) (pa_cons (pe_xf T.e_NoStep.xf T.nf_NoStep_place hz hf (pv 19)) pa_nil)) (pe_callB (call_reprDs hgd hr.units) (by rfl) T.b_repr (by decide +kernel) (pa_cons (pv 17) pa_nil)) (nomark _)) (pw_or1 (pt_cmpR op_ne (pe_callB (call_reprDs hgd hr.units) (by rfl) T.b_repr (by decide +kernel) (pa_cons (pe_xf T.e_NoStep.xf T.nf_NoStep_number hz hf (pv 19)) pa_nil)) (pe_callB (call_reprDs hgd hr.units) (by rfl) T.b_repr (by decide +kernel) (pa_cons (pv 18) pa_nil)) (nomark _)))))
      (pss_one (ps_ret pe_bl))
      pss_nil)))
    HdsA.nil)))), ?_⟩
  intro D H0 H1 a p q x pd pr pt sg t R xs ys st ts v5 v8 v11 v12 v13 v14 v15 v16 v17 v18 v19 v20 W0 WP TN kD
  have W1 := W0.same TN.sm
  have hS3 := WP.s3
  have ht9 : t.length ≤ 9 := (TN.ch t (List.mem_of_getElem? TN.ok.h0)).2
  have hSt := S_len t
  have hlx := W0.hR.len
  generalize hG : H1 = G0 at TN W1 ⊢
  clear hG
  walk_at "rd"
  refine ⟨q, xs, rfl, .inr W1.hR.sq, ?_⟩
  try refine And.intro (by walk_at "sz") ?_
  intro l1 h1
  have s1 := same_new (o := .tup [.int 0, .int xs.length]) h1
  have e1 : (upd G0 l1 (.tup [.int 0, .int xs.length])) l1 = some (.tup [.int 0, .int xs.length]) := upd_same
  generalize upd G0 l1 (.tup [.int 0, .int xs.length]) = G1 at s1 e1 ⊢
  walk_at "rd"
  try refine And.intro (by walk_at "sz") ?_
  intro l2 h2
  have s2 := same_new (o := .tup [.int (S t).length, .int 0]) h2
  have e2 : (upd G1 l2 (.tup [.int (S t).length, .int 0])) l2 = some (.tup [.int (S t).length, .int 0]) := upd_same
  generalize upd G1 l2 (.tup [.int (S t).length, .int 0]) = G2 at s2 e2 ⊢
  walk_at "rd"
  try refine And.intro (by walk_at "sz") ?_
  intro l3 h3
  have s3 := same_new (o := .tup [.int (-1), .int 0]) h3
  have e3 : (upd G2 l3 (.tup [.int (-1), .int 0])) l3 = some (.tup [.int (-1), .int 0]) := upd_same
  generalize upd G2 l3 (.tup [.int (-1), .int 0]) = G3 at s3 e3 ⊢
  walk_at "rd"
  try refine And.intro (by walk_at "sz") ?_
  intro l4 h4
  have s4 := same_new (o := .tup [.int 0, .non]) h4
  have e4 : (upd G3 l4 (.tup [.int 0, .non])) l4 = some (.tup [.int 0, .non]) := upd_same
  generalize upd G3 l4 (.tup [.int 0, .non]) = G4 at s4 e4 ⊢
  walk_at "rd"
  try refine And.intro (by walk_at "sz") ?_
  intro l5 h5
  have s5 := same_new (o := .tup [.str "a", .int 0]) h5
  have e5 : (upd G4 l5 (.tup [.str "a", .int 0])) l5 = some (.tup [.str "a", .int 0]) := upd_same
  generalize upd G4 l5 (.tup [.str "a", .int 0]) = G5 at s5 e5 ⊢
  walk_at "rd"
  try refine And.intro (by walk_at "sz") ?_
  intro l6 h6
  have s6 := same_new (o := .tup [.int 0, .int (-1)]) h6
  have e6 : (upd G5 l6 (.tup [.int 0, .int (-1)])) l6 = some (.tup [.int 0, .int (-1)]) := upd_same
  generalize upd G5 l6 (.tup [.int 0, .int (-1)]) = G6 at s6 e6 ⊢
  walk_at "rd"
  refine ⟨by walk_at "sz", fun l7 h7 => ?_⟩
  have s7 := same_new (o := .lst [.ref l1, .ref l2, .ref l3, .ref l4, .ref l5, .ref l6]) h7
  have e7 : (upd G6 l7 (.lst [.ref l1, .ref l2, .ref l3, .ref l4, .ref l5, .ref l6])) l7 = some (.lst [.ref l1, .ref l2, .ref l3, .ref l4, .ref l5, .ref l6]) := upd_same
  generalize upd G6 l7 (.lst [.ref l1, .ref l2, .ref l3, .ref l4, .ref l5, .ref l6]) = G7 at s7 e7 ⊢
  have s27 := s3.trans (s4.trans (s5.trans (s6.trans s7)))
  have TN7 := TN.same (s1.trans (s2.trans s27))
  refine ⟨_, rfl, pd, 6, rfl, TN7.src, by decide, by decide, fun n G8 n0 n1 sp bp => ?_⟩
  have TN8 := TN7.but bp sp
  have hln : l7 ≠ pd := by
    intro e
    obtain ⟨_, _, _, z⟩ := TN7.src
    rw [← e, e7] at z
    cases z
  have k8 : Keep G7 G8 := Keep.but bp TN7.src
  have hm : ∃ ln u v, atI [V.ref l1, .ref l2, .ref l3, .ref l4, .ref l5, .ref l6] n = some (.ref ln) ∧ SqT K G8 ln [u, v] ∧ OddP R t u v := by
    have h6 : n = 0 ∨ n = 1 ∨ n = 2 ∨ n = 3 ∨ n = 4 ∨ n = 5 := by omega
    have hl5 := WP.l5
    rcases h6 with rfl | rfl | rfl | rfl | rfl | rfl
    · exact ⟨l1, _, _, rfl, k8.seq (SqT.of (s27 _ _ (s2 _ _ e1))), ⟨strInt (by decide) (by decide), strInt (by omega) (by omega)⟩, repInt (by decide) (by decide), repInt (by omega) (by omega), .inl ⟨_, _, rfl, rfl, can_big (by omega)⟩⟩
    · exact ⟨l2, _, _, rfl, k8.seq (SqT.of (s27 _ _ e2)), ⟨strInt (by omega) (by omega), strInt (by decide) (by decide)⟩, repInt (by omega) (by omega), repInt (by decide) (by decide), .inl ⟨_, _, rfl, rfl, can_end WP.l1 (by omega)⟩⟩
    · exact ⟨l3, _, _, rfl, k8.seq (SqT.of (s7 _ _ (s6 _ _ (s5 _ _ (s4 _ _ e3))))), ⟨strInt (by decide) (by decide), strInt (by decide) (by decide)⟩, repNeg, repInt (by decide) (by decide), .inl ⟨_, _, rfl, rfl, can_neg (.inl (by decide))⟩⟩
    · exact ⟨l4, _, _, rfl, k8.seq (SqT.of (s7 _ _ (s6 _ _ (s5 _ _ e4)))), ⟨strInt (by decide) (by decide), ⟨_, .non, by decide⟩⟩, repInt (by decide) (by decide), repNon, .inr (.inl (.inl rfl))⟩
    · exact ⟨l5, _, _, rfl, k8.seq (SqT.of (s7 _ _ (s6 _ _ e5))), ⟨⟨_, .str _, by decide⟩, strInt (by decide) (by decide)⟩, repA, repInt (by decide) (by decide), .inr (.inr ⟨_, rfl, .inr (.inl ⟨_, rfl⟩)⟩)⟩
    · exact ⟨l6, _, _, rfl, k8.seq (SqT.of (s7 _ _ e6)), ⟨strInt (by decide) (by decide), strInt (by decide) (by decide)⟩, repInt (by decide) (by decide), repNeg, .inl ⟨_, _, rfl, rfl, can_neg (.inr (by decide))⟩⟩
  obtain ⟨ln, u, v, hat, hsq, hod⟩ := hm
  have e8 := bp _ _ hln e7
  refine ⟨l7, _, _, _, rfl, rfl, SqL.of e8, hat, ?_⟩
  refine ⟨ln, _, rfl, hsq, rfl, _, _, rfl, _, _, rfl, rfl, ?_⟩
  have W8 := W0.same TN8.sm
  clear hat hsq e8 k8 hln TN7 s27 e7 s7 e6 s6 e5 s5 e4 s4 e3 s3 e2 s2 e1 s1 h7 h6 h5 h4 h3 h2 h1
  walk_at "nx"
  unfold tTry
  have hc9 := (TN.ch t (List.mem_of_getElem? TN.ok.h0)).1
  obtain ⟨du, hdu, shu⟩ := hod.ru
  obtain ⟨dv, hdv, shv⟩ := hod.rv
  have shu := shu.ok (by decide) (by decide)
  have shv := shv.ok (by decide) (by decide)
  have oc : (∃ p n : Int, u = .int p ∧ v = .int n ∧ canS R t p n = false) ∨ NotInt K G8 v ∨ ∃ n : Int, v = .int n ∧ NotInt K G8 u :=
    hod.od.imp id fun h => h.imp (fun h => h.ty) fun ⟨n, e, h⟩ => ⟨n, e, h.ty⟩
  refine ⟨_, rfl, _, rfl, _, rfl, _, rfl, x, sg, t, R, u, v, rfl, W8.BA, by have := WP.l5; omega, WP.r4, by omega, text_ok hc9 (by omega), .inr ⟨hod.ok, fun d hd => ⟨true, T.mm_NoStep_NoStep, fun _ a0 ha0 => ?_, fun zz => (by cases zz)⟩, oc⟩⟩
  dsimp only [outA]
  refine if_K false (fun Q' hQ => ?_) (fun zz => by cases zz) (fun _ => ?_)
  · refine ⟨_, rfl, rfl, rfl, d, _, _, rfl, upd_same, lk2a, ?_⟩
    refine ⟨u, du, rfl, hdu _ _, shu.1, shu.2.1, shu.2.2.1, shu.2.2.2, ?_⟩
    refine ⟨_, rfl, u, du, rfl, hdu _ _, shu.1, shu.2.1, shu.2.2.1, shu.2.2.2, rfl, ?_⟩
    rw [decide_eq_true rfl]
    refine ⟨_, rfl, ?_⟩
    refine iteF ?_
    refine ⟨_, rfl, rfl, rfl, d, _, _, rfl, upd_same, lk2b, ?_⟩
    refine ⟨v, dv, rfl, hdv _ _, shv.1, shv.2.1, shv.2.2.1, shv.2.2.2, ?_⟩
    refine ⟨_, rfl, v, dv, rfl, hdv _ _, shv.1, shv.2.1, shv.2.2.1, shv.2.2.2, rfl, ?_⟩
    rw [decide_eq_true rfl]
    exact ⟨_, rfl, hQ⟩
  · show D.nx _ _
    refine kD _ _ ?_
    exact ⟨_, _, _, _, _, _, _, _, _, _, _, _, _, _, _, _, rfl, TN8.sm.trans (same_new hd)⟩
end
end Sh
set_option Elab.async false
set_option linter.all false
set_option maxRecDepth 100000
set_option maxHeartbeats 4000000
namespace Sh
open PySem PySem.Spec PyProof.Rows L2
open SX (S S_inj S_len S_cat)
open Bk (Rule firstAt lg bestUp used left drain pushS Wf lf stAt stP)
local macro_rules | `(tactic| walk_at "nx") => `(tactic| repeat (with_reducible first | refine Sh.gn_mk ?_ | refine Sh.nx_mk ?_ | refine Sh.st_nx ?_ | refine Sh.rt_mk ?_ | refine Sh.ct_mk ?_ | refine Sh.bk_mk ?_))
local macro_rules | `(tactic| walk_at "sq") => `(tactic| first | exact SqL.of upd_same | exact SqT.of upd_same | exact SqL.of (by assumption) | exact SqT.of (by assumption) | assumption | exact Or.inl (SqL.of (by assumption)) | exact Or.inr (SqT.of (by assumption)) | exact Or.inl (by assumption) | exact Or.inr (by assumption))
local macro_rules | `(tactic| walk_at "hp") => `(tactic| first | exact upd_same | assumption)
local macro_rules | `(tactic| walk_at "sz") => `(tactic| first | exact Nat.le_of_ble_eq_true rfl | omega)
local macro_rules | `(tactic| walk_at "sd") => `(tactic| first | omega | exact rfl | assumption | (show (0 : Int) < _; omega) | exact And.intro (by omega) (by omega) | exact Or.inl (And.intro (by omega) (by omega)) | exact Or.inr (And.intro (by omega) (by omega)) | omega | exact Sh.sz_S (by omega) | decide)
local macro_rules | `(tactic| walk_at "rd1") => `(tactic| first
  | (with_reducible first | refine Sh.gn_mk ?_ | refine Sh.nx_mk ?_ | refine Sh.st_nx ?_ | refine Sh.rt_mk ?_ | refine Sh.ct_mk ?_ | refine Sh.bk_mk ?_)
  | refine Exists.intro (α := V) _ (And.intro rfl ?_)
  | refine Exists.intro (α := Bool) _ (And.intro rfl ?_)
  | refine Exists.intro (α := Int) _ (And.intro rfl ?_)
  | refine Exists.intro (α := PySem.Str) _ (And.intro rfl ?_)
  | refine Exists.intro (α := Int) _ (Exists.intro (α := Int) _ (And.intro rfl (And.intro rfl ?_)))
  | refine Exists.intro (α := PySem.Str) _ (Exists.intro (α := PySem.Str) _ (And.intro rfl (And.intro rfl ?_)))
  | refine Exists.intro (α := Int) _ (Exists.intro (α := Int) _ (And.intro rfl ?_))
  | refine Or.inl (Exists.intro (α := Int) _ (And.intro rfl ?_))
  | refine Exists.intro _ (Exists.intro _ (Exists.intro _ (Exists.intro _ (And.intro rfl (And.intro rfl (And.intro (by walk_at "sq") (And.intro rfl ?_)))))))
  | refine Exists.intro _ (Exists.intro _ (Exists.intro _ (Exists.intro _ (And.intro rfl (And.intro rfl (And.intro (by walk_at "hp") (And.intro rfl ?_)))))))
  | refine And.intro (by walk_at "sd") ?_
  )
local macro_rules | `(tactic| walk_at "rd") => `(tactic| repeat walk_at "rd1")
local macro_rules | `(tactic| walk_at "lk") => `(tactic| first | exact rfl | (rw [lookup_putF, if_pos rfl]) | (rw [lookup_putF, if_neg (by decide +kernel)]; walk_at "lk"))

theorem Items.imp {α : Type} {Rel Rel' : Hp → V → α → Prop} {H H' : Hp} {xs : List V} {l : List α} (h : Items Rel H xs l) (m : ∀ x y, Rel H x y → Rel' H' x y) : Items Rel' H' xs l := ⟨h.1, fun i x y a b => m _ _ (h.2 i x y a b)⟩
/-- two tuples put together -/
theorem catA_J {K : PySem.W.Frag} {a b : Addr} {xs ys : List V} {H : Hp} {Q : VK} (h : SqT K H a xs) (g : SqT K H b ys) (l : xs.length + ys.length ≤ sizeLine) (k : ∀ q H', Same H H' → SqT K H' q (xs ++ ys) → Q (.ref q) H') : rCatA K (.ref a) (.ref b) H Q :=
  ⟨a, b, xs, ys, rfl, rfl, h, g, l, fun e => k b H (Same.refl _) (by rw [e]; exact g), fun _ e => k a H (Same.refl _) (by rw [e, List.append_nil]; exact h), fun _ _ p hp => k p _ (same_new hp) (SqT.of upd_same)⟩
section
variable {P : Program} {w : World} {K : PySem.W.Frag} {mg : Str → Option Value} {base : Heap} {CB XR FR DI XO FO XT FT DT SE : Addr}
theorem blk_odd (T : TxtX P K mg CB XR FR DI XO FO XT FT DT SE) (f : Addr) (cdv : Value) (A : Around) (outer : List Env) (s : Shared) (H : Hp) (E : XK) (hr : Room 6 (A.deeper (envOfC "law" (defScope s_law) s.heap.objs.size f cdv))) (hgd : A.guards = some []) :
    ∃ t_, PSs (cxOf CX0 P w K mg base ["_law_script", "_law_source_here", "_law_signs_here", "_law_rules", "_law_book", "_law_turn", "_law_draws", "_law_text_here", "_law_due", "_law_run", "_law_texts", "_law_near", "_law_pair", "_law_given", "_law_at", "_law_menu", "_law_odd", "_law_place_here", "_law_number", "raised", "_law_whole"] "law" (defScope s_law) f cdv A outer s H E).nox ((stBody (defBody s_law) 4).drop 9) t_ ∧
    ∀ (D : Ends) (H0 H1 : Hp) (a p q x pd pr pt : Addr) (sg t : List Nat) (R : List Rule) (xs ys : List V) (st : List (Nat × Nat)) (ts : List (List Nat)) (v5 v8 v11 v12 v13 v14 v15 v16 v17 v18 v19 v20 : Option V), Wd K CB sg R xs q x H0 → WdP sg R → Tn K sg R t H0 pd pr pt ys st ts H1 → (∀ σ' H', (∃ v5 v6 v7 v8 v9 v10 v11 v12 v13 v14 v15 v16 v17 v18 v19 v20 : Option V, σ' = [some (.ref a), some (.ref p), some (.str (S sg)), some (.ref q), some (.ref x), v5, v6, v7, v8, v9, v10, v11, v12, v13, v14, v15, v16, v17, v18, v19, v20] ∧ Same H0 H') → D.nx σ' H') → t_ D [some (.ref a), some (.ref p), some (.str (S sg)), some (.ref q), some (.ref x), v5, some (.ref pd), some (.str (S t)), v8, some (.ref pr), some (.ref pt), v11, v12, v13, v14, v15, v16, v17, v18, v19, v20] H1 := by
  have c__law_source := c__law_source (P := P) (w := w) (base := base) T.toTxtC.toTxt
  have c__law_signs := c__law_signs (P := P) (w := w) (base := base) T.toTxtC.toTxt
  have c__law_drawn := c__law_drawn (P := P) (w := w) (base := base) T.toTxtC.toTxt
  have c_Book := c_Book___init__ (P := P) (w := w) (base := base) T.toTxtC
  have c__law_text := c__law_text (P := P) (w := w) (base := base) T.toTxtC.toTxt
  have c__law_steps := c__law_steps (P := P) (w := w) (base := base) T.toTxtC.toTxt
  have c__law_pick := c__law_pick (P := P) (w := w) (base := base) T.toTxtC.toTxt
  have c_X_steps := c_X_steps (P := P) (w := w) (base := base) T
  have c__law_place := c__law_place (P := P) (w := w) (base := base) T
  have c_X_step := c_X_step (P := P) (w := w) (base := base) T
  have c__law_step := c__law_step (P := P) (w := w) (base := base) T.toTxtC.toTxt
  have c_X_played := c_X_played (P := P) (w := w) (base := base) T
  obtain ⟨tb_no, hb_no, kb_no⟩ := blk_no (P := P) (w := w) (base := base) T f cdv A outer s H E hr hgd
  have hgd : (A.deeper (envOfC "law" (defScope s_law) s.heap.objs.size f cdv)).guards = some [] := hgd
  have hu := hu_of hr
  refine ⟨_, (pss_cons (ps_set (i := 14) sc_law.nd rfl (Or.inl rfl) (pe_c c__law_pick hr (by decide) rfl (pa_cons (pv 6) (pa_cons (pe_op op_add (pe_callB call_len_seq (by rfl) T.b_len (by decide +kernel) (pa_cons (pv 9) pa_nil)) pe_int) pa_nil))))
  (pss_cons (ps_set (i := 15) sc_law.nd rfl (Or.inl rfl) (pe_lst (pa_cons (pe_tup (pa_cons pe_int (pa_cons (pe_callB call_len_seq (by rfl) T.b_len (by decide +kernel) (pa_cons (pv 3) pa_nil)) pa_nil))) (pa_cons (pe_tup (pa_cons (pe_un un_neg pe_int) (pa_cons pe_int pa_nil))) (pa_cons (pe_tup (pa_cons pe_int pa_nil)) (pa_cons pe_non (pa_cons (pe_tup (pa_cons (pe_callB call_len_str (by rfl) T.b_len (by decide +kernel) (pa_cons (pe_ix ix_list (pv 10) (pv 14) (fun _ _ => rfl)) pa_nil)) (pa_cons pe_int pa_nil))) (pa_cons (pe_tup (pa_cons pe_str (pa_cons pe_int pa_nil))) (pa_cons (pe_tup (pa_cons pe_bl (pa_cons pe_int pa_nil))) (pa_cons pe_str (pa_cons (pe_tup (pa_cons pe_int (pa_cons pe_int (pa_cons pe_int pa_nil)))) (pa_cons (pe_tup (pa_cons pe_int (pa_cons (pe_un un_neg pe_int) pa_nil))) pa_nil))))))))))))
  (pss_cons (ps_set (i := 16) sc_law.nd rfl (Or.inl rfl) (pe_ix ix_list (pv 15) (pe_c c__law_pick hr (by decide) rfl (pa_cons (pv 6) (pa_cons pe_int pa_nil))) (fun _ _ => rfl)))
  (pss_cons (ps_if (pt_cmpR op_ne (pe_c c__law_place hr (by decide) rfl (pa_cons (pv 4) (pa_cons (pv 7) (pa_cons (pe_op op_catA (pe_op op_catA (pe_callTy call_tuple_of (by rfl) T.b_tuple (by decide +kernel) (pa_cons (pe_slice sl_list (pv 9) po_none (po_some (pv 14))) pa_nil)) (pe_tup (pa_cons (pv 16) pa_nil))) (pe_callTy call_tuple_of (by rfl) T.b_tuple (by decide +kernel) (pa_cons (pe_slice sl_list (pv 9) (po_some (pv 14)) po_none) pa_nil))) pa_nil)))) (pv 14) (nomark _))
    (pss_one (ps_ret pe_bl))
    pss_nil)
  hb_no)))), ?_⟩
  intro D H0 H1 a p q x pd pr pt sg t R xs ys st ts v5 v8 v11 v12 v13 v14 v15 v16 v17 v18 v19 v20 W0 WP TN kD
  have W1 := W0.same TN.sm
  have ht9 : t.length ≤ 9 := (TN.ch t (List.mem_of_getElem? TN.ok.h0)).2
  have hSt := S_len t
  have hlx := W0.hR.len
  have hyl := TN.yl
  have hy9 := TN.hi.1
  generalize hG : H1 = Gz at TN W1 ⊢
  clear hG
  walk_at "rd"
  refine ⟨pr, ys, rfl, .inl (SqL.of TN.hr), ?_⟩
  walk_at "rd"
  refine ⟨pd, _, rfl, TN.src, by omega, by omega, fun at_ G0 a0 a1 sp0 bp0 => ?_⟩
  have TN0 := TN.but bp0 sp0
  have W0' := W0.same TN0.sm
  clear W1 TN bp0 sp0
  obtain ⟨m, rfl⟩ : ∃ m : Nat, at_ = m := ⟨at_.toNat, by omega⟩
  have hm : m ≤ st.length := by omega
  obtain ⟨u, hu⟩ : ∃ u, ts[m]? = some u := ⟨ts[m]'(by rw [TN0.ok.len]; omega), List.getElem?_eq_getElem _⟩
  have huc := TN0.ch u (List.mem_of_getElem? hu)
  have hSu := S_len u
  walk_at "rd"
  refine ⟨q, xs, rfl, .inr W0'.hR.sq, ?_⟩
  try refine And.intro (by walk_at "sz") ?_
  intro l1 h1
  have s1 := same_new (o := .tup [.int 0, .int xs.length]) h1
  have e1 : (upd G0 l1 (.tup [.int 0, .int xs.length])) l1 = some (.tup [.int 0, .int xs.length]) := upd_same
  generalize upd G0 l1 (.tup [.int 0, .int xs.length]) = G1 at s1 e1 ⊢
  walk_at "rd"
  try refine And.intro (by walk_at "sz") ?_
  intro l2 h2
  have s2 := same_new (o := .tup [.int (-1), .int 0]) h2
  have e2 : (upd G1 l2 (.tup [.int (-1), .int 0])) l2 = some (.tup [.int (-1), .int 0]) := upd_same
  generalize upd G1 l2 (.tup [.int (-1), .int 0]) = G2 at s2 e2 ⊢
  walk_at "rd"
  try refine And.intro (by walk_at "sz") ?_
  intro l3 h3
  have s3 := same_new (o := .tup [.int 0]) h3
  have e3 : (upd G2 l3 (.tup [.int 0])) l3 = some (.tup [.int 0]) := upd_same
  generalize upd G2 l3 (.tup [.int 0]) = G3 at s3 e3 ⊢
  have ht3 := (((TN0.same s1).same s2).same s3).ht
  walk_at "rd"
  refine ⟨pt, _, _, _, rfl, rfl, SqL.of ht3, atI_nat (show (ts.map fun u => V.str (S u))[m]? = some (V.str (S u)) by rw [List.getElem?_map, hu]; rfl), ?_⟩
  walk_at "rd"
  try refine And.intro (by walk_at "sz") ?_
  intro l4 h4
  have s4 := same_new (o := .tup [.int (S u).length, .int 0]) h4
  have e4 : (upd G3 l4 (.tup [.int (S u).length, .int 0])) l4 = some (.tup [.int (S u).length, .int 0]) := upd_same
  generalize upd G3 l4 (.tup [.int (S u).length, .int 0]) = G4 at s4 e4 ⊢
  walk_at "rd"
  try refine And.intro (by walk_at "sz") ?_
  intro l5 h5
  have s5 := same_new (o := .tup [.str "0", .int 0]) h5
  have e5 : (upd G4 l5 (.tup [.str "0", .int 0])) l5 = some (.tup [.str "0", .int 0]) := upd_same
  generalize upd G4 l5 (.tup [.str "0", .int 0]) = G5 at s5 e5 ⊢
  walk_at "rd"
  try refine And.intro (by walk_at "sz") ?_
  intro l6 h6
  have s6 := same_new (o := .tup [.bl true, .int 0]) h6
  have e6 : (upd G5 l6 (.tup [.bl true, .int 0])) l6 = some (.tup [.bl true, .int 0]) := upd_same
  generalize upd G5 l6 (.tup [.bl true, .int 0]) = G6 at s6 e6 ⊢
  walk_at "rd"
  try refine And.intro (by walk_at "sz") ?_
  intro l7 h7
  have s7 := same_new (o := .tup [.int 0, .int 0, .int 0]) h7
  have e7 : (upd G6 l7 (.tup [.int 0, .int 0, .int 0])) l7 = some (.tup [.int 0, .int 0, .int 0]) := upd_same
  generalize upd G6 l7 (.tup [.int 0, .int 0, .int 0]) = G7 at s7 e7 ⊢
  walk_at "rd"
  try refine And.intro (by walk_at "sz") ?_
  intro l8 h8
  have s8 := same_new (o := .tup [.int 0, .int (-1)]) h8
  have e8 : (upd G7 l8 (.tup [.int 0, .int (-1)])) l8 = some (.tup [.int 0, .int (-1)]) := upd_same
  generalize upd G7 l8 (.tup [.int 0, .int (-1)]) = G8 at s8 e8 ⊢
  walk_at "rd"
  refine ⟨by walk_at "sz", fun l9 h9 => ?_⟩
  have s9 := same_new (o := .lst [.ref l1, .ref l2, .ref l3, .non, .ref l4, .ref l5, .ref l6, .str "ab", .ref l7, .ref l8]) h9
  have e9 : (upd G8 l9 (.lst [.ref l1, .ref l2, .ref l3, .non, .ref l4, .ref l5, .ref l6, .str "ab", .ref l7, .ref l8])) l9 = some (.lst [.ref l1, .ref l2, .ref l3, .non, .ref l4, .ref l5, .ref l6, .str "ab", .ref l7, .ref l8]) := upd_same
  generalize upd G8 l9 (.lst [.ref l1, .ref l2, .ref l3, .non, .ref l4, .ref l5, .ref l6, .str "ab", .ref l7, .ref l8]) = G9 at s9 e9 ⊢
  have s78 := s8.trans s9
  have s68 := s7.trans s78
  have s58 := s6.trans s68
  have s48 := s5.trans s58
  have s38 := s4.trans s48
  have s28 := s3.trans s38
  have s18 := s2.trans s28
  have TN9 := TN0.same (s1.trans s18)
  clear ht3
  walk_at "nx"
  refine ⟨_, rfl, _, rfl, pd, 10, rfl, TN9.src, by decide, by decide, fun n Ga n0 n1 sp bp => ?_⟩
  have TNa := TN9.but bp sp
  have hln : l9 ≠ pd := by
    intro e
    obtain ⟨_, _, _, z⟩ := TN9.src
    rw [← e, e9] at z
    cases z
  have k8 : Keep G9 Ga := Keep.but bp TN9.src
  have hm : ∃ o, atI [V.ref l1, .ref l2, .ref l3, .non, .ref l4, .ref l5, .ref l6, .str "ab", .ref l7, .ref l8] n = some o ∧ ∀ Gb, Keep Ga Gb → OddV K R u Gb o := by
    have h6 : n = 0 ∨ n = 1 ∨ n = 2 ∨ n = 3 ∨ n = 4 ∨ n = 5 ∨ n = 6 ∨ n = 7 ∨ n = 8 ∨ n = 9 := by omega
    have hl5 := WP.l5
    rcases h6 with rfl | rfl | rfl | rfl | rfl | rfl | rfl | rfl | rfl | rfl
    · exact ⟨_, rfl, fun Gb kb => .inr ⟨l1, _, rfl, .inr (kb.seq (k8.seq (SqT.of (s18 _ _ e1)))), .inr ⟨_, _, rfl, .inl ⟨_, _, rfl, rfl, can_big (by omega)⟩⟩⟩⟩
    · exact ⟨_, rfl, fun Gb kb => .inr ⟨l2, _, rfl, .inr (kb.seq (k8.seq (SqT.of (s28 _ _ e2)))), .inr ⟨_, _, rfl, .inl ⟨_, _, rfl, rfl, can_neg (.inl (by decide))⟩⟩⟩⟩
    · exact ⟨_, rfl, fun Gb kb => .inr ⟨l3, _, rfl, .inr (kb.seq (k8.seq (SqT.of (s38 _ _ e3)))), .inl (by decide)⟩⟩
    · exact ⟨_, rfl, fun Gb kb => .inl (.inl rfl)⟩
    · exact ⟨_, rfl, fun Gb kb => .inr ⟨l4, _, rfl, .inr (kb.seq (k8.seq (SqT.of (s48 _ _ e4)))), .inr ⟨_, _, rfl, .inl ⟨_, _, rfl, rfl, can_end WP.l1 (by omega)⟩⟩⟩⟩
    · exact ⟨_, rfl, fun Gb kb => .inr ⟨l5, _, rfl, .inr (kb.seq (k8.seq (SqT.of (s58 _ _ e5)))), .inr ⟨_, _, rfl, .inr (.inr ⟨_, rfl, .inr (.inl ⟨_, rfl⟩)⟩)⟩⟩⟩
    · exact ⟨_, rfl, fun Gb kb => .inr ⟨l6, _, rfl, .inr (kb.seq (k8.seq (SqT.of (s68 _ _ e6)))), .inr ⟨_, _, rfl, .inr (.inr ⟨_, rfl, .inr (.inr ⟨_, rfl⟩)⟩)⟩⟩⟩
    · exact ⟨_, rfl, fun Gb kb => .inl (.inr (.inl ⟨_, rfl⟩))⟩
    · exact ⟨_, rfl, fun Gb kb => .inr ⟨l7, _, rfl, .inr (kb.seq (k8.seq (SqT.of (s78 _ _ e7)))), .inl (by decide)⟩⟩
    · exact ⟨_, rfl, fun Gb kb => .inr ⟨l8, _, rfl, .inr (kb.seq (k8.seq (SqT.of (s9 _ _ e8)))), .inr ⟨_, _, rfl, .inl ⟨_, _, rfl, rfl, can_neg (.inr (by decide))⟩⟩⟩⟩
  obtain ⟨od, hat, hod⟩ := hm
  have ea := bp _ _ hln e9
  refine ⟨l9, _, _, _, rfl, rfl, SqL.of ea, hat, ?_⟩
  clear hat ea k8 hln TN9 s18 s28 s38 s48 s58 s68 s78 e9 s9 e8 s8 e7 s7 e6 s6 e5 s5 e4 s4 e3 s3 e2 s2 e1 s1 h9 h8 h7 h6 h5 h4 h3 h2 h1 TN0 W0'
  have Wa := W0.same TNa.sm
  walk_at "nx"
  refine st_ifKH false (fun H' => Same Ga H') (fun Q' hQ => ?_) (fun zz => by cases zz) (fun _ Gf sf => ?_)
  · refine ⟨_, rfl, _, rfl, ?_⟩
    walk_at "rd"
    refine ⟨pr, ys, rfl, SqL.of TNa.hr, fun p1 hp1 => ?_⟩
    have t1 := same_new (o := .lst (cutV ys none (some (m : Int)))) hp1
    have f1 : (upd Ga p1 (.lst (cutV ys none (some (m : Int))))) p1 = some (.lst (cutV ys none (some (m : Int)))) := upd_same
    generalize upd Ga p1 (.lst (cutV ys none (some (m : Int)))) = Gb at t1 f1 ⊢
    rw [cut_toV (by omega), show ((m : Nat) : Int).toNat = m by omega] at f1
    refine ⟨p1, _, rfl, .inl ⟨SqL.of f1, fun p2 hp2 => ?_⟩⟩
    have t2 := same_new (o := .tup (ys.take m)) hp2
    have f2 : (upd Gb p2 (.tup (ys.take m))) p2 = some (.tup (ys.take m)) := upd_same
    generalize upd Gb p2 (.tup (ys.take m)) = Gc at t2 f2 ⊢
    walk_at "rd"
    try refine And.intro (by walk_at "sz") ?_
    intro p3 hp3
    have t3 := same_new (o := .tup [od]) hp3
    have f3 : (upd Gc p3 (.tup [od])) p3 = some (.tup [od]) := upd_same
    generalize upd Gc p3 (.tup [od]) = Gd at t3 f3 ⊢
    refine catA_J (SqT.of (t3 _ _ f2)) (SqT.of f3) (by rw [List.length_take]; exact Nat.le_trans (m := 20) (by simp; omega) (by decide)) fun p4 Ge t4 f4 => ?_
    have TNe := TNa.same (t1.trans (t2.trans (t3.trans t4)))
    walk_at "rd"
    refine ⟨pr, ys, rfl, SqL.of TNe.hr, fun p5 hp5 => ?_⟩
    have t5 := same_new (o := .lst (cutV ys (some (m : Int)) none)) hp5
    have f5 : (upd Ge p5 (.lst (cutV ys (some (m : Int)) none))) p5 = some (.lst (cutV ys (some (m : Int)) none)) := upd_same
    generalize upd Ge p5 (.lst (cutV ys (some (m : Int)) none)) = Gg at t5 f5 ⊢
    rw [cut_fromV (by omega), show ((m : Nat) : Int).toNat = m by omega] at f5
    refine ⟨p5, _, rfl, .inl ⟨SqL.of f5, fun p6 hp6 => ?_⟩⟩
    have t6 := same_new (o := .tup (ys.drop m)) hp6
    have f6 : (upd Gg p6 (.tup (ys.drop m))) p6 = some (.tup (ys.drop m)) := upd_same
    generalize upd Gg p6 (.tup (ys.drop m)) = Gh at t6 f6 ⊢
    refine catA_J ((Keep.same (t5.trans t6)).seq f4) (SqT.of f6) (by simp only [List.length_append, List.length_take, List.length_drop]; exact Nat.le_trans (m := 30) (by simp; omega) (by decide)) fun p7 Gi t7 f7 => ?_
    have TNi := TNe.same (t5.trans (t6.trans t7))
    have Wi := W0.same TNi.sm
    have hkk : Keep Ga Gi := Keep.same (t1.trans (t2.trans (t3.trans (t4.trans (t5.trans (t6.trans t7))))))
    rw [List.append_assoc] at f7
    have hst : (st.take m).length = m := by rw [List.length_take]; omega
    refine ⟨x, sg, t, R, _, rfl, Wi.BA, by have := WP.l5; omega, WP.r4, by omega, text_ok ((TNa.ch t (List.mem_of_getElem? TNa.ok.h0)).1) (by omega), .inr ⟨p7, _, rfl, .inr f7, .inr ⟨by simp only [List.length_append, List.length_take, List.length_drop]; simp; omega, st.take m, ts.take (m + 1), _, _, TNa.ok.take hm, rfl, (TNi.hi.take m).imp fun x y h => h.x, od, _, u, rfl, by rw [hst, List.getElem?_take_of_lt (by omega)]; exact hu, hod Gi hkk, fun Gj tj => ?_⟩⟩⟩
    refine ⟨_, rfl, rfl, _, rfl, ?_⟩
    rw [hst, decide_eq_true rfl]
    exact hQ _ (t1.trans (t2.trans (t3.trans (t4.trans (t5.trans (t6.trans (t7.trans tj)))))))
  · walk_at "nx"
    exact kb_no D H0 Gf a p q x pd pr pt sg t R xs ys st ts v5 v8 v11 v12 v13 (some (.int m)) (some (.ref l9)) (some od) v17 v18 v19 v20 W0 WP (TNa.same sf) kD
end
end Sh
set_option Elab.async false
set_option linter.all false
set_option maxRecDepth 100000
set_option maxHeartbeats 4000000
namespace Sh
open PySem PySem.Spec PyProof.Rows L2
open SX (S S_inj S_len S_cat)
open Bk (Rule firstAt lg bestUp used left drain pushS Wf lf stAt stP)
local macro_rules | `(tactic| walk_at "nx") => `(tactic| repeat (with_reducible first | refine Sh.gn_mk ?_ | refine Sh.nx_mk ?_ | refine Sh.st_nx ?_ | refine Sh.rt_mk ?_ | refine Sh.ct_mk ?_ | refine Sh.bk_mk ?_))
local macro_rules | `(tactic| walk_at "sq") => `(tactic| first | exact SqL.of upd_same | exact SqT.of upd_same | exact SqL.of (by assumption) | exact SqT.of (by assumption) | assumption | exact Or.inl (SqL.of (by assumption)) | exact Or.inr (SqT.of (by assumption)) | exact Or.inl (by assumption) | exact Or.inr (by assumption))
local macro_rules | `(tactic| walk_at "hp") => `(tactic| first | exact upd_same | assumption)
local macro_rules | `(tactic| walk_at "sz") => `(tactic| first | exact Nat.le_of_ble_eq_true rfl | omega)
local macro_rules | `(tactic| walk_at "sd") => `(tactic| first | omega | exact rfl | assumption | (show (0 : Int) < _; omega) | exact And.intro (by omega) (by omega) | exact Or.inl (And.intro (by omega) (by omega)) | exact Or.inr (And.intro (by omega) (by omega)) | omega | exact Sh.sz_S (by omega) | decide)
local macro_rules | `(tactic| walk_at "rd1") => `(tactic| first
  | (with_reducible first | refine Sh.gn_mk ?_ | refine Sh.nx_mk ?_ | refine Sh.st_nx ?_ | refine Sh.rt_mk ?_ | refine Sh.ct_mk ?_ | refine Sh.bk_mk ?_)
  | refine Exists.intro (α := V) _ (And.intro rfl ?_)
  | refine Exists.intro (α := Bool) _ (And.intro rfl ?_)
  | refine Exists.intro (α := Int) _ (And.intro rfl ?_)
  | refine Exists.intro (α := PySem.Str) _ (And.intro rfl ?_)
  | refine Exists.intro (α := Int) _ (Exists.intro (α := Int) _ (And.intro rfl (And.intro rfl ?_)))
  | refine Exists.intro (α := PySem.Str) _ (Exists.intro (α := PySem.Str) _ (And.intro rfl (And.intro rfl ?_)))
  | refine Exists.intro (α := Int) _ (Exists.intro (α := Int) _ (And.intro rfl ?_))
  | refine Or.inl (Exists.intro (α := Int) _ (And.intro rfl ?_))
  | refine Exists.intro _ (Exists.intro _ (Exists.intro _ (Exists.intro _ (And.intro rfl (And.intro rfl (And.intro (by walk_at "sq") (And.intro rfl ?_)))))))
  | refine Exists.intro _ (Exists.intro _ (Exists.intro _ (Exists.intro _ (And.intro rfl (And.intro rfl (And.intro (by walk_at "hp") (And.intro rfl ?_)))))))
  | refine And.intro (by walk_at "sd") ?_
  )
local macro_rules | `(tactic| walk_at "rd") => `(tactic| repeat walk_at "rd1")
local macro_rules | `(tactic| walk_at "lk") => `(tactic| first | exact rfl | (rw [lookup_putF, if_pos rfl]) | (rw [lookup_putF, if_neg (by decide +kernel)]; walk_at "lk"))

section
variable {P : Program} {w : World} {K : PySem.W.Frag} {mg : Str → Option Value} {base : Heap} {CB XR FR DI XO FO XT FT DT SE : Addr}
theorem blk_near (T : TxtX P K mg CB XR FR DI XO FO XT FT DT SE) (f : Addr) (cdv : Value) (A : Around) (outer : List Env) (s : Shared) (H : Hp) (E : XK) (hr : Room 6 (A.deeper (envOfC "law" (defScope s_law) s.heap.objs.size f cdv))) (hgd : A.guards = some []) :
    ∃ t_, PSs (cxOf CX0 P w K mg base ["_law_script", "_law_source_here", "_law_signs_here", "_law_rules", "_law_book", "_law_turn", "_law_draws", "_law_text_here", "_law_due", "_law_run", "_law_texts", "_law_near", "_law_pair", "_law_given", "_law_at", "_law_menu", "_law_odd", "_law_place_here", "_law_number", "raised", "_law_whole"] "law" (defScope s_law) f cdv A outer s H E).nox ((stBody (stBody (defBody s_law) 4) 6).drop 0) t_ ∧
    ∀ (D : Ends) (H0 H1 : Hp) (a p q x pd pr pt : Addr) (sg t : List Nat) (R : List Rule) (xs ys : List V) (st : List (Nat × Nat)) (ts : List (List Nat)) (u : List Nat) (v5 v8 v11 v12 v13 v14 v15 v16 v17 v18 v19 v20 : Option V), Wd K CB sg R xs q x H0 → WdP sg R → Tn K sg R t H0 pd pr pt ys st ts H1 → ts[st.length]? = some u → Bk.stI R u u.length ≠ [] → st.length < 12 → (∀ σ' H', (∃ (ys : List V) (st' : List (Nat × Nat)) (ts : List (List Nat)) (v5 v8 v11 v12 v13 v14 v15 v16 v17 v18 v19 v20 : Option V), σ' = [some (.ref a), some (.ref p), some (.str (S sg)), some (.ref q), some (.ref x), v5, some (.ref pd), some (.str (S t)), v8, some (.ref pr), some (.ref pt), v11, v12, v13, v14, v15, v16, v17, v18, v19, v20] ∧ Tn K sg R t H0 pd pr pt ys st' ts H' ∧ st'.length = st.length + 1) → D.nx σ' H') → t_ D [some (.ref a), some (.ref p), some (.str (S sg)), some (.ref q), some (.ref x), v5, some (.ref pd), some (.str (S t)), v8, some (.ref pr), some (.ref pt), v11, v12, v13, v14, v15, v16, v17, v18, v19, v20] H1 := by
  have c__law_source := c__law_source (P := P) (w := w) (base := base) T.toTxtC.toTxt
  have c__law_signs := c__law_signs (P := P) (w := w) (base := base) T.toTxtC.toTxt
  have c__law_drawn := c__law_drawn (P := P) (w := w) (base := base) T.toTxtC.toTxt
  have c_Book := c_Book___init__ (P := P) (w := w) (base := base) T.toTxtC
  have c__law_text := c__law_text (P := P) (w := w) (base := base) T.toTxtC.toTxt
  have c__law_steps := c__law_steps (P := P) (w := w) (base := base) T.toTxtC.toTxt
  have c__law_pick := c__law_pick (P := P) (w := w) (base := base) T.toTxtC.toTxt
  have c_X_steps := c_X_steps (P := P) (w := w) (base := base) T
  have c__law_place := c__law_place (P := P) (w := w) (base := base) T
  have c_X_step := c_X_step (P := P) (w := w) (base := base) T
  have c__law_step := c__law_step (P := P) (w := w) (base := base) T.toTxtC.toTxt
  have c_X_played := c_X_played (P := P) (w := w) (base := base) T
  have hgd : (A.deeper (envOfC "law" (defScope s_law) s.heap.objs.size f cdv)).guards = some [] := hgd
  have hu := hu_of hr
  refine ⟨_, (pss_cons (ps_set (i := 11) sc_law.nd rfl (Or.inl rfl) (pe_c c__law_steps hr (by decide) rfl (pa_cons (pv 3) (pa_cons (pe_ix ix_list (pv 10) (pe_un un_neg pe_int) (fun _ _ => rfl)) pa_nil))))
  (pss_cons (ps_set (i := 12) sc_law.nd rfl (Or.inl rfl) (pe_ix ix_list (pv 11) (pe_c c__law_pick hr (by decide) rfl (pa_cons (pv 6) (pa_cons (pe_callB call_len_seq (by rfl) T.b_len (by decide +kernel) (pa_cons (pv 11) pa_nil)) pa_nil))) (fun _ _ => rfl)))
  (pss_cons (ps_if (pt_cmpR op_ne (pe_callB (call_reprD hgd hr.units) (by rfl) T.b_repr (by decide +kernel) (pa_cons (pe_cXn c_X_step hr (by decide) rfl (pa_cons (pv 4) (pa_cons (pe_ix ix_list (pv 10) (pe_un un_neg pe_int) (fun _ _ => rfl)) (pa_cons (pe_ix ix_tup (pv 12) pe_int (fun _ _ => rfl)) (pa_cons (pe_ix ix_tup (pv 12) pe_int (fun _ _ => rfl)) pa_nil))))) pa_nil)) (pe_callB (call_reprD hgd hr.units) (by rfl) T.b_repr (by decide +kernel) (pa_cons (pe_c c__law_step hr (by decide) rfl (pa_cons (pv 3) (pa_cons (pe_ix ix_list (pv 10) (pe_un un_neg pe_int) (fun _ _ => rfl)) (pa_cons (pv 12) pa_nil)))) pa_nil)) (nomark _))
    (pss_one (ps_ret pe_bl))
    pss_nil)
  (pss_cons (ps_expr (pe_bm PySem.F.plainAttrs_list PySem.F.slot_list_append PySem.F.type_list_append mt_append (pv 9) (pa_cons (pv 12) pa_nil)))
  (pss_one (ps_expr (pe_bm PySem.F.plainAttrs_list PySem.F.slot_list_append PySem.F.type_list_append mt_append (pv 10) (pa_cons (pe_c c__law_step hr (by decide) rfl (pa_cons (pv 3) (pa_cons (pe_ix ix_list (pv 10) (pe_un un_neg pe_int) (fun _ _ => rfl)) (pa_cons (pv 12) pa_nil)))) pa_nil)))))))), ?_⟩
  intro D H0 H1 a p q x pd pr pt sg t R xs ys st ts u v5 v8 v11 v12 v13 v14 v15 v16 v17 v18 v19 v20 W0 WP TN hu hne h12 kD
  have W1 := W0.same TN.sm
  have huc := TN.ch u (List.mem_of_getElem? hu)
  have hSu := S_len u
  have hyl := TN.yl
  have htt : (ts.map fun u => V.str (S u)) = ((ts.take st.length).map fun u => V.str (S u)) ++ [V.str (S u)] := by
    rw [show [V.str (S u)] = [u].map (fun u => V.str (S u)) from rfl, ← List.map_append, ← take_one_more hu, ← TN.ok.len, List.take_length]
  refine ⟨_, rfl, _, rfl, _, rfl, ⟨pt, _, _, _, rfl, rfl, SqL.of TN.ht, by rw [htt]; exact atI_last _ _, ?_⟩⟩
  refine ⟨q, xs, u, R, rfl, W1.hR, by have := WP.l5; omega, WP.r1, by omega, fun qn zs H2 hqn s2 hz hiz => ?_⟩
  have TN2 := TN.same s2
  have hzl : zs.length ≤ 100 := by
    have z1 := Bk.stI_len R u u.length
    have z2 := hiz.1
    have z3 : u.length * R.length ≤ 9 * 5 := Nat.mul_le_mul huc.2 WP.l5
    omega
  have hz0 : 0 < zs.length := by rw [hiz.1]; exact List.length_pos_iff.mpr hne
  walk_at "rd"
  refine ⟨qn, zs, rfl, .inl (SqL.of hz), ?_⟩
  walk_at "rd"
  refine ⟨pd, _, rfl, TN2.src, by omega, by omega, fun n H3 n0 n1 sp bp => ?_⟩
  have TN3 := TN2.but bp sp
  have W3 := W0.same TN3.sm
  have hnd : qn ≠ pd := by
    intro e
    obtain ⟨_, _, _, z⟩ := TN.src
    rw [e, z] at hqn
    cases hqn
  have hz3 := bp _ _ hnd hz
  obtain ⟨k, rfl⟩ : ∃ k : Nat, n = k := ⟨n.toNat, by omega⟩
  have hk : k < (Bk.stI R u u.length).length := by rw [← hiz.1]; omega
  obtain ⟨pq, hpq⟩ : ∃ pq, (Bk.stI R u u.length)[k]? = some pq := ⟨_, List.getElem?_eq_getElem hk⟩
  obtain ⟨p', n'⟩ := pq
  obtain ⟨v, hv, qs, rfl, hqs⟩ := hiz.get hpq
  have sq3 : SqT K H3 qs [.int (p' : Nat), .int (n' : Nat)] := (Keep.but bp TN2.src).seq (SqT.of hqs)
  obtain ⟨r, hr, hpl, hfit⟩ := stI_mem (List.mem_of_getElem? hpq)
  have hcan := can_of hr (Nat.le_of_lt hpl) hfit
  have hrm := List.mem_of_getElem? hr
  have hml := made_len (by have := (WP.hB.2.2.1 r hrm).2.2.2.2.2; omega) hfit
  have hmc := made_chars (t := u) (p := p') ((WP.hB.2.2.1 r hrm).2.2.2.1) huc.1
  have shm := (Shw.str (tchars WP hmc)).ok (by decide) (by omega)
  have hst1 : (st ++ [(p', n')]).length = st.length + 1 := by simp
  refine ⟨qn, _, _, _, rfl, rfl, SqL.of hz3, atI_nat hv, ?_⟩
  walk_at "nx"
  clear hz3 hnd hiz hz hqn hv hqs TN2 bp sp W1 TN hz0 hzl s2
  refine st_ifKH false (fun H' => Same H3 H') (fun Q' hQ => ?_) (fun zz => by cases zz) (fun _ Gf sf => ?_)
  · refine ⟨_, rfl, _, rfl, _, rfl, ⟨pt, _, _, _, rfl, rfl, SqL.of TN3.ht, by rw [htt]; exact atI_last _ _, ?_⟩⟩
    refine ⟨_, rfl, ⟨qs, _, _, _, rfl, rfl, sq3, atI_at (Int.le_refl 0) rfl, ?_⟩⟩
    refine ⟨_, rfl, ⟨qs, _, _, _, rfl, rfl, sq3, atI_at (show (0 : Int) ≤ 1 by decide) rfl, ?_⟩⟩
    refine ⟨x, sg, u, R, _, _, rfl, W3.BA, by have := WP.l5; omega, WP.r4, by omega, text_ok huc.1 (by omega), .inl ⟨p', n', r, rfl, rfl, hr, hcan, ?_⟩⟩
    refine ⟨_, _, rfl, .str _, shm.1, shm.2.1, shm.2.2.1, shm.2.2.2, ?_⟩
    refine ⟨_, rfl, _, rfl, _, rfl, ⟨pt, _, _, _, rfl, rfl, SqL.of TN3.ht, by rw [htt]; exact atI_last _ _, ?_⟩⟩
    refine ⟨_, rfl, q, qs, xs, u, R, p', n', r, rfl, W3.hR, sq3, hr, by omega, (WP.r4 r hrm).1, (WP.r4 r hrm).2, ?_⟩
    refine ⟨_, _, rfl, .str _, shm.1, shm.2.1, shm.2.2.1, shm.2.2.2, rfl, _, rfl, ?_⟩
    rw [decide_eq_true rfl]
    exact hQ _ (Same.refl _)
  · walk_at "nx"
    have TN4 := TN3.same sf
    have sq4 := (Keep.same sf).seq sq3
    have hyz : ys.length < sizeLine := Nat.lt_of_le_of_lt (m := 12) hyl (by decide)
    refine ⟨_, rfl, .inl ⟨rfl, _, SqL.of TN4.hr⟩, _, rfl, pr, _, _, rfl, rfl, TN4.hr, hyz, ?_⟩
    have kr : Keep Gf (upd Gf pr (.lst (ys ++ [.ref qs]))) := Keep.butL but_upd TN4.hr
    have h5t : (upd Gf pr (.lst (ys ++ [.ref qs]))) pt = some (.lst (ts.map fun u => V.str (S u))) := by rw [upd_ne TN4.rt.symm]; exact TN4.ht
    have h5r : (upd Gf pr (.lst (ys ++ [.ref qs]))) pr = some (.lst (ys ++ [.ref qs])) := upd_same
    have h5s : Src (upd Gf pr (.lst (ys ++ [.ref qs]))) pd := by
      obtain ⟨d, e, c, z⟩ := TN4.src
      exact ⟨d, e, c, by rw [upd_ne TN4.dr]; exact z⟩
    have h5m : Same H0 (upd Gf pr (.lst (ys ++ [.ref qs]))) := same_mut TN4.sm TN4.nr
    have h5i : Items (StpT K) (upd Gf pr (.lst (ys ++ [.ref qs]))) (ys ++ [.ref qs]) (st ++ [(p', n')]) := TN4.hi.snoc (fun x y h => h.keep kr) ⟨qs, rfl, kr.seq sq4⟩
    generalize upd Gf pr (.lst (ys ++ [.ref qs])) = G5 at kr h5t h5r h5s h5m h5i ⊢
    walk_at "nx"
    refine ⟨_, rfl, .inl ⟨rfl, _, SqL.of h5t⟩, ?_⟩
    refine ⟨_, rfl, _, rfl, _, rfl, ⟨pt, _, _, _, rfl, rfl, SqL.of h5t, by rw [htt]; exact atI_last _ _, ?_⟩⟩
    refine ⟨_, rfl, q, qs, xs, u, R, p', n', r, rfl, W0.hR.same h5m, kr.seq sq4, hr, by omega, (WP.r4 r hrm).1, (WP.r4 r hrm).2, ?_⟩
    have htz : (ts.map fun u => V.str (S u)).length < sizeLine := by
      rw [List.length_map, TN4.ok.len]
      exact Nat.lt_of_le_of_lt (m := 13) (by omega) (by decide)
    refine ⟨pt, _, _, rfl, rfl, h5t, htz, ?_⟩
    have kt : Keep G5 (upd G5 pt (.lst ((ts.map fun u => V.str (S u)) ++ [.str (S (madeS r u p'))]))) := Keep.butL but_upd h5t
    show D.nx _ _
    refine kD _ _ ⟨ys ++ [.ref qs], st ++ [(p', n')], ts ++ [madeS r u p'], _, _, _, _, _, _, _, _, _, _, _, _, rfl, ?_, hst1⟩
    exact { TN4 with
      sm := same_mut h5m TN4.nt
      src := (let ⟨d, e, c, z⟩ := h5s; ⟨d, e, c, by rw [upd_ne TN4.dt]; exact z⟩)
      hr := by rw [upd_ne TN4.rt]; exact h5r
      hi := h5i.mono fun x y h => h.keep kt
      ht := by rw [List.map_append]; exact upd_same
      ok := TN4.ok.snoc hu hr hcan (by omega)
      ch := fun w hw => by
        rcases List.mem_append.mp hw with z | z
        · exact TN4.ch w z
        · rw [List.mem_singleton] at z
          rw [z]
          exact ⟨hmc, by omega⟩
      l12 := by omega }
end
end Sh
set_option Elab.async false
set_option linter.all false
set_option maxRecDepth 100000
set_option maxHeartbeats 4000000
namespace Sh
open PySem PySem.Spec PyProof.Rows L2
open SX (S S_inj S_len S_cat)
open Bk (Rule firstAt lg bestUp used left drain pushS Wf lf stAt stP)
local macro_rules | `(tactic| walk_at "nx") => `(tactic| repeat (with_reducible first | refine Sh.gn_mk ?_ | refine Sh.nx_mk ?_ | refine Sh.st_nx ?_ | refine Sh.rt_mk ?_ | refine Sh.ct_mk ?_ | refine Sh.bk_mk ?_))
local macro_rules | `(tactic| walk_at "sq") => `(tactic| first | exact SqL.of upd_same | exact SqT.of upd_same | exact SqL.of (by assumption) | exact SqT.of (by assumption) | assumption | exact Or.inl (SqL.of (by assumption)) | exact Or.inr (SqT.of (by assumption)) | exact Or.inl (by assumption) | exact Or.inr (by assumption))
local macro_rules | `(tactic| walk_at "hp") => `(tactic| first | exact upd_same | assumption)
local macro_rules | `(tactic| walk_at "sz") => `(tactic| first | exact Nat.le_of_ble_eq_true rfl | omega)
local macro_rules | `(tactic| walk_at "sd") => `(tactic| first | omega | exact rfl | assumption | (show (0 : Int) < _; omega) | exact And.intro (by omega) (by omega) | exact Or.inl (And.intro (by omega) (by omega)) | exact Or.inr (And.intro (by omega) (by omega)) | omega | exact Sh.sz_S (by omega) | decide)
local macro_rules | `(tactic| walk_at "rd1") => `(tactic| first
  | (with_reducible first | refine Sh.gn_mk ?_ | refine Sh.nx_mk ?_ | refine Sh.st_nx ?_ | refine Sh.rt_mk ?_ | refine Sh.ct_mk ?_ | refine Sh.bk_mk ?_)
  | refine Exists.intro (α := V) _ (And.intro rfl ?_)
  | refine Exists.intro (α := Bool) _ (And.intro rfl ?_)
  | refine Exists.intro (α := Int) _ (And.intro rfl ?_)
  | refine Exists.intro (α := PySem.Str) _ (And.intro rfl ?_)
  | refine Exists.intro (α := Int) _ (Exists.intro (α := Int) _ (And.intro rfl (And.intro rfl ?_)))
  | refine Exists.intro (α := PySem.Str) _ (Exists.intro (α := PySem.Str) _ (And.intro rfl (And.intro rfl ?_)))
  | refine Exists.intro (α := Int) _ (Exists.intro (α := Int) _ (And.intro rfl ?_))
  | refine Or.inl (Exists.intro (α := Int) _ (And.intro rfl ?_))
  | refine Exists.intro _ (Exists.intro _ (Exists.intro _ (Exists.intro _ (And.intro rfl (And.intro rfl (And.intro (by walk_at "sq") (And.intro rfl ?_)))))))
  | refine Exists.intro _ (Exists.intro _ (Exists.intro _ (Exists.intro _ (And.intro rfl (And.intro rfl (And.intro (by walk_at "hp") (And.intro rfl ?_)))))))
  | refine And.intro (by walk_at "sd") ?_
  )
local macro_rules | `(tactic| walk_at "rd") => `(tactic| repeat walk_at "rd1")
local macro_rules | `(tactic| walk_at "lk") => `(tactic| first | exact rfl | (rw [lookup_putF, if_pos rfl]) | (rw [lookup_putF, if_neg (by decide +kernel)]; walk_at "lk"))

/-- a comprehension over a list whose items are told by l -/
theorem lc_lstR {α : Type} {Rel : Hp → V → α → Prop} {l : List α} {xs : List V} {K : PySem.W.Frag} {a : Addr} {g : TG} {tt : TT} {te : TE} {vs : List Nat} {σ : L2.St} {H1 : Hp} {D : Addr} {Qd : Hp → Prop} (hlen : xs.length = l.length)
    (Pv : List α → Hp → Prop) (h0 : Pv [] (upd H1 D (.lst []))) (hG : ∀ pre H, Pv pre H → SqL K H a xs ∧ ∀ (i : Nat) x y, xs[i]? = some x → l[i]? = some y → Rel H x y)
    (hs : ∀ pre y post x H, l = pre ++ y :: post → xs[pre.length]? = some x → Rel H x y → Pv pre H → g x (wipe σ vs) H fun σ2 H2 => wipe σ2 vs = wipe σ vs ∧ tt σ2 H2 fun b H3 =>
      if b = true then te σ2 H3 fun y' H4 => ∃ acc, H4 D = some (.lst acc) ∧ acc.length < sizeLine ∧ Pv (pre ++ [y]) (upd H4 D (.lst (acc ++ [y']))) else Pv (pre ++ [y]) H3) (hd : ∀ H, Pv l H → Qd H) :
    ∃ W : Nat → Nat → Hp → Prop, (∃ m, W 0 m (upd H1 D (.lst []))) ∧ ∀ i m H, W i m H →
      ((Itl K a).stop i H ∧ Qd H) ∨ ((Itl K a).go i H ∧ ∃ Nx : Hp → Prop, (∀ H', Nx H' → ∃ m', m' < m ∧ W (i + 1) m' H') ∧ ∀ x H', (Itl K a).yld i H x H' → g x (wipe σ vs) H' fun σ2 H2 => wipe σ2 vs = wipe σ vs ∧ tt σ2 H2 fun b H3 =>
        if b = true then te σ2 H3 fun y H4 => ∃ acc, H4 D = some (.lst acc) ∧ acc.length < sizeLine ∧ Nx (upd H4 D (.lst (acc ++ [y]))) else Nx H3) := by
  have w := walk_list (K := K) (a := a) (xs := xs)
  refine lc_it w (fun i H => Pv (l.take i) H) (by simpa using h0) (fun i H _ p => (hG _ H p).1) (fun i x H H' hi p y => ?_) (fun H p => hd H (by simpa [hlen] using p))
  obtain ⟨rfl, hx⟩ := y
  have hi' : i < l.length := hlen ▸ hi
  have hl : l[i]? = some l[i] := by simp [hi']
  obtain ⟨e1, e2⟩ := take_succ_of hl
  have q := hs _ l[i] _ x H' e2 (by rw [List.length_take, Nat.min_eq_left (Nat.le_of_lt hi')]; exact hx) ((hG _ H' p).2 i x l[i] hx hl) p
  rw [← e1] at q
  exact q
/-- a step, in a list of its own -/
def StpN (D : Addr) (H : Hp) (v : V) (p : Nat × Nat) : Prop := ∃ q, v = .ref q ∧ q ≠ D ∧ H q = some (.lst [.int (p.1 : Nat), .int (p.2 : Nat)])
section
variable {P : Program} {w : World} {K : PySem.W.Frag} {mg : Str → Option Value} {base : Heap} {CB XR FR DI XO FO XT FT DT SE : Addr}
theorem blk_given (T : TxtX P K mg CB XR FR DI XO FO XT FT DT SE) (f : Addr) (cdv : Value) (A : Around) (outer : List Env) (s : Shared) (H : Hp) (E : XK) (hr : Room 6 (A.deeper (envOfC "law" (defScope s_law) s.heap.objs.size f cdv))) (hgd : A.guards = some []) :
    ∃ t_, PSs (cxOf CX0 P w K mg base ["_law_script", "_law_source_here", "_law_signs_here", "_law_rules", "_law_book", "_law_turn", "_law_draws", "_law_text_here", "_law_due", "_law_run", "_law_texts", "_law_near", "_law_pair", "_law_given", "_law_at", "_law_menu", "_law_odd", "_law_place_here", "_law_number", "raised", "_law_whole"] "law" (defScope s_law) f cdv A outer s H E).nox ((stBody (defBody s_law) 4).drop 7) t_ ∧
    ∀ (D : Ends) (H0 H1 : Hp) (a p q x pd pr pt : Addr) (sg t : List Nat) (R : List Rule) (xs ys : List V) (st : List (Nat × Nat)) (ts : List (List Nat)) (v5 v8 v11 v12 v13 v14 v15 v16 v17 v18 v19 v20 : Option V), Wd K CB sg R xs q x H0 → WdP sg R → Tn K sg R t H0 pd pr pt ys st ts H1 → (∀ σ' H', (∃ v5 v6 v7 v8 v9 v10 v11 v12 v13 v14 v15 v16 v17 v18 v19 v20 : Option V, σ' = [some (.ref a), some (.ref p), some (.str (S sg)), some (.ref q), some (.ref x), v5, v6, v7, v8, v9, v10, v11, v12, v13, v14, v15, v16, v17, v18, v19, v20] ∧ Same H0 H') → D.nx σ' H') → t_ D [some (.ref a), some (.ref p), some (.str (S sg)), some (.ref q), some (.ref x), v5, some (.ref pd), some (.str (S t)), v8, some (.ref pr), some (.ref pt), v11, v12, v13, v14, v15, v16, v17, v18, v19, v20] H1 := by
  have c__law_source := c__law_source (P := P) (w := w) (base := base) T.toTxtC.toTxt
  have c__law_signs := c__law_signs (P := P) (w := w) (base := base) T.toTxtC.toTxt
  have c__law_drawn := c__law_drawn (P := P) (w := w) (base := base) T.toTxtC.toTxt
  have c_Book := c_Book___init__ (P := P) (w := w) (base := base) T.toTxtC
  have c__law_text := c__law_text (P := P) (w := w) (base := base) T.toTxtC.toTxt
  have c__law_steps := c__law_steps (P := P) (w := w) (base := base) T.toTxtC.toTxt
  have c__law_pick := c__law_pick (P := P) (w := w) (base := base) T.toTxtC.toTxt
  have c_X_steps := c_X_steps (P := P) (w := w) (base := base) T
  have c__law_place := c__law_place (P := P) (w := w) (base := base) T
  have c_X_step := c_X_step (P := P) (w := w) (base := base) T
  have c__law_step := c__law_step (P := P) (w := w) (base := base) T.toTxtC.toTxt
  have c_X_played := c_X_played (P := P) (w := w) (base := base) T
  obtain ⟨tb_odd, hb_odd, kb_odd⟩ := blk_odd (P := P) (w := w) (base := base) T f cdv A outer s H E hr hgd
  have hgd : (A.deeper (envOfC "law" (defScope s_law) s.heap.objs.size f cdv)).guards = some [] := hgd
  have hu := hu_of hr
  refine ⟨_, (pss_cons (ps_set (i := 13) sc_law.nd rfl (Or.inl rfl) (pe_ifExp (pt_cmpR op_eq (pe_c c__law_pick hr (by decide) rfl (pa_cons (pv 6) (pa_cons pe_int pa_nil))) pe_int (nomark _)) (pe_lc (own := [("_law_pair", 12)]) (g := gName 12) (tt := tYes) rfl sc_law.nd (pi_list (pv 9)) (blkOk_by (N := ["_law_script", "_law_source_here", "_law_signs_here", "_law_rules", "_law_book", "_law_turn", "_law_draws", "_law_text_here", "_law_due", "_law_run", "_law_texts", "_law_near", "_law_pair", "_law_given", "_law_at", "_law_menu", "_law_odd", "_law_place_here", "_law_number", "raised", "_law_whole"]) (sc := defScope s_law) (by decide +kernel)) (fun _ _ _ _ _ => (pg_name (i := 12) sc_law.nd rfl (Or.inl rfl))) (fun _ _ _ _ _ => pts_nil) (fun _ _ _ _ _ => (pe_callTy call_list_ofB (by rfl) T.b_list (by decide +kernel) (pa_cons (pv 12) pa_nil)))) (pe_callTy call_tuple_of (by rfl) T.b_tuple (by decide +kernel) (pa_cons (pv 9) pa_nil))))
  (pss_cons (ps_if (pt_cmpR op_ne (pe_callB (call_reprD hgd hr.units) (by rfl) T.b_repr (by decide +kernel) (pa_cons (pe_cXn c_X_played hr (by decide) rfl (pa_cons (pv 4) (pa_cons (pv 7) (pa_cons (pv 13) pa_nil)))) pa_nil)) (pe_callB (call_reprD hgd hr.units) (by rfl) T.b_repr (by decide +kernel) (pa_cons (pe_callTy call_tuple_of (by rfl) T.b_tuple (by decide +kernel) (pa_cons (pv 10) pa_nil)) pa_nil)) (nomark _))
    (pss_one (ps_ret pe_bl))
    pss_nil)
  hb_odd)), ?_⟩
  intro D H0 H1 a p q x pd pr pt sg t R xs ys st ts v5 v8 v11 v12 v13 v14 v15 v16 v17 v18 v19 v20 W0 WP TN kD
  have W1 := W0.same TN.sm
  have hyl := TN.yl
  have hy9 := TN.hi.1
  have hc9 := (TN.ch t (List.mem_of_getElem? TN.ok.h0)).1
  have ht9 : t.length ≤ 9 := (TN.ch t (List.mem_of_getElem? TN.ok.h0)).2
  refine st_asgJ (fun v H2 => ∃ (qg : Addr) (zs : List V) (Hb : Hp), v = .ref qg ∧ Tn K sg R t H0 pd pr pt ys st ts H2 ∧ SqX K H2 qg zs ∧ Items (StpX K) H2 zs st) (fun Q' hQ => ?_) (fun v H2 hv => ?_)
  · walk_at "rd"
    refine ⟨pd, 2, rfl, TN.src, by decide, by decide, fun n G0 n0 n1 sp bp => ?_⟩
    have TN0 := TN.but bp sp
    walk_at "rd"
    refine ite2 (fun c => ?_) (fun c => ?_)
    · refine ⟨_, rfl, pr, rfl, ⟨_, SqL.of TN0.hr⟩, fun D9 hD => lc_lstR (K := K) (a := pr) (xs := ys) (l := st) (Rel := StpT K) TN0.hi.1
        (fun pre H3 => ∃ acc, H3 D9 = some (.lst acc) ∧ Items (StpN D9) H3 acc pre ∧ Same G0 H3) ⟨[], upd_same, Items.nil, same_new hD⟩
        (fun pre H3 ⟨_, _, _, s3⟩ => ⟨SqL.of (s3 _ _ TN0.hr), fun i x y h1 h2 => (TN0.hi.2 i x y h1 h2).keep (Keep.same s3)⟩) ?_ ?_⟩
      · rintro pre y post xv H3 e hx ⟨qr, rfl, sq⟩ ⟨acc, h3, it3, s3⟩
        refine ⟨rfl, ty_T ?_⟩
        refine ⟨_, rfl, qr, _, rfl, .inr sq, fun l hl => ?_⟩
        have s4 := same_new (o := .lst [.int (y.1 : Nat), .int (y.2 : Nat)]) hl
        have e4 : (upd H3 l (.lst [.int (y.1 : Nat), .int (y.2 : Nat)])) l = some (.lst [.int (y.1 : Nat), .int (y.2 : Nat)]) := upd_same
        generalize upd H3 l (.lst [.int (y.1 : Nat), .int (y.2 : Nat)]) = H4 at s4 e4 ⊢
        have hlD : l ≠ D9 := by
          intro e5
          rw [e5, h3] at hl
          cases hl
        refine ⟨acc, s4 _ _ h3, ?_, acc ++ [.ref l], upd_same, it3.snoc (fun x z h => ?_) ⟨l, rfl, hlD, by rw [upd_ne hlD]; exact e4⟩, same_mut (s3.trans s4) hD⟩
        · have z1 := it3.1
          have z2 := congrArg List.length e
          rw [List.length_append, List.length_cons] at z2
          have z3 := TN.l12
          exact Nat.lt_of_le_of_lt (m := 12) (by omega) (by decide)
        · obtain ⟨q9, rfl, hn, h9⟩ := h
          exact ⟨q9, rfl, hn, by rw [upd_ne hn]; exact s4 _ _ h9⟩
      · rintro H3 ⟨acc, h3, it3, s3⟩
        exact hQ _ _ ⟨D9, acc, H3, rfl, TN0.same s3, .inl (SqL.of h3), it3.imp fun x y ⟨q9, e, _, h⟩ => ⟨q9, e, .inl (SqL.of h)⟩⟩
    · refine ⟨_, rfl, pr, _, rfl, .inl ⟨SqL.of TN0.hr, fun l hl => ?_⟩⟩
      have TN1 := TN0.same (same_new (o := .tup ys) hl)
      exact hQ _ _ ⟨l, ys, H1, rfl, TN1, .inr (SqT.of upd_same), TN1.hi.imp fun x y h => h.x⟩
  · obtain ⟨qg, zs, Hb, rfl, TN2, hq2, hi2⟩ := hv
    have W2 := W0.same TN2.sm
    have shp := (shw_ts (fun u hu => ⟨tchars WP (TN.ch u hu).1, (TN.ch u hu).2⟩) TN.tl).ok (by decide) (by decide)
    walk_at "nx"
    refine st_ifKH false (fun H' => Same H2 H') (fun Q' hQ => ?_) (fun zz => by cases zz) (fun _ Gf sf => ?_)
    · refine ⟨_, rfl, _, rfl, _, rfl, x, sg, t, R, _, rfl, W2.BA, by have := WP.l5; omega, WP.r4, by omega, text_ok hc9 (by omega), .inr ⟨qg, zs, rfl, hq2, .inr ⟨by rw [hi2.1]; have := TN.l12; omega, st, ts, zs, [], TN.ok, (List.append_nil _).symm, hi2, .inl ⟨rfl, fun qt Hx sx hqt => ?_⟩⟩⟩⟩
      refine ⟨_, _, rfl, .tup (SqT.of hqt) (dpStrs ts), shp.1, shp.2.1, shp.2.2.1, shp.2.2.2, ?_⟩
      refine ⟨_, rfl, pt, _, rfl, .inl ⟨SqL.of (sx _ _ TN2.ht), fun l hl => ?_⟩⟩
      refine ⟨_, _, rfl, .tup (SqT.of upd_same) (dpStrs ts), shp.1, shp.2.1, shp.2.2.1, shp.2.2.2, rfl, _, rfl, ?_⟩
      rw [decide_eq_true rfl]
      exact hQ _ (sx.trans (same_new hl))
    · walk_at "nx"
      exact kb_odd D H0 Gf a p q x pd pr pt sg t R xs ys st ts v5 v8 v11 v12 (some (.ref qg)) v14 v15 v16 v17 v18 v19 v20 W0 WP (TN2.same sf) kD
end
end Sh
set_option Elab.async false
set_option linter.all false
set_option maxRecDepth 100000
set_option maxHeartbeats 4000000
namespace Sh
open PySem PySem.Spec PyProof.Rows L2
open SX (S S_inj S_len S_cat)
open Bk (Rule firstAt lg bestUp used left drain pushS Wf lf stAt stP)
local macro_rules | `(tactic| walk_at "nx") => `(tactic| repeat (with_reducible first | refine Sh.gn_mk ?_ | refine Sh.nx_mk ?_ | refine Sh.st_nx ?_ | refine Sh.rt_mk ?_ | refine Sh.ct_mk ?_ | refine Sh.bk_mk ?_))
local macro_rules | `(tactic| walk_at "sq") => `(tactic| first | exact SqL.of upd_same | exact SqT.of upd_same | exact SqL.of (by assumption) | exact SqT.of (by assumption) | assumption | exact Or.inl (SqL.of (by assumption)) | exact Or.inr (SqT.of (by assumption)) | exact Or.inl (by assumption) | exact Or.inr (by assumption))
local macro_rules | `(tactic| walk_at "hp") => `(tactic| first | exact upd_same | assumption)
local macro_rules | `(tactic| walk_at "sz") => `(tactic| first | exact Nat.le_of_ble_eq_true rfl | omega)
local macro_rules | `(tactic| walk_at "sd") => `(tactic| first | omega | exact rfl | assumption | (show (0 : Int) < _; omega) | exact And.intro (by omega) (by omega) | exact Or.inl (And.intro (by omega) (by omega)) | exact Or.inr (And.intro (by omega) (by omega)) | omega | exact Sh.sz_S (by omega) | decide)
local macro_rules | `(tactic| walk_at "rd1") => `(tactic| first
  | (with_reducible first | refine Sh.gn_mk ?_ | refine Sh.nx_mk ?_ | refine Sh.st_nx ?_ | refine Sh.rt_mk ?_ | refine Sh.ct_mk ?_ | refine Sh.bk_mk ?_)
  | refine Exists.intro (α := V) _ (And.intro rfl ?_)
  | refine Exists.intro (α := Bool) _ (And.intro rfl ?_)
  | refine Exists.intro (α := Int) _ (And.intro rfl ?_)
  | refine Exists.intro (α := PySem.Str) _ (And.intro rfl ?_)
  | refine Exists.intro (α := Int) _ (Exists.intro (α := Int) _ (And.intro rfl (And.intro rfl ?_)))
  | refine Exists.intro (α := PySem.Str) _ (Exists.intro (α := PySem.Str) _ (And.intro rfl (And.intro rfl ?_)))
  | refine Exists.intro (α := Int) _ (Exists.intro (α := Int) _ (And.intro rfl ?_))
  | refine Or.inl (Exists.intro (α := Int) _ (And.intro rfl ?_))
  | refine Exists.intro _ (Exists.intro _ (Exists.intro _ (Exists.intro _ (And.intro rfl (And.intro rfl (And.intro (by walk_at "sq") (And.intro rfl ?_)))))))
  | refine Exists.intro _ (Exists.intro _ (Exists.intro _ (Exists.intro _ (And.intro rfl (And.intro rfl (And.intro (by walk_at "hp") (And.intro rfl ?_)))))))
  | refine And.intro (by walk_at "sd") ?_
  )
local macro_rules | `(tactic| walk_at "rd") => `(tactic| repeat walk_at "rd1")
local macro_rules | `(tactic| walk_at "lk") => `(tactic| first | exact rfl | (rw [lookup_putF, if_pos rfl]) | (rw [lookup_putF, if_neg (by decide +kernel)]; walk_at "lk"))

section
variable {P : Program} {w : World} {K : PySem.W.Frag} {mg : Str → Option Value} {base : Heap} {CB XR FR DI XO FO XT FT DT SE : Addr}
theorem blk_turn (T : TxtX P K mg CB XR FR DI XO FO XT FT DT SE) (f : Addr) (cdv : Value) (A : Around) (outer : List Env) (s : Shared) (H : Hp) (E : XK) (hr : Room 6 (A.deeper (envOfC "law" (defScope s_law) s.heap.objs.size f cdv))) (hgd : A.guards = some []) :
    ∃ t_, PSs (cxOf CX0 P w K mg base ["_law_script", "_law_source_here", "_law_signs_here", "_law_rules", "_law_book", "_law_turn", "_law_draws", "_law_text_here", "_law_due", "_law_run", "_law_texts", "_law_near", "_law_pair", "_law_given", "_law_at", "_law_menu", "_law_odd", "_law_place_here", "_law_number", "raised", "_law_whole"] "law" (defScope s_law) f cdv A outer s H E).nox ((stBody (defBody s_law) 4).drop 0) t_ ∧
    ∀ (D : Ends) (H0 : Hp) (i : Nat) (a p q x : Addr) (sg : List Nat) (R : List Rule) (xs : List V) (ns : List Int) (v6 v7 v8 v9 v10 v11 v12 v13 v14 v15 v16 v17 v18 v19 v20 : Option V), Wd K CB sg R xs q x H0 → WdP sg R → SqL K H0 a (ns.map V.int) → (∀ z ∈ ns, Builtin.Int.intBits z ≤ 1048576) → ns.length ≤ 63 → i < 3 → (∀ σ' H', (∃ v5 v6 v7 v8 v9 v10 v11 v12 v13 v14 v15 v16 v17 v18 v19 v20 : Option V, σ' = [some (.ref a), some (.ref p), some (.str (S sg)), some (.ref q), some (.ref x), v5, v6, v7, v8, v9, v10, v11, v12, v13, v14, v15, v16, v17, v18, v19, v20] ∧ Same H0 H') → D.nx σ' H') → t_ D [some (.ref a), some (.ref p), some (.str (S sg)), some (.ref q), some (.ref x), some (.int (i : Nat)), v6, v7, v8, v9, v10, v11, v12, v13, v14, v15, v16, v17, v18, v19, v20] H0 := by
  have c__law_source := c__law_source (P := P) (w := w) (base := base) T.toTxtC.toTxt
  have c__law_signs := c__law_signs (P := P) (w := w) (base := base) T.toTxtC.toTxt
  have c__law_drawn := c__law_drawn (P := P) (w := w) (base := base) T.toTxtC.toTxt
  have c_Book := c_Book___init__ (P := P) (w := w) (base := base) T.toTxtC
  have c__law_text := c__law_text (P := P) (w := w) (base := base) T.toTxtC.toTxt
  have c__law_steps := c__law_steps (P := P) (w := w) (base := base) T.toTxtC.toTxt
  have c__law_pick := c__law_pick (P := P) (w := w) (base := base) T.toTxtC.toTxt
  have c_X_steps := c_X_steps (P := P) (w := w) (base := base) T
  have c__law_place := c__law_place (P := P) (w := w) (base := base) T
  have c_X_step := c_X_step (P := P) (w := w) (base := base) T
  have c__law_step := c__law_step (P := P) (w := w) (base := base) T.toTxtC.toTxt
  have c_X_played := c_X_played (P := P) (w := w) (base := base) T
  obtain ⟨tb_near, hb_near, kb_near⟩ := blk_near (P := P) (w := w) (base := base) T f cdv A outer s H E hr hgd
  obtain ⟨tb_given, hb_given, kb_given⟩ := blk_given (P := P) (w := w) (base := base) T f cdv A outer s H E hr hgd
  have hgd : (A.deeper (envOfC "law" (defScope s_law) s.heap.objs.size f cdv)).guards = some [] := hgd
  have hu := hu_of hr
  refine ⟨_, (pss_cons (ps_set (i := 6) sc_law.nd rfl (Or.inl rfl) (pe_c c__law_source hr (by decide) rfl (pa_cons (pv 0) (pa_cons (pe_op op_add (pv 5) pe_int) pa_nil))))
  (pss_cons (ps_set (i := 7) sc_law.nd rfl (Or.inl rfl) (pe_c c__law_text hr (by decide) rfl (pa_cons (pv 6) (pa_cons (pv 2) (pa_cons pe_int pa_nil)))))
  (pss_cons (ps_set (i := 8) sc_law.nd rfl (Or.inl rfl) (pe_c c__law_steps hr (by decide) rfl (pa_cons (pv 3) (pa_cons (pv 7) pa_nil))))
  (pss_cons (ps_if (pt_cmpR op_ne (pe_callB (call_reprD hgd hr.units) (by rfl) T.b_repr (by decide +kernel) (pa_cons (pe_cXn c_X_steps hr (by decide) rfl (pa_cons (pv 4) (pa_cons (pv 7) pa_nil))) pa_nil)) (pe_callB (call_reprD hgd hr.units) (by rfl) T.b_repr (by decide +kernel) (pa_cons (pe_callTy call_tuple_of (by rfl) T.b_tuple (by decide +kernel) (pa_cons (pv 8) pa_nil)) pa_nil)) (nomark _))
    (pss_one (ps_ret pe_bl))
    pss_nil)
  (pss_cons (ps_set (i := 9) sc_law.nd rfl (Or.inl rfl) (pe_lst pa_nil))
  (pss_cons (ps_set (i := 10) sc_law.nd rfl (Or.inl rfl) (pe_lst (pa_cons (pv 7) pa_nil)))
  (pss_cons (ps_while PassesOwn.never (PW.pt (pw_and (pt_truth (pe_c c__law_steps hr (by decide) rfl (pa_cons (pv 3) (pa_cons (pe_ix ix_list (pv 10) (pe_un un_neg pe_int) (fun _ _ => rfl)) pa_nil))) (by intro _; rfl)) (pw_and1 (pt_cmpR op_lt (pe_callB call_len_seq (by rfl) T.b_len (by decide +kernel) (pa_cons (pv 9) pa_nil)) pe_int (nomark _)))))
    hb_near)
  hb_given))))))), ?_⟩
  intro D H0 i a p q x sg R xs ns v6 v7 v8 v9 v10 v11 v12 v13 v14 v15 v16 v17 v18 v19 v20 W0 WP hS hbits hlen hi kD
  have hsl := WP.s3
  have hs0 := WP.s0
  refine ⟨_, rfl, _, rfl, ?_⟩
  walk_at "rd"
  refine ⟨a, ns, _, rfl, hS, hbits, hlen, by omega, by omega, fun pd H1 hpd s1 hs1 => ?_⟩
  walk_at "nx"
  refine ⟨_, rfl, _, rfl, pd, sg, 9, rfl, hs1, hs0, by omega, by decide, by decide, fun t H2 ht hc hs2 b2 => ?_⟩
  have s2 := Same.but s1 b2 hpd
  have W2 := W0.same s2
  have hSt := S_len t
  walk_at "nx"
  refine ⟨_, rfl, _, rfl, q, xs, t, R, rfl, W2.hR, by have := WP.l5; omega, WP.r1, by omega, fun qd zs H3 hqd s3 hz hiz => ?_⟩
  have W3 := W2.same s3
  have hzl : zs.length ≤ 100 := by
    have z1 := Bk.stI_len R t t.length
    have z2 := hiz.1
    have z3 : t.length * R.length ≤ 9 * 5 := Nat.mul_le_mul (by omega) WP.l5
    omega
  have hsh : ∀ p ∈ Bk.stI R t t.length, p.1 < 1000 ∧ p.2 < 1000 := by
    rintro ⟨p1, p2⟩ hp
    obtain ⟨r, hr, h1, _⟩ := stI_mem hp
    have := (List.getElem?_eq_some_iff.mp hr).1
    have := WP.l5
    exact ⟨by show p1 < 1000; omega, by show p2 < 1000; omega⟩
  have sh := (shw_st hsh (by rw [← hiz.1]; omega)).ok (by decide) (by decide)
  walk_at "nx"
  refine st_ifKH false (fun H' => Same H3 H') (fun Q' hQ => ?_) (fun zz => by cases zz) (fun _ H4 s4 => ?_)
  · refine ⟨_, rfl, _, rfl, x, sg, t, R, rfl, W3.BA, by have := WP.l5; omega, WP.r1, by omega, fun zz => (by rw [text_ok hc (by omega)] at zz; cases zz), fun _ qt ws H4 s4 hq4 it4 => ?_⟩
    refine ⟨_, _, rfl, .tup (SqT.of hq4) (dpAll_of (fun _ _ h => StpV.dp h) it4), sh.1, sh.2.1, sh.2.2.1, sh.2.2.2, ?_⟩
    refine ⟨_, rfl, qd, _, rfl, .inl ⟨SqL.of (s4 _ _ hz), fun l hl => ?_⟩⟩
    have s5 := same_new (o := .tup zs) hl
    refine ⟨_, _, rfl, .tup (SqT.of upd_same) (dpAll_of (fun _ _ h => StpV.dp h) (hiz.mono fun x y h => (h.same s4).same s5)), sh.1, sh.2.1, sh.2.2.1, sh.2.2.2, rfl, _, rfl, ?_⟩
    rw [decide_eq_true rfl]
    exact hQ _ (s4.trans s5)
  walk_at "nx"
  refine ⟨by walk_at "sz", fun pr hpr => ?_⟩
  have s5 := same_new (o := .lst []) hpr
  have e5 : (upd H4 pr (.lst [])) pr = some (.lst []) := upd_same
  have hs4 : Src H4 pd := by
    obtain ⟨d, e, c, z⟩ := hs2
    exact ⟨d, e, c, s4 _ _ (s3 _ _ z)⟩
  have hdr : pd ≠ pr := by
    obtain ⟨d, e, c, z⟩ := hs4
    exact ne_of_none z hpr
  have s04 := s2.trans (s3.trans s4)
  have hn0 : ∀ (Hx : Hp) (y : Addr), Same H0 Hx → Hx y = none → H0 y = none := fun Hx y sx hy => by
    cases e : H0 y with
    | none => rfl
    | some o => rw [sx _ _ e] at hy; cases hy
  have hpr0 := hn0 _ _ s04 hpr
  generalize upd H4 pr (.lst []) = H5 at s5 e5 ⊢
  walk_at "nx"
  refine ⟨_, rfl, by walk_at "sz", fun pt hpt => ?_⟩
  have hpt0 := hn0 _ _ (s04.trans s5) hpt
  have s6 := same_new (o := .lst [.str (S t)]) hpt
  have e6 : (upd H5 pt (.lst [.str (S t)])) pt = some (.lst [.str (S t)]) := upd_same
  have hrt : pr ≠ pt := ne_of_none e5 hpt
  have hdt : pd ≠ pt := by
    obtain ⟨d, e, c, z⟩ := hs4
    exact ne_of_none (s5 _ _ z) hpt
  generalize upd H5 pt (.lst [.str (S t)]) = H6 at s6 e6 ⊢
  have TN6 : Tn K sg R t H0 pd pr pt [] [] [t] H6 := {
    sm := s04.trans (s5.trans s6)
    src := (let ⟨d, e, c, z⟩ := hs4; ⟨d, e, c, s6 _ _ (s5 _ _ z)⟩)
    hr := s6 _ _ e5
    hi := Items.nil
    ht := e6
    ok := RunOk.one (by omega)
    ch := fun u hu => by
      rw [List.mem_singleton] at hu
      rw [hu]
      exact ⟨hc, by omega⟩
    l12 := Nat.zero_le _
    nd := hpd
    nr := hpr0
    nt := hpt0
    dr := hdr
    dt := hdt
    rt := hrt }
  clear e6 s6 hrt hdt hpt e5 s5 hdr hs4 hpr hn0 s04 s4 sh hsh hzl hz hiz hqd W3 s3 W2 s2 b2 hs2 hs1 s1 hpt0 hpr0 hpd H5 H4 H3 H2 H1
  walk_at "nx"
  refine ⟨fun m σ H' => ∃ (ys : List V) (st : List (Nat × Nat)) (ts : List (List Nat)) (v5 v8 v11 v12 v13 v14 v15 v16 v17 v18 v19 v20 : Option V), σ = [some (.ref a), some (.ref p), some (.str (S sg)), some (.ref q), some (.ref x), v5, some (.ref pd), some (.str (S t)), v8, some (.ref pr), some (.ref pt), v11, v12, v13, v14, v15, v16, v17, v18, v19, v20] ∧ Tn K sg R t H0 pd pr pt ys st ts H' ∧ m = 12 - st.length, ⟨12, [], [], [t], _, _, _, _, _, _, _, _, _, _, _, _, rfl, TN6, rfl⟩, ?_⟩
  rintro m σ H' ⟨ys, st, ts, v5, v8, v11, v12, v13, v14, v15, v16, v17, v18, v19, v20, rfl, TN, rfl⟩
  have W1 := W0.same TN.sm
  obtain ⟨u, hu⟩ : ∃ u, ts[st.length]? = some u := ⟨ts[st.length]'(by rw [TN.ok.len]; omega), List.getElem?_eq_getElem _⟩
  have huc := TN.ch u (List.mem_of_getElem? hu)
  have htt : (ts.map fun u => V.str (S u)) = ((ts.take st.length).map fun u => V.str (S u)) ++ [V.str (S u)] := by
    rw [show [V.str (S u)] = [u].map (fun u => V.str (S u)) from rfl, ← List.map_append, ← take_one_more hu, ← TN.ok.len, List.take_length]
  refine ⟨_, rfl, _, rfl, _, rfl, ⟨pt, _, _, _, rfl, rfl, SqL.of TN.ht, by rw [htt]; exact atI_last _ _, ?_⟩⟩
  refine ⟨q, xs, u, R, rfl, W1.hR, by have := WP.l5; omega, WP.r1, by omega, fun qn zs H7 hqn s7 hz hiz => ?_⟩
  have TN7 := TN.same s7
  by_cases hne : Bk.stI R u u.length = []
  · have hz0 : zs = [] := by
      have := hiz.1
      rw [hne] at this
      exact List.eq_nil_of_length_eq_zero this
    subst hz0
    refine ⟨false, .inl ⟨[], SqL.of hz, rfl⟩, ?_⟩
    refine iteF ?_
    refine iteF ?_
    exact kb_given D H0 H7 a p q x pd pr pt sg t R xs ys st ts v5 v8 v11 v12 v13 v14 v15 v16 v17 v18 v19 v20 W0 WP TN7 kD
  · obtain ⟨z, zs', rfl⟩ : ∃ z zs', zs = z :: zs' := by
      cases zs with
      | nil => exact absurd (List.eq_nil_of_length_eq_zero hiz.1.symm) hne
      | cons z zs' => exact ⟨z, zs', rfl⟩
    refine ⟨true, .inl ⟨_, SqL.of hz, rfl⟩, ?_⟩
    refine iteT ?_
    refine ⟨_, rfl, pr, ys, rfl, .inl (SqL.of TN7.hr), ?_⟩
    refine ⟨_, _, rfl, rfl, _, rfl, ?_⟩
    rw [TN7.hi.1]
    by_cases h12 : st.length < 12
    · rw [decide_eq_true (show ((st.length : Nat) : Int) < 12 by omega)]
      refine iteT ⟨_, fun _ _ h => h, ?_⟩
      refine kb_near _ H0 H7 a p q x pd pr pt sg t R xs ys st ts u v5 v8 v11 v12 v13 v14 v15 v16 v17 v18 v19 v20 W0 WP TN7 hu hne h12 ?_
      rintro σ2 H8 ⟨ys2, st2, ts2, w5, w8, w11, w12, w13, w14, w15, w16, w17, w18, w19, w20, rfl, TN8, hl⟩
      exact ⟨12 - st2.length, by omega, ys2, st2, ts2, _, _, _, _, _, _, _, _, _, _, _, _, rfl, TN8, rfl⟩
    · rw [decide_eq_false (show ¬ ((st.length : Nat) : Int) < 12 by omega)]
      refine iteF ?_
      exact kb_given D H0 H7 a p q x pd pr pt sg t R xs ys st ts v5 v8 v11 v12 v13 v14 v15 v16 v17 v18 v19 v20 W0 WP TN7 kD
end
end Sh
set_option Elab.async false
set_option linter.all false
set_option maxRecDepth 100000
set_option maxHeartbeats 4000000
namespace Sh
open PySem PySem.Spec PyProof.Rows L2
open SX (S S_inj S_len S_cat)
open Bk (Rule firstAt lg bestUp used left drain pushS Wf lf stAt stP)
local macro_rules | `(tactic| walk_at "nx") => `(tactic| repeat (with_reducible first | refine Sh.gn_mk ?_ | refine Sh.nx_mk ?_ | refine Sh.st_nx ?_ | refine Sh.rt_mk ?_ | refine Sh.ct_mk ?_ | refine Sh.bk_mk ?_))
local macro_rules | `(tactic| walk_at "sq") => `(tactic| first | exact SqL.of upd_same | exact SqT.of upd_same | exact SqL.of (by assumption) | exact SqT.of (by assumption) | assumption | exact Or.inl (SqL.of (by assumption)) | exact Or.inr (SqT.of (by assumption)) | exact Or.inl (by assumption) | exact Or.inr (by assumption))
local macro_rules | `(tactic| walk_at "hp") => `(tactic| first | exact upd_same | assumption)
local macro_rules | `(tactic| walk_at "sz") => `(tactic| first | exact Nat.le_of_ble_eq_true rfl | omega)
local macro_rules | `(tactic| walk_at "sd") => `(tactic| first | omega | exact rfl | assumption | (show (0 : Int) < _; omega) | exact And.intro (by omega) (by omega) | exact Or.inl (And.intro (by omega) (by omega)) | exact Or.inr (And.intro (by omega) (by omega)) | omega | exact Sh.sz_S (by omega) | decide)
local macro_rules | `(tactic| walk_at "rd1") => `(tactic| first
  | (with_reducible first | refine Sh.gn_mk ?_ | refine Sh.nx_mk ?_ | refine Sh.st_nx ?_ | refine Sh.rt_mk ?_ | refine Sh.ct_mk ?_ | refine Sh.bk_mk ?_)
  | refine Exists.intro (α := V) _ (And.intro rfl ?_)
  | refine Exists.intro (α := Bool) _ (And.intro rfl ?_)
  | refine Exists.intro (α := Int) _ (And.intro rfl ?_)
  | refine Exists.intro (α := PySem.Str) _ (And.intro rfl ?_)
  | refine Exists.intro (α := Int) _ (Exists.intro (α := Int) _ (And.intro rfl (And.intro rfl ?_)))
  | refine Exists.intro (α := PySem.Str) _ (Exists.intro (α := PySem.Str) _ (And.intro rfl (And.intro rfl ?_)))
  | refine Exists.intro (α := Int) _ (Exists.intro (α := Int) _ (And.intro rfl ?_))
  | refine Or.inl (Exists.intro (α := Int) _ (And.intro rfl ?_))
  | refine Exists.intro _ (Exists.intro _ (Exists.intro _ (Exists.intro _ (And.intro rfl (And.intro rfl (And.intro (by walk_at "sq") (And.intro rfl ?_)))))))
  | refine Exists.intro _ (Exists.intro _ (Exists.intro _ (Exists.intro _ (And.intro rfl (And.intro rfl (And.intro (by walk_at "hp") (And.intro rfl ?_)))))))
  | refine And.intro (by walk_at "sd") ?_
  )
local macro_rules | `(tactic| walk_at "rd") => `(tactic| repeat walk_at "rd1")
local macro_rules | `(tactic| walk_at "lk") => `(tactic| first | exact rfl | (rw [lookup_putF, if_pos rfl]) | (rw [lookup_putF, if_neg (by decide +kernel)]; walk_at "lk"))

section
variable {P : Program} {w : World} {K : PySem.W.Frag} {mg : Str → Option Value} {base : Heap} {CB XR FR DI XO FO XT FT DT SE : Addr}
theorem BookAt.but {C : Addr} {H H' : Hp} {p a : Addr} {sg : List Nat} {R : List Rule} (h : BookAt K C H p sg R) (b : But a H H') (z : Src H a) : BookAt K C H' p sg R := by
  obtain ⟨dx, fs, a2, xs, pl, h1, h2, h3, h4, h5, h6, h7, h8⟩ := h
  obtain ⟨d, e, c, z'⟩ := id z
  exact ⟨dx, fs, a2, xs, pl, b _ _ (ne_of h1 z' (by intro q; cases q)) h1, h2, h3, h4.keep (Keep.but b z), h5, h6.but b z, h7, h8⟩
theorem Wd.but {sg : List Nat} {R : List Rule} {xs : List V} {q x p : Addr} {H H' : Hp} (h : Wd K CB sg R xs q x H) (b : But p H H') (z : Src H p) : Wd K CB sg R xs q x H' := ⟨h.hR.keep (Keep.but b z), h.BA.but b z⟩
theorem signs_letters {sg : List Nat} (h : isSigns sg = true) : ∀ c ∈ sg, c ∈ letters := by
  intro c hc
  obtain ⟨i, hi, rfl⟩ := List.mem_iff_getElem.mp hc
  simp only [isSigns, Bool.and_eq_true, List.all_eq_true, List.mem_range] at h
  have := h.2 i hi
  simp only [okAt, Bool.and_eq_true, decide_eq_true_eq] at this
  have e : sg.getD i 0 = sg[i] := by
    rw [List.getD_eq_getElem?_getD, List.getElem?_eq_getElem hi]; rfl
  rw [e] at this
  exact this.1
theorem flat_rep {x : V} (n : Nat) : (List.replicate n [x]).flatten = List.replicate n x := by
  induction n with
  | zero => rfl
  | succ n ih => rw [List.replicate_succ, List.flatten_cons, ih, List.replicate_succ]; rfl
/-- a tuple of one thing, taken n times -/
theorem repT_J {x : V} {n : Nat} {k : Int} {l : Addr} {H : Hp} {Q : VK} (hk : k = n) (h : SqT K H l [x]) (h2 : 2 ≤ n) (h3 : n ≤ 1000) (cont : ∀ q H', Same H H' → H' q = some (.tup (List.replicate n x)) → Q (.ref q) H') : rRepT K (.ref l) (.int k) H Q :=
  ⟨l, k, [x], rfl, rfl, h, by simp, by omega, by omega, by simp, fun q hq => by
    rw [show k.toNat = n by omega, flat_rep]
    exact cont q _ (same_new hq) upd_same⟩
theorem lit_e : Str.ofString "" = S [] := by decide +kernel
theorem lit_A : Str.ofString "A" = S [65] := by decide +kernel
theorem or_whole {H : Hp} {o : V} {F : Prop} {Rst : Addr → List V → Prop} (ho : NoSeq o ∨ ∃ qo zs, o = .ref qo ∧ SqX K H qo zs ∧ 400 < zs.length) (k : F) :
    (NoSeq o ∧ F) ∨ ∃ q ys, o = .ref q ∧ SqX K H q ys ∧ ((400 < ys.length ∧ F) ∨ Rst q ys) := by
  rcases ho with ho | ⟨qo, zs, rfl, hq, h4⟩
  · exact .inl ⟨ho, k⟩
  · exact .inr ⟨qo, zs, rfl, hq, .inl ⟨h4, k⟩⟩
theorem blk_whole (T : TxtX P K mg CB XR FR DI XO FO XT FT DT SE) (f : Addr) (cdv : Value) (A : Around) (outer : List Env) (s : Shared) (H : Hp) (E : XK) (hr : Room 6 (A.deeper (envOfC "law" (defScope s_law) s.heap.objs.size f cdv))) (hgd : A.guards = some []) :
    ∃ t_, PSs (cxOf CX0 P w K mg base ["_law_script", "_law_source_here", "_law_signs_here", "_law_rules", "_law_book", "_law_turn", "_law_draws", "_law_text_here", "_law_due", "_law_run", "_law_texts", "_law_near", "_law_pair", "_law_given", "_law_at", "_law_menu", "_law_odd", "_law_place_here", "_law_number", "raised", "_law_whole"] "law" (defScope s_law) f cdv A outer s H E).nox ((defBody s_law).drop 5) t_ ∧
    ∀ (D : Ends) (H0 : Hp) (a p q x : Addr) (sg : List Nat) (R : List Rule) (xs : List V) (v5 v6 v7 v8 v9 v10 v11 v12 v13 v14 v15 v16 v17 v18 v19 v20 : Option V), Wd K CB sg R xs q x H0 → WdP sg R → Src H0 p → (∀ H', D.rt (.bl true) H') → t_ D [some (.ref a), some (.ref p), some (.str (S sg)), some (.ref q), some (.ref x), v5, v6, v7, v8, v9, v10, v11, v12, v13, v14, v15, v16, v17, v18, v19, v20] H0 := by
  have c__law_source := c__law_source (P := P) (w := w) (base := base) T.toTxtC.toTxt
  have c__law_signs := c__law_signs (P := P) (w := w) (base := base) T.toTxtC.toTxt
  have c__law_drawn := c__law_drawn (P := P) (w := w) (base := base) T.toTxtC.toTxt
  have c_Book := c_Book___init__ (P := P) (w := w) (base := base) T.toTxtC
  have c__law_text := c__law_text (P := P) (w := w) (base := base) T.toTxtC.toTxt
  have c__law_steps := c__law_steps (P := P) (w := w) (base := base) T.toTxtC.toTxt
  have c__law_pick := c__law_pick (P := P) (w := w) (base := base) T.toTxtC.toTxt
  have c_X_steps := c_X_steps (P := P) (w := w) (base := base) T
  have c__law_place := c__law_place (P := P) (w := w) (base := base) T
  have c_X_step := c_X_step (P := P) (w := w) (base := base) T
  have c__law_step := c__law_step (P := P) (w := w) (base := base) T.toTxtC.toTxt
  have c_X_played := c_X_played (P := P) (w := w) (base := base) T
  have hgd : (A.deeper (envOfC "law" (defScope s_law) s.heap.objs.size f cdv)).guards = some [] := hgd
  have hu := hu_of hr
  refine ⟨_, (pss_cons (ps_if (pt_cmpR op_eq (pe_c c__law_pick hr (by decide) rfl (pa_cons (pv 1) (pa_cons pe_int pa_nil))) pe_int (nomark _))
    (pss_cons (ps_set (i := 20) sc_law.nd rfl (Or.inl rfl) (pe_ix ix_list (pe_lst (pa_cons pe_non (pa_cons pe_int (pa_cons pe_str (pa_cons (pe_op op_repT (pe_tup (pa_cons (pe_tup (pa_cons pe_int (pa_cons pe_int pa_nil))) pa_nil)) pe_int) pa_nil))))) (pe_c c__law_pick hr (by decide) rfl (pa_cons (pv 1) (pa_cons pe_int pa_nil))) (fun _ _ => rfl)))
    (pss_one (ps_if (PW.pt (pw_or (pt_cmpR op_ne (pe_c c__law_place hr (by decide) rfl (pa_cons (pv 4) (pa_cons pe_str (pa_cons (pv 20) pa_nil)))) (pe_un un_neg pe_int) (nomark _)) (pw_or1 (pt_cmpR op_ne (pe_c c__law_place hr (by decide) rfl (pa_cons (pv 4) (pa_cons pe_str (pa_cons (pe_op op_repT (pe_tup (pa_cons (pe_tup (pa_cons pe_int (pa_cons pe_int pa_nil))) pa_nil)) pe_int) pa_nil)))) pe_int (nomark _)))))
      (pss_one (ps_ret pe_bl))
      pss_nil)))
    pss_nil)
  (pss_one (ps_tryT rfl rfl sc_law.nd takes0 (fun W pn xe tk po => (pss_cons (ps_expr (pe_cX c_X_steps hr (by decide) tk rfl (pa_cons (pv 4) (pa_cons pe_str pa_nil))))
    (pss_one (ps_ret pe_bl))))
    (HdsA.cons (i := 19) rfl rfl ⟨rfl, by decide, Or.inl T.e_BadText.mgC⟩ (fun a oe cls d pn hz hf => (pss_one (ps_ret (pe_cmpR op_eq (pe_xf T.e_BadText.xf T.nf_BadText_thing hz hf (pv 19)) pe_str (nomark _)))))
    HdsA.nil)))), ?_⟩
  intro D H0 a p q x sg R xs v5 v6 v7 v8 v9 v10 v11 v12 v13 v14 v15 v16 v17 v18 v19 v20 W0 WP hs kD
  have hsl := WP.s3
  have hl5 := WP.l5
  refine st_ifJ (fun σ H' => ∃ (v19 v20 : Option V), σ = [some (.ref a), some (.ref p), some (.str (S sg)), some (.ref q), some (.ref x), v5, v6, v7, v8, v9, v10, v11, v12, v13, v14, v15, v16, v17, v18, v19, v20] ∧ Wd K CB sg R xs q x H') (fun N kN => ?_) ?_
  · walk_at "rd"
    refine ⟨p, 6, rfl, hs, by decide, by decide, fun n G0 n0 n1 sp bp => ?_⟩
    have W1 := W0.but bp hs
    walk_at "rd"
    refine ite2 (fun c => ?_) (fun c => ?_)
    · walk_at "rd"
      try refine And.intro (by walk_at "sz") ?_
      intro l1 h1
      have s1 := same_new (o := .tup [.int 0, .int 0]) h1
      have e1 : (upd G0 l1 (.tup [.int 0, .int 0])) l1 = some (.tup [.int 0, .int 0]) := upd_same
      generalize upd G0 l1 (.tup [.int 0, .int 0]) = G1 at s1 e1 ⊢
      walk_at "rd"
      try refine And.intro (by walk_at "sz") ?_
      intro l2 h2
      have s2 := same_new (o := .tup [.ref l1]) h2
      have e2 : (upd G1 l2 (.tup [.ref l1])) l2 = some (.tup [.ref l1]) := upd_same
      generalize upd G1 l2 (.tup [.ref l1]) = G2 at s2 e2 ⊢
      refine ⟨l2, 401, [.ref l1], rfl, rfl, SqT.of e2, by simp, by decide, by decide, by simp, fun l3 h3 => ?_⟩
      rw [show (Int.toNat 401) = 401 from rfl, flat_rep]
      have s3 := same_new (o := .tup (List.replicate 401 (V.ref l1))) h3
      have e3 : (upd G2 l3 (.tup (List.replicate 401 (V.ref l1)))) l3 = some (.tup (List.replicate 401 (V.ref l1))) := upd_same
      generalize upd G2 l3 (.tup (List.replicate 401 (V.ref l1))) = G3 at s3 e3 ⊢
      have hr2 : (List.replicate 401 (V.ref l1)).length = 401 := List.length_replicate
      generalize List.replicate 401 (V.ref l1) = big at e3 hr2
      walk_at "rd"
      try refine And.intro (by walk_at "sz") ?_
      intro l4 h4
      have s4 := same_new (o := .lst [.non, .int 5, .str "ab", .ref l3]) h4
      have e4 : (upd G3 l4 (.lst [.non, .int 5, .str "ab", .ref l3])) l4 = some (.lst [.non, .int 5, .str "ab", .ref l3]) := upd_same
      generalize upd G3 l4 (.lst [.non, .int 5, .str "ab", .ref l3]) = G4 at s4 e4 ⊢
      have sp4 : Src G4 p := by
        obtain ⟨d, e, c, z⟩ := sp
        exact ⟨d, e, c, s4 _ _ (s3 _ _ (s2 _ _ (s1 _ _ z)))⟩
      have W4 := W1.same (s1.trans (s2.trans (s3.trans s4)))
      refine ⟨_, rfl, p, 4, rfl, sp4, by decide, by decide, fun m G5 m0 m1 sp5 bp5 => ?_⟩
      have W5 := W4.but bp5 sp4
      have hlp : l4 ≠ p := by
        intro e
        obtain ⟨_, _, _, z⟩ := sp4
        rw [← e, e4] at z
        cases z
      have k5 : Keep G4 G5 := Keep.but bp5 sp4
      have hm : ∃ o, atI [V.non, .int 5, .str "ab", .ref l3] m = some o ∧ ∀ Gb, Keep G5 Gb → NoSeq o ∨ ∃ qo zs, o = .ref qo ∧ SqX K Gb qo zs ∧ 400 < zs.length := by
        have h4 : m = 0 ∨ m = 1 ∨ m = 2 ∨ m = 3 := by omega
        rcases h4 with rfl | rfl | rfl | rfl
        · exact ⟨_, rfl, fun _ _ => .inl (.inl rfl)⟩
        · exact ⟨_, rfl, fun _ _ => .inl (.inr (.inr ⟨_, rfl⟩))⟩
        · exact ⟨_, rfl, fun _ _ => .inl (.inr (.inl ⟨_, rfl⟩))⟩
        · exact ⟨_, rfl, fun Gb kb => .inr ⟨l3, big, rfl, .inr (kb.seq (k5.seq (SqT.of (s4 _ _ e3)))), by omega⟩⟩
      obtain ⟨o, hat, ho⟩ := hm
      refine ⟨l4, _, _, _, rfl, rfl, SqL.of (bp5 _ _ hlp e4), hat, ?_⟩
      walk_at "nx"
      clear hat hlp k5 sp5 bp5 W4 sp4 e4 s4 h4 e3 s3 h3 e2 s2 h2 e1 s1 h1 hr2 big
      refine if_KH false (fun H' => Same G5 H') (fun Q' hQ => ?_) (fun zz => by cases zz) (fun _ H' s5 => ?_)
      · refine ⟨_, rfl, _, rfl, x, sg, [], R, o, by rw [← lit_e]; rfl, W5.BA, by omega, WP.r4, by decide, text_ok (by simp) (by decide), or_whole (ho _ (Keep.refl _)) fun G6 s6 => ?_⟩
        have W6 := W5.same s6
        walk_at "rd"
        try refine And.intro (by walk_at "sz") ?_
        intro l7 h7
        have s7 := same_new (o := .tup [.int 0, .int 0]) h7
        have e7 : (upd G6 l7 (.tup [.int 0, .int 0])) l7 = some (.tup [.int 0, .int 0]) := upd_same
        generalize upd G6 l7 (.tup [.int 0, .int 0]) = G7 at s7 e7 ⊢
        walk_at "rd"
        try refine And.intro (by walk_at "sz") ?_
        intro l8 h8
        have s8 := same_new (o := .tup [.ref l7]) h8
        have e8 : (upd G7 l8 (.tup [.ref l7])) l8 = some (.tup [.ref l7]) := upd_same
        generalize upd G7 l8 (.tup [.ref l7]) = G8 at s8 e8 ⊢
        refine ⟨l8, 400, [.ref l7], rfl, rfl, SqT.of e8, by simp, by decide, by decide, by simp, fun l9 h9 => ?_⟩
        rw [show (Int.toNat 400) = 400 from rfl, flat_rep]
        have s9 := same_new (o := .tup (List.replicate 400 (V.ref l7))) h9
        have e9 : (upd G8 l9 (.tup (List.replicate 400 (V.ref l7)))) l9 = some (.tup (List.replicate 400 (V.ref l7))) := upd_same
        generalize upd G8 l9 (.tup (List.replicate 400 (V.ref l7))) = G9 at s9 e9 ⊢
        have W9 := W6.same (s7.trans (s8.trans s9))
        rw [List.replicate_succ] at e9
        refine ⟨x, sg, [], R, _, by rw [← lit_e]; rfl, W9.BA, by omega, WP.r4, by decide, text_ok (by simp) (by decide), .inr ⟨l9, _, rfl, .inr (SqT.of e9), .inr ⟨by rw [List.length_cons, List.length_replicate]; decide, [], [[]], [], _, RunOk.one (by decide), rfl, Items.nil, _, _, [], rfl, rfl, .inr ⟨l7, _, rfl, .inr (SqT.of (s9 _ _ (s8 _ _ e7))), .inr ⟨_, _, rfl, .inl ⟨0, 0, rfl, rfl, can_end (p := 0) WP.l1 (Nat.le_refl _)⟩⟩⟩, fun Ga sa => ?_⟩⟩⟩
        refine ⟨rfl, _, rfl, ?_⟩
        show Q' (!decide (V.int 0 = V.int 0)) Ga
        rw [decide_eq_true rfl]
        exact hQ _ (s6.trans ((s7.trans (s8.trans s9)).trans sa))
      · walk_at "nx"
        exact kN _ _ ⟨_, _, rfl, W5.same s5⟩
    · walk_at "nx"
      exact kN _ _ ⟨_, _, rfl, W1⟩
  · rintro σ H' ⟨v19, v20, rfl, W1⟩
    unfold tTry
    refine ⟨_, rfl, x, sg, [65], R, by rw [lit_A], W1.BA, by omega, WP.r1, by decide, fun _ d hd => ⟨true, T.mm_BadText_BadText, fun _ a0 ha0 => ?_, fun zz => (by cases zz)⟩, fun ht => ?_⟩
    · dsimp only [outA]
      refine ⟨_, rfl, rfl, rfl, d, _, _, rfl, upd_same, lk1, ?_⟩
      rw [← lit_A]
      refine ⟨rfl, ?_⟩
      rw [decide_eq_true rfl]
      exact kD _
    · exfalso
      have h2 : (65 : Nat) ∈ sg := by
        simp [isText] at ht
        exact ht
      exact absurd (signs_letters WP.hB.1 65 h2) (by decide +kernel)
end
end Sh
set_option Elab.async false
set_option linter.all false
set_option maxRecDepth 100000
set_option maxHeartbeats 4000000
namespace Sh
open PySem PySem.Spec PyProof.Rows L2
open SX (S S_inj S_len S_cat)
open Bk (Rule firstAt lg bestUp used left drain pushS Wf lf stAt stP)
local macro_rules | `(tactic| walk_at "nx") => `(tactic| repeat (with_reducible first | refine Sh.gn_mk ?_ | refine Sh.nx_mk ?_ | refine Sh.st_nx ?_ | refine Sh.rt_mk ?_ | refine Sh.ct_mk ?_ | refine Sh.bk_mk ?_))
local macro_rules | `(tactic| walk_at "sq") => `(tactic| first | exact SqL.of upd_same | exact SqT.of upd_same | exact SqL.of (by assumption) | exact SqT.of (by assumption) | assumption | exact Or.inl (SqL.of (by assumption)) | exact Or.inr (SqT.of (by assumption)) | exact Or.inl (by assumption) | exact Or.inr (by assumption))
local macro_rules | `(tactic| walk_at "hp") => `(tactic| first | exact upd_same | assumption)
local macro_rules | `(tactic| walk_at "sz") => `(tactic| first | exact Nat.le_of_ble_eq_true rfl | omega)
local macro_rules | `(tactic| walk_at "sd") => `(tactic| first | omega | exact rfl | assumption | (show (0 : Int) < _; omega) | exact And.intro (by omega) (by omega) | exact Or.inl (And.intro (by omega) (by omega)) | exact Or.inr (And.intro (by omega) (by omega)) | omega | exact Sh.sz_S (by omega) | decide)
local macro_rules | `(tactic| walk_at "rd1") => `(tactic| first
  | (with_reducible first | refine Sh.gn_mk ?_ | refine Sh.nx_mk ?_ | refine Sh.st_nx ?_ | refine Sh.rt_mk ?_ | refine Sh.ct_mk ?_ | refine Sh.bk_mk ?_)
  | refine Exists.intro (α := V) _ (And.intro rfl ?_)
  | refine Exists.intro (α := Bool) _ (And.intro rfl ?_)
  | refine Exists.intro (α := Int) _ (And.intro rfl ?_)
  | refine Exists.intro (α := PySem.Str) _ (And.intro rfl ?_)
  | refine Exists.intro (α := Int) _ (Exists.intro (α := Int) _ (And.intro rfl (And.intro rfl ?_)))
  | refine Exists.intro (α := PySem.Str) _ (Exists.intro (α := PySem.Str) _ (And.intro rfl (And.intro rfl ?_)))
  | refine Exists.intro (α := Int) _ (Exists.intro (α := Int) _ (And.intro rfl ?_))
  | refine Or.inl (Exists.intro (α := Int) _ (And.intro rfl ?_))
  | refine Exists.intro _ (Exists.intro _ (Exists.intro _ (Exists.intro _ (And.intro rfl (And.intro rfl (And.intro (by walk_at "sq") (And.intro rfl ?_)))))))
  | refine Exists.intro _ (Exists.intro _ (Exists.intro _ (Exists.intro _ (And.intro rfl (And.intro rfl (And.intro (by walk_at "hp") (And.intro rfl ?_)))))))
  | refine And.intro (by walk_at "sd") ?_
  )
local macro_rules | `(tactic| walk_at "rd") => `(tactic| repeat walk_at "rd1")
local macro_rules | `(tactic| walk_at "lk") => `(tactic| first | exact rfl | (rw [lookup_putF, if_pos rfl]) | (rw [lookup_putF, if_neg (by decide +kernel)]; walk_at "lk"))

section
variable {P : Program} {w : World} {K : PySem.W.Frag} {mg : Str → Option Value} {base : Heap} {CB XR FR DI XO FO XT FT DT SE : Addr}
theorem law_body (T : TxtX P K mg CB XR FR DI XO FO XT FT DT SE) (f : Addr) (cdv : Value) (A : Around) (outer : List Env) (s : Shared) (H : Hp) (E : XK) (hr : Room 6 (A.deeper (envOfC "law" (defScope s_law) s.heap.objs.size f cdv))) (hgd : A.guards = some [])
    (a : Addr) (ns : List Int) (hS : SqL K H a (ns.map V.int)) (hbits : ∀ z ∈ ns, Builtin.Int.intBits z ≤ 1048576) (hlen : ns.length ≤ 63) :
    ∃ t, PSs (cxOf CX0 P w K mg base ["_law_script", "_law_source_here", "_law_signs_here", "_law_rules", "_law_book", "_law_turn", "_law_draws", "_law_text_here", "_law_due", "_law_run", "_law_texts", "_law_near", "_law_pair", "_law_given", "_law_at", "_law_menu", "_law_odd", "_law_place_here", "_law_number", "raised", "_law_whole"] "law" (defScope s_law) f cdv A outer s H E).nox (defBody s_law) t ∧
      t { nx := fun _ _ => V.non = V.bl true, rt := fun v _ => v = .bl true } (start ["_law_script", "_law_source_here", "_law_signs_here", "_law_rules", "_law_book", "_law_turn", "_law_draws", "_law_text_here", "_law_due", "_law_run", "_law_texts", "_law_near", "_law_pair", "_law_given", "_law_at", "_law_menu", "_law_odd", "_law_place_here", "_law_number", "raised", "_law_whole"] [.ref a]) H := by
  have c__law_source := c__law_source (P := P) (w := w) (base := base) T.toTxtC.toTxt
  have c__law_signs := c__law_signs (P := P) (w := w) (base := base) T.toTxtC.toTxt
  have c__law_drawn := c__law_drawn (P := P) (w := w) (base := base) T.toTxtC.toTxt
  have c_Book := c_Book___init__ (P := P) (w := w) (base := base) T.toTxtC
  have c__law_text := c__law_text (P := P) (w := w) (base := base) T.toTxtC.toTxt
  have c__law_steps := c__law_steps (P := P) (w := w) (base := base) T.toTxtC.toTxt
  have c__law_pick := c__law_pick (P := P) (w := w) (base := base) T.toTxtC.toTxt
  have c_X_steps := c_X_steps (P := P) (w := w) (base := base) T
  have c__law_place := c__law_place (P := P) (w := w) (base := base) T
  have c_X_step := c_X_step (P := P) (w := w) (base := base) T
  have c__law_step := c__law_step (P := P) (w := w) (base := base) T.toTxtC.toTxt
  have c_X_played := c_X_played (P := P) (w := w) (base := base) T
  obtain ⟨tb_turn, hb_turn, kb_turn⟩ := blk_turn (P := P) (w := w) (base := base) T f cdv A outer s H E hr hgd
  obtain ⟨tb_whole, hb_whole, kb_whole⟩ := blk_whole (P := P) (w := w) (base := base) T f cdv A outer s H E hr hgd
  have hgd : (A.deeper (envOfC "law" (defScope s_law) s.heap.objs.size f cdv)).guards = some [] := hgd
  have hu := hu_of hr
  refine ⟨_, (pss_cons (ps_set (i := 1) sc_law.nd rfl (Or.inl rfl) (pe_c c__law_source hr (by decide) rfl (pa_cons (pv 0) (pa_cons pe_int pa_nil))))
  (pss_cons (ps_set (i := 2) sc_law.nd rfl (Or.inl rfl) (pe_c c__law_signs hr (by decide) rfl (pa_cons (pv 1) pa_nil)))
  (pss_cons (ps_set (i := 3) sc_law.nd rfl (Or.inl rfl) (pe_c c__law_drawn hr (by decide) rfl (pa_cons (pv 1) (pa_cons (pv 2) pa_nil))))
  (pss_cons (ps_set (i := 4) sc_law.nd rfl (Or.inl rfl) (pe_mkC T.k_Book c_Book hr (by decide) rfl (pa_cons (pv 2) (pa_cons (pv 3) pa_nil))))
  (pss_cons (ps_for PassesOwn.never rfl (pi_range1 (by rfl) T.b_range (pa_cons pe_int pa_nil)) (pg_name (i := 5) sc_law.nd rfl (Or.inl rfl))
    hb_turn)
  hb_whole))))), ?_⟩
  have cl := T.k_Book.cl
  refine ⟨_, rfl, a, ns, 0, rfl, hS, hbits, hlen, by decide, by decide, fun p H1 hp s1 hp1 => ?_⟩
  walk_at "nx"
  refine ⟨_, rfl, p, rfl, hp1, fun sg H2 hsg hp2 b2 => ?_⟩
  have hsl := menu_len sg hsg
  have hssg := menu_signs sg hsg
  walk_at "nx"
  refine ⟨_, rfl, _, rfl, p, sg, rfl, hp2, hssg, fun q xs R H3 hR hB h5 hp3 b3 => ?_⟩
  have s3 : Same H H3 := ((But.same s1).trans (b2.trans b3)).toSame hp
  clear b3 hp2 b2 s1 hp1 hp
  walk_at "nx"
  refine ⟨_, rfl, _, rfl, ?_⟩
  intro x dx nx ndx nex
  have s6 : Same H3 (upd (upd H3 dx (.own x)) x (.ins CB dx [])) := fun b o e => by
    rw [upd_ne (ne_of_none e nx), upd_ne (ne_of_none e ndx)]
    exact e
  refine ⟨x, dx, q, sg, xs, R, rfl, upd_same, hR.same s6, hB, fun H7 BA b7 => ⟨rfl, ?_⟩⟩
  have s57 : Same H3 H7 := Same.made nx ndx fun b o e n => b7 b o n e
  have W7 : Wd K CB sg R xs q x H7 := ⟨hR.same s57, BA⟩
  have WP : WdP sg R := ⟨hB, h5, hsl.1, hsl.2⟩
  have hp7 : Src H7 p := by
    obtain ⟨d, e, c, z⟩ := hp3
    exact ⟨d, e, c, s57 _ _ z⟩
  have hS7 := (s3.trans s57).seq hS
  clear b7 BA s57 s6 nex ndx nx hR hp3 s3
  walk_at "nx"
  walk_at "rd"
  refine for_range (lo := 0) (n := _) (fun i σ H8 => ∃ (v5 v6 v7 v8 v9 v10 v11 v12 v13 v14 v15 v16 v17 v18 v19 v20 : Option V), σ = [some (.ref a), some (.ref p), some (.str (S sg)), some (.ref q), some (.ref x), v5, v6, v7, v8, v9, v10, v11, v12, v13, v14, v15, v16, v17, v18, v19, v20] ∧ Same H7 H8)
    ⟨_, _, _, _, _, _, _, _, _, _, _, _, _, _, _, _, rfl, Same.refl H7⟩ ?_ ?_
  · rintro i σ H8 hi ⟨v5, v6, v7, v8, v9, v10, v11, v12, v13, v14, v15, v16, v17, v18, v19, v20, rfl, s8⟩
    rw [Int.zero_add]
    have hi3 : i < 3 := hi
    refine kb_turn _ H8 i a p q x sg R xs ns v6 v7 v8 v9 v10 v11 v12 v13 v14 v15 v16 v17 v18 v19 v20 (W7.same s8) WP (s8.seq hS7) hbits hlen hi3 ?_
    rintro σ2 H9 ⟨w5, w6, w7, w8, w9, w10, w11, w12, w13, w14, w15, w16, w17, w18, w19, w20, rfl, s9⟩
    exact ⟨_, _, _, _, _, _, _, _, _, _, _, _, _, _, _, _, rfl, s8.trans s9⟩
  · rintro σ H8 ⟨v5, v6, v7, v8, v9, v10, v11, v12, v13, v14, v15, v16, v17, v18, v19, v20, rfl, s8⟩
    refine kb_whole _ H8 a p q x sg R xs v5 v6 v7 v8 v9 v10 v11 v12 v13 v14 v15 v16 v17 v18 v19 v20 (W7.same s8) WP (by obtain ⟨d, e, c, z⟩ := hp7; exact ⟨d, e, c, s8 _ _ z⟩) fun H' => rfl
end
end Sh
set_option Elab.async false
set_option linter.all false
set_option maxRecDepth 100000
namespace Sh
open PySem PySem.Spec PyProof.Rows L2
section
variable {P : Program} {K : PySem.W.Frag} {h : Heap} {mg : Str → Option Value}
/-- an exception class -/
theorem exc_mk {x : Str} {C f D N : Addr} {nm q : Str} {bs bm : List Value} {sn : List Str} {sub : List Value} {ab : Bool} {col : Option Bool} {dd : Option Addr} {k0 k1 k2 k3 k5 : Option Value} (X : K.In h) (Y : h.Ns mainGlobals mg)
    (a : PySem.W.nsIn K mainGlobals x = some (some (.ref C))) (l : K.lookup C = some (excClassObj nm q C N bs bm true sn sub ab col dd k0 k1 k2 k3 k5 "ValueError.__new__")) (vb : PySem.HandSPX.refsVE bm = true)
    (sa : PySem.W.findIn K (.ref C) "__setattr__" = some (some (.builtin "object.__setattr__"))) (ga : PySem.W.findIn K (.ref C) "__getattribute__" = some (some (.builtin "BaseException.__getattribute__"))) (gg : PySem.W.findIn K (.ref C) "__getattr__" = some none)
    (ic : PySem.W.findIn K (.ref C) "__init__" = some (some (.ref f))) (ti : PySem.W.typeIn K (.ref f) = some (.type "function")) (kc : PySem.W.keepIn K (.ref C) = true) (ex : PySem.W.subIn K (.ref C) (.type "BaseException") = some true)
    (ty : PySem.W.typeIn K (.ref C) = some (.type "type")) (hd : PySem.W.hasDictIn K C = true) (su : PySem.W.mroIn K C (.ref D) = some true) (sp : PySem.W.ks_superIn K C D "__init__" = some (some (.builtin "ValueError.__init__"))) (ve : PySem.W.subIn K (.ref C) (.type "ValueError") = some true) :
    ExcAt K mg x C f D :=
  ⟨⟨⟨nm, q, N, bs, bm, sn, sub, ab, col, dd, k0, k1, k2, k3, k5, l, vb⟩, sa, ex, ty, kc⟩, PySem.W.mg_of X Y a, ic, ti, ⟨su, sp, ve⟩, ⟨ga, gg, ex, hd⟩⟩
/-- its __init__ -/
theorem xinit_mk {q : Str} {st : Stmt} {ps : List Str} {D f cc cda : Addr} {oc kv dc pm ct cl cl2 : Value} {od an cld cld2 : Option Addr} {sl csl csl2 : Array (Option Value)} {vs : Array Value} {file : Str} {tf : Tok} {cd : ClassData}
    (l : K.lookup f = some ⟨oc, od, .func (PySem.W.fnX "__init__" q (defArgs st) (defBody st) (defScope st) [("__class__", cc)] .none kv dc pm an (.ref cda) ct), sl⟩) (c : PySem.W.codeIn K (.ref cda) q = true)
    (hcc : K.lookup cc = some ⟨cl, cld, .cell (some (.ref D)), csl⟩) (hcd : K.lookup cda = some ⟨cl2, cld2, .fields vs, csl2⟩) (hvs : vs[2]? = some (.str file tf)) (hfl : ((P.main.file : Str) == file) = true) (top : (P.main.scope.names.lookup ("super" : Str)).isSome = false)
    (hD : PySem.W.clsIn K D = some cd) (op : PySem.W.nsIn K cStatics "thirdparty.any" = some none) (ms : mg "super" = none) (hp : ∃ ar : Arg, ((defArgs st).posonlyargs ++ (defArgs st).args).head? = some ar ∧ ar.arg = "self") (hks : (defScope st).names.lookup ("super" : Str) = some .globalImplicit)
    (b : ∀ (kV doc pm : Value) (an : Option Addr) (cdv ct : Value) (us : List Value), us.length = ps.length → bindArgs (PySem.W.fnX "__init__" q (defArgs st) (defBody st) (defScope st) [("__class__", cc)] .none kV doc pm an cdv ct) ⟨us, []⟩ = pure (ps.zip us)) : XInit P K mg q st ps D f :=
  ⟨_, ⟨⟨cc, cda, oc, kv, dc, pm, ct, od, an, sl, rfl, l, c, ⟨cl, cld, csl, hcc⟩, ⟨cl2, cld2, vs, csl2, file, tf, hcd, hvs, hfl⟩⟩, top, ms, ⟨cd, hD⟩, op, hp, hks⟩, Binds.all fun us hl => b kv dc pm an (.ref cda) ct us hl⟩
end
end Sh
set_option Elab.async false
set_option linter.all false
set_option maxRecDepth 100000
namespace Sh
open PySem PySem.Spec PyProof.Rows L2
theorem all_cls {K : PySem.W.Frag} {h : Heap} {mg : Str → Option Value} {CB : Addr}
    {f_Book___init__ : Addr} {od_Book___init__ an_Book___init__ : Option Addr} {sl_Book___init__ : Array (Option Value)} {oc_Book___init__ kv_Book___init__ dc_Book___init__ pm_Book___init__ cd_Book___init__ ct_Book___init__ : Value}
    (X : K.In h) (Y : h.Ns mainGlobals mg) (T0 : Txt K mg)
    (a_Book : PySem.W.nsIn K mainGlobals "Book" = some (some (.ref CB)))
    (pg_Book : PySem.W.plainGet K CB Str.empty = true) (hd_Book : PySem.W.hasDictIn K CB = true) (po_Book : PySem.W.plainOver K CB = true) (sa_Book : PySem.W.findIn K (.ref CB) "__setattr__" = some (some (.builtin "object.__setattr__")))
    (mk_Book : PySem.W.makesIn K CB = true) (kp_Book : PySem.W.keepIn K (.ref CB) = true)
    (m_Book___init__ : PySem.W.findIn K (.ref CB) "__init__" = some (some (.ref f_Book___init__))) (i_Book___init__ : PySem.W.isFn K (.ref f_Book___init__) = true) (o_Book___init__ : PySem.W.fnIn K f_Book___init__ = true)
    (l_Book___init__ : K.lookup f_Book___init__ = some ⟨oc_Book___init__, od_Book___init__, .func (PySem.W.fnOf "__init__" "Book.__init__" (defArgs s_Book___init__) (defBody s_Book___init__) (defScope s_Book___init__) .none kv_Book___init__ dc_Book___init__ pm_Book___init__ an_Book___init__ cd_Book___init__ ct_Book___init__), sl_Book___init__⟩)
    (c_Book___init__ : PySem.W.codeIn K cd_Book___init__ "Book.__init__" = true) (k_Book___init__ : PySem.W.keepIn K (.ref f_Book___init__) = true)
    (n_Book_signs : PySem.W.findIn K (.ref CB) "signs" = some none)
    (n_Book_rules : PySem.W.findIn K (.ref CB) "rules" = some none)
    (n_Book__lefts : PySem.W.findIn K (.ref CB) "_lefts" = some none)
    (n_Book__longest : PySem.W.findIn K (.ref CB) "_longest" = some none)
    (n_Book__quarrel : PySem.W.findIn K (.ref CB) "_quarrel" = some none)
    (n_Book__moves : PySem.W.findIn K (.ref CB) "_moves" = some none) :
    ∃ CB : Addr, TxtC K mg CB :=
  ⟨CB, { T0 with
    k_Book := ⟨⟨pg_Book, hd_Book, po_Book, sa_Book⟩, PySem.W.mg_of X Y a_Book, mk_Book, kp_Book⟩
    m_Book___init__ := meth_mk (ps := ["self", "signs", "rules"]) l_Book___init__ c_Book___init__ k_Book___init__ m_Book___init__ i_Book___init__ o_Book___init__ (fun _ _ _ _ _ _ us hl => match us, hl with | [_, _, _], _ => rfl)
    n_Book_signs := n_Book_signs
    n_Book_rules := n_Book_rules
    n_Book__lefts := n_Book__lefts
    n_Book__longest := n_Book__longest
    n_Book__quarrel := n_Book__quarrel
    n_Book__moves := n_Book__moves }⟩
theorem all_exc {P : Program} {K : PySem.W.Frag} {h : Heap} {mg : Str → Option Value} {CB XR FR DI XO FO XT FT DT SE : Addr}
    {N_BadRun : Addr} {nm_BadRun q_BadRun : Str} {bs_BadRun bm_BadRun : List Value} {sn_BadRun : List Str} {sub_BadRun : List Value} {ab_BadRun : Bool} {col_BadRun : Option Bool} {dd_BadRun : Option Addr} {k0_BadRun k1_BadRun k2_BadRun k3_BadRun k5_BadRun : Option Value}
    {cc_WrongItem ca_WrongItem : Addr} {oc_WrongItem kv_WrongItem dc_WrongItem pm_WrongItem ct_WrongItem cl_WrongItem cm_WrongItem : Value} {od_WrongItem an_WrongItem ce_WrongItem cf_WrongItem : Option Addr} {sl_WrongItem cs_WrongItem ct2_WrongItem : Array (Option Value)} {fv_WrongItem : Array Value} {fi_WrongItem : Str} {tf_WrongItem : Tok} {cd_WrongItem : ClassData}
    {N_NoStep : Addr} {nm_NoStep q_NoStep : Str} {bs_NoStep bm_NoStep : List Value} {sn_NoStep : List Str} {sub_NoStep : List Value} {ab_NoStep : Bool} {col_NoStep : Option Bool} {dd_NoStep : Option Addr} {k0_NoStep k1_NoStep k2_NoStep k3_NoStep k5_NoStep : Option Value}
    {cc_NoStep ca_NoStep : Addr} {oc_NoStep kv_NoStep dc_NoStep pm_NoStep ct_NoStep cl_NoStep cm_NoStep : Value} {od_NoStep an_NoStep ce_NoStep cf_NoStep : Option Addr} {sl_NoStep cs_NoStep ct2_NoStep : Array (Option Value)} {fv_NoStep : Array Value} {fi_NoStep : Str} {tf_NoStep : Tok} {cd_NoStep : ClassData}
    {N_BadText : Addr} {nm_BadText q_BadText : Str} {bs_BadText bm_BadText : List Value} {sn_BadText : List Str} {sub_BadText : List Value} {ab_BadText : Bool} {col_BadText : Option Bool} {dd_BadText : Option Addr} {k0_BadText k1_BadText k2_BadText k3_BadText k5_BadText : Option Value}
    {cc_WrongThing ca_WrongThing : Addr} {oc_WrongThing kv_WrongThing dc_WrongThing pm_WrongThing ct_WrongThing cl_WrongThing cm_WrongThing : Value} {od_WrongThing an_WrongThing ce_WrongThing cf_WrongThing : Option Addr} {sl_WrongThing cs_WrongThing ct2_WrongThing : Array (Option Value)} {fv_WrongThing : Array Value} {fi_WrongThing : Str} {tf_WrongThing : Tok} {cd_WrongThing : ClassData}
    (KX : K.In h) (G : h.Ns mainGlobals mg) (TC : TxtC K mg CB)
    (op : PySem.W.nsIn K cStatics "thirdparty.any" = some none)
    (a_BadRun : PySem.W.nsIn K mainGlobals "BadRun" = some (some (.ref XR)))
    (xl_BadRun : K.lookup XR = some (excClassObj nm_BadRun q_BadRun XR N_BadRun bs_BadRun bm_BadRun true sn_BadRun sub_BadRun ab_BadRun col_BadRun dd_BadRun k0_BadRun k1_BadRun k2_BadRun k3_BadRun k5_BadRun "ValueError.__new__"))
    (vb_BadRun : PySem.HandSPX.refsVE bm_BadRun = true)
    (sa_BadRun : PySem.W.findIn K (.ref XR) "__setattr__" = some (some (.builtin "object.__setattr__")))
    (ga_BadRun : PySem.W.findIn K (.ref XR) "__getattribute__" = some (some (.builtin "BaseException.__getattribute__")))
    (gg_BadRun : PySem.W.findIn K (.ref XR) "__getattr__" = some none)
    (ic_BadRun : PySem.W.findIn K (.ref XR) "__init__" = some (some (.ref FR)))
    (ti_BadRun : PySem.W.typeIn K (.ref FR) = some (.type "function"))
    (kc_BadRun : PySem.W.keepIn K (.ref XR) = true)
    (ex_BadRun : PySem.W.subIn K (.ref XR) (.type "BaseException") = some true)
    (ty_BadRun : PySem.W.typeIn K (.ref XR) = some (.type "type"))
    (hd_BadRun : PySem.W.hasDictIn K XR = true)
    (l_WrongItem : K.lookup FR = some ⟨oc_WrongItem, od_WrongItem, .func (PySem.W.fnX "__init__" "WrongItem.__init__" (defArgs s_WrongItem___init__) (defBody s_WrongItem___init__) (defScope s_WrongItem___init__) [("__class__", cc_WrongItem)] .none kv_WrongItem dc_WrongItem pm_WrongItem an_WrongItem (.ref ca_WrongItem) ct_WrongItem), sl_WrongItem⟩)
    (c_WrongItem : PySem.W.codeIn K (.ref ca_WrongItem) "WrongItem.__init__" = true)
    (cl1_WrongItem : K.lookup cc_WrongItem = some ⟨cl_WrongItem, ce_WrongItem, .cell (some (.ref DI)), cs_WrongItem⟩)
    (cl2_WrongItem : K.lookup ca_WrongItem = some ⟨cm_WrongItem, cf_WrongItem, .fields fv_WrongItem, ct2_WrongItem⟩)
    (fv1_WrongItem : fv_WrongItem[2]? = some (.str fi_WrongItem tf_WrongItem))
    (fl_WrongItem : ((P.main.file : Str) == fi_WrongItem) = true)
    (cD_WrongItem : PySem.W.clsIn K DI = some cd_WrongItem)
    (top : (P.main.scope.names.lookup ("super" : Str)).isSome = false)
    (su_BadRun : PySem.W.mroIn K XR (.ref DI) = some true)
    (sp_BadRun : PySem.W.ks_superIn K XR DI "__init__" = some (some (.builtin "ValueError.__init__")))
    (ve_BadRun : PySem.W.subIn K (.ref XR) (.type "ValueError") = some true)
    (nf_BadRun_place : PySem.W.findIn K (.ref XR) "place" = some none)
    (a_NoStep : PySem.W.nsIn K mainGlobals "NoStep" = some (some (.ref XO)))
    (xl_NoStep : K.lookup XO = some (excClassObj nm_NoStep q_NoStep XO N_NoStep bs_NoStep bm_NoStep true sn_NoStep sub_NoStep ab_NoStep col_NoStep dd_NoStep k0_NoStep k1_NoStep k2_NoStep k3_NoStep k5_NoStep "ValueError.__new__"))
    (vb_NoStep : PySem.HandSPX.refsVE bm_NoStep = true)
    (sa_NoStep : PySem.W.findIn K (.ref XO) "__setattr__" = some (some (.builtin "object.__setattr__")))
    (ga_NoStep : PySem.W.findIn K (.ref XO) "__getattribute__" = some (some (.builtin "BaseException.__getattribute__")))
    (gg_NoStep : PySem.W.findIn K (.ref XO) "__getattr__" = some none)
    (ic_NoStep : PySem.W.findIn K (.ref XO) "__init__" = some (some (.ref FO)))
    (ti_NoStep : PySem.W.typeIn K (.ref FO) = some (.type "function"))
    (kc_NoStep : PySem.W.keepIn K (.ref XO) = true)
    (ex_NoStep : PySem.W.subIn K (.ref XO) (.type "BaseException") = some true)
    (ty_NoStep : PySem.W.typeIn K (.ref XO) = some (.type "type"))
    (hd_NoStep : PySem.W.hasDictIn K XO = true)
    (l_NoStep : K.lookup FO = some ⟨oc_NoStep, od_NoStep, .func (PySem.W.fnX "__init__" "NoStep.__init__" (defArgs s_NoStep___init__) (defBody s_NoStep___init__) (defScope s_NoStep___init__) [("__class__", cc_NoStep)] .none kv_NoStep dc_NoStep pm_NoStep an_NoStep (.ref ca_NoStep) ct_NoStep), sl_NoStep⟩)
    (c_NoStep : PySem.W.codeIn K (.ref ca_NoStep) "NoStep.__init__" = true)
    (cl1_NoStep : K.lookup cc_NoStep = some ⟨cl_NoStep, ce_NoStep, .cell (some (.ref XO)), cs_NoStep⟩)
    (cl2_NoStep : K.lookup ca_NoStep = some ⟨cm_NoStep, cf_NoStep, .fields fv_NoStep, ct2_NoStep⟩)
    (fv1_NoStep : fv_NoStep[2]? = some (.str fi_NoStep tf_NoStep))
    (fl_NoStep : ((P.main.file : Str) == fi_NoStep) = true)
    (cD_NoStep : PySem.W.clsIn K XO = some cd_NoStep)
    (su_NoStep : PySem.W.mroIn K XO (.ref XO) = some true)
    (sp_NoStep : PySem.W.ks_superIn K XO XO "__init__" = some (some (.builtin "ValueError.__init__")))
    (ve_NoStep : PySem.W.subIn K (.ref XO) (.type "ValueError") = some true)
    (nf_NoStep_place : PySem.W.findIn K (.ref XO) "place" = some none)
    (nf_NoStep_number : PySem.W.findIn K (.ref XO) "number" = some none)
    (a_BadText : PySem.W.nsIn K mainGlobals "BadText" = some (some (.ref XT)))
    (xl_BadText : K.lookup XT = some (excClassObj nm_BadText q_BadText XT N_BadText bs_BadText bm_BadText true sn_BadText sub_BadText ab_BadText col_BadText dd_BadText k0_BadText k1_BadText k2_BadText k3_BadText k5_BadText "ValueError.__new__"))
    (vb_BadText : PySem.HandSPX.refsVE bm_BadText = true)
    (sa_BadText : PySem.W.findIn K (.ref XT) "__setattr__" = some (some (.builtin "object.__setattr__")))
    (ga_BadText : PySem.W.findIn K (.ref XT) "__getattribute__" = some (some (.builtin "BaseException.__getattribute__")))
    (gg_BadText : PySem.W.findIn K (.ref XT) "__getattr__" = some none)
    (ic_BadText : PySem.W.findIn K (.ref XT) "__init__" = some (some (.ref FT)))
    (ti_BadText : PySem.W.typeIn K (.ref FT) = some (.type "function"))
    (kc_BadText : PySem.W.keepIn K (.ref XT) = true)
    (ex_BadText : PySem.W.subIn K (.ref XT) (.type "BaseException") = some true)
    (ty_BadText : PySem.W.typeIn K (.ref XT) = some (.type "type"))
    (hd_BadText : PySem.W.hasDictIn K XT = true)
    (l_WrongThing : K.lookup FT = some ⟨oc_WrongThing, od_WrongThing, .func (PySem.W.fnX "__init__" "WrongThing.__init__" (defArgs s_WrongThing___init__) (defBody s_WrongThing___init__) (defScope s_WrongThing___init__) [("__class__", cc_WrongThing)] .none kv_WrongThing dc_WrongThing pm_WrongThing an_WrongThing (.ref ca_WrongThing) ct_WrongThing), sl_WrongThing⟩)
    (c_WrongThing : PySem.W.codeIn K (.ref ca_WrongThing) "WrongThing.__init__" = true)
    (cl1_WrongThing : K.lookup cc_WrongThing = some ⟨cl_WrongThing, ce_WrongThing, .cell (some (.ref DT)), cs_WrongThing⟩)
    (cl2_WrongThing : K.lookup ca_WrongThing = some ⟨cm_WrongThing, cf_WrongThing, .fields fv_WrongThing, ct2_WrongThing⟩)
    (fv1_WrongThing : fv_WrongThing[2]? = some (.str fi_WrongThing tf_WrongThing))
    (fl_WrongThing : ((P.main.file : Str) == fi_WrongThing) = true)
    (cD_WrongThing : PySem.W.clsIn K DT = some cd_WrongThing)
    (su_BadText : PySem.W.mroIn K XT (.ref DT) = some true)
    (sp_BadText : PySem.W.ks_superIn K XT DT "__init__" = some (some (.builtin "ValueError.__init__")))
    (ve_BadText : PySem.W.subIn K (.ref XT) (.type "ValueError") = some true)
    (nf_BadText_thing : PySem.W.findIn K (.ref XT) "thing" = some none)
    (h_BadRun_BadRun : PySem.W.subIn K (.ref XR) (.ref XR) = some true)
    (h_NoStep_NoStep : PySem.W.subIn K (.ref XO) (.ref XO) = some true)
    (h_BadText_BadText : PySem.W.subIn K (.ref XT) (.ref XT) = some true)
    (cg_ : PySem.W.specialIn K (.builtin "object.__class__") "__get__" = some (some (.builtin "getset_descriptor.__get__")))
    (ct_ : PySem.W.takesIn K (.builtin "object.__class__") = some true)
    (co_BadRun : PySem.W.findIn K (.ref XR) "__class__" = some (some (.builtin "object.__class__")))
    (cm_o_BadRun : PySem.W.mroIn K XR (.type "object") = some true)
    (ag_WrongItem : PySem.W.nsIn K mainGlobals "WrongItem" = some (some (.ref DI)))
    (hdb_WrongItem : PySem.W.hasDictIn K DI = true)
    (tyb_WrongItem : PySem.W.typeIn K (.ref DI) = some (.type "type"))
    (ag_ShrunkError : PySem.W.nsIn K mainGlobals "ShrunkError" = some (some (.ref SE)))
    (hdb_ShrunkError : PySem.W.hasDictIn K SE = true)
    (tyb_ShrunkError : PySem.W.typeIn K (.ref SE) = some (.type "type"))
    (sb_BadRun_WrongItem : PySem.W.subIn K (.ref XR) (.ref DI) = some true)
    (sb_BadRun_ShrunkError : PySem.W.subIn K (.ref XR) (.ref SE) = some true) :
    ∃ XR FR DI XO FO XT FT DT SE : Addr, TxtX P K mg CB XR FR DI XO FO XT FT DT SE :=
  ⟨XR, FR, DI, XO, FO, XT, FT, DT, SE, { TC with
    e_BadRun := exc_mk KX G a_BadRun xl_BadRun vb_BadRun sa_BadRun ga_BadRun gg_BadRun ic_BadRun ti_BadRun kc_BadRun ex_BadRun ty_BadRun hd_BadRun su_BadRun sp_BadRun ve_BadRun
    q_WrongItem := xinit_mk l_WrongItem c_WrongItem cl1_WrongItem cl2_WrongItem fv1_WrongItem fl_WrongItem top cD_WrongItem op TC.b_super ⟨_, rfl, rfl⟩ (by decide +kernel) (fun _ _ _ _ _ _ us hl => match us, hl with | [_, _], _ => rfl)
    nf_BadRun_place := nf_BadRun_place
    e_NoStep := exc_mk KX G a_NoStep xl_NoStep vb_NoStep sa_NoStep ga_NoStep gg_NoStep ic_NoStep ti_NoStep kc_NoStep ex_NoStep ty_NoStep hd_NoStep su_NoStep sp_NoStep ve_NoStep
    q_NoStep := xinit_mk l_NoStep c_NoStep cl1_NoStep cl2_NoStep fv1_NoStep fl_NoStep top cD_NoStep op TC.b_super ⟨_, rfl, rfl⟩ (by decide +kernel) (fun _ _ _ _ _ _ us hl => match us, hl with | [_, _, _], _ => rfl)
    nf_NoStep_place := nf_NoStep_place
    nf_NoStep_number := nf_NoStep_number
    e_BadText := exc_mk KX G a_BadText xl_BadText vb_BadText sa_BadText ga_BadText gg_BadText ic_BadText ti_BadText kc_BadText ex_BadText ty_BadText hd_BadText su_BadText sp_BadText ve_BadText
    q_WrongThing := xinit_mk l_WrongThing c_WrongThing cl1_WrongThing cl2_WrongThing fv1_WrongThing fl_WrongThing top cD_WrongThing op TC.b_super ⟨_, rfl, rfl⟩ (by decide +kernel) (fun _ _ _ _ _ _ us hl => match us, hl with | [_, _], _ => rfl)
    nf_BadText_thing := nf_BadText_thing
    mm_BadRun_BadRun := PySem.W.exm_ref ex_BadRun hd_BadRun ty_BadRun h_BadRun_BadRun
    mm_NoStep_NoStep := PySem.W.exm_ref ex_NoStep hd_NoStep ty_NoStep h_NoStep_NoStep
    mm_BadText_BadText := PySem.W.exm_ref ex_BadText hd_BadText ty_BadText h_BadText_BadText
    c_BadRun := ⟨ga_BadRun, gg_BadRun, ex_BadRun, hd_BadRun, co_BadRun, cg_, ct_, cm_o_BadRun⟩
    gc_WrongItem := PySem.W.mg_of KX G ag_WrongItem
    gc_ShrunkError := PySem.W.mg_of KX G ag_ShrunkError
    ko_BadRun_WrongItem := kit_true hdb_WrongItem tyb_WrongItem sb_BadRun_WrongItem
    ko_BadRun_ShrunkError := kit_true hdb_ShrunkError tyb_ShrunkError sb_BadRun_ShrunkError }⟩
end Sh
open PySem PySem.W PyProof.Rows
set_option maxRecDepth 100000 in
set_option maxHeartbeats 0 in
theorem PySem.Challenge.cw_shrunkalike_k05_steps_holds : PySem.Challenge.rw_shrunkalike_k05_steps.Holds := by
  w_on; o_law; k_head; (case hw => w_witness2)
  k_fill
  refine Sh.walk_law (l := PySem.Challenge.rw_shrunkalike_k05_steps) (n := 63) (k := 6) (x := "law") (p1 := "_law_script") (st := Sh.s_law) (N := ["_law_script", "_law_source_here", "_law_signs_here", "_law_rules", "_law_book", "_law_turn", "_law_draws", "_law_text_here", "_law_due", "_law_run", "_law_texts", "_law_near", "_law_pair", "_law_given", "_law_at", "_law_menu", "_law_odd", "_law_place_here", "_law_number", "raised", "_law_whole"]) rfl (by decide) rfl ⟨rfl, by decide, by decide⟩ Sh.sc_law (fun w h Y => PySem.W.kIn_of Y) ?F
  case F =>
    intro w mg fa h KX G hmg
    have b_len : mg "len" = none := by refine' PySem.W.mg_none_of KX G ?z; (case z => k_is)
    have b_range : mg "range" = none := by refine' PySem.W.mg_none_of KX G ?z; (case z => k_is)
    have b_min : mg "min" = none := by refine' PySem.W.mg_none_of KX G ?z; (case z => k_is)
    have b_max : mg "max" = none := by refine' PySem.W.mg_none_of KX G ?z; (case z => k_is)
    have b_any : mg "any" = none := by refine' PySem.W.mg_none_of KX G ?z; (case z => k_is)
    have b_isinstance : mg "isinstance" = none := by refine' PySem.W.mg_none_of KX G ?z; (case z => k_is)
    have b_abs : mg "abs" = none := by refine' PySem.W.mg_none_of KX G ?z; (case z => k_is)
    have b_int : mg "int" = none := by refine' PySem.W.mg_none_of KX G ?z; (case z => k_is)
    have b_str : mg "str" = none := by refine' PySem.W.mg_none_of KX G ?z; (case z => k_is)
    have b_bool : mg "bool" = none := by refine' PySem.W.mg_none_of KX G ?z; (case z => k_is)
    have b_tuple : mg "tuple" = none := by refine' PySem.W.mg_none_of KX G ?z; (case z => k_is)
    have b_list : mg "list" = none := by refine' PySem.W.mg_none_of KX G ?z; (case z => k_is)
    have b_repr : mg "repr" = none := by refine' PySem.W.mg_none_of KX G ?z; (case z => k_is)
    have b_iter : mg "iter" = none := by refine' PySem.W.mg_none_of KX G ?z; (case z => k_is)
    have b_super : mg "super" = none := by refine' PySem.W.mg_none_of KX G ?z; (case z => k_is)
    have g_LETTERS : ∃ u, mg "LETTERS" = some u ∧ L2.RelV (.str "abcdefghijklmnopqrstuvwxyz") u := by refine' Sh.con_mk KX G ?a ?r; (case a => k_is); (case r => exact ⟨_, rfl⟩)
    have g_LONGEST_TEXT : ∃ u, mg "LONGEST_TEXT" = some u ∧ L2.RelV (.int 200) u := by refine' Sh.con_mk KX G ?a ?r; (case a => k_is); (case r => exact ⟨_, rfl⟩)
    have g_MOST_STEPS : ∃ u, mg "MOST_STEPS" = some u ∧ L2.RelV (.int 400) u := by refine' Sh.con_mk KX G ?a ?r; (case a => k_is); (case r => exact ⟨_, rfl⟩)
    have g_MOST_RULES : ∃ u, mg "MOST_RULES" = some u ∧ L2.RelV (.int 64) u := by refine' Sh.con_mk KX G ?a ?r; (case a => k_is); (case r => exact ⟨_, rfl⟩)
    have g_LONGEST_LEFT : ∃ u, mg "LONGEST_LEFT" = some u ∧ L2.RelV (.int 4) u := by refine' Sh.con_mk KX G ?a ?r; (case a => k_is); (case r => exact ⟨_, rfl⟩)
    have d_is_integer : Sh.DefAt (L2.KOf KX) mg "is_integer" Sh.s_is_integer ["thing", "low", "high"] := by delta L2.KOf; refine' Sh.def_mk KX G ?a ?l ?c ?k ?b; (case a => k_is); (case l => k_is); (case c => k_is); (case k => k_is); (case b => exact fun _ _ _ _ _ _ us hl => match us, hl with | [_, _, _], _ => rfl)
    have d_is_listed : Sh.DefAt (L2.KOf KX) mg "is_listed" Sh.s_is_listed ["thing"] := by delta L2.KOf; refine' Sh.def_mk KX G ?a ?l ?c ?k ?b; (case a => k_is); (case l => k_is); (case c => k_is); (case k => k_is); (case b => exact fun _ _ _ _ _ _ us hl => match us, hl with | [_], _ => rfl)
    have d_is_signs : Sh.DefAt (L2.KOf KX) mg "is_signs" Sh.s_is_signs ["thing"] := by delta L2.KOf; refine' Sh.def_mk KX G ?a ?l ?c ?k ?b; (case a => k_is); (case l => k_is); (case c => k_is); (case k => k_is); (case b => exact fun _ _ _ _ _ _ us hl => match us, hl with | [_], _ => rfl)
    have d_check_signs : Sh.DefAt (L2.KOf KX) mg "check_signs" Sh.s_check_signs ["thing"] := by delta L2.KOf; refine' Sh.def_mk KX G ?a ?l ?c ?k ?b; (case a => k_is); (case l => k_is); (case c => k_is); (case k => k_is); (case b => exact fun _ _ _ _ _ _ us hl => match us, hl with | [_], _ => rfl)
    have d_is_text : Sh.DefAt (L2.KOf KX) mg "is_text" Sh.s_is_text ["signs", "thing", "low", "high"] := by delta L2.KOf; refine' Sh.def_mk KX G ?a ?l ?c ?k ?b; (case a => k_is); (case l => k_is); (case c => k_is); (case k => k_is); (case b => exact fun _ _ _ _ _ _ us hl => match us, hl with | [_, _, _, _], _ => rfl)
    have d_check_text : Sh.DefAt (L2.KOf KX) mg "check_text" Sh.s_check_text ["signs", "thing"] := by delta L2.KOf; refine' Sh.def_mk KX G ?a ?l ?c ?k ?b; (case a => k_is); (case l => k_is); (case c => k_is); (case k => k_is); (case b => exact fun _ _ _ _ _ _ us hl => match us, hl with | [_, _], _ => rfl)
    have d_text_key : Sh.DefAt (L2.KOf KX) mg "text_key" Sh.s_text_key ["text"] := by delta L2.KOf; refine' Sh.def_mk KX G ?a ?l ?c ?k ?b; (case a => k_is); (case l => k_is); (case c => k_is); (case k => k_is); (case b => exact fun _ _ _ _ _ _ us hl => match us, hl with | [_], _ => rfl)
    have d_first_rules : Sh.DefAt (L2.KOf KX) mg "first_rules" Sh.s_first_rules ["rules"] := by delta L2.KOf; refine' Sh.def_mk KX G ?a ?l ?c ?k ?b; (case a => k_is); (case l => k_is); (case c => k_is); (case k => k_is); (case b => exact fun _ _ _ _ _ _ us hl => match us, hl with | [_], _ => rfl)
    have d_longest_left : Sh.DefAt (L2.KOf KX) mg "longest_left" Sh.s_longest_left ["rules"] := by delta L2.KOf; refine' Sh.def_mk KX G ?a ?l ?c ?k ?b; (case a => k_is); (case l => k_is); (case c => k_is); (case k => k_is); (case b => exact fun _ _ _ _ _ _ us hl => match us, hl with | [_], _ => rfl)
    have d_used_at_end : Sh.DefAt (L2.KOf KX) mg "used_at_end" Sh.s_used_at_end ["lefts", "longest", "pile"] := by delta L2.KOf; refine' Sh.def_mk KX G ?a ?l ?c ?k ?b; (case a => k_is); (case l => k_is); (case c => k_is); (case k => k_is); (case b => exact fun _ _ _ _ _ _ us hl => match us, hl with | [_, _, _], _ => rfl)
    have d_left_over : Sh.DefAt (L2.KOf KX) mg "left_over" Sh.s_left_over ["lefts", "longest", "text"] := by delta L2.KOf; refine' Sh.def_mk KX G ?a ?l ?c ?k ?b; (case a => k_is); (case l => k_is); (case c => k_is); (case k => k_is); (case b => exact fun _ _ _ _ _ _ us hl => match us, hl with | [_, _, _], _ => rfl)
    have d_overlap_rows : Sh.DefAt (L2.KOf KX) mg "overlap_rows" Sh.s_overlap_rows ["rules"] := by delta L2.KOf; refine' Sh.def_mk KX G ?a ?l ?c ?k ?b; (case a => k_is); (case l => k_is); (case c => k_is); (case k => k_is); (case b => exact fun _ _ _ _ _ _ us hl => match us, hl with | [_], _ => rfl)
    have d_both_results : Sh.DefAt (L2.KOf KX) mg "both_results" Sh.s_both_results ["rules", "overlap"] := by delta L2.KOf; refine' Sh.def_mk KX G ?a ?l ?c ?k ?b; (case a => k_is); (case l => k_is); (case c => k_is); (case k => k_is); (case b => exact fun _ _ _ _ _ _ us hl => match us, hl with | [_, _], _ => rfl)
    have d_quarrel_of : Sh.DefAt (L2.KOf KX) mg "quarrel_of" Sh.s_quarrel_of ["rules", "lefts", "longest"] := by delta L2.KOf; refine' Sh.def_mk KX G ?a ?l ?c ?k ?b; (case a => k_is); (case l => k_is); (case c => k_is); (case k => k_is); (case b => exact fun _ _ _ _ _ _ us hl => match us, hl with | [_, _, _], _ => rfl)
    have d_end_moves : Sh.DefAt (L2.KOf KX) mg "end_moves" Sh.s_end_moves ["signs", "rules"] := by delta L2.KOf; refine' Sh.def_mk KX G ?a ?l ?c ?k ?b; (case a => k_is); (case l => k_is); (case c => k_is); (case k => k_is); (case b => exact fun _ _ _ _ _ _ us hl => match us, hl with | [_, _], _ => rfl)
    have d_kept_tail : Sh.DefAt (L2.KOf KX) mg "kept_tail" Sh.s_kept_tail ["lefts", "longest", "text"] := by delta L2.KOf; refine' Sh.def_mk KX G ?a ?l ?c ?k ?b; (case a => k_is); (case l => k_is); (case c => k_is); (case k => k_is); (case b => exact fun _ _ _ _ _ _ us hl => match us, hl with | [_, _, _], _ => rfl)
    have d_can_step : Sh.DefAt (L2.KOf KX) mg "can_step" Sh.s_can_step ["book", "text", "place", "number"] := by delta L2.KOf; refine' Sh.def_mk KX G ?a ?l ?c ?k ?b; (case a => k_is); (case l => k_is); (case c => k_is); (case k => k_is); (case b => exact fun _ _ _ _ _ _ us hl => match us, hl with | [_, _, _, _], _ => rfl)
    have d_made_step : Sh.DefAt (L2.KOf KX) mg "made_step" Sh.s_made_step ["book", "text", "place", "number"] := by delta L2.KOf; refine' Sh.def_mk KX G ?a ?l ?c ?k ?b; (case a => k_is); (case l => k_is); (case c => k_is); (case k => k_is); (case b => exact fun _ _ _ _ _ _ us hl => match us, hl with | [_, _, _, _], _ => rfl)
    have d_all_steps : Sh.DefAt (L2.KOf KX) mg "all_steps" Sh.s_all_steps ["book", "text"] := by delta L2.KOf; refine' Sh.def_mk KX G ?a ?l ?c ?k ?b; (case a => k_is); (case l => k_is); (case c => k_is); (case k => k_is); (case b => exact fun _ _ _ _ _ _ us hl => match us, hl with | [_, _], _ => rfl)
    have d_steps : Sh.DefAt (L2.KOf KX) mg "steps" Sh.s_steps ["book", "text"] := by delta L2.KOf; refine' Sh.def_mk KX G ?a ?l ?c ?k ?b; (case a => k_is); (case l => k_is); (case c => k_is); (case k => k_is); (case b => exact fun _ _ _ _ _ _ us hl => match us, hl with | [_, _], _ => rfl)
    have d_step : Sh.DefAt (L2.KOf KX) mg "step" Sh.s_step ["book", "text", "place", "number"] := by delta L2.KOf; refine' Sh.def_mk KX G ?a ?l ?c ?k ?b; (case a => k_is); (case l => k_is); (case c => k_is); (case k => k_is); (case b => exact fun _ _ _ _ _ _ us hl => match us, hl with | [_, _, _, _], _ => rfl)
    have d_played : Sh.DefAt (L2.KOf KX) mg "played" Sh.s_played ["book", "text", "run"] := by delta L2.KOf; refine' Sh.def_mk KX G ?a ?l ?c ?k ?b; (case a => k_is); (case l => k_is); (case c => k_is); (case k => k_is); (case b => exact fun _ _ _ _ _ _ us hl => match us, hl with | [_, _, _], _ => rfl)
    have d_is_rule : Sh.DefAt (L2.KOf KX) mg "is_rule" Sh.s_is_rule ["signs", "thing"] := by delta L2.KOf; refine' Sh.def_mk KX G ?a ?l ?c ?k ?b; (case a => k_is); (case l => k_is); (case c => k_is); (case k => k_is); (case b => exact fun _ _ _ _ _ _ us hl => match us, hl with | [_, _], _ => rfl)
    have d_checked_rules : Sh.DefAt (L2.KOf KX) mg "checked_rules" Sh.s_checked_rules ["signs", "thing"] := by delta L2.KOf; refine' Sh.def_mk KX G ?a ?l ?c ?k ?b; (case a => k_is); (case l => k_is); (case c => k_is); (case k => k_is); (case b => exact fun _ _ _ _ _ _ us hl => match us, hl with | [_, _], _ => rfl)
    have d__law_source : Sh.DefAt (L2.KOf KX) mg "_law_source" Sh.s__law_source ["_law_script", "_law_place_here"] := by delta L2.KOf; refine' Sh.def_mk KX G ?a ?l ?c ?k ?b; (case a => k_is); (case l => k_is); (case c => k_is); (case k => k_is); (case b => exact fun _ _ _ _ _ _ us hl => match us, hl with | [_, _], _ => rfl)
    have d__law_pick : Sh.DefAt (L2.KOf KX) mg "_law_pick" Sh.s__law_pick ["_law_source_here", "_law_many"] := by delta L2.KOf; refine' Sh.def_mk KX G ?a ?l ?c ?k ?b; (case a => k_is); (case l => k_is); (case c => k_is); (case k => k_is); (case b => exact fun _ _ _ _ _ _ us hl => match us, hl with | [_, _], _ => rfl)
    have d__law_signs : Sh.DefAt (L2.KOf KX) mg "_law_signs" Sh.s__law_signs ["_law_source_here"] := by delta L2.KOf; refine' Sh.def_mk KX G ?a ?l ?c ?k ?b; (case a => k_is); (case l => k_is); (case c => k_is); (case k => k_is); (case b => exact fun _ _ _ _ _ _ us hl => match us, hl with | [_], _ => rfl)
    have d__law_text : Sh.DefAt (L2.KOf KX) mg "_law_text" Sh.s__law_text ["_law_source_here", "_law_signs_here", "_law_most"] := by delta L2.KOf; refine' Sh.def_mk KX G ?a ?l ?c ?k ?b; (case a => k_is); (case l => k_is); (case c => k_is); (case k => k_is); (case b => exact fun _ _ _ _ _ _ us hl => match us, hl with | [_, _, _], _ => rfl)
    have d__law_rule : Sh.DefAt (L2.KOf KX) mg "_law_rule" Sh.s__law_rule ["_law_source_here", "_law_signs_here", "_law_longest"] := by delta L2.KOf; refine' Sh.def_mk KX G ?a ?l ?c ?k ?b; (case a => k_is); (case l => k_is); (case c => k_is); (case k => k_is); (case b => exact fun _ _ _ _ _ _ us hl => match us, hl with | [_, _, _], _ => rfl)
    have d__law_steps : Sh.DefAt (L2.KOf KX) mg "_law_steps" Sh.s__law_steps ["_law_rules", "_law_text_here"] := by delta L2.KOf; refine' Sh.def_mk KX G ?a ?l ?c ?k ?b; (case a => k_is); (case l => k_is); (case c => k_is); (case k => k_is); (case b => exact fun _ _ _ _ _ _ us hl => match us, hl with | [_, _], _ => rfl)
    have d__law_step : Sh.DefAt (L2.KOf KX) mg "_law_step" Sh.s__law_step ["_law_rules", "_law_text_here", "_law_pair"] := by delta L2.KOf; refine' Sh.def_mk KX G ?a ?l ?c ?k ?b; (case a => k_is); (case l => k_is); (case c => k_is); (case k => k_is); (case b => exact fun _ _ _ _ _ _ us hl => match us, hl with | [_, _, _], _ => rfl)
    have d__law_drawn : Sh.DefAt (L2.KOf KX) mg "_law_drawn" Sh.s__law_drawn ["_law_source_here", "_law_signs_here"] := by delta L2.KOf; refine' Sh.def_mk KX G ?a ?l ?c ?k ?b; (case a => k_is); (case l => k_is); (case c => k_is); (case k => k_is); (case b => exact fun _ _ _ _ _ _ us hl => match us, hl with | [_, _], _ => rfl)
    have d__law_place : Sh.DefAt (L2.KOf KX) mg "_law_place" Sh.s__law_place ["_law_book", "_law_text_here", "_law_run"] := by delta L2.KOf; refine' Sh.def_mk KX G ?a ?l ?c ?k ?b; (case a => k_is); (case l => k_is); (case c => k_is); (case k => k_is); (case b => exact fun _ _ _ _ _ _ us hl => match us, hl with | [_, _, _], _ => rfl)
    have T0 : Sh.Txt (L2.KOf KX) mg := ⟨b_len, b_range, b_min, b_max, b_any, b_isinstance, b_abs, b_int, b_str, b_bool, b_tuple, b_list, b_repr, b_iter, b_super, g_LETTERS, g_LONGEST_TEXT, g_MOST_STEPS, g_MOST_RULES, g_LONGEST_LEFT, d_is_integer, d_is_listed, d_is_signs, d_check_signs, d_is_text, d_check_text, d_text_key, d_first_rules, d_longest_left, d_used_at_end, d_left_over, d_overlap_rows, d_both_results, d_quarrel_of, d_end_moves, d_kept_tail, d_can_step, d_made_step, d_all_steps, d_steps, d_step, d_played, d_is_rule, d_checked_rules, d__law_source, d__law_pick, d__law_signs, d__law_text, d__law_rule, d__law_steps, d__law_step, d__law_drawn, d__law_place⟩
    obtain ⟨CB, T⟩ : ∃ CB : Addr, Sh.TxtC (L2.KOf KX) mg CB := by
      delta L2.KOf at T0 ⊢; refine' Sh.all_cls KX G T0 ?a_Book ?pg_Book ?hd_Book ?po_Book ?sa_Book ?mk_Book ?kp_Book ?m_Book___init__ ?i_Book___init__ ?o_Book___init__ ?l_Book___init__ ?c_Book___init__ ?k_Book___init__ ?n_Book_signs ?n_Book_rules ?n_Book__lefts ?n_Book__longest ?n_Book__quarrel ?n_Book__moves
      (case a_Book => k_is)
      (case pg_Book => k_is)
      (case hd_Book => k_is)
      (case po_Book => k_is)
      (case sa_Book => k_is)
      (case mk_Book => k_is)
      (case kp_Book => k_is)
      (case m_Book___init__ => k_is)
      (case i_Book___init__ => k_is)
      (case o_Book___init__ => k_is)
      (case l_Book___init__ => k_is)
      (case c_Book___init__ => k_is)
      (case k_Book___init__ => k_is)
      (case n_Book_signs => k_is)
      (case n_Book_rules => k_is)
      (case n_Book__lefts => k_is)
      (case n_Book__longest => k_is)
      (case n_Book__quarrel => k_is)
      (case n_Book__moves => k_is)
    obtain ⟨XR, FR, DI, XO, FO, XT, FT, DT, SE, T⟩ : ∃ XR FR DI XO FO XT FT DT SE : Addr, Sh.TxtX (PySem.Challenge.rw_shrunkalike_k05_steps).prog (L2.KOf KX) mg CB XR FR DI XO FO XT FT DT SE := by
      delta L2.KOf at T ⊢; refine' Sh.all_exc KX G T ?op ?a_BadRun ?xl_BadRun ?vb_BadRun ?sa_BadRun ?ga_BadRun ?gg_BadRun ?ic_BadRun ?ti_BadRun ?kc_BadRun ?ex_BadRun ?ty_BadRun ?hd_BadRun ?l_WrongItem ?c_WrongItem ?cl1_WrongItem ?cl2_WrongItem ?fv1_WrongItem ?fl_WrongItem ?cD_WrongItem ?top ?su_BadRun ?sp_BadRun ?ve_BadRun ?nf_BadRun_place ?a_NoStep ?xl_NoStep ?vb_NoStep ?sa_NoStep ?ga_NoStep ?gg_NoStep ?ic_NoStep ?ti_NoStep ?kc_NoStep ?ex_NoStep ?ty_NoStep ?hd_NoStep ?l_NoStep ?c_NoStep ?cl1_NoStep ?cl2_NoStep ?fv1_NoStep ?fl_NoStep ?cD_NoStep ?su_NoStep ?sp_NoStep ?ve_NoStep ?nf_NoStep_place ?nf_NoStep_number ?a_BadText ?xl_BadText ?vb_BadText ?sa_BadText ?ga_BadText ?gg_BadText ?ic_BadText ?ti_BadText ?kc_BadText ?ex_BadText ?ty_BadText ?hd_BadText ?l_WrongThing ?c_WrongThing ?cl1_WrongThing ?cl2_WrongThing ?fv1_WrongThing ?fl_WrongThing ?cD_WrongThing ?su_BadText ?sp_BadText ?ve_BadText ?nf_BadText_thing ?h_BadRun_BadRun ?h_NoStep_NoStep ?h_BadText_BadText ?cg_ ?ct_ ?co_BadRun ?cm_o_BadRun ?ag_WrongItem ?hdb_WrongItem ?tyb_WrongItem ?ag_ShrunkError ?hdb_ShrunkError ?tyb_ShrunkError ?sb_BadRun_WrongItem ?sb_BadRun_ShrunkError
      (case op => k_is)
      (case a_BadRun => k_is)
      (case xl_BadRun => k_is)
      (case vb_BadRun => first | rfl | decide +kernel)
      (case sa_BadRun => k_is)
      (case ga_BadRun => k_is)
      (case gg_BadRun => k_is)
      (case ic_BadRun => k_is)
      (case ti_BadRun => k_is)
      (case kc_BadRun => k_is)
      (case ex_BadRun => k_is)
      (case ty_BadRun => k_is)
      (case hd_BadRun => k_is)
      (case l_WrongItem => k_is)
      (case c_WrongItem => k_is)
      (case cl1_WrongItem => k_is)
      (case cl2_WrongItem => k_is)
      (case fv1_WrongItem => rfl)
      (case fl_WrongItem => first | rfl | decide +kernel)
      (case cD_WrongItem => k_is)
      (case top => first | rfl | decide +kernel)
      (case su_BadRun => k_is)
      (case sp_BadRun => ks_is)
      (case ve_BadRun => k_is)
      (case nf_BadRun_place => k_is)
      (case a_NoStep => k_is)
      (case xl_NoStep => k_is)
      (case vb_NoStep => first | rfl | decide +kernel)
      (case sa_NoStep => k_is)
      (case ga_NoStep => k_is)
      (case gg_NoStep => k_is)
      (case ic_NoStep => k_is)
      (case ti_NoStep => k_is)
      (case kc_NoStep => k_is)
      (case ex_NoStep => k_is)
      (case ty_NoStep => k_is)
      (case hd_NoStep => k_is)
      (case l_NoStep => k_is)
      (case c_NoStep => k_is)
      (case cl1_NoStep => k_is)
      (case cl2_NoStep => k_is)
      (case fv1_NoStep => rfl)
      (case fl_NoStep => first | rfl | decide +kernel)
      (case cD_NoStep => k_is)
      (case su_NoStep => k_is)
      (case sp_NoStep => ks_is)
      (case ve_NoStep => k_is)
      (case nf_NoStep_place => k_is)
      (case nf_NoStep_number => k_is)
      (case a_BadText => k_is)
      (case xl_BadText => k_is)
      (case vb_BadText => first | rfl | decide +kernel)
      (case sa_BadText => k_is)
      (case ga_BadText => k_is)
      (case gg_BadText => k_is)
      (case ic_BadText => k_is)
      (case ti_BadText => k_is)
      (case kc_BadText => k_is)
      (case ex_BadText => k_is)
      (case ty_BadText => k_is)
      (case hd_BadText => k_is)
      (case l_WrongThing => k_is)
      (case c_WrongThing => k_is)
      (case cl1_WrongThing => k_is)
      (case cl2_WrongThing => k_is)
      (case fv1_WrongThing => rfl)
      (case fl_WrongThing => first | rfl | decide +kernel)
      (case cD_WrongThing => k_is)
      (case su_BadText => k_is)
      (case sp_BadText => ks_is)
      (case ve_BadText => k_is)
      (case nf_BadText_thing => k_is)
      (case h_BadRun_BadRun => first | rfl | k_is)
      (case h_NoStep_NoStep => first | rfl | k_is)
      (case h_BadText_BadText => first | rfl | k_is)
      (case cg_ => k_is)
      (case ct_ => k_is)
      (case co_BadRun => k_is)
      (case cm_o_BadRun => k_is)
      (case ag_WrongItem => k_is)
      (case hdb_WrongItem => k_is)
      (case tyb_WrongItem => k_is)
      (case ag_ShrunkError => k_is)
      (case hdb_ShrunkError => k_is)
      (case tyb_ShrunkError => k_is)
      (case sb_BadRun_WrongItem => first | rfl | k_is)
      (case sb_BadRun_ShrunkError => first | rfl | k_is)
    obtain ⟨fd, Fn, bi⟩ : ∃ fd : FuncData, L2.Fun (L2.KOf KX) "law" "law" Sh.s_law fa fd ∧ ∀ (s : Shared) (u : Value), BindsTo s fd ⟨[u], []⟩ [("_law_script", u)] := by
      delta L2.KOf; refine' Sh.law_mk KX G hmg ?a ?l ?c ?k ?b; (case a => k_is); (case l => k_is); (case c => k_is); (case k => k_is); (case b => exact fun _ _ _ _ _ _ s u => .of_eq rfl)
    exact ⟨fd, Fn, bi, fun s1 a zs base H cdv hl hb hr hS => Sh.law_body T fa cdv callerA [] s1 H _ hr rfl a zs hS hb hl⟩
#print axioms PySem.Challenge.cw_shrunkalike_k05_steps_holds
