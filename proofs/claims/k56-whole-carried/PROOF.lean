import PyProof.Rows.All
import Wide.All
import OpenK.AllK
import Wide.FinOn
import HandS.ForMost
import HandS.Codes
import HandS.IsInst
import HandS.TupLe
import HandS.TupAny
import HandS.Deep
import HandS.Wide
import HandS.WideBits
import HandS.WideMore
import HandS.EndBits
import HandS.Star
import HandS.StrMore
import HandS.Walk
import PySem.Challenge.RW_shrunkalike_k56_whole_carried
import PyProof.ReprRoads
import PyProof.Rows.Range3
import HandS.SortKw
import HandS.Keys
import HandS.Conv
import KE.LtData
import HandS.Property
import HandS.DictComp
import PyProof.P3In
import KE.KRevSl
import HandS.Style
import HandS.Text
import KE.KExcSuper
import HandS.ExcInit
import HandS.Nested
import HandS.WordsExc
import HandS.ExcField
import HandS.RaiseMore
import HandS.TryMany
import HandS.ExcIs
import KE.KExcIs
import PyProof.StrBlock2
import PyProof.ReprLen
import HandS.Flow
import PyProof.StrLawsIn
set_option Elab.async false
set_option linter.all false
set_option maxRecDepth 100000
/-! My base over the hand layer: callables, heaps but for one object, the law's source of draws, the lacking rules -/
namespace Sh
open PySem PySem.Spec PyProof.Rows L2
open SX (S S_inj S_len S_cat)

/-- all that was tracked is as it was, but for the object at a -/
def But (a : Addr) (H H' : Hp) : Prop := ∀ b o, b ≠ a → H b = some o → H' b = some o
theorem But.refl (a : Addr) (H : Hp) : But a H H := fun _ _ _ h => h
theorem But.trans {a : Addr} {H H1 H2 : Hp} (x : But a H H1) (y : But a H1 H2) : But a H H2 := fun b o n h => y b o n (x b o n h)
theorem But.same {a : Addr} {H H1 : Hp} (x : Same H H1) : But a H H1 := fun b o _ h => x b o h
theorem same_new {H : Hp} {p : Addr} {o : HO} (h : H p = none) : Same H (upd H p o) := fun b u e => by
  rw [upd_ne (ne_of_none e h)]
  exact e
theorem but_upd {H : Hp} {p : Addr} {o : HO} : But p H (upd H p o) := fun b u n e => by
  rw [upd_ne n]
  exact e
/-- a fresh object may change -/
theorem same_mut {H H1 : Hp} {p : Addr} {o : HO} (s : Same H H1) (h : H p = none) : Same H (upd H1 p o) := fun b u e => by
  rw [upd_ne (ne_of_none e h)]
  exact s b u e
theorem but_mut {a : Addr} {H H1 : Hp} {p : Addr} {o : HO} (s : But a H H1) (h : H p = none) : But a H (upd H1 p o) := fun b u n e => by
  rw [upd_ne (ne_of_none e h)]
  exact s b u n e
theorem But.none_of {a : Addr} {H H1 : Hp} (s : But a H H1) {p : Addr} (n : p ≠ a) (h : H1 p = none) : H p = none := by
  cases e : H p with
  | none => rfl
  | some o => rw [s p o n e] at h; cases h

/-- the law's source of draws: a list of three ints -/
def Src (H : Hp) (a : Addr) : Prop := ∃ d s c : Int, H a = some (.lst [.int d, .int s, .int c])

/-- a def that may be called by its name -/
structure Cal (P : Program) (w : World) (K : PySem.W.Frag) (mg : Str → Option Value) (base : Heap) (CX : CXT) (k : Nat) (x : Str) (sp : Sp) : Prop where
  ex : ∃ (f : Addr) (fd : FuncData) (ps : List Str), FnOk P w K mg base CX k f fd ps sp ∧ mg x = some (.ref f) ∧ PySem.W.keepIn K (.ref f) = true ∧ Binds K fd ps []
/-- a def of the text under its name, its parameters bound by place -/
structure DefAt (K : PySem.W.Frag) (mg : Str → Option Value) (x : Str) (st : Stmt) (ps : List Str) : Prop where
  ex : ∃ (f : Addr) (fd : FuncData), L2.Fun K x x st f fd ∧ mg x = some (.ref f) ∧ Binds K fd ps []
section
variable {P : Program} {w : World} {K : PySem.W.Frag} {mg : Str → Option Value} {base : Heap}
theorem Cal.mk0 {x : Str} {st : Stmt} {N ps : List Str} {k : Nat} {sp : Sp} (D : DefAt K mg x st ps) (S : FnScope N ps (defScope st)) (len : ∀ vs H Q E, sp vs H Q E → vs.length = ps.length)
    (hbody : ∀ (f : Addr) (cdv : Value) (A : Around) (outer : List Env) (s : Shared) (H : Hp) (vs : List V) (Q : VK) (E : XK), Room k (A.deeper (envOfC x (defScope st) s.heap.objs.size f cdv)) → sp vs H Q E →
      ∃ t, PSs (cxOf CX0 P w K mg base N x (defScope st) f cdv A outer s H E).nox (defBody st) t ∧ t { nx := fun _ H' => Q .non H', rt := Q } (start N vs) H) : Cal P w K mg base CX0 (k + 1) x sp := by
  obtain ⟨f, fd, F, m, b⟩ := D.ex
  exact ⟨f, fd, ps, F.ok S len (hbody f), m, F.kp, b⟩
end
section
variable {X : Cx} {k j : Nat} {x : Str} {sp : Sp} {p pos : Pos} {e : Expr} {es : List Expr} {t : TA}
theorem pe_c (c : Cal X.prog X.w X.K X.mg X.base CX0 k x sp) (hr : Room j X.A) (hk : k ≤ j) (hg : Gl X x) (ha : PA X (e :: es) t)
    (hdb : (x == ("__debug__" : Str)) = false := by decide) (he : starEach (e :: es) X.env = (false, eval e X.env) :: starEach es X.env := by rfl) (hpl : (backTo pos (starEach es X.env)).any (·.1) = false := by rfl) :
    PE X (.Call (.Name x p) (e :: es) [] pos) (tCall sp [] E0 t) := by
  obtain ⟨f, fd, ps, F, hm, kp, b⟩ := c.ex
  exact pe_call F (hr.mono hk) hg hm kp b .nil pass0 ha hdb he hpl
end

/-! ### walks by what has been taken -/
section
variable {J : It} {G : Hp → Prop} {Y : Nat → Hp → V → Hp → Prop} {α : Type}
theorem take_succ_of {l : List α} {i : Nat} {a : α} (h : l[i]? = some a) : l.take (i + 1) = l.take i ++ [a] ∧ l = l.take i ++ a :: l.drop (i + 1) := by
  obtain ⟨hi, rfl⟩ := List.getElem?_eq_some_iff.mp h
  refine ⟨?_, ?_⟩
  · rw [List.take_succ, h]; rfl
  · rw [← List.drop_eq_getElem_cons hi, List.take_append_drop]
/-- a for over l: Pv by the part that was taken -/
theorem for_pre {l : List α} (w : Walk J l.length G Y) (Rel : α → V → Hp → Prop) (hY : ∀ i H x H', i < l.length → G H → Y i H x H' → H' = H ∧ ∃ a, l[i]? = some a ∧ Rel a x H) {g : TG} {tb : TS} {D : Ends} {σ : L2.St} {H : Hp}
    (Pv : List α → L2.St → Hp → Prop) (h0 : Pv [] σ H) (hG : ∀ pre σ H, Pv pre σ H → G H)
    (hs : ∀ pre a post x σ H, l = pre ++ a :: post → Rel a x H → Pv pre σ H → g x σ H fun σ2 H2 => tb { D with nx := Pv (pre ++ [a]), ct := Pv (pre ++ [a]), bk := D.nx } σ2 H2) (hd : ∀ σ H, Pv l σ H → D.nx σ H) :
    ∃ W : Nat → Nat → L2.St → Hp → Prop, (∃ m, W 0 m σ H) ∧ ∀ i m σ H, W i m σ H →
      (J.stop i H ∧ D.nx σ H) ∨ (J.go i H ∧ ∃ N : L2.St → Hp → Prop, (∀ σ' H', N σ' H' → ∃ m', m' < m ∧ W (i + 1) m' σ' H') ∧ ∀ x H', J.yld i H x H' → g x σ H' fun σ2 H2 => tb { D with nx := N, ct := N, bk := D.nx } σ2 H2) := by
  refine for_it w (fun i σ H => Pv (l.take i) σ H) (by simpa using h0) (fun i σ H _ p => hG _ σ H p) (fun i x σ H H' hi p y => ?_) (fun σ H p => hd σ H (by simpa using p))
  obtain ⟨rfl, a, ha, r⟩ := hY i H x H' hi (hG _ _ _ p) y
  obtain ⟨e1, e2⟩ := take_succ_of ha
  have q := hs _ a _ x σ H' e2 r p
  rw [← e1] at q
  exact q
/-- a comprehension over l -/
theorem lc_pre {l : List α} (w : Walk J l.length G Y) (Rel : α → V → Hp → Prop) (hY : ∀ i H x H', i < l.length → G H → Y i H x H' → H' = H ∧ ∃ a, l[i]? = some a ∧ Rel a x H) {g : TG} {tt : TT} {te : TE} {vs : List Nat} {σ : L2.St} {H1 : Hp} {D : Addr} {Qd : Hp → Prop}
    (Pv : List α → Hp → Prop) (h0 : Pv [] (upd H1 D (.lst []))) (hG : ∀ pre H, Pv pre H → G H)
    (hs : ∀ pre a post x H, l = pre ++ a :: post → Rel a x H → Pv pre H → g x (wipe σ vs) H fun σ2 H2 => wipe σ2 vs = wipe σ vs ∧ tt σ2 H2 fun b H3 =>
      if b = true then te σ2 H3 fun y H4 => ∃ acc, H4 D = some (.lst acc) ∧ acc.length < sizeLine ∧ Pv (pre ++ [a]) (upd H4 D (.lst (acc ++ [y]))) else Pv (pre ++ [a]) H3) (hd : ∀ H, Pv l H → Qd H) :
    ∃ W : Nat → Nat → Hp → Prop, (∃ m, W 0 m (upd H1 D (.lst []))) ∧ ∀ i m H, W i m H →
      (J.stop i H ∧ Qd H) ∨ (J.go i H ∧ ∃ Nx : Hp → Prop, (∀ H', Nx H' → ∃ m', m' < m ∧ W (i + 1) m' H') ∧ ∀ x H', J.yld i H x H' → g x (wipe σ vs) H' fun σ2 H2 => wipe σ2 vs = wipe σ vs ∧ tt σ2 H2 fun b H3 =>
        if b = true then te σ2 H3 fun y H4 => ∃ acc, H4 D = some (.lst acc) ∧ acc.length < sizeLine ∧ Nx (upd H4 D (.lst (acc ++ [y]))) else Nx H3) := by
  refine lc_it w (fun i H => Pv (l.take i) H) (by simpa using h0) (fun i H _ p => hG _ H p) (fun i x H H' hi p y => ?_) (fun H p => hd H (by simpa using p))
  obtain ⟨rfl, a, ha, r⟩ := hY i H x H' hi (hG _ _ p) y
  obtain ⟨e1, e2⟩ := take_succ_of ha
  have q := hs _ a _ x H' e2 r p
  rw [← e1] at q
  exact q
theorem yStr {l : List Nat} : ∀ (i : Nat) (H : Hp) (x : V) (H' : Hp), i < l.length → True → (H' = H ∧ ∃ c, (S l).cps[i]? = some c ∧ x = V.str ⟨#[c]⟩) → H' = H ∧ ∃ a, l[i]? = some a ∧ x = V.str (S [a]) := by
  rintro i H x H' _ _ ⟨rfl, c, hc, rfl⟩
  exact ⟨rfl, c, by simpa using hc, rfl⟩
theorem wStr {l : List Nat} : Walk (Its (S l)) l.length (fun _ => True) (fun i H v H' => H' = H ∧ ∃ c, (S l).cps[i]? = some c ∧ v = .str ⟨#[c]⟩) := by
  have h := walk_str (z := S l)
  simpa using h
end
/-! ### data of None, bools, ints, texts and tuples -/
mutual
inductive Tp (K : PySem.W.Frag) (H : Hp) : V → PyData → Prop
  | non : Tp K H .non .none
  | bl (b : Bool) : Tp K H (.bl b) (.bool b)
  | int (i : Int) : Tp K H (.int i) (.int i)
  | str (x : Str) : Tp K H (.str x) (.str x)
  | tup {a : Addr} {xs : List V} {ds : List PyData} : SqT K H a xs → TpAll K H xs ds → Tp K H (.ref a) (.tuple ds)
inductive TpAll (K : PySem.W.Frag) (H : Hp) : List V → List PyData → Prop
  | nil : TpAll K H [] []
  | cons {v : V} {vs : List V} {d : PyData} {ds : List PyData} : Tp K H v d → TpAll K H vs ds → TpAll K H (v :: vs) (d :: ds)
end
/-- what was a tuple is one -/
def Keep (H H' : Hp) : Prop := ∀ b xs, Rd H b (.tup xs) → Rd H' b (.tup xs)
theorem Keep.refl (H : Hp) : Keep H H := fun _ _ h => h
theorem Keep.trans {H H1 H2 : Hp} (a : Keep H H1) (b : Keep H1 H2) : Keep H H2 := fun x y h => b x y (a x y h)
theorem Keep.same {H H' : Hp} (s : Same H H') : Keep H H' := fun b xs h => by
  rcases h with h | ⟨o, h⟩
  · exact .inl (s _ _ h)
  · exact .inr ⟨o, s _ _ h⟩
theorem Keep.but {H H' : Hp} {a : Addr} (s : But a H H') (z : Src H a) : Keep H H' := fun b xs h => by
  obtain ⟨d, e, c, z⟩ := z
  rcases h with h | ⟨o, h⟩
  · exact .inl (s _ _ (ne_of h z (by intro q; cases q)) h)
  · exact .inr ⟨o, s _ _ (ne_of h z (by intro q; cases q)) h⟩
theorem Keep.butL {H H' : Hp} {a : Addr} {ys : List V} (s : But a H H') (z : H a = some (.lst ys)) : Keep H H' := fun b xs h => by
  rcases h with h | ⟨o, h⟩
  · exact .inl (s _ _ (ne_of h z (by intro q; cases q)) h)
  · exact .inr ⟨o, s _ _ (ne_of h z (by intro q; cases q)) h⟩
theorem Keep.seq {K : PySem.W.Frag} {H H' : Hp} {a : Addr} {xs : List V} (k : Keep H H') (h : SqT K H a xs) : SqT K H' a xs := by
  rcases h with h | h
  · exact .inl (k _ _ h)
  · exact .inr h
mutual
theorem Tp.keep {K : PySem.W.Frag} {H H' : Hp} (k : Keep H H') : ∀ {v : V} {d : PyData}, Tp K H v d → Tp K H' v d
  | _, _, .non => .non
  | _, _, .bl b => .bl b
  | _, _, .int i => .int i
  | _, _, .str x => .str x
  | _, _, .tup h t => .tup (k.seq h) (TpAll.keep k t)
theorem TpAll.keep {K : PySem.W.Frag} {H H' : Hp} (k : Keep H H') : ∀ {vs : List V} {ds : List PyData}, TpAll K H vs ds → TpAll K H' vs ds
  | _, _, .nil => .nil
  | _, _, .cons h t => .cons (Tp.keep k h) (TpAll.keep k t)
end
mutual
theorem Tp.dp {K : PySem.W.Frag} {H : Hp} : ∀ {v : V} {d : PyData}, Tp K H v d → Dp K H v d
  | _, _, .non => .non
  | _, _, .bl b => .bl b
  | _, _, .int i => .int i
  | _, _, .str x => .str x
  | _, _, .tup h t => .tup h (TpAll.dp t)
theorem TpAll.dp {K : PySem.W.Frag} {H : Hp} : ∀ {vs : List V} {ds : List PyData}, TpAll K H vs ds → DpAll K H vs ds
  | _, _, .nil => .nil
  | _, _, .cons h t => .cons (Tp.dp h) (TpAll.dp t)
end
section
variable {K : PySem.W.Frag} {H : Hp} {v : V} {d : PyData} {vs ws : List V} {ds es : List PyData}
theorem Tp.inv (h : Tp K H v (.tuple ds)) : ∃ a xs, v = .ref a ∧ SqT K H a xs ∧ TpAll K H xs ds := by
  cases h with
  | tup h t => exact ⟨_, _, rfl, h, t⟩
theorem TpAll.len : ∀ {vs : List V} {ds : List PyData}, TpAll K H vs ds → vs.length = ds.length
  | _, _, .nil => rfl
  | _, _, .cons _ t => congrArg (· + 1) (TpAll.len t)
theorem TpAll.get : ∀ {vs : List V} {ds : List PyData}, TpAll K H vs ds → ∀ {i : Nat} {d : PyData}, ds[i]? = some d → ∃ v, vs[i]? = some v ∧ Tp K H v d
  | _, _, .nil, _, _, e => by simp at e
  | _, _, .cons h _, 0, _, e => by simp at e; subst e; exact ⟨_, rfl, h⟩
  | _, _, .cons _ t, i + 1, d, e => by
    obtain ⟨v, h1, h2⟩ := TpAll.get t (i := i) (d := d) (by simpa using e)
    exact ⟨v, by simpa using h1, h2⟩
theorem TpAll.getV : ∀ {vs : List V} {ds : List PyData}, TpAll K H vs ds → ∀ {i : Nat} {v : V}, vs[i]? = some v → ∃ d, ds[i]? = some d ∧ Tp K H v d
  | _, _, .nil, _, _, e => by simp at e
  | _, _, .cons h _, 0, _, e => by simp at e; subst e; exact ⟨_, rfl, h⟩
  | _, _, .cons _ t, i + 1, v, e => by
    obtain ⟨d, h1, h2⟩ := TpAll.getV t (i := i) (v := v) (by simpa using e)
    exact ⟨d, by simpa using h1, h2⟩
theorem TpAll.app (h : TpAll K H vs ds) (k : TpAll K H ws es) : TpAll K H (vs ++ ws) (ds ++ es) := by
  induction h using TpAll.rec (motive_1 := fun _ _ _ => True) with
  | nil => exact k
  | cons a _ _ ih => exact .cons a ih
  | _ => trivial
end
end Sh
namespace Sh
open PySem PySem.Spec PyProof.Rows L2
theorem pe_gK {X : Cx} {x : Str} {pos : Pos} {v : V} (hg : Gl X x) (h : ∃ u, X.mg x = some u ∧ RelV v u) (hd : (x == ("__debug__" : Str)) = false := by decide) : PE X (.Name x pos) (tC v) := by
  obtain ⟨u, hu, r⟩ := h
  exact pe_glob hg hu r hd
end Sh
namespace Sh
open PySem PySem.Spec PyProof.Rows L2
/-- the ways through an assignment's expression meet in P -/
theorem st_asgJ {te : TE} {g : TG} {u : TS} {D : Ends} {σ : L2.St} {H : Hp} (P : V → Hp → Prop) (h : ∀ Q : VK, (∀ v H', P v H' → Q v H') → te σ H Q) (k : ∀ v H', P v H' → g v σ H' (u D)) : tSeq (tAsg te g) u D σ H := h _ k
/-- the ways through an if meet in P -/
theorem st_ifJ {c : TT} {t v u : TS} {D : Ends} {σ : L2.St} {H : Hp} (P : L2.St → Hp → Prop) (h : ∀ N : L2.St → Hp → Prop, (∀ σ' H', P σ' H' → N σ' H') → tIfS c t v { D with nx := N } σ H) (k : ∀ σ' H', P σ' H' → u D σ' H') : tSeq (tIfS c t v) u D σ H := h _ k
/-- any statement's ways meet in P -/
theorem st_J {t u : TS} {D : Ends} {σ : L2.St} {H : Hp} (P : L2.St → Hp → Prop) (h : ∀ N : L2.St → Hp → Prop, (∀ σ' H', P σ' H' → N σ' H') → t { D with nx := N } σ H) (k : ∀ σ' H', P σ' H' → u D σ' H') : tSeq t u D σ H := h _ k
/-- the ways through an expression meet in P -/
theorem ev_J {te : TE} {σ : L2.St} {H : Hp} {Q : VK} (P : V → Hp → Prop) (h : ∀ Q : VK, (∀ v H', P v H' → Q v H') → te σ H Q) (k : ∀ v H', P v H' → Q v H') : te σ H Q := h _ k
theorem tt_J {te : TT} {σ : L2.St} {H : Hp} {Q : Bool → Hp → Prop} (P : Bool → Hp → Prop) (h : ∀ Q : Bool → Hp → Prop, (∀ v H', P v H' → Q v H') → te σ H Q) (k : ∀ v H', P v H' → Q v H') : te σ H Q := h _ k
end Sh
namespace Sh
open PySem PySem.Spec PyProof.Rows L2
theorem atI_at {α : Type} {xs : List α} {i : Int} {v : α} (h0 : 0 ≤ i) (h : xs[i.toNat]? = some v) : atI xs i = some v := by
  have := atI_nat h
  rwa [Int.toNat_of_nonneg h0] at this
theorem rList {α : Type} {f : α → V} {l : List α} : ∀ (i : Nat) (H : Hp) (x : V) (H' : Hp), i < l.length → True → (YAt (l.map f) i H x H') → H' = H ∧ ∃ a, l[i]? = some a ∧ x = f a := by
  rintro i H x H' hi _ ⟨rfl, h⟩
  refine ⟨rfl, l[i], by simp [hi], ?_⟩
  rw [List.getElem?_map, List.getElem?_eq_getElem hi] at h
  exact (Option.some.inj h).symm
/-- a for over a list of l's values -/
theorem for_lst {α : Type} {f : α → V} {l : List α} {K : PySem.W.Frag} {a : Addr} {g : TG} {tb : TS} {D : Ends} {σ : L2.St} {H : Hp}
    (Pv : List α → L2.St → Hp → Prop) (h0 : Pv [] σ H) (hG : ∀ pre σ H, Pv pre σ H → SqL K H a (l.map f))
    (hs : ∀ pre x post σ H, l = pre ++ x :: post → Pv pre σ H → g (f x) σ H fun σ2 H2 => tb { D with nx := Pv (pre ++ [x]), ct := Pv (pre ++ [x]), bk := D.nx } σ2 H2) (hd : ∀ σ H, Pv l σ H → D.nx σ H) :
    ∃ W : Nat → Nat → L2.St → Hp → Prop, (∃ m, W 0 m σ H) ∧ ∀ i m σ H, W i m σ H →
      ((Itl K a).stop i H ∧ D.nx σ H) ∨ ((Itl K a).go i H ∧ ∃ N : L2.St → Hp → Prop, (∀ σ' H', N σ' H' → ∃ m', m' < m ∧ W (i + 1) m' σ' H') ∧ ∀ x H', (Itl K a).yld i H x H' → g x σ H' fun σ2 H2 => tb { D with nx := N, ct := N, bk := D.nx } σ2 H2) := by
  have w := walk_list (K := K) (a := a) (xs := l.map f)
  rw [List.length_map] at w
  refine for_pre w (fun x v _ => v = f x) (fun i H x H' hi _ y => rList i H x H' hi trivial y) Pv h0 hG (fun pre x post v σ H e r p => ?_) hd
  subst r
  exact hs pre x post σ H e p
/-- a for over a text's signs -/
theorem for_str {l : List Nat} {g : TG} {tb : TS} {D : Ends} {σ : L2.St} {H : Hp}
    (Pv : List Nat → L2.St → Hp → Prop) (h0 : Pv [] σ H)
    (hs : ∀ pre x post σ H, l = pre ++ x :: post → Pv pre σ H → g (.str (SX.S [x])) σ H fun σ2 H2 => tb { D with nx := Pv (pre ++ [x]), ct := Pv (pre ++ [x]), bk := D.nx } σ2 H2) (hd : ∀ σ H, Pv l σ H → D.nx σ H) :
    ∃ W : Nat → Nat → L2.St → Hp → Prop, (∃ m, W 0 m σ H) ∧ ∀ i m σ H, W i m σ H →
      ((Its (SX.S l)).stop i H ∧ D.nx σ H) ∨ ((Its (SX.S l)).go i H ∧ ∃ N : L2.St → Hp → Prop, (∀ σ' H', N σ' H' → ∃ m', m' < m ∧ W (i + 1) m' σ' H') ∧ ∀ x H', (Its (SX.S l)).yld i H x H' → g x σ H' fun σ2 H2 => tb { D with nx := N, ct := N, bk := D.nx } σ2 H2) := by
  refine for_pre wStr (fun x v _ => v = .str (SX.S [x])) (fun i H x H' hi _ y => yStr i H x H' hi trivial y) Pv h0 (fun _ _ _ _ => trivial) (fun pre x post v σ H e r p => ?_) hd
  subst r
  exact hs pre x post σ H e p
/-- tuples whose items are told by l -/
theorem for_tupR {α : Type} {Rel : Hp → V → α → Prop} {l : List α} {xs : List V} {K : PySem.W.Frag} {a : Addr} {g : TG} {tb : TS} {D : Ends} {σ : L2.St} {H : Hp} (hlen : xs.length = l.length)
    (Pv : List α → L2.St → Hp → Prop) (h0 : Pv [] σ H) (hG : ∀ pre σ H, Pv pre σ H → SqT K H a xs ∧ ∀ (i : Nat) x y, xs[i]? = some x → l[i]? = some y → Rel H x y)
    (hs : ∀ pre y post x σ H, l = pre ++ y :: post → xs[pre.length]? = some x → Rel H x y → Pv pre σ H → g x σ H fun σ2 H2 => tb { D with nx := Pv (pre ++ [y]), ct := Pv (pre ++ [y]), bk := D.nx } σ2 H2) (hd : ∀ σ H, Pv l σ H → D.nx σ H) :
    ∃ W : Nat → Nat → L2.St → Hp → Prop, (∃ m, W 0 m σ H) ∧ ∀ i m σ H, W i m σ H →
      ((Itt K a).stop i H ∧ D.nx σ H) ∨ ((Itt K a).go i H ∧ ∃ N : L2.St → Hp → Prop, (∀ σ' H', N σ' H' → ∃ m', m' < m ∧ W (i + 1) m' σ' H') ∧ ∀ x H', (Itt K a).yld i H x H' → g x σ H' fun σ2 H2 => tb { D with nx := N, ct := N, bk := D.nx } σ2 H2) := by
  have w := walk_tup (K := K) (a := a) (xs := xs)
  refine for_it w (fun i σ H => Pv (l.take i) σ H) (by simpa using h0) (fun i σ H _ p => (hG _ σ H p).1) (fun i x σ H H' hi p y => ?_) (fun σ H p => hd σ H (by simpa [hlen] using p))
  obtain ⟨rfl, hx⟩ := y
  have hi' : i < l.length := hlen ▸ hi
  have hl : l[i]? = some l[i] := by simp [hi']
  obtain ⟨e1, e2⟩ := take_succ_of hl
  have q := hs _ l[i] _ x σ H' e2 (by rw [List.length_take, Nat.min_eq_left (Nat.le_of_lt hi')]; exact hx) ((hG _ σ H' p).2 i x l[i] hx hl) p
  rw [← e1] at q
  exact q
end Sh
namespace Sh
open PySem PySem.Spec PyProof.Rows L2
theorem st_nx {D : Ends} {σ : L2.St} {H : Hp} (q : D.nx σ H) : tNext D σ H := q
end Sh
namespace Sh
open PySem PySem.Spec PyProof.Rows L2
theorem nx_mk {a c d : L2.St → Hp → Prop} {b : VK} {σ : L2.St} {H : Hp} (h : a σ H) : (Ends.mk a b c d).nx σ H := h
theorem rt_mk {a c d : L2.St → Hp → Prop} {b : VK} {v : V} {H : Hp} (h : b v H) : (Ends.mk a b c d).rt v H := h
theorem bk_mk {a c d : L2.St → Hp → Prop} {b : VK} {σ : L2.St} {H : Hp} (h : c σ H) : (Ends.mk a b c d).bk σ H := h
theorem ct_mk {a c d : L2.St → Hp → Prop} {b : VK} {σ : L2.St} {H : Hp} (h : d σ H) : (Ends.mk a b c d).ct σ H := h
end Sh
namespace Sh
open PySem PySem.Spec PyProof.Rows L2
theorem gn_mk {i : Nat} {v : V} {σ : L2.St} {H : Hp} {Q : L2.St → Hp → Prop} (h : Q (σ.set i (some v)) H) : gName i v σ H Q := h
theorem sz_S {t : List Nat} (h : t.length ≤ 1000000) : (SX.S t).length ≤ sizeLine := by
  rw [SX.S_len]
  exact Nat.le_trans h (by decide)
end Sh
namespace Sh
open PySem PySem.Spec PyProof.Rows L2
theorem ty_T {A B : Hp → Prop} {σ : L2.St} {H : Hp} (h : A H) : tYes σ H (fun b H3 => if b = true then A H3 else B H3) := h
end Sh
namespace Sh
open PySem PySem.Spec PyProof.Rows L2
/-- a comprehension over a tuple whose items are told by l -/
theorem lc_tupR {α : Type} {Rel : Hp → V → α → Prop} {l : List α} {xs : List V} {K : PySem.W.Frag} {a : Addr} {g : TG} {tt : TT} {te : TE} {vs : List Nat} {σ : L2.St} {H1 : Hp} {D : Addr} {Qd : Hp → Prop} (hlen : xs.length = l.length)
    (Pv : List α → Hp → Prop) (h0 : Pv [] (upd H1 D (.lst []))) (hG : ∀ pre H, Pv pre H → SqT K H a xs ∧ ∀ (i : Nat) x y, xs[i]? = some x → l[i]? = some y → Rel H x y)
    (hs : ∀ pre y post x H, l = pre ++ y :: post → xs[pre.length]? = some x → Rel H x y → Pv pre H → g x (wipe σ vs) H fun σ2 H2 => wipe σ2 vs = wipe σ vs ∧ tt σ2 H2 fun b H3 =>
      if b = true then te σ2 H3 fun y' H4 => ∃ acc, H4 D = some (.lst acc) ∧ acc.length < sizeLine ∧ Pv (pre ++ [y]) (upd H4 D (.lst (acc ++ [y']))) else Pv (pre ++ [y]) H3) (hd : ∀ H, Pv l H → Qd H) :
    ∃ W : Nat → Nat → Hp → Prop, (∃ m, W 0 m (upd H1 D (.lst []))) ∧ ∀ i m H, W i m H →
      ((Itt K a).stop i H ∧ Qd H) ∨ ((Itt K a).go i H ∧ ∃ Nx : Hp → Prop, (∀ H', Nx H' → ∃ m', m' < m ∧ W (i + 1) m' H') ∧ ∀ x H', (Itt K a).yld i H x H' → g x (wipe σ vs) H' fun σ2 H2 => wipe σ2 vs = wipe σ vs ∧ tt σ2 H2 fun b H3 =>
        if b = true then te σ2 H3 fun y H4 => ∃ acc, H4 D = some (.lst acc) ∧ acc.length < sizeLine ∧ Nx (upd H4 D (.lst (acc ++ [y]))) else Nx H3) := by
  have w := walk_tup (K := K) (a := a) (xs := xs)
  refine lc_it w (fun i H => Pv (l.take i) H) (by simpa using h0) (fun i H _ p => (hG _ H p).1) (fun i x H H' hi p y => ?_) (fun H p => hd H (by simpa [hlen] using p))
  obtain ⟨rfl, hx⟩ := y
  have hi' : i < l.length := hlen ▸ hi
  have hl : l[i]? = some l[i] := by simp [hi']
  obtain ⟨e1, e2⟩ := take_succ_of hl
  have q := hs _ l[i] _ x H' e2 (by rw [List.length_take, Nat.min_eq_left (Nat.le_of_lt hi')]; exact hx) ((hG _ H' p).2 i x l[i] hx hl) p
  rw [← e1] at q
  exact q
end Sh
namespace Sh
open PySem PySem.Spec PyProof.Rows L2
section
variable {X : Cx} {s : Shared} {H : Hp} {sc : Scope} {ce : Env} {fp : List Addr}
theorem ix_tupB : IxR (X.blk s H sc ce fp) (rIxT X.K) := ix_tup
theorem ix_listB : IxR (X.blk s H sc ce fp) (rIxL X.K) := ix_list
theorem sl_tupAB : SlR (X.blk s H sc ce fp) (rSlA X.K) := sl_tupA
theorem sl_listB : SlR (X.blk s H sc ce fp) (rSlL X.K) := sl_list
theorem call_len_seqB : CallR (X.blk s H sc ce fp) (.builtin "len") (fun xs H Q => ∃ p ys, xs = [.ref p] ∧ (SqL X.K H p ys ∨ SqT X.K H p ys) ∧ Q (.int ys.length) H) := call_len_seq
theorem call_list_ofB : CallR (X.blk s H sc ce fp) (.type "list") (fun xs H Q => ∃ p ys, xs = [.ref p] ∧ (SqL X.K H p ys ∨ SqT X.K H p ys) ∧ ∀ l, H l = none → Q (.ref l) (upd H l (.lst ys))) := call_list_of
end
end Sh
namespace Sh
open PySem PySem.Spec PyProof.Rows L2
/-- the values xs tell the list l -/
def Items {α : Type} (Rel : Hp → V → α → Prop) (H : Hp) (xs : List V) (l : List α) : Prop := xs.length = l.length ∧ ∀ (i : Nat) x y, xs[i]? = some x → l[i]? = some y → Rel H x y
section
variable {α : Type} {Rel : Hp → V → α → Prop} {H H' : Hp} {xs : List V} {l : List α}
theorem Items.nil : Items Rel H [] [] := ⟨rfl, fun i x y h _ => by simp at h⟩
theorem Items.mono (h : Items Rel H xs l) (m : ∀ x y, Rel H x y → Rel H' x y) : Items Rel H' xs l := ⟨h.1, fun i x y h1 h2 => m x y (h.2 i x y h1 h2)⟩
theorem Items.snoc (h : Items Rel H xs l) (m : ∀ x y, Rel H x y → Rel H' x y) {x : V} {y : α} (r : Rel H' x y) : Items Rel H' (xs ++ [x]) (l ++ [y]) := by
  refine ⟨by simp [h.1], fun i a b h1 h2 => ?_⟩
  rcases Nat.lt_or_ge i xs.length with q | q
  · rw [List.getElem?_append_left q] at h1
    rw [List.getElem?_append_left (h.1 ▸ q)] at h2
    exact m a b (h.2 i a b h1 h2)
  · rw [List.getElem?_append_right q] at h1
    rw [List.getElem?_append_right (h.1 ▸ q)] at h2
    have e : i - xs.length = i - l.length := by rw [h.1]
    rcases Nat.eq_zero_or_pos (i - xs.length) with z | z
    · rw [z] at h1
      rw [← e, z] at h2
      simp at h1 h2
      subst h1; subst h2
      exact r
    · rw [List.getElem?_eq_none (by simp; omega)] at h1
      cases h1
theorem Items.get (h : Items Rel H xs l) {i : Nat} {y : α} (hy : l[i]? = some y) : ∃ x, xs[i]? = some x ∧ Rel H x y := by
  obtain ⟨hi, _⟩ := List.getElem?_eq_some_iff.mp hy
  have hi2 : i < xs.length := by rw [h.1]; exact hi
  exact ⟨xs[i], List.getElem?_eq_getElem hi2, h.2 i _ y (List.getElem?_eq_getElem hi2) hy⟩
end
/-- a for over a list whose items are told by l -/
theorem for_lstR {α : Type} {Rel : Hp → V → α → Prop} {l : List α} {xs : List V} {K : PySem.W.Frag} {a : Addr} {g : TG} {tb : TS} {D : Ends} {σ : L2.St} {H : Hp} (hlen : xs.length = l.length)
    (Pv : List α → L2.St → Hp → Prop) (h0 : Pv [] σ H) (hG : ∀ pre σ H, Pv pre σ H → SqL K H a xs ∧ ∀ (i : Nat) x y, xs[i]? = some x → l[i]? = some y → Rel H x y)
    (hs : ∀ pre y post x σ H, l = pre ++ y :: post → xs[pre.length]? = some x → Rel H x y → Pv pre σ H → g x σ H fun σ2 H2 => tb { D with nx := Pv (pre ++ [y]), ct := Pv (pre ++ [y]), bk := D.nx } σ2 H2) (hd : ∀ σ H, Pv l σ H → D.nx σ H) :
    ∃ W : Nat → Nat → L2.St → Hp → Prop, (∃ m, W 0 m σ H) ∧ ∀ i m σ H, W i m σ H →
      ((Itl K a).stop i H ∧ D.nx σ H) ∨ ((Itl K a).go i H ∧ ∃ N : L2.St → Hp → Prop, (∀ σ' H', N σ' H' → ∃ m', m' < m ∧ W (i + 1) m' σ' H') ∧ ∀ x H', (Itl K a).yld i H x H' → g x σ H' fun σ2 H2 => tb { D with nx := N, ct := N, bk := D.nx } σ2 H2) := by
  have w := walk_list (K := K) (a := a) (xs := xs)
  refine for_it w (fun i σ H => Pv (l.take i) σ H) (by simpa using h0) (fun i σ H _ p => (hG _ σ H p).1) (fun i x σ H H' hi p y => ?_) (fun σ H p => hd σ H (by simpa [hlen] using p))
  obtain ⟨rfl, hx⟩ := y
  have hi' : i < l.length := hlen ▸ hi
  have hl : l[i]? = some l[i] := by simp [hi']
  obtain ⟨e1, e2⟩ := take_succ_of hl
  have q := hs _ l[i] _ x σ H' e2 (by rw [List.length_take, Nat.min_eq_left (Nat.le_of_lt hi')]; exact hx) ((hG _ σ H' p).2 i x l[i] hx hl) p
  rw [← e1] at q
  exact q
end Sh
namespace Sh
open PySem PySem.Spec PyProof.Rows L2
/-- an if whose test is known -/
theorem st_ifK {c : TT} {t u v : TS} {D : Ends} {σ : L2.St} {H : Hp} (b : Bool) (h : ∀ Q : Bool → Hp → Prop, Q b H → c σ H Q) (k1 : b = true → t { D with nx := v D } σ H) (k2 : b = false → u { D with nx := v D } σ H) : tSeq (tIfS c t u) v D σ H := by
  refine h _ ?_
  cases b with
  | true => exact iteT (k1 rfl)
  | false => exact iteF (k2 rfl)
theorem if_K {c : TT} {t u : TS} {D : Ends} {σ : L2.St} {H : Hp} (b : Bool) (h : ∀ Q : Bool → Hp → Prop, Q b H → c σ H Q) (k1 : b = true → t D σ H) (k2 : b = false → u D σ H) : tIfS c t u D σ H := by
  refine h _ ?_
  cases b with
  | true => exact iteT (k1 rfl)
  | false => exact iteF (k2 rfl)
/-- .. which may lay new objects -/
theorem if_KH {c : TT} {t u : TS} {D : Ends} {σ : L2.St} {H : Hp} (b : Bool) (P : Hp → Prop) (h : ∀ Q : Bool → Hp → Prop, (∀ H', P H' → Q b H') → c σ H Q) (k1 : b = true → ∀ H', P H' → t D σ H') (k2 : b = false → ∀ H', P H' → u D σ H') : tIfS c t u D σ H := by
  refine h _ fun H' p => ?_
  cases b with
  | true => exact iteT (k1 rfl H' p)
  | false => exact iteF (k2 rfl H' p)
theorem st_ifKH {c : TT} {t u v : TS} {D : Ends} {σ : L2.St} {H : Hp} (b : Bool) (P : Hp → Prop) (h : ∀ Q : Bool → Hp → Prop, (∀ H', P H' → Q b H') → c σ H Q) (k1 : b = true → ∀ H', P H' → t { D with nx := v D } σ H') (k2 : b = false → ∀ H', P H' → u { D with nx := v D } σ H') : tSeq (tIfS c t u) v D σ H := by
  refine h _ fun H' p => ?_
  cases b with
  | true => exact iteT (k1 rfl H' p)
  | false => exact iteF (k2 rfl H' p)
theorem q_of {b c : Bool} {Q : Bool → Hp → Prop} {H : Hp} (h : Q b H) (e : c = b) : Q c H := e ▸ h
end Sh
set_option Elab.async false
set_option linter.all false
set_option maxRecDepth 100000
namespace Sh
open PySem PySem.Spec PyProof.Rows L2
def top (i : Nat) : Stmt := PySem.Challenge.pw_shrunkalike_k56_whole_carried.main.body.getD i (.Pass ⟨0, 0, 0, 0⟩)
abbrev s__wall : Stmt := top 0
abbrev s_WrongThing___init__ : Stmt := inClass (top 3) 0
abbrev s_WrongItem___init__ : Stmt := inClass (top 4) 0
abbrev s_NotSettled___init__ : Stmt := inClass (top 8) 0
abbrev s_NotShort___init__ : Stmt := inClass (top 9) 0
abbrev s_NoUndo___init__ : Stmt := inClass (top 10) 0
abbrev s_is_listed : Stmt := top 14
abbrev s_is_signs : Stmt := top 15
abbrev s_check_signs : Stmt := top 16
abbrev s_is_text : Stmt := top 17
abbrev s_check_text : Stmt := top 18
abbrev s_text_key : Stmt := top 19
abbrev s_first_rules : Stmt := top 21
abbrev s_longest_left : Stmt := top 22
abbrev s_used_at_end : Stmt := top 23
abbrev s_left_over : Stmt := top 24
abbrev s_overlap_rows : Stmt := top 25
abbrev s_both_results : Stmt := top 26
abbrev s_quarrel_of : Stmt := top 27
abbrev s_end_moves : Stmt := top 28
abbrev s_kept_tail : Stmt := top 29
abbrev s_is_rule : Stmt := top 33
abbrev s_checked_rules : Stmt := top 34
abbrev s_Book___init__ : Stmt := inClass (top 35) 0
abbrev s_Book_quarrel : Stmt := inClass (top 35) 1
abbrev s_Book___len__ : Stmt := inClass (top 35) 2
abbrev s_Book___getitem__ : Stmt := inClass (top 35) 3
abbrev s_Book___iter__ : Stmt := inClass (top 35) 4
abbrev s_Book___eq__ : Stmt := inClass (top 35) 5
abbrev s_Book___call__ : Stmt := inClass (top 35) 6
abbrev s_rest_of : Stmt := top 36
abbrev s_check_settled : Stmt := top 37
abbrev s_has_left_inside : Stmt := top 39
abbrev s_least_rules : Stmt := top 40
abbrev s_undo_dict : Stmt := top 42
abbrev s_places_dict : Stmt := top 43
abbrev s_undone_text : Stmt := top 44
abbrev s_round_form : Stmt := top 46
abbrev s_is_loop : Stmt := top 47
abbrev s_core_carrier : Stmt := top 48
abbrev s_carried : Stmt := top 49
abbrev s__law_source : Stmt := top 51
abbrev s__law_pick : Stmt := top 52
abbrev s__law_text : Stmt := top 53
abbrev s__law_left : Stmt := top 54
abbrev s__law_is_end : Stmt := top 55
abbrev s__law_ends : Stmt := top 56
abbrev s__law_products : Stmt := top 57
abbrev s__law_arrows : Stmt := top 58
abbrev s__law_group_parts : Stmt := top 59
abbrev s__law_shuffled : Stmt := top 60
abbrev s__law_group : Stmt := top 61
abbrev s__law_undo : Stmt := top 62
abbrev s__law_undone : Stmt := top 63
abbrev s__law_group_text : Stmt := top 64
abbrev s__law_core : Stmt := top 65
abbrev s__law_due : Stmt := top 66
abbrev s_law : Stmt := top 67
theorem sc__wall : FnScope ["k"] ["k"] (defScope s__wall) := ⟨rfl, rfl, rfl, by decide +kernel, rfl, by decide +kernel, by decide +kernel⟩
theorem sc_is_listed : FnScope ["thing"] ["thing"] (defScope s_is_listed) := ⟨rfl, rfl, rfl, by decide +kernel, rfl, by decide +kernel, by decide +kernel⟩
theorem sc_is_signs : FnScope ["thing", "k"] ["thing"] (defScope s_is_signs) := ⟨rfl, rfl, rfl, by decide +kernel, rfl, by decide +kernel, by decide +kernel⟩
theorem sc_check_signs : FnScope ["thing"] ["thing"] (defScope s_check_signs) := ⟨rfl, rfl, rfl, by decide +kernel, rfl, by decide +kernel, by decide +kernel⟩
theorem sc_is_text : FnScope ["signs", "thing", "low", "high", "sign"] ["signs", "thing", "low", "high"] (defScope s_is_text) := ⟨rfl, rfl, rfl, by decide +kernel, rfl, by decide +kernel, by decide +kernel⟩
theorem sc_check_text : FnScope ["signs", "thing"] ["signs", "thing"] (defScope s_check_text) := ⟨rfl, rfl, rfl, by decide +kernel, rfl, by decide +kernel, by decide +kernel⟩
theorem sc_text_key : FnScope ["text"] ["text"] (defScope s_text_key) := ⟨rfl, rfl, rfl, by decide +kernel, rfl, by decide +kernel, by decide +kernel⟩
theorem sc_first_rules : FnScope ["rules", "found", "k", "left", "right"] ["rules"] (defScope s_first_rules) := ⟨rfl, rfl, rfl, by decide +kernel, rfl, by decide +kernel, by decide +kernel⟩
theorem sc_longest_left : FnScope ["rules", "rule"] ["rules"] (defScope s_longest_left) := ⟨rfl, rfl, rfl, by decide +kernel, rfl, by decide +kernel, by decide +kernel⟩
theorem sc_used_at_end : FnScope ["lefts", "longest", "pile", "best", "size", "found"] ["lefts", "longest", "pile"] (defScope s_used_at_end) := ⟨rfl, rfl, rfl, by decide +kernel, rfl, by decide +kernel, by decide +kernel⟩
theorem sc_left_over : FnScope ["lefts", "longest", "text", "pile", "sign", "shorter"] ["lefts", "longest", "text"] (defScope s_left_over) := ⟨rfl, rfl, rfl, by decide +kernel, rfl, by decide +kernel, by decide +kernel⟩
theorem sc_overlap_rows : FnScope ["rules", "found", "one", "left", "other", "right", "place", "shared"] ["rules"] (defScope s_overlap_rows) := ⟨rfl, rfl, rfl, by decide +kernel, rfl, by decide +kernel, by decide +kernel⟩
theorem sc_both_results : FnScope ["rules", "overlap", "text", "one", "place", "other", "first", "second"] ["rules", "overlap"] (defScope s_both_results) := ⟨rfl, rfl, rfl, by decide +kernel, rfl, by decide +kernel, by decide +kernel⟩
theorem sc_quarrel_of : FnScope ["rules", "lefts", "longest", "best", "overlap", "first", "second"] ["rules", "lefts", "longest"] (defScope s_quarrel_of) := ⟨rfl, rfl, rfl, by decide +kernel, rfl, by decide +kernel, by decide +kernel⟩
theorem sc_end_moves : FnScope ["signs", "rules", "lefts", "names", "numbers", "moves", "longest", "row", "sign", "text", "tail", "rule", "left"] ["signs", "rules"] (defScope s_end_moves) := ⟨rfl, rfl, rfl, by decide +kernel, rfl, by decide +kernel, by decide +kernel⟩
theorem sc_kept_tail : FnScope ["lefts", "longest", "text", "size", "tail", "left"] ["lefts", "longest", "text"] (defScope s_kept_tail) := ⟨rfl, rfl, rfl, by decide +kernel, rfl, by decide +kernel, by decide +kernel⟩
theorem sc_is_rule : FnScope ["signs", "thing"] ["signs", "thing"] (defScope s_is_rule) := ⟨rfl, rfl, rfl, by decide +kernel, rfl, by decide +kernel, by decide +kernel⟩
theorem sc_checked_rules : FnScope ["signs", "thing", "rules", "k"] ["signs", "thing"] (defScope s_checked_rules) := ⟨rfl, rfl, rfl, by decide +kernel, rfl, by decide +kernel, by decide +kernel⟩
theorem sc_Book___init__ : FnScope ["self", "signs", "rules"] ["self", "signs", "rules"] (defScope s_Book___init__) := ⟨rfl, rfl, rfl, by decide +kernel, rfl, by decide +kernel, by decide +kernel⟩
theorem sc_Book_quarrel : FnScope ["self"] ["self"] (defScope s_Book_quarrel) := ⟨rfl, rfl, rfl, by decide +kernel, rfl, by decide +kernel, by decide +kernel⟩
theorem sc_Book___len__ : FnScope ["self"] ["self"] (defScope s_Book___len__) := ⟨rfl, rfl, rfl, by decide +kernel, rfl, by decide +kernel, by decide +kernel⟩
theorem sc_Book___getitem__ : FnScope ["self", "number"] ["self", "number"] (defScope s_Book___getitem__) := ⟨rfl, rfl, rfl, by decide +kernel, rfl, by decide +kernel, by decide +kernel⟩
theorem sc_Book___iter__ : FnScope ["self"] ["self"] (defScope s_Book___iter__) := ⟨rfl, rfl, rfl, by decide +kernel, rfl, by decide +kernel, by decide +kernel⟩
theorem sc_Book___eq__ : FnScope ["self", "other"] ["self", "other"] (defScope s_Book___eq__) := ⟨rfl, rfl, rfl, by decide +kernel, rfl, by decide +kernel, by decide +kernel⟩
theorem sc_Book___call__ : FnScope ["self", "text"] ["self", "text"] (defScope s_Book___call__) := ⟨rfl, rfl, rfl, by decide +kernel, rfl, by decide +kernel, by decide +kernel⟩
theorem sc_rest_of : FnScope ["book", "text"] ["book", "text"] (defScope s_rest_of) := ⟨rfl, rfl, rfl, by decide +kernel, rfl, by decide +kernel, by decide +kernel⟩
theorem sc_check_settled : FnScope ["book"] ["book"] (defScope s_check_settled) := ⟨rfl, rfl, rfl, by decide +kernel, rfl, by decide +kernel, by decide +kernel⟩
theorem sc_has_left_inside : FnScope ["lefts", "left", "start", "stop"] ["lefts", "left"] (defScope s_has_left_inside) := ⟨rfl, rfl, rfl, by decide +kernel, rfl, by decide +kernel, by decide +kernel⟩
theorem sc_least_rules : FnScope ["book", "lefts", "kept", "rule", "left", "key"] ["book"] (defScope s_least_rules) := ⟨rfl, rfl, rfl, by decide +kernel, rfl, by decide +kernel, by decide +kernel⟩
theorem sc_undo_dict : FnScope ["book", "rules", "left", "right", "empty", "found", "sign", "other"] ["book"] (defScope s_undo_dict) := ⟨rfl, rfl, rfl, by decide +kernel, rfl, by decide +kernel, by decide +kernel⟩
theorem sc_places_dict : FnScope ["book", "undo", "lefts", "begins", "firsts", "sign", "k", "left", "right"] ["book", "undo"] (defScope s_places_dict) := ⟨rfl, rfl, rfl, by decide +kernel, rfl, by decide +kernel, by decide +kernel⟩
theorem sc_undone_text : FnScope ["undo", "text", "sign"] ["undo", "text"] (defScope s_undone_text) := ⟨rfl, rfl, rfl, by decide +kernel, rfl, by decide +kernel, by decide +kernel⟩
theorem sc_round_form : FnScope ["book", "undo", "text", "core", "ahead", "shorter"] ["book", "undo", "text"] (defScope s_round_form) := ⟨rfl, rfl, rfl, by decide +kernel, rfl, by decide +kernel, by decide +kernel⟩
theorem sc_is_loop : FnScope ["found", "core"] ["found", "core"] (defScope s_is_loop) := ⟨rfl, rfl, rfl, by decide +kernel, rfl, by decide +kernel, by decide +kernel⟩
theorem sc_core_carrier : FnScope ["book", "found", "one", "other", "sign", "k", "letter"] ["book", "found", "one", "other"] (defScope s_core_carrier) := ⟨rfl, rfl, rfl, by decide +kernel, rfl, by decide +kernel, by decide +kernel⟩
theorem sc_carried : FnScope ["book", "one", "other", "undo", "first", "first_core", "second", "second_core", "middle"] ["book", "one", "other"] (defScope s_carried) := ⟨rfl, rfl, rfl, by decide +kernel, rfl, by decide +kernel, by decide +kernel⟩
theorem sc__law_source : FnScope ["_law_script", "_law_place", "_law_cell", "_law_seed", "_law_one", "_law_number"] ["_law_script", "_law_place"] (defScope s__law_source) := ⟨rfl, rfl, rfl, by decide +kernel, rfl, by decide +kernel, by decide +kernel⟩
theorem sc__law_pick : FnScope ["_law_source_here", "_law_many", "_law_digit", "_law_mixed"] ["_law_source_here", "_law_many"] (defScope s__law_pick) := ⟨rfl, rfl, rfl, by decide +kernel, rfl, by decide +kernel, by decide +kernel⟩
theorem sc__law_text : FnScope ["_law_source_here", "_law_signs", "_law_most", "_law_told", "_law_k"] ["_law_source_here", "_law_signs", "_law_most"] (defScope s__law_text) := ⟨rfl, rfl, rfl, by decide +kernel, rfl, by decide +kernel, by decide +kernel⟩
theorem sc__law_left : FnScope ["_law_rules", "_law_text_here", "_law_pile", "_law_sign", "_law_fitting", "_law_rule"] ["_law_rules", "_law_text_here"] (defScope s__law_left) := ⟨rfl, rfl, rfl, by decide +kernel, rfl, by decide +kernel, by decide +kernel⟩
theorem sc__law_is_end : FnScope ["_law_rules", "_law_text_here", "_law_rule"] ["_law_rules", "_law_text_here"] (defScope s__law_is_end) := ⟨rfl, rfl, rfl, by decide +kernel, rfl, by decide +kernel, by decide +kernel⟩
theorem sc__law_ends : FnScope ["_law_signs", "_law_rules", "_law_size", "_law_told", "_law_level", "_law_k", "_law_later", "_law_text_here", "_law_sign", "_law_rule"] ["_law_signs", "_law_rules", "_law_size"] (defScope s__law_ends) := ⟨rfl, rfl, rfl, by decide +kernel, rfl, by decide +kernel, by decide +kernel⟩
theorem sc__law_products : FnScope ["_law_code", "_law_turns", "_law_rows", "_law_one", "_law_i", "_law_j", "_law_other"] ["_law_code"] (defScope s__law_products) := ⟨rfl, rfl, rfl, by decide +kernel, rfl, by decide +kernel, by decide +kernel⟩
theorem sc__law_arrows : FnScope ["_law_shapes", "_law_told", "_law_k", "_law_code", "_law_many", "_law_i", "_law_j", "_law_g"] ["_law_shapes"] (defScope s__law_arrows) := ⟨rfl, rfl, rfl, by decide +kernel, rfl, by decide +kernel, by decide +kernel⟩
theorem sc__law_group_parts : FnScope ["_law_source_here", "_law_menu", "_law_told", "_law_turn", "_law_picked"] ["_law_source_here"] (defScope s__law_group_parts) := ⟨rfl, rfl, rfl, by decide +kernel, rfl, by decide +kernel, by decide +kernel⟩
theorem sc__law_shuffled : FnScope ["_law_source_here", "_law_row", "_law_told"] ["_law_source_here", "_law_row"] (defScope s__law_shuffled) := ⟨rfl, rfl, rfl, by decide +kernel, rfl, by decide +kernel, by decide +kernel⟩
theorem sc__law_group : FnScope ["_law_source_here", "_law_shapes", "_law_arrows_here", "_law_pool", "_law_signs", "_law_arrow_of", "_law_sign_of", "_law_k", "_law_rules", "_law_one", "_law_other", "_law_left_here", "_law_right", "_law_element"] ["_law_source_here", "_law_shapes"] (defScope s__law_group) := ⟨rfl, rfl, rfl, by decide +kernel, rfl, by decide +kernel, by decide +kernel⟩
theorem sc__law_undo : FnScope ["_law_signs", "_law_rules", "_law_told", "_law_left_here", "_law_right"] ["_law_signs", "_law_rules"] (defScope s__law_undo) := ⟨rfl, rfl, rfl, by decide +kernel, rfl, by decide +kernel, by decide +kernel⟩
theorem sc__law_undone : FnScope ["_law_undo_here", "_law_text_here", "_law_sign"] ["_law_undo_here", "_law_text_here"] (defScope s__law_undone) := ⟨rfl, rfl, rfl, by decide +kernel, rfl, by decide +kernel, by decide +kernel⟩
theorem sc__law_group_text : FnScope ["_law_source_here", "_law_signs", "_law_rules", "_law_undo_here", "_law_arrow_of", "_law_way", "_law_loops", "_law_middle", "_law_round_text", "_law_text_here", "_law_sign"] ["_law_source_here", "_law_signs", "_law_rules", "_law_undo_here", "_law_arrow_of"] (defScope s__law_group_text) := ⟨rfl, rfl, rfl, by decide +kernel, rfl, by decide +kernel, by decide +kernel⟩
theorem sc__law_core : FnScope ["_law_rules", "_law_text_here", "_law_core_here", "_law_turn", "_law_moved"] ["_law_rules", "_law_text_here"] (defScope s__law_core) := ⟨rfl, rfl, rfl, by decide +kernel, rfl, by decide +kernel, by decide +kernel⟩
theorem sc__law_due : FnScope ["_law_signs", "_law_rules", "_law_one", "_law_other", "_law_first", "_law_second", "_law_near", "_law_sign", "_law_x", "_law_k"] ["_law_signs", "_law_rules", "_law_one", "_law_other"] (defScope s__law_due) := ⟨rfl, rfl, rfl, by decide +kernel, rfl, by decide +kernel, by decide +kernel⟩
theorem sc_law : FnScope ["_law_script", "_law_source_here", "_law_signs", "_law_rules", "_law_arrow_of", "_law_book", "_law_undo_here", "_law_small", "_law_turn", "_law_draws", "_law_one", "_law_other", "_law_way", "_law_beside", "_law_cut", "_law_told", "_law_x", "_law_odd", "_law_lost", "raised", "_law_sign"] ["_law_script"] (defScope s_law) := ⟨rfl, rfl, rfl, by decide +kernel, rfl, by decide +kernel, by decide +kernel⟩
structure Txt (K : PySem.W.Frag) (mg : Str → Option Value) : Prop where
  b_len : mg "len" = none
  b_range : mg "range" = none
  b_min : mg "min" = none
  b_max : mg "max" = none
  b_any : mg "any" = none
  b_all : mg "all" = none
  b_isinstance : mg "isinstance" = none
  b_abs : mg "abs" = none
  b_int : mg "int" = none
  b_str : mg "str" = none
  b_tuple : mg "tuple" = none
  b_list : mg "list" = none
  b_repr : mg "repr" = none
  b_sorted : mg "sorted" = none
  b_iter : mg "iter" = none
  b_super : mg "super" = none
  g_LETTERS : ∃ u, mg "LETTERS" = some u ∧ RelV (.str "abcdefghijklmnopqrstuvwxyz") u
  g_LONGEST_TEXT : ∃ u, mg "LONGEST_TEXT" = some u ∧ RelV (.int 200) u
  g_MOST_RULES : ∃ u, mg "MOST_RULES" = some u ∧ RelV (.int 64) u
  g_LONGEST_LEFT : ∃ u, mg "LONGEST_LEFT" = some u ∧ RelV (.int 4) u
  d_is_listed : DefAt K mg "is_listed" s_is_listed ["thing"]
  d_is_signs : DefAt K mg "is_signs" s_is_signs ["thing"]
  d_check_signs : DefAt K mg "check_signs" s_check_signs ["thing"]
  d_is_text : DefAt K mg "is_text" s_is_text ["signs", "thing", "low", "high"]
  d_check_text : DefAt K mg "check_text" s_check_text ["signs", "thing"]
  d_text_key : DefAt K mg "text_key" s_text_key ["text"]
  d_first_rules : DefAt K mg "first_rules" s_first_rules ["rules"]
  d_longest_left : DefAt K mg "longest_left" s_longest_left ["rules"]
  d_used_at_end : DefAt K mg "used_at_end" s_used_at_end ["lefts", "longest", "pile"]
  d_left_over : DefAt K mg "left_over" s_left_over ["lefts", "longest", "text"]
  d_overlap_rows : DefAt K mg "overlap_rows" s_overlap_rows ["rules"]
  d_both_results : DefAt K mg "both_results" s_both_results ["rules", "overlap"]
  d_quarrel_of : DefAt K mg "quarrel_of" s_quarrel_of ["rules", "lefts", "longest"]
  d_end_moves : DefAt K mg "end_moves" s_end_moves ["signs", "rules"]
  d_kept_tail : DefAt K mg "kept_tail" s_kept_tail ["lefts", "longest", "text"]
  d_is_rule : DefAt K mg "is_rule" s_is_rule ["signs", "thing"]
  d_checked_rules : DefAt K mg "checked_rules" s_checked_rules ["signs", "thing"]
  d_rest_of : DefAt K mg "rest_of" s_rest_of ["book", "text"]
  d_check_settled : DefAt K mg "check_settled" s_check_settled ["book"]
  d_has_left_inside : DefAt K mg "has_left_inside" s_has_left_inside ["lefts", "left"]
  d_least_rules : DefAt K mg "least_rules" s_least_rules ["book"]
  d_undo_dict : DefAt K mg "undo_dict" s_undo_dict ["book"]
  d_places_dict : DefAt K mg "places_dict" s_places_dict ["book", "undo"]
  d_undone_text : DefAt K mg "undone_text" s_undone_text ["undo", "text"]
  d_round_form : DefAt K mg "round_form" s_round_form ["book", "undo", "text"]
  d_is_loop : DefAt K mg "is_loop" s_is_loop ["found", "core"]
  d_core_carrier : DefAt K mg "core_carrier" s_core_carrier ["book", "found", "one", "other"]
  d_carried : DefAt K mg "carried" s_carried ["book", "one", "other"]
  d__law_source : DefAt K mg "_law_source" s__law_source ["_law_script", "_law_place"]
  d__law_pick : DefAt K mg "_law_pick" s__law_pick ["_law_source_here", "_law_many"]
  d__law_text : DefAt K mg "_law_text" s__law_text ["_law_source_here", "_law_signs", "_law_most"]
  d__law_left : DefAt K mg "_law_left" s__law_left ["_law_rules", "_law_text_here"]
  d__law_is_end : DefAt K mg "_law_is_end" s__law_is_end ["_law_rules", "_law_text_here"]
  d__law_ends : DefAt K mg "_law_ends" s__law_ends ["_law_signs", "_law_rules", "_law_size"]
  d__law_products : DefAt K mg "_law_products" s__law_products ["_law_code"]
  d__law_arrows : DefAt K mg "_law_arrows" s__law_arrows ["_law_shapes"]
  d__law_group_parts : DefAt K mg "_law_group_parts" s__law_group_parts ["_law_source_here"]
  d__law_shuffled : DefAt K mg "_law_shuffled" s__law_shuffled ["_law_source_here", "_law_row"]
  d__law_group : DefAt K mg "_law_group" s__law_group ["_law_source_here", "_law_shapes"]
  d__law_undo : DefAt K mg "_law_undo" s__law_undo ["_law_signs", "_law_rules"]
  d__law_undone : DefAt K mg "_law_undone" s__law_undone ["_law_undo_here", "_law_text_here"]
  d__law_group_text : DefAt K mg "_law_group_text" s__law_group_text ["_law_source_here", "_law_signs", "_law_rules", "_law_undo_here", "_law_arrow_of"]
  d__law_core : DefAt K mg "_law_core" s__law_core ["_law_rules", "_law_text_here"]
  d__law_due : DefAt K mg "_law_due" s__law_due ["_law_signs", "_law_rules", "_law_one", "_law_other"]
end Sh
set_option Elab.async false
set_option linter.all false
set_option maxRecDepth 100000
set_option maxHeartbeats 4000000
namespace Sh
open PySem PySem.Spec PyProof.Rows L2
open SX (S S_inj S_len S_cat)
local macro_rules | `(tactic| walk_at "nx") => `(tactic| repeat (with_reducible first | refine Sh.gn_mk ?_ | refine Sh.nx_mk ?_ | refine Sh.st_nx ?_ | refine Sh.rt_mk ?_ | refine Sh.ct_mk ?_ | refine Sh.bk_mk ?_))
local macro_rules | `(tactic| walk_at "sq") => `(tactic| first | exact SqL.of upd_same | exact SqT.of upd_same | exact SqL.of (by assumption) | exact SqT.of (by assumption) | assumption | exact Or.inl (SqL.of (by assumption)) | exact Or.inr (SqT.of (by assumption)) | exact Or.inl (by assumption) | exact Or.inr (by assumption))
local macro_rules | `(tactic| walk_at "hp") => `(tactic| first | exact upd_same | assumption)
local macro_rules | `(tactic| walk_at "sz") => `(tactic| first | exact Nat.le_of_ble_eq_true rfl | omega)
local macro_rules | `(tactic| walk_at "sd") => `(tactic| first | omega | exact rfl | assumption | (show (0 : Int) < _; omega) | exact And.intro (by omega) (by omega) | exact Or.inl (And.intro (by omega) (by omega)) | exact Or.inr (And.intro (by omega) (by omega)) | omega | exact Sh.sz_S (by omega) | decide)
local macro_rules | `(tactic| walk_at "rd1") => `(tactic| first
  | (with_reducible first | refine Sh.gn_mk ?_ | refine Sh.nx_mk ?_ | refine Sh.st_nx ?_ | refine Sh.rt_mk ?_ | refine Sh.ct_mk ?_ | refine Sh.bk_mk ?_)
  | refine Exists.intro (α := V) _ (And.intro rfl ?_)
  | refine Exists.intro (α := Bool) _ (And.intro rfl ?_)
  | refine Exists.intro (α := Int) _ (And.intro rfl ?_)
  | refine Exists.intro (α := PySem.Str) _ (And.intro rfl ?_)
  | refine Exists.intro (α := Int) _ (Exists.intro (α := Int) _ (And.intro rfl (And.intro rfl ?_)))
  | refine Exists.intro (α := PySem.Str) _ (Exists.intro (α := PySem.Str) _ (And.intro rfl (And.intro rfl ?_)))
  | refine Exists.intro (α := Int) _ (Exists.intro (α := Int) _ (And.intro rfl ?_))
  | refine Or.inl (Exists.intro (α := Int) _ (And.intro rfl ?_))
  | refine Exists.intro _ (Exists.intro _ (Exists.intro _ (Exists.intro _ (And.intro rfl (And.intro rfl (And.intro (by walk_at "sq") (And.intro rfl ?_)))))))
  | refine Exists.intro _ (Exists.intro _ (Exists.intro _ (Exists.intro _ (And.intro rfl (And.intro rfl (And.intro (by walk_at "hp") (And.intro rfl ?_)))))))
  | refine And.intro (by walk_at "sd") ?_
  )
local macro_rules | `(tactic| walk_at "rd") => `(tactic| repeat walk_at "rd1")
local macro_rules | `(tactic| walk_at "lk") => `(tactic| first | exact rfl | (rw [lookup_putF, if_pos rfl]) | (rw [lookup_putF, if_neg (by decide +kernel)]; walk_at "lk"))

section
variable {P : Program} {w : World} {K : PySem.W.Frag} {mg : Str → Option Value} {base : Heap}
/-- _law_pick(source, many): any number from 0 to many - 1; the source changes alone -/
def spPick : Sp := fun vs H Q _ => ∃ (a : Addr) (m : Int), vs = [.ref a, .int m] ∧ Src H a ∧ 0 < m ∧ m < 1000000 ∧ ∀ (r : Int) (H' : Hp), 0 ≤ r → r < m → Src H' a → But a H H' → Q (.int r) H'
theorem c__law_pick (T : Txt K mg) : Cal P w K mg base CX0 1 "_law_pick" spPick := by
  refine Cal.mk0 T.d__law_pick sc__law_pick (fun vs H Q E h => ?_) (fun f cdv A outer s H vs Q E hr h => ?_)
  · obtain ⟨a, m, rfl, _⟩ := h
    rfl
  · obtain ⟨a, m, rfl, ⟨d, sd, c, ha⟩, h0, h1, k⟩ := h
    refine ⟨_, (pss_cons (ps_if (pt_cmpR op_gt (pe_ix ix_list (pv 0) pe_int (fun _ _ => rfl)) pe_int (nomark _))
    (pss_cons (ps_set (i := 2) sc__law_pick.nd rfl (Or.inl rfl) (pe_op op_mod (pe_callTy call_int1 (by rfl) T.b_int (by decide +kernel) (pa_cons (pe_ix ix_list (pv 0) pe_int (fun _ _ => rfl)) pa_nil)) (pv 1)))
    (pss_cons (ps_asg (pe_op op_fdiv (pe_ix ix_list (pv 0) pe_int (fun _ _ => rfl)) (pv 1)) (pg_sub (pv 0) pe_int set_list))
    (pss_one (ps_ret (pv 2)))))
    pss_nil)
  (pss_cons (ps_asg (pe_op op_add (pe_ix ix_list (pv 0) pe_int (fun _ _ => rfl)) pe_int) (pg_sub (pv 0) pe_int set_list))
  (pss_cons (ps_set (i := 3) sc__law_pick.nd rfl (Or.inl rfl) (pe_op op_mod (pe_callTy call_int1 (by rfl) T.b_int (by decide +kernel) (pa_cons (pe_op op_mul (pe_op op_add (pe_ix ix_list (pv 0) pe_int (fun _ _ => rfl)) (pe_op op_mul pe_int (pe_ix ix_list (pv 0) pe_int (fun _ _ => rfl)))) pe_int) pa_nil)) pe_int))
  (pss_cons (ps_set (i := 3) sc__law_pick.nd rfl (Or.inl rfl) (pe_op op_mod (pe_callTy call_int1 (by rfl) T.b_int (by decide +kernel) (pa_cons (pe_op op_add (pe_op op_add (pe_op op_mul (pv 3) (pv 3)) (pe_op op_mul pe_int (pe_ix ix_list (pv 0) pe_int (fun _ _ => rfl)))) (pe_ix ix_list (pv 0) pe_int (fun _ _ => rfl))) pa_nil)) pe_int))
  (pss_cons (ps_set (i := 3) sc__law_pick.nd rfl (Or.inl rfl) (pe_op op_mod (pe_callTy call_int1 (by rfl) T.b_int (by decide +kernel) (pa_cons (pe_op op_add (pe_op op_mul (pv 3) pe_int) pe_int) pa_nil)) pe_int))
  (pss_cons (ps_set (i := 3) sc__law_pick.nd rfl (Or.inl rfl) (pe_op op_mod (pe_callTy call_int1 (by rfl) T.b_int (by decide +kernel) (pa_cons (pe_op op_add (pe_op op_mul (pv 3) (pv 3)) (pv 3)) pa_nil)) pe_int))
  (pss_one (ps_ret (pe_op op_mod (pe_callTy call_int1 (by rfl) T.b_int (by decide +kernel) (pa_cons (pe_op op_fdiv (pv 3) pe_int) pa_nil)) (pv 1)))))))))), ?_⟩
    walk_at "rd"
    refine ite2 (fun c0 => ?_) (fun c0 => ?_)
    · walk_at "rd"
      exact k _ _ (Int.emod_nonneg _ (by omega)) (Int.emod_lt_of_pos _ h0) ⟨_, _, _, upd_same⟩ but_upd
    · walk_at "rd"
      exact k _ _ (Int.emod_nonneg _ (by omega)) (Int.emod_lt_of_pos _ h0) ⟨_, _, _, upd_same⟩ but_upd
/-- _law_source(script, place): a new source -/
def spSource (K : PySem.W.Frag) : Sp := fun vs H Q _ => ∃ (a : Addr) (ns : List Int) (i : Int), vs = [.ref a, .int i] ∧ SqL K H a (ns.map V.int) ∧ (∀ z ∈ ns, Builtin.Int.intBits z ≤ 1048576) ∧ ns.length ≤ 63 ∧ 0 ≤ i ∧ i < 100 ∧
  ∀ (p : Addr) (H' : Hp), H p = none → Same H H' → Src H' p → Q (.ref p) H'
theorem cut_ints (ns : List Int) : ∃ ms : List Int, cutV (ns.map V.int) none (some 4) = ms.map V.int := ⟨_, by unfold cutV; rw [← List.map_drop, ← List.map_take]⟩
theorem c__law_source (T : Txt K mg) : Cal P w K mg base CX0 1 "_law_source" (spSource K) := by
  refine Cal.mk0 T.d__law_source sc__law_source (fun vs H Q E h => ?_) (fun f cdv A outer s H vs Q E hr h => ?_)
  · obtain ⟨a, ns, i, rfl, _⟩ := h
    rfl
  · obtain ⟨a, ns, i, rfl, hS, hb, hl, hi0, hi1, k⟩ := h
    obtain ⟨ms, hms⟩ := cut_ints ns
    refine ⟨_, (pss_cons (ps_set (i := 2) sc__law_source.nd rfl (Or.inl rfl) (pe_ifExp (pt_cmpR op_lt (pv 1) (pe_callB call_len_seq (by rfl) T.b_len (by decide +kernel) (pa_cons (pv 0) pa_nil)) (nomark _)) (pe_ix ix_list (pv 0) (pv 1) (fun _ _ => rfl)) (pe_op op_add (pe_op op_mul pe_int (pv 1)) pe_int)))
  (pss_cons (ps_set (i := 3) sc__law_source.nd rfl (Or.inl rfl) (pe_op op_add (pe_op op_mul pe_int (pv 1)) pe_int))
  (pss_cons (ps_for PassesOwn.never rfl (pi_list (pe_slice sl_list (pv 0) po_none (po_some pe_int))) (pg_name (i := 4) sc__law_source.nd rfl (Or.inl rfl))
    (pss_one (ps_set (i := 3) sc__law_source.nd rfl (Or.inl rfl) (pe_op op_mod (pe_callTy call_int1 (by rfl) T.b_int (by decide +kernel) (pa_cons (pe_op op_add (pe_op op_mul (pv 3) pe_int) (pe_op op_mod (pe_callTy call_int1 (by rfl) T.b_int (by decide +kernel) (pa_cons (pv 4) pa_nil)) pe_int)) pa_nil)) pe_int))))
  (pss_cons (ps_set (i := 3) sc__law_source.nd rfl (Or.inl rfl) (pe_op op_mod (pe_callTy call_int1 (by rfl) T.b_int (by decide +kernel) (pa_cons (pe_op op_add (pe_op op_mul (pv 3) pe_int) (pe_op op_mod (pe_callTy call_int1 (by rfl) T.b_int (by decide +kernel) (pa_cons (pv 2) pa_nil)) pe_int)) pa_nil)) pe_int))
  (pss_cons (ps_set (i := 5) sc__law_source.nd rfl (Or.inl rfl) (pe_callB call_abs (by rfl) T.b_abs (by decide +kernel) (pa_cons (pv 2) pa_nil)))
  (pss_cons (ps_if (pt_cmpR op_lt (pv 5) (pe_op op_pow pe_int pe_int) (nomark _))
    (pss_one (ps_ret (pe_lst (pa_cons pe_int (pa_cons (pv 3) (pa_cons pe_int pa_nil))))))
    pss_nil)
  (pss_cons (ps_if (pt_cmpR op_gt (pe_op op_shr (pv 5) pe_int) pe_int (nomark _))
    (pss_one (ps_set (i := 5) sc__law_source.nd rfl (Or.inl rfl) (pe_op op_sub (pv 5) (pe_op op_shlW (pe_op op_shr (pv 5) pe_int) pe_int))))
    pss_nil)
  (pss_one (ps_ret (pe_lst (pa_cons (pv 5) (pa_cons (pv 3) (pa_cons pe_int pa_nil))))))))))))), ?_⟩
    -- cell
    refine st_asgJ (fun v H' => H' = H ∧ ∃ z, v = V.int z ∧ Builtin.Int.intBits z ≤ 1048576) (fun Q' kQ => ?_) ?_
    · refine ⟨_, rfl, _, rfl, _, _, rfl, .inl hS, _, _, rfl, rfl, _, rfl, ?_⟩
      refine ite2 (fun c0 => ?_) (fun c0 => ?_)
      · have c1 : i < (ns.map V.int).length := of_decide_eq_true c0
        rw [List.length_map] at c1
        have c2 : i.toNat < ns.length := by omega
        refine ⟨_, rfl, _, rfl, _, _, _, .int ns[i.toNat], rfl, rfl, hS, ?_, kQ _ _ ⟨rfl, _, rfl, hb _ (List.getElem_mem c2)⟩⟩
        exact atI_at hi0 (by simp [c2])
      · walk_at "rd"
        refine kQ _ _ ⟨rfl, _, rfl, ?_⟩
        refine Nat.le_trans ((PySem.intBits_le_iff (m := 20)).mpr ?_) (by decide)
        show (7 * i + 5).natAbs < 2 ^ 20
        omega
    · rintro v H' ⟨rfl, cell, rfl, hcell⟩
      walk_at "rd"
      -- script[:4]
      refine ⟨_, _, rfl, hS, fun p hp => ?_⟩
      rw [hms]
      refine ⟨p, rfl, ⟨_, SqL.of upd_same⟩, for_lst (K := K) (a := p) (f := V.int) (l := ms) (fun pre σ H2 => ∃ (sd : Int) (v : Option V), σ = [some (.ref a), some (.int i), some (.int cell), some (.int sd), v, none] ∧ H2 = upd H' p (.lst (ms.map V.int)))
        ⟨_, _, rfl, rfl⟩ (fun pre σ H2 ⟨_, _, _, e⟩ => e ▸ SqL.of upd_same) ?_ ?_⟩
      · rintro pre x post σ H2 e ⟨sd, v, rfl, rfl⟩
        walk_at "rd"
        exact ⟨_, _, rfl, rfl⟩
      · rintro σ H2 ⟨sd, v, rfl, rfl⟩
        walk_at "rd"
        refine ite2 (fun c0 => ?_) (fun c0 => ?_)
        · walk_at "rd"
          refine ⟨by walk_at "sz", fun q hq => ?_⟩
          have s1 : Same H' (upd H' p (.lst (ms.map V.int))) := same_new hp
          exact k q _ (s1.free hq) (s1.trans (same_new hq)) ⟨_, _, _, upd_same⟩
        · walk_at "nx"
          refine st_ifJ (fun σ' H3 => H3 = upd H' p (.lst (ms.map V.int)) ∧ ∃ n sd v, σ' = [some (.ref a), some (.int i), some (.int cell), some (.int sd), v, some (.int n)]) (fun N kN => ?_) ?_
          · walk_at "rd"
            refine ite2 (fun c1 => ?_) (fun c1 => ?_)
            · walk_at "rd"
              have hn : Builtin.Int.intBits (if cell < 0 then -cell else cell) ≤ 1048576 := by
                split
                · exact PySem.intBits_neg_le hcell
                · exact hcell
              refine ⟨?_, ?_⟩
              · have h2 := PySem.intBits_le_of_natAbs (x := (if cell < 0 then -cell else cell) / 2 ^ Int.toNat 2500) (y := if cell < 0 then -cell else cell) (by first | exact Int.natAbs_ediv_le_natAbs _ _ | exact Int.natAbs_div_le_natAbs _ _) hn
                refine ⟨by decide, ?_⟩
                show _ + (2500 : Int) ≤ 134217728
                omega
              · walk_at "rd"
                exact kN _ _ ⟨rfl, _, _, _, rfl⟩
            · walk_at "rd"
              exact kN _ _ ⟨rfl, _, _, _, rfl⟩
          · rintro σ' H3 ⟨rfl, n, sd', v', rfl⟩
            walk_at "rd"
            refine ⟨by walk_at "sz", fun q hq => ?_⟩
            have s1 : Same H' (upd H' p (.lst (ms.map V.int))) := same_new hp
            exact k q _ (s1.free hq) (s1.trans (same_new hq)) ⟨_, _, _, upd_same⟩
end
end Sh
set_option Elab.async false
set_option linter.all false
namespace Sh
open PySem PySem.Spec PyProof.Rows L2
open SX (S S_inj S_len S_cat)
theorem cut_from {t : List Nat} {i : Int} (h : 0 ≤ i) : cutS (S t) (some i) none = S (t.drop i.toNat) := by
  rw [C8.cutS_slice]; exact SX.slice_from h
theorem cut_to {t : List Nat} {i : Int} (h : 0 ≤ i) : cutS (S t) none (some i) = S (t.take i.toNat) := by
  rw [C8.cutS_slice]; exact SX.slice_to h
theorem cut_mid {t : List Nat} {i j : Int} (h : 0 ≤ i) (k : 0 ≤ j) : cutS (S t) (some i) (some j) = S ((t.drop i.toNat).take (j.toNat - i.toNat)) := by
  unfold cutS
  have e : (S t).length = t.length := S_len t
  have h1 : HT.sIx t.length 0 (some i) = min i.toNat t.length := by
    show (if i < 0 then _ else min i.toNat t.length) = _
    rw [if_neg (by omega)]
  have h2 : HT.sIx t.length t.length (some j) = min j.toNat t.length := by
    show (if j < 0 then _ else min j.toNat t.length) = _
    rw [if_neg (by omega)]
  rw [e, h1, h2]
  show S ((t.drop (min i.toNat t.length)).take (min j.toNat t.length - min i.toNat t.length)) = _
  congr 1
  apply List.ext_getElem?
  intro n
  simp only [List.getElem?_take, List.getElem?_drop]
  by_cases hi : i.toNat ≤ t.length
  · rw [Nat.min_eq_left hi]
    by_cases hn : n < j.toNat - i.toNat
    · rw [if_pos hn]
      by_cases hn2 : n < min j.toNat t.length - i.toNat
      · rw [if_pos hn2]
      · rw [if_neg hn2, List.getElem?_eq_none (by omega)]
    · rw [if_neg hn, if_neg (by omega)]
  · have e1 : min i.toNat t.length = t.length := by omega
    rw [e1, List.getElem?_eq_none (l := t) (i := t.length + n) (by omega), List.getElem?_eq_none (l := t) (i := i.toNat + n) (by omega)]
    simp
theorem endswith_S (a b : List Nat) : Txt.endswith (S a) (S b) = b.isSuffixOf a := by
  unfold Txt.endswith
  rw [PySem.StrLaws.subAt_eq, S_len, S_len, Bool.eq_iff_iff, List.isSuffixOf_iff_suffix, List.suffix_iff_eq_drop]
  simp only [Bool.and_eq_true, decide_eq_true_eq, beq_iff_eq]
  constructor
  · rintro ⟨h1, h2⟩
    rw [List.take_of_length_le (by rw [List.length_drop]; omega)] at h2
    exact h2.symm
  · intro h
    have hl := congrArg List.length h
    rw [List.length_drop] at hl
    refine ⟨by omega, ?_⟩
    rw [List.take_of_length_le (by rw [List.length_drop]; omega)]
    exact h.symm
theorem startswith_S (a b : List Nat) : Txt.startswith (S a) (S b) = b.isPrefixOf a := by
  unfold Txt.startswith
  rw [PySem.StrLaws.subAt_eq, S_len, S_len, Bool.eq_iff_iff, List.isPrefixOf_iff_prefix, List.prefix_iff_eq_take]
  simp only [Bool.and_eq_true, decide_eq_true_eq, beq_iff_eq, List.drop_zero]
  constructor
  · rintro ⟨h1, h2⟩
    exact h2.symm
  · intro h
    have hl := congrArg List.length h
    rw [List.length_take] at hl
    exact ⟨by omega, h.symm⟩
theorem join_nil (l : List (List Nat)) : Txt.join (S []) (l.map S) = S l.flatten := by
  rw [SX.join_S]
  congr 1
  induction l with
  | nil => rfl
  | cons x l ih =>
    cases l with
    | nil => simp [TL.joinL]
    | cons y l =>
      rw [List.flatten_cons, ← ih]
      simp [TL.joinL]
theorem flat_one (l : List Nat) : (l.map fun c => [c]).flatten = l := by
  induction l with
  | nil => rfl
  | cons x l ih => rw [List.map_cons, List.flatten_cons, ih]; rfl
end Sh
set_option Elab.async false
set_option linter.all false
set_option maxRecDepth 100000
set_option maxHeartbeats 4000000
namespace Sh
open PySem PySem.Spec PyProof.Rows L2
open SX (S S_inj S_len S_cat)
local macro_rules | `(tactic| walk_at "nx") => `(tactic| repeat (with_reducible first | refine Sh.gn_mk ?_ | refine Sh.nx_mk ?_ | refine Sh.st_nx ?_ | refine Sh.rt_mk ?_ | refine Sh.ct_mk ?_ | refine Sh.bk_mk ?_))
local macro_rules | `(tactic| walk_at "sq") => `(tactic| first | exact SqL.of upd_same | exact SqT.of upd_same | exact SqL.of (by assumption) | exact SqT.of (by assumption) | assumption | exact Or.inl (SqL.of (by assumption)) | exact Or.inr (SqT.of (by assumption)) | exact Or.inl (by assumption) | exact Or.inr (by assumption))
local macro_rules | `(tactic| walk_at "hp") => `(tactic| first | exact upd_same | assumption)
local macro_rules | `(tactic| walk_at "sz") => `(tactic| first | exact Nat.le_of_ble_eq_true rfl | omega)
local macro_rules | `(tactic| walk_at "sd") => `(tactic| first | omega | exact rfl | assumption | (show (0 : Int) < _; omega) | exact And.intro (by omega) (by omega) | exact Or.inl (And.intro (by omega) (by omega)) | exact Or.inr (And.intro (by omega) (by omega)) | omega | exact Sh.sz_S (by omega) | decide)
local macro_rules | `(tactic| walk_at "rd1") => `(tactic| first
  | (with_reducible first | refine Sh.gn_mk ?_ | refine Sh.nx_mk ?_ | refine Sh.st_nx ?_ | refine Sh.rt_mk ?_ | refine Sh.ct_mk ?_ | refine Sh.bk_mk ?_)
  | refine Exists.intro (α := V) _ (And.intro rfl ?_)
  | refine Exists.intro (α := Bool) _ (And.intro rfl ?_)
  | refine Exists.intro (α := Int) _ (And.intro rfl ?_)
  | refine Exists.intro (α := PySem.Str) _ (And.intro rfl ?_)
  | refine Exists.intro (α := Int) _ (Exists.intro (α := Int) _ (And.intro rfl (And.intro rfl ?_)))
  | refine Exists.intro (α := PySem.Str) _ (Exists.intro (α := PySem.Str) _ (And.intro rfl (And.intro rfl ?_)))
  | refine Exists.intro (α := Int) _ (Exists.intro (α := Int) _ (And.intro rfl ?_))
  | refine Or.inl (Exists.intro (α := Int) _ (And.intro rfl ?_))
  | refine Exists.intro _ (Exists.intro _ (Exists.intro _ (Exists.intro _ (And.intro rfl (And.intro rfl (And.intro (by walk_at "sq") (And.intro rfl ?_)))))))
  | refine Exists.intro _ (Exists.intro _ (Exists.intro _ (Exists.intro _ (And.intro rfl (And.intro rfl (And.intro (by walk_at "hp") (And.intro rfl ?_)))))))
  | refine And.intro (by walk_at "sd") ?_
  )
local macro_rules | `(tactic| walk_at "rd") => `(tactic| repeat walk_at "rd1")
local macro_rules | `(tactic| walk_at "lk") => `(tactic| first | exact rfl | (rw [lookup_putF, if_pos rfl]) | (rw [lookup_putF, if_neg (by decide +kernel)]; walk_at "lk"))

section
variable {P : Program} {w : World} {K : PySem.W.Frag} {mg : Str → Option Value} {base : Heap}
/-- the signs that the law draws -/
def sgMenu : List (List Nat) := [[97, 98], [97, 98, 99], [97, 98], [97, 99], [97, 98, 99], [98, 122], [97], [98, 99, 100], [97, 98], [107, 109, 122], [97, 98, 99], [120, 121]]
def spSigns : Sp := fun vs H Q _ => ∃ (a : Addr), vs = [.ref a] ∧ Src H a ∧ ∀ (sg : List Nat) (H' : Hp), sg ∈ sgMenu → Src H' a → But a H H' → Q (.str (S sg)) H'
theorem sgMenu_V : ([V.str "ab", V.str "abc", V.str "ab", V.str "ac", V.str "abc", V.str "bz", V.str "a", V.str "bcd", V.str "ab", V.str "kmz", V.str "abc", V.str "xy"] : List V) = sgMenu.map fun l => V.str (S l) := by decide +kernel
/-- a drawn text -/
def spText : Sp := fun vs H Q _ => ∃ (a : Addr) (sg : List Nat) (m : Int), vs = [.ref a, .str (S sg), .int m] ∧ Src H a ∧ 0 < sg.length ∧ sg.length ≤ 1000 ∧ 0 ≤ m ∧ m < 1000 ∧
  ∀ (t : List Nat) (H' : Hp), (t.length : Int) ≤ m → (∀ c ∈ t, c ∈ sg) → Src H' a → But a H H' → Q (.str (S t)) H'
theorem c__law_text (T : Txt K mg) : Cal P w K mg base CX0 2 "_law_text" spText := by
  have c__law_pick := c__law_pick (P := P) (w := w) (base := base) T
  refine Cal.mk0 T.d__law_text sc__law_text (fun vs H Q E h => ?_) (fun f cdv A outer s H vs Q E hr h => ?_)
  · obtain ⟨a, sg, m, rfl, _⟩ := h
    rfl
  · obtain ⟨a, sg, m, rfl, hs, hg0, hg1, hm0, hm1, k⟩ := h
    refine ⟨_, (pss_cons (ps_set (i := 3) sc__law_text.nd rfl (Or.inl rfl) pe_str)
  (pss_cons (ps_for PassesOwn.never rfl (pi_range1 (by rfl) T.b_range (pa_cons (pe_c c__law_pick hr (by decide) rfl (pa_cons (pv 0) (pa_cons (pe_op op_add (pv 2) pe_int) pa_nil))) pa_nil)) (pg_name (i := 4) sc__law_text.nd rfl (Or.inl rfl))
    (pss_one (ps_set (i := 3) sc__law_text.nd rfl (Or.inl rfl) (pe_op op_add_str (pv 3) (pe_ix ix_str (pv 1) (pe_c c__law_pick hr (by decide) rfl (pa_cons (pv 0) (pa_cons (pe_callB call_len_str (by rfl) T.b_len (by decide +kernel) (pa_cons (pv 1) pa_nil)) pa_nil))) (fun _ _ => rfl))))))
  (pss_one (ps_ret (pv 3))))), ?_⟩
    walk_at "rd"
    refine ⟨_, _, rfl, hs, by omega, by omega, fun n H1 n0 n1 s1 b1 => ?_⟩
    refine ⟨_, rfl, by omega, by omega, for_range (lo := 0) (n := n.toNat) (fun i σ H2 => ∃ (t : List Nat) (v : Option V), σ = [some (.ref a), some (.str (S sg)), some (.int m), some (.str (S t)), v] ∧ t.length = i ∧ (∀ c ∈ t, c ∈ sg) ∧ Src H2 a ∧ But a H H2)
      ⟨[], _, rfl, rfl, by simp, s1, b1⟩ ?_ ?_⟩
    · rintro i σ H2 hi ⟨t, v, rfl, ht, hc, s2, b2⟩
      refine ⟨_, rfl, _, rfl, _, rfl, _, rfl, _, rfl, sz_S (by omega), ?_⟩
      refine ⟨_, _, rfl, s2, by rw [S_len]; omega, by rw [S_len]; omega, fun r H3 r0 r1 s3 b3 => ?_⟩
      rw [S_len] at r1
      have hr2 : r.toNat < sg.length := by omega
      refine ⟨_, r, sg[r.toNat], rfl, rfl, sz_S (by omega), atI_at r0 (by show sg[r.toNat]? = _; simp [hr2]), ?_⟩
      refine ⟨_, _, rfl, rfl, by show (S t).length + (S [sg[r.toNat]]).length ≤ _; rw [S_len, S_len]; exact Nat.le_trans (m := 1000000) (by simp; omega) (by decide), ?_⟩
      refine ⟨t ++ [sg[r.toNat]], some (.int (0 + i)), ?_, by simp [ht], ?_, s3, b2.trans b3⟩
      · rw [← S_cat]; rfl
      · intro c hcc
        rcases List.mem_append.mp hcc with q | q
        · exact hc c q
        · rw [List.mem_singleton] at q; rw [q]; exact List.getElem_mem hr2
    · rintro σ H2 ⟨t, v, rfl, ht, hc, s2, b2⟩
      walk_at "rd"
      exact k _ _ (by omega) hc s2 b2
/-- (len(text), text) -/
def spKey : Sp := fun vs H Q _ => ∃ t : List Nat, vs = [.str (S t)] ∧ t.length ≤ 1000000 ∧ ∀ p, H p = none → Q (.ref p) (upd H p (.tup [.int t.length, .str (S t)]))
theorem c_text_key (T : Txt K mg) : Cal P w K mg base CX0 1 "text_key" spKey := by
  refine Cal.mk0 T.d_text_key sc_text_key (fun vs H Q E h => ?_) (fun f cdv A outer s H vs Q E hr h => ?_)
  · obtain ⟨t, rfl, _⟩ := h
    rfl
  · obtain ⟨t, rfl, ht, k⟩ := h
    refine ⟨_, (pss_one (ps_ret (pe_tup (pa_cons (pe_callB call_len_str (by rfl) T.b_len (by decide +kernel) (pa_cons (pv 0) pa_nil)) (pa_cons (pv 0) pa_nil))))), ?_⟩
    refine ⟨_, rfl, _, rfl, sz_S ht, _, rfl, by walk_at "sz", fun p hp => ?_⟩
    have q := k p hp
    rw [← S_len] at q
    exact q
/-- a drawn rule: its left side has 1 to longest signs, its right side none, or one and the left side two or more -/
def RuleOk (sg : List Nat) (m : Nat) (r : List Nat × List Nat) : Prop :=
  1 ≤ r.1.length ∧ r.1.length ≤ m ∧ (∀ c ∈ r.1, c ∈ sg) ∧ (∀ c ∈ r.2, c ∈ sg) ∧ r.2.length ≤ 1 ∧ r.2.length < r.1.length
def rTup (r : List Nat × List Nat) : List V := [.str (S r.1), .str (S r.2)]
def spRule : Sp := fun vs H Q _ => ∃ (a : Addr) (sg : List Nat) (m : Int), vs = [.ref a, .str (S sg), .int m] ∧ Src H a ∧ 0 < sg.length ∧ sg.length ≤ 1000 ∧ 1 ≤ m ∧ m ≤ 4 ∧
  ∀ (r : List Nat × List Nat) (p : Addr) (H' : Hp), RuleOk sg m.toNat r → Src H' a → But a H H' → H p = none → H' p = some (.tup (rTup r)) → Q (.ref p) H'
end
end Sh
set_option Elab.async false
set_option linter.all false
set_option maxRecDepth 100000
set_option maxHeartbeats 4000000
namespace Sh
open PySem PySem.Spec PyProof.Rows L2
open SX (S S_inj S_len S_cat)
local macro_rules | `(tactic| walk_at "nx") => `(tactic| repeat (with_reducible first | refine Sh.gn_mk ?_ | refine Sh.nx_mk ?_ | refine Sh.st_nx ?_ | refine Sh.rt_mk ?_ | refine Sh.ct_mk ?_ | refine Sh.bk_mk ?_))
local macro_rules | `(tactic| walk_at "sq") => `(tactic| first | exact SqL.of upd_same | exact SqT.of upd_same | exact SqL.of (by assumption) | exact SqT.of (by assumption) | assumption | exact Or.inl (SqL.of (by assumption)) | exact Or.inr (SqT.of (by assumption)) | exact Or.inl (by assumption) | exact Or.inr (by assumption))
local macro_rules | `(tactic| walk_at "hp") => `(tactic| first | exact upd_same | assumption)
local macro_rules | `(tactic| walk_at "sz") => `(tactic| first | exact Nat.le_of_ble_eq_true rfl | omega)
local macro_rules | `(tactic| walk_at "sd") => `(tactic| first | omega | exact rfl | assumption | (show (0 : Int) < _; omega) | exact And.intro (by omega) (by omega) | exact Or.inl (And.intro (by omega) (by omega)) | exact Or.inr (And.intro (by omega) (by omega)) | omega | exact Sh.sz_S (by omega) | decide)
local macro_rules | `(tactic| walk_at "rd1") => `(tactic| first
  | (with_reducible first | refine Sh.gn_mk ?_ | refine Sh.nx_mk ?_ | refine Sh.st_nx ?_ | refine Sh.rt_mk ?_ | refine Sh.ct_mk ?_ | refine Sh.bk_mk ?_)
  | refine Exists.intro (α := V) _ (And.intro rfl ?_)
  | refine Exists.intro (α := Bool) _ (And.intro rfl ?_)
  | refine Exists.intro (α := Int) _ (And.intro rfl ?_)
  | refine Exists.intro (α := PySem.Str) _ (And.intro rfl ?_)
  | refine Exists.intro (α := Int) _ (Exists.intro (α := Int) _ (And.intro rfl (And.intro rfl ?_)))
  | refine Exists.intro (α := PySem.Str) _ (Exists.intro (α := PySem.Str) _ (And.intro rfl (And.intro rfl ?_)))
  | refine Exists.intro (α := Int) _ (Exists.intro (α := Int) _ (And.intro rfl ?_))
  | refine Or.inl (Exists.intro (α := Int) _ (And.intro rfl ?_))
  | refine Exists.intro _ (Exists.intro _ (Exists.intro _ (Exists.intro _ (And.intro rfl (And.intro rfl (And.intro (by walk_at "sq") (And.intro rfl ?_)))))))
  | refine Exists.intro _ (Exists.intro _ (Exists.intro _ (Exists.intro _ (And.intro rfl (And.intro rfl (And.intro (by walk_at "hp") (And.intro rfl ?_)))))))
  | refine And.intro (by walk_at "sd") ?_
  )
local macro_rules | `(tactic| walk_at "rd") => `(tactic| repeat walk_at "rd1")
local macro_rules | `(tactic| walk_at "lk") => `(tactic| first | exact rfl | (rw [lookup_putF, if_pos rfl]) | (rw [lookup_putF, if_neg (by decide +kernel)]; walk_at "lk"))

theorem tNil_mk {σ : L2.St} {H : Hp} {Q : List V → Hp → Prop} (h : Q [] H) : tNil σ H Q := h
theorem perm_er {α : Type} : ∀ (l : List α) (n : Nat) (h : n < l.length), (l[n] :: l.eraseIdx n).Perm l
  | _ :: _, 0, _ => List.Perm.refl _
  | x :: l, n + 1, h => (List.Perm.swap x (l[n]'(Nat.lt_of_succ_lt_succ h)) (l.eraseIdx n)).trans ((perm_er l n (Nat.lt_of_succ_lt_succ h)).cons x)
section
variable {P : Program} {w : World} {K : PySem.W.Frag} {mg : Str → Option Value} {base : Heap}
def spShuf (K : PySem.W.Frag) : Sp := fun vs H Q _ => ∃ (a q : Addr) (xs : List V), vs = [.ref a, .ref q] ∧ Src H a ∧ SqL K H q xs ∧ xs.length ≤ 100000 ∧
  ∀ (p : Addr) (ys : List V) (H' : Hp), ys.Perm xs → H' p = some (.lst ys) → Src H' a → But a H H' → H p = none → Q (.ref p) H'
theorem c__law_shuffled (T : Txt K mg) : Cal P w K mg base CX0 2 "_law_shuffled" (spShuf K) := by
  have c__law_pick := c__law_pick (P := P) (w := w) (base := base) T
  refine Cal.mk0 T.d__law_shuffled sc__law_shuffled (fun vs H Q E h => ?_) (fun f cdv A outer s H vs Q E hr h => ?_)
  · obtain ⟨a, q, xs, rfl, _⟩ := h
    rfl
  · obtain ⟨a, q, xs, rfl, hS, hq, hl, k⟩ := h
    refine ⟨_, (pss_cons (ps_set (i := 2) sc__law_shuffled.nd rfl (Or.inl rfl) (pe_lst pa_nil))
  (pss_cons (ps_set (i := 1) sc__law_shuffled.nd rfl (Or.inl rfl) (pe_callTy call_list_of (by rfl) T.b_list (by decide +kernel) (pa_cons (pv 1) pa_nil)))
  (pss_cons (ps_while PassesOwn.never (pt_truth (pv 1) (by intro _; rfl))
    (pss_one (ps_expr (pe_bm PySem.F.plainAttrs_list PySem.F.slot_list_append PySem.F.type_list_append mt_append (pv 2) (pa_cons (pe_bm PySem.F.plainAttrs_list PySem.F.slot_list_pop PySem.F.type_list_pop mt_popAt (pv 1) (pa_cons (pe_c c__law_pick hr (by decide) rfl (pa_cons (pv 0) (pa_cons (pe_callB call_len_seq (by rfl) T.b_len (by decide +kernel) (pa_cons (pv 1) pa_nil)) pa_nil))) pa_nil)) pa_nil)))))
  (pss_one (ps_ret (pv 2)))))), ?_⟩
    refine ⟨by walk_at "sz", fun p hp => ?_⟩
    have s1 := same_new (o := .lst []) hp
    have e1 : (upd H p (.lst [])) p = some (.lst []) := upd_same
    generalize upd H p (.lst []) = H1 at s1 e1 ⊢
    walk_at "nx"
    refine ⟨_, rfl, q, xs, rfl, .inl (s1.seq hq), fun r hr => ?_⟩
    have s2 := same_new (o := .lst xs) hr
    have e2 : (upd H1 r (.lst xs)) r = some (.lst xs) := upd_same
    have hrp : r ≠ p := (ne_of_none e1 hr).symm
    have hr0 : H r = none := by
      cases e : H r with
      | none => rfl
      | some o => rw [s1 _ _ e] at hr; cases hr
    generalize upd H1 r (.lst xs) = H2 at s2 e2 ⊢
    have hS2 : Src H2 a := by
      obtain ⟨d, e, c, z⟩ := hS
      exact ⟨d, e, c, s2 _ _ (s1 _ _ z)⟩
    have hpa : p ≠ a := by
      obtain ⟨d, e, c, z⟩ := hS
      exact (ne_of_none z hp).symm
    have hra : r ≠ a := by
      obtain ⟨d, e, c, z⟩ := hS
      exact (ne_of_none z hr0).symm
    walk_at "nx"
    refine ⟨fun m σ H' => ∃ (ts rs : List V), σ = [some (.ref a), some (.ref r), some (.ref p)] ∧ H' p = some (.lst ts) ∧ H' r = some (.lst rs) ∧ (ts ++ rs).Perm xs ∧ m = rs.length ∧ Src H' a ∧ But a H H', ⟨xs.length, [], xs, rfl, s2 _ _ e1, e2, List.Perm.refl _, rfl, hS2, But.same (s1.trans s2)⟩, ?_⟩
    rintro m σ H' ⟨ts, rs, rfl, hp', hr', hpm, rfl, hS', b'⟩
    cases rs with
    | nil =>
      refine ⟨_, rfl, false, .inl ⟨[], SqL.of hr', rfl⟩, ?_⟩
      refine iteF ?_
      walk_at "rd"
      rw [List.append_nil] at hpm
      exact k p ts H' hpm hp' hS' b' hp
    | cons x rs =>
      refine ⟨_, rfl, true, .inl ⟨_, SqL.of hr', rfl⟩, ?_⟩
      refine iteT ⟨_, fun _ _ h => h, ?_⟩
      have hlen := hpm.length_eq
      rw [List.length_append, List.length_cons] at hlen
      refine ⟨_, rfl, .inl ⟨rfl, _, SqL.of hp'⟩, ?_⟩
      refine ⟨_, rfl, .inl ⟨rfl, _, SqL.of hr'⟩, ?_⟩
      refine ⟨_, rfl, _, rfl, r, _, rfl, .inl (SqL.of hr'), ?_⟩
      refine tNil_mk ?_
      refine ⟨a, _, rfl, hS', by rw [List.length_cons]; omega, by rw [List.length_cons]; omega, fun n H3 n0 n1 hS3 b3 => ?_⟩
      rw [List.length_cons] at n1
      have hp3 := b3 _ _ hpa hp'
      have hr3 := b3 _ _ hra hr'
      have hn : n.toNat < (x :: rs).length := by rw [List.length_cons]; omega
      refine tNil_mk ?_
      have hy : (x :: rs)[n.toNat]? = some (x :: rs)[n.toNat] := List.getElem?_eq_getElem hn
      refine ⟨r, _, _, n.toNat, _, rfl, rfl, hr3, by omega, by omega, seqIndex_of n0 (by rw [List.length_cons]; omega), hy, ?_⟩
      refine tNil_mk ?_
      have hp4 : (upd H3 r (.lst ((x :: rs).eraseIdx n.toNat))) p = some (.lst ts) := by rw [upd_ne hrp.symm]; exact hp3
      refine ⟨p, _, _, rfl, rfl, hp4, Nat.lt_of_le_of_lt (m := 100000) (by omega) (by decide), ?_⟩
      have hel : ((x :: rs).eraseIdx n.toNat).length = rs.length := by rw [List.length_eraseIdx_of_lt hn]; rfl
      refine ⟨((x :: rs).eraseIdx n.toNat).length, by rw [hel, List.length_cons]; omega, ts ++ [(x :: rs)[n.toNat]], (x :: rs).eraseIdx n.toNat, rfl, upd_same, ?_, ?_, rfl, ?_, ?_⟩
      · rw [upd_ne hrp]; exact upd_same
      · rw [List.append_assoc]
        exact ((List.Perm.refl ts).append (perm_er _ _ hn)).trans hpm
      · obtain ⟨d, e, c, z⟩ := hS3
        exact ⟨d, e, c, by rw [upd_ne hpa.symm, upd_ne hra.symm]; exact z⟩
      · exact but_mut (but_mut (b'.trans b3) hr0) hp
end
end Sh
/-! groups by their tables; plain Lean -/
namespace Gp
/-- the table of a code: cyclic ones, two pairs, the exchanges of three things -/
def prodT (c : Nat) : List (List Nat) :=
  if c < 7 then (List.range c).map fun i => (List.range c).map fun j => (i + j) % c
  else if c = 7 then [[0, 1, 2, 3], [1, 0, 3, 2], [2, 3, 0, 1], [3, 2, 1, 0]]
  else [[0, 1, 2, 3, 4, 5], [1, 2, 0, 4, 5, 3], [2, 0, 1, 5, 3, 4], [3, 5, 4, 0, 2, 1], [4, 3, 5, 1, 0, 2], [5, 4, 3, 2, 1, 0]]
def mulT (c g h : Nat) : Nat := ((prodT c).getD g []).getD h 0
/-- how many elements -/
def ordT (c : Nat) : Nat := (prodT c).length
theorem ord_eq : ∀ c < 9, ordT c = [0, 1, 2, 3, 4, 5, 6, 4, 6].getD c 0 := by decide
theorem mul_lt : ∀ c < 9, ∀ g < ordT c, ∀ h < ordT c, mulT c g h < ordT c := by decide
theorem mul_one : ∀ c < 9, ∀ g < ordT c, mulT c g 0 = g ∧ mulT c 0 g = g := by decide
theorem mul_assoc : ∀ c < 9, ∀ g < ordT c, ∀ h < ordT c, ∀ k < ordT c, mulT c (mulT c g h) k = mulT c g (mulT c h k) := by decide +kernel
theorem mul_inv : ∀ c < 9, ∀ g < ordT c, ∃ h, h < ordT c ∧ mulT c g h = 0 ∧ mulT c h g = 0 := by decide +kernel
theorem row_len : ∀ c < 9, ∀ r ∈ prodT c, r.length = ordT c := by decide
/-- the exchanges of three things -/
def turns : List (Nat × Nat × Nat) := [(0, 1, 2), (1, 2, 0), (2, 0, 1), (1, 0, 2), (0, 2, 1), (2, 1, 0)]
def at3 (t : Nat × Nat × Nat) (i : Nat) : Nat := [t.1, t.2.1, t.2.2].getD i 0
def comp3 (o a : Nat × Nat × Nat) : Nat × Nat × Nat := (at3 o (at3 a 0), at3 o (at3 a 1), at3 o (at3 a 2))
theorem turns_idx : ∀ a ∈ turns, ∀ o ∈ turns, comp3 o a ∈ turns := by decide
theorem turns_prod : prodT 8 = turns.map fun a => turns.map fun o => turns.idxOf (comp3 o a) := by decide
end Gp
set_option Elab.async false
set_option linter.all false
set_option maxRecDepth 100000
/-! method calls of lists within a comprehension -/
namespace Sh
open PySem PySem.Spec PyProof.Rows L2
section
variable {X : Cx} {s : Shared} {H : Hp} {sc : Scope} {ce : Env} {fp : List Addr}
theorem mt_indexDB (hu : X.A.units + 65 < cLine) : MtR (X.blk s H sc ce fp) "list.index" (rIndexD X.K) := mt_indexD (X := X.blk s H sc ce fp) hu
theorem op_eqDB (hu : X.A.units + 64 < cLine) : OpR (X.blk s H sc ce fp) (compareOp .Eq) (rEqD X.K) := op_eqD (X := X.blk s H sc ce fp) hu
theorem op_neDB (hu : X.A.units + 64 < cLine) : OpR (X.blk s H sc ce fp) (compareOp .NotEq) (rNeD X.K) := op_neD (X := X.blk s H sc ce fp) hu
variable {o e : Expr} {es : List Expr} {to : TE} {t : TA} {name : Str} {apos cpos : Pos} {T id : String} {r : V → List V → Hp → VK → Prop}
theorem pe_bmB (pa : PlainAttrs T) (slot : Slot T name id) (hty : typeOf (.builtin id) = pure (.type "method_descriptor")) (hm : MtR (X.blk s H sc ce fp) id r) (ho : PE (X.blk s H sc ce fp) o to) (ha : PA (X.blk s H sc ce fp) (e :: es) t)
    (hbase : attributeBase o name (X.blk s H sc ce fp).env (eval o (X.blk s H sc ce fp).env) = eval o (X.blk s H sc ce fp).env := by rfl)
    (hfew : ((backTo cpos (starEach (e :: es) (X.blk s H sc ce fp).env)).all (fun x => !x.1) && (backToKw cpos (keywordEach [] (X.blk s H sc ce fp).env)).all (fun x => x.1.isSome)
      && decide ((e :: es).length + ([] : List Keyword).length + (if ([] : List Keyword).isEmpty then 0 else 1) < 30)) = true := by rfl)
    (hline : (apos.endLine == cpos.line) = true := by rfl) (hs : starEach (e :: es) (X.blk s H sc ce fp).env = (false, eval e (X.blk s H sc ce fp).env) :: starEach es (X.blk s H sc ce fp).env := by rfl) (hplain : (backTo cpos (starEach es (X.blk s H sc ce fp).env)).any (·.1) = false := by rfl) :
    PE (X.blk s H sc ce fp) (.Call (.Attribute o name apos) (e :: es) [] cpos) (tBM X.K T r to t) := pe_bm pa slot hty hm ho ha hbase hfew hline hs hplain
end
end Sh
set_option Elab.async false
set_option linter.all false
set_option maxRecDepth 100000
namespace Sh
open PySem PySem.Spec PyProof.Rows L2
/-! ### t < u of tuples of ints and texts -/
def sameK : V → V → Bool
  | .int _, .int _ => true
  | .str _, .str _ => true
  | _, _ => false
def sameKs : List V → List V → Bool
  | x :: xs, y :: ys => sameK x y && sameKs xs ys
  | _, _ => true
def vLt : V → V → Bool
  | .int i, .int j => decide (i < j)
  | .str a, .str b => decide (a.cps.toList < b.cps.toList)
  | _, _ => false
def tupLt : List V → List V → Bool
  | [], [] => false
  | [], _ :: _ => true
  | _ :: _, [] => false
  | x :: xs, y :: ys => if x = y then tupLt xs ys else vLt x y
theorem lexAt_tup : ∀ (xs ys : List V) (e r : Nat → Bool) (k : Nat), sameKs xs ys = true →
    (∀ j x y, xs[j]? = some x → ys[j]? = some y → e (k + j) = decide (x = y)) → (∀ j x y, xs[j]? = some x → ys[j]? = some y → r (k + j) = vLt x y) →
    Ob.lexAt e r (decide (xs.length < ys.length)) k (min xs.length ys.length) = tupLt xs ys
  | [], [], e, r, k, _, _, _ => rfl
  | [], _ :: _, e, r, k, _, _, _ => by
    show Ob.lexAt e r (decide (0 < _ + 1)) k 0 = true
    rw [Ob.lexAt_zero]
    exact decide_eq_true (by omega)
  | _ :: _, [], e, r, k, _, _, _ => by
    show Ob.lexAt e r (decide (_ + 1 < 0)) k 0 = false
    rw [Ob.lexAt_zero]
    exact decide_eq_false (by omega)
  | x :: xs, y :: ys, e, r, k, hs, he, hr => by
    have e0 := he 0 x y rfl rfl
    have r0 := hr 0 x y rfl rfl
    rw [Nat.add_zero] at e0 r0
    have hs2 : sameKs xs ys = true := by
      have : (sameK x y && sameKs xs ys) = true := hs
      rw [Bool.and_eq_true] at this
      exact this.2
    have ih := lexAt_tup xs ys e r (k + 1) hs2 (fun j a b h1 h2 => by have := he (j + 1) a b (by simpa using h1) (by simpa using h2); rw [← this]; congr 1; omega)
      (fun j a b h1 h2 => by have := hr (j + 1) a b (by simpa using h1) (by simpa using h2); rw [← this]; congr 1; omega)
    have em : min (x :: xs).length (y :: ys).length = min xs.length ys.length + 1 := by simp only [List.length_cons]; omega
    have el : decide ((x :: xs).length < (y :: ys).length) = decide (xs.length < ys.length) := by
      simp only [List.length_cons]
      exact decide_eq_decide.mpr (by omega)
    rw [em, el, Ob.lexAt_succ, e0, r0, ih]
    show _ = if x = y then tupLt xs ys else vLt x y
    by_cases h : x = y
    · rw [if_pos h, if_pos (decide_eq_true h)]
    · rw [if_neg h, if_neg (by simpa using h)]
theorem sameKs_get : ∀ {xs ys : List V}, sameKs xs ys = true → ∀ {j : Nat} {x y : V}, xs[j]? = some x → ys[j]? = some y → sameK x y = true
  | [], _, _, j, _, _, h, _ => by simp at h
  | _ :: _, [], _, j, _, _, _, h => by simp at h
  | x :: xs, y :: ys, hs, j, a, b, h1, h2 => by
    have hs' : (sameK x y && sameKs xs ys) = true := hs
    rw [Bool.and_eq_true] at hs'
    cases j with
    | zero => simp at h1 h2; subst h1; subst h2; exact hs'.1
    | succ j => exact sameKs_get hs'.2 (by simpa using h1) (by simpa using h2)
def rLtTM (K : PySem.W.Frag) : R2 := fun x y H Q => ∃ a b xs ys, x = .ref a ∧ y = .ref b ∧ SqT K H a xs ∧ SqT K H b ys ∧ sameKs xs ys = true ∧ Q (.bl (tupLt xs ys)) H
theorem op_ltTM {X : Cx} (hu : X.A.units + 64 < cLine) : OpR X (compareOp .Lt) (rLtTM X.K) := by
  intro pins s σ H x y v u Q I rx ry h
  obtain ⟨a, b, xs, ys, rfl, rfl, ha, hb, hk, q⟩ := h
  cases rx
  cases ry
  obtain ⟨its, r1, p1, _⟩ := I.tuple ha
  obtain ⟨its2, r2, p2, _⟩ := I.tuple hb
  have l1 : its.toArray.size = xs.length := by rw [List.size_toArray]; exact r1.length.symm
  have l2 : its2.toArray.size = ys.length := by rw [List.size_toArray]; exact r2.length.symm
  have get : ∀ (j : Nat) (h1 : j < its.toArray.size) (h2 : j < its2.toArray.size), ∃ x y, xs[j]? = some x ∧ ys[j]? = some y ∧ RelV x its.toArray[j] ∧ RelV y its2.toArray[j] ∧ sameK x y = true := by
    intro j h1 h2
    have g1 : j < xs.length := l1 ▸ h1
    have g2 : j < ys.length := l2 ▸ h2
    obtain ⟨u1, e1, q1⟩ := r1.get (List.getElem?_eq_getElem g1)
    obtain ⟨u2, e2, q2⟩ := r2.get (List.getElem?_eq_getElem g2)
    have f1 : its.toArray[j] = u1 := by
      have : its[j]? = some its[j] := List.getElem?_eq_getElem (by simpa using h1)
      rw [this] at e1
      simpa using Option.some.inj e1
    have f2 : its2.toArray[j] = u2 := by
      have : its2[j]? = some its2[j] := List.getElem?_eq_getElem (by simpa using h2)
      rw [this] at e2
      simpa using Option.some.inj e2
    exact ⟨xs[j], ys[j], List.getElem?_eq_getElem g1, List.getElem?_eq_getElem g2, f1 ▸ q1, f2 ▸ q2, sameKs_get hk (List.getElem?_eq_getElem g1) (List.getElem?_eq_getElem g2)⟩
  let e : Nat → Bool := fun j => match xs[j]?, ys[j]? with
    | some x, some y => decide (x = y)
    | _, _ => false
  let r : Nat → Bool := fun j => match xs[j]?, ys[j]? with
    | some x, some y => vLt x y
    | _, _ => false
  have key := Ob.RcOp.tuples_lt (A := X.A) (s := s) (e := e) (r := r) p1 p2 (by omega) (fun j h1 h2 => ?_) (fun j h1 h2 _ => ?_)
  · rw [l1, l2, lexAt_tup xs ys e r 0 hk (fun j x y h1 h2 => by rw [Nat.zero_add]; simp only [e, h1, h2]) (fun j x y h1 h2 => by rw [Nat.zero_add]; simp only [r, h1, h2])] at key
    exact key X.prog X.w X.xe _ ⟨.bl (tupLt xs ys), H, I, rfl, q⟩
  · obtain ⟨x, y, g1, g2, q1, q2, hk2⟩ := get j h1 h2
    have he : e j = decide (x = y) := by simp only [e, g1, g2]
    rw [he]
    cases x <;> cases y <;> first | cases hk2 | skip
    · obtain ⟨t1, z1⟩ := q1
      obtain ⟨t2, z2⟩ := q2
      rw [z1, z2]
      have := SeqAt.EqAt.int_int (A := X.A.in1) (s := s)
      rename_i i k
      have w1 := this i t1 k t2
      have w2 : (i == k) = decide (V.int i = V.int k) := by
        by_cases hh : i = k
        · subst hh; simp
        · rw [decide_eq_false (fun z => hh (V.int.inj z))]; exact beq_eq_false_iff_ne.mpr hh
      rw [w2] at w1
      exact w1
    · obtain ⟨t1, z1⟩ := q1
      obtain ⟨t2, z2⟩ := q2
      rw [z1, z2]
      have := SeqAt.EqAt.str_str (A := X.A.in1) (s := s)
      rename_i i k
      have w1 := this i t1 k t2
      have w2 : (i == k) = decide (V.str i = V.str k) := by
        by_cases hh : i = k
        · subst hh; simp
        · rw [decide_eq_false (fun z => hh (V.str.inj z))]; exact beq_eq_false_iff_ne.mpr hh
      rw [w2] at w1
      exact w1
  · obtain ⟨x, y, g1, g2, q1, q2, hk2⟩ := get j h1 h2
    have he : r j = vLt x y := by simp only [r, g1, g2]
    rw [he]
    cases x <;> cases y <;> first | cases hk2 | skip
    · obtain ⟨t1, z1⟩ := q1
      obtain ⟨t2, z2⟩ := q2
      rw [z1, z2]
      exact Ob.RcOp.lt_int _ _ _ _
    · obtain ⟨t1, z1⟩ := q1
      obtain ⟨t2, z2⟩ := q2
      rw [z1, z2]
      exact fun _ _ _ _ h => PyProof.Rows.lt_str h
/-! ### repr of data of None, bools, ints, texts and tuples -/
theorem call_reprD {X : Cx} (hg : X.A.guards = some []) (hu : X.A.units + 64 < cLine) :
    CallR X (.builtin "repr") (fun xs H Q => ∃ v d, xs = [v] ∧ Dp X.K H v d ∧ d.showable = true ∧ d.hasDict = false ∧ d.depth ≤ 60 ∧ d.shown.length ≤ sizeLine ∧ Q (.str d.shown) H) := by
  intro pins s σ H xs us Q I r h
  obtain ⟨v, d, rfl, hd, h1, h2, h3, h4, q⟩ := h
  cases r with
  | cons rv rn =>
    cases rn
    rename_i u
    obtain ⟨as, hr⟩ := Dp.reads I d v u hd rv
    have big : ∀ a : Addr, u = .ref a → wpAny (model X.prog X.w) X.A (call (.builtin "repr") [u]) (EP X pins σ Q) X.xe s := fun a e => by
      subst e
      exact PySem.repr_of_reads' hr h1 (fun z => by rw [h2] at z; cases z) hg (by omega) (fun _ _ e => e) (fun h' w tk k => ⟨.str d.shown, H, I.kept k, ⟨_, rfl⟩, q⟩) h4
    cases hd with
    | non =>
      cases (show u = Value.none from rv)
      exact PySem.P.repr_of_none ⟨.str _, H, I.tok _, ⟨_, rfl⟩, q⟩
    | bl b =>
      cases (show u = Value.bool b from rv)
      refine PySem.P.repr_of_bool ⟨.str _, H, I.tok _, ⟨_, rfl⟩, q⟩
    | int i =>
      obtain ⟨t, e⟩ := (show ∃ t, u = Value.int i t from rv)
      subst e
      have h1' : i.natAbs.log2 < 1920 := by simpa [PyData.showable] using h1
      exact PySem.P.repr_of_int h1' ⟨.str _, H, I.tok _, ⟨_, rfl⟩, q⟩
    | str x =>
      obtain ⟨t, e⟩ := (show ∃ t, u = Value.str x t from rv)
      subst e
      exact PySem.P.repr_of_str ⟨.str _, H, I.tok _, ⟨_, rfl⟩, q⟩ h4
    | lst hs ha => exact big _ rv
    | tup hs ha => exact big _ rv
end Sh
set_option Elab.async false
set_option linter.all false
set_option maxRecDepth 100000
set_option maxHeartbeats 2000000
namespace Sh
open PySem PySem.Spec PyProof.Rows
section
variable {prog : Program} {w : World} {A : Around} {E : Value → Shared → Prop} {s : Shared} {K : PySem.W.Frag} {x C f : Addr} {ox : Obj} {odd : Option Obj}
theorem truthy_own {Q : Bool → Shared → Prop} (X : K.In s.heap) (I : PySem.W.InstAt s.heap x ox C odd) (hs : PySem.W.findIn K (.ref C) "__bool__" = some (some (.ref f))) (hf : PySem.W.isFn K (.ref f) = true)
    (h : wpAny (model prog w) A (call (.ref f) [.ref x]) (fun r s₁ => ∃ b, r = Value.bool b ∧ Q b s₁) E s) : wpAny (model prog w) A (truthy (.ref x)) Q E s := by
  unfold truthy
  first
    | refine wpAny_bind (m := callSpecial? (.ref x) (Str.ofString "__bool__")) (PySem.W.special_fn X I hs (beq_iff_eq.mp hf) (wpAny_mono h (fun r s' hr => ?_) fun _ _ y => y))
    | refine wpAny_bind (wpAny_pure (wpAny_bind (m := callSpecial? (.ref x) (Str.ofString "__bool__")) (PySem.W.special_fn X I hs (beq_iff_eq.mp hf) (wpAny_mono h (fun r s' hr => ?_) fun _ _ y => y))))
  obtain ⟨b, rfl, hq⟩ := hr
  first
    | exact wpAny_pure hq
    | exact wpAny_bind (wpAny_pure hq)
theorem meets_bool_own : MeetsIn prog w (Builtin.«bool.__new__» ⟨[.type "bool", .ref x], []⟩) (fun A R s => K.In s.heap ∧ PySem.W.InstAt s.heap x ox C odd ∧ PySem.W.findIn K (.ref C) "__bool__" = some (some (.ref f)) ∧ PySem.W.isFn K (.ref f) = true ∧
    wpAny (model prog w) A.in1 (call (.ref f) [.ref x]) (fun r s₁ => ∃ b, r = Value.bool b ∧ R (.ok (.ret (.bool b))) s₁) (fun e s' => R (.error e) s') s) :=
  MeetsIn.of_wp fun A R s hs => by
    obtain ⟨X, I, h1, h2, h⟩ := hs
    have f1 := F.conv_sub_bool
    have key : ∀ Q : Bool → Shared → Prop, (∀ b s₁, R (.ok (.ret (.bool b))) s₁ → Q b s₁) → wpAny (model prog w) A.in1 (truthy (.ref x)) Q (fun e s' => R (.error e) s') s := fun Q hq =>
      truthy_own X I h1 h2 (wpAny_mono h (fun r s₁ ⟨b, e, k⟩ => ⟨b, e, hq b s₁ k⟩) fun _ _ z => z)
    obtain ⟨hp, g, d, tk, os⟩ := s
    repeat (any_goals (first | assumption | (with_reducible refine key _ fun b s₁ k => ?_) | wp_step))
    all_goals first | exact ⟨_, rfl, by assumption⟩ | skip
theorem call_bool_own {Q : Value → Shared → Prop} (X : K.In s.heap) (I : PySem.W.InstAt s.heap x ox C odd) (hs : PySem.W.findIn K (.ref C) "__bool__" = some (some (.ref f))) (hf : PySem.W.isFn K (.ref f) = true)
    (h : wpAny (model prog w) A.in1.in1 (call (.ref f) [.ref x]) (fun r s₁ => ∃ b, r = Value.bool b ∧ Q r s₁) E s) : wpAny (model prog w) A (call (.type "bool") [.ref x]) Q E s := by
  refine callType_newIn F.called_bool F.newNe_bool (F.typeCall_bool_1 _) (F.newCall_bool_1 _) (fun obj => F.args_object_init_2 obj _) F.entry_bool_new (meets_bool_own (K := K) (C := C) (f := f) (ox := ox) (odd := odd)) ⟨X, I, hs, hf, ?_⟩
  refine wpAny_mono h (fun r s₁ ⟨b, e, k⟩ => ⟨b, e, ?_⟩) fun _ _ z => z
  subst e
  exact ⟨rfl, k⟩
end
end Sh
namespace Sh
open PySem PySem.Spec PyProof.Rows L2
section
variable {X : Cx} {CX : CXT} {C g : Addr} {n : Nat} {sp : Sp} {E : XK}
theorem fnR_of {P : Program} {w : World} {K : PySem.W.Frag} {mg : Str → Option Value} {base : Heap} {k : Nat} {f : Addr} {fd : FuncData} {ps : List Str} (F : FnOk P w K mg base CX k f fd ps sp) (b : Binds K fd ps []) : FnR P w K mg base CX k f sp := by
  intro A outer s H us vs Q E hr e0 r h
  have hl := F.len _ _ _ _ h
  have KX : K.In s.heap := e0.mod.kin.keeps fun b o e => (e0.bs b o e).1
  have hul : (us ++ []).length = ps.length := by rw [List.append_nil, ← r.length]; exact hl
  have hb := b s us KX hul
  rw [List.append_nil] at hb
  exact F.run A outer s H ⟨us, []⟩ us vs Q E hr e0 hb r h
/-- the callee runs below the running body -/
theorem run_in {pins : List (Addr × Obj)} {σ : L2.St} {H : Hp} {s : Shared} {A : Around} {Q : VK} {us : List Value} {ws : List V} (F : FnR X.prog X.w X.K X.mg X.base CX n g sp) (hr : Room n A) (e0 : Env0 X.prog X.w X.K X.mg X.base A X.stack s H) (hx : Passes CX X E)
    (I : Inv X pins σ H s) (r : Vals ws us) (h : sp ws H Q E) : wpAny (model X.prog X.w) A (call (.ref g) us) (EP X pins σ Q) X.xe s := by
  refine wpAny_call (codeAny_mono (F A X.stack s H us ws Q E hr e0 r h) fun r s' hq => ?_)
  cases r with
  | error e => exact hx pins σ H s e s' I hq
  | ok fl =>
    cases fl with
    | ret u => exact I.after hq
    | next => exact False.elim hq
    | brk => exact False.elim hq
    | cont => exact False.elim hq
/-- bool(x), x an instance of the class at C with an own __bool__ -/
def rBoolO (C : Addr) (sp : Sp) (E : XK) : List V → Hp → VK → Prop := fun xs H Q => ∃ a dx fs, xs = [V.ref a] ∧ H a = some (.ins C dx fs) ∧ sp [.ref a] H (fun z H' => ∃ b, z = .bl b ∧ Q z H') E
theorem call_boolO (hs : PySem.W.findIn X.K (.ref C) "__bool__" = some (some (.ref g))) (hf : PySem.W.isFn X.K (.ref g) = true) (F : FnR X.prog X.w X.K X.mg X.base CX n g sp) (hr : Room (n + 2) X.A) (hx : Passes CX X E) : CallR X (.type "bool") (rBoolO C sp E) := by
  intro pins s σ H xs us Q I r h
  obtain ⟨a, dx, fs, rfl, ha, q⟩ := h
  obtain rfl := Vals.ref1 r
  obtain ⟨ox, od, J, _⟩ := StX.insC_at (C := C) I (.inr ⟨dx, fs, ha⟩)
  have hr2 : Room n X.A.in1.in1 := (show Room (n + 1) X.A.in1 from Room.in1 hr).in1
  refine call_bool_own I.kIn J hs hf (wpAny_mono (run_in (us := [.ref a]) (ws := [.ref a]) F hr2 I.env0.in1.in1 hx I (.cons rfl .nil) q) (fun v s' z => ?_) fun _ _ x => x)
  obtain ⟨z', H', I', rz, b, eb, qz⟩ := z
  subst eb
  cases (show v = Value.bool b from rz)
  exact ⟨b, rfl, .bl b, H', I', rfl, qz⟩
end
end Sh
set_option Elab.async false
set_option linter.all false
set_option maxRecDepth 100000
set_option maxHeartbeats 2000000
namespace Sh
open PySem PySem.Spec PyProof.Rows L2
/-- a class of the text -/
structure ClassAt (K : PySem.W.Frag) (mg : Str → Option Value) (x : Str) (C : Addr) : Prop where
  cl : Cls K C
  mgC : mg x = some (.ref C)
  makes : PySem.W.makesIn K C = true
  kp : PySem.W.keepIn K (.ref C) = true
/-- a method of the class at C -/
structure MethAt (K : PySem.W.Frag) (C : Addr) (m q : Str) (st : Stmt) (ps : List Str) : Prop where
  ex : ∃ (f : Addr) (fd : FuncData), L2.Fun K m q st f fd ∧ Binds K fd ps [] ∧ PySem.W.findIn K (.ref C) m = some (some (.ref f)) ∧ PySem.W.isFn K (.ref f) = true ∧ PySem.W.fnIn K f = true
structure MetC (P : Program) (w : World) (K : PySem.W.Frag) (mg : Str → Option Value) (base : Heap) (k : Nat) (C : Addr) (m : Str) (sp : Sp) : Prop where
  ex : ∃ (f : Addr) (fd : FuncData) (ps : List Str), FnOk P w K mg base CX0 k f fd ps sp ∧ Binds K fd ps [] ∧ PySem.W.findIn K (.ref C) m = some (some (.ref f)) ∧ PySem.W.isFn K (.ref f) = true ∧ PySem.W.fnIn K f = true
section
variable {P : Program} {w : World} {K : PySem.W.Frag} {mg : Str → Option Value} {base : Heap}
theorem MetC.mk0 {m q : Str} {C : Addr} {st : Stmt} {N ps : List Str} {k : Nat} {sp : Sp} (D : MethAt K C m q st ps) (S : FnScope N ps (defScope st)) (len : ∀ vs H Q E, sp vs H Q E → vs.length = ps.length)
    (hbody : ∀ (f : Addr) (cdv : Value) (A : Around) (outer : List Env) (s : Shared) (H : Hp) (vs : List V) (Q : VK) (E : XK), Room k (A.deeper (envOfC q (defScope st) s.heap.objs.size f cdv)) → sp vs H Q E →
      ∃ t, PSs (cxOf CX0 P w K mg base N q (defScope st) f cdv A outer s H E).nox (defBody st) t ∧ t { nx := fun _ H' => Q .non H', rt := Q } (start N vs) H) : MetC P w K mg base (k + 1) C m sp := by
  obtain ⟨f, fd, F, b, i, n, o⟩ := D.ex
  exact ⟨f, fd, ps, F.ok S len (hbody f), b, i, n, o⟩
end
section
variable {X : Cx} {k j : Nat} {x m : Str} {C : Addr} {sp : Sp} {p pos : Pos} {e fe : Expr} {es : List Expr} {t : TA} {tf : TE}
/-- C(e, ..) -/
theorem pe_mkC (c : ClassAt X.K X.mg x C) (d : MetC X.prog X.w X.K X.mg X.base k C "__init__" sp) (hr : Room j X.A) (hk : k + 1 ≤ j) (hg : Gl X x) (ha : PA X (e :: es) t)
    (hdb : (x == ("__debug__" : Str)) = false := by decide) (he : starEach (e :: es) X.env = (false, eval e X.env) :: starEach es X.env := by rfl) (hpl : (backTo pos (starEach es X.env)).any (·.1) = false := by rfl) :
    PE X (.Call (.Name x p) (e :: es) [] pos) (tMake C sp [] E0 t) := by
  obtain ⟨f, fd, ps, F, b, i, n, o⟩ := d.ex
  exact pe_make ⟨c.makes, i, n, c.kp⟩ F (hr.mono hk) hg c.mgC b .nil pass0 ha hdb he hpl
/-- o(e, ..), o an instance -/
theorem pe_instC (hf : PE X fe tf) (d : MetC X.prog X.w X.K X.mg X.base k C "__call__" sp) (hr : Room j X.A) (hk : k ≤ j) (ha : PA X (e :: es) t)
    (ht : eval (.Call fe (e :: es) [] pos) X.env = (do callWith pos (← eval fe X.env) [] (backTo pos (starEach (e :: es) X.env)) (backToKw pos (keywordEach [] X.env))) := by rfl)
    (he : starEach (e :: es) X.env = (false, eval e X.env) :: starEach es X.env := by rfl) (hpl : (backTo pos (starEach es X.env)).any (·.1) = false := by rfl) : PE X (.Call fe (e :: es) [] pos) (StX.tCallO X C sp E0 tf t) := by
  obtain ⟨f, fd, ps, F, b, i, n, o⟩ := d.ex
  exact StX.pe_callO hf ⟨i, n, o⟩ (fnR_of F b) (hr.mono hk) pass0 ha ht he hpl
/-- bool(o) -/
theorem call_boolC (d : MetC X.prog X.w X.K X.mg X.base k C "__bool__" sp) (hr : Room j X.A) (hk : k + 2 ≤ j) : CallR X (.type "bool") (rBoolO C sp E0) := by
  obtain ⟨f, fd, ps, F, b, i, n, o⟩ := d.ex
  exact call_boolO i n (fnR_of F b) (hr.mono hk) pass0
end
theorem putF_le (f : Str) (v : V) : ∀ fs : List (Str × V), (putF f v fs).length ≤ fs.length + 1
  | [] => Nat.le_refl _
  | (g, x) :: r => by
    show (if g = f then (g, v) :: r else (g, x) :: putF f v r).length ≤ _
    have := putF_le f v r
    split <;> simp <;> omega
theorem Keep.butI {H H' : Hp} {a C dx : Addr} {fs : List (Str × V)} (s : But a H H') (z : H a = some (.ins C dx fs)) : Keep H H' := fun b xs h => by
  rcases h with h | ⟨o, h⟩
  · exact .inl (s _ _ (ne_of h z (by intro q; cases q)) h)
  · exact .inr ⟨o, s _ _ (ne_of h z (by intro q; cases q)) h⟩
end Sh
set_option Elab.async false
set_option linter.all false
set_option maxRecDepth 100000
set_option maxHeartbeats 2000000
/-! sorted of tuples of ints and texts, of any length, without and with a key def -/
namespace Sh
open PySem PySem.Spec PyProof.Rows L2
/-! ### a total order -/
def cd : V → List Int
  | .int i => [0, i]
  | .str s => 1 :: s.cps.toList.map Int.ofNat
  | _ => [2]
def cLt (a b : List V) : Bool := decide (a.map cd < b.map cd)
theorem ofNat_lt (a b : List Nat) : (a.map Int.ofNat < b.map Int.ofNat) ↔ a < b := by
  induction a generalizing b with
  | nil => cases b <;> simp
  | cons x a ih =>
    cases b with
    | nil => simp
    | cons y b =>
      rw [List.map_cons, List.map_cons, List.cons_lt_cons_iff, List.cons_lt_cons_iff, ih]
      constructor
      · rintro (h | ⟨h, k⟩)
        · exact .inl (Int.ofNat_lt.mp h)
        · exact .inr ⟨Int.ofNat.inj h, k⟩
      · rintro (h | ⟨h, k⟩)
        · exact .inl (Int.ofNat_lt.mpr h)
        · exact .inr ⟨congrArg Int.ofNat h, k⟩
theorem cd_lt {x y : V} (h : sameK x y = true) : vLt x y = decide (cd x < cd y) := by
  cases x <;> cases y <;> first | cases h | skip
  · rename_i i j
    show decide (i < j) = decide ([0, i] < [0, j])
    refine decide_eq_decide.mpr ?_
    simp [List.cons_lt_cons_iff]
  · rename_i a b
    show decide (a.cps.toList < b.cps.toList) = decide ((1 : Int) :: a.cps.toList.map Int.ofNat < 1 :: b.cps.toList.map Int.ofNat)
    refine decide_eq_decide.mpr ?_
    rw [List.cons_lt_cons_iff, ofNat_lt]
    simp
theorem cd_eq {x y : V} (h : sameK x y = true) : (x = y) ↔ (cd x = cd y) := by
  cases x <;> cases y <;> first | cases h | skip
  · rename_i i j
    simp [cd]
  · rename_i a b
    refine ⟨fun e => by rw [e], fun e => ?_⟩
    have e' : a.cps.toList.map Int.ofNat = b.cps.toList.map Int.ofNat := (List.cons.inj e).2
    have inj : Function.Injective Int.ofNat := fun a b h => Int.ofNat.inj h
    have e2 : a.cps.toList = b.cps.toList := by
      have := congrArg (List.map Int.toNat) e'
      simpa [List.map_map, Function.comp_def] using this
    have e3 : a.cps = b.cps := Array.toList_inj.mp e2
    cases a; cases b
    simp only at e3
    rw [e3]
theorem tup_cLt : ∀ {a b : List V}, sameKs a b = true → tupLt a b = cLt a b
  | [], [], _ => by simp [tupLt, cLt]
  | [], _ :: _, _ => by simp [tupLt, cLt]
  | _ :: _, [], _ => by simp [tupLt, cLt]
  | x :: xs, y :: ys, h => by
    have h' : (sameK x y && sameKs xs ys) = true := h
    rw [Bool.and_eq_true] at h'
    have ih := tup_cLt h'.2
    unfold tupLt cLt
    by_cases e : x = y
    · subst e
      rw [if_pos rfl, ih]
      unfold cLt
      refine decide_eq_decide.mpr ?_
      rw [List.map_cons, List.map_cons, List.cons_lt_cons_iff]
      constructor
      · exact fun k => .inr ⟨rfl, k⟩
      · rintro (k | ⟨_, k⟩)
        · exact absurd k (List.lt_irrefl _)
        · exact k
    · rw [if_neg e, cd_lt h'.1]
      refine decide_eq_decide.mpr ?_
      rw [List.map_cons, List.map_cons, List.cons_lt_cons_iff]
      constructor
      · exact fun k => .inl k
      · rintro (k | ⟨k, _⟩)
        · exact k
        · exact absurd ((cd_eq h'.1).mpr k) e
theorem swo_cLt {α : Type} (k : α → List V) : SrtO.Swo fun u v => cLt (k u) (k v) := by
  refine ⟨fun x y h => ?_, fun x y z h1 h2 => ?_⟩
  · have a := of_decide_eq_true h
    exact decide_eq_false fun b => List.lt_irrefl _ (List.lt_trans a b)
  · have a := of_decide_eq_false h1
    have b := of_decide_eq_false h2
    refine decide_eq_false fun c => ?_
    rcases Classical.em ((k y).map cd < (k x).map cd) with q | q
    · exact a q
    · -- x ≤ y, y ≤ z, z < x
      rcases Classical.em ((k x).map cd < (k y).map cd) with p | p
      · exact b (List.lt_trans c p)
      · have e : (k x).map cd = (k y).map cd := by
          have h1 : (k x).map cd ≤ (k y).map cd := List.not_lt.mp q
          have h2 : (k y).map cd ≤ (k x).map cd := List.not_lt.mp p
          exact List.le_antisymm h1 h2
        rw [e] at c
        exact b c
/-! ### tuples in a heap -/
def TupV (h : Heap) (v : Value) (ks : List V) : Prop := ∃ (a : Addr) (o : Obj) (its : List Value) (n : Nat), v = .ref a ∧ h.get? a = some o ∧ o.cls = .type "tuple" ∧ o.data = .seq its.toArray n ∧ Vals ks its
theorem TupV.keeps {h h' : Heap} {v : Value} {ks : List V} (x : TupV h v ks) (k : ∀ b o, h.get? b = some o → o.cls = .type "tuple" → h'.get? b = some o) : TupV h' v ks := by
  obtain ⟨a, o, its, n, e, ho, hc, hd, r⟩ := x
  exact ⟨a, o, its, n, e, k _ _ ho hc, hc, hd, r⟩
inductive First : String → V → Prop
  | int (i : Int) : First "int" (.int i)
  | str (s : Str) : First "str" (.str s)
def Head (T : String) (ks : List V) : Prop := ∃ x r, ks = x :: r ∧ First T x
section
variable {prog : Program} {w : World} {A : Around} {s : Shared} {E : Value → Shared → Prop} {Q : Bool → Shared → Prop}
theorem oneLt_str' (c : Bool) {p q : Str} {t u : Tok} (h : Q (decide (p.cps.toList < q.cps.toList)) s) : wpAny (model prog w) A (oneLt' c (.str p t) (.str q u)) Q E s := by
  cases c with
  | true => exact oneLt_str h
  | false => exact PySem.W.kat_one _ _ (PyProof.Rows.lt_str (Q := PySem.W.BoolBack Q) h)
theorem lex_mixed {b fin : Bool} : ∀ {ks ms : List V} {xs ys : List Value} (i : Nat), Vals ks xs → Vals ms ys → sameKs ks ms = true → fin = decide (ks.length < ms.length) → Q (tupLt ks ms) s → PySem.W.KatLex prog w A b fin Q (xs.zip ys) i s
  | [], [], _, _, i, .nil, .nil, _, e, h => by
    subst e
    exact PySem.W.kat_nil h
  | [], y :: ms, _, _, i, .nil, .cons _ _, _, e, h => by
    refine PySem.W.kat_nil ?_
    rw [e, show decide (([] : List V).length < (y :: ms).length) = true from decide_eq_true (by simp)]
    exact h
  | x :: ks, [], _, _, i, .cons _ _, .nil, _, e, h => by
    refine PySem.W.kat_nil ?_
    rw [e, show decide ((x :: ks).length < ([] : List V).length) = false from decide_eq_false (by simp)]
    exact h
  | x :: ks, y :: ms, _, _, i, .cons rx rxs, .cons ry rys, hs, e, h => by
    have h' : (sameK x y && sameKs ks ms) = true := hs
    rw [Bool.and_eq_true] at h'
    have e' : fin = decide (ks.length < ms.length) := by
      rw [e]
      exact decide_eq_decide.mpr (by simp)
    have hq : Q (if x = y then tupLt ks ms else vLt x y) s := h
    cases x <;> cases y <;> first | cases h'.1 | skip
    · rename_i i1 i2
      obtain ⟨t1, rfl⟩ := rx
      obtain ⟨t2, rfl⟩ := ry
      refine PySem.W.kat_cons (SeqAt.EqAt.int_int i1 t1 i2 t2 prog w _ _ ?_)
      by_cases c : i1 = i2
      · subst c
        rw [if_pos rfl] at hq
        rw [beq_self_eq_true]
        exact PySem.W.kat_yes (lex_mixed (i + 1) rxs rys h'.2 e' hq)
      · rw [if_neg (fun z => c (V.int.inj z))] at hq
        rw [show (i1 == i2) = false from beq_eq_false_iff_ne.mpr c]
        exact PySem.W.kat_no (TS.oneLt_ints _ hq)
    · rename_i s1 s2
      obtain ⟨t1, rfl⟩ := rx
      obtain ⟨t2, rfl⟩ := ry
      refine PySem.W.kat_cons (SeqAt.EqAt.str_str s1 t1 s2 t2 prog w _ _ ?_)
      by_cases c : s1 = s2
      · subst c
        rw [if_pos rfl] at hq
        rw [beq_self_eq_true]
        exact PySem.W.kat_yes (lex_mixed (i + 1) rxs rys h'.2 e' hq)
      · rw [if_neg (fun z => c (V.str.inj z))] at hq
        rw [show (s1 == s2) = false from beq_eq_false_iff_ne.mpr c]
        exact PySem.W.kat_no (oneLt_str' _ hq)
theorem tup_cmp {b : Bool} {vs : List Value} {k : Value → List V} (hp : ∀ v ∈ vs, TupV s.heap v (k v)) (hs : ∀ v ∈ vs, ∀ u ∈ vs, sameKs (k v) (k u) = true) : SrtO.Cmp prog w A s (tuples' b) (fun p => p.1 ∈ vs) (SrtO.lt2 fun v u => cLt (k v) (k u)) := by
  intro p q hm hm'
  show wpAny (model prog w) A (keyLt' (tuples' b) p.1 q.1) (fun r s' => s' = s ∧ r = cLt (k p.1) (k q.1)) (fun _ _ => False) s
  rw [← tup_cLt (hs _ hm _ hm')]
  have h2 := hs _ hm _ hm'
  obtain ⟨a, o, its, n, e, ho, hc, hd, r⟩ := hp _ hm
  obtain ⟨a', o', its', n', e', ho', hc', hd', r'⟩ := hp _ hm'
  generalize k p.1 = kp at r h2 ⊢
  generalize k q.1 = kq at r' h2 ⊢
  rw [e, e']
  refine PySem.W.kat_lt ho hd ho' hd' ?_
  refine lex_mixed (Q := fun b s' => s' = s ∧ b = tupLt kp kq) 0 r r' h2 ?_ ⟨rfl, rfl⟩
  rw [List.size_toArray, List.size_toArray, r.length, r'.length]
theorem tups_first {h : Heap} {T : String} {k : Value → List V} : ∀ (vs : List Value), (∀ v ∈ vs, TupV h v (k v)) → (∀ v ∈ vs, Head T (k v)) → ∃ fs, PySem.W.KatTups h vs fs ∧ fs.length = vs.length ∧ ∀ f ∈ fs, ∃ x, First T x ∧ RelV x f
  | [], _, _ => ⟨[], PySem.W.KatTups.nil, rfl, fun f hf => by simp at hf⟩
  | v :: vs, h1, h2 => by
    obtain ⟨fs, g1, g2, g3⟩ := tups_first vs (fun u hu => h1 u (List.mem_cons_of_mem _ hu)) (fun u hu => h2 u (List.mem_cons_of_mem _ hu))
    obtain ⟨a, o, its, n, e, ho, hc, hd, r⟩ := h1 v List.mem_cons_self
    obtain ⟨x, rr, ek, fx⟩ := h2 v List.mem_cons_self
    rw [ek] at r
    cases r with
    | cons rx rest =>
      rename_i u us
      refine ⟨u :: fs, ?_, by simp [g2], fun f hf => ?_⟩
      · rw [e]
        exact PySem.W.KatTups.cons ho hc hd (by simp) g1
      · rcases List.mem_cons.mp hf with q | q
        · rw [q]; exact ⟨x, fx, rx⟩
        · exact g3 f q
theorem tup_kind {T : String} {vs : List Value} {k : Value → List V} {Q : SortKind → Shared → Prop} (h0 : 0 < vs.length) (hp : ∀ v ∈ vs, TupV s.heap v (k v)) (ht : ∀ v ∈ vs, Head T (k v)) (hq : Q (tuples' (Value.type T != Value.type "tuple")) s) : wpAny (model prog w) A (keyKind' vs.toArray) Q E s := by
  obtain ⟨fs, g1, g2, g3⟩ := tups_first vs hp ht
  refine PySem.W.kat_kind (T := .type T) g1 (by omega) (fun f hm => ?_) (by
    have : T = "int" ∨ T = "str" := by
      cases fs with
      | nil => simp at g2; omega
      | cons f fs =>
        obtain ⟨x, fx, _⟩ := g3 f List.mem_cons_self
        cases fx
        · exact .inl rfl
        · exact .inr rfl
    rcases this with rfl | rfl <;> rfl) hq
  obtain ⟨x, fx, rx⟩ := g3 f hm
  cases fx with
  | int i => obtain ⟨t, rfl⟩ := rx; exact PySem.W.Looks.of_pure rfl
  | str z => obtain ⟨t, rfl⟩ := rx; exact PySem.W.Looks.of_pure rfl
end
/-! ### rows that stand beside each other -/
theorem paired_perm {α β : Type} {R : α → β → Prop} {l l' : List α} (p : l'.Perm l) : ∀ {m : List β}, Paired R l m → ∃ m', m'.Perm m ∧ Paired R l' m' := by
  induction p with
  | nil => intro m h; exact ⟨m, List.Perm.refl _, h⟩
  | cons x _ ih =>
    intro m h
    cases h with
    | cons r t =>
      obtain ⟨m', p', h'⟩ := ih t
      exact ⟨_ :: m', p'.cons _, .cons r h'⟩
  | swap x y l =>
    intro m h
    cases h with
    | cons r t =>
      cases t with
      | cons r2 t2 => exact ⟨_, List.Perm.swap _ _ _, .cons r2 (.cons r t2)⟩
  | trans _ _ ih1 ih2 =>
    intro m h
    obtain ⟨m1, p1, h1⟩ := ih2 h
    obtain ⟨m2, p2, h2⟩ := ih1 h1
    exact ⟨m2, p2.trans p1, h2⟩
end Sh
set_option Elab.async false
set_option linter.all false
set_option maxRecDepth 100000
set_option maxHeartbeats 2000000
namespace Sh
open PySem PySem.Spec PyProof.Rows L2
theorem paired_pairwise {α β : Type} {R : α → β → Prop} {P : α → α → Prop} {P' : β → β → Prop} (h : ∀ a a' b b', R a b → R a' b' → P a a' → P' b b') : ∀ {l : List α} {m : List β}, Paired R l m → l.Pairwise P → m.Pairwise P'
  | _, _, .nil, _ => List.Pairwise.nil
  | _, _, .cons r t, p => by
    obtain ⟨p1, p2⟩ := List.pairwise_cons.mp p
    refine List.pairwise_cons.mpr ⟨fun b' hb => ?_, paired_pairwise h t p2⟩
    have key : ∀ {l : List α} {m : List β}, Paired R l m → ∀ b ∈ m, ∃ a ∈ l, R a b := by
      intro l m hp
      induction hp with
      | nil => intro b hb; cases hb
      | cons r t ih =>
        intro b hb
        rcases List.mem_cons.mp hb with e | hb
        · subst e; exact ⟨_, List.mem_cons_self, r⟩
        · obtain ⟨a, ha, hr⟩ := ih b hb
          exact ⟨a, List.mem_cons_of_mem _ ha, hr⟩
    obtain ⟨a', ha, ra⟩ := key t b' hb
    exact h _ _ _ _ r ra (p1 a' ha)
theorem paired_mem {α β : Type} {R : α → β → Prop} {l : List α} {m : List β} (h : Paired R l m) : ∀ a ∈ l, ∃ b ∈ m, R a b := by
  induction h with
  | nil => intro b hb; cases hb
  | cons r t ih =>
    intro b hb
    rcases List.mem_cons.mp hb with e | hb
    · subst e; exact ⟨_, List.mem_cons_self, r⟩
    · obtain ⟨a, ha, hr⟩ := ih b hb
      exact ⟨a, List.mem_cons_of_mem _ ha, hr⟩
theorem paired_imp {α β : Type} {R S : α → β → Prop} {l : List α} {m : List β} (h : Paired R l m) (k : ∀ a b, R a b → S a b) : Paired S l m := by
  induction h with
  | nil => exact .nil
  | cons r t ih => exact .cons (k _ _ r) ih
theorem paired_snoc {α β : Type} {R : α → β → Prop} {l : List α} {m : List β} (h : Paired R l m) {a : α} {b : β} (r : R a b) : Paired R (l ++ [a]) (m ++ [b]) := by
  induction h with
  | nil => exact .cons r .nil
  | cons r0 t ih => exact .cons r0 ih
theorem paired_at {α β : Type} {R : α → β → Prop} : ∀ {l : List α} {m : List β}, l.length = m.length → (∀ (i : Nat) a b, l[i]? = some a → m[i]? = some b → R a b) → Paired R l m
  | [], [], _, _ => .nil
  | [], _ :: _, h, _ => by simp at h
  | _ :: _, [], h, _ => by simp at h
  | a :: l, b :: m, h, k => .cons (k 0 a b rfl rfl) (paired_at (by simpa using h) fun i x y h1 h2 => k (i + 1) x y (by simpa using h1) (by simpa using h2))
theorem paired_get {α β : Type} {R : α → β → Prop} {l : List α} {m : List β} (h : Paired R l m) : l.length = m.length ∧ ∀ (i : Nat) a b, l[i]? = some a → m[i]? = some b → R a b := by
  induction h with
  | nil => exact ⟨rfl, fun i a b e => by simp at e⟩
  | cons r t ih =>
    refine ⟨by simp [ih.1], fun i a b h1 h2 => ?_⟩
    cases i with
    | zero => simp at h1 h2; subst h1; subst h2; exact r
    | succ i => exact ih.2 i a b (by simpa using h1) (by simpa using h2)
/-- what stands at a value -/
def kvH (H : Hp) : Value → List V
  | .ref q => match H q with
    | some (.tup ks) => ks
    | _ => []
  | _ => []
theorem kvH_at {H : Hp} {q : Addr} {ks : List V} (h : H q = some (.tup ks)) : kvH H (.ref q) = ks := by
  unfold kvH
  simp only [h]
/-- a tuple of y's stands at v -/
def TupAt {α : Type} (g : α → List V) (H : Hp) (v : V) (y : α) : Prop := ∃ q, v = .ref q ∧ H q = some (.tup (g y))
theorem TupAt.sm {α : Type} {g : α → List V} {H H' : Hp} {v : V} {y : α} (h : TupAt g H v y) (s : Same H H') : TupAt g H' v y := let ⟨q, e, k⟩ := h; ⟨q, e, s _ _ k⟩
section
variable {X : Cx}
theorem Inv.tupV {pins : List (Addr × Obj)} {σ : L2.St} {H : Hp} {s : Shared} (I : Inv X pins σ H s) {q : Addr} {ks : List V} (h : H q = some (.tup ks)) : TupV s.heap (.ref q) ks := by
  obtain ⟨_, its, r, o, ho, hc, n, hd⟩ := I.hok q _ h
  exact ⟨q, o, its, n, rfl, ho, hc, hd, r⟩
def rSortM (K : PySem.W.Frag) : List V → Hp → VK → Prop := fun vs H Q => ∃ (α : Type) (g : α → List V) (T : String) (a : Addr) (xs : List V) (l : List α), vs = [.ref a] ∧ SqL K H a xs ∧ Items (TupAt g) H xs l ∧ (∀ y ∈ l, Head T (g y)) ∧ (∀ y ∈ l, ∀ z ∈ l, sameKs (g y) (g z) = true) ∧
  ∀ (l' : List α) (ys : List V) (p : Addr) (H' : Hp), l'.Perm l → l'.Pairwise (fun y z => cLt (g z) (g y) = false) → H p = none → Same H H' → H' p = some (.lst ys) → Items (TupAt g) H' ys l' → Q (.ref p) H'
theorem cr_sortM : CallR X (.builtin "sorted") (rSortM X.K) := by
  intro pins s σ H vs us Q I r h
  obtain ⟨α, g, T, a, xs, l, rfl, hs, it, ht, hsk, q⟩ := h
  obtain ⟨its, rv, hl, hz⟩ := I.list hs
  obtain ⟨u, rfl, ru⟩ := vals1 r
  obtain rfl : u = Value.ref a := ru
  have pr : Paired (fun u y => ∃ q, u = Value.ref q ∧ H q = some (.tup (g y))) its l := by
    refine paired_at (by rw [← rv.length, it.1]) fun i u y h1 h2 => ?_
    obtain ⟨x, hx, q', e, hq⟩ := it.get h2
    obtain ⟨u', hu, ru⟩ := rv.get hx
    rw [hu] at h1
    cases h1
    subst e
    obtain rfl : u = Value.ref q' := ru
    exact ⟨q', rfl, hq⟩
  have hk : ∀ v ∈ its, ∃ y ∈ l, kvH H v = g y ∧ TupV s.heap v (kvH H v) := by
    intro v hv
    obtain ⟨y, hy, q', e, hq⟩ := paired_mem pr v hv
    subst e
    refine ⟨y, hy, kvH_at hq, ?_⟩
    rw [kvH_at hq]
    exact Inv.tupV I hq
  have hsame : ∀ v ∈ its, ∀ u ∈ its, sameKs (kvH H v) (kvH H u) = true := by
    intro v hv u hu
    obtain ⟨y, hy, e1, _⟩ := hk v hv
    obtain ⟨z, hz', e2, _⟩ := hk u hu
    rw [e1, e2]
    exact hsk y hy z hz'
  refine SrtO.sorted_ord (swo_cLt (kvH H)) hl.isList (by rw [← rv.length]; exact hz) (fun h2 h₁ a' ha kk => ?_) fun out h1 h2 => ?_
  · intro h' keep
    have hp' : ∀ v ∈ its, TupV h' v (kvH H v) := fun v hv => by
      obtain ⟨_, _, _, tv⟩ := hk v hv
      exact tv.keeps fun b o e _ => keep b o (kk b o e).1 (kk b o e).2
    refine ⟨tuples' (Value.type T != Value.type "tuple"), fun Q' E' hq => ?_, tup_cmp (s := { s with heap := h' }) hp' hsame⟩
    refine tup_kind (s := { s with heap := h' }) (T := T) (k := kvH H) (by omega) hp' (fun v hv => ?_) hq
    obtain ⟨y, hy, e, _⟩ := hk v hv
    rw [e]
    exact ht y hy
  · obtain ⟨l', pl, pr'⟩ := paired_perm h2.perm pr
    have h3 : ∀ u ∈ out, ∃ a, u = Value.ref a := fun u hu => by
      obtain ⟨y, _, q', e, _⟩ := paired_mem pr' u hu
      exact ⟨q', e⟩
    obtain ⟨ep, he'⟩ := PyProof.Rows.sortedAll_at s.heap its out.toArray
    have hp : H (s.heap.objs.size + 1) = none := I.hok.fresh (Nat.le_succ _)
    have hlen : (out.map backV).length ≤ sizeLine := by
      rw [List.length_map, h2.perm.length_eq, ← rv.length]
      exact hz
    refine ⟨.ref (s.heap.objs.size + 1), upd H (s.heap.objs.size + 1) (.lst (out.map backV)), I.laid (t' := s.toks) (fun _ _ => PyProof.Rows.sortedAll_old) (Nat.le_succ _) ⟨hlen, out, ep, vals_back h3, he'⟩, rfl, ?_⟩
    refine q l' _ _ _ pl ?_ hp (same_new hp) upd_same ?_
    · refine paired_pairwise (R := fun u y => ∃ q, u = Value.ref q ∧ H q = some (.tup (g y))) ?_ pr' h1
      rintro u u' y y' ⟨q1, rfl, e1⟩ ⟨q2, rfl, e2⟩ h
      have h' : cLt (kvH H (.ref q2)) (kvH H (.ref q1)) = false := h
      rw [kvH_at e1, kvH_at e2] at h'
      exact h'
    · obtain ⟨e1, e2⟩ := paired_get pr'
      refine ⟨by rw [List.length_map]; exact e1, fun i x y hx hy => ?_⟩
      rw [List.getElem?_map] at hx
      cases hu : out[i]? with
      | none => rw [hu] at hx; cases hx
      | some u =>
        rw [hu] at hx
        obtain ⟨q', rfl, hq⟩ := e2 i u y hu hy
        cases hx
        exact ⟨q', rfl, same_new hp _ _ hq⟩
end
/-! ### with a key def -/
section
variable {X : Cx} {pins : List (Addr × Obj)} {σ : L2.St} {H : Hp} {s : Shared} {a g : Addr} {n N : Nat} {sp : Sp} {α : Type} {f : α → V} {gk : α → List V} {l : List α} {vs : List Value} {T : String} {P : PySem.Fin → Shared → Prop}
theorem list_sort_keyX (I : Inv X pins σ H s) (F : FnR X.prog X.w X.K X.mg X.base CX0 n g sp) (hr : Room n X.A.in1.in1)
    (ho : s.heap.get? a = some (seqObj "list" vs.toArray N)) (fpa : FpOk X pins H a) (rv : Vals (l.map f) vs) (hz : l.length ≤ sizeLine)
    (hk : ∀ y ∈ l, ∀ H1, Same H H1 → ∀ Q' : VK, (∀ q H2, Same H1 H2 → H2 q = some (.tup (gk y)) → Q' (.ref q) H2) → sp [f y] H1 Q' E0)
    (ht : ∀ y ∈ l, Head T (gk y)) (hs : ∀ y ∈ l, ∀ z ∈ l, sameKs (gk y) (gk z) = true)
    (h : ∀ (l' : List α) (s' : Shared) (H' : Hp), l'.Perm l → l'.Pairwise (fun y z => cLt (gk z) (gk y) = false) → Inv X pins σ H' s' → Same H H' → H' a = some (.lst (l'.map f)) → P (.done (.ret .none)) s') :
    wpAny (model X.prog X.w) X.A.in1.in1 (ksk_tree a (.ref g) false) P X.xe s := by
  have hlen : vs.length = l.length := by rw [← rv.length, List.length_map]
  obtain ⟨hn, hL, hfs, hex, hcell, hpin⟩ := id fpa
  have ha : a < s.heap.objs.size := Heap.lt_size ho
  have s1 := Heap.SameBut.update s.heap a (Obj.mapSeq fun _ => (#[] : Array Value))
  obtain ⟨e1, ho1⟩ : ∃ e1, (s.heap.update a (Obj.mapSeq fun _ => (#[] : Array Value))).get? a = some (seqObj "list" #[] e1) := ⟨_, get?_update_seq ho fun _ => #[]⟩
  unfold ksk_tree
  refine wpAny_bind (listItems_at ho rfl ?_)
  refine wpAny_bind (listUpdate_at ho rfl ?_ (by rw [List.size_toArray, hlen]; exact hz) (Nat.zero_le _))
  refine wpAny_bind (seqEpoch_at ho1 rfl ?_)
  refine wpAny_bind (wpAny_newTuple ?_ (by show vs.length ≤ _; rw [hlen]; exact hz))
  refine wpAny_bind (wpAny_newList ?_ (Nat.zero_le _))
  refine wpAny_holding ?_
  have J1 : Inv X pins σ H { s with heap := s.heap.update a (Obj.mapSeq fun _ => (#[] : Array Value)), toks := s.toks } := I.turned (fun b o hb e => (s1.2 b hb).trans e) hn hL hex hcell hpin
  have z1 : (s.heap.update a (Obj.mapSeq fun _ => (#[] : Array Value))).objs.size = s.heap.objs.size := Heap.size_update _ _ _
  show wpAny _ _ (ksk_rest a (.ref g) false vs.toArray e1 (.ref (((s.heap.update a (Obj.mapSeq fun _ => (#[] : Array Value))).push (seqObj "tuple" vs.toArray 0)).objs.size))) P X.xe { s with heap := ((s.heap.update a (Obj.mapSeq fun _ => (#[] : Array Value))).push (seqObj "tuple" vs.toArray 0)).push (seqObj "list" #[] 0) }
  generalize s.heap.update a (Obj.mapSeq fun _ => (#[] : Array Value)) = h1 at J1 ho1 z1 ⊢
  have z2 : (h1.push (seqObj "tuple" vs.toArray 0)).objs.size = h1.objs.size + 1 := size_push' _ _
  have J2 : Inv X pins σ (upd H (h1.push (seqObj "tuple" vs.toArray 0)).objs.size (.lst [])) { s with heap := (h1.push (seqObj "tuple" vs.toArray 0)).push (seqObj "list" #[] 0), toks := s.toks } :=
    J1.laid (fun b o e => Heap.get?_push_of_some _ (Heap.get?_push_of_some _ e)) (by rw [z2]; exact Nat.le_succ _) ⟨Nat.zero_le _, [], 0, .nil, Heap.get?_push_size _ rfl⟩
  have hk0 : H (h1.push (seqObj "tuple" vs.toArray 0)).objs.size = none := J1.hok.fresh (by rw [z2]; exact Nat.le_succ _)
  have hne : a ≠ (h1.push (seqObj "tuple" vs.toArray 0)).objs.size := by rw [z2, z1]; exact Nat.ne_of_lt (Nat.lt_succ_of_lt ha)
  have J3 : Inv X (pins ++ [(a, seqObj "list" #[] e1)]) σ (upd H (h1.push (seqObj "tuple" vs.toArray 0)).objs.size (.lst [])) { s with heap := (h1.push (seqObj "tuple" vs.toArray 0)).push (seqObj "list" #[] 0), toks := s.toks } :=
    J2.pins_of fun p hp => (List.mem_append.mp hp).elim (fun z => J2.pin p (List.mem_append_right _ z)) fun z => by
      rw [List.mem_singleton.mp z]
      exact ⟨Heap.get?_push_of_some _ (Heap.get?_push_of_some _ ho1), by rw [upd_ne hne]; exact hn, hL, hfs, fun v e => by cases e⟩
  generalize (h1.push (seqObj "tuple" vs.toArray 0)).objs.size = kS at J2 J3 hk0 hne ⊢
  generalize hs0 : ({ s with heap := (h1.push (seqObj "tuple" vs.toArray 0)).push (seqObj "list" #[] 0) } : Shared) = s0 at J3 ⊢
  clear hs0 J2 z2 J1 z1 ho1 h1
  unfold ksk_rest
  refine wpAny_bind (wpAny_rule ?_)
  first
    | rw [List.forIn_toArray]
    | (rw [← Array.forIn_toList]; simp only [List.toList_toArray])
    | rw [← Array.forIn_toList]
  refine wpAny_bind (ksk_fold (fun i s' => ∃ H' ys, Inv X (pins ++ [(a, seqObj "list" #[] e1)]) σ H' s' ∧ Same H H' ∧ H' kS = some (.lst ys) ∧ Paired (fun v y => ∃ q, v = V.ref q ∧ H' q = some (.tup (gk y))) ys (l.take i)) vs 0 s0
    ⟨_, [], J3, same_new hk0, upd_same, .nil⟩ ?step ?done)
  case step =>
    rintro j x s' hx ⟨H', ys, J, sm, hkS, pr⟩
    simp only [Nat.zero_add] at pr ⊢
    have hj : j < vs.length := (List.getElem?_eq_some_iff.mp hx).1
    have hjl : j < l.length := by omega
    have hy : l[j]? = some l[j] := List.getElem?_eq_getElem hjl
    have hym : l[j] ∈ l := List.getElem_mem hjl
    have rx : RelV (f l[j]) x := by
      obtain ⟨u, hu, ru⟩ := rv.get (i := j) (x := f l[j]) (by rw [List.getElem?_map, hy]; rfl)
      rw [hx] at hu
      cases hu
      exact ru
    have yl : ys.length = j := by
      have := Paired.length pr
      rw [List.length_take] at this
      omega
    refine wpAny_bind (wpAny_attempt (wpAny_mono (run_in (X := X.wish fun _ _ => False) (us := [x]) (ws := [f l[j]]) (Q := fun v H2 => ∃ q, v = .ref q ∧ Same H' H2 ∧ H2 q = some (.tup (gk l[j]))) F hr (J.wish _).env0.in1.in1 pass0 (J.wish _) (.cons rx .nil)
      (hk _ hym H' sm _ fun q H2 sm2 hq => ⟨q, rfl, sm2, hq⟩)) (fun v s'' he => ?_) fun _ _ hF => hF.elim))
    obtain ⟨v', H2, J', rv', q, rfl, sm2, hq⟩ := he
    obtain rfl : v = .ref q := rv'
    have J2 := J'.unwish
    have hkS2 := sm2 _ _ hkS
    obtain ⟨hzz, its, n2, rvi, hli, hget⟩ := J2.lstM hkS2
    try dsimp only
    have s2 := Heap.SameBut.update s''.heap kS (Obj.mapSeq (·.push (Value.ref q)))
    obtain ⟨c2, hc2⟩ : ∃ c2, (s''.heap.update kS (Obj.mapSeq (·.push (Value.ref q)))).get? kS = some (seqObj "list" (its.toArray.push (Value.ref q)) c2) := ⟨_, get?_update_seq hget (·.push (Value.ref q))⟩
    refine wpAny_bind (listUpdate_at hget rfl ?_ (by rw [List.size_toArray, ← hli]; exact hzz) (by rw [Array.size_push, List.size_toArray, ← hli]; omega))
    have et : l.take (j + 1) = l.take j ++ [l[j]] := by rw [List.take_succ, hy]; rfl
    refine wpAny_pure ⟨rfl, upd H2 kS (.lst (ys ++ [.ref q])), ys ++ [.ref q], ?_, same_mut (sm.trans sm2) hk0, upd_same, ?_⟩
    · refine J2.write (t' := s''.toks) (by rw [hkS2]; trivial) (.inl rfl) (fun b u hb e => (s2.2 b hb).trans e) ⟨_, hc2⟩ ⟨by rw [List.length_append, yl]; show j + 1 ≤ _; omega, its ++ [.ref q], c2, ?_, ?_⟩
      · exact paired_snoc rvi (show RelV (.ref q) (.ref q) from rfl)
      · rw [hc2, List.push_toArray]
    · rw [et]
      have up : ∀ q0 ks, H2 q0 = some (.tup ks) → upd H2 kS (.lst (ys ++ [.ref q])) q0 = some (.tup ks) := fun q0 ks e => by
        rw [upd_ne (ne_of e hkS2 (by intro z; cases z))]
        exact e
      exact paired_snoc (paired_imp pr fun v y ⟨q0, e, hq0⟩ => ⟨q0, e, up q0 _ (sm2 _ _ hq0)⟩) ⟨q, rfl, up q _ hq⟩
  case done =>
    rintro s' ⟨H', ys, J, sm, hkS, pr⟩
    rw [show l.take (0 + vs.length) = l from List.take_of_length_le (by omega)] at pr
    obtain ⟨hzz, its, n2, rvi, hli, hget⟩ := J.lstM hkS
    have pa := J.pin (a, seqObj "list" #[] e1) (List.mem_append_right _ (List.mem_append_right _ (List.mem_singleton.mpr rfl)))
    have hH'a : H' a = none := pa.2.1
    have hga : s'.heap.get? a = some (seqObj "list" #[] e1) := pa.1
    try dsimp only
    refine wpAny_bind (listItems_at hget rfl ?_)
    have hil : its.length = l.length := by rw [← hli, Paired.length pr]
    -- the keys
    have pk : Paired (fun u y => ∃ q, u = Value.ref q ∧ H' q = some (.tup (gk y))) its l := by
      obtain ⟨e1, e2⟩ := paired_get pr
      refine paired_at hil fun i u y h1 h2 => ?_
      have hi : i < ys.length := by
        have := (List.getElem?_eq_some_iff.mp h2).1
        omega
      obtain ⟨u', hu, ru⟩ := rvi.get (List.getElem?_eq_getElem hi)
      rw [h1] at hu
      cases hu
      obtain ⟨q, e, hq⟩ := e2 i _ y (List.getElem?_eq_getElem hi) h2
      rw [e] at ru
      exact ⟨q, ru, hq⟩
    have hkk : ∀ v ∈ its, ∃ y ∈ l, kvH H' v = gk y ∧ TupV s'.heap v (kvH H' v) := by
      intro v hv
      obtain ⟨y, hy, q', e, hq⟩ := paired_mem pk v hv
      subst e
      refine ⟨y, hy, kvH_at hq, ?_⟩
      rw [kvH_at hq]
      exact Inv.tupV J hq
    have hsame : ∀ v ∈ its, ∀ u ∈ its, sameKs (kvH H' v) (kvH H' u) = true := by
      intro v hv u hu
      obtain ⟨y, hy, e1, _⟩ := hkk v hv
      obtain ⟨z, hz', e2, _⟩ := hkk u hu
      rw [e1, e2]
      exact hs y hy z hz'
    have p2 : Paired (fun (p : Value × Value) y => kvH H' p.1 = gk y ∧ RelV (f y) p.2) (its.zip vs) l := by
      obtain ⟨_, e2⟩ := paired_get pk
      refine paired_at (by rw [List.length_zip]; omega) fun i p y h1 h2 => ?_
      rw [List.getElem?_zip_eq_some] at h1
      obtain ⟨q, e, hq⟩ := e2 i _ y h1.1 h2
      obtain ⟨u, hu, ru⟩ := rv.get (i := i) (x := f y) (by rw [List.getElem?_map, h2]; rfl)
      rw [h1.2] at hu
      cases hu
      refine ⟨?_, ru⟩
      rw [e]
      exact kvH_at hq
    have tail : ∀ st : SortSt, SrtO.Srtd (SrtO.lt2 fun v u => cLt (kvH H' v) (kvH H' u)) (arrOf st).toList → (arrOf st).toList.Perm (its.zip vs) → failedOf st = none → wpAny (model X.prog X.w) X.A.in1.in1 (ksk_tail a false e1 (.ref kS) st) P X.xe s' := by
      intro st hso hpe hfl
      obtain ⟨l', pl, pr'⟩ := paired_perm hpe p2
      have hkne : a ≠ kS := fun z => by rw [← z, hH'a] at hkS; cases hkS
      have s2 := Heap.SameBut.update s'.heap kS (Obj.mapSeq fun _ => (#[] : Array Value))
      obtain ⟨c2, hc2⟩ : ∃ c2, (s'.heap.update kS (Obj.mapSeq fun _ => (#[] : Array Value))).get? kS = some (seqObj "list" #[] c2) := ⟨_, get?_update_seq hget fun _ => #[]⟩
      have hga2 : (s'.heap.update kS (Obj.mapSeq fun _ => (#[] : Array Value))).get? a = some (seqObj "list" #[] e1) := (s2.2 a hkne).trans hga
      have K1 : Inv X (pins ++ [(a, seqObj "list" #[] e1)]) σ (upd H' kS (.lst [])) { s' with heap := s'.heap.update kS (Obj.mapSeq fun _ => (#[] : Array Value)), toks := s'.toks } :=
        J.write (by rw [hkS]; trivial) (.inl rfl) (fun b u hb e => (s2.2 b hb).trans e) ⟨_, hc2⟩ ⟨Nat.zero_le _, [], c2, .nil, hc2⟩
      unfold ksk_tail
      try dsimp only
      refine wpAny_bind (listUpdate_at hget rfl ?_ (by rw [List.size_toArray, ← hli]; exact hzz) (Nat.zero_le _))
      refine wpAny_bind (wpAny_letGo ?_)
      refine wpAny_bind (seqEpoch_at hga2 rfl ?_)
      have hsz : ((arrOf st).map (·.2)).size ≤ sizeLine := by
        have := hpe.length_eq
        rw [Array.length_toList, List.length_zip] at this
        rw [Array.size_map, this]
        omega
      simp only [Bool.false_eq_true, if_false]
      refine wpAny_bind (listUpdate_at hga2 rfl ?_ (Nat.zero_le _) (by omega))
      rw [hfl]
      simp only [bne_self_eq_false, Bool.false_eq_true, if_false]
      generalize hh2 : s'.heap.update kS (Obj.mapSeq fun _ => (#[] : Array Value)) = h2 at K1 hga2 ⊢
      have s3 := Heap.SameBut.update h2 a (Obj.mapSeq fun _ => (arrOf st).map (·.2))
      obtain ⟨c3, hc3⟩ : ∃ c3, (h2.update a (Obj.mapSeq fun _ => (arrOf st).map (·.2))).get? a = some (seqObj "list" ((arrOf st).map (·.2)) c3) := ⟨_, get?_update_seq hga2 fun _ => (arrOf st).map (·.2)⟩
      have hupa : upd H' kS (.lst []) a = none := by rw [upd_ne hkne]; exact hH'a
      have hvals : Vals (l'.map f) (((arrOf st).map (·.2)).toList) := by
        rw [Array.toList_map]
        have key : ∀ {ps : List (Value × Value)} {m : List α}, Paired (fun (p : Value × Value) y => kvH H' p.1 = gk y ∧ RelV (f y) p.2) ps m → Vals (m.map f) (ps.map (·.2)) := by
          intro ps m hp
          induction hp with
          | nil => exact .nil
          | cons r t ih => exact .cons r.2 ih
        exact key pr'
      have K3 : Inv X pins σ (upd (upd H' kS (.lst [])) a (.lst (l'.map f))) { s' with heap := h2.update a (Obj.mapSeq fun _ => (arrOf st).map (·.2)), toks := s'.toks } := by
        refine Inv.take (s := { s' with heap := h2, toks := s'.toks }) (Inv.unpinned K1) (fun b ob hb e => (s3.2 b hb).trans e) ⟨hupa, hL, hfs, hex, hcell, hpin⟩ ⟨?_, _, c3, hvals, ?_⟩
        · rw [List.length_map, pl.length_eq]; exact hz
        · rw [hc3, Array.toArray_toList]
      refine wpAny_pure (h l' _ _ pl ?_ K3 ?_ upd_same)
      · refine paired_pairwise (R := fun (p : Value × Value) y => kvH H' p.1 = gk y ∧ RelV (f y) p.2) ?_ pr' hso
        rintro p p' y y' ⟨k1, _⟩ ⟨k2, _⟩ hlt
        have hlt' : cLt (kvH H' p'.1) (kvH H' p.1) = false := hlt
        rw [k1, k2] at hlt'
        exact hlt'
      · exact fun b o e => by
          rw [upd_ne (ne_of_none e hn)]
          exact same_mut sm hk0 b o e
    have hzip : (its.toArray.zip vs.toArray).toList = its.zip vs := by simp
    unfold ksk_end
    try dsimp only
    simp only [Bool.false_eq_true, if_false]
    by_cases h2 : vs.toArray.size < 2
    · rw [if_pos h2, if_pos h2]
      refine wpAny_bind (wpAny_pure ?_)
      rw [StateT.run_pure]
      refine wpAny_bind (wpAny_pure ?_)
      try dsimp only
      rw [List.size_toArray] at h2
      refine tail (SortSt.mk' general' (its.toArray.zip vs.toArray) #[] 7 none) ?_ (by show (its.toArray.zip vs.toArray).toList.Perm _; rw [hzip]) rfl
      show SrtO.Srtd _ (its.toArray.zip vs.toArray).toList
      rw [hzip]
      have hl2 : (its.zip vs).length < 2 := by rw [List.length_zip]; omega
      match its.zip vs, hl2 with
      | [], _ => exact List.Pairwise.nil
      | [v], _ => exact List.pairwise_singleton _ _
      | _ :: _ :: l, h => exact absurd h (by simp)
    · rw [if_neg h2, if_neg h2]
      rw [List.size_toArray] at h2
      refine wpAny_bind (tup_kind (T := T) (vs := its) (k := kvH H') (by omega) (fun v hv => (hkk v hv).choose_spec.2.2) (fun v hv => ?_) ?_)
      · obtain ⟨y, hy, e, _⟩ := hkk v hv
        rw [e]
        exact ht y hy
      refine wpAny_bind (wpAny_mono (SrtO.wpS_sortO (st0 := SortSt.mk' (tuples' (Value.type T != Value.type "tuple")) (its.toArray.zip vs.toArray) #[] 7 none)
        (Q := fun _ st' => SrtO.Srtd (SrtO.lt2 fun v u => cLt (kvH H' v) (kvH H' u)) (arrOf st').toList ∧ (arrOf st').toList.Perm (its.zip vs) ∧ failedOf st' = none) (SrtO.swo2 (swo_cLt (kvH H'))) (tup_cmp (s := s') (fun v hv => (hkk v hv).choose_spec.2.2) hsame) rfl
        (fun p hp => ?_) rfl rfl fun st' a1 a2 a3 => ⟨a1, ?_, a3⟩) ?_ fun _ _ e => e)
      · have hp' : p ∈ (its.toArray.zip vs.toArray).toList := hp
        rw [hzip] at hp'
        exact (List.of_mem_zip (a := p.1) (b := p.2) hp').1
      · have := a2.perm
        have e : (arrOf (SortSt.mk' (tuples' (Value.type T != Value.type "tuple")) (its.toArray.zip vs.toArray) #[] 7 none)).toList = its.zip vs := hzip
        rw [e] at this
        exact this
      · rintro ⟨⟨⟩, st'⟩ s2 ⟨rfl, hp1, hp2, hf⟩
        try dsimp only
        exact tail st' hp1 hp2 hf
end
end Sh
set_option Elab.async false
set_option linter.all false
set_option maxRecDepth 100000
set_option maxHeartbeats 2000000
namespace Sh
open PySem PySem.Spec PyProof.Rows L2
/-- a list of these, or a dict whose keys they are -/
def KSrc (K : PySem.W.Frag) (H : Hp) (v : V) (xs : List V) : Prop := ∃ a, v = .ref a ∧ (SqL K H a xs ∨ ∃ kvs : List (Key × V), Rd H a (.dK kvs) ∧ xs = kvs.map fun p => kV p.1)
def rSortK (K : PySem.W.Frag) (sp : Sp) : List V → Hp → VK → Prop := fun vs H Q => ∃ (α : Type) (f : α → V) (gk : α → List V) (T : String) (l : List α) (v : V), vs = [v] ∧ KSrc K H v (l.map f) ∧
  (∀ y ∈ l, ∀ H1, Same H H1 → ∀ Q' : VK, (∀ q H2, Same H1 H2 → H2 q = some (.tup (gk y)) → Q' (.ref q) H2) → sp [f y] H1 Q' E0) ∧
  (∀ y ∈ l, Head T (gk y)) ∧ (∀ y ∈ l, ∀ z ∈ l, sameKs (gk y) (gk z) = true) ∧
  ∀ (l' : List α) (p : Addr) (H' : Hp), l'.Perm l → l'.Pairwise (fun y z => cLt (gk z) (gk y) = false) → H p = none → Same H H' → H' p = some (.lst (l'.map f)) → Q (.ref p) H'
section
variable {X : Cx} {n : Nat} {g : Addr} {sp : Sp}
theorem cr_sortKey (F : FnR X.prog X.w X.K X.mg X.base CX0 n g sp) (hr : Room (n + 2) X.A) (hc : X.calm = true) : CallRK X (.builtin "sorted") [Str.ofString "key"] (fun vs zs H Q => zs = [.ref g] ∧ rSortK X.K sp vs H Q) := by
  intro pins s σ H vs zs us ws Q I r rz h
  obtain ⟨rfl, α, f, gk, T, l, v, rfl, ⟨a, rfl, src⟩, hk, ht, hs, q⟩ := h
  obtain ⟨w1, rfl, e1⟩ := vals1 rz
  obtain rfl : w1 = Value.ref g := e1
  obtain ⟨u, rfl, ru⟩ := vals1 r
  obtain rfl : u = Value.ref a := ru
  have hr2 : Room n X.A.in1.in1 := (show Room (n + 1) X.A.in1 from Room.in1 hr).in1
  refine call_function_entry_kw kind_sorted plain_sorted entry_sorted (ksk_s1 _ _) ?_
  unfold Builtin.«sorted»
  refine wpAny_bind (m := checkCount "sorted" 1 1 _) (wpAny_pure ?_)
  have col : ∀ R : List Value → Shared → Prop, (∀ h' tk us, (∀ b o, s.heap.get? b = some o → h'.get? b = some o) → Vals (l.map f) us → l.length ≤ sizeLine → R us { s with heap := h', toks := tk }) → wpAny (model X.prog X.w) X.A.in1 (collect (.ref a)) R X.xe s := by
    intro R hR
    rcases src with hL | ⟨kvs, hD, ek⟩
    · obtain ⟨its, rv, hl, hz⟩ := I.list hL
      refine collect_list hl.isList (hR _ s.toks its (fun b o e => ?_) rv (by rw [List.length_map] at hz; exact hz)) (by rw [← rv.length]; exact hz)
      have hlt : b < s.heap.objs.size := Heap.lt_size e
      rw [Heap.get?_update_ne _ _ _ _ (Nat.ne_of_lt hlt)]
      exact Heap.get?_push_of_some _ e
    · obtain ⟨z, lo, vs, rel, dd⟩ := dk_rd I.hok hD
      obtain ⟨ep, hat⟩ := dd.dictAt
      have hl : kvs.length = vs.length := Paired.length rel
      refine PySem.W.kdu_collect (A := X.A.in1) (PySem.W.kdl_dict (knd := mixKind X.prog X.w) (kvs := vs) (ep := ep) lo) (I.ok.hd hc) hat (by rw [← hl]; exact z) fun h' tk acc hk hacc => ?_
      have ll : l.length = kvs.length := by
        have := congrArg List.length ek
        rw [List.length_map, List.length_map] at this
        exact this
      refine hR h' tk acc.toList hk ?_ (by rw [ll]; exact z)
      rw [ek]
      have el : acc.toList.length = acc.size := by simp
      refine vals_of_at (by rw [List.length_map, el, hacc.1, hl]) fun j x w h1 h2 => ?_
      obtain ⟨k, y, hky, hi⟩ := hacc.2 j w (by rw [← Array.getElem?_toList]; exact h2)
      have e1 : (kvs.map (·.1))[j]? = some k := by
        rw [KV.keys rel, List.getElem?_map, hky] <;> rfl
      have e2 : (kvs.map fun kv => kV kv.1)[j]? = some (kV k) := by
        have e3 : (kvs.map fun kv => kV kv.1) = (kvs.map (·.1)).map kV := by rw [List.map_map] <;> rfl
        rw [e3, List.getElem?_map, e1] <;> rfl
      rw [e2] at h1
      cases h1
      exact keyIs_rel hi
  refine wpAny_bind (col _ fun h' tk us hkp rv hz => ?_)
  have hul : us.length = l.length := by rw [← rv.length, List.length_map]
  refine wpAny_bind (wpAny_newList ?_ (by rw [hul]; exact hz))
  have I1 : Inv X pins σ H { s with heap := h', toks := tk } := I.kept hkp
  have hoL : (h'.push (seqObj "list" us.toArray 0)).get? h'.objs.size = some (seqObj "list" us.toArray 0) := Heap.get?_push_size _ rfl
  have hfr : H h'.objs.size = none := I1.hok.fresh (Nat.le_refl _)
  have fp : FpOk X pins H h'.objs.size := I1.fpOk (Nat.le_refl _) hfr
  have I2 : Inv X pins σ H { s with heap := h'.push (seqObj "list" us.toArray 0), toks := tk } := I1.kept fun b o e => Heap.get?_push_of_some _ e
  show wpAny _ _ _ _ _ { s with heap := h'.push (seqObj "list" us.toArray 0), toks := tk }
  refine wpAny_bind (wpAny_holding (wpAny_call_entry_kw slot_list_sort ⟨_, hoL, rfl⟩ entry_list_sort ?body (ksk_l1 _ _)))
  case body =>
    show wpAny (model X.prog X.w) X.A.in1.in1 (Builtin.«list.sort» ⟨[.ref h'.objs.size], [(Str.ofString "key", .ref g)]⟩) _ _ _
    rw [ksk_t1]
    refine list_sort_keyX I2 F hr2 hoL fp rv hz hk ht hs fun l' s' H' pl po J sm hp => ⟨_, rfl, ?_⟩
    exact wpAny_pure ⟨_, rfl, .ref h'.objs.size, H', J, rfl, q l' _ H' pl po hfr sm hp⟩
end
section
variable {X : Cx} {k j : Nat} {x : Str} {sp : Sp} {p p2 pos kpos : Pos} {e : Expr} {t : TA}
def tSortK (K : PySem.W.Frag) (sp : Sp) (t : TA) : TE := fun σ H Q => t σ H fun vs H1 => rSortK K sp vs H1 Q
/-- sorted(e, key=f), f a def of the text -/
theorem pe_sortK (c : Cal X.prog X.w X.K X.mg X.base CX0 k x sp) (hr : Room j X.A) (hk : k + 2 ≤ j) (hc : X.calm = true) (hg : Gl X "sorted") (hm : X.mg "sorted" = none) (hgx : Gl X x) (ha : PA X [e] t)
    (hdb : (x == ("__debug__" : Str)) = false := by decide)
    (he : backTo pos (starEach [e] X.env) = (false, eval e X.env) :: backTo pos (starEach [] X.env) := by rfl) (hpl : (backTo pos (starEach [e] X.env)).any (·.1) = false := by rfl) :
    PE X (.Call (.Name "sorted" p) [e] [⟨some (Str.ofString "key"), .Name x p2, kpos⟩] pos) (tSortK X.K sp t) := by
  obtain ⟨f, fd, ps, F, hmx, kp, b⟩ := c.ex
  have P0 := pe_callBK (p := p) (pos := pos) (cr_sortKey (fnR_of F b) (hr.mono hk) hc) hg hm (by rfl) ha (pk_cons (kpos := kpos) (nm := some (Str.ofString "key")) (pe_glob (pos := p2) (v := .ref f) hgx hmx rfl hdb) pk_nil) (by decide) (by decide) he hpl
  refine ⟨fun pins s σ H Q I h => P0.run pins s σ H Q I ?_⟩
  have e9 : (fun (vs : List V) (H1 : Hp) => ([V.ref f] : List V) = [.ref f] ∧ rSortK X.K sp vs H1 Q) = fun vs H1 => rSortK X.K sp vs H1 Q := by
    funext vs H1
    exact propext ⟨fun h => h.2, fun h => ⟨rfl, h⟩⟩
  show t σ H fun vs H1 => ([V.ref f] : List V) = [.ref f] ∧ rSortK X.K sp vs H1 Q
  rw [e9]
  exact h
end
/-! ### == by an own __eq__ -/
section
variable {X : Cx} {C : Addr} {k j : Nat} {sp : Sp}
def rEqI (C : Addr) (sp : Sp) : R2 := fun x y H Q => ∃ a dx fs b dy gs, x = .ref a ∧ y = .ref b ∧ H a = some (.ins C dx fs) ∧ H b = some (.ins C dy gs) ∧ sp [.ref a, .ref b] H (fun v H' => ∃ c, v = .bl c ∧ Q v H') E0
theorem op_eqI (d : MetC X.prog X.w X.K X.mg X.base k C "__eq__" sp) (hr : Room j X.A) (hk : k ≤ j) : OpR X (compareOp .Eq) (rEqI C sp) := by
  obtain ⟨f, fd, ps, F, b, hs, hf, ho⟩ := d.ex
  intro pins s σ H x y v u Q I rx ry h
  obtain ⟨a, dx, fs, a2, dy, gs, rfl, rfl, ha, hb, q⟩ := h
  obtain rfl : v = Value.ref a := rx
  obtain rfl : u = Value.ref a2 := ry
  obtain ⟨ox, od, J, _⟩ := StX.insC_at (C := C) I (.inr ⟨dx, fs, ha⟩)
  obtain ⟨ox', od', J', _⟩ := StX.insC_at (C := C) I (.inr ⟨dy, gs, hb⟩)
  obtain ⟨m, hF⟩ := I.fr
  show wpAny (model X.prog X.w) X.A (richCompare .Eq (.ref a) (.ref a2)) (EP X pins σ Q) X.xe s
  refine PySem.W.cmp_K (op := .Eq) (tb := .ref C) (hr.mono hk).units0 hF I.ok.mod.kin J J'.type (by simp [PySem.W.notFirst]) hs hf ?_
  refine wpAny_mono (run_in (us := [.ref a, .ref a2]) (ws := [.ref a, .ref a2]) (fnR_of F b) (hr.mono hk) I.env0 pass0 I (.cons rfl (.cons rfl .nil)) q) (fun v s' z => ?_) fun _ _ x => x
  obtain ⟨z', H', I', rz, c, ec, qz⟩ := z
  subst ec
  obtain rfl : v = .bool c := rz
  exact ⟨.bl c, H', I', rfl, qz⟩
end
end Sh
set_option Elab.async false
set_option linter.all false
set_option maxRecDepth 100000
set_option maxHeartbeats 2000000
/-! sorted(list, key=def), the keys of any shape that can be compared (flat tuples, and a thing ahead of a tuple) -/
namespace Sh
open PySem PySem.Spec PyProof.Rows L2
structure KeyD (X : Cx) {α : Type} (gk : α → List V) (T : String) where
  At : Hp → Addr → α → Prop
  kv : Hp → Value → List V
  VV : Heap → Value → List V → Prop
  kv_at : ∀ {H q y}, At H q y → kv H (.ref q) = gk y
  same : ∀ {H H' q y}, At H q y → Same H H' → At H' q y
  wr : ∀ {H q y p xs ys}, At H q y → H p = some (.lst xs) → At (upd H p (.lst ys)) q y
  vof : ∀ {pins σ H s q y}, Inv X pins σ H s → At H q y → VV s.heap (.ref q) (gk y)
  kind : ∀ {A : Around} {s : Shared} {E : Value → Shared → Prop} {vs : List Value} {k : Value → List V} {Q : SortKind → Shared → Prop}, 0 < vs.length → (∀ v ∈ vs, VV s.heap v (k v)) → (∀ v ∈ vs, Head T (k v)) → Q (tuples' (Value.type T != Value.type "tuple")) s → wpAny (model X.prog X.w) A (keyKind' vs.toArray) Q E s
  cmp : ∀ {A : Around} {s : Shared} {b : Bool} {vs : List Value} {k : Value → List V}, A.units + 64 < cLine → (∀ v ∈ vs, VV s.heap v (k v)) → (∀ v ∈ vs, ∀ u ∈ vs, sameKs (k v) (k u) = true) → SrtO.Cmp X.prog X.w A s (tuples' b) (fun p => p.1 ∈ vs) (SrtO.lt2 fun v u => cLt (k v) (k u))
section
variable {X : Cx} {pins : List (Addr × Obj)} {σ : L2.St} {H : Hp} {s : Shared} {a g : Addr} {n N : Nat} {sp : Sp} {α : Type} {f : α → V} {gk : α → List V} {l : List α} {vs : List Value} {T : String} {P : PySem.Fin → Shared → Prop}
theorem list_sort_keyD (D : KeyD X gk T) (I : Inv X pins σ H s) (F : FnR X.prog X.w X.K X.mg X.base CX0 n g sp) (hr : Room n X.A.in1.in1)
    (ho : s.heap.get? a = some (seqObj "list" vs.toArray N)) (fpa : FpOk X pins H a) (rv : Vals (l.map f) vs) (hz : l.length ≤ sizeLine)
    (hk : ∀ y ∈ l, ∀ H1, Same H H1 → ∀ Q' : VK, (∀ q H2, Same H1 H2 → D.At H2 q y → Q' (.ref q) H2) → sp [f y] H1 Q' E0)
    (ht : ∀ y ∈ l, Head T (gk y)) (hs : ∀ y ∈ l, ∀ z ∈ l, sameKs (gk y) (gk z) = true)
    (h : ∀ (l' : List α) (s' : Shared) (H' : Hp), l'.Perm l → l'.Pairwise (fun y z => cLt (gk z) (gk y) = false) → Inv X pins σ H' s' → Same H H' → H' a = some (.lst (l'.map f)) → P (.done (.ret .none)) s') :
    wpAny (model X.prog X.w) X.A.in1.in1 (ksk_tree a (.ref g) false) P X.xe s := by
  have hlen : vs.length = l.length := by rw [← rv.length, List.length_map]
  obtain ⟨hn, hL, hfs, hex, hcell, hpin⟩ := id fpa
  have ha : a < s.heap.objs.size := Heap.lt_size ho
  have s1 := Heap.SameBut.update s.heap a (Obj.mapSeq fun _ => (#[] : Array Value))
  obtain ⟨e1, ho1⟩ : ∃ e1, (s.heap.update a (Obj.mapSeq fun _ => (#[] : Array Value))).get? a = some (seqObj "list" #[] e1) := ⟨_, get?_update_seq ho fun _ => #[]⟩
  unfold ksk_tree
  refine wpAny_bind (listItems_at ho rfl ?_)
  refine wpAny_bind (listUpdate_at ho rfl ?_ (by rw [List.size_toArray, hlen]; exact hz) (Nat.zero_le _))
  refine wpAny_bind (seqEpoch_at ho1 rfl ?_)
  refine wpAny_bind (wpAny_newTuple ?_ (by show vs.length ≤ _; rw [hlen]; exact hz))
  refine wpAny_bind (wpAny_newList ?_ (Nat.zero_le _))
  refine wpAny_holding ?_
  have J1 : Inv X pins σ H { s with heap := s.heap.update a (Obj.mapSeq fun _ => (#[] : Array Value)), toks := s.toks } := I.turned (fun b o hb e => (s1.2 b hb).trans e) hn hL hex hcell hpin
  have z1 : (s.heap.update a (Obj.mapSeq fun _ => (#[] : Array Value))).objs.size = s.heap.objs.size := Heap.size_update _ _ _
  show wpAny _ _ (ksk_rest a (.ref g) false vs.toArray e1 (.ref (((s.heap.update a (Obj.mapSeq fun _ => (#[] : Array Value))).push (seqObj "tuple" vs.toArray 0)).objs.size))) P X.xe { s with heap := ((s.heap.update a (Obj.mapSeq fun _ => (#[] : Array Value))).push (seqObj "tuple" vs.toArray 0)).push (seqObj "list" #[] 0) }
  generalize s.heap.update a (Obj.mapSeq fun _ => (#[] : Array Value)) = h1 at J1 ho1 z1 ⊢
  have z2 : (h1.push (seqObj "tuple" vs.toArray 0)).objs.size = h1.objs.size + 1 := size_push' _ _
  have J2 : Inv X pins σ (upd H (h1.push (seqObj "tuple" vs.toArray 0)).objs.size (.lst [])) { s with heap := (h1.push (seqObj "tuple" vs.toArray 0)).push (seqObj "list" #[] 0), toks := s.toks } :=
    J1.laid (fun b o e => Heap.get?_push_of_some _ (Heap.get?_push_of_some _ e)) (by rw [z2]; exact Nat.le_succ _) ⟨Nat.zero_le _, [], 0, .nil, Heap.get?_push_size _ rfl⟩
  have hk0 : H (h1.push (seqObj "tuple" vs.toArray 0)).objs.size = none := J1.hok.fresh (by rw [z2]; exact Nat.le_succ _)
  have hne : a ≠ (h1.push (seqObj "tuple" vs.toArray 0)).objs.size := by rw [z2, z1]; exact Nat.ne_of_lt (Nat.lt_succ_of_lt ha)
  have J3 : Inv X (pins ++ [(a, seqObj "list" #[] e1)]) σ (upd H (h1.push (seqObj "tuple" vs.toArray 0)).objs.size (.lst [])) { s with heap := (h1.push (seqObj "tuple" vs.toArray 0)).push (seqObj "list" #[] 0), toks := s.toks } :=
    J2.pins_of fun p hp => (List.mem_append.mp hp).elim (fun z => J2.pin p (List.mem_append_right _ z)) fun z => by
      rw [List.mem_singleton.mp z]
      exact ⟨Heap.get?_push_of_some _ (Heap.get?_push_of_some _ ho1), by rw [upd_ne hne]; exact hn, hL, hfs, fun v e => by cases e⟩
  generalize (h1.push (seqObj "tuple" vs.toArray 0)).objs.size = kS at J2 J3 hk0 hne ⊢
  generalize hs0 : ({ s with heap := (h1.push (seqObj "tuple" vs.toArray 0)).push (seqObj "list" #[] 0) } : Shared) = s0 at J3 ⊢
  clear hs0 J2 z2 J1 z1 ho1 h1
  unfold ksk_rest
  refine wpAny_bind (wpAny_rule ?_)
  first
    | rw [List.forIn_toArray]
    | (rw [← Array.forIn_toList]; simp only [List.toList_toArray])
    | rw [← Array.forIn_toList]
  refine wpAny_bind (ksk_fold (fun i s' => ∃ H' ys, Inv X (pins ++ [(a, seqObj "list" #[] e1)]) σ H' s' ∧ Same H H' ∧ H' kS = some (.lst ys) ∧ Paired (fun v y => ∃ q, v = V.ref q ∧ D.At H' q y) ys (l.take i)) vs 0 s0
    ⟨_, [], J3, same_new hk0, upd_same, .nil⟩ ?step ?done)
  case step =>
    rintro j x s' hx ⟨H', ys, J, sm, hkS, pr⟩
    simp only [Nat.zero_add] at pr ⊢
    have hj : j < vs.length := (List.getElem?_eq_some_iff.mp hx).1
    have hjl : j < l.length := by omega
    have hy : l[j]? = some l[j] := List.getElem?_eq_getElem hjl
    have hym : l[j] ∈ l := List.getElem_mem hjl
    have rx : RelV (f l[j]) x := by
      obtain ⟨u, hu, ru⟩ := rv.get (i := j) (x := f l[j]) (by rw [List.getElem?_map, hy]; rfl)
      rw [hx] at hu
      cases hu
      exact ru
    have yl : ys.length = j := by
      have := Paired.length pr
      rw [List.length_take] at this
      omega
    refine wpAny_bind (wpAny_attempt (wpAny_mono (run_in (X := X.wish fun _ _ => False) (us := [x]) (ws := [f l[j]]) (Q := fun v H2 => ∃ q, v = .ref q ∧ Same H' H2 ∧ D.At H2 q l[j]) F hr (J.wish _).env0.in1.in1 pass0 (J.wish _) (.cons rx .nil)
      (hk _ hym H' sm _ fun q H2 sm2 hq => ⟨q, rfl, sm2, hq⟩)) (fun v s'' he => ?_) fun _ _ hF => hF.elim))
    obtain ⟨v', H2, J', rv', q, rfl, sm2, hq⟩ := he
    obtain rfl : v = .ref q := rv'
    have J2 := J'.unwish
    have hkS2 := sm2 _ _ hkS
    obtain ⟨hzz, its, n2, rvi, hli, hget⟩ := J2.lstM hkS2
    try dsimp only
    have s2 := Heap.SameBut.update s''.heap kS (Obj.mapSeq (·.push (Value.ref q)))
    obtain ⟨c2, hc2⟩ : ∃ c2, (s''.heap.update kS (Obj.mapSeq (·.push (Value.ref q)))).get? kS = some (seqObj "list" (its.toArray.push (Value.ref q)) c2) := ⟨_, get?_update_seq hget (·.push (Value.ref q))⟩
    refine wpAny_bind (listUpdate_at hget rfl ?_ (by rw [List.size_toArray, ← hli]; exact hzz) (by rw [Array.size_push, List.size_toArray, ← hli]; omega))
    have et : l.take (j + 1) = l.take j ++ [l[j]] := by rw [List.take_succ, hy]; rfl
    refine wpAny_pure ⟨rfl, upd H2 kS (.lst (ys ++ [.ref q])), ys ++ [.ref q], ?_, same_mut (sm.trans sm2) hk0, upd_same, ?_⟩
    · refine J2.write (t' := s''.toks) (by rw [hkS2]; trivial) (.inl rfl) (fun b u hb e => (s2.2 b hb).trans e) ⟨_, hc2⟩ ⟨by rw [List.length_append, yl]; show j + 1 ≤ _; omega, its ++ [.ref q], c2, ?_, ?_⟩
      · exact paired_snoc rvi (show RelV (.ref q) (.ref q) from rfl)
      · rw [hc2, List.push_toArray]
    · rw [et]
      have up : ∀ q0 y, D.At H2 q0 y → D.At (upd H2 kS (.lst (ys ++ [.ref q]))) q0 y := fun q0 y e => D.wr e hkS2
      exact paired_snoc (paired_imp pr fun v y ⟨q0, e, hq0⟩ => ⟨q0, e, up q0 _ (D.same hq0 sm2)⟩) ⟨q, rfl, up q _ hq⟩
  case done =>
    rintro s' ⟨H', ys, J, sm, hkS, pr⟩
    rw [show l.take (0 + vs.length) = l from List.take_of_length_le (by omega)] at pr
    obtain ⟨hzz, its, n2, rvi, hli, hget⟩ := J.lstM hkS
    have pa := J.pin (a, seqObj "list" #[] e1) (List.mem_append_right _ (List.mem_append_right _ (List.mem_singleton.mpr rfl)))
    have hH'a : H' a = none := pa.2.1
    have hga : s'.heap.get? a = some (seqObj "list" #[] e1) := pa.1
    try dsimp only
    refine wpAny_bind (listItems_at hget rfl ?_)
    have hil : its.length = l.length := by rw [← hli, Paired.length pr]
    -- the keys
    have pk : Paired (fun u y => ∃ q, u = Value.ref q ∧ D.At H' q y) its l := by
      obtain ⟨e1, e2⟩ := paired_get pr
      refine paired_at hil fun i u y h1 h2 => ?_
      have hi : i < ys.length := by
        have := (List.getElem?_eq_some_iff.mp h2).1
        omega
      obtain ⟨u', hu, ru⟩ := rvi.get (List.getElem?_eq_getElem hi)
      rw [h1] at hu
      cases hu
      obtain ⟨q, e, hq⟩ := e2 i _ y (List.getElem?_eq_getElem hi) h2
      rw [e] at ru
      exact ⟨q, ru, hq⟩
    have hkk : ∀ v ∈ its, ∃ y ∈ l, D.kv H' v = gk y ∧ D.VV s'.heap v (D.kv H' v) := by
      intro v hv
      obtain ⟨y, hy, q', e, hq⟩ := paired_mem pk v hv
      subst e
      refine ⟨y, hy, D.kv_at hq, ?_⟩
      rw [D.kv_at hq]
      exact D.vof J hq
    have hsame : ∀ v ∈ its, ∀ u ∈ its, sameKs (D.kv H' v) (D.kv H' u) = true := by
      intro v hv u hu
      obtain ⟨y, hy, e1, _⟩ := hkk v hv
      obtain ⟨z, hz', e2, _⟩ := hkk u hu
      rw [e1, e2]
      exact hs y hy z hz'
    have p2 : Paired (fun (p : Value × Value) y => D.kv H' p.1 = gk y ∧ RelV (f y) p.2) (its.zip vs) l := by
      obtain ⟨_, e2⟩ := paired_get pk
      refine paired_at (by rw [List.length_zip]; omega) fun i p y h1 h2 => ?_
      rw [List.getElem?_zip_eq_some] at h1
      obtain ⟨q, e, hq⟩ := e2 i _ y h1.1 h2
      obtain ⟨u, hu, ru⟩ := rv.get (i := i) (x := f y) (by rw [List.getElem?_map, h2]; rfl)
      rw [h1.2] at hu
      cases hu
      refine ⟨?_, ru⟩
      rw [e]
      exact D.kv_at hq
    have tail : ∀ st : SortSt, SrtO.Srtd (SrtO.lt2 fun v u => cLt (D.kv H' v) (D.kv H' u)) (arrOf st).toList → (arrOf st).toList.Perm (its.zip vs) → failedOf st = none → wpAny (model X.prog X.w) X.A.in1.in1 (ksk_tail a false e1 (.ref kS) st) P X.xe s' := by
      intro st hso hpe hfl
      obtain ⟨l', pl, pr'⟩ := paired_perm hpe p2
      have hkne : a ≠ kS := fun z => by rw [← z, hH'a] at hkS; cases hkS
      have s2 := Heap.SameBut.update s'.heap kS (Obj.mapSeq fun _ => (#[] : Array Value))
      obtain ⟨c2, hc2⟩ : ∃ c2, (s'.heap.update kS (Obj.mapSeq fun _ => (#[] : Array Value))).get? kS = some (seqObj "list" #[] c2) := ⟨_, get?_update_seq hget fun _ => #[]⟩
      have hga2 : (s'.heap.update kS (Obj.mapSeq fun _ => (#[] : Array Value))).get? a = some (seqObj "list" #[] e1) := (s2.2 a hkne).trans hga
      have K1 : Inv X (pins ++ [(a, seqObj "list" #[] e1)]) σ (upd H' kS (.lst [])) { s' with heap := s'.heap.update kS (Obj.mapSeq fun _ => (#[] : Array Value)), toks := s'.toks } :=
        J.write (by rw [hkS]; trivial) (.inl rfl) (fun b u hb e => (s2.2 b hb).trans e) ⟨_, hc2⟩ ⟨Nat.zero_le _, [], c2, .nil, hc2⟩
      unfold ksk_tail
      try dsimp only
      refine wpAny_bind (listUpdate_at hget rfl ?_ (by rw [List.size_toArray, ← hli]; exact hzz) (Nat.zero_le _))
      refine wpAny_bind (wpAny_letGo ?_)
      refine wpAny_bind (seqEpoch_at hga2 rfl ?_)
      have hsz : ((arrOf st).map (·.2)).size ≤ sizeLine := by
        have := hpe.length_eq
        rw [Array.length_toList, List.length_zip] at this
        rw [Array.size_map, this]
        omega
      simp only [Bool.false_eq_true, if_false]
      refine wpAny_bind (listUpdate_at hga2 rfl ?_ (Nat.zero_le _) (by omega))
      rw [hfl]
      simp only [bne_self_eq_false, Bool.false_eq_true, if_false]
      generalize hh2 : s'.heap.update kS (Obj.mapSeq fun _ => (#[] : Array Value)) = h2 at K1 hga2 ⊢
      have s3 := Heap.SameBut.update h2 a (Obj.mapSeq fun _ => (arrOf st).map (·.2))
      obtain ⟨c3, hc3⟩ : ∃ c3, (h2.update a (Obj.mapSeq fun _ => (arrOf st).map (·.2))).get? a = some (seqObj "list" ((arrOf st).map (·.2)) c3) := ⟨_, get?_update_seq hga2 fun _ => (arrOf st).map (·.2)⟩
      have hupa : upd H' kS (.lst []) a = none := by rw [upd_ne hkne]; exact hH'a
      have hvals : Vals (l'.map f) (((arrOf st).map (·.2)).toList) := by
        rw [Array.toList_map]
        have key : ∀ {ps : List (Value × Value)} {m : List α}, Paired (fun (p : Value × Value) y => D.kv H' p.1 = gk y ∧ RelV (f y) p.2) ps m → Vals (m.map f) (ps.map (·.2)) := by
          intro ps m hp
          induction hp with
          | nil => exact .nil
          | cons r t ih => exact .cons r.2 ih
        exact key pr'
      have K3 : Inv X pins σ (upd (upd H' kS (.lst [])) a (.lst (l'.map f))) { s' with heap := h2.update a (Obj.mapSeq fun _ => (arrOf st).map (·.2)), toks := s'.toks } := by
        refine Inv.take (s := { s' with heap := h2, toks := s'.toks }) (Inv.unpinned K1) (fun b ob hb e => (s3.2 b hb).trans e) ⟨hupa, hL, hfs, hex, hcell, hpin⟩ ⟨?_, _, c3, hvals, ?_⟩
        · rw [List.length_map, pl.length_eq]; exact hz
        · rw [hc3, Array.toArray_toList]
      refine wpAny_pure (h l' _ _ pl ?_ K3 ?_ upd_same)
      · refine paired_pairwise (R := fun (p : Value × Value) y => D.kv H' p.1 = gk y ∧ RelV (f y) p.2) ?_ pr' hso
        rintro p p' y y' ⟨k1, _⟩ ⟨k2, _⟩ hlt
        have hlt' : cLt (D.kv H' p'.1) (D.kv H' p.1) = false := hlt
        rw [k1, k2] at hlt'
        exact hlt'
      · exact fun b o e => by
          rw [upd_ne (ne_of_none e hn)]
          exact same_mut sm hk0 b o e
    have hzip : (its.toArray.zip vs.toArray).toList = its.zip vs := by simp
    unfold ksk_end
    try dsimp only
    simp only [Bool.false_eq_true, if_false]
    by_cases h2 : vs.toArray.size < 2
    · rw [if_pos h2, if_pos h2]
      refine wpAny_bind (wpAny_pure ?_)
      rw [StateT.run_pure]
      refine wpAny_bind (wpAny_pure ?_)
      try dsimp only
      rw [List.size_toArray] at h2
      refine tail (SortSt.mk' general' (its.toArray.zip vs.toArray) #[] 7 none) ?_ (by show (its.toArray.zip vs.toArray).toList.Perm _; rw [hzip]) rfl
      show SrtO.Srtd _ (its.toArray.zip vs.toArray).toList
      rw [hzip]
      have hl2 : (its.zip vs).length < 2 := by rw [List.length_zip]; omega
      match its.zip vs, hl2 with
      | [], _ => exact List.Pairwise.nil
      | [v], _ => exact List.pairwise_singleton _ _
      | _ :: _ :: l, h => exact absurd h (by simp)
    · rw [if_neg h2, if_neg h2]
      rw [List.size_toArray] at h2
      refine wpAny_bind (D.kind (vs := its) (k := D.kv H') (by omega) (fun v hv => (hkk v hv).choose_spec.2.2) (fun v hv => ?_) ?_)
      · obtain ⟨y, hy, e, _⟩ := hkk v hv
        rw [e]
        exact ht y hy
      refine wpAny_bind (wpAny_mono (SrtO.wpS_sortO (st0 := SortSt.mk' (tuples' (Value.type T != Value.type "tuple")) (its.toArray.zip vs.toArray) #[] 7 none)
        (Q := fun _ st' => SrtO.Srtd (SrtO.lt2 fun v u => cLt (D.kv H' v) (D.kv H' u)) (arrOf st').toList ∧ (arrOf st').toList.Perm (its.zip vs) ∧ failedOf st' = none) (SrtO.swo2 (swo_cLt (D.kv H'))) (D.cmp (s := s') (Room.units hr) (fun v hv => (hkk v hv).choose_spec.2.2) hsame) rfl
        (fun p hp => ?_) rfl rfl fun st' a1 a2 a3 => ⟨a1, ?_, a3⟩) ?_ fun _ _ e => e)
      · have hp' : p ∈ (its.toArray.zip vs.toArray).toList := hp
        rw [hzip] at hp'
        exact (List.of_mem_zip (a := p.1) (b := p.2) hp').1
      · have := a2.perm
        have e : (arrOf (SortSt.mk' (tuples' (Value.type T != Value.type "tuple")) (its.toArray.zip vs.toArray) #[] 7 none)).toList = its.zip vs := hzip
        rw [e] at this
        exact this
      · rintro ⟨⟨⟩, st'⟩ s2 ⟨rfl, hp1, hp2, hf⟩
        try dsimp only
        exact tail st' hp1 hp2 hf
end
def rSortD (X : Cx) (sp : Sp) : List V → Hp → VK → Prop := fun vs H Q => ∃ (α : Type) (f : α → V) (gk : α → List V) (T : String) (D : KeyD X gk T) (l : List α) (v : V), vs = [v] ∧ KSrc X.K H v (l.map f) ∧
  (∀ y ∈ l, ∀ H1, Same H H1 → ∀ Q' : VK, (∀ q H2, Same H1 H2 → D.At H2 q y → Q' (.ref q) H2) → sp [f y] H1 Q' E0) ∧
  (∀ y ∈ l, Head T (gk y)) ∧ (∀ y ∈ l, ∀ z ∈ l, sameKs (gk y) (gk z) = true) ∧
  ∀ (l' : List α) (p : Addr) (H' : Hp), l'.Perm l → l'.Pairwise (fun y z => cLt (gk z) (gk y) = false) → H p = none → Same H H' → H' p = some (.lst (l'.map f)) → Q (.ref p) H'
section
variable {X : Cx} {n : Nat} {g : Addr} {sp : Sp}
theorem cr_sortKeyD (F : FnR X.prog X.w X.K X.mg X.base CX0 n g sp) (hr : Room (n + 2) X.A) (hc : X.calm = true) : CallRK X (.builtin "sorted") [Str.ofString "key"] (fun vs zs H Q => zs = [.ref g] ∧ rSortD X sp vs H Q) := by
  intro pins s σ H vs zs us ws Q I r rz h
  obtain ⟨rfl, α, f, gk, T, D, l, v, rfl, ⟨a, rfl, src⟩, hk, ht, hs, q⟩ := h
  obtain ⟨w1, rfl, e1⟩ := vals1 rz
  obtain rfl : w1 = Value.ref g := e1
  obtain ⟨u, rfl, ru⟩ := vals1 r
  obtain rfl : u = Value.ref a := ru
  have hr2 : Room n X.A.in1.in1 := (show Room (n + 1) X.A.in1 from Room.in1 hr).in1
  refine call_function_entry_kw kind_sorted plain_sorted entry_sorted (ksk_s1 _ _) ?_
  unfold Builtin.«sorted»
  refine wpAny_bind (m := checkCount "sorted" 1 1 _) (wpAny_pure ?_)
  have col : ∀ R : List Value → Shared → Prop, (∀ h' tk us, (∀ b o, s.heap.get? b = some o → h'.get? b = some o) → Vals (l.map f) us → l.length ≤ sizeLine → R us { s with heap := h', toks := tk }) → wpAny (model X.prog X.w) X.A.in1 (collect (.ref a)) R X.xe s := by
    intro R hR
    rcases src with hL | ⟨kvs, hD, ek⟩
    · obtain ⟨its, rv, hl, hz⟩ := I.list hL
      refine collect_list hl.isList (hR _ s.toks its (fun b o e => ?_) rv (by rw [List.length_map] at hz; exact hz)) (by rw [← rv.length]; exact hz)
      have hlt : b < s.heap.objs.size := Heap.lt_size e
      rw [Heap.get?_update_ne _ _ _ _ (Nat.ne_of_lt hlt)]
      exact Heap.get?_push_of_some _ e
    · obtain ⟨z, lo, vs, rel, dd⟩ := dk_rd I.hok hD
      obtain ⟨ep, hat⟩ := dd.dictAt
      have hl : kvs.length = vs.length := Paired.length rel
      refine PySem.W.kdu_collect (A := X.A.in1) (PySem.W.kdl_dict (knd := mixKind X.prog X.w) (kvs := vs) (ep := ep) lo) (I.ok.hd hc) hat (by rw [← hl]; exact z) fun h' tk acc hk hacc => ?_
      have ll : l.length = kvs.length := by
        have := congrArg List.length ek
        rw [List.length_map, List.length_map] at this
        exact this
      refine hR h' tk acc.toList hk ?_ (by rw [ll]; exact z)
      rw [ek]
      have el : acc.toList.length = acc.size := by simp
      refine vals_of_at (by rw [List.length_map, el, hacc.1, hl]) fun j x w h1 h2 => ?_
      obtain ⟨k, y, hky, hi⟩ := hacc.2 j w (by rw [← Array.getElem?_toList]; exact h2)
      have e1 : (kvs.map (·.1))[j]? = some k := by
        rw [KV.keys rel, List.getElem?_map, hky] <;> rfl
      have e2 : (kvs.map fun kv => kV kv.1)[j]? = some (kV k) := by
        have e3 : (kvs.map fun kv => kV kv.1) = (kvs.map (·.1)).map kV := by rw [List.map_map] <;> rfl
        rw [e3, List.getElem?_map, e1] <;> rfl
      rw [e2] at h1
      cases h1
      exact keyIs_rel hi
  refine wpAny_bind (col _ fun h' tk us hkp rv hz => ?_)
  have hul : us.length = l.length := by rw [← rv.length, List.length_map]
  refine wpAny_bind (wpAny_newList ?_ (by rw [hul]; exact hz))
  have I1 : Inv X pins σ H { s with heap := h', toks := tk } := I.kept hkp
  have hoL : (h'.push (seqObj "list" us.toArray 0)).get? h'.objs.size = some (seqObj "list" us.toArray 0) := Heap.get?_push_size _ rfl
  have hfr : H h'.objs.size = none := I1.hok.fresh (Nat.le_refl _)
  have fp : FpOk X pins H h'.objs.size := I1.fpOk (Nat.le_refl _) hfr
  have I2 : Inv X pins σ H { s with heap := h'.push (seqObj "list" us.toArray 0), toks := tk } := I1.kept fun b o e => Heap.get?_push_of_some _ e
  show wpAny _ _ _ _ _ { s with heap := h'.push (seqObj "list" us.toArray 0), toks := tk }
  refine wpAny_bind (wpAny_holding (wpAny_call_entry_kw slot_list_sort ⟨_, hoL, rfl⟩ entry_list_sort ?body (ksk_l1 _ _)))
  case body =>
    show wpAny (model X.prog X.w) X.A.in1.in1 (Builtin.«list.sort» ⟨[.ref h'.objs.size], [(Str.ofString "key", .ref g)]⟩) _ _ _
    rw [ksk_t1]
    refine list_sort_keyD D I2 F hr2 hoL fp rv hz hk ht hs fun l' s' H' pl po J sm hp => ⟨_, rfl, ?_⟩
    exact wpAny_pure ⟨_, rfl, .ref h'.objs.size, H', J, rfl, q l' _ H' pl po hfr sm hp⟩
end
section
variable {X : Cx} {k j : Nat} {x : Str} {sp : Sp} {p p2 pos kpos : Pos} {e : Expr} {t : TA}
def tSortD (X : Cx) (sp : Sp) (t : TA) : TE := fun σ H Q => t σ H fun vs H1 => rSortD X sp vs H1 Q
/-- sorted(e, key=f), f a def of the text -/
theorem pe_sortD (c : Cal X.prog X.w X.K X.mg X.base CX0 k x sp) (hr : Room j X.A) (hk : k + 2 ≤ j) (hc : X.calm = true) (hg : Gl X "sorted") (hm : X.mg "sorted" = none) (hgx : Gl X x) (ha : PA X [e] t)
    (hdb : (x == ("__debug__" : Str)) = false := by decide)
    (he : backTo pos (starEach [e] X.env) = (false, eval e X.env) :: backTo pos (starEach [] X.env) := by rfl) (hpl : (backTo pos (starEach [e] X.env)).any (·.1) = false := by rfl) :
    PE X (.Call (.Name "sorted" p) [e] [⟨some (Str.ofString "key"), .Name x p2, kpos⟩] pos) (tSortD X sp t) := by
  obtain ⟨f, fd, ps, F, hmx, kp, b⟩ := c.ex
  have P0 := pe_callBK (p := p) (pos := pos) (cr_sortKeyD (fnR_of F b) (hr.mono hk) hc) hg hm (by rfl) ha (pk_cons (kpos := kpos) (nm := some (Str.ofString "key")) (pe_glob (pos := p2) (v := .ref f) hgx hmx rfl hdb) pk_nil) (by decide) (by decide) he hpl
  refine ⟨fun pins s σ H Q I h => P0.run pins s σ H Q I ?_⟩
  have e9 : (fun (vs : List V) (H1 : Hp) => ([V.ref f] : List V) = [.ref f] ∧ rSortD X sp vs H1 Q) = fun vs H1 => rSortD X sp vs H1 Q := by
    funext vs H1
    exact propext ⟨fun h => h.2, fun h => ⟨rfl, h⟩⟩
  show t σ H fun vs H1 => ([V.ref f] : List V) = [.ref f] ∧ rSortD X sp vs H1 Q
  rw [e9]
  exact h
end
/-! ### a thing ahead of a tuple -/
def NestA {α : Type} (gk : α → List V) (H : Hp) (q : Addr) (y : α) : Prop := ∃ x ks r, gk y = x :: ks ∧ H q = some (.tup [x, .ref r]) ∧ H r = some (.tup ks)
def kvN (H : Hp) : Value → List V
  | .ref q => match H q with
    | some (.tup [x, .ref r]) => match H r with
      | some (.tup ks) => x :: ks
      | _ => []
    | _ => []
  | _ => []
theorem kvN_at {α : Type} {gk : α → List V} {H : Hp} {q : Addr} {y : α} (h : NestA gk H q y) : kvN H (.ref q) = gk y := by
  obtain ⟨x, ks, r, e, h1, h2⟩ := h
  unfold kvN
  simp only [h1, h2, e]
def NestV (h : Heap) (v : Value) (ks : List V) : Prop := ∃ (a b : Addr) (o o' : Obj) (x : V) (rs : List V) (u : Value) (its : List Value) (n m : Nat), ks = x :: rs ∧ v = .ref a ∧ h.get? a = some o ∧ o.cls = .type "tuple" ∧ o.data = .seq #[u, .ref b] n ∧ RelV x u ∧ h.get? b = some o' ∧ o'.cls = .type "tuple" ∧ o'.data = .seq its.toArray m ∧ Vals rs its
theorem nestV_of {X : Cx} {α : Type} {gk : α → List V} {pins : List (Addr × Obj)} {σ : L2.St} {H : Hp} {s : Shared} {q : Addr} {y : α} (I : Inv X pins σ H s) (h : NestA gk H q y) : NestV s.heap (.ref q) (gk y) := by
  obtain ⟨x, ks, r, e, h1, h2⟩ := h
  obtain ⟨_, its, rv, o, ho, hc, n, hd⟩ := I.hok q _ h1
  obtain ⟨_, its2, rv2, o2, ho2, hc2, n2, hd2⟩ := I.hok r _ h2
  cases rv with
  | cons r1 t1 =>
    cases t1 with
    | cons r2 t2 =>
      cases t2
      rename_i u w
      obtain rfl : w = Value.ref r := r2
      exact ⟨q, r, o, o2, x, ks, u, its2, n, n2, e, rfl, ho, hc, hd, r1, ho2, hc2, hd2, rv2⟩
def dat : V → PyData
  | .int i => .int i
  | .str s => .str s
  | _ => .none
def Plain : V → Prop
  | .int _ => True
  | .str _ => True
  | _ => False
theorem reads_dat {h : Heap} {x : V} {u : Value} (hp : Plain x) (r : RelV x u) : Reads h u (dat x) [] := by
  cases x <;> first | exact hp.elim | skip
  · obtain ⟨t, rfl⟩ := r; exact .int _ _
  · obtain ⟨t, rfl⟩ := r; exact .str _ _
theorem reads_dats {h : Heap} : ∀ {ks : List V} {us : List Value}, (∀ x ∈ ks, Plain x) → Vals ks us → ReadsAll h us (ks.map dat) []
  | [], _, _, .nil => .nil
  | x :: ks, _, hp, .cons r t => by
    have := ReadsAll.cons (reads_dat (h := h) (hp x List.mem_cons_self) r) (reads_dats (fun y m => hp y (List.mem_cons_of_mem _ m)) t)
    exact this
theorem plain_same : ∀ {x y : V}, sameK x y = true → Plain x ∧ Plain y := by
  intro x y h
  cases x <;> cases y <;> first | exact ⟨trivial, trivial⟩ | cases h
theorem alike_dat {x y : V} (h : sameK x y = true) : PySem.W.alike (dat x) (dat y) = true := by
  cases x <;> cases y <;> first | rfl | cases h
theorem eqv_dat {x y : V} (h : sameK x y = true) : PyData.eqv (dat x) (dat y) = decide (x = y) := by
  cases x <;> cases y <;> first | cases h | skip
  · rename_i i j
    show (i == j) = _
    rw [Bool.eq_iff_iff]; simp
  · rename_i i j
    show (i == j) = _
    rw [Bool.eq_iff_iff]; simp
theorem lt_dat {x y : V} (h : sameK x y = true) : PySem.W.dataLt (dat x) (dat y) = vLt x y := by
  cases x <;> cases y <;> first | cases h | skip
  · exact PySem.W.dataLt_int _ _
  · exact PySem.W.dataLt_str _ _
theorem alike_dats : ∀ {a b : List V}, sameKs a b = true → PySem.W.alikeAll (a.map dat) (b.map dat) = true
  | [], _, _ => rfl
  | _ :: _, [], _ => rfl
  | x :: xs, y :: ys, h => by
    have h' : (sameK x y && sameKs xs ys) = true := h
    rw [Bool.and_eq_true] at h'
    show (PySem.W.alike (dat x) (dat y) && PySem.W.alikeAll _ _) = true
    rw [alike_dat h'.1, alike_dats h'.2]; rfl
theorem eqv_dats : ∀ {a b : List V}, sameKs a b = true → PyData.eqvAll (a.map dat) (b.map dat) = decide (a = b)
  | [], [], _ => rfl
  | [], _ :: _, _ => rfl
  | _ :: _, [], _ => rfl
  | x :: xs, y :: ys, h => by
    have h' : (sameK x y && sameKs xs ys) = true := h
    rw [Bool.and_eq_true] at h'
    show (PyData.eqv (dat x) (dat y) && PyData.eqvAll _ _) = _
    rw [eqv_dat h'.1, eqv_dats h'.2, Bool.eq_iff_iff]
    simp
theorem toks_tup : ∀ {a b : List V}, sameKs a b = true → lexLt itemOrd (PySem.W.keyToksAll (a.map dat)) (PySem.W.keyToksAll (b.map dat)) = tupLt a b
  | [], [], _ => by rw [PyProof.Rows.lex_irrefl]; simp [tupLt]
  | [], _ :: _, _ => by
    rw [List.map_cons, PySem.W.toks_all_cons]
    simp only [List.map_nil, PySem.W.keyToksAll]
    rw [lex_diff (O := itemOrd) (by simp)]
    simp [itemLt, tupLt]
  | _ :: _, [], _ => by
    rw [List.map_cons, PySem.W.toks_all_cons]
    simp only [List.map_nil, PySem.W.keyToksAll]
    rw [lex_diff (O := itemOrd) (by simp)]
    simp [itemLt, tupLt]
  | x :: xs, y :: ys, h => by
    have h' : (sameK x y && sameKs xs ys) = true := h
    rw [Bool.and_eq_true] at h'
    rw [List.map_cons, List.map_cons]
    unfold tupLt
    by_cases e : x = y
    · rw [if_pos e, PySem.W.dataLt_all_yes (alike_dat h'.1) (by rw [eqv_dat h'.1]; exact decide_eq_true e), toks_tup h'.2]
    · rw [if_neg e, PySem.W.dataLt_all_no (alike_dat h'.1) (by rw [eqv_dat h'.1]; exact decide_eq_false e), lt_dat h'.1]
theorem tupLt_self (a : List V) : sameKs a a = true → tupLt a a = false := fun h => by
  rw [tup_cLt h]
  exact decide_eq_false (List.lt_irrefl _)
theorem toks_nest {x y : V} {a b : List V} (h : sameK x y = true) (g : sameKs a b = true) : lexLt itemOrd (PySem.W.keyToksAll [dat x, .tuple (a.map dat)]) (PySem.W.keyToksAll [dat y, .tuple (b.map dat)]) = tupLt (x :: a) (y :: b) := by
  have ga : PySem.W.alike (.tuple (a.map dat)) (.tuple (b.map dat)) = true := alike_dats g
  show _ = (if x = y then tupLt a b else vLt x y)
  by_cases e : x = y
  · rw [if_pos e, PySem.W.dataLt_all_yes (alike_dat h) (by rw [eqv_dat h]; exact decide_eq_true e)]
    by_cases e2 : a = b
    · subst e2
      rw [PyProof.Rows.lex_irrefl]
      exact (tupLt_self a g).symm
    · have : PyData.eqv (.tuple (a.map dat)) (.tuple (b.map dat)) = false := by
        show PyData.eqvAll _ _ = false
        rw [eqv_dats g]; exact decide_eq_false e2
      rw [PySem.W.dataLt_all_no ga this, PySem.W.dataLt_tuple, toks_tup g]
  · rw [if_neg e, PySem.W.dataLt_all_no (alike_dat h) (by rw [eqv_dat h]; exact decide_eq_false e), lt_dat h]
theorem dep_dats : ∀ (a : List V), PyData.depthAll (a.map dat) ≤ 1
  | [] => by decide
  | x :: a => by
    have := dep_dats a
    cases x <;> (simp only [List.map_cons, PyData.depthAll, dat, PyData.depth] at *; omega)
section
variable {prog : Program} {w : World} {A : Around} {s : Shared} {E : Value → Shared → Prop}
theorem plain_all : ∀ {l : List V}, sameKs l l = true → ∀ z ∈ l, Plain z
  | x :: xs, h, z, hz => by
    have h' : (sameK x x && sameKs xs xs) = true := h
    rw [Bool.and_eq_true] at h'
    rcases List.mem_cons.mp hz with rfl | hz
    · exact (plain_same h'.1).1
    · exact plain_all h'.2 z hz
theorem dat_not_tup (x : V) (t : List PyData) : dat x ≠ .tuple t := by
  cases x <;> intro h <;> cases h
theorem dep_dat (x : V) : PyData.depth (dat x) ≤ 1 := by
  cases x <;> (simp only [dat, PyData.depth]; first | omega | decide)
theorem nest_cmp {b : Bool} {vs : List Value} {k : Value → List V} (hu : A.units + 64 < cLine) (hp : ∀ v ∈ vs, NestV s.heap v (k v)) (hs : ∀ v ∈ vs, ∀ u ∈ vs, sameKs (k v) (k u) = true) : SrtO.Cmp prog w A s (tuples' b) (fun p => p.1 ∈ vs) (SrtO.lt2 fun v u => cLt (k v) (k u)) := by
  intro p q hm hm'
  show wpAny (model prog w) A (keyLt' (tuples' b) p.1 q.1) (fun r s' => s' = s ∧ r = cLt (k p.1) (k q.1)) (fun _ _ => False) s
  rw [← tup_cLt (hs _ hm _ hm')]
  have h2 := hs _ hm _ hm'
  have hA := hs _ hm _ hm
  have hB := hs _ hm' _ hm'
  have hpp := hp _ hm
  have hqq := hp _ hm'
  generalize k p.1 = kp at hpp h2 hA ⊢
  generalize k q.1 = kq at hqq h2 hB ⊢
  obtain ⟨a, c, o, o2, x, rs, u, its, n, m, rfl, e, ho, hc, hd, rx, ho2, hc2, hd2, rv⟩ := hpp
  obtain ⟨a', c', o', o2', x', rs', u', its', n', m', rfl, e', ho', hc', hd', rx', ho2', hc2', hd2', rv'⟩ := hqq
  have h' : (sameK x x' && sameKs rs rs') = true := h2
  rw [Bool.and_eq_true] at h'
  have pA := plain_all hA
  have pB := plain_all hB
  have r1 : ReadsAll s.heap [u, .ref c] [dat x, .tuple (rs.map dat)] [] := ReadsAll.cons (reads_dat (pA _ List.mem_cons_self) rx) (ReadsAll.cons (Reads.tuple ho2 hc2 hd2 (reads_dats (fun z hz => pA z (List.mem_cons_of_mem _ hz)) rv)) .nil)
  have r2 : ReadsAll s.heap [u', .ref c'] [dat x', .tuple (rs'.map dat)] [] := ReadsAll.cons (reads_dat (pB _ List.mem_cons_self) rx') (ReadsAll.cons (Reads.tuple ho2' hc2' hd2' (reads_dats (fun z hz => pB z (List.mem_cons_of_mem _ hz)) rv')) .nil)
  rw [e, e']
  refine PySem.W.kat_lt ho hd ho' hd' ?_
  refine PySem.W.katLex_alike (Q := fun b s' => s' = s ∧ b = tupLt (x :: rs) (x' :: rs')) [dat x, .tuple (rs.map dat)] [dat x', .tuple (rs'.map dat)] 0 _ _ _ _ r1 r2 ?_ ?_ (fun _ _ y r t ey => ?_) rfl ⟨rfl, toks_nest h'.1 h'.2⟩
  · show (PySem.W.alike (dat x) (dat x') && (PySem.W.alikeAll (rs.map dat) (rs'.map dat) && true)) = true
    rw [alike_dat h'.1, alike_dats h'.2]; rfl
  · have d1 := dep_dats rs
    have d2 := dep_dat x
    have : PyData.depthAll [dat x, .tuple (rs.map dat)] ≤ 64 := by
      simp only [PyData.depthAll, PyData.depth]
      omega
    have m1 := Nat.min_le_left (PyData.depthAll [dat x, .tuple (rs.map dat)]) (PyData.depthAll [dat x', .tuple (rs'.map dat)])
    omega
  · cases ey
    exact dat_not_tup _ _
open Classical in
theorem nest_kind {T : String} {vs : List Value} {k : Value → List V} {Q : SortKind → Shared → Prop} (h0 : 0 < vs.length) (hp : ∀ v ∈ vs, NestV s.heap v (k v)) (ht : ∀ v ∈ vs, Head T (k v)) (hq : Q (tuples' (Value.type T != Value.type "tuple")) s) : wpAny (model prog w) A (keyKind' vs.toArray) Q E s := by
  have hx : ∀ v ∈ vs, ∃ ks, TupV s.heap v ks ∧ Head T ks := by
    intro v hv
    have hpp := hp v hv
    have hh := ht v hv
    obtain ⟨a, c, o, o2, x, rs, u, its, n, m, e1, e, ho, hc, hd, rx, _⟩ := hpp
    obtain ⟨y, r, ek, fx⟩ := hh
    rw [e1] at ek
    cases ek
    exact ⟨[x, .ref c], ⟨a, o, [u, .ref c], n, e, ho, hc, hd, .cons rx (.cons rfl .nil)⟩, x, _, rfl, fx⟩
  let k' : Value → List V := fun v => if h : ∃ ks, TupV s.heap v ks ∧ Head T ks then h.choose else []
  have hk : ∀ v ∈ vs, TupV s.heap v (k' v) ∧ Head T (k' v) := by
    intro v hv
    have h := hx v hv
    show TupV s.heap v (if h : ∃ ks, TupV s.heap v ks ∧ Head T ks then h.choose else []) ∧ Head T (if h : ∃ ks, TupV s.heap v ks ∧ Head T ks then h.choose else [])
    rw [dif_pos h]
    exact h.choose_spec
  exact tup_kind (k := k') h0 (fun v hv => (hk v hv).1) (fun v hv => (hk v hv).2) hq
end
/-- keys: a thing, and a tuple of things -/
def keyN (X : Cx) {α : Type} (gk : α → List V) (T : String) : KeyD X gk T where
  At := NestA gk
  kv := kvN
  VV := NestV
  kv_at := kvN_at
  same := fun ⟨x, ks, r, e, h1, h2⟩ s => ⟨x, ks, r, e, s _ _ h1, s _ _ h2⟩
  wr := fun ⟨x, ks, r, e, h1, h2⟩ hp => ⟨x, ks, r, e, by rw [upd_ne (ne_of h1 hp (by intro z; cases z))]; exact h1, by rw [upd_ne (ne_of h2 hp (by intro z; cases z))]; exact h2⟩
  vof := nestV_of
  kind := nest_kind
  cmp := nest_cmp
end Sh
set_option Elab.async false
set_option linter.all false
set_option maxRecDepth 100000
set_option maxHeartbeats 4000000
namespace Sh
open PySem PySem.Spec PyProof.Rows L2
open SX (S S_inj S_len S_cat)
open Gp (prodT)
local macro_rules | `(tactic| walk_at "nx") => `(tactic| repeat (with_reducible first | refine Sh.gn_mk ?_ | refine Sh.nx_mk ?_ | refine Sh.st_nx ?_ | refine Sh.rt_mk ?_ | refine Sh.ct_mk ?_ | refine Sh.bk_mk ?_))
local macro_rules | `(tactic| walk_at "sq") => `(tactic| first | exact SqL.of upd_same | exact SqT.of upd_same | exact SqL.of (by assumption) | exact SqT.of (by assumption) | assumption | exact Or.inl (SqL.of (by assumption)) | exact Or.inr (SqT.of (by assumption)) | exact Or.inl (by assumption) | exact Or.inr (by assumption))
local macro_rules | `(tactic| walk_at "hp") => `(tactic| first | exact upd_same | assumption)
local macro_rules | `(tactic| walk_at "sz") => `(tactic| first | exact Nat.le_of_ble_eq_true rfl | omega)
local macro_rules | `(tactic| walk_at "sd") => `(tactic| first | omega | exact rfl | assumption | (show (0 : Int) < _; omega) | exact And.intro (by omega) (by omega) | exact Or.inl (And.intro (by omega) (by omega)) | exact Or.inr (And.intro (by omega) (by omega)) | omega | exact Sh.sz_S (by omega) | decide)
local macro_rules | `(tactic| walk_at "rd1") => `(tactic| first
  | (with_reducible first | refine Sh.gn_mk ?_ | refine Sh.nx_mk ?_ | refine Sh.st_nx ?_ | refine Sh.rt_mk ?_ | refine Sh.ct_mk ?_ | refine Sh.bk_mk ?_)
  | refine Exists.intro (α := V) _ (And.intro rfl ?_)
  | refine Exists.intro (α := Bool) _ (And.intro rfl ?_)
  | refine Exists.intro (α := Int) _ (And.intro rfl ?_)
  | refine Exists.intro (α := PySem.Str) _ (And.intro rfl ?_)
  | refine Exists.intro (α := Int) _ (Exists.intro (α := Int) _ (And.intro rfl (And.intro rfl ?_)))
  | refine Exists.intro (α := PySem.Str) _ (Exists.intro (α := PySem.Str) _ (And.intro rfl (And.intro rfl ?_)))
  | refine Exists.intro (α := Int) _ (Exists.intro (α := Int) _ (And.intro rfl ?_))
  | refine Or.inl (Exists.intro (α := Int) _ (And.intro rfl ?_))
  | refine Exists.intro _ (Exists.intro _ (Exists.intro _ (Exists.intro _ (And.intro rfl (And.intro rfl (And.intro (by walk_at "sq") (And.intro rfl ?_)))))))
  | refine Exists.intro _ (Exists.intro _ (Exists.intro _ (Exists.intro _ (And.intro rfl (And.intro rfl (And.intro (by walk_at "hp") (And.intro rfl ?_)))))))
  | refine And.intro (by walk_at "sd") ?_
  )
local macro_rules | `(tactic| walk_at "rd") => `(tactic| repeat walk_at "rd1")
local macro_rules | `(tactic| walk_at "lk") => `(tactic| first | exact rfl | (rw [lookup_putF, if_pos rfl]) | (rw [lookup_putF, if_neg (by decide +kernel)]; walk_at "lk"))

theorem hu65_of {k : Nat} {A : Around} (hr : Room k A) : A.units + 65 < cLine := by
  have := hr.un
  omega
def dV (d : Nat) : V := .int (d : Nat)
/-- a row of numbers in a list of its own -/
def RowV (H : Hp) (v : V) (r : List Nat) : Prop := ∃ q, v = .ref q ∧ H q = some (.lst (r.map dV))
theorem dpAll_of {α : Type} {Rel : Hp → V → α → Prop} {f : α → PyData} {K : PySem.W.Frag} {H : Hp} (hd : ∀ v y, Rel H v y → Dp K H v (f y)) : ∀ {xs : List V} {l : List α}, Items Rel H xs l → DpAll K H xs (l.map f)
  | [], [], _ => .nil
  | [], _ :: _, h => by have := h.1; simp at this
  | _ :: _, [], h => by have := h.1; simp at this
  | x :: xs, y :: l, h => .cons (hd _ _ (h.2 0 x y rfl rfl)) (dpAll_of hd (xs := xs) (l := l) ⟨by have := h.1; simpa using this, fun i a b h1 h2 => h.2 (i + 1) a b (by simpa using h1) (by simpa using h2)⟩)
/-- a comprehension over a list whose items are told by l -/
theorem lc_lstR {α : Type} {Rel : Hp → V → α → Prop} {l : List α} {xs : List V} {K : PySem.W.Frag} {a : Addr} {g : TG} {tt : TT} {te : TE} {vs : List Nat} {σ : L2.St} {H1 : Hp} {D : Addr} {Qd : Hp → Prop} (hlen : xs.length = l.length)
    (Pv : List α → Hp → Prop) (h0 : Pv [] (upd H1 D (.lst []))) (hG : ∀ pre H, Pv pre H → SqL K H a xs ∧ ∀ (i : Nat) x y, xs[i]? = some x → l[i]? = some y → Rel H x y)
    (hs : ∀ pre y post x H, l = pre ++ y :: post → xs[pre.length]? = some x → Rel H x y → Pv pre H → g x (wipe σ vs) H fun σ2 H2 => wipe σ2 vs = wipe σ vs ∧ tt σ2 H2 fun b H3 =>
      if b = true then te σ2 H3 fun y' H4 => ∃ acc, H4 D = some (.lst acc) ∧ acc.length < sizeLine ∧ Pv (pre ++ [y]) (upd H4 D (.lst (acc ++ [y']))) else Pv (pre ++ [y]) H3) (hd : ∀ H, Pv l H → Qd H) :
    ∃ W : Nat → Nat → Hp → Prop, (∃ m, W 0 m (upd H1 D (.lst []))) ∧ ∀ i m H, W i m H →
      ((Itl K a).stop i H ∧ Qd H) ∨ ((Itl K a).go i H ∧ ∃ Nx : Hp → Prop, (∀ H', Nx H' → ∃ m', m' < m ∧ W (i + 1) m' H') ∧ ∀ x H', (Itl K a).yld i H x H' → g x (wipe σ vs) H' fun σ2 H2 => wipe σ2 vs = wipe σ vs ∧ tt σ2 H2 fun b H3 =>
        if b = true then te σ2 H3 fun y H4 => ∃ acc, H4 D = some (.lst acc) ∧ acc.length < sizeLine ∧ Nx (upd H4 D (.lst (acc ++ [y]))) else Nx H3) := by
  have w := walk_list (K := K) (a := a) (xs := xs)
  refine lc_it w (fun i H => Pv (l.take i) H) (by simpa using h0) (fun i H _ p => (hG _ H p).1) (fun i x H H' hi p y => ?_) (fun H p => hd H (by simpa [hlen] using p))
  obtain ⟨rfl, hx⟩ := y
  have hi' : i < l.length := hlen ▸ hi
  have hl : l[i]? = some l[i] := by simp [hi']
  obtain ⟨e1, e2⟩ := take_succ_of hl
  have q := hs _ l[i] _ x H' e2 (by rw [List.length_take, Nat.min_eq_left (Nat.le_of_lt hi')]; exact hx) ((hG _ H' p).2 i x l[i] hx hl) p
  rw [← e1] at q
  exact q
open Gp (turns at3 comp3) in
def gT (t : Nat × Nat × Nat) : List V := [.int (t.1 : Nat), .int (t.2.1 : Nat), .int (t.2.2 : Nat)]
def tD (t : Nat × Nat × Nat) : PyData := .tuple [.int (t.1 : Nat), .int (t.2.1 : Nat), .int (t.2.2 : Nat)]
def TrT (H : Hp) (v : V) (t : Nat × Nat × Nat) : Prop := ∃ q, v = .ref q ∧ H q = some (.tup (gT t))
theorem TrT.same {H H' : Hp} {v : V} {t : Nat × Nat × Nat} (h : TrT H v t) (s : Same H H') : TrT H' v t := let ⟨q, e, z⟩ := h; ⟨q, e, s _ _ z⟩
theorem TrT.dp {K : PySem.W.Frag} {H : Hp} {v : V} {t : Nat × Nat × Nat} (h : TrT H v t) : Dp K H v (tD t) := by
  obtain ⟨q, rfl, hq⟩ := h
  exact .tup (SqT.of hq) (.cons (.int _) (.cons (.int _) (.cons (.int _) .nil)))
theorem gT_at (t : Nat × Nat × Nat) : ∀ k < 3, atI (gT t) ((k : Nat) : Int) = some (.int (Gp.at3 t k : Nat)) := by
  intro k hk
  match k, hk with
  | 0, _ => rfl
  | 1, _ => rfl
  | 2, _ => rfl
theorem at3_lt : ∀ a ∈ Gp.turns, ∀ k < 3, Gp.at3 a k < 3 := by decide
theorem idx_at : ∀ a ∈ Gp.turns, ∀ o ∈ Gp.turns, Gp.turns[Gp.turns.idxOf (Gp.comp3 o a)]? = some (Gp.comp3 o a) := by decide
theorem idx_min : ∀ a ∈ Gp.turns, ∀ o ∈ Gp.turns, ∀ m < Gp.turns.idxOf (Gp.comp3 o a), Gp.turns[m]? ≠ some (Gp.comp3 o a) := by decide
theorem tD_eqv (a b : Nat × Nat × Nat) : PyData.eqv (tD a) (tD b) = decide (a = b) := by
  obtain ⟨x, y, z⟩ := a
  obtain ⟨x', y', z'⟩ := b
  show ((((x : Nat) : Int) == ((x' : Nat) : Int)) && ((((y : Nat) : Int) == ((y' : Nat) : Int)) && ((((z : Nat) : Int) == ((z' : Nat) : Int)) && true))) = _
  rw [Bool.eq_iff_iff]
  simp only [Bool.and_eq_true, beq_iff_eq, decide_eq_true_eq, and_true, Prod.mk.injEq]
  constructor
  · rintro ⟨h1, h2, h3⟩
    exact ⟨by exact_mod_cast h1, by exact_mod_cast h2, by exact_mod_cast h3⟩
  · rintro ⟨rfl, rfl, rfl⟩
    exact ⟨rfl, rfl, rfl⟩
theorem shaped_turns : SeqAt.shaped (.list (Gp.turns.map tD)) = true := by decide +kernel
theorem shaped_tD (t : Nat × Nat × Nat) : SeqAt.shaped (tD t) = true := rfl
def RowN (D : Addr) (H : Hp) (v : V) (r : List Nat) : Prop := ∃ q, v = .ref q ∧ q ≠ D ∧ H q = some (.lst (r.map dV))
theorem RowN.v {D : Addr} {H : Hp} {v : V} {r : List Nat} (h : RowN D H v r) : RowV H v r := let ⟨q, e, _, z⟩ := h; ⟨q, e, z⟩
theorem RowN.mut {D : Addr} {H : Hp} {o : HO} {v : V} {r : List Nat} (h : RowN D H v r) : RowN D (upd H D o) v r := let ⟨q, e, n, z⟩ := h; ⟨q, e, n, by rw [upd_ne n]; exact z⟩
theorem RowN.same {D : Addr} {H H' : Hp} {v : V} {r : List Nat} (h : RowN D H v r) (s : Same H H') : RowN D H' v r := let ⟨q, e, n, z⟩ := h; ⟨q, e, n, s _ _ z⟩
theorem Items.imp {α : Type} {Rel Rel' : Hp → V → α → Prop} {H H' : Hp} {xs : List V} {l : List α} (h : Items Rel H xs l) (m : ∀ x y, Rel H x y → Rel' H' x y) : Items Rel' H' xs l := ⟨h.1, fun i x y a b => m _ _ (h.2 i x y a b)⟩
def cyc (c i n : Nat) : List Nat := (List.range n).map fun j => (i + j) % c
theorem cyc_succ (c i n : Nat) : cyc c i (n + 1) = cyc c i n ++ [(i + n) % c] := by
  unfold cyc
  rw [List.range_succ, List.map_append]; rfl
def cycs (c n : Nat) : List (List Nat) := (List.range n).map fun i => cyc c i c
theorem cycs_succ (c n : Nat) : cycs c (n + 1) = cycs c n ++ [cyc c n c] := by
  unfold cycs
  rw [List.range_succ, List.map_append]; rfl
section
variable {P : Program} {w : World} {K : PySem.W.Frag} {mg : Str → Option Value} {base : Heap}
def spProd : Sp := fun vs H Q _ => ∃ c : Nat, vs = [.int (c : Nat)] ∧ 1 ≤ c ∧ c ≤ 8 ∧ ∀ (p : Addr) (xs : List V) (H' : Hp), Same H H' → H' p = some (.lst xs) → Items RowV H' xs (prodT c) → Q (.ref p) H'
theorem c__law_products (T : Txt K mg) : Cal P w K mg base CX0 1 "_law_products" spProd := by
  refine Cal.mk0 T.d__law_products sc__law_products (fun vs H Q E h => ?_) (fun f cdv A outer s H vs Q E hr h => ?_)
  · obtain ⟨c, rfl, _⟩ := h
    rfl
  · obtain ⟨c, rfl, c1, c8, k⟩ := h
    have hu65 := hu65_of hr
    refine ⟨_, (pss_cons (ps_if (pt_cmpR op_lt (pv 0) pe_int (nomark _))
    (pss_one (ps_ret (pe_lc (own := [("_law_i", 4)]) (g := gName 4) (tt := tYes) rfl sc__law_products.nd (pi_range1 (by rfl) T.b_range (pa_cons (pv 0) pa_nil)) (blkOk_by (N := ["_law_code", "_law_turns", "_law_rows", "_law_one", "_law_i", "_law_j", "_law_other"]) (sc := defScope s__law_products) (by decide +kernel)) (fun _ _ _ _ _ => (pg_name (i := 4) sc__law_products.nd rfl (Or.inr rfl))) (fun _ _ _ _ _ => pts_nil) (fun _ _ _ _ _ => (pe_lc (own := [("_law_j", 5)]) (g := gName 5) (tt := tYes) rfl sc__law_products.nd (pi_range1 (by rfl) T.b_range (pa_cons (pv 0) pa_nil)) (blkOk_by (by rfl)) (fun _ _ _ _ _ => (pg_name (i := 5) sc__law_products.nd rfl (Or.inl rfl))) (fun _ _ _ _ _ => pts_nil) (fun _ _ _ _ _ => (pe_op op_mod (pe_callTy call_int1 (by rfl) T.b_int (by decide +kernel) (pa_cons (pe_op op_add (pv 4) (pv 5)) pa_nil)) (pv 0))))))))
    pss_nil)
  (pss_cons (ps_if (pt_cmpR op_eq (pv 0) pe_int (nomark _))
    (pss_one (ps_ret (pe_lst (pa_cons (pe_lst (pa_cons pe_int (pa_cons pe_int (pa_cons pe_int (pa_cons pe_int pa_nil))))) (pa_cons (pe_lst (pa_cons pe_int (pa_cons pe_int (pa_cons pe_int (pa_cons pe_int pa_nil))))) (pa_cons (pe_lst (pa_cons pe_int (pa_cons pe_int (pa_cons pe_int (pa_cons pe_int pa_nil))))) (pa_cons (pe_lst (pa_cons pe_int (pa_cons pe_int (pa_cons pe_int (pa_cons pe_int pa_nil))))) pa_nil)))))))
    pss_nil)
  (pss_cons (ps_set (i := 1) sc__law_products.nd rfl (Or.inr rfl) (pe_lst (pa_cons (pe_tup (pa_cons pe_int (pa_cons pe_int (pa_cons pe_int pa_nil)))) (pa_cons (pe_tup (pa_cons pe_int (pa_cons pe_int (pa_cons pe_int pa_nil)))) (pa_cons (pe_tup (pa_cons pe_int (pa_cons pe_int (pa_cons pe_int pa_nil)))) (pa_cons (pe_tup (pa_cons pe_int (pa_cons pe_int (pa_cons pe_int pa_nil)))) (pa_cons (pe_tup (pa_cons pe_int (pa_cons pe_int (pa_cons pe_int pa_nil)))) (pa_cons (pe_tup (pa_cons pe_int (pa_cons pe_int (pa_cons pe_int pa_nil)))) pa_nil))))))))
  (pss_cons (ps_set (i := 2) sc__law_products.nd rfl (Or.inl rfl) (pe_lst pa_nil))
  (pss_cons (ps_for PassesOwn.never rfl (pi_list (pv 1)) (pg_name (i := 3) sc__law_products.nd rfl (Or.inr rfl))
    (pss_one (ps_expr (pe_bm PySem.F.plainAttrs_list PySem.F.slot_list_append PySem.F.type_list_append mt_append (pv 2) (pa_cons (pe_lc (own := [("_law_other", 6)]) (g := gName 6) (tt := tYes) rfl sc__law_products.nd (pi_list (pv 1)) (blkOk_by (N := ["_law_code", "_law_turns", "_law_rows", "_law_one", "_law_i", "_law_j", "_law_other"]) (sc := defScope s__law_products) (by decide +kernel)) (fun _ _ _ _ _ => (pg_name (i := 6) sc__law_products.nd rfl (Or.inl rfl))) (fun _ _ _ _ _ => pts_nil) (fun _ _ _ _ _ => (pe_bmB PySem.F.plainAttrs_list PySem.F.slot_list_index PySem.F.type_list_index (mt_indexDB (by exact hu65)) (pv 1) (pa_cons (pe_tup (pa_cons (pe_ix ix_tupB (pv 6) (pe_ix ix_tupB (pv 3) pe_int (fun _ _ => rfl)) (fun _ _ => rfl)) (pa_cons (pe_ix ix_tupB (pv 6) (pe_ix ix_tupB (pv 3) pe_int (fun _ _ => rfl)) (fun _ _ => rfl)) (pa_cons (pe_ix ix_tupB (pv 6) (pe_ix ix_tupB (pv 3) pe_int (fun _ _ => rfl)) (fun _ _ => rfl)) pa_nil)))) pa_nil)))) pa_nil)))))
  (pss_one (ps_ret (pv 2)))))))), ?_⟩
    walk_at "rd"
    refine ite2 (fun h => ?_) (fun h => ?_)
    · have c7 : c < 7 := by have := of_decide_eq_true h; omega
      walk_at "rd"
      intro D hD
      refine lc_range (lo := 0) (n := ((c : Nat) : Int).toNat) (fun i H3 => ∃ acc, H3 D = some (.lst acc) ∧ Items (RowN D) H3 acc (cycs c i) ∧ Same H H3) ⟨[], upd_same, Items.nil, same_new hD⟩ ?_ ?_
      · rintro i H3 hi ⟨acc, h3, it3, s3⟩
        rw [Int.zero_add]
        have hi2 : i < c := by omega
        refine ⟨rfl, ty_T ?_⟩
        refine ⟨_, rfl, _, rfl, by omega, by omega, fun D2 hD2 => ?_⟩
        have hn : D2 ≠ D := by
          intro e
          rw [e, h3] at hD2
          cases hD2
        refine lc_range (lo := 0) (n := ((c : Nat) : Int).toNat) (fun j H4 => H4 D2 = some (.lst ((cyc c i j).map dV)) ∧ Same H3 H4) ⟨upd_same, same_new hD2⟩ ?_ ?_
        · rintro j H4 hj ⟨h4, s4⟩
          rw [Int.zero_add]
          have hj2 : j < c := by omega
          refine ⟨rfl, ty_T ?_⟩
          refine ⟨_, rfl, _, rfl, _, _, rfl, rfl, ?_⟩
          refine tNil_mk ?_
          refine .inl ⟨_, rfl, ?_⟩
          refine ⟨_, rfl, _, _, rfl, rfl, show (0 : Int) < (c : Nat) by omega, ?_⟩
          refine ⟨_, h4, ?_, ?_, same_mut s4 hD2⟩
          · unfold cyc
            rw [List.length_map, List.length_map, List.length_range]
            exact Nat.lt_of_le_of_lt (m := 6) (by omega) (by decide)
          · rw [cyc_succ, List.map_append]
            show (upd H4 D2 _) D2 = _
            rw [upd_same]
            have e : (fun i j : Int => V.int (i % j)) (((i : Nat) : Int) + ((j : Nat) : Int)) ((c : Nat) : Int) = dV ((i + j) % c) := by
              unfold dV
              rw [Int.natCast_emod, Int.natCast_add]
            rw [e]
            rfl
        · rintro H4 ⟨h4, s4⟩
          have hcc : ((c : Nat) : Int).toNat = c := by omega
          rw [hcc] at h4
          have hac : acc.length ≤ 6 := by
            have := it3.1
            unfold cycs at this
            rw [List.length_map, List.length_range] at this
            omega
          refine ⟨acc, s4 _ _ h3, Nat.lt_of_le_of_lt (m := 6) hac (by decide), acc ++ [.ref D2], upd_same, ?_, same_mut (s3.trans s4) hD⟩
          rw [cycs_succ]
          exact it3.snoc (fun x y h => (h.same s4).mut) (RowN.mut ⟨D2, rfl, hn, h4⟩)
      · rintro H3 ⟨acc, h3, it3, s3⟩
        have hcc : ((c : Nat) : Int).toNat = c := by omega
        rw [hcc] at it3
        refine k D acc H3 s3 h3 ?_
        rw [show prodT c = cycs c c by unfold prodT; rw [if_pos c7]; rfl]
        exact it3.imp fun x y h => h.v
    · have c7 : 7 ≤ c := by
        have := of_decide_eq_false ((Bool.not_eq_true _).mp h)
        omega
      walk_at "rd"
      rw [show decide (V.int ((c : Nat) : Int) = V.int 7) = decide (c = 7) from decide_eq_decide.mpr ⟨fun h => by have := V.int.inj h; omega, fun h => by rw [h]; rfl⟩]
      refine ite2 (fun h7 => ?_) (fun h7 => ?_)
      · have h7 := of_decide_eq_true h7
        subst h7
        walk_at "rd"
        try refine And.intro (by walk_at "sz") ?_
        intro l1 h1
        have s1 := same_new (o := .lst [.int 0, .int 1, .int 2, .int 3]) h1
        have e1 : (upd H l1 (.lst [.int 0, .int 1, .int 2, .int 3])) l1 = some (.lst [.int 0, .int 1, .int 2, .int 3]) := upd_same
        generalize upd H l1 (.lst [.int 0, .int 1, .int 2, .int 3]) = G1 at s1 e1 ⊢
        walk_at "rd"
        try refine And.intro (by walk_at "sz") ?_
        intro l2 h2
        have s2 := same_new (o := .lst [.int 1, .int 0, .int 3, .int 2]) h2
        have e2 : (upd G1 l2 (.lst [.int 1, .int 0, .int 3, .int 2])) l2 = some (.lst [.int 1, .int 0, .int 3, .int 2]) := upd_same
        generalize upd G1 l2 (.lst [.int 1, .int 0, .int 3, .int 2]) = G2 at s2 e2 ⊢
        walk_at "rd"
        try refine And.intro (by walk_at "sz") ?_
        intro l3 h3
        have s3 := same_new (o := .lst [.int 2, .int 3, .int 0, .int 1]) h3
        have e3 : (upd G2 l3 (.lst [.int 2, .int 3, .int 0, .int 1])) l3 = some (.lst [.int 2, .int 3, .int 0, .int 1]) := upd_same
        generalize upd G2 l3 (.lst [.int 2, .int 3, .int 0, .int 1]) = G3 at s3 e3 ⊢
        walk_at "rd"
        try refine And.intro (by walk_at "sz") ?_
        intro l4 h4
        have s4 := same_new (o := .lst [.int 3, .int 2, .int 1, .int 0]) h4
        have e4 : (upd G3 l4 (.lst [.int 3, .int 2, .int 1, .int 0])) l4 = some (.lst [.int 3, .int 2, .int 1, .int 0]) := upd_same
        generalize upd G3 l4 (.lst [.int 3, .int 2, .int 1, .int 0]) = G4 at s4 e4 ⊢
        walk_at "rd"
        try refine And.intro (by walk_at "sz") ?_
        intro l5 h5
        have s5 := same_new (o := .lst [.ref l1, .ref l2, .ref l3, .ref l4]) h5
        have e5 : (upd G4 l5 (.lst [.ref l1, .ref l2, .ref l3, .ref l4])) l5 = some (.lst [.ref l1, .ref l2, .ref l3, .ref l4]) := upd_same
        generalize upd G4 l5 (.lst [.ref l1, .ref l2, .ref l3, .ref l4]) = G5 at s5 e5 ⊢
        have s45 := s4.trans s5
        have s35 := s3.trans s45
        have s25 := s2.trans s35
        refine k l5 _ G5 (s1.trans s25) e5 ⟨rfl, fun i x y h1 h2 => ?_⟩
        match i, h1, h2 with
        | 0, h1, h2 => cases h1; cases h2; exact ⟨l1, rfl, s25 _ _ e1⟩
        | 1, h1, h2 => cases h1; cases h2; exact ⟨l2, rfl, s35 _ _ e2⟩
        | 2, h1, h2 => cases h1; cases h2; exact ⟨l3, rfl, s45 _ _ e3⟩
        | 3, h1, h2 => cases h1; cases h2; exact ⟨l4, rfl, s5 _ _ e4⟩
        | _ + 4, h1, h2 => cases h1
      · have h8 : c = 8 := by
          have := of_decide_eq_false ((Bool.not_eq_true _).mp h7)
          omega
        subst h8
        walk_at "nx"
        walk_at "rd"
        try refine And.intro (by walk_at "sz") ?_
        intro l1 h1
        have s1 := same_new (o := .tup [.int 0, .int 1, .int 2]) h1
        have e1 : (upd H l1 (.tup [.int 0, .int 1, .int 2])) l1 = some (.tup [.int 0, .int 1, .int 2]) := upd_same
        generalize upd H l1 (.tup [.int 0, .int 1, .int 2]) = G1 at s1 e1 ⊢
        walk_at "rd"
        try refine And.intro (by walk_at "sz") ?_
        intro l2 h2
        have s2 := same_new (o := .tup [.int 1, .int 2, .int 0]) h2
        have e2 : (upd G1 l2 (.tup [.int 1, .int 2, .int 0])) l2 = some (.tup [.int 1, .int 2, .int 0]) := upd_same
        generalize upd G1 l2 (.tup [.int 1, .int 2, .int 0]) = G2 at s2 e2 ⊢
        walk_at "rd"
        try refine And.intro (by walk_at "sz") ?_
        intro l3 h3
        have s3 := same_new (o := .tup [.int 2, .int 0, .int 1]) h3
        have e3 : (upd G2 l3 (.tup [.int 2, .int 0, .int 1])) l3 = some (.tup [.int 2, .int 0, .int 1]) := upd_same
        generalize upd G2 l3 (.tup [.int 2, .int 0, .int 1]) = G3 at s3 e3 ⊢
        walk_at "rd"
        try refine And.intro (by walk_at "sz") ?_
        intro l4 h4
        have s4 := same_new (o := .tup [.int 1, .int 0, .int 2]) h4
        have e4 : (upd G3 l4 (.tup [.int 1, .int 0, .int 2])) l4 = some (.tup [.int 1, .int 0, .int 2]) := upd_same
        generalize upd G3 l4 (.tup [.int 1, .int 0, .int 2]) = G4 at s4 e4 ⊢
        walk_at "rd"
        try refine And.intro (by walk_at "sz") ?_
        intro l5 h5
        have s5 := same_new (o := .tup [.int 0, .int 2, .int 1]) h5
        have e5 : (upd G4 l5 (.tup [.int 0, .int 2, .int 1])) l5 = some (.tup [.int 0, .int 2, .int 1]) := upd_same
        generalize upd G4 l5 (.tup [.int 0, .int 2, .int 1]) = G5 at s5 e5 ⊢
        walk_at "rd"
        try refine And.intro (by walk_at "sz") ?_
        intro l6 h6
        have s6 := same_new (o := .tup [.int 2, .int 1, .int 0]) h6
        have e6 : (upd G5 l6 (.tup [.int 2, .int 1, .int 0])) l6 = some (.tup [.int 2, .int 1, .int 0]) := upd_same
        generalize upd G5 l6 (.tup [.int 2, .int 1, .int 0]) = G6 at s6 e6 ⊢
        walk_at "rd"
        try refine And.intro (by walk_at "sz") ?_
        intro l7 h7
        have s7 := same_new (o := .lst [.ref l1, .ref l2, .ref l3, .ref l4, .ref l5, .ref l6]) h7
        have e7 : (upd G6 l7 (.lst [.ref l1, .ref l2, .ref l3, .ref l4, .ref l5, .ref l6])) l7 = some (.lst [.ref l1, .ref l2, .ref l3, .ref l4, .ref l5, .ref l6]) := upd_same
        generalize upd G6 l7 (.lst [.ref l1, .ref l2, .ref l3, .ref l4, .ref l5, .ref l6]) = G7 at s7 e7 ⊢
        have t6 := s7
        have t5 := s6.trans t6
        have t4 := s5.trans t5
        have t3 := s4.trans t4
        have t2 := s3.trans t3
        have t1 := s2.trans t2
        have t0 := s1.trans t1
        have itT : Items TrT G7 [.ref l1, .ref l2, .ref l3, .ref l4, .ref l5, .ref l6] Gp.turns := by
          refine ⟨rfl, fun i x y h1 h2 => ?_⟩
          match i, h1, h2 with
          | 0, h1, h2 => cases h1; cases h2; exact ⟨l1, rfl, t1 _ _ e1⟩
          | 1, h1, h2 => cases h1; cases h2; exact ⟨l2, rfl, t2 _ _ e2⟩
          | 2, h1, h2 => cases h1; cases h2; exact ⟨l3, rfl, t3 _ _ e3⟩
          | 3, h1, h2 => cases h1; cases h2; exact ⟨l4, rfl, t4 _ _ e4⟩
          | 4, h1, h2 => cases h1; cases h2; exact ⟨l5, rfl, t5 _ _ e5⟩
          | 5, h1, h2 => cases h1; cases h2; exact ⟨l6, rfl, t6 _ _ e6⟩
          | _ + 6, h1, h2 => cases h1
        generalize [V.ref l1, .ref l2, .ref l3, .ref l4, .ref l5, .ref l6] = ys at e7 itT
        walk_at "nx"
        refine ⟨by walk_at "sz", fun lr hr8 => ?_⟩
        have s8 := same_new (o := .lst []) hr8
        have e8 : (upd G7 lr (.lst [])) lr = some (.lst []) := upd_same
        have hlr : H lr = none := by
          cases e : H lr with
          | none => rfl
          | some o => rw [t0 _ _ e] at hr8; cases hr8
        have e7' := s8 _ _ e7
        have hne : l7 ≠ lr := ne_of_none e7 hr8
        generalize upd G7 lr (.lst []) = G8 at s8 e8 e7' ⊢
        walk_at "nx"
        refine ⟨_, rfl, l7, rfl, ⟨_, SqL.of e7'⟩, ?_⟩
        refine for_lstR (K := K) (a := l7) (xs := ys) (l := Gp.turns) (Rel := TrT) itT.1 (fun pre σ H3 => ∃ (v3 v4 v5 v6 : Option V) (acc : List V), σ = [some (.int (8 : Nat)), some (.ref l7), some (.ref lr), v3, v4, v5, v6] ∧ H3 lr = some (.lst acc) ∧ Items (RowN lr) H3 acc (pre.map fun a => Gp.turns.map fun o => Gp.turns.idxOf (Gp.comp3 o a)) ∧ Same G7 H3)
          ⟨_, _, _, _, [], rfl, e8, Items.nil, s8⟩ (fun pre σ H3 ⟨_, _, _, _, _, _, _, _, s3⟩ => ⟨SqL.of (s3 _ _ e7), fun i x y h1 h2 => (itT.2 i x y h1 h2).same s3⟩) ?_ ?_
        · rintro pre ta post xv σ H3 hl hx ⟨qa, rfl, hqa⟩ ⟨v3, v4, v5, v6, acc, rfl, h3, it3, s3'⟩
          have hta : ta ∈ Gp.turns := by rw [hl]; simp
          walk_at "nx"
          refine ⟨_, rfl, .inl ⟨rfl, _, SqL.of h3⟩, ?_⟩
          refine ⟨_, rfl, l7, rfl, ⟨_, SqL.of (s3' _ _ e7)⟩, fun D hD => lc_lstR (K := K) (a := l7) (xs := ys) (l := Gp.turns) (Rel := TrT) itT.1
            (fun pre2 H4 => H4 D = some (.lst ((pre2.map fun o => Gp.turns.idxOf (Gp.comp3 o ta)).map dV)) ∧ Same H3 H4) ⟨upd_same, same_new hD⟩
            (fun pre2 H4 ⟨_, s4'⟩ => ⟨SqL.of (s4' _ _ (s3' _ _ e7)), fun i x y h1 h2 => (itT.2 i x y h1 h2).same (s3'.trans s4')⟩) ?_ ?_⟩
          · rintro pre2 o post2 xo H4 hl2 hx2 ⟨qo, rfl, hqo⟩ ⟨h4, s4'⟩
            have hto : o ∈ Gp.turns := by rw [hl2]; simp
            refine ⟨rfl, ty_T ?_⟩
            have hqa4 := s4' _ _ hqa
            have g3 := at3_lt ta hta
            refine ⟨_, rfl, .inl ⟨rfl, _, SqL.of (s4' _ _ (s3' _ _ e7))⟩, ?_⟩
            refine ⟨_, rfl, _, rfl, ⟨qa, _, _, _, rfl, rfl, SqT.of hqa4, gT_at ta 0 (by decide), ?_⟩⟩
            refine ⟨qo, _, _, _, rfl, rfl, SqT.of hqo, gT_at o _ (g3 0 (by decide)), ?_⟩
            refine ⟨_, rfl, _, rfl, ⟨qa, _, _, _, rfl, rfl, SqT.of hqa4, gT_at ta 1 (by decide), ?_⟩⟩
            refine ⟨qo, _, _, _, rfl, rfl, SqT.of hqo, gT_at o _ (g3 1 (by decide)), ?_⟩
            refine ⟨_, rfl, _, rfl, ⟨qa, _, _, _, rfl, rfl, SqT.of hqa4, gT_at ta 2 (by decide), ?_⟩⟩
            refine ⟨qo, _, _, _, rfl, rfl, SqT.of hqo, gT_at o _ (g3 2 (by decide)), ?_⟩
            refine ⟨by walk_at "sz", fun pt hpt => ?_⟩
            have s5' := same_new (o := .tup (gT (Gp.comp3 o ta))) hpt
            have e5' : (upd H4 pt (.tup (gT (Gp.comp3 o ta)))) pt = some (.tup (gT (Gp.comp3 o ta))) := upd_same
            show tNil _ (upd H4 pt (.tup (gT (Gp.comp3 o ta)))) _
            generalize upd H4 pt (.tup (gT (Gp.comp3 o ta))) = H5 at s5' e5' ⊢
            refine tNil_mk ?_
            have it5 : Items TrT H5 ys Gp.turns := itT.mono fun x y h => ((h.same s3').same s4').same s5'
            refine ⟨l7, _, tD (Gp.comp3 o ta), Gp.turns.map tD, Gp.turns.idxOf (Gp.comp3 o ta), tD (Gp.comp3 o ta), rfl, rfl, .lst (SqL.of (s5' _ _ (s4' _ _ (s3' _ _ e7)))) (dpAll_of (fun _ _ h => TrT.dp h) it5), TrT.dp ⟨pt, rfl, e5'⟩, shaped_turns, shaped_tD _, ?_, ?_, ?_, ?_⟩
            · rw [List.getElem?_map, idx_at ta hta o hto]; rfl
            · rw [tD_eqv]; exact decide_eq_true rfl
            · intro m z' hm hz
              rw [List.getElem?_map] at hz
              cases e : Gp.turns[m]? with
              | none => rw [e] at hz; cases hz
              | some w =>
                rw [e] at hz
                cases hz
                rw [tD_eqv]
                exact decide_eq_false (fun ew => idx_min ta hta o hto m hm (by rw [e, ew]))
            · have hp2 : pre2.length ≤ 6 := by
                have := congrArg List.length hl2
                rw [List.length_append, List.length_cons] at this
                have h6 : Gp.turns.length = 6 := rfl
                omega
              refine ⟨_, s5' _ _ h4, by rw [List.length_map, List.length_map]; exact Nat.lt_of_le_of_lt (m := 6) hp2 (by decide), ?_, same_mut (s4'.trans s5') hD⟩
              rw [List.map_append, List.map_append]
              exact upd_same
          · rintro H4 ⟨h4, s4'⟩
            refine tNil_mk ?_
            have hnd : D ≠ lr := by
              intro e
              rw [e, h3] at hD
              cases hD
            have hac : acc.length ≤ 6 := by
              have h1 := it3.1
              rw [List.length_map] at h1
              have h2 := congrArg List.length hl
              rw [List.length_append, List.length_cons] at h2
              have h6 : Gp.turns.length = 6 := rfl
              omega
            refine ⟨lr, _, _, rfl, rfl, s4' _ _ h3, Nat.lt_of_le_of_lt (m := 6) hac (by decide), ?_⟩
            refine ⟨_, _, _, _, acc ++ [.ref D], rfl, upd_same, ?_, same_mut (s3'.trans s4') ?_⟩
            · rw [List.map_append]
              exact it3.snoc (fun x y h => (h.same s4').mut) (RowN.mut ⟨D, rfl, hnd, h4⟩)
            · exact hr8
        · rintro σ H3 ⟨v3, v4, v5, v6, acc, rfl, h3, it3, s3'⟩
          walk_at "rd"
          rw [← Gp.turns_prod] at it3
          exact k lr acc H3 (t0.trans s3') h3 (it3.imp fun x y h => h.v)
end
end Sh
set_option Elab.async false
set_option linter.all false
set_option maxRecDepth 100000
set_option maxHeartbeats 4000000
namespace Sh
open PySem PySem.Spec PyProof.Rows L2
open SX (S S_inj S_len S_cat)
open Gp (prodT ordT)
local macro_rules | `(tactic| walk_at "nx") => `(tactic| repeat (with_reducible first | refine Sh.gn_mk ?_ | refine Sh.nx_mk ?_ | refine Sh.st_nx ?_ | refine Sh.rt_mk ?_ | refine Sh.ct_mk ?_ | refine Sh.bk_mk ?_))
local macro_rules | `(tactic| walk_at "sq") => `(tactic| first | exact SqL.of upd_same | exact SqT.of upd_same | exact SqL.of (by assumption) | exact SqT.of (by assumption) | assumption | exact Or.inl (SqL.of (by assumption)) | exact Or.inr (SqT.of (by assumption)) | exact Or.inl (by assumption) | exact Or.inr (by assumption))
local macro_rules | `(tactic| walk_at "hp") => `(tactic| first | exact upd_same | assumption)
local macro_rules | `(tactic| walk_at "sz") => `(tactic| first | exact Nat.le_of_ble_eq_true rfl | omega)
local macro_rules | `(tactic| walk_at "sd") => `(tactic| first | omega | exact rfl | assumption | (show (0 : Int) < _; omega) | exact And.intro (by omega) (by omega) | exact Or.inl (And.intro (by omega) (by omega)) | exact Or.inr (And.intro (by omega) (by omega)) | omega | exact Sh.sz_S (by omega) | decide)
local macro_rules | `(tactic| walk_at "rd1") => `(tactic| first
  | (with_reducible first | refine Sh.gn_mk ?_ | refine Sh.nx_mk ?_ | refine Sh.st_nx ?_ | refine Sh.rt_mk ?_ | refine Sh.ct_mk ?_ | refine Sh.bk_mk ?_)
  | refine Exists.intro (α := V) _ (And.intro rfl ?_)
  | refine Exists.intro (α := Bool) _ (And.intro rfl ?_)
  | refine Exists.intro (α := Int) _ (And.intro rfl ?_)
  | refine Exists.intro (α := PySem.Str) _ (And.intro rfl ?_)
  | refine Exists.intro (α := Int) _ (Exists.intro (α := Int) _ (And.intro rfl (And.intro rfl ?_)))
  | refine Exists.intro (α := PySem.Str) _ (Exists.intro (α := PySem.Str) _ (And.intro rfl (And.intro rfl ?_)))
  | refine Exists.intro (α := Int) _ (Exists.intro (α := Int) _ (And.intro rfl ?_))
  | refine Or.inl (Exists.intro (α := Int) _ (And.intro rfl ?_))
  | refine Exists.intro _ (Exists.intro _ (Exists.intro _ (Exists.intro _ (And.intro rfl (And.intro rfl (And.intro (by walk_at "sq") (And.intro rfl ?_)))))))
  | refine Exists.intro _ (Exists.intro _ (Exists.intro _ (Exists.intro _ (And.intro rfl (And.intro rfl (And.intro (by walk_at "hp") (And.intro rfl ?_)))))))
  | refine And.intro (by walk_at "sd") ?_
  )
local macro_rules | `(tactic| walk_at "rd") => `(tactic| repeat walk_at "rd1")
local macro_rules | `(tactic| walk_at "lk") => `(tactic| first | exact rfl | (rw [lookup_putF, if_pos rfl]) | (rw [lookup_putF, if_neg (by decide +kernel)]; walk_at "lk"))

abbrev Arr := Nat × Nat × Nat × Nat
def arT (a : Arr) : List V := [.int (a.1 : Nat), .int (a.2.1 : Nat), .int (a.2.2.1 : Nat), .int (a.2.2.2 : Nat)]
def ArV (H : Hp) (v : V) (a : Arr) : Prop := ∃ q, v = .ref q ∧ H q = some (.tup (arT a))
theorem ArV.same {H H' : Hp} {v : V} {a : Arr} (h : ArV H v a) (s : Same H H') : ArV H' v a := let ⟨q, e, z⟩ := h; ⟨q, e, s _ _ z⟩
theorem ArV.mut {H : Hp} {v : V} {a : Arr} {p : Addr} {xs ys : List V} (hp : H p = some (.lst xs)) (h : ArV H v a) : ArV (upd H p (.lst ys)) v a := by
  obtain ⟨q, e, z⟩ := h
  exact ⟨q, e, by rw [upd_ne (ne_of z hp (by intro w; cases w))]; exact z⟩
def PrV (H : Hp) (v : V) (s : Nat × Nat) : Prop := ∃ q, v = .ref q ∧ H q = some (.tup [.int (s.1 : Nat), .int (s.2 : Nat)])
theorem PrV.same {H H' : Hp} {v : V} {a : Nat × Nat} (h : PrV H v a) (s : Same H H') : PrV H' v a := let ⟨q, e, z⟩ := h; ⟨q, e, s _ _ z⟩
theorem PrV.mut {H : Hp} {v : V} {a : Nat × Nat} {p : Addr} {xs ys : List V} (hp : H p = some (.lst xs)) (h : PrV H v a) : PrV (upd H p (.lst ys)) v a := by
  obtain ⟨q, e, z⟩ := h
  exact ⟨q, e, by rw [upd_ne (ne_of z hp (by intro w; cases w))]; exact z⟩
def arrG (k i j n : Nat) : List Arr := ((List.range n).filter fun g => decide (i ≠ j) || decide (g ≠ 0)).map fun g => (k, i, g, j)
def arrJ (k c i n : Nat) : List Arr := (List.range n).flatMap fun j => arrG k i j (ordT c)
def arrI (k c m n : Nat) : List Arr := (List.range n).flatMap fun i => arrJ k c i m
def arrK (sh : List (Nat × Nat)) (n : Nat) : List Arr := (List.range n).flatMap fun k => arrI k (sh.getD k (0, 0)).1 (sh.getD k (0, 0)).2 (sh.getD k (0, 0)).2
def arrows (sh : List (Nat × Nat)) : List Arr := arrK sh sh.length
theorem arrG_succ (k i j n : Nat) : arrG k i j (n + 1) = arrG k i j n ++ (if (decide (i ≠ j) || decide (n ≠ 0)) = true then [(k, i, n, j)] else []) := by
  unfold arrG
  rw [List.range_succ, List.filter_append, List.map_append]
  congr 1
  cases h : (decide (i ≠ j) || decide (n ≠ 0)) <;> simp [h] <;> simpa using h
theorem fm_succ {α : Type} (f : Nat → List α) (n : Nat) : (List.range (n + 1)).flatMap f = (List.range n).flatMap f ++ f n := by
  rw [List.range_succ, List.flatMap_append]
  simp
theorem arrG_len (k i j n : Nat) : (arrG k i j n).length ≤ n := by
  unfold arrG
  rw [List.length_map]
  exact Nat.le_trans (List.length_filter_le _ _) (by simp)
theorem fm_len {α : Type} (f : Nat → List α) (b : Nat) (n : Nat) (h : ∀ i < n, (f i).length ≤ b) : ((List.range n).flatMap f).length ≤ n * b := by
  induction n with
  | zero => simp
  | succ n ih =>
    rw [fm_succ, List.length_append, Nat.succ_mul]
    have := ih fun i hi => h i (by omega)
    have := h n (by omega)
    omega
theorem ord6 : ∀ c < 9, ordT c ≤ 6 := by decide
section
variable {P : Program} {w : World} {K : PySem.W.Frag} {mg : Str → Option Value} {base : Heap}
def spArr (K : PySem.W.Frag) : Sp := fun vs H Q _ => ∃ (q : Addr) (xs : List V) (sh : List (Nat × Nat)), vs = [.ref q] ∧ SqL K H q xs ∧ Items PrV H xs sh ∧ (∀ s ∈ sh, 1 ≤ s.1 ∧ s.1 ≤ 8 ∧ s.2 ≤ 3) ∧ sh.length ≤ 10 ∧
  ∀ (p : Addr) (ys : List V) (H' : Hp), H p = none → Same H H' → H' p = some (.lst ys) → Items ArV H' ys (arrows sh) → Q (.ref p) H'
theorem c__law_arrows (T : Txt K mg) : Cal P w K mg base CX0 2 "_law_arrows" (spArr K) := by
  have c__law_products := c__law_products (P := P) (w := w) (base := base) T
  refine Cal.mk0 T.d__law_arrows sc__law_arrows (fun vs H Q E h => ?_) (fun f cdv A outer s H vs Q E hr h => ?_)
  · obtain ⟨q, xs, sh, rfl, _⟩ := h
    rfl
  · obtain ⟨q, xs, sh, rfl, hq, hi, hb, hl, k⟩ := h
    refine ⟨_, (pss_cons (ps_set (i := 1) sc__law_arrows.nd rfl (Or.inl rfl) (pe_lst pa_nil))
  (pss_cons (ps_for PassesOwn.never rfl (pi_range1 (by rfl) T.b_range (pa_cons (pe_callB call_len_seq (by rfl) T.b_len (by decide +kernel) (pa_cons (pv 0) pa_nil)) pa_nil)) (pg_name (i := 2) sc__law_arrows.nd rfl (Or.inl rfl))
    (pss_cons (ps_asg (pe_ix ix_list (pv 0) (pv 2) (fun _ _ => rfl)) (pg_tup (by rfl) (pgs_cons (pg_name (i := 3) sc__law_arrows.nd rfl (Or.inl rfl)) (pgs_cons (pg_name (i := 4) sc__law_arrows.nd rfl (Or.inl rfl)) pgs_nil))))
    (pss_one (ps_for PassesOwn.never rfl (pi_range1 (by rfl) T.b_range (pa_cons (pv 4) pa_nil)) (pg_name (i := 5) sc__law_arrows.nd rfl (Or.inl rfl))
      (pss_one (ps_for PassesOwn.never rfl (pi_range1 (by rfl) T.b_range (pa_cons (pv 4) pa_nil)) (pg_name (i := 6) sc__law_arrows.nd rfl (Or.inl rfl))
        (pss_one (ps_for PassesOwn.never rfl (pi_range1 (by rfl) T.b_range (pa_cons (pe_callB call_len_seq (by rfl) T.b_len (by decide +kernel) (pa_cons (pe_c c__law_products hr (by decide) rfl (pa_cons (pv 3) pa_nil)) pa_nil)) pa_nil)) (pg_name (i := 7) sc__law_arrows.nd rfl (Or.inl rfl))
          (pss_one (ps_if (PW.pt (pw_or (pt_cmpR op_ne (pv 5) (pv 6) (nomark _)) (pw_or1 (pt_cmpR op_ne (pv 7) pe_int (nomark _)))))
            (pss_one (ps_expr (pe_bm PySem.F.plainAttrs_list PySem.F.slot_list_append PySem.F.type_list_append mt_append (pv 1) (pa_cons (pe_tup (pa_cons (pv 2) (pa_cons (pv 5) (pa_cons (pv 7) (pa_cons (pv 6) pa_nil))))) pa_nil))))
            pss_nil))))))))))
  (pss_one (ps_ret (pv 1))))), ?_⟩
    refine ⟨by walk_at "sz", fun p hp => ?_⟩
    have s1 := same_new (o := .lst []) hp
    have e1 : (upd H p (.lst [])) p = some (.lst []) := upd_same
    generalize upd H p (.lst []) = H1 at s1 e1 ⊢
    walk_at "nx"
    refine ⟨_, rfl, q, xs, rfl, .inl (s1.seq hq), ?_⟩
    have hxl := hi.1
    walk_at "rd"
    refine for_range (lo := 0) (n := ((xs.length : Int)).toNat) (fun kk σ H2 => ∃ (ys : List V) (v2 v3 v4 v5 v6 v7 : Option V), σ = [some (.ref q), some (.ref p), v2, v3, v4, v5, v6, v7] ∧ Same H H2 ∧ H2 p = some (.lst ys) ∧ Items ArV H2 ys (arrK sh kk))
      ⟨[], _, _, _, _, _, _, rfl, s1, e1, Items.nil⟩ ?_ ?_
    · rintro kk σ H2 hk ⟨ys, v2, v3, v4, v5, v6, v7, rfl, s2, h2, it2⟩
      rw [Int.zero_add]
      have hk2 : kk < sh.length := by omega
      have hsk : sh[kk]? = some sh[kk] := List.getElem?_eq_getElem hk2
      obtain ⟨x, hx, qs, rfl, hqs⟩ := hi.get hsk
      have hbk := hb _ (List.mem_of_getElem? hsk)
      generalize hss : sh[kk] = ss at hsk hqs hbk
      obtain ⟨c, m⟩ := ss
      walk_at "nx"
      refine ⟨_, rfl, _, rfl, ⟨q, _, _, _, rfl, rfl, s2.seq hq, atI_nat hx, ?_⟩⟩
      refine ⟨qs, _, rfl, SqT.of (s2 _ _ hqs), rfl, _, _, rfl, _, _, rfl, rfl, ?_⟩
      walk_at "nx"
      walk_at "rd"
      have b1 : 1 ≤ c := hbk.1
      have b2 : c ≤ 8 := hbk.2.1
      have b3 : m ≤ 3 := hbk.2.2
      have hgd : sh.getD kk (0, 0) = (c, m) := by rw [List.getD_eq_getElem?_getD, hsk]; rfl
      have ho := ord6 c (by omega)
      have hpl : (prodT c).length = ordT c := rfl
      have l1 : (arrK sh kk).length ≤ 10 * 54 := by
        refine Nat.le_trans (fm_len _ 54 kk fun a ha => ?_) (Nat.mul_le_mul (by omega) (Nat.le_refl _))
        have hsa : sh[a]? = some sh[a] := List.getElem?_eq_getElem (by omega)
        have hba := hb _ (List.mem_of_getElem? hsa)
        rw [List.getD_eq_getElem?_getD, hsa, Option.getD_some]
        refine Nat.le_trans (fm_len _ 18 _ fun b hb' => ?_) (Nat.mul_le_mul hba.2.2 (Nat.le_refl 18))
        refine Nat.le_trans (fm_len _ 6 _ fun d hd => ?_) (Nat.mul_le_mul hba.2.2 (Nat.le_refl 6))
        exact Nat.le_trans (arrG_len _ _ _ _) (ord6 _ (by omega))
      refine for_range (lo := 0) (n := ((m : Nat) : Int).toNat) (fun i σ H3 => ∃ (ys : List V) (v5 v6 v7 : Option V), σ = [some (.ref q), some (.ref p), some (.int (kk : Nat)), some (.int (c : Nat)), some (.int (m : Nat)), v5, v6, v7] ∧ Same H H3 ∧ H3 p = some (.lst ys) ∧ Items ArV H3 ys (arrK sh kk ++ arrI kk c m i))
        ⟨ys, _, _, _, rfl, s2, h2, by simpa [arrI] using it2⟩ ?_ ?_
      · clear it2 h2 s2 v7 v6 v5 v4 v3 v2 ys
        rintro i σ H3 hi3 ⟨ys, v5, v6, v7, rfl, s3, h3, it3⟩
        rw [Int.zero_add]
        have him : i < m := by omega
        have l2 : (arrI kk c m i).length ≤ 3 * 18 := by
          refine Nat.le_trans (fm_len _ 18 i fun b hb' => ?_) (Nat.mul_le_mul (by omega) (Nat.le_refl 18))
          exact Nat.le_trans (fm_len _ 6 _ fun d hd => Nat.le_trans (arrG_len _ _ _ _) ho) (Nat.mul_le_mul b3 (Nat.le_refl 6))
        walk_at "nx"
        walk_at "rd"
        refine for_range (lo := 0) (n := ((m : Nat) : Int).toNat) (fun j σ H4 => ∃ (ys : List V) (v6 v7 : Option V), σ = [some (.ref q), some (.ref p), some (.int (kk : Nat)), some (.int (c : Nat)), some (.int (m : Nat)), some (.int (i : Nat)), v6, v7] ∧ Same H H4 ∧ H4 p = some (.lst ys) ∧ Items ArV H4 ys (arrK sh kk ++ arrI kk c m i ++ arrJ kk c i j))
          ⟨ys, _, _, rfl, s3, h3, by simpa [arrJ] using it3⟩ ?_ ?_
        · clear it3 h3 s3 v7 v6 v5 ys
          rintro j σ H4 hj4 ⟨ys, v6, v7, rfl, s4, h4, it4⟩
          rw [Int.zero_add]
          have hjm : j < m := by omega
          have l3 : (arrJ kk c i j).length ≤ 3 * 6 := Nat.le_trans (fm_len _ 6 j fun d hd => Nat.le_trans (arrG_len _ _ _ _) ho) (Nat.mul_le_mul (by omega) (Nat.le_refl 6))
          walk_at "nx"
          refine ⟨_, rfl, c, rfl, b1, b2, fun pp zs H5 s5 h5 it5 => ?_⟩
          refine tNil_mk ?_
          refine ⟨pp, zs, rfl, .inl (SqL.of h5), ?_⟩
          have hzl : zs.length = ordT c := it5.1
          walk_at "rd"
          refine for_range (lo := 0) (n := ((zs.length : Int)).toNat) (fun g σ H6 => ∃ (ys : List V) (v7 : Option V), σ = [some (.ref q), some (.ref p), some (.int (kk : Nat)), some (.int (c : Nat)), some (.int (m : Nat)), some (.int (i : Nat)), some (.int (j : Nat)), v7] ∧ Same H H6 ∧ H6 p = some (.lst ys) ∧ Items ArV H6 ys (arrK sh kk ++ arrI kk c m i ++ arrJ kk c i j ++ arrG kk i j g))
            ⟨ys, _, rfl, s4.trans s5, s5 _ _ h4, by simpa [arrG] using it4.mono fun x y h => h.same s5⟩ ?_ ?_
          · clear it4 h4 s4 v7 v6 ys s5 h5 it5
            rintro g σ H6 hg6 ⟨ys, v7, rfl, s6, h6, it6⟩
            rw [Int.zero_add]
            have hgo : g < ordT c := by omega
            have l4 := arrG_len kk i j g
            have hz : ys.length < sizeLine := by
              have z := it6.1
              rw [List.length_append, List.length_append, List.length_append] at z
              exact Nat.lt_of_le_of_lt (m := 1000) (by omega) (by decide)
            walk_at "nx"
            refine if_K (decide (i ≠ j) || decide (g ≠ 0)) (fun Q' hQ => ?_) (fun hc => ?_) (fun hc => ?_)
            · refine ⟨_, rfl, _, rfl, rfl, _, rfl, ?_⟩
              rw [show (!decide (V.int ((i : Nat) : Int) = V.int ((j : Nat) : Int))) = decide (i ≠ j) by
                by_cases e : i = j
                · rw [e, decide_eq_true rfl, decide_eq_false (fun h => h rfl)]; rfl
                · rw [decide_eq_false (fun h => e (by have := V.int.inj h; omega)), decide_eq_true e]; rfl]
              cases hij : decide (i ≠ j) with
              | true =>
                rw [hij, Bool.true_or] at hQ
                exact iteT hQ
              | false =>
                rw [hij, Bool.false_or] at hQ
                refine iteF ?_
                refine ⟨_, rfl, rfl, _, rfl, ?_⟩
                rw [show (!decide (V.int ((g : Nat) : Int) = V.int 0)) = decide (g ≠ 0) by
                  by_cases e : g = 0
                  · rw [e]; decide +kernel
                  · rw [decide_eq_false (fun h => e (by have := V.int.inj h; omega)), decide_eq_true e]; rfl]
                exact hQ
            · refine ⟨_, rfl, .inl ⟨rfl, _, SqL.of h6⟩, ?_⟩
              walk_at "rd"
              refine ⟨by walk_at "sz", fun pa hpa => ?_⟩
              have s7 := same_new (o := .tup (arT (kk, i, g, j))) hpa
              have e7 : (upd H6 pa (.tup (arT (kk, i, g, j)))) pa = some (.tup (arT (kk, i, g, j))) := upd_same
              have h7 := s7 _ _ h6
              refine ⟨p, _, _, rfl, rfl, h7, hz, ?_⟩
              refine ⟨ys ++ [.ref pa], _, rfl, same_mut (s6.trans s7) hp, upd_same, ?_⟩
              rw [arrG_succ, hc, if_pos rfl, ← List.append_assoc]
              exact it6.snoc (fun x y h => (h.same s7).mut h7) (ArV.mut h7 ⟨pa, rfl, e7⟩)
            · walk_at "nx"
              refine ⟨ys, _, rfl, s6, h6, ?_⟩
              rw [arrG_succ, hc, if_neg (by decide), List.append_nil]
              exact it6
          · rintro σ H6 ⟨ys, v7, rfl, s6, h6, it6⟩
            walk_at "nx"
            rw [show ((zs.length : Int)).toNat = ordT c by omega] at it6
            refine ⟨ys, _, _, rfl, s6, h6, ?_⟩
            rw [List.append_assoc] at it6
            unfold arrJ
            rw [fm_succ]
            exact it6
        · rintro σ H4 ⟨ys, v6, v7, rfl, s4, h4, it4⟩
          walk_at "nx"
          rw [show ((m : Nat) : Int).toNat = m by omega] at it4
          refine ⟨ys, _, _, _, rfl, s4, h4, ?_⟩
          rw [List.append_assoc] at it4
          unfold arrI
          rw [fm_succ]
          exact it4
      · rintro σ H3 ⟨ys, v5, v6, v7, rfl, s3, h3, it3⟩
        walk_at "nx"
        rw [show ((m : Nat) : Int).toNat = m by omega] at it3
        refine ⟨ys, _, _, _, _, _, _, rfl, s3, h3, ?_⟩
        unfold arrK
        rw [fm_succ, hgd]
        exact it3
    · rintro σ H2 ⟨ys, v2, v3, v4, v5, v6, v7, rfl, s2, h2, it2⟩
      walk_at "rd"
      rw [show ((xs.length : Int)).toNat = sh.length by omega] at it2
      exact k p ys H2 hp s2 h2 it2
end
end Sh
set_option Elab.async false
set_option linter.all false
set_option maxRecDepth 100000
set_option maxHeartbeats 4000000
namespace Sh
open PySem PySem.Spec PyProof.Rows L2
open SX (S S_inj S_len S_cat)
local macro_rules | `(tactic| walk_at "nx") => `(tactic| repeat (with_reducible first | refine Sh.gn_mk ?_ | refine Sh.nx_mk ?_ | refine Sh.st_nx ?_ | refine Sh.rt_mk ?_ | refine Sh.ct_mk ?_ | refine Sh.bk_mk ?_))
local macro_rules | `(tactic| walk_at "sq") => `(tactic| first | exact SqL.of upd_same | exact SqT.of upd_same | exact SqL.of (by assumption) | exact SqT.of (by assumption) | assumption | exact Or.inl (SqL.of (by assumption)) | exact Or.inr (SqT.of (by assumption)) | exact Or.inl (by assumption) | exact Or.inr (by assumption))
local macro_rules | `(tactic| walk_at "hp") => `(tactic| first | exact upd_same | assumption)
local macro_rules | `(tactic| walk_at "sz") => `(tactic| first | exact Nat.le_of_ble_eq_true rfl | omega)
local macro_rules | `(tactic| walk_at "sd") => `(tactic| first | omega | exact rfl | assumption | (show (0 : Int) < _; omega) | exact And.intro (by omega) (by omega) | exact Or.inl (And.intro (by omega) (by omega)) | exact Or.inr (And.intro (by omega) (by omega)) | omega | exact Sh.sz_S (by omega) | decide)
local macro_rules | `(tactic| walk_at "rd1") => `(tactic| first
  | (with_reducible first | refine Sh.gn_mk ?_ | refine Sh.nx_mk ?_ | refine Sh.st_nx ?_ | refine Sh.rt_mk ?_ | refine Sh.ct_mk ?_ | refine Sh.bk_mk ?_)
  | refine Exists.intro (α := V) _ (And.intro rfl ?_)
  | refine Exists.intro (α := Bool) _ (And.intro rfl ?_)
  | refine Exists.intro (α := Int) _ (And.intro rfl ?_)
  | refine Exists.intro (α := PySem.Str) _ (And.intro rfl ?_)
  | refine Exists.intro (α := Int) _ (Exists.intro (α := Int) _ (And.intro rfl (And.intro rfl ?_)))
  | refine Exists.intro (α := PySem.Str) _ (Exists.intro (α := PySem.Str) _ (And.intro rfl (And.intro rfl ?_)))
  | refine Exists.intro (α := Int) _ (Exists.intro (α := Int) _ (And.intro rfl ?_))
  | refine Or.inl (Exists.intro (α := Int) _ (And.intro rfl ?_))
  | refine Exists.intro _ (Exists.intro _ (Exists.intro _ (Exists.intro _ (And.intro rfl (And.intro rfl (And.intro (by walk_at "sq") (And.intro rfl ?_)))))))
  | refine Exists.intro _ (Exists.intro _ (Exists.intro _ (Exists.intro _ (And.intro rfl (And.intro rfl (And.intro (by walk_at "hp") (And.intro rfl ?_)))))))
  | refine And.intro (by walk_at "sd") ?_
  )
local macro_rules | `(tactic| walk_at "rd") => `(tactic| repeat walk_at "rd1")
local macro_rules | `(tactic| walk_at "lk") => `(tactic| first | exact rfl | (rw [lookup_putF, if_pos rfl]) | (rw [lookup_putF, if_neg (by decide +kernel)]; walk_at "lk"))

def menuL : List (Nat × Nat) := [(1, 2), (2, 1), (3, 1), (1, 2), (4, 1), (7, 1), (1, 3), (2, 2), (6, 1), (8, 1), (5, 1), (2, 1)]
/-- drawn shapes -/
structure GoodSh (sh : List (Nat × Nat)) : Prop where
  ne : sh ≠ []
  mem : ∀ s ∈ sh, s ∈ menuL
  l8 : (arrows sh).length ≤ 8
  l4 : sh.length ≤ 4
theorem menu_b : ∀ s ∈ menuL, 1 ≤ s.1 ∧ s.1 ≤ 8 ∧ s.2 ≤ 3 := by decide
theorem menu_one : ∀ s ∈ menuL, (arrows [s]).length ≤ 8 := by decide +kernel
section
variable {P : Program} {w : World} {K : PySem.W.Frag} {mg : Str → Option Value} {base : Heap}
def spGParts : Sp := fun vs H Q _ => ∃ (a : Addr), vs = [.ref a] ∧ Src H a ∧ ∀ (p : Addr) (ys : List V) (sh : List (Nat × Nat)) (H' : Hp), GoodSh sh → H' p = some (.lst ys) → Items PrV H' ys sh → Src H' a → But a H H' → H p = none → Q (.ref p) H'
theorem c__law_group_parts (T : Txt K mg) : Cal P w K mg base CX0 3 "_law_group_parts" spGParts := by
  have c__law_pick := c__law_pick (P := P) (w := w) (base := base) T
  have c__law_arrows := c__law_arrows (P := P) (w := w) (base := base) T
  refine Cal.mk0 T.d__law_group_parts sc__law_group_parts (fun vs H Q E h => ?_) (fun f cdv A outer s H vs Q E hr h => ?_)
  · obtain ⟨a, rfl, _⟩ := h
    rfl
  · obtain ⟨a, rfl, hS, k⟩ := h
    refine ⟨_, (pss_cons (ps_set (i := 1) sc__law_group_parts.nd rfl (Or.inl rfl) (pe_lst (pa_cons (pe_tup (pa_cons pe_int (pa_cons pe_int pa_nil))) (pa_cons (pe_tup (pa_cons pe_int (pa_cons pe_int pa_nil))) (pa_cons (pe_tup (pa_cons pe_int (pa_cons pe_int pa_nil))) (pa_cons (pe_tup (pa_cons pe_int (pa_cons pe_int pa_nil))) (pa_cons (pe_tup (pa_cons pe_int (pa_cons pe_int pa_nil))) (pa_cons (pe_tup (pa_cons pe_int (pa_cons pe_int pa_nil))) (pa_cons (pe_tup (pa_cons pe_int (pa_cons pe_int pa_nil))) (pa_cons (pe_tup (pa_cons pe_int (pa_cons pe_int pa_nil))) (pa_cons (pe_tup (pa_cons pe_int (pa_cons pe_int pa_nil))) (pa_cons (pe_tup (pa_cons pe_int (pa_cons pe_int pa_nil))) (pa_cons (pe_tup (pa_cons pe_int (pa_cons pe_int pa_nil))) (pa_cons (pe_tup (pa_cons pe_int (pa_cons pe_int pa_nil))) pa_nil))))))))))))))
  (pss_cons (ps_set (i := 2) sc__law_group_parts.nd rfl (Or.inl rfl) (pe_lst pa_nil))
  (pss_cons (ps_for PassesOwn.never rfl (pi_range1 (by rfl) T.b_range (pa_cons (pe_op op_add pe_int (pe_c c__law_pick hr (by decide) rfl (pa_cons (pv 0) (pa_cons pe_int pa_nil)))) pa_nil)) (pg_name (i := 3) sc__law_group_parts.nd rfl (Or.inl rfl))
    (pss_cons (ps_set (i := 4) sc__law_group_parts.nd rfl (Or.inl rfl) (pe_ix ix_list (pv 1) (pe_c c__law_pick hr (by decide) rfl (pa_cons (pv 0) (pa_cons pe_int pa_nil))) (fun _ _ => rfl)))
    (pss_one (ps_if (pt_cmpR op_le (pe_callB call_len_seq (by rfl) T.b_len (by decide +kernel) (pa_cons (pe_c c__law_arrows hr (by decide) rfl (pa_cons (pe_op op_cat (pv 2) (pe_lst (pa_cons (pv 4) pa_nil))) pa_nil)) pa_nil)) pe_int (nomark _))
      (pss_one (ps_expr (pe_bm PySem.F.plainAttrs_list PySem.F.slot_list_append PySem.F.type_list_append mt_append (pv 2) (pa_cons (pv 4) pa_nil))))
      pss_nil))))
  (pss_one (ps_ret (pv 2)))))), ?_⟩
    walk_at "rd"
    try refine And.intro (by walk_at "sz") ?_
    intro l1 h1
    have s1 := same_new (o := .tup [.int 1, .int 2]) h1
    have e1 : (upd H l1 (.tup [.int 1, .int 2])) l1 = some (.tup [.int 1, .int 2]) := upd_same
    generalize upd H l1 (.tup [.int 1, .int 2]) = G1 at s1 e1 ⊢
    walk_at "rd"
    try refine And.intro (by walk_at "sz") ?_
    intro l2 h2
    have s2 := same_new (o := .tup [.int 2, .int 1]) h2
    have e2 : (upd G1 l2 (.tup [.int 2, .int 1])) l2 = some (.tup [.int 2, .int 1]) := upd_same
    generalize upd G1 l2 (.tup [.int 2, .int 1]) = G2 at s2 e2 ⊢
    walk_at "rd"
    try refine And.intro (by walk_at "sz") ?_
    intro l3 h3
    have s3 := same_new (o := .tup [.int 3, .int 1]) h3
    have e3 : (upd G2 l3 (.tup [.int 3, .int 1])) l3 = some (.tup [.int 3, .int 1]) := upd_same
    generalize upd G2 l3 (.tup [.int 3, .int 1]) = G3 at s3 e3 ⊢
    walk_at "rd"
    try refine And.intro (by walk_at "sz") ?_
    intro l4 h4
    have s4 := same_new (o := .tup [.int 1, .int 2]) h4
    have e4 : (upd G3 l4 (.tup [.int 1, .int 2])) l4 = some (.tup [.int 1, .int 2]) := upd_same
    generalize upd G3 l4 (.tup [.int 1, .int 2]) = G4 at s4 e4 ⊢
    walk_at "rd"
    try refine And.intro (by walk_at "sz") ?_
    intro l5 h5
    have s5 := same_new (o := .tup [.int 4, .int 1]) h5
    have e5 : (upd G4 l5 (.tup [.int 4, .int 1])) l5 = some (.tup [.int 4, .int 1]) := upd_same
    generalize upd G4 l5 (.tup [.int 4, .int 1]) = G5 at s5 e5 ⊢
    walk_at "rd"
    try refine And.intro (by walk_at "sz") ?_
    intro l6 h6
    have s6 := same_new (o := .tup [.int 7, .int 1]) h6
    have e6 : (upd G5 l6 (.tup [.int 7, .int 1])) l6 = some (.tup [.int 7, .int 1]) := upd_same
    generalize upd G5 l6 (.tup [.int 7, .int 1]) = G6 at s6 e6 ⊢
    walk_at "rd"
    try refine And.intro (by walk_at "sz") ?_
    intro l7 h7
    have s7 := same_new (o := .tup [.int 1, .int 3]) h7
    have e7 : (upd G6 l7 (.tup [.int 1, .int 3])) l7 = some (.tup [.int 1, .int 3]) := upd_same
    generalize upd G6 l7 (.tup [.int 1, .int 3]) = G7 at s7 e7 ⊢
    walk_at "rd"
    try refine And.intro (by walk_at "sz") ?_
    intro l8 h8
    have s8 := same_new (o := .tup [.int 2, .int 2]) h8
    have e8 : (upd G7 l8 (.tup [.int 2, .int 2])) l8 = some (.tup [.int 2, .int 2]) := upd_same
    generalize upd G7 l8 (.tup [.int 2, .int 2]) = G8 at s8 e8 ⊢
    walk_at "rd"
    try refine And.intro (by walk_at "sz") ?_
    intro l9 h9
    have s9 := same_new (o := .tup [.int 6, .int 1]) h9
    have e9 : (upd G8 l9 (.tup [.int 6, .int 1])) l9 = some (.tup [.int 6, .int 1]) := upd_same
    generalize upd G8 l9 (.tup [.int 6, .int 1]) = G9 at s9 e9 ⊢
    walk_at "rd"
    try refine And.intro (by walk_at "sz") ?_
    intro l10 h10
    have s10 := same_new (o := .tup [.int 8, .int 1]) h10
    have e10 : (upd G9 l10 (.tup [.int 8, .int 1])) l10 = some (.tup [.int 8, .int 1]) := upd_same
    generalize upd G9 l10 (.tup [.int 8, .int 1]) = G10 at s10 e10 ⊢
    walk_at "rd"
    try refine And.intro (by walk_at "sz") ?_
    intro l11 h11
    have s11 := same_new (o := .tup [.int 5, .int 1]) h11
    have e11 : (upd G10 l11 (.tup [.int 5, .int 1])) l11 = some (.tup [.int 5, .int 1]) := upd_same
    generalize upd G10 l11 (.tup [.int 5, .int 1]) = G11 at s11 e11 ⊢
    walk_at "rd"
    try refine And.intro (by walk_at "sz") ?_
    intro l12 h12
    have s12 := same_new (o := .tup [.int 2, .int 1]) h12
    have e12 : (upd G11 l12 (.tup [.int 2, .int 1])) l12 = some (.tup [.int 2, .int 1]) := upd_same
    generalize upd G11 l12 (.tup [.int 2, .int 1]) = G12 at s12 e12 ⊢
    walk_at "rd"
    try refine And.intro (by walk_at "sz") ?_
    intro l13 h13
    have s13 := same_new (o := .lst [.ref l1, .ref l2, .ref l3, .ref l4, .ref l5, .ref l6, .ref l7, .ref l8, .ref l9, .ref l10, .ref l11, .ref l12]) h13
    have e13 : (upd G12 l13 (.lst [.ref l1, .ref l2, .ref l3, .ref l4, .ref l5, .ref l6, .ref l7, .ref l8, .ref l9, .ref l10, .ref l11, .ref l12])) l13 = some (.lst [.ref l1, .ref l2, .ref l3, .ref l4, .ref l5, .ref l6, .ref l7, .ref l8, .ref l9, .ref l10, .ref l11, .ref l12]) := upd_same
    generalize upd G12 l13 (.lst [.ref l1, .ref l2, .ref l3, .ref l4, .ref l5, .ref l6, .ref l7, .ref l8, .ref l9, .ref l10, .ref l11, .ref l12]) = G13 at s13 e13 ⊢
    have t12 := s13
    have t11 := s12.trans t12
    have t10 := s11.trans t11
    have t9 := s10.trans t10
    have t8 := s9.trans t9
    have t7 := s8.trans t8
    have t6 := s7.trans t7
    have t5 := s6.trans t6
    have t4 := s5.trans t5
    have t3 := s4.trans t4
    have t2 := s3.trans t3
    have t1 := s2.trans t2
    have t0 := s1.trans t1
    have itM : Items PrV G13 [.ref l1, .ref l2, .ref l3, .ref l4, .ref l5, .ref l6, .ref l7, .ref l8, .ref l9, .ref l10, .ref l11, .ref l12] menuL := by
      refine ⟨rfl, fun i x y h1 h2 => ?_⟩
      match i, h1, h2 with
      | 0, h1, h2 => cases h1; cases h2; exact ⟨l1, rfl, t1 _ _ e1⟩
      | 1, h1, h2 => cases h1; cases h2; exact ⟨l2, rfl, t2 _ _ e2⟩
      | 2, h1, h2 => cases h1; cases h2; exact ⟨l3, rfl, t3 _ _ e3⟩
      | 3, h1, h2 => cases h1; cases h2; exact ⟨l4, rfl, t4 _ _ e4⟩
      | 4, h1, h2 => cases h1; cases h2; exact ⟨l5, rfl, t5 _ _ e5⟩
      | 5, h1, h2 => cases h1; cases h2; exact ⟨l6, rfl, t6 _ _ e6⟩
      | 6, h1, h2 => cases h1; cases h2; exact ⟨l7, rfl, t7 _ _ e7⟩
      | 7, h1, h2 => cases h1; cases h2; exact ⟨l8, rfl, t8 _ _ e8⟩
      | 8, h1, h2 => cases h1; cases h2; exact ⟨l9, rfl, t9 _ _ e9⟩
      | 9, h1, h2 => cases h1; cases h2; exact ⟨l10, rfl, t10 _ _ e10⟩
      | 10, h1, h2 => cases h1; cases h2; exact ⟨l11, rfl, t11 _ _ e11⟩
      | 11, h1, h2 => cases h1; cases h2; exact ⟨l12, rfl, t12 _ _ e12⟩
      | _ + 12, h1, h2 => cases h1
    generalize [V.ref l1, .ref l2, .ref l3, .ref l4, .ref l5, .ref l6, .ref l7, .ref l8, .ref l9, .ref l10, .ref l11, .ref l12] = ms at e13 itM
    have hS1 : Src G13 a := by
      obtain ⟨d, e, c, z⟩ := hS
      exact ⟨d, e, c, t0 _ _ z⟩
    walk_at "nx"
    refine ⟨by walk_at "sz", fun p hp => ?_⟩
    have sp := same_new (o := .lst []) hp
    have ep : (upd G13 p (.lst [])) p = some (.lst []) := upd_same
    have hp0 : H p = none := by
      cases e : H p with
      | none => rfl
      | some o => rw [t0 _ _ e] at hp; cases hp
    have hpa : p ≠ a := by
      obtain ⟨d, e, c, z⟩ := hS
      exact (ne_of_none z hp0).symm
    have hla : l13 ≠ a := by
      obtain ⟨d, e, c, z⟩ := hS1
      intro ee
      rw [← ee, e13] at z
      cases z
      have := itM.1
      simp [menuL] at this
    have l3m := sp _ _ e13
    have itM2 := itM.mono fun x y h => h.same sp
    have hS2 : Src (upd G13 p (.lst [])) a := by
      obtain ⟨d, e, c, z⟩ := hS1
      exact ⟨d, e, c, sp _ _ z⟩
    have b2 : But a H (upd G13 p (.lst [])) := But.same (t0.trans sp)
    have hlp : l13 ≠ p := ne_of_none e13 hp
    generalize upd G13 p (.lst []) = G14 at sp ep l3m itM2 hS2 b2 ⊢
    walk_at "nx"
    refine ⟨_, rfl, a, 4, rfl, hS2, by decide, by decide, fun n H1 n0 n1 hS3 b3 => ?_⟩
    refine ⟨_, _, rfl, rfl, ?_⟩
    refine tNil_mk ?_
    refine ⟨_, rfl, by omega, by omega, ?_⟩
    have ep1 := b3 _ _ hpa ep
    have e13' := b3 _ _ hla l3m
    have kp : ∀ (q : Addr) (xs : List V), G14 q = some (.tup xs) → H1 q = some (.tup xs) := fun q xs h => by
      obtain ⟨d, e, c, z⟩ := hS2
      exact b3 _ _ (ne_of h z (by intro w; cases w)) h
    have itM3 : Items PrV H1 ms menuL := itM2.mono fun x y ⟨q, e, z⟩ => ⟨q, e, kp _ _ z⟩
    have b4 := b2.trans b3
    refine for_range (lo := 0) (n := (1 + n : Int).toNat) (fun i σ H' => ∃ (ys : List V) (sh : List (Nat × Nat)) (v3 v4 : Option V), σ = [some (.ref a), some (.ref l13), some (.ref p), v3, v4] ∧ Src H' a ∧ But a H H' ∧ H' p = some (.lst ys) ∧ Items PrV H' ys sh ∧ (∀ s ∈ sh, s ∈ menuL) ∧ (arrows sh).length ≤ 8 ∧ sh.length ≤ i ∧ (0 < i → sh ≠ []) ∧ H' l13 = some (.lst ms) ∧ Items PrV H' ms menuL)
      ⟨[], [], _, _, rfl, hS3, b4, ep1, Items.nil, fun s h => (by cases h), by decide, Nat.le_refl _, fun h => absurd h (by decide), e13', itM3⟩ ?_ ?_
    · clear itM3 e13' ep1 kp hS3 b3 b4 b2 hS2 itM2 l3m sp ep itM e13
      rintro i σ H1 hi ⟨ys, sh, v3, v4, rfl, hS1, b1, hp1, it1, hme, h8, hl, hne, hl1, iM1⟩
      rw [Int.zero_add]
      walk_at "nx"
      refine ⟨_, rfl, _, rfl, a, 12, rfl, hS1, by decide, by decide, fun n2 H2 n20 n21 hS2 b2 => ?_⟩
      have kp : ∀ (q : Addr) (xs : List V), H1 q = some (.tup xs) → H2 q = some (.tup xs) := fun q xs h => by
        obtain ⟨d, e, c, z⟩ := hS1
        exact b2 _ _ (ne_of h z (by intro w; cases w)) h
      have iM2 : Items PrV H2 ms menuL := iM1.mono fun x y ⟨q, e, z⟩ => ⟨q, e, kp _ _ z⟩
      have it2 : Items PrV H2 ys sh := it1.mono fun x y ⟨q, e, z⟩ => ⟨q, e, kp _ _ z⟩
      have hl2 := b2 _ _ hla hl1
      have hp2 := b2 _ _ hpa hp1
      obtain ⟨t, rfl⟩ : ∃ t : Nat, n2 = t := ⟨n2.toNat, by omega⟩
      have hm12 : menuL.length = 12 := rfl
      have hst : menuL[t]? = some menuL[t] := List.getElem?_eq_getElem (by omega)
      obtain ⟨x, hx, qs, rfl, hqs⟩ := iM2.get hst
      have hsm := List.mem_of_getElem? hst
      refine ⟨l13, _, _, _, rfl, rfl, SqL.of hl2, atI_nat hx, ?_⟩
      walk_at "nx"
      have b12 := b1.trans b2
      have hyl : ys.length = sh.length := it2.1
      have hsl : sh.length ≤ 4 := by omega
      refine if_KH (decide ((arrows (sh ++ [menuL[t]])).length ≤ 8)) (fun H' => Same H2 H') (fun Q' hQ => ?_) (fun hc H3 s3 => ?_) (fun hc H3 s3 => ?_)
      · refine ⟨_, rfl, _, rfl, by walk_at "sz", fun lq hlq => ?_⟩
        have s3 := same_new (o := .lst [.ref qs]) hlq
        have e3 : (upd H2 lq (.lst [.ref qs])) lq = some (.lst [.ref qs]) := upd_same
        generalize upd H2 lq (.lst [.ref qs]) = H3 at s3 e3 ⊢
        refine ⟨p, lq, ys, [.ref qs], rfl, rfl, s3 _ _ hp2, e3, Nat.le_trans (m := 6) (by rw [hyl]; simp; omega) (by decide), fun pc hpc => ?_⟩
        have s4 := same_new (o := .lst (ys ++ [.ref qs])) hpc
        have e4 : (upd H3 pc (.lst (ys ++ [.ref qs]))) pc = some (.lst (ys ++ [.ref qs])) := upd_same
        generalize upd H3 pc (.lst (ys ++ [.ref qs])) = H4 at s4 e4 ⊢
        refine tNil_mk ?_
        have s24 := s3.trans s4
        refine ⟨pc, _, sh ++ [menuL[t]], rfl, SqL.of e4, it2.snoc (fun x y h => h.same s24) ⟨qs, rfl, s24 _ _ hqs⟩, fun s hs => ?_, by simp; omega, fun pz zs H5 hpz s5 hz hiz => ?_⟩
        · rcases List.mem_append.mp hs with z | z
          · exact menu_b s (hme s z)
          · rw [List.mem_singleton] at z; rw [z]; exact menu_b _ hsm
        refine tNil_mk ?_
        refine ⟨pz, zs, rfl, .inl (SqL.of hz), ?_⟩
        refine ⟨_, _, rfl, rfl, _, rfl, ?_⟩
        rw [hiz.1, show decide ((((arrows (sh ++ [menuL[t]])).length : Nat) : Int) ≤ 8) = decide ((arrows (sh ++ [menuL[t]])).length ≤ 8) from decide_eq_decide.mpr ⟨fun h => by omega, fun h => by omega⟩]
        exact hQ _ (s24.trans s5)
      · have h8' := of_decide_eq_true hc
        have hp3 := s3 _ _ hp2
        refine ⟨_, rfl, .inl ⟨rfl, _, SqL.of hp3⟩, _, rfl, p, _, _, rfl, rfl, hp3, Nat.lt_of_le_of_lt (m := 4) (by omega) (by decide), ?_⟩
        refine ⟨ys ++ [.ref qs], sh ++ [menuL[t]], _, _, rfl, ?_, but_mut (b12.trans (But.same s3)) hp0, upd_same, it2.snoc (fun x y h => (h.same s3).mut hp3) (PrV.mut hp3 ⟨qs, rfl, s3 _ _ hqs⟩), fun s hs => ?_, h8', by simp; omega, fun _ => by simp, ?_, ?_⟩
        · obtain ⟨d, e, c, z⟩ := hS2
          exact ⟨d, e, c, by rw [upd_ne hpa.symm]; exact s3 _ _ z⟩
        · rcases List.mem_append.mp hs with z | z
          · exact hme s z
          · rw [List.mem_singleton] at z; rw [z]; exact hsm
        · rw [upd_ne hlp]; exact s3 _ _ hl2
        · exact iM2.mono fun x y h => (h.same s3).mut hp3
      · walk_at "nx"
        refine ⟨ys, sh, _, _, rfl, (by obtain ⟨d, e, c, z⟩ := hS2; exact ⟨d, e, c, s3 _ _ z⟩), b12.trans (But.same s3), s3 _ _ hp2, it2.mono fun x y h => h.same s3, hme, h8, by omega, fun hi0 hsh => ?_, s3 _ _ hl2, iM2.mono fun x y h => h.same s3⟩
        subst hsh
        exact of_decide_eq_false hc (menu_one _ hsm)
    · rintro σ H1 ⟨ys, sh, v3, v4, rfl, hS1, b1, hp1, it1, hme, h8, hl, hne, hl1, iM1⟩
      walk_at "rd"
      exact k p ys sh H1 ⟨hne (by omega), hme, h8, by omega⟩ hp1 it1 hS1 b1 hp0
end
end Sh
set_option Elab.async false
set_option linter.all false
set_option maxRecDepth 100000
set_option maxHeartbeats 4000000
namespace Sh
open PySem PySem.Spec PyProof.Rows L2
open SX (S S_inj S_len S_cat)
local macro_rules | `(tactic| walk_at "nx") => `(tactic| repeat (with_reducible first | refine Sh.gn_mk ?_ | refine Sh.nx_mk ?_ | refine Sh.st_nx ?_ | refine Sh.rt_mk ?_ | refine Sh.ct_mk ?_ | refine Sh.bk_mk ?_))
local macro_rules | `(tactic| walk_at "sq") => `(tactic| first | exact SqL.of upd_same | exact SqT.of upd_same | exact SqL.of (by assumption) | exact SqT.of (by assumption) | assumption | exact Or.inl (SqL.of (by assumption)) | exact Or.inr (SqT.of (by assumption)) | exact Or.inl (by assumption) | exact Or.inr (by assumption))
local macro_rules | `(tactic| walk_at "hp") => `(tactic| first | exact upd_same | assumption)
local macro_rules | `(tactic| walk_at "sz") => `(tactic| first | exact Nat.le_of_ble_eq_true rfl | omega)
local macro_rules | `(tactic| walk_at "sd") => `(tactic| first | omega | exact rfl | assumption | (show (0 : Int) < _; omega) | exact And.intro (by omega) (by omega) | exact Or.inl (And.intro (by omega) (by omega)) | exact Or.inr (And.intro (by omega) (by omega)) | omega | exact Sh.sz_S (by omega) | decide)
local macro_rules | `(tactic| walk_at "rd1") => `(tactic| first
  | (with_reducible first | refine Sh.gn_mk ?_ | refine Sh.nx_mk ?_ | refine Sh.st_nx ?_ | refine Sh.rt_mk ?_ | refine Sh.ct_mk ?_ | refine Sh.bk_mk ?_)
  | refine Exists.intro (α := V) _ (And.intro rfl ?_)
  | refine Exists.intro (α := Bool) _ (And.intro rfl ?_)
  | refine Exists.intro (α := Int) _ (And.intro rfl ?_)
  | refine Exists.intro (α := PySem.Str) _ (And.intro rfl ?_)
  | refine Exists.intro (α := Int) _ (Exists.intro (α := Int) _ (And.intro rfl (And.intro rfl ?_)))
  | refine Exists.intro (α := PySem.Str) _ (Exists.intro (α := PySem.Str) _ (And.intro rfl (And.intro rfl ?_)))
  | refine Exists.intro (α := Int) _ (Exists.intro (α := Int) _ (And.intro rfl ?_))
  | refine Or.inl (Exists.intro (α := Int) _ (And.intro rfl ?_))
  | refine Exists.intro _ (Exists.intro _ (Exists.intro _ (Exists.intro _ (And.intro rfl (And.intro rfl (And.intro (by walk_at "sq") (And.intro rfl ?_)))))))
  | refine Exists.intro _ (Exists.intro _ (Exists.intro _ (Exists.intro _ (And.intro rfl (And.intro rfl (And.intro (by walk_at "hp") (And.intro rfl ?_)))))))
  | refine And.intro (by walk_at "sd") ?_
  )
local macro_rules | `(tactic| walk_at "rd") => `(tactic| repeat walk_at "rd1")
local macro_rules | `(tactic| walk_at "lk") => `(tactic| first | exact rfl | (rw [lookup_putF, if_pos rfl]) | (rw [lookup_putF, if_neg (by decide +kernel)]; walk_at "lk"))

/-- tuple(..) of a list or a tuple, by a name -/
def rTupOf (K : PySem.W.Frag) : List V → Hp → VK → Prop := fun xs H Q => ∃ p ys, xs = [.ref p] ∧ ((SqL K H p ys ∧ ∀ l, H l = none → Q (.ref l) (upd H l (.tup ys))) ∨ (SqT K H p ys ∧ Q (.ref p) H))
theorem call_tuple_ofD {X : Cx} : CallR X (.type "tuple") (rTupOf X.K) := call_tuple_of
abbrev Ru := List Nat × List Nat
def pools : List (List Nat) := [[97, 98, 99, 100, 101, 102, 103, 104], [98, 100, 102, 104, 106, 108, 110, 112], [97, 99, 101, 103, 105, 107, 109, 111], [115, 116, 117, 118, 119, 120, 121, 122]]
theorem pools_V : ([V.str "abcdefgh", V.str "bdfhjlnp", V.str "acegikmo", V.str "stuvwxyz"] : List V) = pools.map fun l => V.str (S l) := by decide +kernel
theorem pools_nd : ∀ l ∈ pools, l.Nodup ∧ l.length = 8 := by decide +kernel
/-- the sign of an arrow; nothing of an identity -/
def sgn (sg : List Nat) (ar : List Arr) (a : Arr) : List Nat := (sg[ar.idxOf a]?).toList
def compA (a b : Arr) : Bool := decide (a.1 = b.1) && decide (a.2.2.2 = b.2.1)
def mulA (sh : List (Nat × Nat)) (a b : Arr) : Arr := (a.1, a.2.1, Gp.mulT (sh.getD a.1 (0, 0)).1 a.2.2.1 b.2.2.1, b.2.2.2)
def gRule (sh : List (Nat × Nat)) (sg : List Nat) (ar : List Arr) (t u : Nat) : Option Ru :=
  match ar[t]?, ar[u]?, sg[t]?, sg[u]? with
  | some a, some b, some x, some y => if compA a b = true then some ([x, y], sgn sg ar (mulA sh a b)) else none
  | _, _, _, _ => none
def gJ (sh : List (Nat × Nat)) (sg : List Nat) (ar : List Arr) (t n : Nat) : List Ru := (List.range n).filterMap (gRule sh sg ar t)
def gI (sh : List (Nat × Nat)) (sg : List Nat) (ar : List Arr) (n : Nat) : List Ru := (List.range n).flatMap fun t => gJ sh sg ar t sg.length
theorem gJ_succ (sh : List (Nat × Nat)) (sg : List Nat) (ar : List Arr) (t n : Nat) : gJ sh sg ar t (n + 1) = gJ sh sg ar t n ++ (gRule sh sg ar t n).toList := by
  unfold gJ
  rw [List.range_succ, List.filterMap_append]
  cases h : gRule sh sg ar t n <;> simp [h]
theorem dec_int (a b : Nat) : decide (V.int ((a : Nat) : Int) = V.int ((b : Nat) : Int)) = decide (a = b) := by
  by_cases e : a = b
  · rw [e, decide_eq_true rfl, decide_eq_true rfl]
  · rw [decide_eq_false e, decide_eq_false fun h => e (by have := V.int.inj h; omega)]
theorem gJ_len (sh : List (Nat × Nat)) (sg : List Nat) (ar : List Arr) (t n : Nat) : (gJ sh sg ar t n).length ≤ n := by
  unfold gJ
  exact Nat.le_trans (List.length_filterMap_le _ _) (by simp)
theorem gI_len (sh : List (Nat × Nat)) (sg : List Nat) (ar : List Arr) (n : Nat) : (gI sh sg ar n).length ≤ n * sg.length := by
  induction n with
  | zero => simp [gI]
  | succ n ih =>
    have h := gJ_len sh sg ar n sg.length
    unfold gI at ih ⊢
    rw [fm_succ, List.length_append, Nat.succ_mul]
    omega
def keyA (a : Arr) : List Key := [Sum.inl (a.1 : Nat), Sum.inl (a.2.1 : Nat), Sum.inl (a.2.2.1 : Nat), Sum.inl (a.2.2.2 : Nat)]
theorem keyA_V (a : Arr) : (keyA a).map kV = arT a := rfl
theorem keyA_inj {a b : Arr} (h : keyA a = keyA b) : a = b := by
  obtain ⟨a1, a2, a3, a4⟩ := a
  obtain ⟨b1, b2, b3, b4⟩ := b
  simp only [keyA, List.cons.injEq, Sum.inl.injEq] at h
  obtain ⟨h1, h2, h3, h4, _⟩ := h
  have e1 : a1 = b1 := by exact_mod_cast h1
  have e2 : a2 = b2 := by exact_mod_cast h2
  have e3 : a3 = b3 := by exact_mod_cast h3
  have e4 : a4 = b4 := by exact_mod_cast h4
  subst e1 e2 e3 e4
  rfl
/-- the dict that tells the arrow of a sign -/
def ArrowOf (H : Hp) (kvs : List (Key × V)) (sg : List Nat) (ar : List Arr) (n : Nat) : Prop := ∀ (t c : Nat) (a : Arr), t < n → sg[t]? = some c → ar[t]? = some a → ∃ q, valV kvs (Sum.inr (S [c])) = some (.ref q) ∧ H q = some (.tup (arT a))
theorem putK_len {κ : Type} [DecidableEq κ] (kvs : List (κ × V)) (k : κ) (v : V) : (putK kvs k v).length ≤ kvs.length + 1 := by
  unfold putK
  split
  · simp
  · simp
/-- the dict that tells the sign of an arrow -/
def SignOf (kvs : List (List Key × V)) (sg : List Nat) (ar : List Arr) (n : Nat) : Prop := ∀ b : Arr, valV kvs (keyA b) = if ar.idxOf b < n then some (.str (S (sgn sg ar b))) else none
theorem idx_nd {ar : List Arr} (h : ar.Nodup) {t : Nat} {a : Arr} (e : ar[t]? = some a) : ar.idxOf a = t := by
  obtain ⟨ht, rfl⟩ := List.getElem?_eq_some_iff.mp e
  exact h.idxOf_getElem t ht
theorem fm_nodup {α : Type} (f : Nat → List α) (n : Nat) (h1 : ∀ i < n, (f i).Nodup) (h2 : ∀ i j x, i ≠ j → x ∈ f i → x ∈ f j → False) : ((List.range n).flatMap f).Nodup := by
  induction n with
  | zero => simp
  | succ n ih =>
    rw [fm_succ, List.nodup_append]
    refine ⟨ih fun i hi => h1 i (by omega), h1 n (by omega), fun x hx y hy e => ?_⟩
    subst e
    obtain ⟨i, hi, hxi⟩ := List.mem_flatMap.mp hx
    rw [List.mem_range] at hi
    exact h2 i n x (by omega) hxi hy
theorem arrG_mem {k i j n : Nat} {a : Arr} (h : a ∈ arrG k i j n) : a.1 = k ∧ a.2.1 = i ∧ a.2.2.1 < n ∧ a.2.2.2 = j ∧ (i ≠ j ∨ a.2.2.1 ≠ 0) := by
  unfold arrG at h
  obtain ⟨g, hg, rfl⟩ := List.mem_map.mp h
  obtain ⟨h1, h2⟩ := List.mem_filter.mp hg
  rw [List.mem_range] at h1
  refine ⟨rfl, rfl, h1, rfl, ?_⟩
  simpa using h2
theorem arrows_mem {sh : List (Nat × Nat)} {a : Arr} (h : a ∈ arrows sh) : a.1 < sh.length ∧ a.2.1 < (sh.getD a.1 (0, 0)).2 ∧ a.2.2.2 < (sh.getD a.1 (0, 0)).2 ∧ a.2.2.1 < Gp.ordT (sh.getD a.1 (0, 0)).1 ∧ (a.2.1 ≠ a.2.2.2 ∨ a.2.2.1 ≠ 0) := by
  unfold arrows arrK at h
  obtain ⟨k, hk, h⟩ := List.mem_flatMap.mp h
  rw [List.mem_range] at hk
  unfold arrI at h
  obtain ⟨i, hi, h⟩ := List.mem_flatMap.mp h
  rw [List.mem_range] at hi
  unfold arrJ at h
  obtain ⟨j, hj, h⟩ := List.mem_flatMap.mp h
  rw [List.mem_range] at hj
  obtain ⟨e1, e2, e3, e4, e5⟩ := arrG_mem h
  subst e1 e2 e4
  exact ⟨hk, hi, hj, e3, e5⟩
theorem arrows_nodup (sh : List (Nat × Nat)) : (arrows sh).Nodup := by
  unfold arrows arrK
  refine fm_nodup _ _ (fun k _ => ?_) fun k k' x hk h h' => ?_
  · unfold arrI
    refine fm_nodup _ _ (fun i _ => ?_) fun i i' x hi h h' => ?_
    · unfold arrJ
      refine fm_nodup _ _ (fun j _ => ?_) fun j j' x hj h h' => ?_
      · unfold arrG
        exact List.Pairwise.map _ (fun g g' hne e => hne (by simpa using e)) (List.nodup_range.sublist List.filter_sublist)
      · exact hj ((arrG_mem h).2.2.2.1.symm.trans (arrG_mem h').2.2.2.1)
    · obtain ⟨_, _, h⟩ := List.mem_flatMap.mp h
      obtain ⟨_, _, h'⟩ := List.mem_flatMap.mp h'
      exact hi ((arrG_mem h).2.1.symm.trans (arrG_mem h').2.1)
  · obtain ⟨_, _, h⟩ := List.mem_flatMap.mp h
    obtain ⟨_, _, h⟩ := List.mem_flatMap.mp h
    obtain ⟨_, _, h'⟩ := List.mem_flatMap.mp h'
    obtain ⟨_, _, h'⟩ := List.mem_flatMap.mp h'
    exact hk ((arrG_mem h).1.symm.trans (arrG_mem h').1)
def RuV (H : Hp) (v : V) (r : Ru) : Prop := ∃ q, v = .ref q ∧ H q = some (.tup [.str (S r.1), .str (S r.2)])
section
variable {P : Program} {w : World} {K : PySem.W.Frag} {mg : Str → Option Value} {base : Heap}
def spGroup (K : PySem.W.Frag) : Sp := fun vs H Q _ => ∃ (a q : Addr) (ys : List V) (sh : List (Nat × Nat)), vs = [.ref a, .ref q] ∧ Src H a ∧ H q = some (.lst ys) ∧ Items PrV H ys sh ∧ GoodSh sh ∧ q ≠ a ∧
  ∀ (r d l : Addr) (sg : List Nat) (ar : List Arr) (R : List Ru) (kvs : List (Key × V)) (zs : List V) (H' : Hp), ar.Perm (arrows sh) → (∃ pl ∈ pools, sg = pl.take ar.length) → R.Perm (gI sh sg ar sg.length) → H' r = some (.tup [.str (S sg), .ref l, .ref d]) → H' l = some (.tup zs) → Items RuV H' zs R → H' d = some (.dK kvs) → ArrowOf H' kvs sg ar ar.length → Src H' a → But a H H' → Q (.ref r) H'
theorem c__law_group (T : Txt K mg) : Cal P w K mg base CX0 3 "_law_group" (spGroup K) := by
  have c__law_shuffled := c__law_shuffled (P := P) (w := w) (base := base) T
  have c__law_arrows := c__law_arrows (P := P) (w := w) (base := base) T
  have c__law_pick := c__law_pick (P := P) (w := w) (base := base) T
  have c__law_products := c__law_products (P := P) (w := w) (base := base) T
  refine Cal.mk0 T.d__law_group sc__law_group (fun vs H Q E h => ?_) (fun f cdv A outer s H vs Q E hr h => ?_)
  · obtain ⟨a, q, ys, sh, rfl, _⟩ := h
    rfl
  · obtain ⟨a, q, ys, sh, rfl, hS, hq, it, hg, hqa, k⟩ := h
    have hu := hu_of hr
    refine ⟨_, (pss_cons (ps_set (i := 2) sc__law_group.nd rfl (Or.inl rfl) (pe_c c__law_shuffled hr (by decide) rfl (pa_cons (pv 0) (pa_cons (pe_c c__law_arrows hr (by decide) rfl (pa_cons (pv 1) pa_nil)) pa_nil))))
  (pss_cons (ps_set (i := 3) sc__law_group.nd rfl (Or.inl rfl) (pe_ix ix_list (pe_lst (pa_cons pe_str (pa_cons pe_str (pa_cons pe_str (pa_cons pe_str pa_nil))))) (pe_c c__law_pick hr (by decide) rfl (pa_cons (pv 0) (pa_cons pe_int pa_nil))) (fun _ _ => rfl)))
  (pss_cons (ps_set (i := 4) sc__law_group.nd rfl (Or.inl rfl) (pe_slice sl_str (pv 3) po_none (po_some (pe_callB call_len_seq (by rfl) T.b_len (by decide +kernel) (pa_cons (pv 2) pa_nil)))))
  (pss_cons (ps_set (i := 5) sc__law_group.nd rfl (Or.inl rfl) pe_dnewK)
  (pss_cons (ps_set (i := 6) sc__law_group.nd rfl (Or.inl rfl) pe_dnewT)
  (pss_cons (ps_for PassesOwn.never rfl (pi_range1 (by rfl) T.b_range (pa_cons (pe_callB call_len_seq (by rfl) T.b_len (by decide +kernel) (pa_cons (pv 2) pa_nil)) pa_nil)) (pg_name (i := 7) sc__law_group.nd rfl (Or.inl rfl))
    (pss_cons (ps_dput hu (pv 5) (pe_ix ix_str (pv 4) (pv 7) (fun _ _ => rfl)) (pe_ix ix_list (pv 2) (pv 7) (fun _ _ => rfl)) rfl)
    (pss_one (ps_dput hu (pv 6) (pe_ix ix_list (pv 2) (pv 7) (fun _ _ => rfl)) (pe_ix ix_str (pv 4) (pv 7) (fun _ _ => rfl)) rfl))))
  (pss_cons (ps_set (i := 8) sc__law_group.nd rfl (Or.inl rfl) (pe_lst pa_nil))
  (pss_cons (ps_for PassesOwn.never rfl (pi_str (pv 4)) (pg_name (i := 9) sc__law_group.nd rfl (Or.inl rfl))
    (pss_one (ps_for PassesOwn.never rfl (pi_str (pv 4)) (pg_name (i := 10) sc__law_group.nd rfl (Or.inl rfl))
      (pss_cons (ps_par (i := 11) (j := 12) (by rfl) sc__law_group.nd rfl rfl (by decide) rfl rfl (pa_cons (pe_dget hu (pv 5) (pv 9) (fun _ _ => rfl)) (pa_cons (pe_dget hu (pv 5) (pv 10) (fun _ _ => rfl)) pa_nil)) (by rfl))
      (pss_one (ps_if (PW.pt (pw_and (pt_cmpR op_eq (pe_ix ix_tup (pv 11) pe_int (fun _ _ => rfl)) (pe_ix ix_tup (pv 12) pe_int (fun _ _ => rfl)) (nomark _)) (pw_and1 (pt_cmpR op_eq (pe_ix ix_tup (pv 11) pe_int (fun _ _ => rfl)) (pe_ix ix_tup (pv 12) pe_int (fun _ _ => rfl)) (nomark _)))))
        (pss_cons (ps_set (i := 13) sc__law_group.nd rfl (Or.inl rfl) (pe_ix ix_list (pe_ix ix_list (pe_c c__law_products hr (by decide) rfl (pa_cons (pe_ix ix_tup (pe_ix ix_list (pv 1) (pe_ix ix_tup (pv 11) pe_int (fun _ _ => rfl)) (fun _ _ => rfl)) pe_int (fun _ _ => rfl)) pa_nil)) (pe_ix ix_tup (pv 11) pe_int (fun _ _ => rfl)) (fun _ _ => rfl)) (pe_ix ix_tup (pv 12) pe_int (fun _ _ => rfl)) (fun _ _ => rfl)))
        (pss_one (ps_expr (pe_bm PySem.F.plainAttrs_list PySem.F.slot_list_append PySem.F.type_list_append mt_append (pv 8) (pa_cons (pe_tup (pa_cons (pe_op op_add_str (pv 9) (pv 10)) (pa_cons (pe_dget2 hu (pv 6) (pe_tup (pa_cons (pe_ix ix_tup (pv 11) pe_int (fun _ _ => rfl)) (pa_cons (pe_ix ix_tup (pv 11) pe_int (fun _ _ => rfl)) (pa_cons (pv 13) (pa_cons (pe_ix ix_tup (pv 12) pe_int (fun _ _ => rfl)) pa_nil))))) pe_str ⟨rfl, rfl, rfl, rfl⟩) pa_nil))) pa_nil)))))
        pss_nil))))))
  (pss_one (ps_ret (pe_tup (pa_cons (pv 4) (pa_cons (pe_callTy call_tuple_ofD (by rfl) T.b_tuple (by decide +kernel) (pa_cons (pe_c c__law_shuffled hr (by decide) rfl (pa_cons (pv 0) (pa_cons (pv 8) pa_nil))) pa_nil)) (pa_cons (pv 5) pa_nil)))))))))))))), ?_⟩
    refine ⟨_, rfl, _, rfl, q, ys, sh, rfl, SqL.of hq, it, fun s hs => menu_b s (hg.mem s hs), by have := hg.l4; omega, fun pa as0 H1 hpa s1 h1 it1 => ?_⟩
    refine tNil_mk ?_
    have hS1 : Src H1 a := by
      obtain ⟨d, e, c, z⟩ := hS
      exact ⟨d, e, c, s1 _ _ z⟩
    have hal := it1.1
    have h8 := hg.l8
    refine ⟨a, pa, as0, rfl, hS1, SqL.of h1, by omega, fun p2 as1 H2 hpm h2 hS2 b2 hp2 => ?_⟩
    have itA : Items ArV H2 as0 (arrows sh) := it1.mono fun x y ⟨q, e, z⟩ => by
      obtain ⟨d, e', c, z'⟩ := hS1
      exact ⟨q, e, b2 _ _ (ne_of z z' (by intro w; cases w)) z⟩
    obtain ⟨ar, harp, hpr⟩ := paired_perm hpm (paired_at (R := ArV H2) itA.1 itA.2)
    have itR : Items ArV H2 as1 ar := paired_get hpr
    have hn8 : ar.length ≤ 8 := by rw [harp.length_eq]; exact h8
    clear itA hpr
    have b12 : But a H H2 := (But.same s1).trans b2
    have it2 : Items PrV H2 ys sh := it.mono fun x y ⟨q, e, z⟩ => by
      obtain ⟨d, e', c, z'⟩ := hS
      exact ⟨q, e, b12 _ _ (ne_of z z' (by intro w; cases w)) z⟩
    walk_at "nx"
    refine ⟨by walk_at "sz", fun pp hpp => ?_⟩
    rw [pools_V]
    have s3 := same_new (o := .lst (pools.map fun l => V.str (S l))) hpp
    have e3 : (upd H2 pp (.lst (pools.map fun l => V.str (S l)))) pp = some (.lst (pools.map fun l => V.str (S l))) := upd_same
    generalize upd H2 pp (.lst (pools.map fun l => V.str (S l))) = H3 at s3 e3 ⊢
    have hS3 : Src H3 a := by
      obtain ⟨d, e, c, z⟩ := hS2
      exact ⟨d, e, c, s3 _ _ z⟩
    refine ⟨_, rfl, a, 4, rfl, hS3, by decide, by decide, fun n H4 n0 n1 hS4 b4 => ?_⟩
    obtain ⟨t, rfl⟩ : ∃ t : Nat, n = t := ⟨n.toNat, by omega⟩
    have npp : pp ≠ a := by
      obtain ⟨d, e, c, z⟩ := hS2
      exact (ne_of_none z hpp).symm
    have hpl4 : pools.length = 4 := rfl
    have hpt : pools[t]? = some pools[t] := List.getElem?_eq_getElem (by omega)
    have hpm' := List.mem_of_getElem? hpt
    obtain ⟨hnd, hl8⟩ := pools_nd _ hpm'
    generalize pools[t] = pl at hpt hpm' hnd hl8
    refine ⟨pp, _, _, _, rfl, rfl, SqL.of (b4 _ _ npp e3), atI_nat (show (pools.map fun l => V.str (S l))[t]? = some (V.str (S pl)) by rw [List.getElem?_map, hpt]; rfl), ?_⟩
    have hp2a : p2 ≠ a := by
      intro e
      obtain ⟨d, e', c, z⟩ := hS1
      rw [e] at hp2
      rw [z] at hp2
      cases hp2
    have b24 : But a H2 H4 := (But.same s3).trans b4
    have h2' := b24 _ _ hp2a h2
    have it4 : Items ArV H4 as1 ar := itR.mono fun x y ⟨q, e, z⟩ => by
      obtain ⟨d, e', c, z'⟩ := hS2
      exact ⟨q, e, b24 _ _ (ne_of z z' (by intro w; cases w)) z⟩
    have it4' : Items PrV H4 ys sh := it2.mono fun x y ⟨q, e, z⟩ => by
      obtain ⟨d, e', c, z'⟩ := hS2
      exact ⟨q, e, b24 _ _ (ne_of z z' (by intro w; cases w)) z⟩
    have b04 := b12.trans b24
    clear b24 npp hpp e3 s3 hS3 b4 it2 itR b12 hS2 hpm h2 b2 hp2
    walk_at "nx"
    walk_at "rd"
    refine ⟨p2, as1, rfl, .inl (SqL.of h2'), _, rfl, ?_⟩
    have hlen : as1.length = ar.length := it4.1
    refine ⟨_, rfl, sz_S (t := pl) (by omega), ?_⟩
    rw [cut_to (by omega), hlen, show ((ar.length : Nat) : Int).toNat = ar.length by omega]
    have hsgl : (pl.take ar.length).length = ar.length := by rw [List.length_take]; omega
    have hsgn : (pl.take ar.length).Nodup := hnd.sublist (List.take_sublist _ _)
    have hsp : ∃ pl' ∈ pools, pl.take ar.length = pl'.take ar.length := ⟨pl, hpm', rfl⟩
    generalize pl.take ar.length = sg at hsgl hsgn hsp ⊢
    clear hpm' hpt hl8 hnd
    walk_at "nx"
    intro d1 hd1
    have sd1 := same_new (o := .dK []) hd1
    have ed1 : (upd H4 d1 (.dK [])) d1 = some (.dK []) := upd_same
    have nd1a : d1 ≠ a := by
      obtain ⟨d, e, c, z⟩ := hS4
      exact (ne_of_none z hd1).symm
    have hd10 : H d1 = none := b04.none_of nd1a hd1
    generalize upd H4 d1 (.dK []) = H5 at sd1 ed1 ⊢
    walk_at "nx"
    intro d2 hd2
    have sd2 := same_new (o := .dT []) hd2
    have ed2 : (upd H5 d2 (.dT [])) d2 = some (.dT []) := upd_same
    have nd12 : d1 ≠ d2 := ne_of_none ed1 hd2
    have nd2a : d2 ≠ a := by
      obtain ⟨d, e, c, z⟩ := hS4
      exact (ne_of_none (sd1 _ _ z) hd2).symm
    have ed1' := sd2 _ _ ed1
    have s46 := sd1.trans sd2
    have hd20 : H d2 = none := (b04.trans (But.same sd1)).none_of nd2a hd2
    generalize upd H5 d2 (.dT []) = H6 at sd2 ed2 ed1' s46 ⊢
    have hS6 : Src H6 a := by
      obtain ⟨d, e, c, z⟩ := hS4
      exact ⟨d, e, c, s46 _ _ z⟩
    have it6 := it4.mono fun x y h => h.same s46
    have it6' := it4'.mono fun x y h => h.same s46
    have h26 := s46 _ _ h2'
    have b06 := b04.trans (But.same s46)
    clear s46 sd2 sd1 ed1 hd1 hd2 b04 it4 it4' h2' hS4
    walk_at "nx"
    refine ⟨_, rfl, p2, as1, rfl, .inl (SqL.of h26), ?_⟩
    walk_at "rd"
    have hnd : ar.Nodup := harp.nodup_iff.mpr (arrows_nodup sh)
    refine for_range (lo := 0) (n := ((as1.length : Int)).toNat) (fun i σ H' => ∃ (k1 : List (Key × V)) (k2 : List (List Key × V)) (v7 v8 v9 v10 v11 v12 v13 : Option V), σ = [some (.ref a), some (.ref q), some (.ref p2), some (.str (S pl)), some (.str (S sg)), some (.ref d1), some (.ref d2), v7, v8, v9, v10, v11, v12, v13] ∧ Src H' a ∧ But a H H' ∧ H' p2 = some (.lst as1) ∧ Items ArV H' as1 ar ∧ Items PrV H' ys sh ∧ H' d1 = some (.dK k1) ∧ H' d2 = some (.dT k2) ∧ k1.length ≤ i ∧ k2.length ≤ i ∧ ArrowOf H' k1 sg ar i ∧ SignOf k2 sg ar i)
      ⟨[], [], _, _, _, _, _, _, _, rfl, hS6, b06, h26, it6, it6', ed1', ed2, Nat.le_refl _, Nat.le_refl _, fun t c a ht => absurd ht (by omega), fun b => by rw [if_neg (by omega)]; rfl⟩ ?_ ?_
    · clear it6 it6' h26 hS6 b06 ed1' ed2
      rintro i σ H7 hi ⟨k1, k2, v7, v8, v9, v10, v11, v12, v13, rfl, hS7, b7, h27, it7, it7', hd1, hd2, l1, l2, hA, hB⟩
      rw [Int.zero_add]
      have hia : i < ar.length := by omega
      have hai : ar[i]? = some ar[i] := List.getElem?_eq_getElem hia
      have hsi : sg[i]? = some (sg[i]'(by omega)) := List.getElem?_eq_getElem _
      generalize hc : sg[i]'(by omega) = c at hsi
      clear hc
      obtain ⟨x, hx, qi, rfl, hqi⟩ := it7.get hai
      generalize ar[i] = ai at hai hqi
      have hidx := idx_nd hnd hai
      walk_at "nx"
      refine ⟨_, rfl, _, rfl, ⟨p2, _, _, _, rfl, rfl, SqL.of h27, atI_nat hx, ?_⟩⟩
      have hSg := S_len sg
      refine ⟨_, rfl, _, rfl, _, rfl, ⟨_, ((i : Nat) : Int), c, rfl, rfl, sz_S (t := sg) (by omega), atI_nat hsi, ?_⟩⟩
      refine ⟨d1, _, rfl, DPut.k (k := Sum.inr (S [c])) hd1 (Nat.lt_of_le_of_lt (m := 8) (by omega) (by decide)), ?_⟩
      have hd1u : (upd H7 d1 (.dK (putK k1 (Sum.inr (S [c])) (.ref qi)))) d1 = some (.dK (putK k1 (Sum.inr (S [c])) (.ref qi))) := upd_same
      have oth : ∀ (b : Addr) (o : HO), b ≠ d1 → H7 b = some o → (upd H7 d1 (.dK (putK k1 (Sum.inr (S [c])) (.ref qi)))) b = some o := fun b o hn e => by rw [upd_ne hn]; exact e
      have ltn : ∀ (b : Addr) (xs : List V), H7 b = some (.lst xs) → b ≠ d1 := fun b xs e => ne_of e hd1 (by intro w; cases w)
      have tpn : ∀ (b : Addr) (xs : List V), H7 b = some (.tup xs) → b ≠ d1 := fun b xs e => ne_of e hd1 (by intro w; cases w)
      generalize hH8 : upd H7 d1 (.dK (putK k1 (Sum.inr (S [c])) (.ref qi))) = H8 at hd1u oth ⊢
      have h28 := oth _ _ (ltn _ _ h27) h27
      have hd28 := oth _ _ nd12.symm hd2
      have hq8 := oth _ _ (tpn _ _ hqi) hqi
      refine ⟨_, rfl, _, rfl, ⟨_, ((i : Nat) : Int), c, rfl, rfl, sz_S (t := sg) (by omega), atI_nat hsi, ?_⟩⟩
      refine ⟨_, rfl, _, rfl, _, rfl, ⟨p2, _, _, _, rfl, rfl, SqL.of h28, atI_nat hx, ?_⟩⟩
      refine ⟨d2, _, rfl, DPut.t (k := keyA ai) hd28 hq8 (Nat.lt_of_le_of_lt (m := 8) (by omega) (by decide)), ?_⟩
      have hd29 : ∀ (b : Addr) (o : HO), b ≠ d2 → H8 b = some o → (upd H8 d2 (.dT (putK k2 (keyA ai) (.str ⟨#[c]⟩)))) b = some o := fun b o hn e => by rw [upd_ne hn]; exact e
      have tpn2 : ∀ (b : Addr) (xs : List V), H7 b = some (.tup xs) → b ≠ d2 := fun b xs e => ne_of e hd2 (by intro w; cases w)
      have ltn2 : ∀ (b : Addr) (xs : List V), H7 b = some (.lst xs) → b ≠ d2 := fun b xs e => ne_of e hd2 (by intro w; cases w)
      have tp9 : ∀ (b : Addr) (xs : List V), H7 b = some (.tup xs) → (upd H8 d2 (.dT (putK k2 (keyA ai) (.str ⟨#[c]⟩)))) b = some (.tup xs) := fun b xs e => hd29 _ _ (tpn2 _ _ e) (oth _ _ (tpn _ _ e) e)
      have lt9 : ∀ (b : Addr) (xs : List V), H7 b = some (.lst xs) → (upd H8 d2 (.dT (putK k2 (keyA ai) (.str ⟨#[c]⟩)))) b = some (.lst xs) := fun b xs e => hd29 _ _ (ltn2 _ _ e) (oth _ _ (ltn _ _ e) e)
      refine ⟨_, _, _, _, _, _, _, _, _, rfl, ?_, ?_, lt9 _ _ h27, it7.mono fun x y ⟨q', e, z⟩ => ⟨q', e, tp9 _ _ z⟩, it7'.mono fun x y ⟨q', e, z⟩ => ⟨q', e, tp9 _ _ z⟩, hd29 _ _ nd12 hd1u, upd_same, Nat.le_trans (putK_len _ _ _) (by omega), Nat.le_trans (putK_len _ _ _) (by omega), ?_, ?_⟩
      · obtain ⟨d, e, c', z⟩ := hS7
        exact ⟨d, e, c', lt9 _ _ z⟩
      · rw [← hH8]
        exact but_mut (but_mut b7 hd10) hd20
      · intro t' c' a' ht' hs' ha'
        rw [valV_put]
        by_cases e : (Sum.inr (S [c']) : Key) = Sum.inr (S [c])
        · have ec : c' = c := by
            have := S_inj (Sum.inr.inj e)
            simpa using this
          subst ec
          have et : t' = i := by
            obtain ⟨x1, y1⟩ := List.getElem?_eq_some_iff.mp hs'
            obtain ⟨x2, y2⟩ := List.getElem?_eq_some_iff.mp hsi
            exact (List.getElem_inj hsgn).mp (y1.trans y2.symm)
          subst et
          rw [hai] at ha'
          cases ha'
          rw [if_pos rfl]
          exact ⟨qi, rfl, tp9 _ _ hqi⟩
        · rw [if_neg e]
          have hlt : t' < i := by
            rcases Nat.lt_or_ge t' i with z | z
            · exact z
            · have et : t' = i := by omega
              subst et
              rw [hsi] at hs'
              cases hs'
              exact absurd rfl e
          obtain ⟨q', e1, e2⟩ := hA t' c' a' hlt hs' ha'
          exact ⟨q', e1, tp9 _ _ e2⟩
      · intro b
        rw [valV_put]
        by_cases e : keyA b = keyA ai
        · have eb := keyA_inj e
          subst eb
          rw [if_pos rfl, if_pos (by omega)]
          unfold sgn
          rw [hidx, hsi]
          rfl
        · rw [if_neg e, hB b]
          have hne : ar.idxOf b ≠ i := by
            intro h
            have hlt : ar.idxOf b < ar.length := by omega
            have := List.getElem_idxOf hlt
            have h2 : ar[i]? = some b := by rw [← h, List.getElem?_eq_getElem hlt, this]
            rw [hai] at h2
            cases h2
            exact e rfl
          by_cases hl : ar.idxOf b < i
          · rw [if_pos hl, if_pos (by omega)]
          · rw [if_neg hl, if_neg (by omega)]
    · clear it6 it6' h26 hS6 b06 ed1' ed2
      rintro σ H7 ⟨k1, k2, v7, v8, v9, v10, v11, v12, v13, rfl, hS7, b7, h27, it7, it7', hd1, hd2, l1, l2, hA, hB⟩
      rw [show ((as1.length : Int)).toNat = ar.length by omega] at hA hB
      walk_at "nx"
      refine ⟨by walk_at "sz", fun rr hrr => ?_⟩
      have s8 := same_new (o := .lst []) hrr
      have e8 : (upd H7 rr (.lst [])) rr = some (.lst []) := upd_same

      generalize upd H7 rr (.lst []) = H8 at s8 e8 ⊢
      walk_at "rd"
      have n1r : d1 ≠ rr := ne_of_none hd1 hrr
      have n2r : d2 ≠ rr := ne_of_none hd2 hrr
      have hrr0 : H rr = none := b7.none_of (by
        obtain ⟨d, e, c, z⟩ := hS7
        exact (ne_of_none z hrr).symm) hrr
      have nra : rr ≠ a := by
        obtain ⟨d, e, c, z⟩ := hS7
        exact (ne_of_none z hrr).symm
      have hS8 : Src H8 a := by
        obtain ⟨d, e, c, z⟩ := hS7
        exact ⟨d, e, c, s8 _ _ z⟩
      have it8 := it7'.mono fun x y h => h.same s8
      have b8 := b7.trans (But.same s8)
      have hd18 := s8 _ _ hd1
      have hA8 : ArrowOf H8 k1 sg ar ar.length := fun t c a' h1 h2 h3 => let ⟨q', e, z⟩ := hA t c a' h1 h2 h3; ⟨q', e, s8 _ _ z⟩
      have hd28 := s8 _ _ hd2
      clear s8 hA hd1 hd2 b7 it7' it7 hS7 h27 hrr
      refine for_str (l := sg) (fun pre σ H9 => ∃ (v9 v10 v11 v12 v13 : Option V) (zs : List V), σ = [some (.ref a), some (.ref q), some (.ref p2), some (.str (S pl)), some (.str (S sg)), some (.ref d1), some (.ref d2), v7, some (.ref rr), v9, v10, v11, v12, v13] ∧ Src H9 a ∧ But a H H9 ∧ Items PrV H9 ys sh ∧ H9 d1 = some (.dK k1) ∧ H9 d2 = some (.dT k2) ∧ ArrowOf H9 k1 sg ar ar.length ∧ H9 rr = some (.lst zs) ∧ Items RuV H9 zs (gI sh sg ar pre.length))
        ⟨_, _, _, _, _, [], rfl, hS8, b8, it8, hd18, hd28, hA8, e8, ⟨rfl, fun i x y h => nomatch h⟩⟩ ?_ ?_
      · rintro pre c post σ H9 esg ⟨v9, v10, v11, v12, v13, zs, rfl, hS9, b9, it9, hd1, hd2, hA, hrr, itR⟩
        walk_at "rd"
        refine for_str (l := sg) (fun pre2 σ H9 => ∃ (v10 v11 v12 v13 : Option V) (zs : List V), σ = [some (.ref a), some (.ref q), some (.ref p2), some (.str (S pl)), some (.str (S sg)), some (.ref d1), some (.ref d2), v7, some (.ref rr), some (.str (S [c])), v10, v11, v12, v13] ∧ Src H9 a ∧ But a H H9 ∧ Items PrV H9 ys sh ∧ H9 d1 = some (.dK k1) ∧ H9 d2 = some (.dT k2) ∧ ArrowOf H9 k1 sg ar ar.length ∧ H9 rr = some (.lst zs) ∧ Items RuV H9 zs (gI sh sg ar pre.length ++ gJ sh sg ar pre.length pre2.length))
          ⟨_, _, _, _, zs, rfl, hS9, b9, it9, hd1, hd2, hA, hrr, by simpa [gJ] using itR⟩ ?_ ?_
        · clear hS9 b9 it9 hd1 hd2 hA hrr itR
          rintro pre2 c2 post2 σ H9 esg2 ⟨v10, v11, v12, v13, zs, rfl, hS9, b9, it9, hd1, hd2, hA, hrr, itR⟩
          walk_at "nx"
          have hsc : sg[pre.length]? = some c := by rw [esg]; simp
          have hsc2 : sg[pre2.length]? = some c2 := by rw [esg2]; simp
          have hl1 : pre.length < ar.length := by rw [← hsgl]; exact (List.getElem?_eq_some_iff.mp hsc).1
          have hl2 : pre2.length < ar.length := by rw [← hsgl]; exact (List.getElem?_eq_some_iff.mp hsc2).1
          have ha1 : ar[pre.length]? = some ar[pre.length] := List.getElem?_eq_getElem hl1
          have ha2 : ar[pre2.length]? = some ar[pre2.length] := List.getElem?_eq_getElem hl2
          obtain ⟨q1, hq1, hz1⟩ := hA _ _ _ hl1 hsc ha1
          obtain ⟨q2, hq2, hz2⟩ := hA _ _ _ hl2 hsc2 ha2
          have hm1 := arrows_mem (harp.mem_iff.mp (List.mem_of_getElem? ha1))
          have hm2 := arrows_mem (harp.mem_iff.mp (List.mem_of_getElem? ha2))
          generalize ar[pre.length] = a1 at ha1 hz1 hm1
          generalize ar[pre2.length] = a2 at ha2 hz2 hm2
          refine ⟨_, rfl, _, rfl, d1, _, rfl, by rw [← hq1]; exact DGet.k (k := Sum.inr (S [c])) hd1, ?_⟩
          refine ⟨_, rfl, _, rfl, d1, _, rfl, by rw [← hq2]; exact DGet.k (k := Sum.inr (S [c2])) hd1, ?_⟩
          refine tNil_mk ?_
          refine ⟨_, _, rfl, ?_⟩
          walk_at "nx"
          have hzl : zs.length ≤ 1000 := by
            rw [itR.1, List.length_append]
            have z1 := gI_len sh sg ar pre.length
            have z2 := gJ_len sh sg ar pre.length pre2.length
            have z3 : pre.length * sg.length ≤ 8 * 8 := Nat.mul_le_mul (by omega) (by omega)
            omega
          refine if_K (compA a1 a2) (fun Q' hQ => ?_) (fun hc => ?_) (fun hc => ?_)
          · refine ⟨_, rfl, ⟨q1, _, _, _, rfl, rfl, SqT.of hz1, rfl, ?_⟩⟩
            refine ⟨_, rfl, ⟨q2, _, _, _, rfl, rfl, SqT.of hz2, rfl, ?_⟩⟩
            refine ⟨rfl, _, rfl, ?_⟩
            rw [show decide (V.int ((a1.1 : Nat) : Int) = V.int ((a2.1 : Nat) : Int)) = decide (a1.1 = a2.1) from dec_int _ _]
            cases hij : decide (a1.1 = a2.1) with
            | false =>
              rw [compA, hij, Bool.false_and] at hQ
              exact iteF hQ
            | true =>
              rw [compA, hij, Bool.true_and] at hQ
              refine iteT ?_
              refine ⟨_, rfl, ⟨q1, _, _, _, rfl, rfl, SqT.of hz1, rfl, ?_⟩⟩
              refine ⟨_, rfl, ⟨q2, _, _, _, rfl, rfl, SqT.of hz2, rfl, ?_⟩⟩
              refine ⟨rfl, _, rfl, ?_⟩
              rw [show decide (V.int ((a1.2.2.2 : Nat) : Int) = V.int ((a2.2.1 : Nat) : Int)) = decide (a1.2.2.2 = a2.2.1) from dec_int _ _]
              exact hQ
          · have hcc := hc
            simp only [compA, Bool.and_eq_true, decide_eq_true_eq] at hcc
            obtain ⟨sk, hsk⟩ : ∃ z, sh[a1.1]? = some z := ⟨_, List.getElem?_eq_getElem hm1.1⟩
            have hk := it9.get hsk
            obtain ⟨xk, hxk, qk, rfl, hqk⟩ := hk
            have hmk := hg.mem sk (List.mem_of_getElem? hsk)
            have hgd : sh.getD a1.1 (0, 0) = sk := by rw [List.getD_eq_getElem?_getD, hsk]; rfl
            have hgd2 : sh.getD a2.1 (0, 0) = sk := by rw [← hcc.1]; exact hgd
            rw [hgd] at hm1
            rw [hgd2] at hm2
            have hmul : mulA sh a1 a2 = (a1.1, a1.2.1, Gp.mulT sk.1 a1.2.2.1 a2.2.2.1, a2.2.2.2) := by unfold mulA; rw [hgd]
            have hb := menu_b _ hmk
            refine ⟨_, rfl, _, rfl, ⟨q1, _, _, _, rfl, rfl, SqT.of hz1, rfl, ?_⟩⟩
            refine ⟨q, _, _, _, rfl, rfl, SqL.of (b9 _ _ hqa hq), atI_nat hxk, ?_⟩
            refine ⟨qk, _, _, _, rfl, rfl, SqT.of hqk, rfl, ?_⟩
            refine tNil_mk ?_
            refine ⟨sk.1, rfl, hb.1, hb.2.1, fun pr rs G1 sg1 hpr itr => ?_⟩
            have hz1' := sg1 _ _ hz1
            have hz2' := sg1 _ _ hz2
            have hrr' := sg1 _ _ hrr
            have hd2' := sg1 _ _ hd2
            have hrow : (Gp.prodT sk.1)[a1.2.2.1]? = some ((Gp.prodT sk.1).getD a1.2.2.1 []) := by
              rw [List.getD_eq_getElem?_getD, List.getElem?_eq_getElem (show a1.2.2.1 < (Gp.prodT sk.1).length from hm1.2.2.2.1)]
              rfl
            obtain ⟨xr, hxr, qr, rfl, hqr⟩ := itr.get hrow
            have hrl := Gp.row_len sk.1 (by omega) _ (List.mem_of_getElem? hrow)
            refine ⟨_, rfl, ⟨q1, _, _, _, rfl, rfl, SqT.of hz1', rfl, ?_⟩⟩
            refine ⟨pr, _, _, _, rfl, rfl, SqL.of hpr, atI_nat hxr, ?_⟩
            refine ⟨_, rfl, ⟨q2, _, _, _, rfl, rfl, SqT.of hz2', rfl, ?_⟩⟩
            refine ⟨qr, _, _, _, rfl, rfl, SqL.of hqr, atI_nat (v := .int ((Gp.mulT sk.1 a1.2.2.1 a2.2.2.1 : Nat) : Int)) ?_, ?_⟩
            · rw [List.getElem?_map, List.getElem?_eq_getElem (show a2.2.2.1 < _ by rw [hrl]; exact hm2.2.2.2.1)]
              show some (dV _) = _
              unfold Gp.mulT
              rw [List.getD_eq_getElem?_getD (l := List.getD _ _ _), List.getElem?_eq_getElem (show a2.2.2.1 < _ by rw [hrl]; exact hm2.2.2.2.1)]
              rfl
            walk_at "nx"
            refine ⟨_, rfl, .inl ⟨rfl, _, SqL.of hrr'⟩, ?_⟩
            refine ⟨_, rfl, _, rfl, S [c], S [c2], rfl, rfl, by rw [S_len, S_len]; exact (by decide : 1 + 1 ≤ sizeLine), ?_⟩
            refine ⟨_, rfl, d2, rfl, Or.inr ⟨_, .inl hd2'⟩, ?_⟩
            refine ⟨_, rfl, ⟨q1, _, _, _, rfl, rfl, SqT.of hz1', rfl, ?_⟩⟩
            refine ⟨_, rfl, ⟨q1, _, _, _, rfl, rfl, SqT.of hz1', rfl, ?_⟩⟩
            refine ⟨_, rfl, ?_⟩
            refine ⟨_, rfl, ⟨q2, _, _, _, rfl, rfl, SqT.of hz2', rfl, ?_⟩⟩
            refine tNil_mk ?_
            refine ⟨by walk_at "sz", fun pk hpk => ?_⟩
            have sk2 := same_new (o := .tup (arT (mulA sh a1 a2))) hpk
            have ek2 : (upd G1 pk (.tup (arT (mulA sh a1 a2)))) pk = some (.tup (arT (mulA sh a1 a2))) := upd_same
            rw [show ([V.int ((a1.1 : Nat) : Int), V.int ((a1.2.1 : Nat) : Int), V.int ((Gp.mulT sk.1 a1.2.2.1 a2.2.2.1 : Nat) : Int), V.int ((a2.2.2.2 : Nat) : Int)] : List V) = arT (mulA sh a1 a2) by rw [hmul]; rfl]
            generalize upd G1 pk (.tup (arT (mulA sh a1 a2))) = G2 at sk2 ek2 ⊢
            refine ⟨_, DGet.t (k := keyA (mulA sh a1 a2)) (sk2 _ _ hd2') ek2, ?_⟩
            refine tNil_mk ?_
            rw [show (valV k2 (keyA (mulA sh a1 a2))).getD (V.str (Str.ofString "")) = .str (S (sgn sg ar (mulA sh a1 a2))) by
              rw [hB]
              by_cases e : ar.idxOf (mulA sh a1 a2) < ar.length
              · rw [if_pos e]; rfl
              · rw [if_neg e]
                unfold sgn
                rw [List.getElem?_eq_none (by omega)]
                rfl]
            refine ⟨by walk_at "sz", fun pt hpt => ?_⟩
            rw [show S [c] ++ S [c2] = S [c, c2] from (SX.S_cat [c] [c2]).symm]
            have s3 := same_new (o := .tup [.str (S [c, c2]), .str (S (sgn sg ar (mulA sh a1 a2)))]) hpt
            have e3 : (upd G2 pt (.tup [.str (S [c, c2]), .str (S (sgn sg ar (mulA sh a1 a2)))])) pt = some (.tup [.str (S [c, c2]), .str (S (sgn sg ar (mulA sh a1 a2)))]) := upd_same
            generalize upd G2 pt (.tup [.str (S [c, c2]), .str (S (sgn sg ar (mulA sh a1 a2)))]) = G3 at s3 e3 ⊢
            have s93 := sg1.trans (sk2.trans s3)
            have hrr3 := s93 _ _ hrr
            refine tNil_mk ?_
            refine ⟨rr, _, _, rfl, rfl, hrr3, Nat.lt_of_le_of_lt (m := 1000) (by omega) (by decide), ?_⟩
            have oth : ∀ (b : Addr) (o : HO), b ≠ rr → H9 b = some o → (upd G3 rr (.lst (zs ++ [.ref pt]))) b = some o := fun b o hn e => by rw [upd_ne hn]; exact s93 _ _ e
            have tpn : ∀ (b : Addr) (xs : List V), H9 b = some (.tup xs) → (upd G3 rr (.lst (zs ++ [.ref pt]))) b = some (.tup xs) := fun b xs e => oth b _ (ne_of e hrr (by intro w; cases w)) e
            refine ⟨_, _, _, _, zs ++ [.ref pt], rfl, ?_, but_mut (b9.trans (But.same s93)) hrr0, it9.mono fun x y ⟨q', e, z⟩ => ⟨q', e, tpn _ _ z⟩, oth _ _ n1r hd1, oth _ _ n2r hd2, fun t c a' h1 h2 h3 => let ⟨q', e, z⟩ := hA t c a' h1 h2 h3; ⟨q', e, tpn _ _ z⟩, upd_same, ?_⟩
            · obtain ⟨d, e, c', z⟩ := hS9
              exact ⟨d, e, c', oth _ _ nra.symm z⟩
            · rw [List.length_append, List.length_singleton, gJ_succ, show gRule sh sg ar pre.length pre2.length = some ([c, c2], sgn sg ar (mulA sh a1 a2)) by unfold gRule; rw [ha1, ha2, hsc, hsc2]; simp only [hc, if_pos], ← List.append_assoc]
              refine itR.snoc (fun x y ⟨q', e, z⟩ => ⟨q', e, tpn _ _ z⟩) ⟨pt, rfl, ?_⟩
              show (upd G3 rr (.lst (zs ++ [.ref pt]))) pt = _
              rw [upd_ne (a := rr) (fun e => by rw [e] at hpt; rw [(sg1.trans sk2) _ _ hrr] at hpt; cases hpt)]
              exact e3
          · walk_at "nx"
            refine ⟨_, _, _, _, zs, rfl, hS9, b9, it9, hd1, hd2, hA, hrr, ?_⟩
            rw [List.length_append, List.length_singleton, gJ_succ, show gRule sh sg ar pre.length pre2.length = none by unfold gRule; rw [ha1, ha2, hsc, hsc2]; simp only [hc]; rfl]
            simpa using itR
        · clear hS9 b9 it9 hd1 hd2 hA hrr itR
          rintro σ H9 ⟨v10, v11, v12, v13, zs, rfl, hS9, b9, it9, hd1, hd2, hA, hrr, itR⟩
          refine ⟨_, _, _, _, _, zs, rfl, hS9, b9, it9, hd1, hd2, hA, hrr, ?_⟩
          rw [show gI sh sg ar (pre ++ [c]).length = gI sh sg ar pre.length ++ gJ sh sg ar pre.length sg.length by rw [List.length_append]; unfold gI; rw [List.length_singleton, fm_succ]]
          exact itR
      · clear hS8 b8 it8 hd18 hd28 hA8 e8
        rintro σ H9 ⟨v9, v10, v11, v12, v13, zs, rfl, hS9, b9, it9, hd1, hd2, hA, hrr, itR⟩
        have hzl : zs.length ≤ 100000 := by
          rw [itR.1]
          exact Nat.le_trans (gI_len _ _ _ _) (Nat.le_trans (Nat.mul_le_mul (by omega : sg.length ≤ 8) (by omega : sg.length ≤ 8)) (by decide))
        walk_at "rd"
        refine ⟨a, rr, zs, rfl, hS9, SqL.of hrr, hzl, fun pf fs H10 hpm hpf hS10 b10 hpf0 => ?_⟩
        refine tNil_mk ?_
        have hfr : H10 pf = some (.lst fs) := hpf
        refine ⟨pf, fs, rfl, .inl ⟨SqL.of hpf, fun pl2 hpl2 => ?_⟩⟩
        have s11 := same_new (o := .tup fs) hpl2
        have e11 : (upd H10 pl2 (.tup fs)) pl2 = some (.tup fs) := upd_same
        generalize upd H10 pl2 (.tup fs) = H11 at s11 e11 ⊢
        refine ⟨_, rfl, ?_⟩
        refine tNil_mk ?_
        refine ⟨by walk_at "sz", fun pz hpz => ?_⟩
        have s12 := same_new (o := .tup [.str (S sg), .ref pl2, .ref d1]) hpz
        have e12 : (upd H11 pz (.tup [.str (S sg), .ref pl2, .ref d1])) pz = some (.tup [.str (S sg), .ref pl2, .ref d1]) := upd_same
        generalize upd H11 pz (.tup [.str (S sg), .ref pl2, .ref d1]) = H12 at s12 e12 ⊢
        have sE := s11.trans s12
        have itR10 : Items RuV H10 zs (gI sh sg ar sg.length) := itR.mono fun x y ⟨q', e, z⟩ => by
          obtain ⟨d, e', c', z'⟩ := hS9
          exact ⟨q', e, b10 _ _ (ne_of z z' (by intro w; cases w)) z⟩
        obtain ⟨R, hR, hpr⟩ := paired_perm hpm (paired_at (R := RuV H10) itR10.1 itR10.2)
        have itF : Items RuV H10 fs R := paired_get hpr
        refine k pz d1 pl2 sg ar R k1 fs H12 harp hsp hR e12 (s12 _ _ e11) (itF.mono fun x y ⟨q', e, z⟩ => ⟨q', e, sE _ _ z⟩) (sE _ _ (b10 _ _ nd1a hd1)) (fun t c a' h1 h2 h3 => ?_) ?_ (b9.trans (b10.trans (But.same sE)))
        · obtain ⟨q', e, z⟩ := hA t c a' h1 h2 h3
          obtain ⟨d, e', c', z'⟩ := hS9
          exact ⟨q', e, sE _ _ (b10 _ _ (ne_of z z' (by intro w; cases w)) z)⟩
        · obtain ⟨d, e, c', z⟩ := hS10
          exact ⟨d, e, c', sE _ _ z⟩
end
end Sh
/-! texts, rules, piles, ends: plain Lean -/
namespace Bk
abbrev T := List Nat
abbrev Rule := T × T

def fits (p : T) (r : Rule) : Bool := r.1.isSuffixOf p
def useR (p : T) (r : Rule) : T := p.take (p.length - r.1.length) ++ r.2
def used (R : List Rule) (p : T) : Option T := (R.find? (fits p)).map (useR p)
def drain (R : List Rule) : Nat → T → T
  | 0, p => p
  | n + 1, p => match used R p with
    | none => p
    | some q => drain R n q
def pushS (R : List Rule) (p : T) (c : Nat) : T := drain R (p.length + 1) (p ++ [c])
def left (R : List Rule) (t : T) : T := t.foldl (pushS R) []

/-- every right side is shorter than its left side and has at most one sign -/
def Wf (R : List Rule) : Prop := ∀ r ∈ R, r.2.length < r.1.length ∧ r.2.length ≤ 1

inductive Step (R : List Rule) : T → T → Prop where
  | mk (x y : T) (r : Rule) (h : r ∈ R) : Step R (x ++ r.1 ++ y) (x ++ r.2 ++ y)
inductive Reach (R : List Rule) : T → T → Prop where
  | refl (t : T) : Reach R t t
  | step {a b c : T} : Step R a b → Reach R b c → Reach R a c
def IsEnd (R : List Rule) (t : T) : Prop := ∀ u, ¬ Step R t u

theorem Reach.trans {R : List Rule} {a b c : T} (h : Reach R a b) (k : Reach R b c) : Reach R a c := by
  induction h with
  | refl => exact k
  | step s _ ih => exact .step s (ih k)
theorem Step.ctx {R : List Rule} {a b : T} (x y : T) (h : Step R a b) : Step R (x ++ a ++ y) (x ++ b ++ y) := by
  cases h with
  | mk p q r hr =>
    have := Step.mk (R := R) (x ++ p) (q ++ y) r hr
    simpa [List.append_assoc] using this
theorem Reach.ctx {R : List Rule} {a b : T} (x y : T) (h : Reach R a b) : Reach R (x ++ a ++ y) (x ++ b ++ y) := by
  induction h with
  | refl => exact .refl _
  | step s _ ih => exact .step (s.ctx x y) ih
theorem Step.len {R : List Rule} (w : Wf R) {a b : T} (h : Step R a b) : b.length < a.length := by
  cases h with
  | mk p q r hr => have := (w r hr).1; simp; omega
theorem Reach.len {R : List Rule} (w : Wf R) {a b : T} (h : Reach R a b) : b.length ≤ a.length := by
  induction h with
  | refl => exact Nat.le_refl _
  | step s _ ih => have := s.len w; omega

theorem fits_iff {p : T} {r : Rule} : fits p r = true ↔ ∃ x, p = x ++ r.1 := by
  unfold fits
  rw [List.isSuffixOf_iff_suffix]
  constructor
  · rintro ⟨x, h⟩; exact ⟨x, h.symm⟩
  · rintro ⟨x, h⟩; exact ⟨x, h.symm⟩
theorem useR_app {x : T} {r : Rule} : useR (x ++ r.1) r = x ++ r.2 := by
  unfold useR
  simp
theorem used_some {R : List Rule} {p q : T} (h : used R p = some q) : ∃ x r, r ∈ R ∧ p = x ++ r.1 ∧ q = x ++ r.2 := by
  unfold used at h
  cases e : R.find? (fits p) with
  | none => rw [e] at h; cases h
  | some r =>
    rw [e] at h
    have hr := List.mem_of_find?_eq_some e
    have hf := List.find?_some e
    obtain ⟨x, hx⟩ := fits_iff.mp hf
    subst hx
    simp only [Option.map_some, Option.some.injEq] at h
    rw [useR_app] at h
    exact ⟨x, r, hr, rfl, h.symm⟩
theorem used_none {R : List Rule} {p : T} (h : used R p = none) : ∀ r ∈ R, ∀ x, p ≠ x ++ r.1 := by
  intro r hr x e
  unfold used at h
  rw [Option.map_eq_none_iff, List.find?_eq_none] at h
  exact h r hr (fits_iff.mpr ⟨x, e⟩)
theorem used_step {R : List Rule} {p q : T} (h : used R p = some q) : Step R p q := by
  obtain ⟨x, r, hr, rfl, rfl⟩ := used_some h
  have := Step.mk (R := R) x [] r hr
  simpa using this
theorem drain_reach {R : List Rule} : ∀ (n : Nat) (p : T), Reach R p (drain R n p)
  | 0, p => .refl _
  | n + 1, p => by
    unfold drain
    split
    · exact .refl _
    · next q h => exact .step (used_step h) (drain_reach n q)
theorem drain_none {R : List Rule} (w : Wf R) : ∀ (n : Nat) (p : T), p.length ≤ n → used R (drain R n p) = none
  | 0, p, h => by
    have : p = [] := by cases p with | nil => rfl | cons => simp at h
    subst this
    unfold drain
    cases e : used R [] with
    | none => rfl
    | some q => have := (used_step e).len w; simp at this
  | n + 1, p, h => by
    unfold drain
    split
    · next e => exact e
    · next q e =>
      have := (used_step e).len w
      exact drain_none w n q (by omega)
/-- all but the last sign is an end -/
def Near (R : List Rule) (p : T) : Prop := ∃ x y, p = x ++ y ∧ y.length ≤ 1 ∧ IsEnd R x
theorem isEnd_iff {R : List Rule} {t : T} : IsEnd R t ↔ ∀ r ∈ R, ∀ x y, t ≠ x ++ r.1 ++ y := by
  constructor
  · intro h r hr x y e
    exact h (x ++ r.2 ++ y) (e ▸ Step.mk x y r hr)
  · intro h u s
    cases s with
    | mk x y r hr => exact h r hr x y rfl
theorem IsEnd.pre {R : List Rule} {x y : T} (h : IsEnd R (x ++ y)) : IsEnd R x := by
  rw [isEnd_iff] at h ⊢
  intro r hr a b e
  refine h r hr a (b ++ y) ?_
  rw [e]; simp [List.append_assoc]
theorem IsEnd.infix {R : List Rule} {x y z : T} (h : IsEnd R (x ++ y ++ z)) : IsEnd R y := by
  rw [isEnd_iff] at h ⊢
  intro r hr a b e
  refine h r hr (x ++ a) (b ++ z) ?_
  rw [e]; simp [List.append_assoc]
theorem near_end {R : List Rule} (w : Wf R) {p : T} (h : Near R p) (hu : used R p = none) : IsEnd R p := by
  obtain ⟨x, y, rfl, hy, hx⟩ := h
  rw [isEnd_iff] at hx ⊢
  intro r hr a b e
  rcases List.append_eq_append_iff.mp e with ⟨c, e1, e2⟩ | ⟨c, e1, e2⟩
  · -- a ++ r.1 = x ++ c, y = c ++ b
    cases b with
    | nil => exact used_none hu r hr a (by rw [e]; simp)
    | cons b0 b' =>
      have : c = [] := by
        cases c with
        | nil => rfl
        | cons c0 c' =>
          have q := congrArg List.length e2
          simp at q
          omega
      subst this
      exact hx r hr a [] (by simpa using e1.symm)
  · exact hx r hr a c e1
theorem near_used {R : List Rule} (w : Wf R) {p q : T} (h : Near R p) (hu : used R p = some q) : Near R q := by
  obtain ⟨x, y, rfl, hy, hx⟩ := h
  obtain ⟨a, r, hr, e, rfl⟩ := used_some hu
  refine ⟨a, r.2, rfl, (w r hr).2, ?_⟩
  have hl := (w r hr).1
  rcases List.append_eq_append_iff.mp e with ⟨c, e1, e2⟩ | ⟨c, e1, e2⟩
  · -- a = x ++ c, y = c ++ r.1
    have : c = [] := by
      cases c with
      | nil => rfl
      | cons c0 c' =>
        have q := congrArg List.length e2
        simp at q
        omega
    subst this
    simp at e1
    rw [e1]; exact hx
  · rw [e1] at hx; exact hx.pre
theorem near_drain {R : List Rule} (w : Wf R) : ∀ (n : Nat) (p : T), Near R p → p.length ≤ n → IsEnd R (drain R n p)
  | 0, p, h, hn => by
    have hu := drain_none w 0 p hn
    exact near_end w h hu
  | n + 1, p, h, hn => by
    unfold drain
    split
    · next e => exact near_end w h e
    · next q e =>
      have := (used_step e).len w
      exact near_drain w n q (near_used w h e) (by omega)
theorem push_end {R : List Rule} (w : Wf R) {p : T} {c : Nat} (h : IsEnd R p) : IsEnd R (pushS R p c) :=
  near_drain w _ _ ⟨p, [c], rfl, Nat.le_refl _, h⟩ (by simp)
theorem foldl_end {R : List Rule} (w : Wf R) : ∀ (t p : T), IsEnd R p → IsEnd R (t.foldl (pushS R) p)
  | [], _, h => h
  | c :: t, p, h => foldl_end w t _ (push_end w h)
theorem end_nil {R : List Rule} (w : Wf R) : IsEnd R [] := by
  intro u s
  have := s.len w
  simp at this
theorem left_end {R : List Rule} (w : Wf R) (t : T) : IsEnd R (left R t) := foldl_end w t [] (end_nil w)
theorem foldl_reach {R : List Rule} : ∀ (t p : T), Reach R (p ++ t) (t.foldl (pushS R) p)
  | [], p => by simpa using Reach.refl (R := R) p
  | c :: t, p => by
    have h1 : Reach R (p ++ [c]) (pushS R p c) := drain_reach _ _
    have h2 := h1.ctx [] t
    have h3 := foldl_reach (R := R) t (pushS R p c)
    simp only [List.nil_append, List.append_assoc, List.singleton_append] at h2
    exact h2.trans h3
theorem left_reach {R : List Rule} (t : T) : Reach R t (left R t) := by
  exact foldl_reach (R := R) t []
theorem reach_end {R : List Rule} {a b : T} (h : IsEnd R a) (k : Reach R a b) : b = a := by
  cases k with
  | refl => rfl
  | step s _ => exact absurd s (h _)
theorem left_of_end {R : List Rule} {t : T} (h : IsEnd R t) : left R t = t := reach_end h (left_reach t)

/-! ### overlaps -/
def Join (R : List Rule) (a b : T) : Prop := ∃ c, Reach R a c ∧ Reach R b c
theorem Join.symm {R : List Rule} {a b : T} (h : Join R a b) : Join R b a := by
  obtain ⟨c, h1, h2⟩ := h; exact ⟨c, h2, h1⟩
theorem Join.ctx {R : List Rule} {a b : T} (x y : T) (h : Join R a b) : Join R (x ++ a ++ y) (x ++ b ++ y) := by
  obtain ⟨c, h1, h2⟩ := h; exact ⟨_, h1.ctx x y, h2.ctx x y⟩

/-- the overlap of a with b at a place below the length of a: the text, if they agree -/
def over (a b : T) (k : Nat) : Option T :=
  if (a.drop k).take (min (a.length - k) b.length) = b.take (min (a.length - k) b.length) then some (a ++ b.drop (min (a.length - k) b.length)) else none
/-- both results -/
def res1 (r : Rule) (t : T) : T := r.2 ++ t.drop r.1.length
def res2 (r : Rule) (t : T) (k : Nat) : T := t.take k ++ r.2 ++ t.drop (k + r.1.length)
/-- the overlaps of all pairs of rules, each with equal ends -/
def Meets (R : List Rule) : Prop := ∀ r ∈ R, ∀ q ∈ R, ∀ k, k < r.1.length → ∀ t, over r.1 q.1 k = some t → left R (res1 r t) = left R (res2 q t k)

theorem over_app {p b y a z : T} (h : p ++ b ++ y = a ++ z) (hk : p.length < a.length) :
    ∃ t y', over a b p.length = some t ∧ p ++ b ++ y = t ++ y' ∧ t.drop a.length ++ y' = z ∧ t.drop (p.length + b.length) ++ y' = y ∧ t.take p.length = p := by
  have hlen : (p ++ b ++ y).length = (a ++ z).length := by rw [h]
  simp at hlen
  rw [List.append_assoc] at h
  rcases List.append_eq_append_iff.mp h with ⟨c, e1, e2⟩ | ⟨c, e1, e2⟩
  · -- a = p ++ c, b ++ y = c ++ z
    subst e1
    rcases List.append_eq_append_iff.mp e2 with ⟨d, e3, e4⟩ | ⟨d, e3, e4⟩
    · -- c = b ++ d, y = d ++ z : b within a
      subst e3; subst e4
      refine ⟨p ++ (b ++ d), z, ?_, ?_, ?_, ?_, ?_⟩
      · unfold over
        have : min ((p ++ (b ++ d)).length - p.length) b.length = b.length := by simp
        rw [this]
        simp
      · simp [List.append_assoc]
      · simp
      · rw [← List.append_assoc p b d, ← List.length_append, List.drop_left]
      · simp
    · -- b = c ++ d, z = d ++ y
      subst e3; subst e4
      refine ⟨p ++ c ++ d, y, ?_, ?_, ?_, ?_, ?_⟩
      · unfold over
        have : min ((p ++ c).length - p.length) (c ++ d).length = c.length := by simp
        rw [this]
        simp
      · simp [List.append_assoc]
      · rw [List.drop_left]
      · simp [← Nat.add_assoc]
      · simp [List.append_assoc]
  · -- p = a ++ c
    subst e1
    simp at hk
    omega
theorem local_le {R : List Rule} (M : Meets R) {x1 y1 x2 y2 : T} {r q : Rule} (hr : r ∈ R) (hq : q ∈ R) (e : x1 ++ r.1 ++ y1 = x2 ++ q.1 ++ y2) (hl : x1.length ≤ x2.length) :
    Join R (x1 ++ r.2 ++ y1) (x2 ++ q.2 ++ y2) := by
  have e' : x1 ++ (r.1 ++ y1) = x2 ++ (q.1 ++ y2) := by simpa [List.append_assoc] using e
  obtain ⟨p, hp⟩ : ∃ p, x2 = x1 ++ p := by
    rcases List.append_eq_append_iff.mp e' with ⟨c, e1, _⟩ | ⟨c, e1, _⟩
    · exact ⟨c, e1⟩
    · have : c = [] := by
        have := congrArg List.length e1
        simp at this
        cases c with
        | nil => rfl
        | cons => simp at this; omega
      subst this
      exact ⟨[], by simpa using e1.symm⟩
  subst hp
  have e2 : r.1 ++ y1 = p ++ (q.1 ++ y2) := by
    rw [List.append_assoc] at e'
    exact List.append_cancel_left e'
  by_cases hk : p.length < r.1.length
  · obtain ⟨t, y', ho, _, hz, hy, htk⟩ := over_app (p := p) (b := q.1) (y := y2) (a := r.1) (z := y1) (by rw [e2, List.append_assoc]) hk
    have m := M r hr q hq p.length hk t ho
    have j : Join R (res1 r t) (res2 q t p.length) := ⟨_, left_reach _, m ▸ left_reach _⟩
    have j2 := j.ctx x1 y'
    have a1 : x1 ++ res1 r t ++ y' = x1 ++ r.2 ++ y1 := by
      unfold res1; rw [← hz]; simp [List.append_assoc]
    have a2 : x1 ++ res2 q t p.length ++ y' = x1 ++ p ++ q.2 ++ y2 := by
      unfold res2; rw [← hy, htk]; simp [List.append_assoc]
    rw [a1, a2] at j2
    exact j2
  · -- apart
    obtain ⟨m, hm⟩ : ∃ m, p = r.1 ++ m := by
      rcases List.append_eq_append_iff.mp e2 with ⟨c, e1, _⟩ | ⟨c, e1, _⟩
      · exact ⟨c, e1⟩
      · have : c = [] := by
          have := congrArg List.length e1
          simp at this
          cases c with
          | nil => rfl
          | cons => simp at this; omega
        subst this
        exact ⟨[], by simpa using e1.symm⟩
    subst hm
    have hy1 : y1 = m ++ (q.1 ++ y2) := by
      rw [List.append_assoc] at e2
      exact List.append_cancel_left e2
    subst hy1
    refine ⟨x1 ++ r.2 ++ m ++ q.2 ++ y2, ?_, ?_⟩
    · have := Step.mk (R := R) (x1 ++ r.2 ++ m) y2 q hq
      refine .step ?_ (.refl _)
      simpa [List.append_assoc] using this
    · have := Step.mk (R := R) x1 (m ++ q.2 ++ y2) r hr
      refine .step ?_ (.refl _)
      simpa [List.append_assoc] using this
theorem local_conf {R : List Rule} (M : Meets R) {s a b : T} (h : Step R s a) (k : Step R s b) : Join R a b := by
  generalize hs : s = s' at k
  cases h with
  | mk x1 y1 r hr =>
    cases k with
    | mk x2 y2 q hq =>
      by_cases hl : x1.length ≤ x2.length
      · exact local_le M hr hq hs hl
      · exact (local_le M hq hr hs.symm (by omega)).symm
/-- in a book whose overlaps meet each text has one end -/
theorem one_end {R : List Rule} (w : Wf R) (M : Meets R) : ∀ (n : Nat) (s : T), s.length ≤ n → ∀ a b, Reach R s a → Reach R s b → IsEnd R a → IsEnd R b → a = b
  | n, s, hn, a, b, ha, hb, ea, eb => by
    cases ha with
    | refl => exact (reach_end ea hb).symm
    | step s1 r1 =>
      cases hb with
      | refl => exact absurd s1 (eb _)
      | step s2 r2 =>
        rename_i u v
        cases n with
        | zero => have := s1.len w; omega
        | succ n =>
          have l1 := s1.len w
          have l2 := s2.len w
          obtain ⟨c, c1, c2⟩ := local_conf M s1 s2
          have z1 := one_end w M n u (by omega) a (left R c) r1 (c1.trans (left_reach c)) ea (left_end w c)
          have z2 := one_end w M n v (by omega) b (left R c) r2 (c2.trans (left_reach c)) eb (left_end w c)
          rw [z1, z2]
theorem left_eq {R : List Rule} (w : Wf R) (M : Meets R) {s a : T} (h : Reach R s a) : left R s = left R a :=
  one_end w M s.length s (Nat.le_refl _) _ _ (left_reach s) (h.trans (left_reach a)) (left_end w s) (left_end w a)
/-- pieces may be shrunk apart -/
theorem left_app {R : List Rule} (w : Wf R) (M : Meets R) (x y : T) : left R (x ++ y) = left R (left R x ++ left R y) := by
  refine left_eq w M ?_
  have h1 := (left_reach (R := R) x).ctx [] y
  have h2 := (left_reach (R := R) y).ctx (left R x) []
  simp only [List.nil_append, List.append_nil] at h1 h2
  exact h1.trans h2
theorem left_congr {R : List Rule} (w : Wf R) (M : Meets R) {x x' y y' : T} (h : left R x = left R x') (k : left R y = left R y') : left R (x ++ y) = left R (x' ++ y') := by
  rw [left_app w M x y, left_app w M x' y', h, k]

/-! ### exchanging signs -/
def Swap (R : List Rule) (x y : T) : Prop := left R (x ++ y) = left R (y ++ x)
theorem Swap.app {R : List Rule} (w : Wf R) (M : Meets R) {x y z : T} (h : Swap R x z) (k : Swap R y z) : Swap R (x ++ y) z := by
  unfold Swap at *
  have e1 : left R (x ++ y ++ z) = left R (x ++ z ++ y) := by
    rw [List.append_assoc, List.append_assoc]
    exact left_congr w M rfl k
  have e2 : left R (x ++ z ++ y) = left R (z ++ x ++ y) := left_congr w M h rfl
  rw [e1, e2, List.append_assoc]
theorem Swap.symm {R : List Rule} {x y : T} (h : Swap R x y) : Swap R y x := Eq.symm h
theorem swap_all {R : List Rule} (w : Wf R) (M : Meets R) {s : List Nat} (h : ∀ a ∈ s, ∀ b ∈ s, Swap R [a] [b]) :
    ∀ x y : T, (∀ c ∈ x, c ∈ s) → (∀ c ∈ y, c ∈ s) → Swap R x y := by
  have one : ∀ (a : Nat), a ∈ s → ∀ y : T, (∀ c ∈ y, c ∈ s) → Swap R y [a] := by
    intro a ha y
    induction y with
    | nil => intro _; unfold Swap; simp
    | cons b y ih =>
      intro hy
      exact Swap.app (x := [b]) (y := y) w M (h b (hy b List.mem_cons_self) a ha) (ih fun c hc => hy c (List.mem_cons_of_mem _ hc))
  intro x
  induction x with
  | nil => intro y _ _; unfold Swap; simp
  | cons a x ih =>
    intro y hx hy
    exact Swap.app (x := [a]) (y := x) w M (one a (hx a List.mem_cons_self) y hy).symm (ih y (fun c hc => hx c (List.mem_cons_of_mem _ hc)) hy)
end Bk
/-! the pile of the program: rules by their left sides; plain Lean -/
namespace Bk
def firstAt : List Rule → Nat → T → Option (Nat × T)
  | [], _, _ => none
  | r :: R, k, l => if r.1 = l then some (k, r.2) else firstAt R (k + 1) l
theorem firstAt_app (R Q : List Rule) (k : Nat) (l : T) : firstAt (R ++ Q) k l = match firstAt R k l with
    | some z => some z
    | none => firstAt Q (k + R.length) l := by
  induction R generalizing k with
  | nil => simp [firstAt]
  | cons r R ih =>
    simp only [List.cons_append, firstAt]
    by_cases h : r.1 = l
    · simp [h]
    · simp only [h, if_false]
      rw [ih (k + 1)]
      have : k + 1 + R.length = k + (r :: R).length := by simp; omega
      rw [this]
theorem firstAt_snoc (R : List Rule) (r : Rule) (l : T) : firstAt (R ++ [r]) 0 l = match firstAt R 0 l with
    | some z => some z
    | none => if r.1 = l then some (R.length, r.2) else none := by
  rw [firstAt_app]
  simp [firstAt]
theorem firstAt_snoc_some {R : List Rule} (r : Rule) {l : T} {z : Nat × T} (h : firstAt R 0 l = some z) : firstAt (R ++ [r]) 0 l = some z := by
  rw [firstAt_snoc, h]
theorem firstAt_snoc_none {R : List Rule} (r : Rule) {l : T} (h : firstAt R 0 l = none) : firstAt (R ++ [r]) 0 l = if r.1 = l then some (R.length, r.2) else none := by
  rw [firstAt_snoc, h]
theorem firstAt_none {R : List Rule} {k : Nat} {l : T} : firstAt R k l = none ↔ ∀ r ∈ R, r.1 ≠ l := by
  induction R generalizing k with
  | nil => simp [firstAt]
  | cons r R ih =>
    simp only [firstAt, List.mem_cons, forall_eq_or_imp]
    by_cases h : r.1 = l
    · simp [h]
    · simp [h, ih]
theorem firstAt_some {R : List Rule} {k j : Nat} {l s : T} (h : firstAt R k l = some (j, s)) : k ≤ j ∧ R[j - k]? = some (l, s) ∧ ∀ i, i < j - k → ∀ r, R[i]? = some r → r.1 ≠ l := by
  induction R generalizing k with
  | nil => simp [firstAt] at h
  | cons r R ih =>
    simp only [firstAt] at h
    by_cases hr : r.1 = l
    · rw [if_pos hr] at h
      simp only [Option.some.injEq, Prod.mk.injEq] at h
      obtain ⟨rfl, rfl⟩ := h
      refine ⟨Nat.le_refl _, by simp [← hr], fun i hi => by omega⟩
    · rw [if_neg hr] at h
      obtain ⟨h1, h2, h3⟩ := ih h
      have e : j - k = (j - (k + 1)) + 1 := by omega
      refine ⟨by omega, by rw [e]; simpa using h2, fun i hi q hq => ?_⟩
      cases i with
      | zero => simp at hq; rw [← hq]; exact hr
      | succ i => exact h3 i (by omega) q (by simpa using hq)
/-- the length of the longest left side -/
def lg (R : List Rule) : Nat := (R.map (·.1.length)).foldl max 0
theorem foldl_max_le {l : List Nat} {a : Nat} : a ≤ l.foldl max a ∧ ∀ x ∈ l, x ≤ l.foldl max a := by
  induction l generalizing a with
  | nil => simp
  | cons b l ih =>
    obtain ⟨h1, h2⟩ := ih (a := max a b)
    simp only [List.foldl_cons, List.mem_cons, forall_eq_or_imp]
    exact ⟨Nat.le_trans (Nat.le_max_left _ _) h1, Nat.le_trans (Nat.le_max_right _ _) h1, h2⟩
theorem foldl_max_mem {l : List Nat} {a : Nat} : l.foldl max a = a ∨ l.foldl max a ∈ l := by
  induction l generalizing a with
  | nil => simp
  | cons b l ih =>
    simp only [List.foldl_cons, List.mem_cons]
    rcases ih (a := max a b) with h | h
    · rw [h]
      rcases Nat.le_total a b with q | q
      · right; left; exact Nat.max_eq_right q
      · left; exact Nat.max_eq_left q
    · exact .inr (.inr h)
theorem lg_le {R : List Rule} {r : Rule} (h : r ∈ R) : r.1.length ≤ lg R := foldl_max_le.2 _ (List.mem_map_of_mem h)
theorem lg_eq {R : List Rule} {m : Nat} (h1 : m ∈ 0 :: R.map (·.1.length)) (h2 : ∀ y ∈ 0 :: R.map (·.1.length), y ≤ m) : m = lg R := by
  have a : lg R ≤ m := by
    rcases foldl_max_mem (l := R.map (·.1.length)) (a := 0) with h | h
    · unfold lg; rw [h]; exact Nat.zero_le _
    · exact h2 _ (List.mem_cons_of_mem _ h)
  have b : m ≤ lg R := by
    rcases List.mem_cons.mp h1 with h | h
    · rw [h]; exact Nat.zero_le _
    · exact foldl_max_le.2 _ h
  omega
/-- the best rule of left sides up to i signs: its number, its size, its right side -/
def bestUp (R : List Rule) (t : T) : Nat → Option (Nat × Nat × T)
  | 0 => none
  | i + 1 => match firstAt R 0 (t.drop (t.length - (i + 1))) with
    | none => bestUp R t i
    | some (k, r) => match bestUp R t i with
      | none => some (k, i + 1, r)
      | some b => if k < b.1 then some (k, i + 1, r) else some b
/-- rules with at most i signs that stand at the end -/
def Fit (R : List Rule) (t : T) (i k : Nat) (r : Rule) : Prop := R[k]? = some r ∧ 1 ≤ r.1.length ∧ r.1.length ≤ i ∧ ∃ x, t = x ++ r.1
theorem suffix_drop {t x l : T} (h : t = x ++ l) : t.drop (t.length - l.length) = l := by
  subst h; simp
theorem bestUp_spec (R : List Rule) (t : T) : ∀ i, i ≤ t.length → match bestUp R t i with
    | none => ∀ k r, ¬ Fit R t i k r
    | some (k, s, r) => (∃ l, Fit R t i k (l, r) ∧ l.length = s) ∧ ∀ k' r', Fit R t i k' r' → k ≤ k'
  | 0, _ => by
    simp only [bestUp]
    rintro k r ⟨_, h1, h2, _⟩
    omega
  | i + 1, hi => by
    have ih := bestUp_spec R t i (by omega)
    have wide : ∀ (k : Nat) (r : Rule), Fit R t (i + 1) k r → Fit R t i k r ∨ (r.1.length = i + 1 ∧ R[k]? = some r ∧ r.1 = t.drop (t.length - (i + 1))) := by
      rintro k r ⟨h1, h2, h3, x, hx⟩
      by_cases e : r.1.length = i + 1
      · exact .inr ⟨e, h1, by rw [← e]; exact (suffix_drop hx).symm⟩
      · exact .inl ⟨h1, h2, by omega, x, hx⟩
    have mono : ∀ (k : Nat) (r : Rule), Fit R t i k r → Fit R t (i + 1) k r := fun k r ⟨h1, h2, h3, h4⟩ => ⟨h1, h2, by omega, h4⟩
    simp only [bestUp]
    cases hf : firstAt R 0 (t.drop (t.length - (i + 1))) with
    | none =>
      have hn := firstAt_none.mp hf
      have no : ∀ (k : Nat) (r : Rule), R[k]? = some r → r.1 ≠ t.drop (t.length - (i + 1)) := fun k r h => hn r (List.mem_of_getElem? h)
      cases hb : bestUp R t i with
      | none =>
        rw [hb] at ih
        intro k r h
        rcases wide k r h with q | ⟨_, q1, q2⟩
        · exact ih k r q
        · exact no k r q1 q2
      | some b =>
        obtain ⟨k, s, r⟩ := b
        rw [hb] at ih
        obtain ⟨⟨l, h1, h2⟩, h3⟩ := ih
        refine ⟨⟨l, mono _ _ h1, h2⟩, fun k' r' h => ?_⟩
        rcases wide k' r' h with q | ⟨_, q1, q2⟩
        · exact h3 k' r' q
        · exact absurd q2 (no k' r' q1)
    | some z =>
      obtain ⟨k, r⟩ := z
      obtain ⟨_, f2, f3⟩ := firstAt_some hf
      rw [Nat.sub_zero] at f2 f3
      have hl : (t.drop (t.length - (i + 1))).length = i + 1 := by rw [List.length_drop]; omega
      have new : Fit R t (i + 1) k (t.drop (t.length - (i + 1)), r) := ⟨f2, by simp only; omega, by simp only; omega, t.take (t.length - (i + 1)), by simp⟩
      have least : ∀ (k' : Nat) (r' : Rule), R[k']? = some r' → r'.1 = t.drop (t.length - (i + 1)) → k ≤ k' := fun k' r' h e => by
        rcases Nat.lt_or_ge k' k with q | q
        · exact absurd e (f3 k' q r' h)
        · exact q
      cases hb : bestUp R t i with
      | none =>
        rw [hb] at ih
        refine ⟨⟨_, new, hl⟩, fun k' r' h => ?_⟩
        rcases wide k' r' h with q | ⟨_, q1, q2⟩
        · exact absurd q (ih k' r')
        · exact least k' r' q1 q2
      | some b =>
        obtain ⟨kb, sb, rb⟩ := b
        rw [hb] at ih
        obtain ⟨⟨l, h1, h2⟩, h3⟩ := ih
        simp only
        by_cases hk : k < kb
        · rw [if_pos hk]
          refine ⟨⟨_, new, hl⟩, fun k' r' h => ?_⟩
          rcases wide k' r' h with q | ⟨_, q1, q2⟩
          · have := h3 k' r' q; omega
          · exact least k' r' q1 q2
        · rw [if_neg hk]
          refine ⟨⟨l, mono _ _ h1, h2⟩, fun k' r' h => ?_⟩
          rcases wide k' r' h with q | ⟨_, q1, q2⟩
          · exact h3 k' r' q
          · have := least k' r' q1 q2; omega
theorem find_least {R : List Rule} {p : Rule → Bool} {k : Nat} {r : Rule} (h1 : R[k]? = some r) (h2 : p r = true) (h3 : ∀ k' r', R[k']? = some r' → p r' = true → k ≤ k') : R.find? p = some r := by
  induction R generalizing k with
  | nil => simp at h1
  | cons a R ih =>
    cases k with
    | zero =>
      simp at h1
      subst h1
      simp [h2]
    | succ k =>
      have ha : p a = false := by
        cases e : p a with
        | false => rfl
        | true => have := h3 0 a (by simp) e; omega
      rw [List.find?_cons, ha]
      exact ih (k := k) (by simpa using h1) (fun k' r' q1 q2 => by have := h3 (k' + 1) r' (by simpa using q1) q2; omega)
/-- what the program finds is what the first fitting rule gives -/
theorem used_best {R : List Rule} (w : Wf R) (t : T) : used R t = (bestUp R t (min (lg R) t.length)).map fun b => t.take (t.length - b.2.1) ++ b.2.2 := by
  have sp := bestUp_spec R t (min (lg R) t.length) (by omega)
  have full : ∀ (k : Nat) (r : Rule), R[k]? = some r → fits t r = true → Fit R t (min (lg R) t.length) k r := by
    intro k r h f
    obtain ⟨x, hx⟩ := fits_iff.mp f
    have hm := List.mem_of_getElem? h
    have h1 := (w r hm).1
    have h2 := lg_le hm
    have h3 : r.1.length ≤ t.length := by rw [hx]; simp
    exact ⟨h, by omega, by omega, x, hx⟩
  cases hb : bestUp R t (min (lg R) t.length) with
  | none =>
    rw [hb] at sp
    simp only [Option.map_none]
    unfold used
    rw [Option.map_eq_none_iff, List.find?_eq_none]
    intro r hr f
    obtain ⟨k, hk, rfl⟩ := List.mem_iff_getElem.mp hr
    exact sp k R[k] (full k R[k] (by simp [hk]) f)
  | some b =>
    obtain ⟨k, s, r⟩ := b
    rw [hb] at sp
    obtain ⟨⟨l, ⟨h1, h2, h3, x, hx⟩, hs⟩, h4⟩ := sp
    have hf : R.find? (fits t) = some (l, r) := find_least h1 (fits_iff.mpr ⟨x, hx⟩) (fun k' r' q1 q2 => h4 k' r' (full k' r' q1 q2))
    unfold used
    rw [hf]
    simp only [Option.map_some, useR, hs]
end Bk
set_option Elab.async false
set_option linter.all false
set_option maxRecDepth 100000
set_option maxHeartbeats 4000000
namespace Sh
open PySem PySem.Spec PyProof.Rows L2
open SX (S S_inj S_len S_cat)
open Bk (Rule firstAt lg bestUp used left drain pushS Wf)
local macro_rules | `(tactic| walk_at "nx") => `(tactic| repeat (with_reducible first | refine Sh.gn_mk ?_ | refine Sh.nx_mk ?_ | refine Sh.st_nx ?_ | refine Sh.rt_mk ?_ | refine Sh.ct_mk ?_ | refine Sh.bk_mk ?_))
local macro_rules | `(tactic| walk_at "sq") => `(tactic| first | exact SqL.of upd_same | exact SqT.of upd_same | exact SqL.of (by assumption) | exact SqT.of (by assumption) | assumption | exact Or.inl (SqL.of (by assumption)) | exact Or.inr (SqT.of (by assumption)) | exact Or.inl (by assumption) | exact Or.inr (by assumption))
local macro_rules | `(tactic| walk_at "hp") => `(tactic| first | exact upd_same | assumption)
local macro_rules | `(tactic| walk_at "sz") => `(tactic| first | exact Nat.le_of_ble_eq_true rfl | omega)
local macro_rules | `(tactic| walk_at "sd") => `(tactic| first | omega | exact rfl | assumption | (show (0 : Int) < _; omega) | exact And.intro (by omega) (by omega) | exact Or.inl (And.intro (by omega) (by omega)) | exact Or.inr (And.intro (by omega) (by omega)) | omega | exact Sh.sz_S (by omega) | decide)
local macro_rules | `(tactic| walk_at "rd1") => `(tactic| first
  | (with_reducible first | refine Sh.gn_mk ?_ | refine Sh.nx_mk ?_ | refine Sh.st_nx ?_ | refine Sh.rt_mk ?_ | refine Sh.ct_mk ?_ | refine Sh.bk_mk ?_)
  | refine Exists.intro (α := V) _ (And.intro rfl ?_)
  | refine Exists.intro (α := Bool) _ (And.intro rfl ?_)
  | refine Exists.intro (α := Int) _ (And.intro rfl ?_)
  | refine Exists.intro (α := PySem.Str) _ (And.intro rfl ?_)
  | refine Exists.intro (α := Int) _ (Exists.intro (α := Int) _ (And.intro rfl (And.intro rfl ?_)))
  | refine Exists.intro (α := PySem.Str) _ (Exists.intro (α := PySem.Str) _ (And.intro rfl (And.intro rfl ?_)))
  | refine Exists.intro (α := Int) _ (Exists.intro (α := Int) _ (And.intro rfl ?_))
  | refine Or.inl (Exists.intro (α := Int) _ (And.intro rfl ?_))
  | refine Exists.intro _ (Exists.intro _ (Exists.intro _ (Exists.intro _ (And.intro rfl (And.intro rfl (And.intro (by walk_at "sq") (And.intro rfl ?_)))))))
  | refine Exists.intro _ (Exists.intro _ (Exists.intro _ (Exists.intro _ (And.intro rfl (And.intro rfl (And.intro (by walk_at "hp") (And.intro rfl ?_)))))))
  | refine And.intro (by walk_at "sd") ?_
  )
local macro_rules | `(tactic| walk_at "rd") => `(tactic| repeat walk_at "rd1")
local macro_rules | `(tactic| walk_at "lk") => `(tactic| first | exact rfl | (rw [lookup_putF, if_pos rfl]) | (rw [lookup_putF, if_neg (by decide +kernel)]; walk_at "lk"))

section
variable {P : Program} {w : World} {K : PySem.W.Frag} {mg : Str → Option Value} {base : Heap}
/-! ### kinds of values -/
def tys : List String := ["NoneType", "bool", "int", "str", "list", "tuple", "dict"]
def isaB (n m : String) : Bool := n == m || (n == "bool" && m == "int")
theorem kit_all : ∀ n ∈ tys, ∀ m ∈ ["tuple", "list", "str", "int", "bool"], kitB n m = some (isaB n m) := by decide +kernel
theorem ty_tup {H : Hp} {a : Addr} {xs : List V} (h : SqT K H a xs) : TyX K H (.ref a) (.type "tuple") := by
  rcases h with (h | ⟨o, h⟩) | ⟨o, its, n, hk, hc, _⟩
  · exact .base (.tup h)
  · exact .fTuple h
  · exact .kTuple hk hc
theorem ty_lst {H : Hp} {a : Addr} {xs : List V} (h : SqL K H a xs) : TyX K H (.ref a) (.type "list") := by
  rcases h with (h | ⟨o, h⟩) | ⟨o, its, n, hk, hc, _⟩
  · exact .base (.lst h)
  · exact .base (.frz h)
  · exact .kList hk hc
def spListed (K : PySem.W.Frag) : Sp := fun vs H Q _ => ∃ (v : V) (n : String), vs = [v] ∧ TyX K H v (.type n) ∧ n ∈ tys ∧ Q (.bl (n == "tuple" || n == "list")) H
theorem isaB_tup {n : String} (h : n ∈ tys) : isaB n "tuple" = (n == "tuple") := by
  simp only [tys, List.mem_cons, List.not_mem_nil, or_false] at h
  rcases h with rfl | rfl | rfl | rfl | rfl | rfl | rfl <;> decide
theorem isaB_lst {n : String} (h : n ∈ tys) : isaB n "list" = (n == "list") := by
  simp only [tys, List.mem_cons, List.not_mem_nil, or_false] at h
  rcases h with rfl | rfl | rfl | rfl | rfl | rfl | rfl <;> decide
theorem isaB_str {n : String} (h : n ∈ tys) : isaB n "str" = (n == "str") := by
  simp only [tys, List.mem_cons, List.not_mem_nil, or_false] at h
  rcases h with rfl | rfl | rfl | rfl | rfl | rfl | rfl <;> decide
theorem c_is_listed (T : Txt K mg) : Cal P w K mg base CX0 1 "is_listed" (spListed K) := by
  refine Cal.mk0 T.d_is_listed sc_is_listed (fun vs H Q E h => ?_) (fun f cdv A outer s H vs Q E hr h => ?_)
  · obtain ⟨v, n, rfl, _⟩ := h
    rfl
  · obtain ⟨v, n, rfl, ht, hn, k⟩ := h
    refine ⟨_, (pss_one (ps_ret (pe_or (pe_callB call_isi (by rfl) T.b_isinstance (by decide +kernel) (pa_cons (pv 0) (pa_cons (pe_bltn (v := .ty "tuple") (by rfl) T.b_tuple (by decide +kernel) rfl) pa_nil))) (pe_one (pe_callB call_isi (by rfl) T.b_isinstance (by decide +kernel) (pa_cons (pv 0) (pa_cons (pe_bltn (v := .ty "list") (by rfl) T.b_list (by decide +kernel) rfl) pa_nil))))))), ?_⟩
    walk_at "rd"
    refine ⟨_, _, _, _, _, rfl, .ty _, ht, kit_ty (kit_all _ hn _ (by decide)), _, rfl, ?_⟩
    rw [isaB_tup hn]
    by_cases c : (n == "tuple") = true
    · rw [c] at k ⊢
      exact iteT k
    · rw [Bool.not_eq_true] at c
      rw [c] at k ⊢
      refine iteF ?_
      walk_at "rd"
      refine ⟨_, _, _, _, _, rfl, .ty _, ht, kit_ty (kit_all _ hn _ (by decide)), ?_⟩
      rw [isaB_lst hn]
      exact k
/-! ### signs -/
def letters : List Nat := (Str.ofString "abcdefghijklmnopqrstuvwxyz").cps.toList
def okAt (sg : List Nat) (k : Nat) : Bool := decide (sg.getD k 0 ∈ letters) && (k == 0 || decide ([sg.getD (k - 1) 0] < [sg.getD k 0]))
def isSigns (sg : List Nat) : Bool := decide (1 ≤ sg.length) && decide (sg.length ≤ 8) && (List.range sg.length).all (okAt sg)
theorem menu_signs : ∀ sg ∈ sgMenu, isSigns sg = true := by decide +kernel
theorem menu_len : ∀ sg ∈ sgMenu, 0 < sg.length ∧ sg.length ≤ 3 := by decide +kernel
/-- a value that is no text -/
def NotStr (K : PySem.W.Frag) (H : Hp) (v : V) : Prop := ∃ n, TyX K H v (.type n) ∧ n ∈ tys ∧ n ≠ "str"
/-- is_signs of a text, or of what is none -/
def spIsSigns (K : PySem.W.Frag) : Sp := fun vs H Q _ => (∃ sg : List Nat, vs = [.str (S sg)] ∧ sg.length ≤ 1000000 ∧ Q (.bl (isSigns sg)) H) ∨ ∃ v : V, vs = [v] ∧ NotStr K H v ∧ Q (.bl false) H
theorem getD_some {l : List Nat} {k : Nat} (h : k < l.length) : l[k]? = some (l.getD k 0) := by
  rw [List.getD_eq_getElem?_getD, List.getElem?_eq_getElem h]; rfl
theorem c_is_signs (T : Txt K mg) : Cal P w K mg base CX0 1 "is_signs" (spIsSigns K) := by
  refine Cal.mk0 T.d_is_signs sc_is_signs (fun vs H Q E h => ?_) (fun f cdv A outer s H vs Q E hr h => ?_)
  · rcases h with ⟨sg, rfl, _⟩ | ⟨v, rfl, _⟩ <;> rfl
  · rcases h with ⟨sg, rfl, hl, k⟩ | ⟨v, rfl, ⟨n, ht, hn, hs⟩, k⟩
    rotate_left
    · refine ⟨_, (pss_cons (ps_if (PW.pt (pw_or (pt_not (pt_val (pe_callB call_isi (by rfl) T.b_isinstance (by decide +kernel) (pa_cons (pv 0) (pa_cons (pe_bltn (v := .ty "str") (by rfl) T.b_str (by decide +kernel) rfl) pa_nil))))) (pw_or1 (pt_not (pt_chain op_le op_le pe_int (pe_callB call_len_str (by rfl) T.b_len (by decide +kernel) (pa_cons (pv 0) pa_nil)) pe_int)))))
    (pss_one (ps_ret pe_bl))
    pss_nil)
  (pss_cons (ps_for PassesOwn.never rfl (pi_range1 (by rfl) T.b_range (pa_cons (pe_callB call_len_str (by rfl) T.b_len (by decide +kernel) (pa_cons (pv 0) pa_nil)) pa_nil)) (pg_name (i := 1) sc_is_signs.nd rfl (Or.inl rfl))
    (pss_one (ps_if (PW.pt (pw_or (pt_cmpR op_notIn_sign (pe_ix ix_str (pv 0) (pv 1) (fun _ _ => rfl)) (pe_gK rfl T.g_LETTERS) (by rfl)) (pw_or1 (PW.pt (pw_and (pt_cmpR op_gt (pv 1) pe_int (nomark _)) (pw_and1 (pt_cmpR op_ge_str (pe_ix ix_str (pv 0) (pe_op op_sub (pv 1) pe_int) (fun _ _ => rfl)) (pe_ix ix_str (pv 0) (pv 1) (fun _ _ => rfl)) (nomark _))))))))
      (pss_one (ps_ret pe_bl))
      pss_nil)))
  (pss_one (ps_ret pe_bl)))), ?_⟩
      walk_at "rd"
      refine ⟨_, _, _, _, _, rfl, .ty _, ht, kit_ty (kit_all _ hn _ (by decide)), _, rfl, ?_⟩
      rw [isaB_str hn, show (n == "str") = false from by simp [hs]]
      refine iteT ?_
      walk_at "rd"
      exact k
    refine ⟨_, (pss_cons (ps_if (PW.pt (pw_or (pt_not (pt_val (pe_callB call_isi (by rfl) T.b_isinstance (by decide +kernel) (pa_cons (pv 0) (pa_cons (pe_bltn (v := .ty "str") (by rfl) T.b_str (by decide +kernel) rfl) pa_nil))))) (pw_or1 (pt_not (pt_chain op_le op_le pe_int (pe_callB call_len_str (by rfl) T.b_len (by decide +kernel) (pa_cons (pv 0) pa_nil)) pe_int)))))
    (pss_one (ps_ret pe_bl))
    pss_nil)
  (pss_cons (ps_for PassesOwn.never rfl (pi_range1 (by rfl) T.b_range (pa_cons (pe_callB call_len_str (by rfl) T.b_len (by decide +kernel) (pa_cons (pv 0) pa_nil)) pa_nil)) (pg_name (i := 1) sc_is_signs.nd rfl (Or.inl rfl))
    (pss_one (ps_if (PW.pt (pw_or (pt_cmpR op_notIn_sign (pe_ix ix_str (pv 0) (pv 1) (fun _ _ => rfl)) (pe_gK rfl T.g_LETTERS) (by rfl)) (pw_or1 (PW.pt (pw_and (pt_cmpR op_gt (pv 1) pe_int (nomark _)) (pw_and1 (pt_cmpR op_ge_str (pe_ix ix_str (pv 0) (pe_op op_sub (pv 1) pe_int) (fun _ _ => rfl)) (pe_ix ix_str (pv 0) (pv 1) (fun _ _ => rfl)) (nomark _))))))))
      (pss_one (ps_ret pe_bl))
      pss_nil)))
  (pss_one (ps_ret pe_bl)))), ?_⟩
    walk_at "rd"
    refine ⟨_, _, _, _, _, rfl, .ty _, .base (.str _), kit_ty (r := true) (by decide +kernel), _, rfl, ?_⟩
    refine iteF ?_
    have hSl := S_len sg
    have bad : ∀ b : Bool, isSigns sg = b → Q (.bl b) H := fun b e => e ▸ k
    walk_at "rd"
    refine ite2 (fun c0 => ?_) (fun c0 => ?_)
    · have c0' : (1 : Int) ≤ (S sg).length := of_decide_eq_true c0
      walk_at "rd"
      refine ite2 (fun c1 => ?_) (fun c1 => ?_)
      · walk_at "rd"
        refine bad false ?_
        have c1' : ¬ ((S sg).length : Int) ≤ 8 := by simpa using c1
        have c2 : ¬ sg.length ≤ 8 := by omega
        simp only [isSigns, c2, decide_false, Bool.and_false, Bool.false_and]
      · have c1' : ((S sg).length : Int) ≤ 8 := by simpa using c1
        walk_at "rd"
        refine for_range (lo := 0) (n := (((S sg).length : Int)).toNat) (fun i σ H2 => (∃ v, σ = [some (.str (S sg)), v]) ∧ H2 = H ∧ ∀ j, j < i → okAt sg j = true)
          ⟨⟨_, rfl⟩, rfl, fun j hj => by omega⟩ ?_ ?_
        · rintro i σ H2 hi ⟨⟨v, rfl⟩, rfl, ok⟩
          have hi2 : i < sg.length := by omega
          have e1 : atI sg ((0 : Int) + i) = some (sg.getD i 0) := atI_at (by omega) (by rw [show ((0 : Int) + i).toNat = i by omega]; exact getD_some hi2)
          walk_at "rd"
          refine ⟨_, _, _, rfl, rfl, sz_S hl, e1, ?_⟩
          refine ⟨_, _, rfl, rfl, ?_⟩
          have notOk : okAt sg i = false → isSigns sg = false := fun e => by
            cases hb : isSigns sg with
            | false => rfl
            | true =>
              simp only [isSigns, Bool.and_eq_true, List.all_eq_true] at hb
              rw [hb.2 i (List.mem_range.mpr hi2)] at e
              cases e
          have more : okAt sg i = true → ∀ j, j < i + 1 → okAt sg j = true := fun e j hj => by
            rcases Nat.lt_succ_iff_lt_or_eq.mp hj with q | q
            · exact ok j q
            · rw [q]; exact e
          walk_at "rd"
          refine ite2 (fun d0 => ?_) (fun d0 => ?_)
          · refine iteT ?_
            walk_at "rd"
            refine bad false (notOk ?_)
            have d1 : ¬ sg.getD i 0 ∈ letters := by
              intro hm
              have : decide (sg.getD i 0 ∈ letters) = true := decide_eq_true hm
              rw [show (PySem.Str.cps (Str.ofString "abcdefghijklmnopqrstuvwxyz")).toList = letters from rfl, this] at d0
              cases d0
            simp only [okAt, d1, decide_false, Bool.false_and]
          · have d1 : sg.getD i 0 ∈ letters := by
              by_cases hm : sg.getD i 0 ∈ letters
              · exact hm
              · exact absurd (by rw [show (PySem.Str.cps (Str.ofString "abcdefghijklmnopqrstuvwxyz")).toList = letters from rfl, decide_eq_false hm]; rfl) d0
            walk_at "rd"
            refine ite2 (fun d2 => ?_) (fun d2 => ?_)
            · have d3 : (0 : Int) < 0 + i := of_decide_eq_true d2
              have e2 : atI sg ((0 : Int) + i - 1) = some (sg.getD (i - 1) 0) := atI_at (by omega) (by rw [show ((0 : Int) + i - 1).toNat = i - 1 by omega]; exact getD_some (by omega))
              walk_at "rd"
              refine ⟨_, _, _, rfl, rfl, sz_S hl, e2, ?_⟩
              walk_at "rd"
              refine ⟨_, _, _, rfl, rfl, sz_S hl, e1, ?_⟩
              refine ⟨_, _, rfl, rfl, ?_⟩
              walk_at "rd"
              refine ite2 (fun d4 => ?_) (fun d4 => ?_)
              · walk_at "rd"
                refine bad false (notOk ?_)
                have d5 : decide ([sg.getD (i - 1) 0] < [sg.getD i 0]) = false := by
                  cases hd : decide ([sg.getD (i - 1) 0] < [sg.getD i 0]) with
                  | false => rfl
                  | true =>
                    have d4' : (!decide ([sg.getD (i - 1) 0] < [sg.getD i 0])) = true := d4
                    rw [hd] at d4'; cases d4'
                have d6 : (i == 0) = false := by rw [beq_eq_false_iff_ne]; omega
                simp only [okAt, d5, d6, Bool.or_false, Bool.and_false]
              · walk_at "rd"
                refine ⟨⟨_, rfl⟩, rfl, more ?_⟩
                have d5 : decide ([sg.getD (i - 1) 0] < [sg.getD i 0]) = true := by
                  cases hd : decide ([sg.getD (i - 1) 0] < [sg.getD i 0]) with
                  | true => rfl
                  | false =>
                    refine absurd ?_ d4
                    show (!decide ([sg.getD (i - 1) 0] < [sg.getD i 0])) = true
                    rw [hd]; rfl
                simp only [okAt, d1, d5, decide_true, Bool.or_true, Bool.and_true]
            · have d3 : i = 0 := by
                have : ¬ (0 : Int) < 0 + i := by simpa using d2
                omega
              refine iteF ?_
              walk_at "rd"
              refine ⟨⟨_, rfl⟩, rfl, more ?_⟩
              subst d3
              simp only [okAt, d1, decide_true, Bool.true_and, beq_self_eq_true, Bool.true_or]
        · rintro σ H2 ⟨⟨v, rfl⟩, rfl, ok⟩
          walk_at "rd"
          refine bad true ?_
          have c2 : 1 ≤ sg.length := by omega
          have c3 : sg.length ≤ 8 := by omega
          simp only [isSigns, c2, c3, decide_true, Bool.true_and, List.all_eq_true]
          intro j hj
          exact ok j (by have := List.mem_range.mp hj; omega)
    · have c0' : ¬ (1 : Int) ≤ (S sg).length := by simpa using c0
      walk_at "rd"
      refine iteT ?_
      walk_at "rd"
      refine bad false ?_
      have c2 : ¬ 1 ≤ sg.length := by omega
      simp only [isSigns, c2, decide_false, Bool.false_and]
/-- check_signs: what are signs passes -/
def spCheckSigns : Sp := fun vs H Q _ => ∃ sg : List Nat, vs = [.str (S sg)] ∧ isSigns sg = true ∧ Q .non H
theorem signs_len {sg : List Nat} (h : isSigns sg = true) : 1 ≤ sg.length ∧ sg.length ≤ 8 := by
  simp only [isSigns, Bool.and_eq_true, decide_eq_true_eq] at h
  exact h.1
theorem c_check_signs (T : Txt K mg) : Cal P w K mg base CX0 2 "check_signs" spCheckSigns := by
  have c_is_signs := c_is_signs (P := P) (w := w) (base := base) T
  refine Cal.mk0 T.d_check_signs sc_check_signs (fun vs H Q E h => ?_) (fun f cdv A outer s H vs Q E hr h => ?_)
  · obtain ⟨sg, rfl, _⟩ := h
    rfl
  · obtain ⟨sg, rfl, hs, k⟩ := h
    have hl := signs_len hs
    refine ⟨_, (pss_one (ps_if (pt_not (pt_truth (pe_c c_is_signs hr (by decide) rfl (pa_cons (pv 0) pa_nil)) (by intro _; rfl)))
    (pss_one ps_never)
    pss_nil)), ?_⟩
    walk_at "rd"
    refine .inl ⟨sg, rfl, by omega, ?_⟩
    rw [hs]
    walk_at "rd"
    refine iteF ?_
    walk_at "rd"
    exact k
/-- is_text of a text -/
def isText (sg t : List Nat) (lo hi : Int) : Bool := decide (lo ≤ t.length) && decide ((t.length : Int) ≤ hi) && t.all fun c => decide (c ∈ sg)
def spIsText (K : PySem.W.Frag) : Sp := fun vs H Q _ => (∃ (sg t : List Nat) (lo hi : Int), vs = [.str (S sg), .str (S t), .int lo, .int hi] ∧ t.length ≤ 1000000 ∧ Q (.bl (isText sg t lo hi)) H) ∨ ∃ (u v a b : V), vs = [u, v, a, b] ∧ NotStr K H v ∧ Q (.bl false) H
theorem c_is_text (T : Txt K mg) : Cal P w K mg base CX0 1 "is_text" (spIsText K) := by
  refine Cal.mk0 T.d_is_text sc_is_text (fun vs H Q E h => ?_) (fun f cdv A outer s H vs Q E hr h => ?_)
  · rcases h with ⟨sg, t, lo, hi, rfl, _⟩ | ⟨u, v, a, b, rfl, _⟩ <;> rfl
  · rcases h with ⟨sg, t, lo, hi, rfl, hl, k⟩ | ⟨u, v, a, b, rfl, ⟨n, ht, hn, hs⟩, k⟩
    rotate_left
    · refine ⟨_, (pss_cons (ps_if (PW.pt (pw_or (pt_not (pt_val (pe_callB call_isi (by rfl) T.b_isinstance (by decide +kernel) (pa_cons (pv 1) (pa_cons (pe_bltn (v := .ty "str") (by rfl) T.b_str (by decide +kernel) rfl) pa_nil))))) (pw_or1 (pt_not (pt_chain op_le op_le (pv 2) (pe_callB call_len_str (by rfl) T.b_len (by decide +kernel) (pa_cons (pv 1) pa_nil)) (pv 3))))))
    (pss_one (ps_ret pe_bl))
    pss_nil)
  (pss_cons (ps_for PassesOwn.never rfl (pi_str (pv 1)) (pg_name (i := 4) sc_is_text.nd rfl (Or.inl rfl))
    (pss_one (ps_if (pt_cmpR op_notIn_sign (pv 4) (pv 0) (by rfl))
      (pss_one (ps_ret pe_bl))
      pss_nil)))
  (pss_one (ps_ret pe_bl)))), ?_⟩
      walk_at "rd"
      refine ⟨_, _, _, _, _, rfl, .ty _, ht, kit_ty (kit_all _ hn _ (by decide)), _, rfl, ?_⟩
      rw [isaB_str hn, show (n == "str") = false from by simp [hs]]
      refine iteT ?_
      walk_at "rd"
      exact k
    refine ⟨_, (pss_cons (ps_if (PW.pt (pw_or (pt_not (pt_val (pe_callB call_isi (by rfl) T.b_isinstance (by decide +kernel) (pa_cons (pv 1) (pa_cons (pe_bltn (v := .ty "str") (by rfl) T.b_str (by decide +kernel) rfl) pa_nil))))) (pw_or1 (pt_not (pt_chain op_le op_le (pv 2) (pe_callB call_len_str (by rfl) T.b_len (by decide +kernel) (pa_cons (pv 1) pa_nil)) (pv 3))))))
    (pss_one (ps_ret pe_bl))
    pss_nil)
  (pss_cons (ps_for PassesOwn.never rfl (pi_str (pv 1)) (pg_name (i := 4) sc_is_text.nd rfl (Or.inl rfl))
    (pss_one (ps_if (pt_cmpR op_notIn_sign (pv 4) (pv 0) (by rfl))
      (pss_one (ps_ret pe_bl))
      pss_nil)))
  (pss_one (ps_ret pe_bl)))), ?_⟩
    have hSl := S_len t
    walk_at "rd"
    refine ⟨_, _, _, _, _, rfl, .ty _, .base (.str _), kit_ty (r := true) (by decide +kernel), _, rfl, ?_⟩
    refine iteF ?_
    have bad : ∀ b : Bool, isText sg t lo hi = b → Q (.bl b) H := fun b e => e ▸ k
    walk_at "rd"
    refine ite2 (fun c0 => ?_) (fun c0 => ?_)
    · have c0' : lo ≤ (S t).length := of_decide_eq_true c0
      walk_at "rd"
      refine ite2 (fun c1 => ?_) (fun c1 => ?_)
      · walk_at "rd"
        refine bad false ?_
        have c1' : ¬ ((S t).length : Int) ≤ hi := by simpa using c1
        have c2 : ¬ (t.length : Int) ≤ hi := by omega
        simp only [isText, c2, decide_false, Bool.and_false, Bool.false_and]
      · have c1' : ((S t).length : Int) ≤ hi := by simpa using c1
        walk_at "rd"
        refine for_str (l := t) (fun pre σ H2 => (∃ v, σ = [some (.str (S sg)), some (.str (S t)), some (.int lo), some (.int hi), v]) ∧ H2 = H ∧ ∀ c ∈ pre, c ∈ sg) ⟨⟨_, rfl⟩, rfl, by simp⟩ ?_ ?_
        · rintro pre c post σ H2 e ⟨⟨v, rfl⟩, rfl, ok⟩
          walk_at "rd"
          refine ⟨_, _, rfl, rfl, _, rfl, ?_⟩
          refine ite2 (fun d0 => ?_) (fun d0 => ?_)
          · walk_at "rd"
            refine bad false ?_
            have d1 : c ∉ sg := by
              intro hm
              have d2 : (!decide (c ∈ sg)) = true := d0
              rw [decide_eq_true hm] at d2
              cases d2
            have d2 : (t.all fun c => decide (c ∈ sg)) = false := by
              rw [List.all_eq_false]
              exact ⟨c, by rw [e]; simp, by rw [decide_eq_false d1]; exact Bool.false_ne_true⟩
            simp only [isText, d2, Bool.and_false]
          · walk_at "rd"
            refine ⟨⟨_, rfl⟩, rfl, fun x hx => ?_⟩
            rcases List.mem_append.mp hx with q | q
            · exact ok x q
            · rw [List.mem_singleton] at q
              rw [q]
              by_cases hm : c ∈ sg
              · exact hm
              · refine absurd ?_ d0
                show (!decide (c ∈ sg)) = true
                rw [decide_eq_false hm]; rfl
        · rintro σ H2 ⟨⟨v, rfl⟩, rfl, ok⟩
          walk_at "rd"
          refine bad true ?_
          have c2 : lo ≤ (t.length : Int) := by omega
          have c3 : (t.length : Int) ≤ hi := by omega
          simp only [isText, c2, c3, decide_true, Bool.true_and, List.all_eq_true]
          exact fun c hc => decide_eq_true (ok c hc)
    · have c0' : ¬ lo ≤ (S t).length := by simpa using c0
      walk_at "rd"
      refine iteT ?_
      walk_at "rd"
      refine bad false ?_
      have c2 : ¬ lo ≤ (t.length : Int) := by omega
      simp only [isText, c2, decide_false, Bool.false_and]
def spCheckText : Sp := fun vs H Q _ => ∃ (sg t : List Nat), vs = [.str (S sg), .str (S t)] ∧ t.length ≤ 200 ∧ (∀ c ∈ t, c ∈ sg) ∧ Q .non H
theorem c_check_text (T : Txt K mg) : Cal P w K mg base CX0 2 "check_text" spCheckText := by
  have c_is_text := c_is_text (P := P) (w := w) (base := base) T
  refine Cal.mk0 T.d_check_text sc_check_text (fun vs H Q E h => ?_) (fun f cdv A outer s H vs Q E hr h => ?_)
  · obtain ⟨sg, t, rfl, _⟩ := h
    rfl
  · obtain ⟨sg, t, rfl, hl, hc, k⟩ := h
    refine ⟨_, (pss_one (ps_if (pt_not (pt_truth (pe_c c_is_text hr (by decide) rfl (pa_cons (pv 0) (pa_cons (pv 1) (pa_cons pe_int (pa_cons (pe_gK rfl T.g_LONGEST_TEXT) pa_nil))))) (by intro _; rfl)))
    (pss_one ps_never)
    pss_nil)), ?_⟩
    walk_at "rd"
    refine .inl ⟨sg, t, 0, 200, rfl, by omega, ?_⟩
    have e : isText sg t 0 200 = true := by
      have c2 : (0 : Int) ≤ (t.length : Int) := by omega
      have c3 : (t.length : Int) ≤ 200 := by omega
      simp only [isText, c2, c3, decide_true, Bool.true_and, List.all_eq_true]
      exact fun c h => decide_eq_true (hc c h)
    rw [e]
    walk_at "rd"
    refine iteF ?_
    walk_at "rd"
    exact k
end
end Sh
set_option Elab.async false
set_option linter.all false
set_option maxRecDepth 100000
set_option maxHeartbeats 4000000
namespace Sh
open PySem PySem.Spec PyProof.Rows L2
open SX (S S_inj S_len S_cat)
open Bk (Rule firstAt lg bestUp used left drain pushS Wf)
local macro_rules | `(tactic| walk_at "nx") => `(tactic| repeat (with_reducible first | refine Sh.gn_mk ?_ | refine Sh.nx_mk ?_ | refine Sh.st_nx ?_ | refine Sh.rt_mk ?_ | refine Sh.ct_mk ?_ | refine Sh.bk_mk ?_))
local macro_rules | `(tactic| walk_at "sq") => `(tactic| first | exact SqL.of upd_same | exact SqT.of upd_same | exact SqL.of (by assumption) | exact SqT.of (by assumption) | assumption | exact Or.inl (SqL.of (by assumption)) | exact Or.inr (SqT.of (by assumption)) | exact Or.inl (by assumption) | exact Or.inr (by assumption))
local macro_rules | `(tactic| walk_at "hp") => `(tactic| first | exact upd_same | assumption)
local macro_rules | `(tactic| walk_at "sz") => `(tactic| first | exact Nat.le_of_ble_eq_true rfl | omega)
local macro_rules | `(tactic| walk_at "sd") => `(tactic| first | omega | exact rfl | assumption | (show (0 : Int) < _; omega) | exact And.intro (by omega) (by omega) | exact Or.inl (And.intro (by omega) (by omega)) | exact Or.inr (And.intro (by omega) (by omega)) | omega | exact Sh.sz_S (by omega) | decide)
local macro_rules | `(tactic| walk_at "rd1") => `(tactic| first
  | (with_reducible first | refine Sh.gn_mk ?_ | refine Sh.nx_mk ?_ | refine Sh.st_nx ?_ | refine Sh.rt_mk ?_ | refine Sh.ct_mk ?_ | refine Sh.bk_mk ?_)
  | refine Exists.intro (α := V) _ (And.intro rfl ?_)
  | refine Exists.intro (α := Bool) _ (And.intro rfl ?_)
  | refine Exists.intro (α := Int) _ (And.intro rfl ?_)
  | refine Exists.intro (α := PySem.Str) _ (And.intro rfl ?_)
  | refine Exists.intro (α := Int) _ (Exists.intro (α := Int) _ (And.intro rfl (And.intro rfl ?_)))
  | refine Exists.intro (α := PySem.Str) _ (Exists.intro (α := PySem.Str) _ (And.intro rfl (And.intro rfl ?_)))
  | refine Exists.intro (α := Int) _ (Exists.intro (α := Int) _ (And.intro rfl ?_))
  | refine Or.inl (Exists.intro (α := Int) _ (And.intro rfl ?_))
  | refine Exists.intro _ (Exists.intro _ (Exists.intro _ (Exists.intro _ (And.intro rfl (And.intro rfl (And.intro (by walk_at "sq") (And.intro rfl ?_)))))))
  | refine Exists.intro _ (Exists.intro _ (Exists.intro _ (Exists.intro _ (And.intro rfl (And.intro rfl (And.intro (by walk_at "hp") (And.intro rfl ?_)))))))
  | refine And.intro (by walk_at "sd") ?_
  )
local macro_rules | `(tactic| walk_at "rd") => `(tactic| repeat walk_at "rd1")
local macro_rules | `(tactic| walk_at "lk") => `(tactic| first | exact rfl | (rw [lookup_putF, if_pos rfl]) | (rw [lookup_putF, if_neg (by decide +kernel)]; walk_at "lk"))

section
variable {P : Program} {w : World} {K : PySem.W.Frag} {mg : Str → Option Value} {base : Heap}
/-- a tuple of rules stands at a -/
structure RulesAt (K : PySem.W.Frag) (H : Hp) (a : Addr) (xs : List V) (R : List Rule) : Prop where
  sq : SqT K H a xs
  len : xs.length = R.length
  it : ∀ (i : Nat) x r, xs[i]? = some x → R[i]? = some r → ∃ q, x = .ref q ∧ SqT K H q (rTup r)
theorem RulesAt.keep {H H' : Hp} {a : Addr} {xs : List V} {R : List Rule} (h : RulesAt K H a xs R) (k : Keep H H') : RulesAt K H' a xs R :=
  ⟨k.seq h.sq, h.len, fun i x r h1 h2 => let ⟨q, e, s⟩ := h.it i x r h1 h2; ⟨q, e, k.seq s⟩⟩
theorem RulesAt.same {H H' : Hp} {a : Addr} {xs : List V} {R : List Rule} (h : RulesAt K H a xs R) (k : Same H H') : RulesAt K H' a xs R := h.keep (Keep.same k)
theorem RulesAt.get {H : Hp} {a : Addr} {xs : List V} {R : List Rule} (h : RulesAt K H a xs R) {i : Nat} {r : Rule} (hr : R[i]? = some r) : ∃ q, xs[i]? = some (.ref q) ∧ SqT K H q (rTup r) := by
  obtain ⟨hi, _⟩ := List.getElem?_eq_some_iff.mp hr
  have hi2 : i < xs.length := by rw [h.len]; exact hi
  obtain ⟨q, e, s⟩ := h.it i xs[i] r (List.getElem?_eq_getElem hi2) hr
  exact ⟨q, by rw [List.getElem?_eq_getElem hi2, e], s⟩
/-- the dict of the left sides -/
def LeftsK (H : Hp) (kvs : List (Key × V)) (R : List Rule) : Prop :=
  ∀ l : List Nat, (firstAt R 0 l = none → valV kvs (Sum.inr (S l)) = none) ∧ ∀ k r, firstAt R 0 l = some (k, r) → ∃ q, valV kvs (Sum.inr (S l)) = some (.ref q) ∧ H q = some (.tup [.int (k : Nat), .str (S r)])
theorem LeftsK.same {H H' : Hp} {kvs : List (Key × V)} {R : List Rule} (h : LeftsK H kvs R) (s : Same H H') : LeftsK H' kvs R :=
  fun l => ⟨(h l).1, fun k r e => let ⟨q, e1, e2⟩ := (h l).2 k r e; ⟨q, e1, s _ _ e2⟩⟩
/-- .. stands at p -/
def LeftsAt (H : Hp) (p : Addr) (R : List Rule) : Prop := ∃ kvs, H p = some (.dK kvs) ∧ LeftsK H kvs R
theorem LeftsAt.same {H H' : Hp} {p : Addr} {R : List Rule} (h : LeftsAt H p R) (s : Same H H') : LeftsAt H' p R := let ⟨kvs, e, k⟩ := h; ⟨kvs, s _ _ e, k.same s⟩
theorem LeftsAt.but {H H' : Hp} {p a : Addr} {R : List Rule} (h : LeftsAt H p R) (s : But a H H') (z : Src H a) : LeftsAt H' p R := by
  obtain ⟨kvs, e, k⟩ := h
  obtain ⟨d, sd, c, ha⟩ := z
  refine ⟨kvs, s _ _ (ne_of e ha (by intro q; cases q)) e, fun l => ⟨(k l).1, fun j r e => ?_⟩⟩
  obtain ⟨q, e1, e2⟩ := (k l).2 j r e
  exact ⟨q, e1, s _ _ (ne_of e2 ha (by intro q; cases q)) e2⟩
def spFirst (K : PySem.W.Frag) : Sp := fun vs H Q _ => ∃ (a : Addr) (xs : List V) (R : List Rule), vs = [.ref a] ∧ RulesAt K H a xs R ∧ R.length ≤ 64 ∧ ∀ (p : Addr) (H' : Hp), H p = none → Same H H' → LeftsAt H' p R → Q (.ref p) H'
theorem lefts_snoc {H H' : Hp} {kvs : List (Key × V)} {R : List Rule} {r : Rule} {q : Addr} (h : LeftsK H kvs R) (s : ∀ b o, H b = some o → (∃ ys, o = .tup ys) → H' b = some o) (hn : valV kvs (Sum.inr (S r.1)) = none)
    (hq : H' q = some (.tup [.int (R.length : Nat), .str (S r.2)])) : LeftsK H' (putK kvs (Sum.inr (S r.1)) (.ref q)) (R ++ [r]) := by
  have none_of : firstAt R 0 r.1 = none := by
    cases e : firstAt R 0 r.1 with
    | none => rfl
    | some z =>
      obtain ⟨q, e1, _⟩ := (h r.1).2 z.1 z.2 e
      rw [hn] at e1; cases e1
  intro l
  rw [valV_put]
  by_cases hl : l = r.1
  · subst hl
    rw [Bk.firstAt_snoc_none r none_of]
    simp only [if_true]
    refine ⟨fun e => by simp at e, fun k z e => ?_⟩
    simp only [Option.some.injEq, Prod.mk.injEq] at e
    obtain ⟨rfl, rfl⟩ := e
    exact ⟨q, rfl, hq⟩
  · have hne : ¬ (Sum.inr (S l) : Key) = Sum.inr (S r.1) := fun e => hl (S_inj (Sum.inr.inj e))
    rw [if_neg hne]
    cases e : firstAt R 0 l with
    | none =>
      rw [Bk.firstAt_snoc_none r e, if_neg (Ne.symm hl)]
      exact ⟨fun _ => (h l).1 e, fun k z e => by cases e⟩
    | some z =>
      rw [Bk.firstAt_snoc_some r e]
      refine ⟨fun e => (by cases e), fun k y e' => ?_⟩
      cases e'
      obtain ⟨q', e1, e2⟩ := (h l).2 k y e
      exact ⟨q', e1, s _ _ e2 ⟨_, rfl⟩⟩
theorem lefts_skip {H : Hp} {kvs : List (Key × V)} {R : List Rule} {r : Rule} (h : LeftsK H kvs R) (hn : valV kvs (Sum.inr (S r.1)) ≠ none) : LeftsK H kvs (R ++ [r]) := by
  intro l
  cases e : firstAt R 0 l with
  | some z =>
    rw [Bk.firstAt_snoc_some r e]
    exact ⟨fun e => (by cases e), fun k y e' => by cases e'; exact (h l).2 _ _ e⟩
  | none =>
    have hne : ¬ r.1 = l := fun e' => hn (by rw [e']; exact (h l).1 e)
    rw [Bk.firstAt_snoc_none r e, if_neg hne]
    exact ⟨fun _ => (h l).1 e, fun k z e => by cases e⟩
theorem c_first_rules (T : Txt K mg) : Cal P w K mg base CX0 1 "first_rules" (spFirst K) := by
  refine Cal.mk0 T.d_first_rules sc_first_rules (fun vs H Q E h => ?_) (fun f cdv A outer s H vs Q E hr h => ?_)
  · obtain ⟨a, xs, R, rfl, _⟩ := h
    rfl
  · obtain ⟨a, xs, R, rfl, hR, hl, k⟩ := h
    have hu := hu_of hr
    have hlx := hR.len
    refine ⟨_, (pss_cons (ps_set (i := 1) sc_first_rules.nd rfl (Or.inl rfl) pe_dnewK)
  (pss_cons (ps_for PassesOwn.never rfl (pi_range1 (by rfl) T.b_range (pa_cons (pe_callB call_len_seq (by rfl) T.b_len (by decide +kernel) (pa_cons (pv 0) pa_nil)) pa_nil)) (pg_name (i := 2) sc_first_rules.nd rfl (Or.inl rfl))
    (pss_cons (ps_asg (pe_ix ix_tup (pv 0) (pv 2) (fun _ _ => rfl)) (pg_tup (by rfl) (pgs_cons (pg_name (i := 3) sc_first_rules.nd rfl (Or.inl rfl)) (pgs_cons (pg_name (i := 4) sc_first_rules.nd rfl (Or.inl rfl)) pgs_nil))))
    (pss_one (ps_if (pt_cmp (pc_dnotin hu (pv 3) (pv 1)))
      (pss_one (ps_dput hu (pv 1) (pv 3) (pe_tup (pa_cons (pv 2) (pa_cons (pv 4) pa_nil))) rfl))
      pss_nil))))
  (pss_one (ps_ret (pv 1))))), ?_⟩
    walk_at "rd"
    intro p hp
    have hR1 := hR.same (same_new (o := .dK []) hp)
    refine ⟨_, rfl, a, xs, rfl, .inr hR1.sq, ?_⟩
    walk_at "rd"
    refine for_range (lo := 0) (n := ((xs.length : Int)).toNat) (fun i σ H2 => ∃ (kvs : List (Key × V)) (v2 v3 v4 : Option V), σ = [some (.ref a), some (.ref p), v2, v3, v4] ∧ Same H H2 ∧ H2 p = some (.dK kvs) ∧ kvs.length ≤ i ∧ LeftsK H2 kvs (R.take i))
      ⟨[], _, _, _, rfl, same_new hp, upd_same, Nat.le_refl _, fun l => ⟨fun _ => rfl, fun k r e => by simp [firstAt] at e⟩⟩ ?_ ?_
    · rintro i σ H2 hi ⟨kvs, v2, v3, v4, rfl, s2, hp2, hk, L⟩
      have hi2 : i < R.length := by omega
      have hr2 : R[i]? = some R[i] := by simp [hi2]
      obtain ⟨q, hq, sq⟩ := (hR.same s2).get hr2
      refine ⟨_, rfl, _, rfl, a, xs, _, .ref q, rfl, rfl, (hR.same s2).sq, atI_at (by omega) (by rw [show ((0 : Int) + i).toNat = i by omega]; exact hq), ?_⟩
      refine ⟨q, _, rfl, sq, rfl, _, _, rfl, _, _, rfl, rfl, ?_⟩
      have et : R.take (i + 1) = R.take i ++ [R[i]] := by rw [List.take_succ, hr2]; rfl
      walk_at "rd"
      refine ⟨p, _, rfl, DGet.k (k := Sum.inr (S R[i].1)) hp2, ?_⟩
      walk_at "rd"
      cases hv : valV kvs (Sum.inr (S R[i].1) : Key) with
      | none =>
        refine iteT ?_
        refine ⟨_, rfl, _, rfl, by walk_at "sz", fun q2 hq2 => ?_⟩
        have nq : q2 ≠ p := (ne_of_none hp2 hq2).symm
        refine ⟨_, rfl, _, rfl, p, _, rfl, DPut.k (k := Sum.inr (S R[i].1)) (by rw [upd_ne nq.symm]; exact hp2) (by exact Nat.lt_of_le_of_lt (m := 64) (by omega) (by decide)), ?_⟩
        have s3 : Same H2 (upd H2 q2 (.tup [.int (0 + (i : Int)), .str (S R[i].2)])) := same_new hq2
        refine ⟨_, _, _, _, rfl, same_mut (s2.trans s3) hp, upd_same, ?_, ?_⟩
        · rw [putK_new _ hv]; simp; omega
        · rw [et]
          refine lefts_snoc L (fun b o hb ⟨ys, e⟩ => ?_) hv ?_
          · rw [upd_ne (ne_of hb hp2 (by intro z; rw [e] at z; cases z))]
            exact s3 b o hb
          · rw [upd_ne nq, List.length_take, Nat.min_eq_left (by omega)]
            rw [upd_same]
            simp
      | some z =>
        refine iteF ?_
        walk_at "rd"
        refine ⟨_, _, _, _, rfl, s2, hp2, by omega, ?_⟩
        rw [et]
        exact lefts_skip L (by rw [hv]; simp)
    · rintro σ H2 ⟨kvs, v2, v3, v4, rfl, s2, hp2, hk, L⟩
      walk_at "rd"
      refine k p H2 hp s2 ⟨kvs, hp2, ?_⟩
      rw [List.take_of_length_le (by omega)] at L
      exact L
/-- the longest left side -/
def spLongest (K : PySem.W.Frag) : Sp := fun vs H Q _ => ∃ (a : Addr) (xs : List V) (R : List Rule), vs = [.ref a] ∧ RulesAt K H a xs R ∧ R.length ≤ 64 ∧ (∀ r ∈ R, r.1.length ≤ 1000000) ∧ ∀ (H' : Hp), Same H H' → Q (.int (lg R : Nat)) H'
theorem c_longest_left (T : Txt K mg) : Cal P w K mg base CX0 1 "longest_left" (spLongest K) := by
  refine Cal.mk0 T.d_longest_left sc_longest_left (fun vs H Q E h => ?_) (fun f cdv A outer s H vs Q E hr h => ?_)
  · obtain ⟨a, xs, R, rfl, _⟩ := h
    rfl
  · obtain ⟨a, xs, R, rfl, hR, hl, hz, k⟩ := h
    refine ⟨_, (pss_one (ps_ret (pe_callB (cr_max rfl) (by rfl) T.b_max (by decide +kernel) (pa_cons (pe_op op_cat (pe_lst (pa_cons pe_int pa_nil)) (pe_lc (own := [("rule", 1)]) (g := gName 1) (tt := tYes) rfl sc_longest_left.nd (pi_tup (pv 0)) (blkOk_by (N := ["rules", "rule"]) (sc := defScope s_longest_left) (by decide +kernel)) (fun _ _ _ _ _ => (pg_name (i := 1) sc_longest_left.nd rfl (Or.inl rfl))) (fun _ _ _ _ _ => pts_nil) (fun _ _ _ _ _ => (pe_callB call_len_str (by rfl) T.b_len (by decide +kernel) (pa_cons (pe_ix ix_tupB (pv 1) pe_int (fun _ _ => rfl)) pa_nil))))) pa_nil)))), ?_⟩
    refine ⟨by walk_at "sz", fun p1 hp1 => ?_⟩
    have s1 : Same H (upd H p1 (.lst [.int 0])) := same_new hp1
    refine ⟨_, rfl, a, rfl, ⟨_, (hR.same s1).sq⟩, fun D hD => lc_tupR (K := K) (a := a) (xs := xs) (l := R) (Rel := fun H v r => ∃ q, v = .ref q ∧ SqT K H q (rTup r)) hR.len
      (fun pre H3 => H3 D = some (.lst (pre.map fun r => V.int (r.1.length : Nat))) ∧ Same (upd H p1 (.lst [.int 0])) H3) ⟨upd_same, same_new hD⟩ (fun pre H3 ⟨_, s3⟩ => ⟨(hR.same (s1.trans s3)).sq, (hR.same (s1.trans s3)).it⟩) ?_ ?_⟩
    · rintro pre r post x H3 e hx ⟨q, rfl, sq⟩ ⟨h3, s3⟩
      have hrm : r ∈ R := by rw [e]; simp
      refine ⟨rfl, ty_T ?_⟩
      refine ⟨_, rfl, q, _, 0, .str (S r.1), rfl, rfl, sq, rfl, _, rfl, sz_S (hz r hrm), ?_⟩
      have hpl : pre.length ≤ 64 := by
        have := congrArg List.length e
        simp at this
        omega
      refine ⟨_, h3, by rw [List.length_map]; exact Nat.lt_of_le_of_lt (m := 64) hpl (by decide), ?_, same_mut s3 hD⟩
      rw [List.map_append, S_len]
      exact upd_same
    · rintro H3 ⟨h3, s3⟩
      refine ⟨p1, D, _, _, rfl, rfl, s3 _ _ upd_same, h3, ?_, fun p2 hp2 => ?_⟩
      · rw [List.length_map]; exact Nat.le_trans (m := 65) (by simp; omega) (by decide)
      · refine ⟨p2, (0 :: R.map fun r => r.1.length).map Int.ofNat, rfl, SqL.of ?_, by simp, fun m hm hle => ?_⟩
        · rw [upd_same, List.map_map]
          simp only [List.map_cons, List.map_map]
          rfl
        · obtain ⟨n, hn, rfl⟩ := List.mem_map.mp hm
          have : n = lg R := Bk.lg_eq hn (fun y hy => by
            have := hle (Int.ofNat y) (List.mem_map_of_mem hy)
            exact Int.ofNat_le.mp this)
          rw [this]
          exact k _ ((s1.trans s3).trans (same_new hp2))
/-- used_at_end: the first rule that fits, or None -/
def optS : Option (List Nat) → V
  | none => .non
  | some u => .str (S u)
def spUsed : Sp := fun vs H Q _ => ∃ (p : Addr) (R : List Rule) (t : List Nat), vs = [.ref p, .int (lg R : Nat), .str (S t)] ∧ LeftsAt H p R ∧ Wf R ∧ t.length ≤ 100000 ∧ ∀ (H' : Hp), Same H H' → Q (optS (used R t)) H'
/-- best so far -/
def BestV (H : Hp) : V → Option (Nat × Nat × List Nat) → Prop
  | v, none => v = .non
  | v, some (k, s, r) => ∃ q, v = .ref q ∧ H q = some (.tup [.int (k : Nat), .int (s : Nat), .str (S r)])
theorem BestV.same {H H' : Hp} {v : V} : ∀ {b}, BestV H v b → Same H H' → BestV H' v b
  | none, h, _ => h
  | some (_, _, _), ⟨q, e, h⟩, s => ⟨q, e, s _ _ h⟩
theorem c_used_at_end (T : Txt K mg) : Cal P w K mg base CX0 1 "used_at_end" spUsed := by
  refine Cal.mk0 T.d_used_at_end sc_used_at_end (fun vs H Q E h => ?_) (fun f cdv A outer s H vs Q E hr h => ?_)
  · obtain ⟨p, R, t, rfl, _⟩ := h
    rfl
  · obtain ⟨p, R, t, rfl, ⟨kvs, hp, L⟩, hw, hl, k⟩ := h
    have hu := hu_of hr
    have hSl := S_len t
    refine ⟨_, (pss_cons (ps_set (i := 3) sc_used_at_end.nd rfl (Or.inl rfl) pe_non)
  (pss_cons (ps_for PassesOwn.never rfl (pi_range2 (by rfl) T.b_range (pa_cons pe_int (pa_cons (pe_op op_add (pe_callB (call_min2 rfl) (by rfl) T.b_min (by decide +kernel) (pa_cons (pv 1) (pa_cons (pe_callB call_len_str (by rfl) T.b_len (by decide +kernel) (pa_cons (pv 2) pa_nil)) pa_nil))) pe_int) pa_nil))) (pg_name (i := 4) sc_used_at_end.nd rfl (Or.inl rfl))
    (pss_cons (ps_set (i := 5) sc_used_at_end.nd rfl (Or.inl rfl) (pe_dget1 hu (pv 0) (pe_slice sl_str (pv 2) (po_some (pe_op op_sub (pe_callB call_len_str (by rfl) T.b_len (by decide +kernel) (pa_cons (pv 2) pa_nil)) (pv 4))) po_none) ⟨rfl, rfl, rfl, rfl⟩))
    (pss_one (ps_if (PW.pt (pw_and (pt_cmpR op_notN (pv 5) pe_non (nomark _)) (pw_and1 (PW.pt (pw_or (pt_cmpR op_isN (pv 3) pe_non (nomark _)) (pw_or1 (pt_cmpR op_lt (pe_ix ix_tup (pv 5) pe_int (fun _ _ => rfl)) (pe_ix ix_tup (pv 3) pe_int (fun _ _ => rfl)) (nomark _))))))))
      (pss_one (ps_set (i := 3) sc_used_at_end.nd rfl (Or.inl rfl) (pe_tup (pa_cons (pe_ix ix_tup (pv 5) pe_int (fun _ _ => rfl)) (pa_cons (pv 4) (pa_cons (pe_ix ix_tup (pv 5) pe_int (fun _ _ => rfl)) pa_nil))))))
      pss_nil))))
  (pss_cons (ps_if (pt_cmpR op_isN (pv 3) pe_non (nomark _))
    (pss_one (ps_ret pe_non))
    pss_nil)
  (pss_one (ps_ret (pe_op op_add_str (pe_slice sl_str (pv 2) po_none (po_some (pe_op op_sub (pe_callB call_len_str (by rfl) T.b_len (by decide +kernel) (pa_cons (pv 2) pa_nil)) (pe_ix ix_tup (pv 3) pe_int (fun _ _ => rfl))))) (pe_ix ix_tup (pv 3) pe_int (fun _ _ => rfl)))))))), ?_⟩
    walk_at "rd"
    refine for_range (lo := 1) (n := _) (fun i σ H2 => ∃ (vb : V) (v4 v5 : Option V), σ = [some (.ref p), some (.int (lg R : Nat)), some (.str (S t)), some vb, v4, v5] ∧ Same H H2 ∧ BestV H2 vb (bestUp R t i))
      ⟨_, _, _, rfl, Same.refl H, rfl⟩ ?_ ?_
    · rintro i σ H2 hi ⟨vb, v4, v5, rfl, s2, hb⟩
      have hi2 : i < t.length := by
        split at hi <;> omega
      have hL := L.same s2
      refine ⟨_, rfl, p, rfl, .inl ⟨kvs, .inl (s2 _ _ hp)⟩, ?_⟩
      walk_at "rd"
      rw [cut_from (by omega), hSl, show ((t.length : Int) - (1 + (i : Int))).toNat = t.length - (i + 1) by omega]
      refine ⟨_, DGet.k (k := Sum.inr (S (t.drop (t.length - (i + 1))))) (s2 _ _ hp), ?_⟩
      walk_at "nx"
      cases hf : firstAt R 0 (t.drop (t.length - (i + 1))) with
      | none =>
        rw [(hL _).1 hf]
        have eb : bestUp R t (i + 1) = bestUp R t i := by simp only [bestUp, hf]
        walk_at "rd"
        refine iteF ?_
        walk_at "rd"
        refine iteF ?_
        walk_at "rd"
        exact ⟨_, _, _, rfl, s2, eb ▸ hb⟩
      | some z =>
        obtain ⟨k2, r2⟩ := z
        obtain ⟨q, hq, hqt⟩ := (hL _).2 _ _ hf
        rw [hq]
        have s3 : ∀ q2 o, H2 q2 = none → Same H (upd H2 q2 o) := fun q2 o h => s2.trans (same_new h)
        cases hbb : bestUp R t i with
        | none =>
          rw [hbb] at hb
          have hb' : vb = .non := hb
          subst hb'
          have eb : bestUp R t (i + 1) = some (k2, i + 1, r2) := by simp only [bestUp, hf, hbb]
          walk_at "rd"
          refine ⟨by walk_at "sz", fun q2 hq2 => ?_⟩
          refine ⟨_, _, _, rfl, s3 _ _ hq2, ?_⟩
          rw [eb]
          refine ⟨q2, rfl, ?_⟩
          rw [upd_same]
          show some (HO.tup [V.int (k2 : Nat), V.int (1 + (i : Int)), V.str (S r2)]) = _
          rw [show (1 + (i : Int)) = ((i + 1 : Nat) : Int) by omega]
        | some b =>
          obtain ⟨k3, s3', r3⟩ := b
          rw [hbb] at hb
          obtain ⟨q3, rfl, hq3⟩ := id hb
          walk_at "rd"
          refine ite2 (fun c0 => ?_) (fun c0 => ?_)
          · have c1 : k2 < k3 := by have := of_decide_eq_true c0; omega
            have eb : bestUp R t (i + 1) = some (k2, i + 1, r2) := by simp only [bestUp, hf, hbb, if_pos c1]
            walk_at "rd"
            refine ⟨by walk_at "sz", fun q2 hq2 => ?_⟩
            refine ⟨_, _, _, rfl, s3 _ _ hq2, ?_⟩
            rw [eb]
            refine ⟨q2, rfl, ?_⟩
            rw [upd_same]
            show some (HO.tup [V.int (k2 : Nat), V.int (1 + (i : Int)), V.str (S r2)]) = _
            rw [show (1 + (i : Int)) = ((i + 1 : Nat) : Int) by omega]
          · have c1 : ¬ k2 < k3 := by
              intro h
              exact c0 (decide_eq_true (by omega))
            have eb : bestUp R t (i + 1) = some (k3, s3', r3) := by simp only [bestUp, hf, hbb, if_neg c1]
            walk_at "rd"
            exact ⟨_, _, _, rfl, s2, by rw [eb]; exact hb⟩
    · rintro σ H2 ⟨vb, v4, v5, rfl, s2, hb⟩
      have hn : ((if ((S t).length : Int) < (lg R : Nat) then ((S t).length : Int) else (lg R : Nat)) + 1 - 1).toNat = min (lg R) t.length := by
        split <;> omega
      rw [hn] at hb
      have hU := Bk.used_best hw t
      cases hbb : bestUp R t (min (lg R) t.length) with
      | none =>
        rw [hbb] at hb hU
        have hb' : vb = .non := hb
        subst hb'
        walk_at "rd"
        have q := k H2 s2
        rw [hU] at q
        exact q
      | some b =>
        obtain ⟨k3, s3', r3⟩ := b
        rw [hbb] at hb hU
        obtain ⟨q3, rfl, hq3⟩ := id hb
        walk_at "rd"
        have sp := Bk.bestUp_spec R t (min (lg R) t.length) (by omega)
        rw [hbb] at sp
        obtain ⟨⟨l, ⟨_, _, _, x, hx⟩, hs⟩, _⟩ := sp
        have hst : s3' ≤ t.length := by
          rw [hx, List.length_append]
          show s3' ≤ x.length + l.length
          omega
        have hU2 : used R t = some (t.take (t.length - s3') ++ r3) := hU
        have hlen := (Bk.used_step hU2).len hw
        rw [cut_to (by omega), hSl, show ((t.length : Int) - (s3' : Int)).toNat = t.length - s3' by omega]
        refine ⟨?_, ?_⟩
        · rw [S_len, S_len, ← List.length_append]
          exact Nat.le_trans (m := 100000) (by omega) (by decide)
        · rw [S_cat]
          have q := k H2 s2
          rw [hU2] at q
          exact q
/-- what is left over -/
def spLeft : Sp := fun vs H Q _ => ∃ (p : Addr) (R : List Rule) (t : List Nat), vs = [.ref p, .int (lg R : Nat), .str (S t)] ∧ LeftsAt H p R ∧ Wf R ∧ t.length ≤ 100000 ∧ ∀ (H' : Hp), Same H H' → Q (.str (S (left R t))) H'
theorem left_snoc (R : List Rule) (t : List Nat) (c : Nat) : left R (t ++ [c]) = pushS R (left R t) c := by
  unfold left; rw [List.foldl_append]; rfl
theorem left_len {R : List Rule} (w : Wf R) (t : List Nat) : (left R t).length ≤ t.length := (Bk.left_reach t).len w
theorem c_left_over (T : Txt K mg) : Cal P w K mg base CX0 2 "left_over" spLeft := by
  have c_used_at_end := c_used_at_end (P := P) (w := w) (base := base) T
  refine Cal.mk0 T.d_left_over sc_left_over (fun vs H Q E h => ?_) (fun f cdv A outer s H vs Q E hr h => ?_)
  · obtain ⟨p, R, t, rfl, _⟩ := h
    rfl
  · obtain ⟨p, R, t, rfl, L, hw, hl, k⟩ := h
    refine ⟨_, (pss_cons (ps_set (i := 3) sc_left_over.nd rfl (Or.inl rfl) pe_str)
  (pss_cons (ps_for PassesOwn.never rfl (pi_str (pv 2)) (pg_name (i := 4) sc_left_over.nd rfl (Or.inl rfl))
    (pss_cons (ps_set (i := 3) sc_left_over.nd rfl (Or.inl rfl) (pe_op op_add_str (pv 3) (pv 4)))
    (pss_cons (ps_set (i := 5) sc_left_over.nd rfl (Or.inl rfl) (pe_c c_used_at_end hr (by decide) rfl (pa_cons (pv 0) (pa_cons (pv 1) (pa_cons (pv 3) pa_nil)))))
    (pss_one (ps_while PassesOwn.never (pt_cmpR op_notN (pv 5) pe_non (nomark _))
      (pss_cons (ps_set (i := 3) sc_left_over.nd rfl (Or.inl rfl) (pv 5))
      (pss_one (ps_set (i := 5) sc_left_over.nd rfl (Or.inl rfl) (pe_c c_used_at_end hr (by decide) rfl (pa_cons (pv 0) (pa_cons (pv 1) (pa_cons (pv 3) pa_nil))))))))))))
  (pss_one (ps_ret (pv 3))))), ?_⟩
    walk_at "rd"
    refine for_str (l := t) (fun pre σ H2 => ∃ (v4 v5 : Option V), σ = [some (.ref p), some (.int (lg R : Nat)), some (.str (S t)), some (.str (S (left R pre))), v4, v5] ∧ Same H H2)
      ⟨_, _, rfl, Same.refl H⟩ ?_ ?_
    · rintro pre c post σ H2 e ⟨v4, v5, rfl, s2⟩
      have hpl : pre.length + 1 ≤ t.length := by
        have := congrArg List.length e
        simp at this
        omega
      have hlp := left_len hw pre
      refine ⟨_, rfl, _, rfl, _, _, rfl, rfl, by rw [S_len, S_len]; exact Nat.le_trans (m := 100001) (by simp; omega) (by decide), ?_⟩
      rw [S_cat]
      walk_at "nx"
      refine ⟨_, rfl, _, rfl, _, rfl, p, R, left R pre ++ [c], rfl, L.same s2, hw, by simp; omega, fun H3 s3 => ?_⟩
      walk_at "nx"
      refine ⟨fun m σ H4 => ∃ (q : List Nat) (v4 : Option V), σ = [some (.ref p), some (.int (lg R : Nat)), some (.str (S t)), some (.str (S q)), v4, some (optS (used R q))] ∧ Same H H4 ∧ q.length ≤ m ∧ q.length ≤ 100000 ∧ drain R m q = left R (pre ++ [c]),
        ⟨(left R pre).length + 1, left R pre ++ [c], _, rfl, s2.trans s3, by simp, by simp; omega, (left_snoc R pre c).symm⟩, ?_⟩
      rintro m σ H4 ⟨q, v4, rfl, s4, hm, hq, hd⟩
      cases hu1 : used R q with
      | none =>
        have e1 : drain R m q = q := by
          cases m with
          | zero => rfl
          | succ m => simp only [drain, hu1]
        rw [e1] at hd
        walk_at "rd"
        refine iteF ?_
        walk_at "nx"
        exact ⟨_, _, by rw [hd], s4⟩
      | some u =>
        have hlt := (Bk.used_step hu1).len hw
        cases m with
        | zero => omega
        | succ m =>
          have hd2 : drain R m u = left R (pre ++ [c]) := by
            rw [← hd]; simp only [drain, hu1]
          walk_at "rd"
          refine iteT ⟨_, fun _ _ h => h, ?_⟩
          refine ⟨_, rfl, ?_⟩
          walk_at "nx"
          refine ⟨_, rfl, _, rfl, _, rfl, p, R, u, rfl, L.same s4, hw, by omega, fun H5 s5 => ?_⟩
          walk_at "nx"
          exact ⟨m, Nat.lt_succ_self m, u, _, rfl, s4.trans s5, by omega, by omega, hd2⟩
    · rintro σ H2 ⟨v4, v5, rfl, s2⟩
      walk_at "rd"
      exact k H2 s2
end
end Sh
/-! overlaps as the program lists them; plain Lean -/
namespace Bk
abbrev Ov := T × Nat × Nat × Nat
def ovAt (i : Nat) (l : T) (j : Nat) (r : T) (k : Nat) : Option Ov := if k = 0 ∧ j ≤ i then none else (over l r k).map fun t => (t, i, k, j)
def ovP (i : Nat) (l : T) (j : Nat) (r : T) (n : Nat) : List Ov := (List.range n).filterMap (ovAt i l j r)
def lf (R : List Rule) (i : Nat) : T := (R.getD i ([], [])).1
def ovJ (R : List Rule) (i n : Nat) : List Ov := (List.range n).flatMap fun j => ovP i (lf R i) j (lf R j) (lf R i).length
def ovI (R : List Rule) (n : Nat) : List Ov := (List.range n).flatMap fun i => ovJ R i R.length
def ovs (R : List Rule) : List Ov := ovI R R.length
theorem ovP_succ (i : Nat) (l : T) (j : Nat) (r : T) (n : Nat) : ovP i l j r (n + 1) = ovP i l j r n ++ (ovAt i l j r n).toList := by
  unfold ovP
  rw [List.range_succ, List.filterMap_append]
  cases h : ovAt i l j r n <;> simp [h]
theorem ovJ_succ (R : List Rule) (i n : Nat) : ovJ R i (n + 1) = ovJ R i n ++ ovP i (lf R i) n (lf R n) (lf R i).length := by
  unfold ovJ
  rw [List.range_succ, List.flatMap_append]
  simp
theorem ovI_succ (R : List Rule) (n : Nat) : ovI R (n + 1) = ovI R n ++ ovJ R n R.length := by
  unfold ovI
  rw [List.range_succ, List.flatMap_append]
  simp
theorem lf_get {R : List Rule} {i : Nat} {r : Rule} (h : R[i]? = some r) : lf R i = r.1 := by
  unfold lf
  rw [List.getD_eq_getElem?_getD, h]; rfl
theorem mem_ovs {R : List Rule} {o : Ov} : o ∈ ovs R ↔ ∃ i r j q k t, R[i]? = some r ∧ R[j]? = some q ∧ k < r.1.length ∧ ¬ (k = 0 ∧ j ≤ i) ∧ over r.1 q.1 k = some t ∧ o = (t, i, k, j) := by
  unfold ovs ovI ovJ ovP ovAt
  simp only [List.mem_flatMap, List.mem_range, List.mem_filterMap]
  constructor
  · rintro ⟨i, hi, j, hj, k, hk, h⟩
    have hr : R[i]? = some R[i] := by simp [hi]
    have hq : R[j]? = some R[j] := by simp [hj]
    rw [lf_get hr, lf_get hq] at h
    rw [lf_get hr] at hk
    by_cases c : k = 0 ∧ j ≤ i
    · rw [if_pos c] at h; cases h
    · rw [if_neg c, Option.map_eq_some_iff] at h
      obtain ⟨t, h1, rfl⟩ := h
      exact ⟨i, R[i], j, R[j], k, t, hr, hq, hk, c, h1, rfl⟩
  · rintro ⟨i, r, j, q, k, t, hr, hq, hk, c, h1, rfl⟩
    refine ⟨i, (List.getElem?_eq_some_iff.mp hr).1, j, (List.getElem?_eq_some_iff.mp hq).1, k, by rw [lf_get hr]; exact hk, ?_⟩
    rw [lf_get hr, lf_get hq, if_neg c, h1]; rfl
/-- a text is less than another one -/
def keyLt (a b : T) : Bool := if a.length = b.length then decide (a < b) else decide (a.length < b.length)
/-- an overlap whose results have one end -/
def okOv (R : List Rule) (o : Ov) : Bool := match R[o.2.1]?, R[o.2.2.2]? with
  | some r, some q => decide (left R (res1 r o.1) = left R (res2 q o.1 o.2.2.1))
  | _, _ => true
def qstep (R : List Rule) (best : Option T) (o : Ov) : Option T :=
  if (match best with | none => true | some b => keyLt o.1 b) = true then (if okOv R o = true then best else some o.1) else best
def quarrel (R : List Rule) : Option T := (ovs R).foldl (qstep R) none
theorem qstep_none {R : List Rule} {b : Option T} {o : Ov} (h : qstep R b o = none) : b = none ∧ okOv R o = true := by
  unfold qstep at h
  cases hb : b with
  | none =>
    subst hb
    refine ⟨rfl, ?_⟩
    simp only [if_true] at h
    cases c : okOv R o with
    | true => rfl
    | false => rw [c] at h; simp at h
  | some b' =>
    subst hb
    exfalso
    cases c : okOv R o <;> cases d : keyLt o.1 b' <;> simp [c, d] at h
theorem foldl_q {R : List Rule} : ∀ (l : List Ov) (b : Option T), l.foldl (qstep R) b = none → b = none ∧ ∀ o ∈ l, okOv R o = true
  | [], b, h => ⟨h, by simp⟩
  | o :: l, b, h => by
    obtain ⟨h1, h2⟩ := foldl_q l (qstep R b o) h
    have := qstep_none h1
    exact ⟨this.1, fun o' ho => by
      rcases List.mem_cons.mp ho with rfl | q
      · exact this.2
      · exact h2 o' q⟩
theorem foldl_q' {R : List Rule} : ∀ (l : List Ov), (∀ o ∈ l, okOv R o = true) → l.foldl (qstep R) none = none
  | [], _ => rfl
  | o :: l, h => by
    have : qstep R none o = none := by
      unfold qstep
      simp only [if_true]
      rw [if_pos (h o List.mem_cons_self)]
    rw [List.foldl_cons, this]
    exact foldl_q' l fun o' ho => h o' (List.mem_cons_of_mem _ ho)
theorem quarrel_none {R : List Rule} : quarrel R = none ↔ ∀ o ∈ ovs R, okOv R o = true :=
  ⟨fun h => (foldl_q _ _ h).2, foldl_q' _⟩
theorem over_symm {a b t : T} (h : over a b 0 = some t) : over b a 0 = some t := by
  unfold over at h ⊢
  simp only [List.drop_zero, Nat.sub_zero] at h ⊢
  rw [Nat.min_comm b.length a.length]
  generalize hm : min a.length b.length = m at h ⊢
  by_cases c : a.take m = b.take m
  · rw [if_pos c] at h
    rw [if_pos c.symm, ← h]
    congr 1
    rcases Nat.le_total a.length b.length with q | q
    · have e : m = a.length := by omega
      have e1 : a.drop m = [] := List.drop_eq_nil_of_le (by omega)
      have e2 : a.take m = a := List.take_of_length_le (by omega)
      rw [e1, List.append_nil, ← e2, c, List.take_append_drop]
    · have e1 : b.drop m = [] := List.drop_eq_nil_of_le (by omega)
      have e2 : b.take m = b := List.take_of_length_le (by omega)
      rw [e1, List.append_nil, ← e2, ← c, List.take_append_drop]
  · rw [if_neg c] at h; cases h
/-- a book without quarrel meets -/
theorem meets_of {R : List Rule} (w : Wf R) (h : quarrel R = none) : Meets R := by
  have ok := quarrel_none.mp h
  have use : ∀ (i : Nat) (r : Rule) (j : Nat) (q : Rule) (k : Nat) (t : T), R[i]? = some r → R[j]? = some q → k < r.1.length → ¬ (k = 0 ∧ j ≤ i) → over r.1 q.1 k = some t → left R (res1 r t) = left R (res2 q t k) := by
    intro i r j q k t hr hq hk c ho
    have := ok (t, i, k, j) (mem_ovs.mpr ⟨i, r, j, q, k, t, hr, hq, hk, c, ho, rfl⟩)
    unfold okOv at this
    simp only [hr, hq, decide_eq_true_eq] at this
    exact this
  intro r hr q hq k hk t ho
  obtain ⟨i, hi, rfl⟩ := List.mem_iff_getElem.mp hr
  obtain ⟨j, hj, rfl⟩ := List.mem_iff_getElem.mp hq
  have gi : R[i]? = some R[i] := by simp [hi]
  have gj : R[j]? = some R[j] := by simp [hj]
  by_cases c : k = 0 ∧ j ≤ i
  · obtain ⟨rfl, hji⟩ := c
    -- at place 0 the pair stands the other way round, or it is one rule
    by_cases e : j = i
    · subst e
      unfold over at ho
      simp at ho
      subst ho
      unfold res1 res2
      simp
    · have h1 := over_symm ho
      have hk' : 0 < R[j].1.length := by
        have := (w R[j] hq).1
        omega
      have := use j R[j] i R[i] 0 t gj gi hk' (by omega) h1
      unfold res1 res2 at this ⊢
      simp at this ⊢
      exact this.symm
  · exact use i R[i] j R[j] k t gi gj hk c ho
end Bk
namespace Bk
theorem ovP_len (i : Nat) (l : T) (j : Nat) (r : T) (n : Nat) : (ovP i l j r n).length ≤ n := by
  unfold ovP
  exact Nat.le_trans (List.length_filterMap_le _ _) (by simp)
theorem ovJ_len (R : List Rule) (i n : Nat) : (ovJ R i n).length ≤ n * (lf R i).length := by
  induction n with
  | zero => simp [ovJ]
  | succ n ih =>
    rw [ovJ_succ, List.length_append, Nat.succ_mul]
    have := ovP_len i (lf R i) n (lf R n) (lf R i).length
    omega
theorem ovI_len {R : List Rule} {m : Nat} (h : ∀ i, (lf R i).length ≤ m) (n : Nat) : (ovI R n).length ≤ n * (R.length * m) := by
  induction n with
  | zero => simp [ovI]
  | succ n ih =>
    rw [ovI_succ, List.length_append, Nat.succ_mul]
    have h1 := ovJ_len R n R.length
    have h2 : R.length * (lf R n).length ≤ R.length * m := Nat.mul_le_mul_left _ (h n)
    omega
theorem lf_le {R : List Rule} {m : Nat} (h : ∀ r ∈ R, r.1.length ≤ m) (i : Nat) : (lf R i).length ≤ m := by
  unfold lf
  rw [List.getD_eq_getElem?_getD]
  cases e : R[i]? with
  | none => simp
  | some r => exact h r (List.mem_of_getElem? e)
end Bk
set_option Elab.async false
set_option linter.all false
set_option maxRecDepth 100000
set_option maxHeartbeats 4000000
namespace Sh
open PySem PySem.Spec PyProof.Rows L2
open SX (S S_inj S_len S_cat)
open Bk (Rule firstAt lg bestUp used left drain pushS Wf Ov ovAt ovP ovJ ovI ovs lf over res1 res2 okOv qstep quarrel keyLt)
local macro_rules | `(tactic| walk_at "nx") => `(tactic| repeat (with_reducible first | refine Sh.gn_mk ?_ | refine Sh.nx_mk ?_ | refine Sh.st_nx ?_ | refine Sh.rt_mk ?_ | refine Sh.ct_mk ?_ | refine Sh.bk_mk ?_))
local macro_rules | `(tactic| walk_at "sq") => `(tactic| first | exact SqL.of upd_same | exact SqT.of upd_same | exact SqL.of (by assumption) | exact SqT.of (by assumption) | assumption | exact Or.inl (SqL.of (by assumption)) | exact Or.inr (SqT.of (by assumption)) | exact Or.inl (by assumption) | exact Or.inr (by assumption))
local macro_rules | `(tactic| walk_at "hp") => `(tactic| first | exact upd_same | assumption)
local macro_rules | `(tactic| walk_at "sz") => `(tactic| first | exact Nat.le_of_ble_eq_true rfl | omega)
local macro_rules | `(tactic| walk_at "sd") => `(tactic| first | omega | exact rfl | assumption | (show (0 : Int) < _; omega) | exact And.intro (by omega) (by omega) | exact Or.inl (And.intro (by omega) (by omega)) | exact Or.inr (And.intro (by omega) (by omega)) | omega | exact Sh.sz_S (by omega) | decide)
local macro_rules | `(tactic| walk_at "rd1") => `(tactic| first
  | (with_reducible first | refine Sh.gn_mk ?_ | refine Sh.nx_mk ?_ | refine Sh.st_nx ?_ | refine Sh.rt_mk ?_ | refine Sh.ct_mk ?_ | refine Sh.bk_mk ?_)
  | refine Exists.intro (α := V) _ (And.intro rfl ?_)
  | refine Exists.intro (α := Bool) _ (And.intro rfl ?_)
  | refine Exists.intro (α := Int) _ (And.intro rfl ?_)
  | refine Exists.intro (α := PySem.Str) _ (And.intro rfl ?_)
  | refine Exists.intro (α := Int) _ (Exists.intro (α := Int) _ (And.intro rfl (And.intro rfl ?_)))
  | refine Exists.intro (α := PySem.Str) _ (Exists.intro (α := PySem.Str) _ (And.intro rfl (And.intro rfl ?_)))
  | refine Exists.intro (α := Int) _ (Exists.intro (α := Int) _ (And.intro rfl ?_))
  | refine Or.inl (Exists.intro (α := Int) _ (And.intro rfl ?_))
  | refine Exists.intro _ (Exists.intro _ (Exists.intro _ (Exists.intro _ (And.intro rfl (And.intro rfl (And.intro (by walk_at "sq") (And.intro rfl ?_)))))))
  | refine Exists.intro _ (Exists.intro _ (Exists.intro _ (Exists.intro _ (And.intro rfl (And.intro rfl (And.intro (by walk_at "hp") (And.intro rfl ?_)))))))
  | refine And.intro (by walk_at "sd") ?_
  )
local macro_rules | `(tactic| walk_at "rd") => `(tactic| repeat walk_at "rd1")
local macro_rules | `(tactic| walk_at "lk") => `(tactic| first | exact rfl | (rw [lookup_putF, if_pos rfl]) | (rw [lookup_putF, if_neg (by decide +kernel)]; walk_at "lk"))

section
variable {P : Program} {w : World} {K : PySem.W.Frag} {mg : Str → Option Value} {base : Heap}
def ovTup (o : Ov) : List V := [.str (S o.1), .int (o.2.1 : Nat), .int (o.2.2.1 : Nat), .int (o.2.2.2 : Nat)]
def OvV (H : Hp) (v : V) (o : Ov) : Prop := ∃ q, v = .ref q ∧ H q = some (.tup (ovTup o))
theorem OvV.same {H H' : Hp} {v : V} {o : Ov} (s : Same H H') (h : OvV H v o) : OvV H' v o := let ⟨q, e, h⟩ := h; ⟨q, e, s _ _ h⟩
theorem OvV.mut {H : Hp} {v : V} {o : Ov} {p : Addr} {xs ys : List V} (hp : H p = some (.lst xs)) (h : OvV H v o) : OvV (upd H p (.lst ys)) v o := by
  obtain ⟨q, e, h⟩ := h
  exact ⟨q, e, by rw [upd_ne (ne_of h hp (by intro z; cases z))]; exact h⟩
def spRows (K : PySem.W.Frag) : Sp := fun vs H Q _ => ∃ (a : Addr) (xs : List V) (R : List Rule), vs = [.ref a] ∧ RulesAt K H a xs R ∧ R.length ≤ 64 ∧ (∀ r ∈ R, r.1.length ≤ 4) ∧
  ∀ (p : Addr) (ys : List V) (H' : Hp), H p = none → Same H H' → H' p = some (.lst ys) → Items OvV H' ys (ovs R) → Q (.ref p) H'
theorem c_overlap_rows (T : Txt K mg) : Cal P w K mg base CX0 1 "overlap_rows" (spRows K) := by
  refine Cal.mk0 T.d_overlap_rows sc_overlap_rows (fun vs H Q E h => ?_) (fun f cdv A outer s H vs Q E hr h => ?_)
  · obtain ⟨a, xs, R, rfl, _⟩ := h
    rfl
  · obtain ⟨a, xs, R, rfl, hR, hl, h4, k⟩ := h
    have hlx := hR.len
    refine ⟨_, (pss_cons (ps_set (i := 1) sc_overlap_rows.nd rfl (Or.inl rfl) (pe_lst pa_nil))
  (pss_cons (ps_for PassesOwn.never rfl (pi_range1 (by rfl) T.b_range (pa_cons (pe_callB call_len_seq (by rfl) T.b_len (by decide +kernel) (pa_cons (pv 0) pa_nil)) pa_nil)) (pg_name (i := 2) sc_overlap_rows.nd rfl (Or.inl rfl))
    (pss_cons (ps_set (i := 3) sc_overlap_rows.nd rfl (Or.inl rfl) (pe_ix ix_tup (pe_ix ix_tup (pv 0) (pv 2) (fun _ _ => rfl)) pe_int (fun _ _ => rfl)))
    (pss_one (ps_for PassesOwn.never rfl (pi_range1 (by rfl) T.b_range (pa_cons (pe_callB call_len_seq (by rfl) T.b_len (by decide +kernel) (pa_cons (pv 0) pa_nil)) pa_nil)) (pg_name (i := 4) sc_overlap_rows.nd rfl (Or.inl rfl))
      (pss_cons (ps_set (i := 5) sc_overlap_rows.nd rfl (Or.inl rfl) (pe_ix ix_tup (pe_ix ix_tup (pv 0) (pv 4) (fun _ _ => rfl)) pe_int (fun _ _ => rfl)))
      (pss_one (ps_for PassesOwn.never rfl (pi_range1 (by rfl) T.b_range (pa_cons (pe_callB call_len_str (by rfl) T.b_len (by decide +kernel) (pa_cons (pv 3) pa_nil)) pa_nil)) (pg_name (i := 6) sc_overlap_rows.nd rfl (Or.inl rfl))
        (pss_cons (ps_if (PW.pt (pw_and (pt_cmpR op_eq (pv 6) pe_int (nomark _)) (pw_and1 (pt_cmpR op_ge (pv 2) (pv 4) (nomark _)))))
          (pss_one ps_continue)
          pss_nil)
        (pss_cons (ps_set (i := 7) sc_overlap_rows.nd rfl (Or.inl rfl) (pe_callB (call_min2 rfl) (by rfl) T.b_min (by decide +kernel) (pa_cons (pe_op op_sub (pe_callB call_len_str (by rfl) T.b_len (by decide +kernel) (pa_cons (pv 3) pa_nil)) (pv 6)) (pa_cons (pe_callB call_len_str (by rfl) T.b_len (by decide +kernel) (pa_cons (pv 5) pa_nil)) pa_nil))))
        (pss_one (ps_if (pt_cmpR op_eq (pe_slice sl_str (pv 3) (po_some (pv 6)) (po_some (pe_op op_add (pv 6) (pv 7)))) (pe_slice sl_str (pv 5) po_none (po_some (pv 7))) (nomark _))
          (pss_one (ps_expr (pe_bm PySem.F.plainAttrs_list PySem.F.slot_list_append PySem.F.type_list_append mt_append (pv 1) (pa_cons (pe_tup (pa_cons (pe_op op_add_str (pv 3) (pe_slice sl_str (pv 5) (po_some (pv 7)) po_none)) (pa_cons (pv 2) (pa_cons (pv 6) (pa_cons (pv 4) pa_nil))))) pa_nil))))
          pss_nil)))))))))))
  (pss_one (ps_ret (pv 1))))), ?_⟩
    refine ⟨by walk_at "sz", fun p hp => ?_⟩
    have s1 : Same H (upd H p (.lst [])) := same_new hp
    refine ⟨_, rfl, a, xs, rfl, .inr (hR.same s1).sq, ?_⟩
    walk_at "rd"
    refine for_range (lo := 0) (n := ((xs.length : Int)).toNat) (fun i σ H2 => ∃ (ys : List V) (v2 v3 v4 v5 v6 v7 : Option V), σ = [some (.ref a), some (.ref p), v2, v3, v4, v5, v6, v7] ∧ Same H H2 ∧ H2 p = some (.lst ys) ∧ Items OvV H2 ys (ovI R i))
      ⟨[], _, _, _, _, _, _, rfl, s1, upd_same, Items.nil⟩ ?_ ?_
    · rintro i σ H2 hi ⟨ys, v2, v3, v4, v5, v6, v7, rfl, s2, hp2, it2⟩
      rw [Int.zero_add]
      have hi2 : i < R.length := by omega
      have hr2 : R[i]? = some R[i] := by simp [hi2]
      have hli : lf R i = R[i].1 := Bk.lf_get hr2
      obtain ⟨q, hq, sq⟩ := (hR.same s2).get hr2
      refine ⟨_, rfl, _, rfl, a, xs, _, .ref q, rfl, rfl, (hR.same s2).sq, atI_nat hq, q, _, 0, .str (S R[i].1), rfl, rfl, sq, rfl, ?_⟩
      walk_at "nx"
      refine ⟨_, rfl, a, xs, rfl, .inr (hR.same s2).sq, ?_⟩
      walk_at "rd"
      refine for_range (lo := 0) (n := ((xs.length : Int)).toNat) (fun j σ H3 => ∃ (ys : List V) (v4 v5 v6 v7 : Option V), σ = [some (.ref a), some (.ref p), some (.int (i : Nat)), some (.str (S R[i].1)), v4, v5, v6, v7] ∧ Same H H3 ∧ H3 p = some (.lst ys) ∧ Items OvV H3 ys (ovI R i ++ Bk.ovJ R i j))
        ⟨ys, _, _, _, _, rfl, s2, hp2, by simpa [ovJ] using it2⟩ ?_ ?_
      · rintro j σ H3 hj ⟨ys, v4, v5, v6, v7, rfl, s3, hp3, it3⟩
        rw [Int.zero_add]
        have hj2 : j < R.length := by omega
        have hr3 : R[j]? = some R[j] := by simp [hj2]
        have hlj : lf R j = R[j].1 := Bk.lf_get hr3
        obtain ⟨q3, hq3, sq3⟩ := (hR.same s3).get hr3
        have l4 : R[i].1.length ≤ 4 := h4 _ (List.getElem_mem hi2)
        have l4j : R[j].1.length ≤ 4 := h4 _ (List.getElem_mem hj2)
        refine ⟨_, rfl, _, rfl, a, xs, _, .ref q3, rfl, rfl, (hR.same s3).sq, atI_nat hq3, q3, _, 0, .str (S R[j].1), rfl, rfl, sq3, rfl, ?_⟩
        walk_at "nx"
        have hSl := S_len R[i].1
        have hSlj := S_len R[j].1
        walk_at "rd"
        refine for_range (lo := 0) (n := (((S R[i].1).length : Int)).toNat) (fun k σ H4 => ∃ (ys : List V) (v6 v7 : Option V), σ = [some (.ref a), some (.ref p), some (.int (i : Nat)), some (.str (S R[i].1)), some (.int (j : Nat)), some (.str (S R[j].1)), v6, v7] ∧ Same H H4 ∧ H4 p = some (.lst ys) ∧ Items OvV H4 ys (ovI R i ++ ovJ R i j ++ ovP i R[i].1 j R[j].1 k))
          ⟨ys, _, _, rfl, s3, hp3, by simpa [ovP] using it3⟩ ?_ ?_
        · rintro k4 σ H4 hk ⟨ys, v6, v7, rfl, s4, hp4, it4⟩
          rw [Int.zero_add]
          have hk2 : k4 < R[i].1.length := by omega
          have hz5 : ys.length < sizeLine := by
            have z1 := Bk.ovI_len (Bk.lf_le h4) i
            have z2 := Bk.ovJ_len R i j
            have z3 := Bk.ovP_len i R[i].1 j R[j].1 k4
            have z4 : i * (R.length * 4) ≤ 64 * (64 * 4) := Nat.mul_le_mul (by omega) (Nat.mul_le_mul (by omega) (by omega))
            have z5 : j * (lf R i).length ≤ 64 * 4 := Nat.mul_le_mul (by omega) (Bk.lf_le h4 i)
            have z6 := it4.1
            rw [List.length_append, List.length_append] at z6
            exact Nat.lt_of_le_of_lt (m := 100000) (by omega) (by decide)
          walk_at "nx"
          refine st_ifK (decide (k4 = 0 ∧ j ≤ i)) (fun Q' hQ => ?_) (fun hb => ?_) (fun hb => ?_)
          · walk_at "rd"
            refine ite2 (fun c => ?_) (fun c => ?_)
            · have c1 : k4 = 0 := by have := V.int.inj (of_decide_eq_true c); omega
              walk_at "rd"
              exact q_of hQ (decide_eq_decide.mpr (by omega))
            · have c1 : ¬ k4 = 0 := by
                intro e
                subst e
                exact c rfl
              exact q_of hQ (decide_eq_false (by omega)).symm
          · have hb' := of_decide_eq_true hb
            refine ⟨ys, _, _, rfl, s4, hp4, ?_⟩
            rw [Bk.ovP_succ, show ovAt i R[i].1 j R[j].1 k4 = none from if_pos hb']
            simpa using it4
          · have hb' := of_decide_eq_false hb
            walk_at "nx"
            have hmin : (if ((S R[j].1).length : Int) < (S R[i].1).length - (k4 : Int) then ((S R[j].1).length : Int) else (S R[i].1).length - (k4 : Int)) = ((min (R[i].1.length - k4) R[j].1.length : Nat) : Int) := by
              split <;> omega
            refine ⟨_, rfl, _, rfl, by walk_at "sd", _, rfl, _, _, rfl, rfl, _, rfl, _, rfl, by walk_at "sd", _, _, rfl, ?_⟩
            rw [hmin]
            generalize hm : min (R[i].1.length - k4) R[j].1.length = m
            walk_at "rd"
            rw [cut_mid (by omega) (by omega), cut_to (by omega)]
            rw [show ((k4 : Nat) : Int).toNat = k4 by omega, show (((k4 : Nat) : Int) + (m : Nat)).toNat - k4 = m by omega, show ((m : Nat) : Int).toNat = m by omega]
            by_cases hc : (R[i].1.drop k4).take m = R[j].1.take m
            · have ho : ovAt i R[i].1 j R[j].1 k4 = some (R[i].1 ++ R[j].1.drop m, i, k4, j) := by
                unfold ovAt over
                rw [if_neg hb', hm, if_pos hc]; rfl
              rw [show decide (V.str (S ((R[i].1.drop k4).take m)) = V.str (S (R[j].1.take m))) = true from decide_eq_true (by rw [hc])]
              refine iteT ?_
              refine ⟨_, rfl, .inl ⟨rfl, _, SqL.of hp4⟩, ?_⟩
              walk_at "rd"
              rw [cut_from (by omega), show ((m : Nat) : Int).toNat = m by omega]
              refine ⟨by rw [S_len, S_len]; exact Nat.le_trans (m := 8) (by simp; omega) (by decide), ?_⟩
              rw [S_cat]
              walk_at "rd"
              refine ⟨by walk_at "sz", fun q9 hq9 => ?_⟩
              have s5 : Same H4 (upd H4 q9 (.tup (ovTup (R[i].1 ++ R[j].1.drop m, i, k4, j)))) := same_new hq9
              refine ⟨p, _, _, rfl, rfl, s5 _ _ hp4, hz5, ?_⟩
              refine ⟨_, _, _, rfl, same_mut (s4.trans s5) hp, upd_same, ?_⟩
              rw [Bk.ovP_succ, ho, ← List.append_assoc]
              exact it4.snoc (fun x y r => (r.same s5).mut (s5 _ _ hp4)) ⟨q9, rfl, by rw [upd_ne (ne_of_none hp4 hq9).symm]; exact upd_same⟩
            · have ho : ovAt i R[i].1 j R[j].1 k4 = none := by
                unfold ovAt over
                rw [if_neg hb', hm, if_neg hc]; rfl
              rw [show decide (V.str (S ((R[i].1.drop k4).take m)) = V.str (S (R[j].1.take m))) = false from decide_eq_false (fun e => hc (S_inj (V.str.inj e)))]
              refine iteF ?_
              walk_at "rd"
              refine ⟨ys, _, _, rfl, s4, hp4, ?_⟩
              rw [Bk.ovP_succ, ho]
              simpa using it4
        · rintro σ H4 ⟨ys, v6, v7, rfl, s4, hp4, it4⟩
          walk_at "nx"
          refine ⟨ys, _, _, _, _, rfl, s4, hp4, ?_⟩
          rw [Bk.ovJ_succ, hli, hlj, ← List.append_assoc]
          rw [show (((S R[i].1).length : Int)).toNat = R[i].1.length by omega] at it4
          exact it4
      · rintro σ H3 ⟨ys, v4, v5, v6, v7, rfl, s3, hp3, it3⟩
        walk_at "nx"
        refine ⟨ys, _, _, _, _, _, _, rfl, s3, hp3, ?_⟩
        rw [Bk.ovI_succ]
        rw [show ((xs.length : Int)).toNat = R.length by omega] at it3
        exact it3
    · rintro σ H2 ⟨ys, v2, v3, v4, v5, v6, v7, rfl, s2, hp2, it2⟩
      walk_at "rd"
      rw [show ((xs.length : Int)).toNat = R.length by omega] at it2
      exact k p ys H2 hp s2 hp2 it2
end
end Sh
set_option Elab.async false
set_option linter.all false
set_option maxRecDepth 100000
set_option maxHeartbeats 4000000
namespace Sh
open PySem PySem.Spec PyProof.Rows L2
open SX (S S_inj S_len S_cat)
open Bk (Rule firstAt lg bestUp used left drain pushS Wf Ov ovAt ovP ovJ ovI ovs lf over res1 res2 okOv qstep quarrel keyLt)
local macro_rules | `(tactic| walk_at "nx") => `(tactic| repeat (with_reducible first | refine Sh.gn_mk ?_ | refine Sh.nx_mk ?_ | refine Sh.st_nx ?_ | refine Sh.rt_mk ?_ | refine Sh.ct_mk ?_ | refine Sh.bk_mk ?_))
local macro_rules | `(tactic| walk_at "sq") => `(tactic| first | exact SqL.of upd_same | exact SqT.of upd_same | exact SqL.of (by assumption) | exact SqT.of (by assumption) | assumption | exact Or.inl (SqL.of (by assumption)) | exact Or.inr (SqT.of (by assumption)) | exact Or.inl (by assumption) | exact Or.inr (by assumption))
local macro_rules | `(tactic| walk_at "hp") => `(tactic| first | exact upd_same | assumption)
local macro_rules | `(tactic| walk_at "sz") => `(tactic| first | exact Nat.le_of_ble_eq_true rfl | omega)
local macro_rules | `(tactic| walk_at "sd") => `(tactic| first | omega | exact rfl | assumption | (show (0 : Int) < _; omega) | exact And.intro (by omega) (by omega) | exact Or.inl (And.intro (by omega) (by omega)) | exact Or.inr (And.intro (by omega) (by omega)) | omega | exact Sh.sz_S (by omega) | decide)
local macro_rules | `(tactic| walk_at "rd1") => `(tactic| first
  | (with_reducible first | refine Sh.gn_mk ?_ | refine Sh.nx_mk ?_ | refine Sh.st_nx ?_ | refine Sh.rt_mk ?_ | refine Sh.ct_mk ?_ | refine Sh.bk_mk ?_)
  | refine Exists.intro (α := V) _ (And.intro rfl ?_)
  | refine Exists.intro (α := Bool) _ (And.intro rfl ?_)
  | refine Exists.intro (α := Int) _ (And.intro rfl ?_)
  | refine Exists.intro (α := PySem.Str) _ (And.intro rfl ?_)
  | refine Exists.intro (α := Int) _ (Exists.intro (α := Int) _ (And.intro rfl (And.intro rfl ?_)))
  | refine Exists.intro (α := PySem.Str) _ (Exists.intro (α := PySem.Str) _ (And.intro rfl (And.intro rfl ?_)))
  | refine Exists.intro (α := Int) _ (Exists.intro (α := Int) _ (And.intro rfl ?_))
  | refine Or.inl (Exists.intro (α := Int) _ (And.intro rfl ?_))
  | refine Exists.intro _ (Exists.intro _ (Exists.intro _ (Exists.intro _ (And.intro rfl (And.intro rfl (And.intro (by walk_at "sq") (And.intro rfl ?_)))))))
  | refine Exists.intro _ (Exists.intro _ (Exists.intro _ (Exists.intro _ (And.intro rfl (And.intro rfl (And.intro (by walk_at "hp") (And.intro rfl ?_)))))))
  | refine And.intro (by walk_at "sd") ?_
  )
local macro_rules | `(tactic| walk_at "rd") => `(tactic| repeat walk_at "rd1")
local macro_rules | `(tactic| walk_at "lk") => `(tactic| first | exact rfl | (rw [lookup_putF, if_pos rfl]) | (rw [lookup_putF, if_neg (by decide +kernel)]; walk_at "lk"))

section
variable {P : Program} {w : World} {K : PySem.W.Frag} {mg : Str → Option Value} {base : Heap}
def spBoth (K : PySem.W.Frag) : Sp := fun vs H Q _ => ∃ (a : Addr) (xs : List V) (R : List Rule) (q : Addr) (t : List Nat) (i k j : Nat) (r1 r2 : Rule), vs = [.ref a, .ref q] ∧ RulesAt K H a xs R ∧ R.length ≤ 64 ∧ (∀ r ∈ R, r.1.length ≤ 4 ∧ r.2.length ≤ 1) ∧
  H q = some (.tup (ovTup (t, i, k, j))) ∧ R[i]? = some r1 ∧ R[j]? = some r2 ∧ t.length ≤ 100 ∧
  ∀ (p : Addr) (H' : Hp), H p = none → Same H H' → H' p = some (.tup [.str (S (res1 r1 t)), .str (S (res2 r2 t k))]) → Q (.ref p) H'
theorem c_both_results (T : Txt K mg) : Cal P w K mg base CX0 1 "both_results" (spBoth K) := by
  refine Cal.mk0 T.d_both_results sc_both_results (fun vs H Q E h => ?_) (fun f cdv A outer s H vs Q E hr h => ?_)
  · obtain ⟨a, xs, R, q, t, i, k, j, r1, r2, rfl, _⟩ := h
    rfl
  · obtain ⟨a, xs, R, q, t, i, k, j, r1, r2, rfl, hR, hl, h4, hq, hi, hj, ht, kk⟩ := h
    have hlx := hR.len
    obtain ⟨q1, hx1, sq1⟩ := hR.get hi
    obtain ⟨q2, hx2, sq2⟩ := hR.get hj
    have hlt1 := h4 _ (List.mem_of_getElem? hi)
    have hlt2 := h4 _ (List.mem_of_getElem? hj)
    refine ⟨_, (pss_cons (ps_asg (pv 1) (pg_tup (by rfl) (pgs_cons (pg_name (i := 2) sc_both_results.nd rfl (Or.inl rfl)) (pgs_cons (pg_name (i := 3) sc_both_results.nd rfl (Or.inl rfl)) (pgs_cons (pg_name (i := 4) sc_both_results.nd rfl (Or.inl rfl)) (pgs_cons (pg_name (i := 5) sc_both_results.nd rfl (Or.inl rfl)) pgs_nil))))))
  (pss_cons (ps_set (i := 6) sc_both_results.nd rfl (Or.inl rfl) (pe_op op_add_str (pe_ix ix_tup (pe_ix ix_tup (pv 0) (pv 3) (fun _ _ => rfl)) pe_int (fun _ _ => rfl)) (pe_slice sl_str (pv 2) (po_some (pe_callB call_len_str (by rfl) T.b_len (by decide +kernel) (pa_cons (pe_ix ix_tup (pe_ix ix_tup (pv 0) (pv 3) (fun _ _ => rfl)) pe_int (fun _ _ => rfl)) pa_nil))) po_none)))
  (pss_cons (ps_set (i := 7) sc_both_results.nd rfl (Or.inl rfl) (pe_op op_add_str (pe_op op_add_str (pe_slice sl_str (pv 2) po_none (po_some (pv 4))) (pe_ix ix_tup (pe_ix ix_tup (pv 0) (pv 5) (fun _ _ => rfl)) pe_int (fun _ _ => rfl))) (pe_slice sl_str (pv 2) (po_some (pe_op op_add (pv 4) (pe_callB call_len_str (by rfl) T.b_len (by decide +kernel) (pa_cons (pe_ix ix_tup (pe_ix ix_tup (pv 0) (pv 5) (fun _ _ => rfl)) pe_int (fun _ _ => rfl)) pa_nil)))) po_none)))
  (pss_one (ps_ret (pe_tup (pa_cons (pv 6) (pa_cons (pv 7) pa_nil)))))))), ?_⟩
    walk_at "rd"
    refine ⟨q, _, rfl, SqT.of hq, rfl, _, _, rfl, _, _, rfl, _, _, rfl, _, _, rfl, rfl, ?_⟩
    walk_at "rd"
    refine ⟨a, xs, _, .ref q1, rfl, rfl, hR.sq, atI_nat hx1, q1, _, 1, .str (S r1.2), rfl, rfl, sq1, rfl, ?_⟩
    refine ⟨_, rfl, _, rfl, _, rfl, ?_⟩
    refine ⟨a, xs, _, .ref q1, rfl, rfl, hR.sq, atI_nat hx1, ?_⟩
    refine ⟨q1, _, 0, .str (S r1.1), rfl, rfl, sq1, rfl, ?_⟩
    refine ⟨_, rfl, sz_S (by omega), _, rfl, _, rfl, sz_S (t := t) (by omega), ?_⟩
    walk_at "nx"
    refine ⟨_, _, rfl, rfl, ?_, ?_⟩
    · rw [cut_from (by omega), S_len, S_len]
      exact Nat.le_trans (m := 101) (by simp; omega) (by decide)
    rw [cut_from (by omega), S_cat, S_len, show ((r1.1.length : Nat) : Int).toNat = r1.1.length by omega]
    walk_at "rd"
    refine ⟨sz_S (t := t) (by omega), ?_⟩
    refine ⟨_, rfl, _, rfl, ?_⟩
    refine ⟨a, xs, _, .ref q2, rfl, rfl, hR.sq, atI_nat hx2, q2, _, 1, .str (S r2.2), rfl, rfl, sq2, rfl, ?_⟩
    rw [cut_to (by omega)]
    refine ⟨_, _, rfl, rfl, ?_, ?_⟩
    · rw [S_len, S_len]
      exact Nat.le_trans (m := 101) (by simp; omega) (by decide)
    rw [S_cat]
    refine ⟨_, rfl, _, rfl, _, rfl, _, rfl, ?_⟩
    refine ⟨a, xs, _, .ref q2, rfl, rfl, hR.sq, atI_nat hx2, q2, _, 0, .str (S r2.1), rfl, rfl, sq2, rfl, ?_⟩
    refine ⟨_, rfl, sz_S (by omega), _, _, rfl, rfl, ?_⟩
    refine ⟨_, rfl, _, rfl, sz_S (t := t) (by omega), ?_⟩
    rw [cut_from (by rw [S_len]; omega)]
    refine ⟨_, _, rfl, rfl, ?_, ?_⟩
    · rw [S_len, S_len]
      exact Nat.le_trans (m := 301) (by simp; omega) (by decide)
    rw [S_cat]
    walk_at "rd"
    refine ⟨by walk_at "sz", fun p hp => ?_⟩
    refine kk p _ hp (same_new hp) ?_
    rw [upd_same, S_len]
    rw [show (((k : Nat) : Int)).toNat = k by omega, show (((k : Nat) : Int) + (r2.1.length : Nat)).toNat = k + r2.1.length by omega]
    rfl
theorem key_lt (t u : List Nat) : tupLt [.int (t.length : Nat), .str (S t)] [.int (u.length : Nat), .str (S u)] = keyLt t u := by
  unfold keyLt
  show (if V.int (t.length : Nat) = V.int (u.length : Nat) then (if V.str (S t) = V.str (S u) then false else decide ((S t).cps.toList < (S u).cps.toList)) else decide ((t.length : Int) < (u.length : Int))) = _
  by_cases h : t.length = u.length
  · rw [if_pos (by rw [h]), if_pos h]
    by_cases e : t = u
    · subst e
      rw [if_pos rfl]
      exact (decide_eq_false (fun z => List.lt_irrefl (α := Nat) t z)).symm
    · rw [if_neg (fun z => e (S_inj (V.str.inj z)))]
  · rw [if_neg (fun z => h (by have := V.int.inj z; omega)), if_neg h]
    exact decide_eq_decide.mpr (by omega)
theorem ovs_len {R : List Rule} (h4 : ∀ r ∈ R, r.1.length ≤ 4) {o : Ov} (h : o ∈ ovs R) : o.1.length ≤ 8 := by
  obtain ⟨i, r, j, q, k, t, hr, hq, hk, c, ho, rfl⟩ := Bk.mem_ovs.mp h
  unfold over at ho
  have h1 := h4 _ (List.mem_of_getElem? hr)
  have h2 := h4 _ (List.mem_of_getElem? hq)
  split at ho
  · cases ho
    simp
    omega
  · cases ho
def qlt : Option (List Nat) → List Nat → Bool
  | none, _ => true
  | some b, t => keyLt t b
theorem qstep_eq (R : List Rule) (b : Option (List Nat)) (o : Ov) : qstep R b o = if qlt b o.1 = true then (if okOv R o = true then b else some o.1) else b := by
  unfold qstep
  cases b <;> rfl
theorem qstep_or (R : List Rule) (b : Option (List Nat)) (o : Ov) : qstep R b o = b ∨ qstep R b o = some o.1 := by
  unfold qstep
  cases b <;> (repeat' split) <;> first | exact .inl rfl | exact .inr rfl
theorem qfold_mem {R : List Rule} : ∀ (l : List Ov) (b : Option (List Nat)) {u : List Nat}, l.foldl (qstep R) b = some u → b = some u ∨ ∃ o ∈ l, o.1 = u
  | [], b, u, h => .inl h
  | o :: l, b, u, h => by
    rcases qfold_mem l _ h with q | ⟨o', m, e⟩
    · rcases qstep_or R b o with z | z
      · rw [z] at q; exact .inl q
      · rw [z] at q; exact .inr ⟨o, List.mem_cons_self, Option.some.inj q⟩
    · exact .inr ⟨o', List.mem_cons_of_mem _ m, e⟩
theorem ov_inv {R : List Rule} {t : List Nat} {i k j : Nat} (h : (t, i, k, j) ∈ ovs R) : ∃ r q, R[i]? = some r ∧ R[j]? = some q := by
  obtain ⟨i', r, j', q, k', t', hr, hq, hk, c, ho, e⟩ := Bk.mem_ovs.mp h
  cases e
  exact ⟨r, q, hr, hq⟩
def spQuarrel (K : PySem.W.Frag) : Sp := fun vs H Q _ => ∃ (a p : Addr) (xs : List V) (R : List Rule), vs = [.ref a, .ref p, .int (lg R : Nat)] ∧ RulesAt K H a xs R ∧ LeftsAt H p R ∧ Wf R ∧ R.length ≤ 64 ∧ (∀ r ∈ R, r.1.length ≤ 4 ∧ r.2.length ≤ 1) ∧
  ∀ (H' : Hp), Same H H' → Q (optS (quarrel R)) H'
theorem c_quarrel_of (T : Txt K mg) : Cal P w K mg base CX0 3 "quarrel_of" (spQuarrel K) := by
  have c_overlap_rows := c_overlap_rows (P := P) (w := w) (base := base) T
  have c_both_results := c_both_results (P := P) (w := w) (base := base) T
  have c_text_key := c_text_key (P := P) (w := w) (base := base) T
  have c_left_over := c_left_over (P := P) (w := w) (base := base) T
  refine Cal.mk0 T.d_quarrel_of sc_quarrel_of (fun vs H Q E h => ?_) (fun f cdv A outer s H vs Q E hr h => ?_)
  · obtain ⟨a, p, xs, R, rfl, _⟩ := h
    rfl
  · obtain ⟨a, p, xs, R, rfl, hR, hL, hw, hl, h4, kk⟩ := h
    have h4' : ∀ r ∈ R, r.1.length ≤ 4 := fun r m => (h4 r m).1
    refine ⟨_, (pss_cons (ps_set (i := 3) sc_quarrel_of.nd rfl (Or.inl rfl) pe_non)
  (pss_cons (ps_for PassesOwn.never rfl (pi_list (pe_c c_overlap_rows hr (by decide) rfl (pa_cons (pv 0) pa_nil))) (pg_name (i := 4) sc_quarrel_of.nd rfl (Or.inl rfl))
    (pss_one (ps_if (PW.pt (pw_or (pt_cmpR op_isN (pv 3) pe_non (nomark _)) (pw_or1 (pt_cmpR (op_ltTM hr.units) (pe_c c_text_key hr (by decide) rfl (pa_cons (pe_ix ix_tup (pv 4) pe_int (fun _ _ => rfl)) pa_nil)) (pe_c c_text_key hr (by decide) rfl (pa_cons (pv 3) pa_nil)) (nomark _)))))
      (pss_cons (ps_asg (pe_c c_both_results hr (by decide) rfl (pa_cons (pv 0) (pa_cons (pv 4) pa_nil))) (pg_tup (by rfl) (pgs_cons (pg_name (i := 5) sc_quarrel_of.nd rfl (Or.inl rfl)) (pgs_cons (pg_name (i := 6) sc_quarrel_of.nd rfl (Or.inl rfl)) pgs_nil))))
      (pss_one (ps_if (pt_cmpR op_ne (pe_c c_left_over hr (by decide) rfl (pa_cons (pv 1) (pa_cons (pv 2) (pa_cons (pv 5) pa_nil)))) (pe_c c_left_over hr (by decide) rfl (pa_cons (pv 1) (pa_cons (pv 2) (pa_cons (pv 6) pa_nil)))) (nomark _))
        (pss_one (ps_set (i := 3) sc_quarrel_of.nd rfl (Or.inl rfl) (pe_ix ix_tup (pv 4) pe_int (fun _ _ => rfl))))
        pss_nil)))
      pss_nil)))
  (pss_one (ps_ret (pv 3))))), ?_⟩
    walk_at "rd"
    refine ⟨a, xs, R, rfl, hR, hl, h4', fun p1 ys H1 hp1 s1 hq1 it1 => ?_⟩
    walk_at "nx"
    refine ⟨p1, rfl, ⟨_, SqL.of hq1⟩, ?_⟩
    refine for_lstR (K := K) (a := p1) (xs := ys) (l := ovs R) (Rel := OvV) it1.1 (fun pre σ H2 => ∃ (v4 v5 v6 : Option V), σ = [some (.ref a), some (.ref p), some (.int (lg R : Nat)), some (optS (pre.foldl (qstep R) none)), v4, v5, v6] ∧ Same H1 H2)
      ⟨_, _, _, rfl, Same.refl H1⟩ (fun pre σ H2 ⟨_, _, _, _, s2⟩ => ⟨SqL.of (s2 _ _ hq1), fun i x y h1 h2 => (it1.2 i x y h1 h2).same s2⟩) ?_ ?_
    · rintro pre o post x σ H2 e hx ⟨q, rfl, hq⟩ ⟨v4, v5, v6, rfl, s2⟩
      have ho : o ∈ ovs R := by rw [e]; simp
      have s02 := s1.trans s2
      have hto' := ovs_len h4' ho
      obtain ⟨t, i, k, j⟩ := o
      have hto : t.length ≤ 8 := hto'
      walk_at "nx"
      generalize hb : pre.foldl (qstep R) none = b
      have qt : SqT K H2 q [.str (S t), .int (i : Nat), .int (k : Nat), .int (j : Nat)] := SqT.of hq
      have e2 : (pre ++ [(t, i, k, j)]).foldl (qstep R) none = qstep R b (t, i, k, j) := by rw [List.foldl_append, hb]; rfl
      rw [e2]
      refine if_KH (qlt b t) (fun H' => Same H2 H') (fun Q' hQ => ?_) (fun hb1 H3 s3 => ?_) (fun hb1 H3 s3 => ?_)
      · cases b with
        | none =>
          walk_at "rd"
          exact hQ _ (Same.refl _)
        | some u =>
          have hu8 : u.length ≤ 8 := by
            rcases qfold_mem _ _ hb with z | ⟨o, m, rfl⟩
            · cases z
            · exact ovs_len h4' (by rw [e]; exact List.mem_append_left _ m)
          walk_at "rd"
          refine ⟨t, rfl, by omega, fun p3 hp3 => ?_⟩
          have s3 : Same H2 (upd H2 p3 (.tup [.int (t.length : Nat), .str (S t)])) := same_new hp3
          walk_at "rd"
          refine ⟨u, rfl, by omega, fun p4 hp4 => ?_⟩
          have s4 := s3.trans (same_new (o := .tup [.int (u.length : Nat), .str (S u)]) hp4)
          refine ⟨p3, p4, _, _, rfl, rfl, SqT.of (same_new hp4 _ _ upd_same), SqT.of upd_same, rfl, _, rfl, ?_⟩
          exact q_of (hQ _ s4) (key_lt t u)
      · obtain ⟨r1, r2, hr1, hr2⟩ := ov_inv ho
        walk_at "nx"
        refine ⟨_, rfl, _, rfl, a, xs, R, q, t, i, k, j, r1, r2, rfl, hR.same (s02.trans s3), hl, h4, s3 _ _ hq, hr1, hr2, by omega, fun p3 H4 hp3 s4 hq3 => ?_⟩
        walk_at "nx"
        refine ⟨p3, _, rfl, SqT.of hq3, rfl, _, _, rfl, _, _, rfl, rfl, ?_⟩
        walk_at "nx"
        have s24 := s3.trans s4
        have hL4 := hL.same (s02.trans s24)
        have l1 := (h4 _ (List.mem_of_getElem? hr1)).2
        have l2 := (h4 _ (List.mem_of_getElem? hr2)).2
        have hk : okOv R (t, i, k, j) = decide (left R (res1 r1 t) = left R (res2 r2 t k)) := by
          unfold okOv
          rw [hr1, hr2]
        have hq2 : qstep R b (t, i, k, j) = if okOv R (t, i, k, j) = true then b else some t := by
          rw [qstep_eq]
          exact if_pos hb1
        refine if_KH (!okOv R (t, i, k, j)) (fun H' => Same H4 H') (fun Q' hQ => ?_) (fun hb2 H5 s5 => ?_) (fun hb2 H5 s5 => ?_)
        · walk_at "nx"
          refine ⟨_, rfl, _, rfl, _, rfl, p, R, res1 r1 t, rfl, hL4, hw, by unfold res1; simp; omega, fun H5 s5 => ?_⟩
          refine ⟨_, rfl, _, rfl, _, rfl, p, R, res2 r2 t k, rfl, hL4.same s5, hw, by unfold res2; simp; omega, fun H6 s6 => ?_⟩
          refine ⟨rfl, _, rfl, q_of (hQ _ (s5.trans s6)) ?_⟩
          rw [hk]
          by_cases ee : left R (res1 r1 t) = left R (res2 r2 t k)
          · rw [decide_eq_true ee, decide_eq_true (by rw [ee])]
          · rw [decide_eq_false ee, decide_eq_false (fun z => ee (S_inj (V.str.inj z)))]
        · have hok : okOv R (t, i, k, j) = false := by simpa using hb2
          walk_at "nx"
          refine ⟨_, rfl, q, _, _, _, rfl, rfl, SqT.of ((s24.trans s5) _ _ hq), rfl, ?_⟩
          walk_at "nx"
          rw [hq2, hok]
          exact ⟨_, _, _, rfl, s2.trans (s24.trans s5)⟩
        · have hok : okOv R (t, i, k, j) = true := by simpa using hb2
          walk_at "nx"
          rw [hq2, hok]
          exact ⟨_, _, _, rfl, s2.trans (s24.trans s5)⟩
      · walk_at "nx"
        have hq2 : qstep R b (t, i, k, j) = b := by
          rw [qstep_eq]
          exact if_neg (by show ¬ qlt b t = true; rw [hb1]; decide)
        rw [hq2]
        exact ⟨_, _, _, rfl, s2.trans s3⟩
    · rintro σ H2 ⟨v4, v5, v6, rfl, s2⟩
      walk_at "rd"
      exact kk H2 (s1.trans s2)
end
end Sh
set_option Elab.async false
set_option linter.all false
set_option maxRecDepth 100000
set_option maxHeartbeats 4000000
namespace Sh
open PySem PySem.Spec PyProof.Rows L2
open SX (S S_inj S_len S_cat)
open Bk (Rule firstAt lg bestUp used left drain pushS Wf)
/-- a comprehension over a list whose items are told by l -/
theorem lc_lstF {α : Type} {f : α → V} {l : List α} {K : PySem.W.Frag} {a : Addr} {g : TG} {tt : TT} {te : TE} {vs : List Nat} {σ : L2.St} {H1 : Hp} {D : Addr} {Qd : Hp → Prop}
    (Pv : List α → Hp → Prop) (h0 : Pv [] (upd H1 D (.lst []))) (hG : ∀ pre H, Pv pre H → SqL K H a (l.map f))
    (hs : ∀ pre y post H, l = pre ++ y :: post → Pv pre H → g (f y) (wipe σ vs) H fun σ2 H2 => wipe σ2 vs = wipe σ vs ∧ tt σ2 H2 fun b H3 =>
      if b = true then te σ2 H3 fun y' H4 => ∃ acc, H4 D = some (.lst acc) ∧ acc.length < sizeLine ∧ Pv (pre ++ [y]) (upd H4 D (.lst (acc ++ [y']))) else Pv (pre ++ [y]) H3) (hd : ∀ H, Pv l H → Qd H) :
    ∃ W : Nat → Nat → Hp → Prop, (∃ m, W 0 m (upd H1 D (.lst []))) ∧ ∀ i m H, W i m H →
      ((Itl K a).stop i H ∧ Qd H) ∨ ((Itl K a).go i H ∧ ∃ Nx : Hp → Prop, (∀ H', Nx H' → ∃ m', m' < m ∧ W (i + 1) m' H') ∧ ∀ x H', (Itl K a).yld i H x H' → g x (wipe σ vs) H' fun σ2 H2 => wipe σ2 vs = wipe σ vs ∧ tt σ2 H2 fun b H3 =>
        if b = true then te σ2 H3 fun y H4 => ∃ acc, H4 D = some (.lst acc) ∧ acc.length < sizeLine ∧ Nx (upd H4 D (.lst (acc ++ [y]))) else Nx H3) := by
  have w := walk_list (K := K) (a := a) (xs := l.map f)
  refine lc_it w (fun i H => Pv (l.take i) H) (by simpa using h0) (fun i H _ p => hG _ H p) (fun i x H H' hi p y => ?_) (fun H p => hd H (by simpa using p))
  obtain ⟨rfl, hx⟩ := y
  have hi' : i < l.length := by simpa using hi
  have hl : l[i]? = some l[i] := by simp [hi']
  obtain ⟨e1, e2⟩ := take_succ_of hl
  have hx2 : x = f l[i] := by
    rw [List.getElem?_map, hl] at hx
    exact (Option.some.inj hx).symm
  subst hx2
  have q := hs _ l[i] _ H' e2 p
  rw [← e1] at q
  exact q
local macro_rules | `(tactic| walk_at "nx") => `(tactic| repeat (with_reducible first | refine Sh.gn_mk ?_ | refine Sh.nx_mk ?_ | refine Sh.st_nx ?_ | refine Sh.rt_mk ?_ | refine Sh.ct_mk ?_ | refine Sh.bk_mk ?_))
local macro_rules | `(tactic| walk_at "sq") => `(tactic| first | exact SqL.of upd_same | exact SqT.of upd_same | exact SqL.of (by assumption) | exact SqT.of (by assumption) | assumption | exact Or.inl (SqL.of (by assumption)) | exact Or.inr (SqT.of (by assumption)) | exact Or.inl (by assumption) | exact Or.inr (by assumption))
local macro_rules | `(tactic| walk_at "hp") => `(tactic| first | exact upd_same | assumption)
local macro_rules | `(tactic| walk_at "sz") => `(tactic| first | exact Nat.le_of_ble_eq_true rfl | omega)
local macro_rules | `(tactic| walk_at "sd") => `(tactic| first | omega | exact rfl | assumption | (show (0 : Int) < _; omega) | exact And.intro (by omega) (by omega) | exact Or.inl (And.intro (by omega) (by omega)) | exact Or.inr (And.intro (by omega) (by omega)) | omega | exact Sh.sz_S (by omega) | decide)
local macro_rules | `(tactic| walk_at "rd1") => `(tactic| first
  | (with_reducible first | refine Sh.gn_mk ?_ | refine Sh.nx_mk ?_ | refine Sh.st_nx ?_ | refine Sh.rt_mk ?_ | refine Sh.ct_mk ?_ | refine Sh.bk_mk ?_)
  | refine Exists.intro (α := V) _ (And.intro rfl ?_)
  | refine Exists.intro (α := Bool) _ (And.intro rfl ?_)
  | refine Exists.intro (α := Int) _ (And.intro rfl ?_)
  | refine Exists.intro (α := PySem.Str) _ (And.intro rfl ?_)
  | refine Exists.intro (α := Int) _ (Exists.intro (α := Int) _ (And.intro rfl (And.intro rfl ?_)))
  | refine Exists.intro (α := PySem.Str) _ (Exists.intro (α := PySem.Str) _ (And.intro rfl (And.intro rfl ?_)))
  | refine Exists.intro (α := Int) _ (Exists.intro (α := Int) _ (And.intro rfl ?_))
  | refine Or.inl (Exists.intro (α := Int) _ (And.intro rfl ?_))
  | refine Exists.intro _ (Exists.intro _ (Exists.intro _ (Exists.intro _ (And.intro rfl (And.intro rfl (And.intro (by walk_at "sq") (And.intro rfl ?_)))))))
  | refine Exists.intro _ (Exists.intro _ (Exists.intro _ (Exists.intro _ (And.intro rfl (And.intro rfl (And.intro (by walk_at "hp") (And.intro rfl ?_)))))))
  | refine And.intro (by walk_at "sd") ?_
  )
local macro_rules | `(tactic| walk_at "rd") => `(tactic| repeat walk_at "rd1")
local macro_rules | `(tactic| walk_at "lk") => `(tactic| first | exact rfl | (rw [lookup_putF, if_pos rfl]) | (rw [lookup_putF, if_neg (by decide +kernel)]; walk_at "lk"))

section
variable {P : Program} {w : World} {K : PySem.W.Frag} {mg : Str → Option Value} {base : Heap}
abbrev vS (t : List Nat) : V := .str (S t)
/-- the begins of the left sides -/
def Beg (ls : List (List Nat)) (u : List Nat) : Prop := u = [] ∨ ∃ l ∈ ls, ∃ n, n < l.length ∧ u = l.take n
def spKept (K : PySem.W.Frag) : Sp := fun vs H Q _ => ∃ (p : Addr) (ls : List (List Nat)) (m : Nat) (t : List Nat), vs = [.ref p, .int (m : Nat), .str (S t)] ∧ H p = some (.lst (ls.map vS)) ∧ ls.length ≤ 64 ∧ (∀ l ∈ ls, l.length ≤ 4) ∧ m ≤ 4 ∧ t.length ≤ 100 ∧
  ∀ (u : List Nat) (H' : Hp), Beg ls u → Same H H' → Q (.str (S u)) H'
theorem c_kept_tail (T : Txt K mg) : Cal P w K mg base CX0 1 "kept_tail" (spKept K) := by
  refine Cal.mk0 T.d_kept_tail sc_kept_tail (fun vs H Q E h => ?_) (fun f cdv A outer s H vs Q E hr h => ?_)
  · obtain ⟨p, ls, m, t, rfl, _⟩ := h
    rfl
  · obtain ⟨p, ls, m, t, rfl, hp, hl, h4, hm, ht, kk⟩ := h
    have hSl := S_len t
    refine ⟨_, (pss_cons (ps_for PassesOwn.never rfl (pi_range3 (by rfl) T.b_range (pa_cons (pe_callB (call_min2 rfl) (by rfl) T.b_min (by decide +kernel) (pa_cons (pe_op op_sub (pv 1) pe_int) (pa_cons (pe_callB call_len_str (by rfl) T.b_len (by decide +kernel) (pa_cons (pv 2) pa_nil)) pa_nil))) (pa_cons pe_int (pa_cons (pe_un un_neg pe_int) pa_nil)))) (pg_name (i := 3) sc_kept_tail.nd rfl (Or.inr rfl))
    (pss_cons (ps_set (i := 4) sc_kept_tail.nd rfl (Or.inr rfl) (pe_slice sl_str (pv 2) (po_some (pe_op op_sub (pe_callB call_len_str (by rfl) T.b_len (by decide +kernel) (pa_cons (pv 2) pa_nil)) (pv 3))) po_none))
    (pss_one (ps_if (pt_val (pe_callB (cr_any rfl) (by rfl) T.b_any (by decide +kernel) (pa_cons (pe_lc (own := [("left", 5)]) (g := gName 5) (tt := tYes) rfl sc_kept_tail.nd (pi_list (pv 0)) (blkOk_by (N := ["lefts", "longest", "text", "size", "tail", "left"]) (sc := defScope s_kept_tail) (by decide +kernel)) (fun _ _ _ _ _ => (pg_name (i := 5) sc_kept_tail.nd rfl (Or.inl rfl))) (fun _ _ _ _ _ => pts_nil) (fun _ _ _ _ _ => (pe_and (pe_m1 PySem.F.slot_str_startswith PySem.F.type_str_startswith mt_startswith (pv 5) (pv 4)) (pe_one (pe_cmpR op_gt (pe_callB call_len_str (by rfl) T.b_len (by decide +kernel) (pa_cons (pv 5) pa_nil)) (pv 3) (nomark _)))))) pa_nil)))
      (pss_one (ps_ret (pv 4)))
      pss_nil))))
  (pss_one (ps_ret pe_str))), ?_⟩
    walk_at "rd"
    refine ⟨_, _, _, _, rfl, RgC.neg (by split <;> omega) (by split <;> omega) (by omega) (by omega), ?_⟩
    refine for_rangeC (n := _) (fun i σ H2 => ∃ (v3 v4 v5 : Option V), σ = [some (.ref p), some (.int (m : Nat)), some (.str (S t)), v3, v4, v5] ∧ Same H H2)
      ⟨_, _, _, rfl, Same.refl H⟩ ?_ ?_
    · rintro i σ H2 hi ⟨v3, v4, v5, rfl, s2⟩
      obtain ⟨d, hd, hd1, hd2, hd3⟩ : ∃ d : Nat, (if ((S t).length : Int) < (m : Int) - 1 then ((S t).length : Int) else (m : Int) - 1) + (i : Nat) * (-1) = (d : Int) ∧ 1 ≤ d ∧ d ≤ t.length ∧ d < m := by
        refine ⟨((if ((S t).length : Int) < (m : Int) - 1 then ((S t).length : Int) else (m : Int) - 1) + (i : Nat) * (-1)).toNat, ?_, ?_, ?_, ?_⟩ <;> split at hi <;> split <;> omega
      rw [hd]
      walk_at "nx"
      refine ⟨_, rfl, _, rfl, _, rfl, sz_S (t := t) (by omega), _, rfl, _, _, rfl, rfl, _, rfl, _, rfl, sz_S (t := t) (by omega), ?_⟩
      rw [cut_from (by omega), hSl, show ((t.length : Int) - (d : Int)).toNat = t.length - d by omega]
      generalize hu : t.drop (t.length - d) = u
      have hul : u.length = d := by rw [← hu]; simp; omega
      walk_at "nx"
      refine if_KH (ls.any fun l => u.isPrefixOf l && decide (d < l.length)) (fun H' => Same H2 H') (fun Q' hQ => ?_) (fun hb H3 s3 => ?_) (fun hb H3 s3 => ?_)
      · walk_at "nx"
        refine ⟨_, rfl, p, rfl, ⟨_, SqL.of (s2 _ _ hp)⟩, fun D hD => lc_lstF (K := K) (a := p) (f := vS) (l := ls) (fun pre H3 => H3 D = some (.lst ((pre.map fun l => (u.isPrefixOf l && decide (d < l.length))).map V.bl)) ∧ Same H2 H3)
          ⟨upd_same, same_new hD⟩ (fun pre H3 ⟨_, s3⟩ => SqL.of (s3 _ _ (s2 _ _ hp))) ?_ ?_⟩
        · rintro pre l post H3 e ⟨h3, s3⟩
          refine ⟨rfl, ty_T ?_⟩
          have hll := h4 l (by rw [e]; simp)
          have hpl : pre.length ≤ 64 := by
            have := congrArg List.length e
            simp at this
            omega
          refine ev_J (fun v H' => v = .bl (u.isPrefixOf l && decide (d < l.length)) ∧ H' = H3) (fun Q'' hQ2 => ?_) ?_
          · refine ⟨_, rfl, ⟨_, rfl⟩, _, rfl, _, _, rfl, rfl, _, rfl, ?_⟩
            rw [startswith_S]
            cases hc : u.isPrefixOf l with
            | false => exact iteF (hQ2 _ _ ⟨by rw [hc]; rfl, rfl⟩)
            | true =>
              refine iteT ⟨_, rfl, _, rfl, sz_S (t := l) (by omega), _, rfl, _, _, rfl, rfl, ?_⟩
              refine hQ2 _ _ ⟨?_, rfl⟩
              rw [S_len, hc, Bool.true_and]
              exact congrArg V.bl (decide_eq_decide.mpr (by omega))
          · rintro v H' ⟨rfl, rfl⟩
            refine ⟨_, h3, by rw [List.length_map, List.length_map]; exact Nat.lt_of_le_of_lt (m := 64) hpl (by decide), ?_, same_mut s3 hD⟩
            rw [List.map_append, List.map_append]
            exact upd_same
        · rintro H3 ⟨h3, s3⟩
          refine ⟨D, _, rfl, SqL.of h3, _, rfl, ?_⟩
          refine q_of (hQ _ s3) ?_
          rw [List.any_map]
          rfl
      · obtain ⟨l, hl1, hl2⟩ := List.any_eq_true.mp hb
        rw [Bool.and_eq_true] at hl2
        have hpre := List.prefix_iff_eq_take.mp (List.isPrefixOf_iff_prefix.mp hl2.1)
        walk_at "rd"
        exact kk u H3 (.inr ⟨l, hl1, d, of_decide_eq_true hl2.2, by rw [← hul]; exact hpre⟩) (s2.trans s3)
      · walk_at "nx"
        exact ⟨_, _, _, rfl, s2.trans s3⟩
    · rintro σ H2 ⟨v3, v4, v5, rfl, s2⟩
      walk_at "rd"
      exact kk [] H2 (.inl rfl) s2
end
end Sh
set_option Elab.async false
set_option linter.all false
set_option maxRecDepth 100000
set_option maxHeartbeats 4000000
namespace Sh
open PySem PySem.Spec PyProof.Rows L2
open SX (S S_inj S_len S_cat)
open Bk (Rule firstAt lg bestUp used left drain pushS Wf)
local macro_rules | `(tactic| walk_at "nx") => `(tactic| repeat (with_reducible first | refine Sh.gn_mk ?_ | refine Sh.nx_mk ?_ | refine Sh.st_nx ?_ | refine Sh.rt_mk ?_ | refine Sh.ct_mk ?_ | refine Sh.bk_mk ?_))
local macro_rules | `(tactic| walk_at "sq") => `(tactic| first | exact SqL.of upd_same | exact SqT.of upd_same | exact SqL.of (by assumption) | exact SqT.of (by assumption) | assumption | exact Or.inl (SqL.of (by assumption)) | exact Or.inr (SqT.of (by assumption)) | exact Or.inl (by assumption) | exact Or.inr (by assumption))
local macro_rules | `(tactic| walk_at "hp") => `(tactic| first | exact upd_same | assumption)
local macro_rules | `(tactic| walk_at "sz") => `(tactic| first | exact Nat.le_of_ble_eq_true rfl | omega)
local macro_rules | `(tactic| walk_at "sd") => `(tactic| first | omega | exact rfl | assumption | (show (0 : Int) < _; omega) | exact And.intro (by omega) (by omega) | exact Or.inl (And.intro (by omega) (by omega)) | exact Or.inr (And.intro (by omega) (by omega)) | omega | exact Sh.sz_S (by omega) | decide)
local macro_rules | `(tactic| walk_at "rd1") => `(tactic| first
  | (with_reducible first | refine Sh.gn_mk ?_ | refine Sh.nx_mk ?_ | refine Sh.st_nx ?_ | refine Sh.rt_mk ?_ | refine Sh.ct_mk ?_ | refine Sh.bk_mk ?_)
  | refine Exists.intro (α := V) _ (And.intro rfl ?_)
  | refine Exists.intro (α := Bool) _ (And.intro rfl ?_)
  | refine Exists.intro (α := Int) _ (And.intro rfl ?_)
  | refine Exists.intro (α := PySem.Str) _ (And.intro rfl ?_)
  | refine Exists.intro (α := Int) _ (Exists.intro (α := Int) _ (And.intro rfl (And.intro rfl ?_)))
  | refine Exists.intro (α := PySem.Str) _ (Exists.intro (α := PySem.Str) _ (And.intro rfl (And.intro rfl ?_)))
  | refine Exists.intro (α := Int) _ (Exists.intro (α := Int) _ (And.intro rfl ?_))
  | refine Or.inl (Exists.intro (α := Int) _ (And.intro rfl ?_))
  | refine Exists.intro _ (Exists.intro _ (Exists.intro _ (Exists.intro _ (And.intro rfl (And.intro rfl (And.intro (by walk_at "sq") (And.intro rfl ?_)))))))
  | refine Exists.intro _ (Exists.intro _ (Exists.intro _ (Exists.intro _ (And.intro rfl (And.intro rfl (And.intro (by walk_at "hp") (And.intro rfl ?_)))))))
  | refine And.intro (by walk_at "sd") ?_
  )
local macro_rules | `(tactic| walk_at "rd") => `(tactic| repeat walk_at "rd1")
local macro_rules | `(tactic| walk_at "lk") => `(tactic| first | exact rfl | (rw [lookup_putF, if_pos rfl]) | (rw [lookup_putF, if_neg (by decide +kernel)]; walk_at "lk"))

section
variable {P : Program} {w : World} {K : PySem.W.Frag} {mg : Str → Option Value} {base : Heap}
/-- the names numbered so far -/
structure NumV (ls ns : List (List Nat)) (kvs : List (Key × V)) : Prop where
  nod : ns.Nodup
  beg : ∀ u ∈ ns, Beg ls u
  len : kvs.length ≤ ns.length
  new : ∀ u, u ∉ ns → valV kvs (Sum.inr (S u)) = none
  val : ∀ u ∈ ns, ∃ i : Int, valV kvs (Sum.inr (S u)) = some (.int i)
theorem beg_len {ls ns : List (List Nat)} (h : ns.Nodup) (b : ∀ u ∈ ns, Beg ls u) (h4 : ∀ l ∈ ls, l.length ≤ 4) : ns.length ≤ 1 + ls.length * 4 := by
  have e : ∀ ls : List (List Nat), (∀ l ∈ ls, l.length ≤ 4) → (ls.flatMap fun l => (List.range l.length).map l.take).length ≤ ls.length * 4 := by
    intro ls
    induction ls with
    | nil => intro _; simp
    | cons l ls ih =>
      intro h
      rw [List.flatMap_cons, List.length_append, List.length_map, List.length_range, List.length_cons]
      have := ih fun x m => h x (List.mem_cons_of_mem _ m)
      have := h l List.mem_cons_self
      omega
  have s : ns ⊆ [] :: (ls.flatMap fun l => (List.range l.length).map l.take) := by
    intro u hu
    rcases b u hu with rfl | ⟨l, hl, n, hn, rfl⟩
    · exact List.mem_cons_self
    · exact List.mem_cons_of_mem _ (List.mem_flatMap.mpr ⟨l, hl, List.mem_map.mpr ⟨n, List.mem_range.mpr hn, rfl⟩⟩)
  have := List.Nodup.length_le_of_subset h s
  have := e ls h4
  simp only [List.length_cons] at *
  omega
theorem Beg.len {ls : List (List Nat)} (h4 : ∀ l ∈ ls, l.length ≤ 4) {u : List Nat} (h : Beg ls u) : u.length ≤ 4 := by
  rcases h with rfl | ⟨l, hl, n, hn, rfl⟩
  · simp
  · have := h4 l hl
    simp
    omega
theorem NumV.more {ls ns : List (List Nat)} {kvs : List (Key × V)} (h : NumV ls ns kvs) {u : List Nat} (b : Beg ls u) (n : u ∉ ns) (i : Int) : NumV ls (ns ++ [u]) (putK kvs (Sum.inr (S u)) (.int i)) := by
  refine ⟨?_, ?_, ?_, ?_, ?_⟩
  · rw [List.nodup_append]
    refine ⟨h.nod, by simp, fun a ha b hb => ?_⟩
    have : b = u := by simpa using hb
    subst this
    intro e
    exact n (e ▸ ha)
  · intro v hv
    rcases List.mem_append.mp hv with q | q
    · exact h.beg v q
    · have : v = u := by simpa using q
      exact this ▸ b
  · rw [putK_new _ (h.new u n)]
    have := h.len
    simp
    omega
  · intro v hv
    have h1 : v ∉ ns := fun z => hv (List.mem_append_left _ z)
    have h2 : v ≠ u := fun z => hv (by rw [z]; simp)
    rw [valV_put, if_neg (fun e => h2 (S_inj (Sum.inr.inj e)))]
    exact h.new v h1
  · intro v hv
    rw [valV_put]
    by_cases e : v = u
    · rw [if_pos (by rw [e])]
      exact ⟨i, rfl⟩
    · rw [if_neg (fun z => e (S_inj (Sum.inr.inj z)))]
      rcases List.mem_append.mp hv with q | q
      · exact h.val v q
      · exact absurd (by simpa using q) e
theorem NumV.start (ls : List (List Nat)) : NumV ls [[]] (mergeK [] [((Sum.inr (S []) : Key), .int 0)]) := by
  have e : NumV ls [] [] := ⟨List.nodup_nil, fun u h => (by cases h), Nat.le_refl _, fun u h => rfl, fun u h => (by cases h)⟩
  exact e.more (.inl rfl) (by simp) 0
theorem lg_le4 {R : List Rule} {m : Nat} (h : ∀ r ∈ R, r.1.length ≤ m) : lg R ≤ m := by
  unfold lg
  rcases Bk.foldl_max_mem (l := R.map (·.1.length)) (a := 0) with q | q
  · rw [q]; omega
  · obtain ⟨r, hr, e⟩ := List.mem_map.mp q
    rw [← e]
    exact h r hr
theorem putK_leS (c : List (Key × V)) (k : Key) (x : V) : (putK c k x).length ≤ c.length + 1 := by
  unfold putK
  split <;> simp
structure MInv (H : Hp) (pD pN pM pV : Addr) (ls ns : List (List Nat)) (kvs : List (Key × V)) (ms : List V) : Prop where
  d : H pD = some (.lst (ls.map vS))
  n : H pN = some (.lst (ns.map vS))
  m : H pM = some (.dK kvs)
  v : H pV = some (.lst ms)
theorem MInv.same {H H' : Hp} {pD pN pM pV : Addr} {ls ns : List (List Nat)} {kvs : List (Key × V)} {ms : List V} (h : MInv H pD pN pM pV ls ns kvs ms) (s : Same H H') : MInv H' pD pN pM pV ls ns kvs ms :=
  ⟨s _ _ h.d, s _ _ h.n, s _ _ h.m, s _ _ h.v⟩
def spMoves (K : PySem.W.Frag) : Sp := fun vs H Q _ => ∃ (a : Addr) (xs : List V) (R : List Rule) (sg : List Nat), vs = [.str (S sg), .ref a] ∧ RulesAt K H a xs R ∧ R.length ≤ 64 ∧ (∀ r ∈ R, r.1.length ≤ 4) ∧ sg.length ≤ 26 ∧
  ∀ (p : Addr) (H' : Hp), Same H H' → Q (.ref p) H'
theorem c_end_moves (T : Txt K mg) : Cal P w K mg base CX0 2 "end_moves" (spMoves K) := by
  have c_longest_left := c_longest_left (P := P) (w := w) (base := base) T
  have c_kept_tail := c_kept_tail (P := P) (w := w) (base := base) T
  refine Cal.mk0 T.d_end_moves sc_end_moves (fun vs H Q E h => ?_) (fun f cdv A outer s H vs Q E hr h => ?_)
  · obtain ⟨a, xs, R, sg, rfl, _⟩ := h
    rfl
  · obtain ⟨a, xs, R, sg, rfl, hR, hl, h4, hsg, kk⟩ := h
    have hu := hu_of hr
    have hSl := S_len sg
    refine ⟨_, (pss_cons (ps_setLc (i := 2) (own := [("rule", 11)]) (g := gName 11) (tt := tYes) (by rfl) sc_end_moves.nd rfl rfl (sw_true rfl rfl rfl (by decide +kernel)) (pi_tup (pv 1)) (blkOk_by (N := ["signs", "rules", "lefts", "names", "numbers", "moves", "longest", "row", "sign", "text", "tail", "rule", "left"]) (sc := defScope s_end_moves) (by decide +kernel)) (fun _ _ _ _ _ => (pg_name (i := 11) sc_end_moves.nd rfl (Or.inl rfl))) (fun _ _ _ _ _ => pts_nil) (fun _ _ _ _ _ => (pe_ix ix_tupB (pv 11) pe_int (fun _ _ => rfl))))
  (pss_cons (ps_set (i := 3) sc_end_moves.nd rfl (Or.inl rfl) (pe_lst (pa_cons pe_str pa_nil)))
  (pss_cons (ps_set (i := 4) sc_end_moves.nd rfl (Or.inl rfl) (pe_disp (pps_cons pe_str pe_int pps_nil) (by rfl) (by rfl) (fun z => by cases z) (by decide)))
  (pss_cons (ps_set (i := 5) sc_end_moves.nd rfl (Or.inl rfl) (pe_lst pa_nil))
  (pss_cons (ps_set (i := 6) sc_end_moves.nd rfl (Or.inl rfl) (pe_c c_longest_left hr (by decide) rfl (pa_cons (pv 1) pa_nil)))
  (pss_cons (ps_while PassesOwn.never (pt_cmpR op_lt (pe_callB call_len_seq (by rfl) T.b_len (by decide +kernel) (pa_cons (pv 5) pa_nil)) (pe_callB call_len_seq (by rfl) T.b_len (by decide +kernel) (pa_cons (pv 3) pa_nil)) (nomark _))
    (pss_cons (ps_set (i := 7) sc_end_moves.nd rfl (Or.inl rfl) pe_dnewK)
    (pss_cons (ps_for PassesOwn.never rfl (pi_str (pv 0)) (pg_name (i := 8) sc_end_moves.nd rfl (Or.inl rfl))
      (pss_cons (ps_set (i := 9) sc_end_moves.nd rfl (Or.inr rfl) (pe_op op_add_str (pe_ix ix_list (pv 3) (pe_callB call_len_seq (by rfl) T.b_len (by decide +kernel) (pa_cons (pv 5) pa_nil)) (fun _ _ => rfl)) (pv 8)))
      (pss_one (ps_if (pt_not (pt_val (pe_callB (cr_any rfl) (by rfl) T.b_any (by decide +kernel) (pa_cons (pe_lc (own := [("left", 12)]) (g := gName 12) (tt := tYes) rfl sc_end_moves.nd (pi_list (pv 2)) (blkOk_by (N := ["signs", "rules", "lefts", "names", "numbers", "moves", "longest", "row", "sign", "text", "tail", "rule", "left"]) (sc := defScope s_end_moves) (by decide +kernel)) (fun _ _ _ _ _ => (pg_name (i := 12) sc_end_moves.nd rfl (Or.inl rfl))) (fun _ _ _ _ _ => pts_nil) (fun _ _ _ _ _ => (pe_m1 PySem.F.slot_str_endswith PySem.F.type_str_endswith mt_endswith (pv 9) (pv 12)))) pa_nil))))
        (pss_cons (ps_set (i := 10) sc_end_moves.nd rfl (Or.inl rfl) (pe_c c_kept_tail hr (by decide) rfl (pa_cons (pv 2) (pa_cons (pv 6) (pa_cons (pv 9) pa_nil)))))
        (pss_cons (ps_if (pt_cmp (pc_dnotin hu (pv 10) (pv 4)))
          (pss_cons (ps_dput hu (pv 4) (pv 10) (pe_callB call_len_seq (by rfl) T.b_len (by decide +kernel) (pa_cons (pv 3) pa_nil)) rfl)
          (pss_one (ps_expr (pe_bm PySem.F.plainAttrs_list PySem.F.slot_list_append PySem.F.type_list_append mt_append (pv 3) (pa_cons (pv 10) pa_nil)))))
          pss_nil)
        (pss_one (ps_dput hu (pv 7) (pv 8) (pe_dget hu (pv 4) (pv 10) (fun _ _ => rfl)) rfl))))
        pss_nil))))
    (pss_one (ps_expr (pe_bm PySem.F.plainAttrs_list PySem.F.slot_list_append PySem.F.type_list_append mt_append (pv 5) (pa_cons (pv 7) pa_nil)))))))
  (pss_one (ps_ret (pv 5))))))))), ?_⟩
    walk_at "rd"
    have h4' : ∀ l ∈ R.map (·.1), l.length ≤ 4 := by
      intro l hl
      obtain ⟨r, hr, rfl⟩ := List.mem_map.mp hl
      exact h4 r hr
    refine ⟨a, rfl, ⟨_, hR.sq⟩, fun pD hpD => lc_tupR (K := K) (a := a) (xs := xs) (l := R) (Rel := fun H v r => ∃ q, v = .ref q ∧ SqT K H q (rTup r)) hR.len
      (fun pre H3 => H3 pD = some (.lst ((pre.map (·.1)).map vS)) ∧ Same H H3) ⟨upd_same, same_new hpD⟩ (fun pre H3 ⟨_, s3⟩ => ⟨(hR.same s3).sq, (hR.same s3).it⟩) ?_ ?_⟩
    · rintro pre r post x H3 e hx ⟨q, rfl, sq⟩ ⟨h3, s3⟩
      refine ⟨rfl, ty_T ?_⟩
      have hpl : pre.length ≤ 64 := by
        have := congrArg List.length e
        simp at this
        omega
      refine ⟨_, rfl, q, _, 0, .str (S r.1), rfl, rfl, sq, rfl, _, h3, by rw [List.length_map, List.length_map]; exact Nat.lt_of_le_of_lt (m := 64) hpl (by decide), ?_, same_mut s3 hpD⟩
      rw [List.map_append, List.map_append]
      exact upd_same
    · rintro H1 ⟨hD1, s1⟩
      walk_at "nx"
      refine ⟨by walk_at "sz", fun pN hpN => ?_⟩
      have hDN : pD ≠ pN := ne_of_none hD1 hpN
      have s2 := same_new (o := .lst [.str (Str.ofString "")]) hpN
      walk_at "nx"
      intro pM hpM
      have s3 := s2.trans (same_new (o := .dK []) hpM)
      refine ⟨upd_same, [((Sum.inr (S []) : Key), .int 0)], rfl, by decide, ?_⟩
      generalize hN2 : upd H1 pN (.lst [.str (Str.ofString "")]) = HN at hpM s2 s3 ⊢
      have hn2 : HN pN = some (.lst ([[]].map vS)) := by rw [← hN2]; exact upd_same
      have s4 : Same HN (upd (upd HN pM (.dK [])) pM (.dK (mergeK [] [((Sum.inr (S []) : Key), .int 0)]))) := same_mut (same_new hpM) hpM
      generalize hM2 : upd (upd HN pM (.dK [])) pM (.dK (mergeK [] [((Sum.inr (S []) : Key), .int 0)])) = HM at s4 ⊢
      have hm2 : HM pM = some (.dK (mergeK [] [((Sum.inr (S []) : Key), .int 0)])) := by rw [← hM2]; exact upd_same
      walk_at "nx"
      refine ⟨by walk_at "sz", fun pV hpV => ?_⟩
      have hn3 := s4 _ _ hn2
      have hd3 := s4 _ _ (s2 _ _ hD1)
      have hNV : pN ≠ pV := ne_of_none hn3 hpV
      have hDV : pD ≠ pV := ne_of_none hd3 hpV
      have s5 := same_new (o := .lst []) hpV
      have s05 : Same H (upd HM pV (.lst [])) := ((s1.trans s2).trans s4).trans s5
      have M0 : MInv (upd HM pV (.lst [])) pD pN pM pV (R.map (·.1)) [[]] (mergeK [] [((Sum.inr (S []) : Key), .int 0)]) [] :=
        ⟨s5 _ _ hd3, s5 _ _ hn3, s5 _ _ hm2, upd_same⟩
      have hpN0 : H pN = none := by
        cases e : H pN with
        | none => rfl
        | some o => rw [s1 _ _ e] at hpN; cases hpN
      have hpM0 : H pM = none := by
        cases e : H pM with
        | none => rfl
        | some o => rw [s2 _ _ (s1 _ _ e)] at hpM; cases hpM
      have hpV0 : H pV = none := by
        cases e : H pV with
        | none => rfl
        | some o => rw [s4 _ _ (s2 _ _ (s1 _ _ e))] at hpV; cases hpV
      generalize upd HM pV (.lst []) = H5 at s05 M0 ⊢
      walk_at "nx"
      refine ⟨_, rfl, a, xs, R, rfl, hR.same s05, hl, fun r hr => Nat.le_trans (h4 r hr) (by decide), fun H6 s6 => ?_⟩
      have hlg := lg_le4 h4
      walk_at "nx"
      refine ⟨fun m σ Hn => ∃ (ns : List (List Nat)) (kvs : List (Key × V)) (ms : List V) (v7 v8 v9 v10 v11 v12 : Option V), σ = [some (.str (S sg)), some (.ref a), some (.ref pD), some (.ref pN), some (.ref pM), some (.ref pV), some (.int (lg R : Nat)), v7, v8, v9, v10, v11, v12] ∧
        Same H Hn ∧ MInv Hn pD pN pM pV (R.map (·.1)) ns kvs ms ∧ NumV (R.map (·.1)) ns kvs ∧ 300 - ms.length ≤ m,
        ⟨300, [[]], _, [], _, _, _, _, _, _, rfl, s05.trans s6, M0.same s6, NumV.start _, by simp⟩, ?_⟩
      rintro m σ H7 ⟨ns, kvs, ms, v7, v8, v9, v10, v11, v12, rfl, s7, M, N, hm⟩
      have hns : ns.length ≤ 257 := by
        have := beg_len N.nod N.beg h4'
        rw [List.length_map] at this
        omega
      walk_at "rd"
      refine ⟨pV, ms, rfl, .inl (SqL.of M.v), _, rfl, pN, _, rfl, .inl (SqL.of M.n), _, _, rfl, rfl, ?_⟩
      rw [List.length_map]
      refine ⟨_, rfl, ?_⟩
      by_cases hc : ms.length < ns.length
      · rw [decide_eq_true (show ((ms.length : Nat) : Int) < (ns.length : Nat) by omega)]
        refine iteT ⟨_, fun _ _ h => h, ?_⟩
        walk_at "nx"
        intro pW hpW
        have hVW : pV ≠ pW := ne_of_none M.v hpW
        have hNW : pN ≠ pW := ne_of_none M.n hpW
        have hDW : pD ≠ pW := ne_of_none M.d hpW
        have hMW : pM ≠ pW := ne_of_none M.m hpW
        have s8 := same_new (o := .dK []) hpW
        have hpW0 : H pW = none := by
          cases e : H pW with
          | none => rfl
          | some o => rw [s7 _ _ e] at hpW; cases hpW
        have M8 := M.same s8
        have s78 := s7.trans s8
        have hW8 : (upd H7 pW (.dK [])) pW = some (.dK []) := upd_same
        generalize upd H7 pW (.dK []) = H8 at s78 M8 hW8 ⊢
        walk_at "rd"
        refine for_str (l := sg) (fun pre σ Hn => ∃ (ns : List (List Nat)) (kvs kw : List (Key × V)) (v8 v9 v10 v11 v12 : Option V), σ = [some (.str (S sg)), some (.ref a), some (.ref pD), some (.ref pN), some (.ref pM), some (.ref pV), some (.int (lg R : Nat)), some (.ref pW), v8, v9, v10, v11, v12] ∧
          Same H Hn ∧ MInv Hn pD pN pM pV (R.map (·.1)) ns kvs ms ∧ NumV (R.map (·.1)) ns kvs ∧ ms.length < ns.length ∧ Hn pW = some (.dK kw) ∧ kw.length ≤ pre.length)
          ⟨ns, kvs, [], _, _, _, _, _, rfl, s78, M8, N, hc, hW8, Nat.le_refl _⟩ ?_ ?_
        · rintro pre c post σ H9 e ⟨ns, kvs, kw, v8, v9, v10, v11, v12, rfl, s9, M, N, hc, hW, hkw⟩
          have hpl : pre.length + 1 ≤ sg.length := by
            have := congrArg List.length e
            simp at this
            omega
          have hns : ns.length ≤ 257 := by
            have := beg_len N.nod N.beg h4'
            rw [List.length_map] at this
            omega
          have hg : ns[ms.length]? = some ns[ms.length] := by simp [hc]
          generalize ns[ms.length] = nm at hg
          have hnm := (N.beg nm (List.mem_of_getElem? hg)).len h4'
          have hgv : (ns.map vS)[ms.length]? = some (vS nm) := by rw [List.getElem?_map, hg]; rfl
          walk_at "nx"
          refine ⟨_, rfl, _, rfl, pV, ms, rfl, .inl (SqL.of M.v), pN, _, _, vS nm, rfl, rfl, SqL.of M.n, atI_nat hgv, ?_⟩
          refine ⟨_, rfl, _, _, rfl, rfl, by rw [S_len, S_len]; exact Nat.le_trans (m := 5) (by simp; omega) (by decide), ?_⟩
          rw [S_cat]
          walk_at "nx"
          generalize hu : nm ++ [c] = tx
          have htl : tx.length ≤ 5 := by rw [← hu]; simp; omega
          refine if_KH (!((R.map (·.1)).any fun l => l.isSuffixOf tx)) (fun H' => Same H9 H') (fun Q' hQ => ?_) (fun hb H10 s10 => ?_) (fun hb H10 s10 => ?_)
          · walk_at "nx"
            refine ⟨_, rfl, pD, rfl, ⟨_, SqL.of M.d⟩, fun D hD => lc_lstF (K := K) (a := pD) (f := vS) (l := R.map (·.1)) (fun pre H3 => H3 D = some (.lst ((pre.map fun l => l.isSuffixOf tx).map V.bl)) ∧ Same H9 H3)
              ⟨upd_same, same_new hD⟩ (fun pre H3 ⟨_, s3⟩ => SqL.of (s3 _ _ M.d)) ?_ ?_⟩
            · rintro pre l post H3 e ⟨h3, s3⟩
              refine ⟨rfl, ty_T ?_⟩
              have hpl : pre.length ≤ 64 := by
                have := congrArg List.length e
                simp at this
                omega
              refine ⟨_, rfl, ⟨_, rfl⟩, _, rfl, _, _, rfl, rfl, ?_⟩
              rw [endswith_S]
              refine ⟨_, h3, by rw [List.length_map, List.length_map]; exact Nat.lt_of_le_of_lt (m := 64) hpl (by decide), ?_, same_mut s3 hD⟩
              rw [List.map_append, List.map_append]
              exact upd_same
            · rintro H3 ⟨h3, s3⟩
              refine ⟨D, _, rfl, SqL.of h3, _, rfl, ?_⟩
              refine q_of (hQ _ s3) ?_
              rw [List.any_map]
              rfl
          · walk_at "nx"
            have M10 := M.same s10
            refine ⟨_, rfl, _, rfl, _, rfl, pD, R.map (·.1), lg R, tx, rfl, M10.d, by simpa using hl, h4', hlg, by omega, fun u H11 hu11 s11 => ?_⟩
            have M11 := M10.same s11
            have s11' := s10.trans s11
            walk_at "nx"
            refine st_ifJ (fun σ Hn => ∃ (ns : List (List Nat)) (kvs : List (Key × V)) (v12 : Option V), σ = [some (.str (S sg)), some (.ref a), some (.ref pD), some (.ref pN), some (.ref pM), some (.ref pV), some (.int (lg R : Nat)), some (.ref pW), some (.str (S [c])), some (.str (S tx)), some (.str (S u)), v11, v12] ∧
              Same H Hn ∧ MInv Hn pD pN pM pV (R.map (·.1)) ns kvs ms ∧ NumV (R.map (·.1)) ns kvs ∧ ms.length < ns.length ∧ Hn pW = some (.dK kw) ∧ u ∈ ns) (fun N' hN' => ?_) ?_
            · walk_at "rd"
              refine ⟨pM, _, rfl, DGet.k (k := Sum.inr (S u)) M11.m, _, rfl, ?_⟩
              by_cases hun : u ∈ ns
              · obtain ⟨i9, hi9⟩ := N.val u hun
                rw [hi9]
                refine iteF ?_
                walk_at "nx"
                exact hN' _ _ ⟨ns, kvs, _, rfl, s9.trans s11', M11, N, hc, s11' _ _ hW, hun⟩
              · rw [N.new u hun]
                refine iteT ?_
                have hkz : kvs.length < sizeLine := Nat.lt_of_lt_of_le (m := 258) (by have := N.len; omega) (by decide)
                refine ⟨_, rfl, pN, _, rfl, .inl (SqL.of M11.n), _, rfl, _, rfl, pM, _, rfl, DPut.k (k := Sum.inr (S u)) M11.m hkz, ?_⟩
                have hMN : pM ≠ pN := ne_of M11.m M11.n (by intro z; cases z)
                have hMD : pM ≠ pD := ne_of M11.m M11.d (by intro z; cases z)
                have hMV : pM ≠ pV := ne_of M11.m M11.v (by intro z; cases z)
                walk_at "nx"
                have hn12 : ∀ o, (upd H11 pM o) pN = some (.lst (ns.map vS)) := fun o => by rw [upd_ne hMN.symm]; exact M11.n
                refine ⟨_, rfl, .inl ⟨rfl, _, SqL.of (hn12 _)⟩, _, rfl, pN, _, _, rfl, rfl, hn12 _, by rw [List.length_map]; exact Nat.lt_of_lt_of_le (m := 258) (by omega) (by decide), ?_⟩
                refine hN' _ _ ⟨ns ++ [u], _, _, rfl, same_mut (same_mut (s9.trans s11') hpM0) hpN0, ⟨?_, ?_, ?_, ?_⟩, N.more hu11 hun (((ns.map vS).length : Nat) : Int), by simp; omega, ?_, by simp⟩
                · rw [upd_ne hDN, upd_ne hMD.symm]; exact M11.d
                · rw [List.map_append]; exact upd_same
                · rw [upd_ne hMN]; exact upd_same
                · rw [upd_ne hNV.symm, upd_ne hMV.symm]; exact M11.v
                · rw [upd_ne hNW.symm, upd_ne hMW.symm]; exact s11' _ _ hW
            · rintro σ H12 ⟨ns, kvs, v12, rfl, s12, M, N, hc, hW, hun⟩
              walk_at "rd"
              obtain ⟨i9, hi9⟩ := N.val u hun
              refine ⟨pM, _, rfl, by rw [← hi9]; exact DGet.k (k := Sum.inr (S u)) M.m, _, rfl, _, rfl, pW, _, rfl, DPut.k (k := Sum.inr (S [c])) hW (Nat.lt_of_lt_of_le (m := 100) (by omega) (by decide)), ?_⟩
              refine ⟨ns, kvs, _, _, _, _, _, _, rfl, same_mut s12 hpW0, ⟨?_, ?_, ?_, ?_⟩, N, hc, upd_same, ?_⟩
              · rw [upd_ne hDW]; exact M.d
              · rw [upd_ne hNW]; exact M.n
              · rw [upd_ne hMW]; exact M.m
              · rw [upd_ne hVW]; exact M.v
              · have := putK_leS kw (Sum.inr (S [c])) (V.int i9)
                simp
                omega
          · walk_at "nx"
            exact ⟨ns, kvs, kw, _, _, _, _, _, rfl, s9.trans s10, M.same s10, N, hc, s10 _ _ hW, by simp; omega⟩
        · rintro σ H9 ⟨ns, kvs, kw, v8, v9, v10, v11, v12, rfl, s9, M, N, hc, hW, hkw⟩
          have hns : ns.length ≤ 257 := by
            have := beg_len N.nod N.beg h4'
            rw [List.length_map] at this
            omega
          walk_at "nx"
          refine ⟨_, rfl, .inl ⟨rfl, _, SqL.of M.v⟩, _, rfl, pV, ms, _, rfl, rfl, M.v, Nat.lt_of_lt_of_le (m := 257) (by omega) (by decide), ?_⟩
          refine ⟨m - 1, ?_, ns, kvs, ms ++ [.ref pW], _, _, _, _, _, _, rfl, same_mut s9 hpV0, ⟨?_, ?_, ?_, upd_same⟩, N, by simp; omega⟩
          · omega
          · rw [upd_ne hDV]; exact M.d
          · rw [upd_ne hNV]; exact M.n
          · rw [upd_ne (ne_of M.m M.v (by intro z; cases z))]; exact M.m
      · rw [decide_eq_false (show ¬ ((ms.length : Nat) : Int) < (ns.length : Nat) by omega)]
        refine iteF ?_
        walk_at "rd"
        exact kk pV H7 s7
end
end Sh
set_option Elab.async false
set_option linter.all false
set_option maxRecDepth 100000
set_option maxHeartbeats 4000000
namespace Sh
open PySem PySem.Spec PyProof.Rows L2
open SX (S S_inj S_len S_cat)
open Bk (Rule firstAt lg bestUp used left drain pushS Wf)
/-- a rule as data -/
def rD (r : Rule) : PyData := .tuple [.str (S r.1), .str (S r.2)]
theorem rD_eqv (a b : Rule) : PyData.eqv (rD a) (rD b) = decide (a = b) := by
  show (S a.1 == S b.1 && (S a.2 == S b.2 && true)) = _
  rw [Bool.and_true, Bool.eq_iff_iff]
  simp only [Bool.and_eq_true, beq_iff_eq, decide_eq_true_eq]
  constructor
  · rintro ⟨h, k⟩
    exact Prod.ext (S_inj h) (S_inj k)
  · rintro rfl
    exact ⟨rfl, rfl⟩
def Chars (t : List Nat) : Prop := ∀ c ∈ t, c < 1114112
theorem strOk_S {t : List Nat} (h : Chars t) : PyData.strOk (S t) = true := by
  unfold PyData.strOk
  show (Array.all _ _) = true
  rw [← Array.all_toList, List.all_eq_true]
  intro c hc
  exact decide_eq_true (h c hc)
def RChars (R : List Rule) : Prop := ∀ r ∈ R, Chars r.1 ∧ Chars r.2
theorem shaped_rule {r : Rule} (h : Chars r.1 ∧ Chars r.2) : SeqAt.shaped (rD r) = true := by
  unfold SeqAt.shaped
  rw [Bool.and_eq_true]
  refine ⟨?_, decide_eq_true (show (1 : Nat) ≤ 64 by decide)⟩
  show (PyData.strOk (S r.1) && (PyData.strOk (S r.2) && true)) = true
  rw [strOk_S h.1, strOk_S h.2]; rfl
theorem lay_rules : ∀ {R : List Rule}, RChars R → PyData.canLayAll0 (R.map rD) = true ∧ PyData.depthAll (R.map rD) ≤ 1
  | [], _ => ⟨rfl, Nat.zero_le _⟩
  | r :: R, h => by
    obtain ⟨h1, h2⟩ := lay_rules (R := R) fun x m => h x (List.mem_cons_of_mem _ m)
    have h3 := h r List.mem_cons_self
    refine ⟨?_, ?_⟩
    · show ((PyData.strOk (S r.1) && (PyData.strOk (S r.2) && true)) && PyData.canLayAll0 (R.map rD)) = true
      rw [strOk_S h3.1, strOk_S h3.2, h1]; rfl
    · show max 1 (PyData.depthAll (R.map rD)) ≤ 1
      omega
theorem shaped_rules {R : List Rule} (h : RChars R) : SeqAt.shaped (.list (R.map rD)) = true := by
  obtain ⟨h1, h2⟩ := lay_rules h
  unfold SeqAt.shaped
  rw [Bool.and_eq_true]
  refine ⟨h1, decide_eq_true ?_⟩
  show PyData.depthAll (R.map rD) + 1 ≤ 64
  omega
theorem letters_lt : ∀ c ∈ letters, c < 1114112 := by decide +kernel
theorem signs_chars {sg : List Nat} (h : isSigns sg = true) : Chars sg := by
  intro c hc
  obtain ⟨i, hi, rfl⟩ := List.mem_iff_getElem.mp hc
  simp only [isSigns, Bool.and_eq_true, List.all_eq_true, List.mem_range] at h
  have := h.2 i hi
  simp only [okAt, Bool.and_eq_true, decide_eq_true_eq] at this
  have e : sg.getD i 0 = sg[i] := by
    rw [List.getD_eq_getElem?_getD, List.getElem?_eq_getElem hi]; rfl
  rw [e] at this
  exact letters_lt _ this.1
local macro_rules | `(tactic| walk_at "nx") => `(tactic| repeat (with_reducible first | refine Sh.gn_mk ?_ | refine Sh.nx_mk ?_ | refine Sh.st_nx ?_ | refine Sh.rt_mk ?_ | refine Sh.ct_mk ?_ | refine Sh.bk_mk ?_))
local macro_rules | `(tactic| walk_at "sq") => `(tactic| first | exact SqL.of upd_same | exact SqT.of upd_same | exact SqL.of (by assumption) | exact SqT.of (by assumption) | assumption | exact Or.inl (SqL.of (by assumption)) | exact Or.inr (SqT.of (by assumption)) | exact Or.inl (by assumption) | exact Or.inr (by assumption))
local macro_rules | `(tactic| walk_at "hp") => `(tactic| first | exact upd_same | assumption)
local macro_rules | `(tactic| walk_at "sz") => `(tactic| first | exact Nat.le_of_ble_eq_true rfl | omega)
local macro_rules | `(tactic| walk_at "sd") => `(tactic| first | omega | exact rfl | assumption | (show (0 : Int) < _; omega) | exact And.intro (by omega) (by omega) | exact Or.inl (And.intro (by omega) (by omega)) | exact Or.inr (And.intro (by omega) (by omega)) | omega | exact Sh.sz_S (by omega) | decide)
local macro_rules | `(tactic| walk_at "rd1") => `(tactic| first
  | (with_reducible first | refine Sh.gn_mk ?_ | refine Sh.nx_mk ?_ | refine Sh.st_nx ?_ | refine Sh.rt_mk ?_ | refine Sh.ct_mk ?_ | refine Sh.bk_mk ?_)
  | refine Exists.intro (α := V) _ (And.intro rfl ?_)
  | refine Exists.intro (α := Bool) _ (And.intro rfl ?_)
  | refine Exists.intro (α := Int) _ (And.intro rfl ?_)
  | refine Exists.intro (α := PySem.Str) _ (And.intro rfl ?_)
  | refine Exists.intro (α := Int) _ (Exists.intro (α := Int) _ (And.intro rfl (And.intro rfl ?_)))
  | refine Exists.intro (α := PySem.Str) _ (Exists.intro (α := PySem.Str) _ (And.intro rfl (And.intro rfl ?_)))
  | refine Exists.intro (α := Int) _ (Exists.intro (α := Int) _ (And.intro rfl ?_))
  | refine Or.inl (Exists.intro (α := Int) _ (And.intro rfl ?_))
  | refine Exists.intro _ (Exists.intro _ (Exists.intro _ (Exists.intro _ (And.intro rfl (And.intro rfl (And.intro (by walk_at "sq") (And.intro rfl ?_)))))))
  | refine Exists.intro _ (Exists.intro _ (Exists.intro _ (Exists.intro _ (And.intro rfl (And.intro rfl (And.intro (by walk_at "hp") (And.intro rfl ?_)))))))
  | refine And.intro (by walk_at "sd") ?_
  )
local macro_rules | `(tactic| walk_at "rd") => `(tactic| repeat walk_at "rd1")
local macro_rules | `(tactic| walk_at "lk") => `(tactic| first | exact rfl | (rw [lookup_putF, if_pos rfl]) | (rw [lookup_putF, if_neg (by decide +kernel)]; walk_at "lk"))

section
variable {P : Program} {w : World} {K : PySem.W.Frag} {mg : Str → Option Value} {base : Heap}
def RItem (K : PySem.W.Frag) (H : Hp) (v : V) (r : Rule) : Prop := ∃ q, v = .ref q ∧ SqT K H q (rTup r)
theorem RItem.same {H H' : Hp} {v : V} {r : Rule} (h : RItem K H v r) (k : Keep H H') : RItem K H' v r := let ⟨q, e, s⟩ := h; ⟨q, e, k.seq s⟩
theorem RItem.dp {H : Hp} {v : V} {r : Rule} (h : RItem K H v r) : Dp K H v (rD r) := by
  obtain ⟨q, rfl, s⟩ := h
  exact .tup s (.cons (.str _) (.cons (.str _) .nil))
theorem dpAll_rules {H : Hp} : ∀ {xs : List V} {R : List Rule}, Items (RItem K) H xs R → DpAll K H xs (R.map rD)
  | [], [], _ => .nil
  | [], _ :: _, h => by have := h.1; simp at this
  | _ :: _, [], h => by have := h.1; simp at this
  | x :: xs, r :: R, h => .cons (h.2 0 x r rfl rfl).dp (dpAll_rules (xs := xs) (R := R) ⟨by have := h.1; simpa using this, fun i x y h1 h2 => h.2 (i + 1) x y h1 h2⟩)
theorem RulesAt.items {H : Hp} {a : Addr} {xs : List V} {R : List Rule} (h : RulesAt K H a xs R) : Items (RItem K) H xs R := ⟨h.len, h.it⟩
theorem any_rules {R : List Rule} {r : Rule} : ((R.map rD).any fun z => PyData.eqv z (rD r)) = decide (r ∈ R) := by
  rw [List.any_map, Bool.eq_iff_iff]
  simp only [List.any_eq_true, Function.comp, rD_eqv, decide_eq_true_eq]
  constructor
  · rintro ⟨x, hx, rfl⟩; exact hx
  · intro h; exact ⟨r, h, rfl⟩
/-- the wall rules stand behind -/
def spIsRule (K : PySem.W.Frag) : Sp := fun vs H Q _ => ∃ (sg : List Nat) (q : Addr) (r : Rule), vs = [.str (S sg), .ref q] ∧ SqT K H q (rTup r) ∧ RuleOk sg 4 r ∧ Q (.bl true) H
theorem c_is_rule (T : Txt K mg) : Cal P w K mg base CX0 2 "is_rule" (spIsRule K) := by
  have c_is_listed := c_is_listed (P := P) (w := w) (base := base) T
  have c_is_text := c_is_text (P := P) (w := w) (base := base) T
  refine Cal.mk0 T.d_is_rule sc_is_rule (fun vs H Q E h => ?_) (fun f cdv A outer s H vs Q E hr h => ?_)
  · obtain ⟨sg, q, r, rfl, _⟩ := h
    rfl
  · obtain ⟨sg, q, r, rfl, hq, ⟨h1, h2, h3, h4, h5, h6⟩, k⟩ := h
    refine ⟨_, (pss_cons (ps_if (PW.pt (pw_or (pt_not (pt_truth (pe_c c_is_listed hr (by decide) rfl (pa_cons (pv 1) pa_nil)) (by intro _; rfl))) (pw_or1 (pt_cmpR op_ne (pe_callB call_len_seq (by rfl) T.b_len (by decide +kernel) (pa_cons (pv 1) pa_nil)) pe_int (nomark _)))))
    (pss_one (ps_ret pe_bl))
    pss_nil)
  (pss_cons (ps_if (PW.pt (pw_or (pt_not (pt_truth (pe_c c_is_text hr (by decide) rfl (pa_cons (pv 0) (pa_cons (pe_ix ix_tup (pv 1) pe_int (fun _ _ => rfl)) (pa_cons pe_int (pa_cons (pe_gK rfl T.g_LONGEST_LEFT) pa_nil))))) (by intro _; rfl))) (pw_or1 (pt_not (pt_truth (pe_c c_is_text hr (by decide) rfl (pa_cons (pv 0) (pa_cons (pe_ix ix_tup (pv 1) pe_int (fun _ _ => rfl)) (pa_cons pe_int (pa_cons pe_int pa_nil))))) (by intro _; rfl))))))
    (pss_one (ps_ret pe_bl))
    pss_nil)
  (pss_one (ps_ret (pe_cmpR op_lt (pe_callB call_len_str (by rfl) T.b_len (by decide +kernel) (pa_cons (pe_ix ix_tup (pv 1) pe_int (fun _ _ => rfl)) pa_nil)) (pe_callB call_len_str (by rfl) T.b_len (by decide +kernel) (pa_cons (pe_ix ix_tup (pv 1) pe_int (fun _ _ => rfl)) pa_nil)) (nomark _)))))), ?_⟩
    walk_at "rd"
    refine ⟨_, _, rfl, ty_tup hq, by decide, ?_⟩
    refine ⟨true, rfl, ?_⟩
    refine iteF ?_
    walk_at "rd"
    refine ⟨q, _, rfl, .inr hq, ?_⟩
    walk_at "rd"
    have e1 : isText sg r.1 1 4 = true := by
      have c2 : (1 : Int) ≤ (r.1.length : Int) := by omega
      have c3 : (r.1.length : Int) ≤ 4 := by omega
      simp only [isText, c2, c3, decide_true, Bool.true_and, List.all_eq_true]
      exact fun c h => decide_eq_true (h3 c h)
    have e2 : isText sg r.2 0 1 = true := by
      have c2 : (0 : Int) ≤ (r.2.length : Int) := by omega
      have c3 : (r.2.length : Int) ≤ 1 := by omega
      simp only [isText, c2, c3, decide_true, Bool.true_and, List.all_eq_true]
      exact fun c h => decide_eq_true (h4 c h)
    refine .inl ⟨sg, r.1, 1, 4, rfl, by omega, ?_⟩
    rw [e1]
    refine ⟨true, rfl, ?_⟩
    refine iteF ?_
    walk_at "rd"
    refine .inl ⟨sg, r.2, 0, 1, rfl, by omega, ?_⟩
    rw [e2]
    refine ⟨true, rfl, ?_⟩
    refine iteF ?_
    walk_at "rd"
    rw [S_len, S_len]
    show Q (.bl (decide ((r.2.length : Int) < (r.1.length : Int)))) H
    rw [decide_eq_true (by omega)]
    exact k
def BookOk (sg : List Nat) (R : List Rule) : Prop := isSigns sg = true ∧ R.length ≤ 64 ∧ (∀ r ∈ R, RuleOk sg 4 r) ∧ R.Nodup
theorem BookOk.chars {sg : List Nat} {R : List Rule} (h : BookOk sg R) : RChars R := fun r m =>
  ⟨fun c hc => signs_chars h.1 c ((h.2.2.1 r m).2.2.1 c hc), fun c hc => signs_chars h.1 c ((h.2.2.1 r m).2.2.2.1 c hc)⟩
theorem BookOk.wf {sg : List Nat} {R : List Rule} (h : BookOk sg R) : Wf R := fun r m => ⟨(h.2.2.1 r m).2.2.2.2.2, (h.2.2.1 r m).2.2.2.2.1⟩
def spChecked (K : PySem.W.Frag) : Sp := fun vs H Q _ => ∃ (sg : List Nat) (a : Addr) (xs : List V) (R : List Rule), vs = [.str (S sg), .ref a] ∧ RulesAt K H a xs R ∧ BookOk sg R ∧
  ∀ (p : Addr) (ys : List V) (H' : Hp), Same H H' → RulesAt K H' p ys R → Q (.ref p) H'
theorem c_checked_rules (T : Txt K mg) : Cal P w K mg base CX0 3 "checked_rules" (spChecked K) := by
  have c_is_listed := c_is_listed (P := P) (w := w) (base := base) T
  have c_is_rule := c_is_rule (P := P) (w := w) (base := base) T
  refine Cal.mk0 T.d_checked_rules sc_checked_rules (fun vs H Q E h => ?_) (fun f cdv A outer s H vs Q E hr h => ?_)
  · obtain ⟨sg, a, xs, R, rfl, _⟩ := h
    rfl
  · obtain ⟨sg, a, xs, R, rfl, hR, hB, kk⟩ := h
    have hu65 := hu65_of hr
    have hch := hB.chars
    have hlx := hR.len
    obtain ⟨hsg, hl, hok, hnd⟩ := hB
    refine ⟨_, (pss_cons (ps_if (PW.pt (pw_or (pt_not (pt_truth (pe_c c_is_listed hr (by decide) rfl (pa_cons (pv 1) pa_nil)) (by intro _; rfl))) (pw_or1 (pt_cmpR op_gt (pe_callB call_len_seq (by rfl) T.b_len (by decide +kernel) (pa_cons (pv 1) pa_nil)) (pe_gK rfl T.g_MOST_RULES) (nomark _)))))
    (pss_one ps_never)
    pss_nil)
  (pss_cons (ps_set (i := 2) sc_checked_rules.nd rfl (Or.inl rfl) (pe_lst pa_nil))
  (pss_cons (ps_for PassesOwn.never rfl (pi_range1 (by rfl) T.b_range (pa_cons (pe_callB call_len_seq (by rfl) T.b_len (by decide +kernel) (pa_cons (pv 1) pa_nil)) pa_nil)) (pg_name (i := 3) sc_checked_rules.nd rfl (Or.inl rfl))
    (pss_cons (ps_if (PW.pt (pw_or (pt_not (pt_truth (pe_c c_is_rule hr (by decide) rfl (pa_cons (pv 0) (pa_cons (pe_ix ix_tup (pv 1) (pv 3) (fun _ _ => rfl)) pa_nil))) (by intro _; rfl))) (pw_or1 (pt_cmpR (op_inD hu65) (pe_callTy call_tuple_of (by rfl) T.b_tuple (by decide +kernel) (pa_cons (pe_ix ix_tup (pv 1) (pv 3) (fun _ _ => rfl)) pa_nil)) (pv 2) (by rfl)))))
      (pss_one ps_never)
      pss_nil)
    (pss_one (ps_expr (pe_bm PySem.F.plainAttrs_list PySem.F.slot_list_append PySem.F.type_list_append mt_append (pv 2) (pa_cons (pe_callTy call_tuple_of (by rfl) T.b_tuple (by decide +kernel) (pa_cons (pe_ix ix_tup (pv 1) (pv 3) (fun _ _ => rfl)) pa_nil)) pa_nil))))))
  (pss_one (ps_ret (pe_callTy call_tuple_of (by rfl) T.b_tuple (by decide +kernel) (pa_cons (pv 2) pa_nil))))))), ?_⟩
    walk_at "rd"
    refine ⟨_, _, rfl, ty_tup hR.sq, by decide, ?_⟩
    walk_at "rd"
    refine ⟨a, _, rfl, .inr hR.sq, ?_⟩
    walk_at "rd"
    rw [show decide ((64 : Int) < (xs.length : Int)) = false from decide_eq_false (by omega)]
    refine iteF ?_
    walk_at "rd"
    intro p hp
    have s1 : Same H (upd H p (.lst [])) := same_new hp
    refine ⟨_, rfl, a, xs, rfl, .inr (hR.same s1).sq, ?_⟩
    walk_at "rd"
    refine for_range (lo := 0) (n := ((xs.length : Int)).toNat) (fun i σ H2 => ∃ (ys : List V) (v3 : Option V), σ = [some (.str (S sg)), some (.ref a), some (.ref p), v3] ∧ Same H H2 ∧ H2 p = some (.lst ys) ∧ Items (RItem K) H2 ys (R.take i))
      ⟨[], _, rfl, s1, upd_same, Items.nil⟩ ?_ ?_
    · rintro i σ H2 hi ⟨ys, v3, rfl, s2, hp2, it2⟩
      rw [Int.zero_add]
      have hi2 : i < R.length := by omega
      have hr2 : R[i]? = some R[i] := by simp [hi2]
      obtain ⟨q, hq, sq⟩ := (hR.same s2).get hr2
      have et : R.take (i + 1) = R.take i ++ [R[i]] := by rw [List.take_succ, hr2]; rfl
      have hni : R[i] ∉ R.take i := by
        intro hm
        obtain ⟨j, hj, e⟩ := List.mem_iff_getElem.mp hm
        have hj2 : j < i := by
          rw [List.length_take] at hj
          omega
        rw [List.getElem_take] at e
        exact absurd (List.getElem_inj hnd |>.mp e) (by omega)
      have hR2 := hR.same s2
      have hci := hch _ (List.getElem_mem hi2)
      have hct : RChars (R.take i) := fun r m => hch r (List.mem_of_mem_take m)
      walk_at "nx"
      refine st_ifK false (fun Q' hQ => ?_) (fun hb => by cases hb) (fun _ => ?_)
      · refine ⟨_, rfl, _, rfl, _, rfl, a, xs, _, .ref q, rfl, rfl, hR2.sq, atI_nat hq, sg, q, R[i], rfl, sq, hok _ (List.getElem_mem hi2), true, rfl, ?_⟩
        refine iteF ?_
        refine ⟨_, rfl, _, rfl, a, xs, _, .ref q, rfl, rfl, hR2.sq, atI_nat hq, q, _, rfl, .inr ⟨sq, _, rfl, rD R[i], (R.take i).map rD, RItem.dp ⟨q, rfl, sq⟩, .lst (SqL.of hp2) (dpAll_rules it2), shaped_rule hci, shaped_rules hct, _, rfl, ?_⟩⟩
        rw [any_rules, decide_eq_false hni]
        exact hQ
      · walk_at "nx"
        have hyl : ys.length < sizeLine := by
          have := it2.1
          rw [List.length_take] at this
          exact Nat.lt_of_le_of_lt (m := 64) (by omega) (by decide)
        refine ⟨_, rfl, .inl ⟨rfl, _, SqL.of hp2⟩, _, rfl, _, rfl, a, xs, _, .ref q, rfl, rfl, hR2.sq, atI_nat hq, q, _, rfl, .inr ⟨sq, p, _, _, rfl, rfl, hp2, hyl, ?_⟩⟩
        refine ⟨ys ++ [.ref q], _, rfl, same_mut s2 hp, upd_same, ?_⟩
        rw [et]
        have hk : Keep H2 (upd H2 p (.lst (ys ++ [.ref q]))) := Keep.butL but_upd hp2
        exact it2.snoc (fun x y r => r.same hk) ⟨q, rfl, hk.seq sq⟩
    · rintro σ H2 ⟨ys, v3, rfl, s2, hp2, it2⟩
      walk_at "rd"
      refine ⟨p, _, rfl, .inl ⟨SqL.of hp2, fun l hl => ?_⟩⟩
      rw [List.take_of_length_le (by omega)] at it2
      have s3 := s2.trans (same_new (o := .tup ys) hl)
      refine kk l ys _ s3 ⟨SqT.of upd_same, it2.1, fun i x r h1 h2 => ?_⟩
      exact (it2.2 i x r h1 h2).same (Keep.same (same_new hl))
end
end Sh
set_option Elab.async false
set_option linter.all false
set_option maxRecDepth 100000
set_option maxHeartbeats 2000000
namespace Sh
open PySem PySem.Spec PyProof.Rows L2
section
variable {X : Cx} {C : Addr} {k j : Nat} {sp : Sp} {a : Expr} {ta : TE} {pos : Pos}
/-- not o, o an instance of the class at C with an own __bool__ -/
def tNotI (C : Addr) (sp : Sp) (ta : TE) : TE := fun σ H Q => ta σ H fun x H1 => ∃ p dx fs, x = .ref p ∧ H1 p = some (.ins C dx fs) ∧ sp [.ref p] H1 (fun z H2 => ∃ b, z = .bl b ∧ Q (.bl (!b)) H2) E0
theorem pe_notI (d : MetC X.prog X.w X.K X.mg X.base k C "__bool__" sp) (hr : Room j X.A) (hk : k ≤ j) (ha : PE X a ta) : PE X (.UnaryOp .Not a pos) (tNotI C sp ta) := by
  obtain ⟨f, fd, ps, F, b, i, n, o⟩ := d.ex
  refine ⟨fun pins s σ H Q I h => ?_⟩
  refine UnaryOp_ (thn (ha.run pins s σ H _ I h) fun v s1 ⟨x, H1, I1, r1, p, dx, fs, ex, hH, q⟩ => ?_)
  subst ex
  obtain rfl : v = .ref p := r1
  obtain ⟨ox, od, J, _⟩ := StX.insC_at (C := C) I1 (.inr ⟨dx, fs, hH⟩)
  refine not_of (truthy_own I1.kIn J i n (wpAny_mono (run_in (us := [.ref p]) (ws := [.ref p]) (fnR_of F b) (hr.mono hk) I1.env0 pass0 I1 (.cons rfl .nil) q) (fun v s' z => ?_) fun _ _ x => x))
  obtain ⟨z', H', I', rz, c, ec, qz⟩ := z
  subst ec
  obtain rfl : v = .bool c := rz
  exact ⟨c, rfl, .bl (!c), H', I', rfl, qz⟩
end
end Sh
set_option Elab.async false
set_option linter.all false
set_option maxRecDepth 100000
set_option maxHeartbeats 2000000
namespace Sh
open PySem PySem.Spec PyProof.Rows L2
section
variable {X : Cx} {k j : Nat} {C : Addr} {sp : Sp} {pos : Pos} {e fe : Expr} {es : List Expr} {t : TA} {tf : TE}
/-- o(e, ..), o an instance with fields: a reading that does not name the frame (for comprehensions) -/
def tInst (C : Addr) (sp : Sp) (tf : TE) (t : TA) : TE := fun σ H Q => tf σ H fun y H1 => ∃ a, y = V.ref a ∧ t σ H1 fun zs H2 => (∃ dx fs, H2 a = some (.ins C dx fs)) ∧ sp (V.ref a :: zs) H2 Q E0
theorem pe_instP (hf : PE X fe tf) (d : MetC X.prog X.w X.K X.mg X.base k C "__call__" sp) (hr : Room j X.A) (hk : k ≤ j) (ha : PA X (e :: es) t)
    (h1 : eval (.Call fe (e :: es) [] pos) X.env = (do callWith pos (← eval fe X.env) [] (backTo pos (starEach (e :: es) X.env)) (backToKw pos (keywordEach [] X.env))) := by rfl)
    (h2 : starEach (e :: es) X.env = (false, eval e X.env) :: starEach es X.env := by rfl) (h3 : (backTo pos (starEach es X.env)).any (·.1) = false := by rfl) : PE X (.Call fe (e :: es) [] pos) (tInst C sp tf t) := by
  obtain ⟨f, fd, ps, F, b, i, n, o⟩ := d.ex
  constructor
  intro pins s σ H Q I h
  refine Call_ (thn (hf.run pins s σ H _ I h) ?_) h1
  rintro u s1 ⟨_, H1, I1, ry, a, rfl, q⟩
  obtain rfl : u = .ref a := ry
  refine StX.callO_with (thn (ha.run pos pins s1 σ H1 _ I1 q) ?_) h2 h3
  rintro us s2 ⟨zs, H2, I2, rz, isC, q2⟩
  obtain ⟨ox, od, J, dat⟩ := StX.insC_at (C := C) I2 (.inr isC)
  exact ⟨⟨C, ox, od, J, dat⟩, StX.run_callO ⟨i, n, o⟩ (fnR_of F b) (hr.mono hk) pass0 I2 (.inr isC) rz q2⟩
end
end Sh
set_option Elab.async false
set_option linter.all false
set_option maxRecDepth 100000
set_option maxHeartbeats 2000000
namespace Sh
open PySem PySem.Spec PyProof.Rows L2
/-! ### a property of a class of the text -/
structure PropAt (K : PySem.W.Frag) (C : Addr) (f q : Str) (st : Stmt) : Prop where
  ex : ∃ (p g : Addr) (fd : FuncData), PropOf K C f p g ∧ L2.Fun K f q st g fd ∧ Binds K fd ["self"] []
structure PropC (P : Program) (w : World) (K : PySem.W.Frag) (mg : Str → Option Value) (base : Heap) (k : Nat) (C : Addr) (f : Str) (sp : Sp) : Prop where
  ex : ∃ (p g : Addr) (fd : FuncData) (ps : List Str), PropOf K C f p g ∧ FnOk P w K mg base CX0 k g fd ps sp ∧ Binds K fd ps []
section
variable {P : Program} {w : World} {K : PySem.W.Frag} {mg : Str → Option Value} {base : Heap}
theorem PropC.mk0 {f q : Str} {C : Addr} {st : Stmt} {N : List Str} {k : Nat} {sp : Sp} (D : PropAt K C f q st) (S : FnScope N ["self"] (defScope st)) (len : ∀ vs H Q E, sp vs H Q E → vs.length = 1)
    (hbody : ∀ (f : Addr) (cdv : Value) (A : Around) (outer : List Env) (s : Shared) (H : Hp) (vs : List V) (Q : VK) (E : XK), Room k (A.deeper (envOfC q (defScope st) s.heap.objs.size f cdv)) → sp vs H Q E →
      ∃ t, PSs (cxOf CX0 P w K mg base N q (defScope st) f cdv A outer s H E).nox (defBody st) t ∧ t { nx := fun _ H' => Q .non H', rt := Q } (start N vs) H) : PropC P w K mg base (k + 1) C f sp := by
  obtain ⟨p, g, fd, hp, F, b⟩ := D.ex
  exact ⟨p, g, fd, ["self"], hp, F.ok S len (hbody g), b⟩
end
section
variable {X : Cx} {k j : Nat} {f : Str} {C : Addr} {sp : Sp} {pos : Pos} {e : Expr} {ta : TE}
/-- o.f, f a property -/
theorem pe_propC (ho : PE X e ta) (c : Cls X.K C) (d : PropC X.prog X.w X.K X.mg X.base k C f sp) (hr : Room j X.A) (hk : k + 1 ≤ j) (hab : attributeBase e f X.env (eval e X.env) = eval e X.env := by rfl) :
    PE X (.Attribute e f pos) (tProp C sp [] E0 ta) := by
  obtain ⟨p, g, fd, ps, hp, F, b⟩ := d.ex
  exact pe_prop ho c hp F (hr.mono hk) b .nil pass0 hab
end
section
variable {X : Cx} {C : Addr} {k j : Nat} {sp : Sp} {a : Expr} {ta : TE}
/-- o as a test, o an instance of the class at C with an own __bool__ -/
def tTestI (C : Addr) (sp : Sp) (ta : TE) : TT := fun σ H Q => ta σ H fun x H1 => ∃ p dx fs, x = .ref p ∧ H1 p = some (.ins C dx fs) ∧ sp [.ref p] H1 (fun z H2 => ∃ b, z = .bl b ∧ Q b H2) E0
theorem pt_inst (d : MetC X.prog X.w X.K X.mg X.base k C "__bool__" sp) (hr : Room j X.A) (hk : k ≤ j) (ha : PE X a ta) (he : ∀ whole, isTrue a X.env whole = (do let v ← whole; standAt a.pos; holding [v] (truthy v))) : PT X a (tTestI C sp ta) := by
  obtain ⟨f, fd, ps, F, b, i, n, o⟩ := d.ex
  refine ⟨fun pins s σ H Q I h => ?_⟩
  refine isTrue_plain (thn (ha.run pins s σ H _ I h) fun v s1 ⟨x, H1, I1, r1, p, dx, fs, ex, hH, q⟩ => ?_) (he _)
  subst ex
  obtain rfl : v = .ref p := r1
  obtain ⟨ox, od, J, _⟩ := StX.insC_at (C := C) I1 (.inr ⟨dx, fs, hH⟩)
  refine truthy_own I1.kIn J i n (wpAny_mono (run_in (us := [.ref p]) (ws := [.ref p]) (fnR_of F b) (hr.mono hk) I1.env0 pass0 I1 (.cons rfl .nil) q) (fun v s' z => ?_) fun _ _ x => x)
  obtain ⟨z', H', I', rz, c, ec, qz⟩ := z
  subst ec
  obtain rfl : v = .bool c := rz
  exact ⟨c, rfl, H', I', qz⟩
end
/-! ### what walks over the keys of a dict -/
theorem lc_keys {d : Addr} {o : Obj} {kvs : List (Key × V)} {g : TG} {tt : TT} {te : TE} {vs : List Nat} {σ : L2.St} {H1 : Hp} {D : Addr} {Qd : Hp → Prop}
    (Pv : List Key → Hp → Prop) (h0 : Pv [] (upd H1 D (.lst []))) (hG : ∀ pre H, Pv pre H → H d = some (.frz o (.dK kvs)))
    (hs : ∀ pre k post H, kvs.map (·.1) = pre ++ k :: post → Pv pre H → g (kV k) (wipe σ vs) H fun σ2 H2 => wipe σ2 vs = wipe σ vs ∧ tt σ2 H2 fun b H3 =>
      if b = true then te σ2 H3 fun y' H4 => ∃ acc, H4 D = some (.lst acc) ∧ acc.length < sizeLine ∧ Pv (pre ++ [k]) (upd H4 D (.lst (acc ++ [y']))) else Pv (pre ++ [k]) H3) (hd : ∀ H, Pv (kvs.map (·.1)) H → Qd H) :
    ∃ W : Nat → Nat → Hp → Prop, (∃ m, W 0 m (upd H1 D (.lst []))) ∧ ∀ i m H, W i m H →
      ((Itk d o kvs).stop i H ∧ Qd H) ∨ ((Itk d o kvs).go i H ∧ ∃ Nx : Hp → Prop, (∀ H', Nx H' → ∃ m', m' < m ∧ W (i + 1) m' H') ∧ ∀ x H', (Itk d o kvs).yld i H x H' → g x (wipe σ vs) H' fun σ2 H2 => wipe σ2 vs = wipe σ vs ∧ tt σ2 H2 fun b H3 =>
        if b = true then te σ2 H3 fun y H4 => ∃ acc, H4 D = some (.lst acc) ∧ acc.length < sizeLine ∧ Nx (upd H4 D (.lst (acc ++ [y]))) else Nx H3) := by
  have w := walk_keys (d := d) (o := o) (kvs := kvs)
  refine lc_it w (fun i H => Pv ((kvs.map (·.1)).take i) H) (by simpa using h0) (fun i H _ p => hG _ H p) (fun i x H H' hi p y => ?_) (fun H p => hd H (by rw [List.take_of_length_le (by simp)] at p; exact p))
  obtain ⟨rfl, k, v, hk, rfl⟩ := y
  have hl : (kvs.map (·.1))[i]? = some k := by rw [List.getElem?_map, hk]; rfl
  obtain ⟨e1, e2⟩ := take_succ_of hl
  have q := hs _ k _ H' e2 p
  rw [← e1] at q
  exact q
/-- a dict comprehension over a tuple whose items are told by l -/
theorem dc_tupR {α : Type} {Rel : Hp → V → α → Prop} {l : List α} {xs : List V} {K : PySem.W.Frag} {a : Addr} {g : TG} {tt : TT} {tk tv : TE} {vs : List Nat} {σ : L2.St} {H1 : Hp} {D : Addr} {Qd : Hp → Prop} (hlen : xs.length = l.length)
    (Pv : List α → Hp → Prop) (h0 : Pv [] (upd H1 D (.dK []))) (hG : ∀ pre H, Pv pre H → SqT K H a xs ∧ ∀ (i : Nat) x y, xs[i]? = some x → l[i]? = some y → Rel H x y)
    (hs : ∀ pre y post x H, l = pre ++ y :: post → xs[pre.length]? = some x → Rel H x y → Pv pre H → g x (wipe σ vs) H fun σ2 H2 => wipe σ2 vs = wipe σ vs ∧ tt σ2 H2 fun b H3 =>
      if b = true then tk σ2 H3 fun y1 H4 => tv σ2 H4 fun z H5 => ∃ kvs k, y1 = kV k ∧ H5 D = some (.dK kvs) ∧ kvs.length < sizeLine ∧ Pv (pre ++ [y]) (upd H5 D (.dK (putK kvs k z))) else Pv (pre ++ [y]) H3) (hd : ∀ H, Pv l H → Qd H) :
    ∃ W : Nat → Nat → Hp → Prop, (∃ m, W 0 m (upd H1 D (.dK []))) ∧ ∀ i m H, W i m H →
      ((Itt K a).stop i H ∧ Qd H) ∨ ((Itt K a).go i H ∧ ∃ Nx : Hp → Prop, (∀ H', Nx H' → ∃ m', m' < m ∧ W (i + 1) m' H') ∧ ∀ x H', (Itt K a).yld i H x H' → g x (wipe σ vs) H' fun σ2 H2 => wipe σ2 vs = wipe σ vs ∧ tt σ2 H2 fun b H3 =>
        if b = true then tk σ2 H3 fun y H4 => tv σ2 H4 fun z H5 => ∃ kvs k, y = kV k ∧ H5 D = some (.dK kvs) ∧ kvs.length < sizeLine ∧ Nx (upd H5 D (.dK (putK kvs k z))) else Nx H3) := by
  refine dc_tup (K := K) (a := a) (xs := xs) (fun i H => Pv (l.take i) H) (by simpa using h0) (fun i H _ p => (hG _ H p).1) (fun i x H hx p => ?_) (fun H p => hd H (by rw [hlen, List.take_length] at p; exact p))
  have hi' : i < l.length := by
    have := (List.getElem?_eq_some_iff.mp hx).1
    omega
  have hl : l[i]? = some l[i] := by simp [hi']
  obtain ⟨e1, e2⟩ := take_succ_of hl
  have q := hs _ l[i] _ x H e2 (by rw [List.length_take, Nat.min_eq_left (Nat.le_of_lt hi')]; exact hx) ((hG _ H p).2 i x l[i] hx hl) p
  rw [← e1] at q
  exact q
end Sh
set_option Elab.async false
set_option linter.all false
set_option maxRecDepth 100000
namespace Sh
open PySem PySem.Spec PyProof.Rows L2
structure TxtC (K : PySem.W.Frag) (mg : Str → Option Value) (CB : Addr) : Prop extends Txt K mg where
  k_Book : ClassAt K mg "Book" CB
  m_Book___init__ : MethAt K CB "__init__" "Book.__init__" s_Book___init__ ["self", "signs", "rules"]
  m_Book___call__ : MethAt K CB "__call__" "Book.__call__" s_Book___call__ ["self", "text"]
  n_Book_signs : NoAttr K CB "signs"
  n_Book_rules : NoAttr K CB "rules"
  n_Book__lefts : NoAttr K CB "_lefts"
  n_Book__longest : NoAttr K CB "_longest"
  n_Book__quarrel : NoAttr K CB "_quarrel"
  n_Book__moves : NoAttr K CB "_moves"
end Sh
set_option Elab.async false
set_option linter.all false
set_option maxRecDepth 100000
set_option maxHeartbeats 4000000
namespace Sh
open PySem PySem.Spec PyProof.Rows L2
open SX (S S_inj S_len S_cat)
open Bk (Rule firstAt lg bestUp used left drain pushS Wf quarrel)
local macro_rules | `(tactic| walk_at "nx") => `(tactic| repeat (with_reducible first | refine Sh.gn_mk ?_ | refine Sh.nx_mk ?_ | refine Sh.st_nx ?_ | refine Sh.rt_mk ?_ | refine Sh.ct_mk ?_ | refine Sh.bk_mk ?_))
local macro_rules | `(tactic| walk_at "sq") => `(tactic| first | exact SqL.of upd_same | exact SqT.of upd_same | exact SqL.of (by assumption) | exact SqT.of (by assumption) | assumption | exact Or.inl (SqL.of (by assumption)) | exact Or.inr (SqT.of (by assumption)) | exact Or.inl (by assumption) | exact Or.inr (by assumption))
local macro_rules | `(tactic| walk_at "hp") => `(tactic| first | exact upd_same | assumption)
local macro_rules | `(tactic| walk_at "sz") => `(tactic| first | exact Nat.le_of_ble_eq_true rfl | omega)
local macro_rules | `(tactic| walk_at "sd") => `(tactic| first | omega | exact rfl | assumption | (show (0 : Int) < _; omega) | exact And.intro (by omega) (by omega) | exact Or.inl (And.intro (by omega) (by omega)) | exact Or.inr (And.intro (by omega) (by omega)) | omega | exact Sh.sz_S (by omega) | decide)
local macro_rules | `(tactic| walk_at "rd1") => `(tactic| first
  | (with_reducible first | refine Sh.gn_mk ?_ | refine Sh.nx_mk ?_ | refine Sh.st_nx ?_ | refine Sh.rt_mk ?_ | refine Sh.ct_mk ?_ | refine Sh.bk_mk ?_)
  | refine Exists.intro (α := V) _ (And.intro rfl ?_)
  | refine Exists.intro (α := Bool) _ (And.intro rfl ?_)
  | refine Exists.intro (α := Int) _ (And.intro rfl ?_)
  | refine Exists.intro (α := PySem.Str) _ (And.intro rfl ?_)
  | refine Exists.intro (α := Int) _ (Exists.intro (α := Int) _ (And.intro rfl (And.intro rfl ?_)))
  | refine Exists.intro (α := PySem.Str) _ (Exists.intro (α := PySem.Str) _ (And.intro rfl (And.intro rfl ?_)))
  | refine Exists.intro (α := Int) _ (Exists.intro (α := Int) _ (And.intro rfl ?_))
  | refine Or.inl (Exists.intro (α := Int) _ (And.intro rfl ?_))
  | refine Exists.intro _ (Exists.intro _ (Exists.intro _ (Exists.intro _ (And.intro rfl (And.intro rfl (And.intro (by walk_at "sq") (And.intro rfl ?_)))))))
  | refine Exists.intro _ (Exists.intro _ (Exists.intro _ (Exists.intro _ (And.intro rfl (And.intro rfl (And.intro (by walk_at "hp") (And.intro rfl ?_)))))))
  | refine And.intro (by walk_at "sd") ?_
  )
local macro_rules | `(tactic| walk_at "rd") => `(tactic| repeat walk_at "rd1")
local macro_rules | `(tactic| walk_at "lk") => `(tactic| first | exact rfl | (rw [lookup_putF, if_pos rfl]) | (rw [lookup_putF, if_neg (by decide +kernel)]; walk_at "lk"))

section
variable {P : Program} {w : World} {K : PySem.W.Frag} {mg : Str → Option Value} {base : Heap} {CB CE : Addr}
theorem LeftsAt.ins {H H' : Hp} {p a C dx : Addr} {fs : List (Str × V)} {R : List Rule} (h : LeftsAt H p R) (s : But a H H') (z : H a = some (.ins C dx fs)) : LeftsAt H' p R := by
  obtain ⟨kvs, e, k⟩ := h
  refine ⟨kvs, s _ _ (ne_of e z (by intro q; cases q)) e, fun l => ⟨(k l).1, fun j r e => ?_⟩⟩
  obtain ⟨q, e1, e2⟩ := (k l).2 j r e
  exact ⟨q, e1, s _ _ (ne_of e2 z (by intro q; cases q)) e2⟩
/-- a book of the rules R over the signs sg stands at p -/
def BookAt (K : PySem.W.Frag) (C : Addr) (H : Hp) (p : Addr) (sg : List Nat) (R : List Rule) : Prop :=
  ∃ (dx : Addr) (fs : List (Str × V)) (a : Addr) (xs : List V) (pl : Addr), H p = some (.ins C dx fs) ∧ fs.lookup ("signs" : Str) = some (.str (S sg)) ∧ fs.lookup ("rules" : Str) = some (.ref a) ∧ RulesAt K H a xs R ∧
    fs.lookup ("_lefts" : Str) = some (.ref pl) ∧ LeftsAt H pl R ∧ fs.lookup ("_longest" : Str) = some (.int (lg R : Nat)) ∧ fs.lookup ("_quarrel" : Str) = some (optS (quarrel R))
theorem BookAt.same {C : Addr} {H H' : Hp} {p : Addr} {sg : List Nat} {R : List Rule} (h : BookAt K C H p sg R) (s : Same H H') : BookAt K C H' p sg R :=
  let ⟨dx, fs, a, xs, pl, h1, h2, h3, h4, h5, h6, h7, h8⟩ := h
  ⟨dx, fs, a, xs, pl, s _ _ h1, h2, h3, h4.same s, h5, h6.same s, h7, h8⟩
def spBookInit (K : PySem.W.Frag) (C : Addr) : Sp := fun vs H Q _ => ∃ (p dx a : Addr) (sg : List Nat) (xs : List V) (R : List Rule), vs = [.ref p, .str (S sg), .ref a] ∧ H p = some (.ins C dx []) ∧ RulesAt K H a xs R ∧ BookOk sg R ∧
  ∀ H' : Hp, BookAt K C H' p sg R → But p H H' → Q .non H'
theorem c_Book___init__ (T : TxtC K mg CB) : MetC P w K mg base 4 CB "__init__" (spBookInit K CB) := by
  have c_check_signs := c_check_signs (P := P) (w := w) (base := base) T.toTxt
  have c_checked_rules := c_checked_rules (P := P) (w := w) (base := base) T.toTxt
  have c_first_rules := c_first_rules (P := P) (w := w) (base := base) T.toTxt
  have c_longest_left := c_longest_left (P := P) (w := w) (base := base) T.toTxt
  have c_quarrel_of := c_quarrel_of (P := P) (w := w) (base := base) T.toTxt
  have c_end_moves := c_end_moves (P := P) (w := w) (base := base) T.toTxt
  refine MetC.mk0 T.m_Book___init__ sc_Book___init__ (fun vs H Q E h => ?_) (fun f cdv A outer s H vs Q E hr h => ?_)
  · obtain ⟨p, dx, a, sg, xs, R, rfl, _⟩ := h
    rfl
  · obtain ⟨p, dx, a, sg, xs, R, rfl, hp, hR, hB, k⟩ := h
    have hw := hB.wf
    have hl := hB.2.1
    have hsg := (signs_len hB.1).2
    refine ⟨_, (pss_cons (ps_expr (pe_c c_check_signs hr (by decide) rfl (pa_cons (pv 1) pa_nil)))
  (pss_cons (ps_fld (pv 0) (pv 1) rfl)
  (pss_cons (ps_fld (pv 0) (pe_c c_checked_rules hr (by decide) rfl (pa_cons (pv 1) (pa_cons (pv 2) pa_nil))) rfl)
  (pss_cons (ps_fld (pv 0) (pe_c c_first_rules hr (by decide) rfl (pa_cons (pe_fld (pv 0) rfl) pa_nil)) rfl)
  (pss_cons (ps_fld (pv 0) (pe_c c_longest_left hr (by decide) rfl (pa_cons (pe_fld (pv 0) rfl) pa_nil)) rfl)
  (pss_cons (ps_fld (pv 0) (pe_c c_quarrel_of hr (by decide) rfl (pa_cons (pe_fld (pv 0) rfl) (pa_cons (pe_fld (pv 0) rfl) (pa_cons (pe_fld (pv 0) rfl) pa_nil)))) rfl)
  (pss_one (ps_fld (pv 0) (pe_c c_end_moves hr (by decide) rfl (pa_cons (pv 1) (pa_cons (pe_fld (pv 0) rfl) pa_nil))) rfl)))))))), ?_⟩
    refine ⟨_, rfl, sg, rfl, hB.1, ?_⟩
    have cl := T.k_Book.cl
    refine ⟨_, rfl, _, rfl, p, CB, dx, [], rfl, hp, cl, T.n_Book_signs, by show 0 < 1000; decide, ?_⟩
    -- rules
    have b1 : But p H (upd H p (.ins CB dx (putF "signs" (.str (S sg)) []))) := but_upd
    have hp1 : (upd H p (.ins CB dx (putF "signs" (.str (S sg)) []))) p = some (.ins CB dx (putF "signs" (.str (S sg)) [])) := upd_same
    have hR1 := hR.keep (Keep.butI b1 hp)
    generalize upd H p (.ins CB dx (putF "signs" (.str (S sg)) [])) = H1 at b1 hp1 hR1 ⊢
    walk_at "nx"
    refine ⟨_, rfl, _, rfl, sg, a, xs, R, rfl, hR1, hB, fun a2 ys H2 s2 hR2 => ?_⟩
    have hp2 := s2 _ _ hp1
    generalize hf1 : putF "signs" (V.str (S sg)) [] = f1 at hp2 hp1
    have l1 : f1.length ≤ 1 := by rw [← hf1]; exact putF_le _ _ []
    have g1 : f1.lookup ("signs" : Str) = some (.str (S sg)) := by rw [← hf1]; walk_at "lk"
    refine ⟨_, rfl, p, CB, dx, f1, rfl, hp2, cl, T.n_Book_rules, by omega, ?_⟩
    have b2 : But p H (upd H2 p (.ins CB dx (putF "rules" (.ref a2) f1))) := b1.trans ((But.same s2).trans but_upd)
    have hp3 : (upd H2 p (.ins CB dx (putF "rules" (.ref a2) f1))) p = some (.ins CB dx (putF "rules" (.ref a2) f1)) := upd_same
    have hR3 := hR2.keep (Keep.butI but_upd hp2 (H' := upd H2 p (.ins CB dx (putF "rules" (.ref a2) f1))))
    generalize upd H2 p (.ins CB dx (putF "rules" (.ref a2) f1)) = H3 at b2 hp3 hR3 ⊢
    have g2 : (putF "rules" (.ref a2) f1).lookup ("rules" : Str) = some (.ref a2) := by walk_at "lk"
    have g2s : (putF "rules" (.ref a2) f1).lookup ("signs" : Str) = some (.str (S sg)) := by rw [lookup_putF, if_neg (by decide +kernel)]; exact g1
    have l2 : (putF "rules" (V.ref a2) f1).length ≤ 2 := by have := putF_le "rules" (V.ref a2) f1; omega
    generalize putF "rules" (V.ref a2) f1 = f2 at hp3 g2 g2s l2
    walk_at "nx"
    -- _lefts
    refine ⟨_, rfl, p, CB, dx, f2, _, rfl, hp3, cl, T.n_Book_rules, g2, a2, ys, R, rfl, hR3, hl, fun pl H4 hpl s4 L4 => ?_⟩
    have hp4 := s4 _ _ hp3
    refine ⟨_, rfl, p, CB, dx, f2, rfl, hp4, cl, T.n_Book__lefts, by omega, ?_⟩
    have b3 : But p H (upd H4 p (.ins CB dx (putF "_lefts" (.ref pl) f2))) := b2.trans ((But.same s4).trans but_upd)
    have hp5 : (upd H4 p (.ins CB dx (putF "_lefts" (.ref pl) f2))) p = some (.ins CB dx (putF "_lefts" (.ref pl) f2)) := upd_same
    have hR5 := (hR3.same s4).keep (Keep.butI but_upd hp4 (H' := upd H4 p (.ins CB dx (putF "_lefts" (.ref pl) f2))))
    have L5 := L4.ins (but_upd (o := .ins CB dx (putF "_lefts" (.ref pl) f2))) hp4
    generalize upd H4 p (.ins CB dx (putF "_lefts" (.ref pl) f2)) = H5 at b3 hp5 hR5 L5 ⊢
    have g3 : (putF "_lefts" (.ref pl) f2).lookup ("rules" : Str) = some (.ref a2) := by rw [lookup_putF, if_neg (by decide +kernel)]; exact g2
    have g3s : (putF "_lefts" (.ref pl) f2).lookup ("signs" : Str) = some (.str (S sg)) := by rw [lookup_putF, if_neg (by decide +kernel)]; exact g2s
    have g3l : (putF "_lefts" (.ref pl) f2).lookup ("_lefts" : Str) = some (.ref pl) := by walk_at "lk"
    have l3 : (putF "_lefts" (V.ref pl) f2).length ≤ 3 := by have := putF_le "_lefts" (V.ref pl) f2; omega
    generalize putF "_lefts" (V.ref pl) f2 = f3 at hp5 g3 g3s g3l l3
    walk_at "nx"
    -- _longest
    refine ⟨_, rfl, p, CB, dx, f3, _, rfl, hp5, cl, T.n_Book_rules, g3, a2, ys, R, rfl, hR5, hl, fun r m => Nat.le_trans (hB.2.2.1 r m).2.1 (by decide), fun H6 s6 => ?_⟩
    have hp6 := s6 _ _ hp5
    refine ⟨_, rfl, p, CB, dx, f3, rfl, hp6, cl, T.n_Book__longest, by omega, ?_⟩
    have b4 : But p H (upd H6 p (.ins CB dx (putF "_longest" (.int (lg R : Nat)) f3))) := b3.trans ((But.same s6).trans but_upd)
    have hp7 : (upd H6 p (.ins CB dx (putF "_longest" (.int (lg R : Nat)) f3))) p = some (.ins CB dx (putF "_longest" (.int (lg R : Nat)) f3)) := upd_same
    have hR7 := (hR5.same s6).keep (Keep.butI but_upd hp6 (H' := upd H6 p (.ins CB dx (putF "_longest" (.int (lg R : Nat)) f3))))
    have L7 := (L5.same s6).ins (but_upd (o := .ins CB dx (putF "_longest" (.int (lg R : Nat)) f3))) hp6
    generalize upd H6 p (.ins CB dx (putF "_longest" (.int (lg R : Nat)) f3)) = H7 at b4 hp7 hR7 L7 ⊢
    have g4 : (putF "_longest" (.int (lg R : Nat)) f3).lookup ("rules" : Str) = some (.ref a2) := by rw [lookup_putF, if_neg (by decide +kernel)]; exact g3
    have g4s : (putF "_longest" (.int (lg R : Nat)) f3).lookup ("signs" : Str) = some (.str (S sg)) := by rw [lookup_putF, if_neg (by decide +kernel)]; exact g3s
    have g4l : (putF "_longest" (.int (lg R : Nat)) f3).lookup ("_lefts" : Str) = some (.ref pl) := by rw [lookup_putF, if_neg (by decide +kernel)]; exact g3l
    have g4g : (putF "_longest" (.int (lg R : Nat)) f3).lookup ("_longest" : Str) = some (.int (lg R : Nat)) := by walk_at "lk"
    have l4 : (putF "_longest" (V.int (lg R : Nat)) f3).length ≤ 4 := by have := putF_le "_longest" (V.int (lg R : Nat)) f3; omega
    generalize putF "_longest" (V.int (lg R : Nat)) f3 = f4 at hp7 g4 g4s g4l g4g l4
    walk_at "nx"
    -- _quarrel
    have h41 : ∀ r ∈ R, r.1.length ≤ 4 ∧ r.2.length ≤ 1 := fun r m => ⟨(hB.2.2.1 r m).2.1, (hw r m).2⟩
    refine ⟨_, rfl, p, CB, dx, f4, _, rfl, hp7, cl, T.n_Book_rules, g4, _, rfl, p, CB, dx, f4, _, rfl, hp7, cl, T.n_Book__lefts, g4l, _, rfl, p, CB, dx, f4, _, rfl, hp7, cl, T.n_Book__longest, g4g, a2, pl, ys, R, rfl, hR7, L7, hw, hl, h41, fun H8 s8 => ?_⟩
    have hp8 := s8 _ _ hp7
    refine ⟨_, rfl, p, CB, dx, f4, rfl, hp8, cl, T.n_Book__quarrel, by omega, ?_⟩
    have b5 : But p H (upd H8 p (.ins CB dx (putF "_quarrel" (optS (quarrel R)) f4))) := b4.trans ((But.same s8).trans but_upd)
    have hp9 : (upd H8 p (.ins CB dx (putF "_quarrel" (optS (quarrel R)) f4))) p = some (.ins CB dx (putF "_quarrel" (optS (quarrel R)) f4)) := upd_same
    have hR9 := (hR7.same s8).keep (Keep.butI but_upd hp8 (H' := upd H8 p (.ins CB dx (putF "_quarrel" (optS (quarrel R)) f4))))
    have L9 := (L7.same s8).ins (but_upd (o := .ins CB dx (putF "_quarrel" (optS (quarrel R)) f4))) hp8
    generalize upd H8 p (.ins CB dx (putF "_quarrel" (optS (quarrel R)) f4)) = H9 at b5 hp9 hR9 L9 ⊢
    have g5 : (putF "_quarrel" (optS (quarrel R)) f4).lookup ("rules" : Str) = some (.ref a2) := by rw [lookup_putF, if_neg (by decide +kernel)]; exact g4
    have g5s : (putF "_quarrel" (optS (quarrel R)) f4).lookup ("signs" : Str) = some (.str (S sg)) := by rw [lookup_putF, if_neg (by decide +kernel)]; exact g4s
    have g5l : (putF "_quarrel" (optS (quarrel R)) f4).lookup ("_lefts" : Str) = some (.ref pl) := by rw [lookup_putF, if_neg (by decide +kernel)]; exact g4l
    have g5g : (putF "_quarrel" (optS (quarrel R)) f4).lookup ("_longest" : Str) = some (.int (lg R : Nat)) := by rw [lookup_putF, if_neg (by decide +kernel)]; exact g4g
    have g5q : (putF "_quarrel" (optS (quarrel R)) f4).lookup ("_quarrel" : Str) = some (optS (quarrel R)) := by walk_at "lk"
    have l5 : (putF "_quarrel" (optS (quarrel R)) f4).length ≤ 5 := by have := putF_le "_quarrel" (optS (quarrel R)) f4; omega
    generalize putF "_quarrel" (optS (quarrel R)) f4 = f5 at hp9 g5 g5s g5l g5g g5q l5
    walk_at "nx"
    -- _moves
    refine ⟨_, rfl, _, rfl, p, CB, dx, f5, _, rfl, hp9, cl, T.n_Book_rules, g5, a2, ys, R, sg, rfl, hR9, hl, fun r m => (h41 r m).1, by omega, fun pm H10 s10 => ?_⟩
    have hp10 := s10 _ _ hp9
    refine ⟨_, rfl, p, CB, dx, f5, rfl, hp10, cl, T.n_Book__moves, by omega, ?_⟩
    refine k _ ⟨dx, putF "_moves" (.ref pm) f5, a2, ys, pl, upd_same, ?_, ?_, (hR9.same s10).keep (Keep.butI but_upd hp10), ?_, (L9.same s10).ins but_upd hp10, ?_, ?_⟩ (b5.trans ((But.same s10).trans but_upd))
    all_goals rw [lookup_putF, if_neg (by decide +kernel)]
    all_goals assumption
end
end Sh
set_option Elab.async false
set_option linter.all false
set_option maxRecDepth 100000
set_option maxHeartbeats 4000000
namespace Sh
open PySem PySem.Spec PyProof.Rows L2
open SX (S S_inj S_len S_cat)
open Bk (Rule firstAt lg bestUp used left drain pushS Wf quarrel)
local macro_rules | `(tactic| walk_at "nx") => `(tactic| repeat (with_reducible first | refine Sh.gn_mk ?_ | refine Sh.nx_mk ?_ | refine Sh.st_nx ?_ | refine Sh.rt_mk ?_ | refine Sh.ct_mk ?_ | refine Sh.bk_mk ?_))
local macro_rules | `(tactic| walk_at "sq") => `(tactic| first | exact SqL.of upd_same | exact SqT.of upd_same | exact SqL.of (by assumption) | exact SqT.of (by assumption) | assumption | exact Or.inl (SqL.of (by assumption)) | exact Or.inr (SqT.of (by assumption)) | exact Or.inl (by assumption) | exact Or.inr (by assumption))
local macro_rules | `(tactic| walk_at "hp") => `(tactic| first | exact upd_same | assumption)
local macro_rules | `(tactic| walk_at "sz") => `(tactic| first | exact Nat.le_of_ble_eq_true rfl | omega)
local macro_rules | `(tactic| walk_at "sd") => `(tactic| first | omega | exact rfl | assumption | (show (0 : Int) < _; omega) | exact And.intro (by omega) (by omega) | exact Or.inl (And.intro (by omega) (by omega)) | exact Or.inr (And.intro (by omega) (by omega)) | omega | exact Sh.sz_S (by omega) | decide)
local macro_rules | `(tactic| walk_at "rd1") => `(tactic| first
  | (with_reducible first | refine Sh.gn_mk ?_ | refine Sh.nx_mk ?_ | refine Sh.st_nx ?_ | refine Sh.rt_mk ?_ | refine Sh.ct_mk ?_ | refine Sh.bk_mk ?_)
  | refine Exists.intro (α := V) _ (And.intro rfl ?_)
  | refine Exists.intro (α := Bool) _ (And.intro rfl ?_)
  | refine Exists.intro (α := Int) _ (And.intro rfl ?_)
  | refine Exists.intro (α := PySem.Str) _ (And.intro rfl ?_)
  | refine Exists.intro (α := Int) _ (Exists.intro (α := Int) _ (And.intro rfl (And.intro rfl ?_)))
  | refine Exists.intro (α := PySem.Str) _ (Exists.intro (α := PySem.Str) _ (And.intro rfl (And.intro rfl ?_)))
  | refine Exists.intro (α := Int) _ (Exists.intro (α := Int) _ (And.intro rfl ?_))
  | refine Or.inl (Exists.intro (α := Int) _ (And.intro rfl ?_))
  | refine Exists.intro _ (Exists.intro _ (Exists.intro _ (Exists.intro _ (And.intro rfl (And.intro rfl (And.intro (by walk_at "sq") (And.intro rfl ?_)))))))
  | refine Exists.intro _ (Exists.intro _ (Exists.intro _ (Exists.intro _ (And.intro rfl (And.intro rfl (And.intro (by walk_at "hp") (And.intro rfl ?_)))))))
  | refine And.intro (by walk_at "sd") ?_
  )
local macro_rules | `(tactic| walk_at "rd") => `(tactic| repeat walk_at "rd1")
local macro_rules | `(tactic| walk_at "lk") => `(tactic| first | exact rfl | (rw [lookup_putF, if_pos rfl]) | (rw [lookup_putF, if_neg (by decide +kernel)]; walk_at "lk"))

section
variable {P : Program} {w : World} {K : PySem.W.Frag} {mg : Str → Option Value} {base : Heap} {CB CE : Addr}
def spBookCall (K : PySem.W.Frag) (C : Addr) : Sp := fun vs H Q _ => ∃ (p : Addr) (sg t : List Nat) (R : List Rule), vs = [.ref p, .str (S t)] ∧ BookAt K C H p sg R ∧ Wf R ∧ t.length ≤ 200 ∧ (∀ c ∈ t, c ∈ sg) ∧
  ∀ H' : Hp, Same H H' → Q (.str (S (left R t))) H'
theorem c_Book___call__ (T : TxtC K mg CB) : MetC P w K mg base 3 CB "__call__" (spBookCall K CB) := by
  have c_check_text := c_check_text (P := P) (w := w) (base := base) T.toTxt
  have c_left_over := c_left_over (P := P) (w := w) (base := base) T.toTxt
  refine MetC.mk0 T.m_Book___call__ sc_Book___call__ (fun vs H Q E h => ?_) (fun f cdv A outer s H vs Q E hr h => ?_)
  · obtain ⟨p, sg, t, R, rfl, _⟩ := h
    rfl
  · obtain ⟨p, sg, t, R, rfl, ⟨dx, fs, a, xs, pl, hp, g1, g2, hR, g3, L, g4, g5⟩, hw, ht, hc, k⟩ := h
    have cl := T.k_Book.cl
    refine ⟨_, (pss_cons (ps_expr (pe_c c_check_text hr (by decide) rfl (pa_cons (pe_fld (pv 0) rfl) (pa_cons (pv 1) pa_nil))))
  (pss_one (ps_ret (pe_c c_left_over hr (by decide) rfl (pa_cons (pe_fld (pv 0) rfl) (pa_cons (pe_fld (pv 0) rfl) (pa_cons (pv 1) pa_nil))))))), ?_⟩
    refine ⟨_, rfl, p, CB, dx, fs, _, rfl, hp, cl, T.n_Book_signs, g1, _, rfl, sg, t, rfl, ht, hc, ?_⟩
    walk_at "nx"
    refine ⟨_, rfl, p, CB, dx, fs, _, rfl, hp, cl, T.n_Book__lefts, g3, _, rfl, p, CB, dx, fs, _, rfl, hp, cl, T.n_Book__longest, g4, _, rfl, pl, R, t, rfl, L, hw, by omega, fun H' s' => ?_⟩
    exact k H' s'
def spRest (K : PySem.W.Frag) (C : Addr) : Sp := fun vs H Q _ => ∃ (p : Addr) (sg t : List Nat) (R : List Rule), vs = [.ref p, .str (S t)] ∧ BookAt K C H p sg R ∧ Wf R ∧ t.length ≤ 200 ∧
  ∀ H' : Hp, Same H H' → Q (.str (S (left R t))) H'
theorem c_rest_of (T : TxtC K mg CB) : Cal P w K mg base CX0 3 "rest_of" (spRest K CB) := by
  have c_left_over := c_left_over (P := P) (w := w) (base := base) T.toTxt
  refine Cal.mk0 T.d_rest_of sc_rest_of (fun vs H Q E h => ?_) (fun f cdv A outer s H vs Q E hr h => ?_)
  · obtain ⟨p, sg, t, R, rfl, _⟩ := h
    rfl
  · obtain ⟨p, sg, t, R, rfl, ⟨dx, fs, a, xs, pl, hp, g1, g2, hR, g3, L, g4, g5⟩, hw, ht, k⟩ := h
    have cl := T.k_Book.cl
    refine ⟨_, (pss_one (ps_ret (pe_c c_left_over hr (by decide) rfl (pa_cons (pe_fld (pv 0) rfl) (pa_cons (pe_fld (pv 0) rfl) (pa_cons (pv 1) pa_nil)))))), ?_⟩
    refine ⟨_, rfl, p, CB, dx, fs, _, rfl, hp, cl, T.n_Book__lefts, g3, _, rfl, p, CB, dx, fs, _, rfl, hp, cl, T.n_Book__longest, g4, _, rfl, pl, R, t, rfl, L, hw, by omega, fun H' s' => ?_⟩
    exact k H' s'
def spSettled (K : PySem.W.Frag) (C : Addr) : Sp := fun vs H Q _ => ∃ (p : Addr) (sg : List Nat) (R : List Rule), vs = [.ref p] ∧ BookAt K C H p sg R ∧ quarrel R = none ∧ Q .non H
theorem c_check_settled (T : TxtC K mg CB) : Cal P w K mg base CX0 1 "check_settled" (spSettled K CB) := by
  refine Cal.mk0 T.d_check_settled sc_check_settled (fun vs H Q E h => ?_) (fun f cdv A outer s H vs Q E hr h => ?_)
  · obtain ⟨p, sg, R, rfl, _⟩ := h
    rfl
  · obtain ⟨p, sg, R, rfl, ⟨dx, fs, a, xs, pl, hp, g1, g2, hR, g3, L, g4, g5⟩, hq, k⟩ := h
    have cl := T.k_Book.cl
    rw [hq] at g5
    refine ⟨_, (pss_one (ps_if (pt_cmpR op_notN (pe_fld (pv 0) rfl) pe_non (nomark _))
    (pss_one ps_never)
    pss_nil)), ?_⟩
    refine ⟨_, rfl, p, CB, dx, fs, _, rfl, hp, cl, T.n_Book__quarrel, g5, ?_⟩
    walk_at "rd"
    exact k
end
end Sh
set_option Elab.async false
set_option linter.all false
set_option maxRecDepth 100000
set_option maxHeartbeats 4000000
namespace Sh
open PySem PySem.Spec PyProof.Rows L2
open SX (S S_inj S_len S_cat)
open Bk (Rule firstAt lg bestUp used left drain pushS Wf quarrel fits useR over res1 res2 Meets)
/-- a comprehension over a list whose items are told by l -/
theorem asg_J {te : TE} {g : TG} {D : Ends} {σ : L2.St} {H : Hp} (P : V → Hp → Prop) (h : ∀ Q : VK, (∀ v H', P v H' → Q v H') → te σ H Q) (k : ∀ v H', P v H' → g v σ H' D.nx) : tAsg te g D σ H := h _ k
local macro_rules | `(tactic| walk_at "nx") => `(tactic| repeat (with_reducible first | refine Sh.gn_mk ?_ | refine Sh.nx_mk ?_ | refine Sh.st_nx ?_ | refine Sh.rt_mk ?_ | refine Sh.ct_mk ?_ | refine Sh.bk_mk ?_))
local macro_rules | `(tactic| walk_at "sq") => `(tactic| first | exact SqL.of upd_same | exact SqT.of upd_same | exact SqL.of (by assumption) | exact SqT.of (by assumption) | assumption | exact Or.inl (SqL.of (by assumption)) | exact Or.inr (SqT.of (by assumption)) | exact Or.inl (by assumption) | exact Or.inr (by assumption))
local macro_rules | `(tactic| walk_at "hp") => `(tactic| first | exact upd_same | assumption)
local macro_rules | `(tactic| walk_at "sz") => `(tactic| first | exact Nat.le_of_ble_eq_true rfl | omega)
local macro_rules | `(tactic| walk_at "sd") => `(tactic| first | omega | exact rfl | assumption | (show (0 : Int) < _; omega) | exact And.intro (by omega) (by omega) | exact Or.inl (And.intro (by omega) (by omega)) | exact Or.inr (And.intro (by omega) (by omega)) | omega | exact Sh.sz_S (by omega) | decide)
local macro_rules | `(tactic| walk_at "rd1") => `(tactic| first
  | (with_reducible first | refine Sh.gn_mk ?_ | refine Sh.nx_mk ?_ | refine Sh.st_nx ?_ | refine Sh.rt_mk ?_ | refine Sh.ct_mk ?_ | refine Sh.bk_mk ?_)
  | refine Exists.intro (α := V) _ (And.intro rfl ?_)
  | refine Exists.intro (α := Bool) _ (And.intro rfl ?_)
  | refine Exists.intro (α := Int) _ (And.intro rfl ?_)
  | refine Exists.intro (α := PySem.Str) _ (And.intro rfl ?_)
  | refine Exists.intro (α := Int) _ (Exists.intro (α := Int) _ (And.intro rfl (And.intro rfl ?_)))
  | refine Exists.intro (α := PySem.Str) _ (Exists.intro (α := PySem.Str) _ (And.intro rfl (And.intro rfl ?_)))
  | refine Exists.intro (α := Int) _ (Exists.intro (α := Int) _ (And.intro rfl ?_))
  | refine Or.inl (Exists.intro (α := Int) _ (And.intro rfl ?_))
  | refine Exists.intro _ (Exists.intro _ (Exists.intro _ (Exists.intro _ (And.intro rfl (And.intro rfl (And.intro (by walk_at "sq") (And.intro rfl ?_)))))))
  | refine Exists.intro _ (Exists.intro _ (Exists.intro _ (Exists.intro _ (And.intro rfl (And.intro rfl (And.intro (by walk_at "hp") (And.intro rfl ?_)))))))
  | refine And.intro (by walk_at "sd") ?_
  )
local macro_rules | `(tactic| walk_at "rd") => `(tactic| repeat walk_at "rd1")
local macro_rules | `(tactic| walk_at "lk") => `(tactic| first | exact rfl | (rw [lookup_putF, if_pos rfl]) | (rw [lookup_putF, if_neg (by decide +kernel)]; walk_at "lk"))

section
variable {P : Program} {w : World} {K : PySem.W.Frag} {mg : Str → Option Value} {base : Heap} {CB CE : Addr}
theorem used_filter (R : List Rule) (q : List Nat) : used R q = ((R.filter (fits q)).head?).map (useR q) := by
  unfold used
  rw [List.head?_filter]
theorem RItem.sm {H H' : Hp} {v : V} {r : Rule} (h : RItem K H v r) (s : Same H H') : RItem K H' v r := h.same (Keep.same s)
def spLawLeft (K : PySem.W.Frag) : Sp := fun vs H Q _ => ∃ (a : Addr) (xs : List V) (R : List Rule) (t : List Nat), vs = [.ref a, .str (S t)] ∧ (SqL K H a xs ∨ SqT K H a xs) ∧ Items (RItem K) H xs R ∧ R.length ≤ 64 ∧ Wf R ∧ (∀ r ∈ R, r.1.length ≤ 4) ∧ t.length ≤ 1000 ∧
  ∀ H' : Hp, Same H H' → Q (.str (S (left R t))) H'
theorem c__law_left (T : Txt K mg) : Cal P w K mg base CX0 1 "_law_left" (spLawLeft K) := by
  refine Cal.mk0 T.d__law_left sc__law_left (fun vs H Q E h => ?_) (fun f cdv A outer s H vs Q E hr h => ?_)
  · obtain ⟨a, xs, R, t, rfl, _⟩ := h
    rfl
  · obtain ⟨a, xs, R, t, rfl, hS, hR, hl, hw, h4, ht, k⟩ := h
    have hSl := S_len t
    rcases hS with hS | hS
    · refine ⟨_, (pss_cons (ps_set (i := 2) sc__law_left.nd rfl (Or.inr rfl) pe_str)
  (pss_cons (ps_for PassesOwn.never rfl (pi_str (pv 1)) (pg_name (i := 3) sc__law_left.nd rfl (Or.inl rfl))
    (pss_cons (ps_set (i := 2) sc__law_left.nd rfl (Or.inr rfl) (pe_op op_add_str (pv 2) (pv 3)))
    (pss_cons (ps_setLc (i := 4) (own := [("_law_rule", 5)]) (g := gName 5) (by rfl) sc__law_left.nd rfl rfl (sw_true rfl rfl rfl (by decide +kernel)) (pi_list (pv 0)) (blkOk_by (N := ["_law_rules", "_law_text_here", "_law_pile", "_law_sign", "_law_fitting", "_law_rule"]) (sc := defScope s__law_left) (by decide +kernel)) (fun _ _ _ _ _ => (pg_name (i := 5) sc__law_left.nd rfl (Or.inl rfl))) (fun _ _ _ _ _ => (pts_one (pt_val (pe_m1 PySem.F.slot_str_endswith PySem.F.type_str_endswith mt_endswith (pv 2) (pe_ix ix_tupB (pv 5) pe_int (fun _ _ => rfl)))))) (fun _ _ _ _ _ => (pv 5)))
    (pss_one (ps_while PassesOwn.never (pt_truth (pv 4) (by intro _; rfl))
      (pss_cons (ps_set (i := 2) sc__law_left.nd rfl (Or.inr rfl) (pe_op op_add_str (pe_slice sl_str (pv 2) po_none (po_some (pe_op op_sub (pe_callB call_len_str (by rfl) T.b_len (by decide +kernel) (pa_cons (pv 2) pa_nil)) (pe_callB call_len_str (by rfl) T.b_len (by decide +kernel) (pa_cons (pe_ix ix_tup (pe_ix ix_list (pv 4) pe_int (fun _ _ => rfl)) pe_int (fun _ _ => rfl)) pa_nil))))) (pe_ix ix_tup (pe_ix ix_list (pv 4) pe_int (fun _ _ => rfl)) pe_int (fun _ _ => rfl))))
      (pss_one (ps_setLc (i := 4) (own := [("_law_rule", 5)]) (g := gName 5) (by rfl) sc__law_left.nd rfl rfl (sw_true rfl rfl rfl (by decide +kernel)) (pi_list (pv 0)) (blkOk_by (N := ["_law_rules", "_law_text_here", "_law_pile", "_law_sign", "_law_fitting", "_law_rule"]) (sc := defScope s__law_left) (by decide +kernel)) (fun _ _ _ _ _ => (pg_name (i := 5) sc__law_left.nd rfl (Or.inl rfl))) (fun _ _ _ _ _ => (pts_one (pt_val (pe_m1 PySem.F.slot_str_endswith PySem.F.type_str_endswith mt_endswith (pv 2) (pe_ix ix_tupB (pv 5) pe_int (fun _ _ => rfl)))))) (fun _ _ _ _ _ => (pv 5))))))))))
  (pss_one (ps_ret (pv 2))))), ?_⟩
      walk_at "rd"
      refine for_str (l := t) (fun pre σ H2 => ∃ (v3 v4 v5 : Option V), σ = [some (.ref a), some (.str (S t)), some (.str (S (left R pre))), v3, v4, v5] ∧ Same H H2)
        ⟨_, _, _, rfl, Same.refl H⟩ ?_ ?_
      · rintro pre c post σ H2 e ⟨v3, v4, v5, rfl, s2⟩
        have hpl : pre.length + 1 ≤ t.length := by
          have := congrArg List.length e
          simp at this
          omega
        have hlp := left_len hw pre
        walk_at "nx"
        refine ⟨_, rfl, _, rfl, _, _, rfl, rfl, by rw [S_len, S_len]; exact Nat.le_trans (m := 1001) (by simp; omega) (by decide), ?_⟩
        rw [S_cat]
        walk_at "nx"
        refine st_asgJ (fun v H3 => ∃ (pf : Addr) (ys : List V), v = .ref pf ∧ Same H2 H3 ∧ H3 pf = some (.lst ys) ∧ Items (RItem K) H3 ys (R.filter (fits (left R pre ++ [c])))) (fun Q' hQ => ?_) ?_
        · refine ⟨_, rfl, a, rfl, ⟨_, (fun {H1 H2 : Hp} (s : Same H1 H2) (h : SqL K H1 a xs) => s.seq h) (s2) hS⟩, fun D hD => lc_lstR (K := K) (a := a) (xs := xs) (l := R) (Rel := RItem K) hR.1
            (fun pre3 H3 => ∃ acc, H3 D = some (.lst acc) ∧ Items (RItem K) H3 acc (pre3.filter (fits (left R pre ++ [c]))) ∧ Same H2 H3) ⟨[], upd_same, Items.nil, same_new hD⟩
            (fun pre3 H3 ⟨_, _, _, s3⟩ => ⟨(fun {H1 H2 : Hp} (s : Same H1 H2) (h : SqL K H1 a xs) => s.seq h) (s2.trans s3) hS, fun i x y h1 h2 => (hR.2 i x y h1 h2).sm (s2.trans s3)⟩) ?_ ?_⟩
          · rintro pre3 r post3 x H3 e3 hx ⟨qr, rfl, sq⟩ ⟨acc, h3, ita, s3⟩
            have hpl3 : pre3.length + 1 ≤ R.length := by
              have := congrArg List.length e3
              simp at this
              omega
            have hal : acc.length < sizeLine := by
              have h1 := ita.1
              have h2 := List.length_filter_le (fits (left R pre ++ [c])) pre3
              exact Nat.lt_of_le_of_lt (m := 64) (by omega) (by decide)
            refine ⟨rfl, ?_⟩
            refine ⟨_, rfl, ⟨_, rfl⟩, _, rfl, qr, _, 0, .str (S r.1), rfl, rfl, sq, rfl, _, _, rfl, rfl, _, rfl, ?_⟩
            rw [endswith_S]
            cases hc : fits (left R pre ++ [c]) r with
            | true =>
              have hc' : r.1.isSuffixOf ((left R pre ++ [c])) = true := hc
              rw [hc']
              refine iteT ?_
              have hk : Keep H3 (upd H3 D (.lst (acc ++ [.ref qr]))) := Keep.butL but_upd h3
              refine ⟨_, rfl, acc, h3, hal, acc ++ [.ref qr], upd_same, ?_, same_mut s3 hD⟩
              rw [List.filter_append, show [r].filter (fits (left R pre ++ [c])) = [r] by simp [hc]]
              exact ita.snoc (fun x y h => h.same hk) ⟨qr, rfl, hk.seq sq⟩
            | false =>
              have hc' : r.1.isSuffixOf ((left R pre ++ [c])) = false := hc
              rw [hc']
              refine iteF ?_
              refine ⟨acc, h3, ?_, s3⟩
              rw [List.filter_append, show [r].filter (fits (left R pre ++ [c])) = [] by simp [hc], List.append_nil]
              exact ita
          · rintro H3 ⟨acc, h3, ita, s3⟩
            exact hQ _ _ ⟨D, acc, rfl, s3, h3, ita⟩
        · rintro v H3 ⟨pf, ys, rfl, s3, hf, itf⟩
          walk_at "nx"
          refine ⟨fun m σ H4 => ∃ (q : List Nat) (pf : Addr) (ys : List V) (v5 : Option V), σ = [some (.ref a), some (.str (S t)), some (.str (S q)), some (.str (S [c])), some (.ref pf), v5] ∧ Same H H4 ∧ H4 pf = some (.lst ys) ∧ Items (RItem K) H4 ys (R.filter (fits q)) ∧
            q.length ≤ m ∧ q.length ≤ 2000 ∧ drain R m q = left R (pre ++ [c]),
            ⟨(left R pre).length + 1, left R pre ++ [c], pf, ys, _, rfl, s2.trans s3, hf, itf, by simp, by simp; omega, (left_snoc R pre c).symm⟩, ?_⟩
          clear itf hf s3
          clear s2
          clear H3 ys pf v4 v5 v3
          clear hlp hpl
          rintro m σ H2 ⟨q, pf, ys, v5, rfl, s2, hf, itf, hm, hq, hd⟩
          have hsq := S_len q
          cases hfl : R.filter (fits q) with
          | nil =>
            have hu1 : used R q = none := by rw [used_filter, hfl]; rfl
            have e1 : drain R m q = q := by
              cases m with
              | zero => rfl
              | succ m => simp only [drain, hu1]
            rw [e1] at hd
            have hy : ys = [] := by
              have := itf.1
              rw [hfl] at this
              exact List.eq_nil_of_length_eq_zero this
            subst hy
            refine ⟨_, rfl, false, .inl ⟨[], SqL.of hf, rfl⟩, ?_⟩
            refine iteF ?_
            walk_at "nx"
            exact ⟨_, _, _, by rw [hd], s2⟩
          | cons r rs =>
            have hu1 : used R q = some (useR q r) := by rw [used_filter, hfl]; rfl
            have hlt := (Bk.used_step hu1).len hw
            have hrm : r ∈ R := (List.mem_filter.mp (show r ∈ R.filter (fits q) by rw [hfl]; exact List.mem_cons_self)).1
            have hfr : fits q r = true := (List.mem_filter.mp (show r ∈ R.filter (fits q) by rw [hfl]; exact List.mem_cons_self)).2
            have h4r := h4 r hrm
            have hwr := (hw r hrm)
            obtain ⟨x0, hx0, qr, rfl, sq⟩ := itf.get (i := 0) (y := r) (by rw [hfl]; rfl)
            obtain ⟨ys', rfl⟩ : ∃ ys', ys = .ref qr :: ys' := by
              cases ys with
              | nil => simp at hx0
              | cons y ys' => simp at hx0; exact ⟨ys', by rw [hx0]⟩
            cases m with
            | zero => omega
            | succ m =>
              have hd2 : drain R m (useR q r) = left R (pre ++ [c]) := by
                rw [← hd]; simp only [drain, hu1]
              refine ⟨_, rfl, true, .inl ⟨_, SqL.of hf, rfl⟩, ?_⟩
              refine iteT ⟨_, fun _ _ h => h, ?_⟩
              have hrl : r.1.length ≤ q.length := by
                obtain ⟨x, hx⟩ := Bk.fits_iff.mp hfr
                rw [hx, List.length_append]; omega
              have hsr := S_len r.1
              refine ⟨_, rfl, _, rfl, _, rfl, sz_S (t := q) (by omega), ?_⟩
              refine ⟨_, rfl, pf, _, 0, .ref qr, rfl, rfl, SqL.of hf, atI_at (Int.le_refl 0) rfl, ?_⟩
              refine ⟨qr, _, 0, .str (S r.1), rfl, rfl, sq, rfl, ?_⟩
              refine ⟨_, rfl, sz_S (t := r.1) (by omega), _, _, rfl, rfl, _, rfl, _, rfl, sz_S (t := q) (by omega), ?_⟩
              rw [cut_to (by omega), hsq, hsr, show ((q.length : Int) - (r.1.length : Int)).toNat = q.length - r.1.length by omega]
              refine ⟨_, rfl, pf, _, 0, .ref qr, rfl, rfl, SqL.of hf, atI_at (Int.le_refl 0) rfl, ?_⟩
              refine ⟨qr, _, 1, .str (S r.2), rfl, rfl, sq, rfl, ?_⟩
              refine ⟨_, _, rfl, rfl, by rw [S_len, S_len]; exact Nat.le_trans (m := 3000) (by simp; omega) (by decide), ?_⟩
              rw [S_cat]
              walk_at "nx"
              have hue : q.take (q.length - r.1.length) ++ r.2 = useR q r := rfl
              rw [hue]
              generalize useR q r = u at hd2 hlt
              refine asg_J (fun v H3 => ∃ (pf : Addr) (ys : List V), v = .ref pf ∧ Same H2 H3 ∧ H3 pf = some (.lst ys) ∧ Items (RItem K) H3 ys (R.filter (fits (u)))) (fun Q' hQ => ?_) ?_
              · refine ⟨_, rfl, a, rfl, ⟨_, (fun {H1 H2 : Hp} (s : Same H1 H2) (h : SqL K H1 a xs) => s.seq h) (s2) hS⟩, fun D hD => lc_lstR (K := K) (a := a) (xs := xs) (l := R) (Rel := RItem K) hR.1
                  (fun pre3 H3 => ∃ acc, H3 D = some (.lst acc) ∧ Items (RItem K) H3 acc (pre3.filter (fits (u))) ∧ Same H2 H3) ⟨[], upd_same, Items.nil, same_new hD⟩
                  (fun pre3 H3 ⟨_, _, _, s3⟩ => ⟨(fun {H1 H2 : Hp} (s : Same H1 H2) (h : SqL K H1 a xs) => s.seq h) (s2.trans s3) hS, fun i x y h1 h2 => (hR.2 i x y h1 h2).sm (s2.trans s3)⟩) ?_ ?_⟩
                · rintro pre3 r post3 x H3 e3 hx ⟨qr, rfl, sq⟩ ⟨acc, h3, ita, s3⟩
                  have hpl3 : pre3.length + 1 ≤ R.length := by
                    have := congrArg List.length e3
                    simp at this
                    omega
                  have hal : acc.length < sizeLine := by
                    have h1 := ita.1
                    have h2 := List.length_filter_le (fits (u)) pre3
                    exact Nat.lt_of_le_of_lt (m := 64) (by omega) (by decide)
                  refine ⟨rfl, ?_⟩
                  refine ⟨_, rfl, ⟨_, rfl⟩, _, rfl, qr, _, 0, .str (S r.1), rfl, rfl, sq, rfl, _, _, rfl, rfl, _, rfl, ?_⟩
                  rw [endswith_S]
                  cases hc : fits (u) r with
                  | true =>
                    have hc' : r.1.isSuffixOf ((u)) = true := hc
                    rw [hc']
                    refine iteT ?_
                    have hk : Keep H3 (upd H3 D (.lst (acc ++ [.ref qr]))) := Keep.butL but_upd h3
                    refine ⟨_, rfl, acc, h3, hal, acc ++ [.ref qr], upd_same, ?_, same_mut s3 hD⟩
                    rw [List.filter_append, show [r].filter (fits (u)) = [r] by simp [hc]]
                    exact ita.snoc (fun x y h => h.same hk) ⟨qr, rfl, hk.seq sq⟩
                  | false =>
                    have hc' : r.1.isSuffixOf ((u)) = false := hc
                    rw [hc']
                    refine iteF ?_
                    refine ⟨acc, h3, ?_, s3⟩
                    rw [List.filter_append, show [r].filter (fits (u)) = [] by simp [hc], List.append_nil]
                    exact ita
                · rintro H3 ⟨acc, h3, ita, s3⟩
                  exact hQ _ _ ⟨D, acc, rfl, s3, h3, ita⟩
              · rintro v H3 ⟨pf, ys, rfl, s3, hf, itf⟩
                walk_at "nx"
                exact ⟨m, Nat.lt_succ_self m, u, pf, ys, _, rfl, s2.trans s3, hf, itf, by omega, by omega, hd2⟩
      · rintro σ H2 ⟨v3, v4, v5, rfl, s2⟩
        walk_at "rd"
        exact k H2 s2
    · refine ⟨_, (pss_cons (ps_set (i := 2) sc__law_left.nd rfl (Or.inr rfl) pe_str)
  (pss_cons (ps_for PassesOwn.never rfl (pi_str (pv 1)) (pg_name (i := 3) sc__law_left.nd rfl (Or.inl rfl))
    (pss_cons (ps_set (i := 2) sc__law_left.nd rfl (Or.inr rfl) (pe_op op_add_str (pv 2) (pv 3)))
    (pss_cons (ps_setLc (i := 4) (own := [("_law_rule", 5)]) (g := gName 5) (by rfl) sc__law_left.nd rfl rfl (sw_true rfl rfl rfl (by decide +kernel)) (pi_tup (pv 0)) (blkOk_by (N := ["_law_rules", "_law_text_here", "_law_pile", "_law_sign", "_law_fitting", "_law_rule"]) (sc := defScope s__law_left) (by decide +kernel)) (fun _ _ _ _ _ => (pg_name (i := 5) sc__law_left.nd rfl (Or.inl rfl))) (fun _ _ _ _ _ => (pts_one (pt_val (pe_m1 PySem.F.slot_str_endswith PySem.F.type_str_endswith mt_endswith (pv 2) (pe_ix ix_tupB (pv 5) pe_int (fun _ _ => rfl)))))) (fun _ _ _ _ _ => (pv 5)))
    (pss_one (ps_while PassesOwn.never (pt_truth (pv 4) (by intro _; rfl))
      (pss_cons (ps_set (i := 2) sc__law_left.nd rfl (Or.inr rfl) (pe_op op_add_str (pe_slice sl_str (pv 2) po_none (po_some (pe_op op_sub (pe_callB call_len_str (by rfl) T.b_len (by decide +kernel) (pa_cons (pv 2) pa_nil)) (pe_callB call_len_str (by rfl) T.b_len (by decide +kernel) (pa_cons (pe_ix ix_tup (pe_ix ix_list (pv 4) pe_int (fun _ _ => rfl)) pe_int (fun _ _ => rfl)) pa_nil))))) (pe_ix ix_tup (pe_ix ix_list (pv 4) pe_int (fun _ _ => rfl)) pe_int (fun _ _ => rfl))))
      (pss_one (ps_setLc (i := 4) (own := [("_law_rule", 5)]) (g := gName 5) (by rfl) sc__law_left.nd rfl rfl (sw_true rfl rfl rfl (by decide +kernel)) (pi_tup (pv 0)) (blkOk_by (N := ["_law_rules", "_law_text_here", "_law_pile", "_law_sign", "_law_fitting", "_law_rule"]) (sc := defScope s__law_left) (by decide +kernel)) (fun _ _ _ _ _ => (pg_name (i := 5) sc__law_left.nd rfl (Or.inl rfl))) (fun _ _ _ _ _ => (pts_one (pt_val (pe_m1 PySem.F.slot_str_endswith PySem.F.type_str_endswith mt_endswith (pv 2) (pe_ix ix_tupB (pv 5) pe_int (fun _ _ => rfl)))))) (fun _ _ _ _ _ => (pv 5))))))))))
  (pss_one (ps_ret (pv 2))))), ?_⟩
      walk_at "rd"
      refine for_str (l := t) (fun pre σ H2 => ∃ (v3 v4 v5 : Option V), σ = [some (.ref a), some (.str (S t)), some (.str (S (left R pre))), v3, v4, v5] ∧ Same H H2)
        ⟨_, _, _, rfl, Same.refl H⟩ ?_ ?_
      · rintro pre c post σ H2 e ⟨v3, v4, v5, rfl, s2⟩
        have hpl : pre.length + 1 ≤ t.length := by
          have := congrArg List.length e
          simp at this
          omega
        have hlp := left_len hw pre
        walk_at "nx"
        refine ⟨_, rfl, _, rfl, _, _, rfl, rfl, by rw [S_len, S_len]; exact Nat.le_trans (m := 1001) (by simp; omega) (by decide), ?_⟩
        rw [S_cat]
        walk_at "nx"
        refine st_asgJ (fun v H3 => ∃ (pf : Addr) (ys : List V), v = .ref pf ∧ Same H2 H3 ∧ H3 pf = some (.lst ys) ∧ Items (RItem K) H3 ys (R.filter (fits (left R pre ++ [c])))) (fun Q' hQ => ?_) ?_
        · refine ⟨_, rfl, a, rfl, ⟨_, (fun {H1 H2 : Hp} (s : Same H1 H2) (h : SqT K H1 a xs) => (Keep.same s).seq h) (s2) hS⟩, fun D hD => lc_tupR (K := K) (a := a) (xs := xs) (l := R) (Rel := RItem K) hR.1
            (fun pre3 H3 => ∃ acc, H3 D = some (.lst acc) ∧ Items (RItem K) H3 acc (pre3.filter (fits (left R pre ++ [c]))) ∧ Same H2 H3) ⟨[], upd_same, Items.nil, same_new hD⟩
            (fun pre3 H3 ⟨_, _, _, s3⟩ => ⟨(fun {H1 H2 : Hp} (s : Same H1 H2) (h : SqT K H1 a xs) => (Keep.same s).seq h) (s2.trans s3) hS, fun i x y h1 h2 => (hR.2 i x y h1 h2).sm (s2.trans s3)⟩) ?_ ?_⟩
          · rintro pre3 r post3 x H3 e3 hx ⟨qr, rfl, sq⟩ ⟨acc, h3, ita, s3⟩
            have hpl3 : pre3.length + 1 ≤ R.length := by
              have := congrArg List.length e3
              simp at this
              omega
            have hal : acc.length < sizeLine := by
              have h1 := ita.1
              have h2 := List.length_filter_le (fits (left R pre ++ [c])) pre3
              exact Nat.lt_of_le_of_lt (m := 64) (by omega) (by decide)
            refine ⟨rfl, ?_⟩
            refine ⟨_, rfl, ⟨_, rfl⟩, _, rfl, qr, _, 0, .str (S r.1), rfl, rfl, sq, rfl, _, _, rfl, rfl, _, rfl, ?_⟩
            rw [endswith_S]
            cases hc : fits (left R pre ++ [c]) r with
            | true =>
              have hc' : r.1.isSuffixOf ((left R pre ++ [c])) = true := hc
              rw [hc']
              refine iteT ?_
              have hk : Keep H3 (upd H3 D (.lst (acc ++ [.ref qr]))) := Keep.butL but_upd h3
              refine ⟨_, rfl, acc, h3, hal, acc ++ [.ref qr], upd_same, ?_, same_mut s3 hD⟩
              rw [List.filter_append, show [r].filter (fits (left R pre ++ [c])) = [r] by simp [hc]]
              exact ita.snoc (fun x y h => h.same hk) ⟨qr, rfl, hk.seq sq⟩
            | false =>
              have hc' : r.1.isSuffixOf ((left R pre ++ [c])) = false := hc
              rw [hc']
              refine iteF ?_
              refine ⟨acc, h3, ?_, s3⟩
              rw [List.filter_append, show [r].filter (fits (left R pre ++ [c])) = [] by simp [hc], List.append_nil]
              exact ita
          · rintro H3 ⟨acc, h3, ita, s3⟩
            exact hQ _ _ ⟨D, acc, rfl, s3, h3, ita⟩
        · rintro v H3 ⟨pf, ys, rfl, s3, hf, itf⟩
          walk_at "nx"
          refine ⟨fun m σ H4 => ∃ (q : List Nat) (pf : Addr) (ys : List V) (v5 : Option V), σ = [some (.ref a), some (.str (S t)), some (.str (S q)), some (.str (S [c])), some (.ref pf), v5] ∧ Same H H4 ∧ H4 pf = some (.lst ys) ∧ Items (RItem K) H4 ys (R.filter (fits q)) ∧
            q.length ≤ m ∧ q.length ≤ 2000 ∧ drain R m q = left R (pre ++ [c]),
            ⟨(left R pre).length + 1, left R pre ++ [c], pf, ys, _, rfl, s2.trans s3, hf, itf, by simp, by simp; omega, (left_snoc R pre c).symm⟩, ?_⟩
          clear itf hf s3
          clear s2
          clear H3 ys pf v4 v5 v3
          clear hlp hpl
          rintro m σ H2 ⟨q, pf, ys, v5, rfl, s2, hf, itf, hm, hq, hd⟩
          have hsq := S_len q
          cases hfl : R.filter (fits q) with
          | nil =>
            have hu1 : used R q = none := by rw [used_filter, hfl]; rfl
            have e1 : drain R m q = q := by
              cases m with
              | zero => rfl
              | succ m => simp only [drain, hu1]
            rw [e1] at hd
            have hy : ys = [] := by
              have := itf.1
              rw [hfl] at this
              exact List.eq_nil_of_length_eq_zero this
            subst hy
            refine ⟨_, rfl, false, .inl ⟨[], SqL.of hf, rfl⟩, ?_⟩
            refine iteF ?_
            walk_at "nx"
            exact ⟨_, _, _, by rw [hd], s2⟩
          | cons r rs =>
            have hu1 : used R q = some (useR q r) := by rw [used_filter, hfl]; rfl
            have hlt := (Bk.used_step hu1).len hw
            have hrm : r ∈ R := (List.mem_filter.mp (show r ∈ R.filter (fits q) by rw [hfl]; exact List.mem_cons_self)).1
            have hfr : fits q r = true := (List.mem_filter.mp (show r ∈ R.filter (fits q) by rw [hfl]; exact List.mem_cons_self)).2
            have h4r := h4 r hrm
            have hwr := (hw r hrm)
            obtain ⟨x0, hx0, qr, rfl, sq⟩ := itf.get (i := 0) (y := r) (by rw [hfl]; rfl)
            obtain ⟨ys', rfl⟩ : ∃ ys', ys = .ref qr :: ys' := by
              cases ys with
              | nil => simp at hx0
              | cons y ys' => simp at hx0; exact ⟨ys', by rw [hx0]⟩
            cases m with
            | zero => omega
            | succ m =>
              have hd2 : drain R m (useR q r) = left R (pre ++ [c]) := by
                rw [← hd]; simp only [drain, hu1]
              refine ⟨_, rfl, true, .inl ⟨_, SqL.of hf, rfl⟩, ?_⟩
              refine iteT ⟨_, fun _ _ h => h, ?_⟩
              have hrl : r.1.length ≤ q.length := by
                obtain ⟨x, hx⟩ := Bk.fits_iff.mp hfr
                rw [hx, List.length_append]; omega
              have hsr := S_len r.1
              refine ⟨_, rfl, _, rfl, _, rfl, sz_S (t := q) (by omega), ?_⟩
              refine ⟨_, rfl, pf, _, 0, .ref qr, rfl, rfl, SqL.of hf, atI_at (Int.le_refl 0) rfl, ?_⟩
              refine ⟨qr, _, 0, .str (S r.1), rfl, rfl, sq, rfl, ?_⟩
              refine ⟨_, rfl, sz_S (t := r.1) (by omega), _, _, rfl, rfl, _, rfl, _, rfl, sz_S (t := q) (by omega), ?_⟩
              rw [cut_to (by omega), hsq, hsr, show ((q.length : Int) - (r.1.length : Int)).toNat = q.length - r.1.length by omega]
              refine ⟨_, rfl, pf, _, 0, .ref qr, rfl, rfl, SqL.of hf, atI_at (Int.le_refl 0) rfl, ?_⟩
              refine ⟨qr, _, 1, .str (S r.2), rfl, rfl, sq, rfl, ?_⟩
              refine ⟨_, _, rfl, rfl, by rw [S_len, S_len]; exact Nat.le_trans (m := 3000) (by simp; omega) (by decide), ?_⟩
              rw [S_cat]
              walk_at "nx"
              have hue : q.take (q.length - r.1.length) ++ r.2 = useR q r := rfl
              rw [hue]
              generalize useR q r = u at hd2 hlt
              refine asg_J (fun v H3 => ∃ (pf : Addr) (ys : List V), v = .ref pf ∧ Same H2 H3 ∧ H3 pf = some (.lst ys) ∧ Items (RItem K) H3 ys (R.filter (fits (u)))) (fun Q' hQ => ?_) ?_
              · refine ⟨_, rfl, a, rfl, ⟨_, (fun {H1 H2 : Hp} (s : Same H1 H2) (h : SqT K H1 a xs) => (Keep.same s).seq h) (s2) hS⟩, fun D hD => lc_tupR (K := K) (a := a) (xs := xs) (l := R) (Rel := RItem K) hR.1
                  (fun pre3 H3 => ∃ acc, H3 D = some (.lst acc) ∧ Items (RItem K) H3 acc (pre3.filter (fits (u))) ∧ Same H2 H3) ⟨[], upd_same, Items.nil, same_new hD⟩
                  (fun pre3 H3 ⟨_, _, _, s3⟩ => ⟨(fun {H1 H2 : Hp} (s : Same H1 H2) (h : SqT K H1 a xs) => (Keep.same s).seq h) (s2.trans s3) hS, fun i x y h1 h2 => (hR.2 i x y h1 h2).sm (s2.trans s3)⟩) ?_ ?_⟩
                · rintro pre3 r post3 x H3 e3 hx ⟨qr, rfl, sq⟩ ⟨acc, h3, ita, s3⟩
                  have hpl3 : pre3.length + 1 ≤ R.length := by
                    have := congrArg List.length e3
                    simp at this
                    omega
                  have hal : acc.length < sizeLine := by
                    have h1 := ita.1
                    have h2 := List.length_filter_le (fits (u)) pre3
                    exact Nat.lt_of_le_of_lt (m := 64) (by omega) (by decide)
                  refine ⟨rfl, ?_⟩
                  refine ⟨_, rfl, ⟨_, rfl⟩, _, rfl, qr, _, 0, .str (S r.1), rfl, rfl, sq, rfl, _, _, rfl, rfl, _, rfl, ?_⟩
                  rw [endswith_S]
                  cases hc : fits (u) r with
                  | true =>
                    have hc' : r.1.isSuffixOf ((u)) = true := hc
                    rw [hc']
                    refine iteT ?_
                    have hk : Keep H3 (upd H3 D (.lst (acc ++ [.ref qr]))) := Keep.butL but_upd h3
                    refine ⟨_, rfl, acc, h3, hal, acc ++ [.ref qr], upd_same, ?_, same_mut s3 hD⟩
                    rw [List.filter_append, show [r].filter (fits (u)) = [r] by simp [hc]]
                    exact ita.snoc (fun x y h => h.same hk) ⟨qr, rfl, hk.seq sq⟩
                  | false =>
                    have hc' : r.1.isSuffixOf ((u)) = false := hc
                    rw [hc']
                    refine iteF ?_
                    refine ⟨acc, h3, ?_, s3⟩
                    rw [List.filter_append, show [r].filter (fits (u)) = [] by simp [hc], List.append_nil]
                    exact ita
                · rintro H3 ⟨acc, h3, ita, s3⟩
                  exact hQ _ _ ⟨D, acc, rfl, s3, h3, ita⟩
              · rintro v H3 ⟨pf, ys, rfl, s3, hf, itf⟩
                walk_at "nx"
                exact ⟨m, Nat.lt_succ_self m, u, pf, ys, _, rfl, s2.trans s3, hf, itf, by omega, by omega, hd2⟩
      · rintro σ H2 ⟨v3, v4, v5, rfl, s2⟩
        walk_at "rd"
        exact k H2 s2
end
end Sh
set_option Elab.async false
set_option linter.all false
set_option maxRecDepth 100000
set_option maxHeartbeats 4000000
namespace Sh
open PySem PySem.Spec PyProof.Rows L2
open SX (S S_inj S_len S_cat)
open Bk (Rule firstAt lg bestUp used left drain pushS Wf quarrel fits useR over res1 res2 Meets keyLt)
local macro_rules | `(tactic| walk_at "nx") => `(tactic| repeat (with_reducible first | refine Sh.gn_mk ?_ | refine Sh.nx_mk ?_ | refine Sh.st_nx ?_ | refine Sh.rt_mk ?_ | refine Sh.ct_mk ?_ | refine Sh.bk_mk ?_))
local macro_rules | `(tactic| walk_at "sq") => `(tactic| first | exact SqL.of upd_same | exact SqT.of upd_same | exact SqL.of (by assumption) | exact SqT.of (by assumption) | assumption | exact Or.inl (SqL.of (by assumption)) | exact Or.inr (SqT.of (by assumption)) | exact Or.inl (by assumption) | exact Or.inr (by assumption))
local macro_rules | `(tactic| walk_at "hp") => `(tactic| first | exact upd_same | assumption)
local macro_rules | `(tactic| walk_at "sz") => `(tactic| first | exact Nat.le_of_ble_eq_true rfl | omega)
local macro_rules | `(tactic| walk_at "sd") => `(tactic| first | omega | exact rfl | assumption | (show (0 : Int) < _; omega) | exact And.intro (by omega) (by omega) | exact Or.inl (And.intro (by omega) (by omega)) | exact Or.inr (And.intro (by omega) (by omega)) | omega | exact Sh.sz_S (by omega) | decide)
local macro_rules | `(tactic| walk_at "rd1") => `(tactic| first
  | (with_reducible first | refine Sh.gn_mk ?_ | refine Sh.nx_mk ?_ | refine Sh.st_nx ?_ | refine Sh.rt_mk ?_ | refine Sh.ct_mk ?_ | refine Sh.bk_mk ?_)
  | refine Exists.intro (α := V) _ (And.intro rfl ?_)
  | refine Exists.intro (α := Bool) _ (And.intro rfl ?_)
  | refine Exists.intro (α := Int) _ (And.intro rfl ?_)
  | refine Exists.intro (α := PySem.Str) _ (And.intro rfl ?_)
  | refine Exists.intro (α := Int) _ (Exists.intro (α := Int) _ (And.intro rfl (And.intro rfl ?_)))
  | refine Exists.intro (α := PySem.Str) _ (Exists.intro (α := PySem.Str) _ (And.intro rfl (And.intro rfl ?_)))
  | refine Exists.intro (α := Int) _ (Exists.intro (α := Int) _ (And.intro rfl ?_))
  | refine Or.inl (Exists.intro (α := Int) _ (And.intro rfl ?_))
  | refine Exists.intro _ (Exists.intro _ (Exists.intro _ (Exists.intro _ (And.intro rfl (And.intro rfl (And.intro (by walk_at "sq") (And.intro rfl ?_)))))))
  | refine Exists.intro _ (Exists.intro _ (Exists.intro _ (Exists.intro _ (And.intro rfl (And.intro rfl (And.intro (by walk_at "hp") (And.intro rfl ?_)))))))
  | refine And.intro (by walk_at "sd") ?_
  )
local macro_rules | `(tactic| walk_at "rd") => `(tactic| repeat walk_at "rd1")
local macro_rules | `(tactic| walk_at "lk") => `(tactic| first | exact rfl | (rw [lookup_putF, if_pos rfl]) | (rw [lookup_putF, if_neg (by decide +kernel)]; walk_at "lk"))

section
variable {P : Program} {w : World} {K : PySem.W.Frag} {mg : Str → Option Value} {base : Heap} {CB CE : Addr}
/-- the two rules' results at the place k have one end -/
def okAtQ (R : List Rule) (r q : Rule) (k : Nat) : Prop := ∀ t, over r.1 q.1 k = some t → left R (res1 r t) = left R (res2 q t k)
def spLawQ (K : PySem.W.Frag) : Sp := fun vs H Q _ => ∃ (a : Addr) (xs : List V) (R : List Rule), vs = [.ref a] ∧ (SqL K H a xs ∨ SqT K H a xs) ∧ Items (RItem K) H xs R ∧ R.length ≤ 64 ∧ Wf R ∧ (∀ r ∈ R, r.1.length ≤ 4) ∧
  ∀ (u : Option (List Nat)) (H' : Hp), (u = none → Meets R) → Same H H' → Q (optS u) H'
end
end Sh
set_option Elab.async false
set_option linter.all false
set_option maxRecDepth 100000
set_option maxHeartbeats 4000000
namespace Sh
open PySem PySem.Spec PyProof.Rows L2
open SX (S S_inj S_len S_cat)
open Bk (Rule firstAt lg bestUp used left drain pushS Wf quarrel fits useR over res1 res2 Meets keyLt ovs okOv)
instance (sg : List Nat) (m : Nat) (r : List Nat × List Nat) : Decidable (RuleOk sg m r) := by unfold RuleOk; infer_instance
instance (sg : List Nat) (R : List Rule) : Decidable (BookOk sg R) := by unfold BookOk; infer_instance
/-- a book as the law draws it -/
def Good (sg : List Nat) (R : List Rule) : Prop := BookOk sg R ∧ quarrel R = none ∧ R.length ≤ 60
instance (sg : List Nat) (R : List Rule) : Decidable (Good sg R) := by unfold Good; infer_instance
theorem quarrel_of_meets {R : List Rule} (h : Meets R) : quarrel R = none := by
  rw [Bk.quarrel_none]
  intro o ho
  obtain ⟨i, r, j, q, k, t, hr, hq, hk, c, hov, rfl⟩ := Bk.mem_ovs.mp ho
  unfold okOv
  simp only [hr, hq, decide_eq_true_eq]
  exact h r (List.mem_of_getElem? hr) q (List.mem_of_getElem? hq) k hk t hov
/-! ### the tables -/
def tblAt (kd n i j : Nat) : Int := ([(i : Int), (j : Int), if (j : Int) > i then (j : Int) else i, 0, if (j : Int) < i then (j : Int) else i, (n : Int) - 1, ((i : Int) + j + 2) % ((n : Int) + 1) - 1, ((i : Int) + j + 2) % ((n : Int) + 1) - 1] : List Int).getD kd 0
def tblRow (kd : Nat) (sg : List Nat) (i j : Nat) : Rule := ([sg.getD i 0, sg.getD j 0], if tblAt kd sg.length i j < 0 then [] else [sg.getD (tblAt kd sg.length i j).toNat 0])
def tblJ (kd : Nat) (sg : List Nat) (i m : Nat) : List Rule := (List.range m).map (tblRow kd sg i)
def tblI (kd : Nat) (sg : List Nat) (m : Nat) : List Rule := (List.range m).flatMap fun i => tblJ kd sg i sg.length
def tbl (kd : Nat) (sg : List Nat) : List Rule := tblI kd sg sg.length
theorem tbl_good : ∀ sg ∈ sgMenu, ∀ kd ∈ List.range 8, Good sg (tbl kd sg) := by decide +kernel
theorem tbl_at : ∀ sg ∈ sgMenu, ∀ kd ∈ List.range 8, ∀ i ∈ List.range sg.length, ∀ j ∈ List.range sg.length, tblAt kd sg.length i j < sg.length := by decide +kernel
/-! ### the pair of inverses, the known ones -/
def pairB (sg : List Nat) : List Rule := [([sg.getD 0 0, sg.getD 1 0], []), ([sg.getD 1 0, sg.getD 0 0], [])]
theorem pair_good : ∀ sg ∈ sgMenu, 1 < sg.length → ∀ n ∈ [1, 2], Good sg ((pairB sg).take n) := by decide +kernel
def known (a b : Nat) : List (List Rule) := [[([a, a, a], [a])], [([a, a], [])], [([a, a, a], [])], [([a, a], [a])], [([a, b, a], [a])], [([b, a], [a])], [([a, b], [a]), ([b, b], [b])], [([a, b, b], [a])], [([a, b], []), ([b, a], []), ([a, a], [b]), ([b, b], [a])],
  [([a, b], [a]), ([a, a], [a])], [([a, b, a, b], [])], [([a, b], [b]), ([a, a], [a])]]
theorem known_first : ∀ sg ∈ sgMenu, ∀ R ∈ (known (sg.getD 0 0) (sg.getD (sg.length - 1) 0)).take 4, Good sg R := by decide +kernel
theorem known_ok : ∀ sg ∈ sgMenu, ¬ sg.getD 0 0 = sg.getD (sg.length - 1) 0 → ∀ R ∈ known (sg.getD 0 0) (sg.getD (sg.length - 1) 0), BookOk sg R := by decide +kernel
theorem known_wf : ∀ sg ∈ sgMenu, ∀ R ∈ known (sg.getD 0 0) (sg.getD (sg.length - 1) 0), R.length ≤ 60 ∧ (∀ r ∈ R, r.2.length < r.1.length ∧ r.2.length ≤ 1) ∧ ∀ r ∈ R, r.1.length ≤ 4 := by decide +kernel
end Sh
set_option Elab.async false
set_option linter.all false
set_option maxRecDepth 100000
set_option maxHeartbeats 4000000
namespace Sh
open PySem PySem.Spec PyProof.Rows L2
open SX (S S_inj S_len S_cat)
open Bk (Rule firstAt lg bestUp used left drain pushS Wf quarrel Meets)
local macro_rules | `(tactic| walk_at "nx") => `(tactic| repeat (with_reducible first | refine Sh.gn_mk ?_ | refine Sh.nx_mk ?_ | refine Sh.st_nx ?_ | refine Sh.rt_mk ?_ | refine Sh.ct_mk ?_ | refine Sh.bk_mk ?_))
local macro_rules | `(tactic| walk_at "sq") => `(tactic| first | exact SqL.of upd_same | exact SqT.of upd_same | exact SqL.of (by assumption) | exact SqT.of (by assumption) | assumption | exact Or.inl (SqL.of (by assumption)) | exact Or.inr (SqT.of (by assumption)) | exact Or.inl (by assumption) | exact Or.inr (by assumption))
local macro_rules | `(tactic| walk_at "hp") => `(tactic| first | exact upd_same | assumption)
local macro_rules | `(tactic| walk_at "sz") => `(tactic| first | exact Nat.le_of_ble_eq_true rfl | omega)
local macro_rules | `(tactic| walk_at "sd") => `(tactic| first | omega | exact rfl | assumption | (show (0 : Int) < _; omega) | exact And.intro (by omega) (by omega) | exact Or.inl (And.intro (by omega) (by omega)) | exact Or.inr (And.intro (by omega) (by omega)) | omega | exact Sh.sz_S (by omega) | decide)
local macro_rules | `(tactic| walk_at "rd1") => `(tactic| first
  | (with_reducible first | refine Sh.gn_mk ?_ | refine Sh.nx_mk ?_ | refine Sh.st_nx ?_ | refine Sh.rt_mk ?_ | refine Sh.ct_mk ?_ | refine Sh.bk_mk ?_)
  | refine Exists.intro (α := V) _ (And.intro rfl ?_)
  | refine Exists.intro (α := Bool) _ (And.intro rfl ?_)
  | refine Exists.intro (α := Int) _ (And.intro rfl ?_)
  | refine Exists.intro (α := PySem.Str) _ (And.intro rfl ?_)
  | refine Exists.intro (α := Int) _ (Exists.intro (α := Int) _ (And.intro rfl (And.intro rfl ?_)))
  | refine Exists.intro (α := PySem.Str) _ (Exists.intro (α := PySem.Str) _ (And.intro rfl (And.intro rfl ?_)))
  | refine Exists.intro (α := Int) _ (Exists.intro (α := Int) _ (And.intro rfl ?_))
  | refine Or.inl (Exists.intro (α := Int) _ (And.intro rfl ?_))
  | refine Exists.intro _ (Exists.intro _ (Exists.intro _ (Exists.intro _ (And.intro rfl (And.intro rfl (And.intro (by walk_at "sq") (And.intro rfl ?_)))))))
  | refine Exists.intro _ (Exists.intro _ (Exists.intro _ (Exists.intro _ (And.intro rfl (And.intro rfl (And.intro (by walk_at "hp") (And.intro rfl ?_)))))))
  | refine And.intro (by walk_at "sd") ?_
  )
local macro_rules | `(tactic| walk_at "rd") => `(tactic| repeat walk_at "rd1")
local macro_rules | `(tactic| walk_at "lk") => `(tactic| first | exact rfl | (rw [lookup_putF, if_pos rfl]) | (rw [lookup_putF, if_neg (by decide +kernel)]; walk_at "lk"))

section
variable {P : Program} {w : World} {K : PySem.W.Frag} {mg : Str → Option Value} {base : Heap} {CB CE : Addr}
theorem RuleOk.le {sg : List Nat} {m n : Nat} {r : List Nat × List Nat} (h : RuleOk sg m r) (l : m ≤ n) : RuleOk sg n r := ⟨h.1, Nat.le_trans h.2.1 l, h.2.2⟩
def spGood (K : PySem.W.Frag) (a : Addr) (sg : List Nat) (H : Hp) (Q : VK) : Prop := ∀ (p : Addr) (xs : List V) (R : List Rule) (H' : Hp), RulesAt K H' p xs R → Good sg R → Src H' a → But a H H' → Q (.ref p) H'
structure GInv (K : PySem.W.Frag) (sg : List Nat) (a : Addr) (H : Hp) (pr : Addr) (ys : List V) (R : List Rule) (i : Nat) : Prop where
  lst : H pr = some (.lst ys)
  na : pr ≠ a
  it : Items (RItem K) H ys R
  len : R.length ≤ i
  ok : ∀ r ∈ R, RuleOk sg 4 r
  nd : R.Nodup
  meets : Meets R
theorem if_JB {c : TT} {t u : TS} {D : Ends} {σ : L2.St} {H : Hp} (P : Bool → Hp → Prop) (h : ∀ Q : Bool → Hp → Prop, (∀ b H', P b H' → Q b H') → c σ H Q) (k1 : ∀ H', P true H' → t D σ H') (k2 : ∀ H', P false H' → u D σ H') : tIfS c t u D σ H := by
  refine h _ fun b H' p => ?_
  cases b with
  | true => exact iteT (k1 H' p)
  | false => exact iteF (k2 H' p)
def spGrown (K : PySem.W.Frag) : Sp := fun vs H Q _ => ∃ (a : Addr) (sg : List Nat) (most lng : Int), vs = [.ref a, .str (S sg), .int most, .int lng] ∧ Src H a ∧ isSigns sg = true ∧ 0 ≤ most ∧ most ≤ 60 ∧ 1 ≤ lng ∧ lng ≤ 4 ∧ spGood K a sg H Q
end
end Sh
set_option Elab.async false
set_option linter.all false
set_option maxRecDepth 100000
set_option maxHeartbeats 4000000
namespace Sh
open PySem PySem.Spec PyProof.Rows L2
open SX (S S_inj S_len S_cat)
open Bk (Rule firstAt lg bestUp used left drain pushS Wf quarrel Meets)
local macro_rules | `(tactic| walk_at "nx") => `(tactic| repeat (with_reducible first | refine Sh.gn_mk ?_ | refine Sh.nx_mk ?_ | refine Sh.st_nx ?_ | refine Sh.rt_mk ?_ | refine Sh.ct_mk ?_ | refine Sh.bk_mk ?_))
local macro_rules | `(tactic| walk_at "sq") => `(tactic| first | exact SqL.of upd_same | exact SqT.of upd_same | exact SqL.of (by assumption) | exact SqT.of (by assumption) | assumption | exact Or.inl (SqL.of (by assumption)) | exact Or.inr (SqT.of (by assumption)) | exact Or.inl (by assumption) | exact Or.inr (by assumption))
local macro_rules | `(tactic| walk_at "hp") => `(tactic| first | exact upd_same | assumption)
local macro_rules | `(tactic| walk_at "sz") => `(tactic| first | exact Nat.le_of_ble_eq_true rfl | omega)
local macro_rules | `(tactic| walk_at "sd") => `(tactic| first | omega | exact rfl | assumption | (show (0 : Int) < _; omega) | exact And.intro (by omega) (by omega) | exact Or.inl (And.intro (by omega) (by omega)) | exact Or.inr (And.intro (by omega) (by omega)) | omega | exact Sh.sz_S (by omega) | decide)
local macro_rules | `(tactic| walk_at "rd1") => `(tactic| first
  | (with_reducible first | refine Sh.gn_mk ?_ | refine Sh.nx_mk ?_ | refine Sh.st_nx ?_ | refine Sh.rt_mk ?_ | refine Sh.ct_mk ?_ | refine Sh.bk_mk ?_)
  | refine Exists.intro (α := V) _ (And.intro rfl ?_)
  | refine Exists.intro (α := Bool) _ (And.intro rfl ?_)
  | refine Exists.intro (α := Int) _ (And.intro rfl ?_)
  | refine Exists.intro (α := PySem.Str) _ (And.intro rfl ?_)
  | refine Exists.intro (α := Int) _ (Exists.intro (α := Int) _ (And.intro rfl (And.intro rfl ?_)))
  | refine Exists.intro (α := PySem.Str) _ (Exists.intro (α := PySem.Str) _ (And.intro rfl (And.intro rfl ?_)))
  | refine Exists.intro (α := Int) _ (Exists.intro (α := Int) _ (And.intro rfl ?_))
  | refine Or.inl (Exists.intro (α := Int) _ (And.intro rfl ?_))
  | refine Exists.intro _ (Exists.intro _ (Exists.intro _ (Exists.intro _ (And.intro rfl (And.intro rfl (And.intro (by walk_at "sq") (And.intro rfl ?_)))))))
  | refine Exists.intro _ (Exists.intro _ (Exists.intro _ (Exists.intro _ (And.intro rfl (And.intro rfl (And.intro (by walk_at "hp") (And.intro rfl ?_)))))))
  | refine And.intro (by walk_at "sd") ?_
  )
local macro_rules | `(tactic| walk_at "rd") => `(tactic| repeat walk_at "rd1")
local macro_rules | `(tactic| walk_at "lk") => `(tactic| first | exact rfl | (rw [lookup_putF, if_pos rfl]) | (rw [lookup_putF, if_neg (by decide +kernel)]; walk_at "lk"))

section
variable {P : Program} {w : World} {K : PySem.W.Frag} {mg : Str → Option Value} {base : Heap} {CB CE : Addr}
theorem tblJ_succ (kd : Nat) (sg : List Nat) (i m : Nat) : tblJ kd sg i (m + 1) = tblJ kd sg i m ++ [tblRow kd sg i m] := by
  unfold tblJ
  rw [List.range_succ, List.map_append]; rfl
theorem tblI_succ (kd : Nat) (sg : List Nat) (m : Nat) : tblI kd sg (m + 1) = tblI kd sg m ++ tblJ kd sg m sg.length := by
  unfold tblI
  rw [List.range_succ, List.flatMap_append]
  simp
theorem Src.sm {H H' : Hp} {a : Addr} (h : Src H a) (s : Same H H') : Src H' a := let ⟨d, e, c, z⟩ := h; ⟨d, e, c, s _ _ z⟩
theorem Src.ne {H : Hp} {a p : Addr} (h : Src H a) (n : H p = none) : p ≠ a := let ⟨_, _, _, z⟩ := h; (ne_of_none z n).symm
theorem tblJ_len (kd : Nat) (sg : List Nat) (i m : Nat) : (tblJ kd sg i m).length = m := by unfold tblJ; simp
theorem tblI_len (kd : Nat) (sg : List Nat) (m : Nat) : (tblI kd sg m).length = m * sg.length := by
  induction m with
  | zero => simp [tblI]
  | succ m ih => rw [tblI_succ, List.length_append, ih, tblJ_len, Nat.succ_mul]
def spTable (K : PySem.W.Frag) : Sp := fun vs H Q _ => ∃ (a : Addr) (sg : List Nat), vs = [.ref a, .str (S sg)] ∧ Src H a ∧ sg ∈ sgMenu ∧ spGood K a sg H Q
end
end Sh
set_option Elab.async false
set_option linter.all false
set_option maxRecDepth 100000
set_option maxHeartbeats 4000000
namespace Sh
open PySem PySem.Spec PyProof.Rows L2
open SX (S S_inj S_len S_cat)
open Bk (Rule firstAt lg bestUp used left drain pushS Wf quarrel Meets)
local macro_rules | `(tactic| walk_at "nx") => `(tactic| repeat (with_reducible first | refine Sh.gn_mk ?_ | refine Sh.nx_mk ?_ | refine Sh.st_nx ?_ | refine Sh.rt_mk ?_ | refine Sh.ct_mk ?_ | refine Sh.bk_mk ?_))
local macro_rules | `(tactic| walk_at "sq") => `(tactic| first | exact SqL.of upd_same | exact SqT.of upd_same | exact SqL.of (by assumption) | exact SqT.of (by assumption) | assumption | exact Or.inl (SqL.of (by assumption)) | exact Or.inr (SqT.of (by assumption)) | exact Or.inl (by assumption) | exact Or.inr (by assumption))
local macro_rules | `(tactic| walk_at "hp") => `(tactic| first | exact upd_same | assumption)
local macro_rules | `(tactic| walk_at "sz") => `(tactic| first | exact Nat.le_of_ble_eq_true rfl | omega)
local macro_rules | `(tactic| walk_at "sd") => `(tactic| first | omega | exact rfl | assumption | (show (0 : Int) < _; omega) | exact And.intro (by omega) (by omega) | exact Or.inl (And.intro (by omega) (by omega)) | exact Or.inr (And.intro (by omega) (by omega)) | omega | exact Sh.sz_S (by omega) | decide)
local macro_rules | `(tactic| walk_at "rd1") => `(tactic| first
  | (with_reducible first | refine Sh.gn_mk ?_ | refine Sh.nx_mk ?_ | refine Sh.st_nx ?_ | refine Sh.rt_mk ?_ | refine Sh.ct_mk ?_ | refine Sh.bk_mk ?_)
  | refine Exists.intro (α := V) _ (And.intro rfl ?_)
  | refine Exists.intro (α := Bool) _ (And.intro rfl ?_)
  | refine Exists.intro (α := Int) _ (And.intro rfl ?_)
  | refine Exists.intro (α := PySem.Str) _ (And.intro rfl ?_)
  | refine Exists.intro (α := Int) _ (Exists.intro (α := Int) _ (And.intro rfl (And.intro rfl ?_)))
  | refine Exists.intro (α := PySem.Str) _ (Exists.intro (α := PySem.Str) _ (And.intro rfl (And.intro rfl ?_)))
  | refine Exists.intro (α := Int) _ (Exists.intro (α := Int) _ (And.intro rfl ?_))
  | refine Or.inl (Exists.intro (α := Int) _ (And.intro rfl ?_))
  | refine Exists.intro _ (Exists.intro _ (Exists.intro _ (Exists.intro _ (And.intro rfl (And.intro rfl (And.intro (by walk_at "sq") (And.intro rfl ?_)))))))
  | refine Exists.intro _ (Exists.intro _ (Exists.intro _ (Exists.intro _ (And.intro rfl (And.intro rfl (And.intro (by walk_at "hp") (And.intro rfl ?_)))))))
  | refine And.intro (by walk_at "sd") ?_
  )
local macro_rules | `(tactic| walk_at "rd") => `(tactic| repeat walk_at "rd1")
local macro_rules | `(tactic| walk_at "lk") => `(tactic| first | exact rfl | (rw [lookup_putF, if_pos rfl]) | (rw [lookup_putF, if_neg (by decide +kernel)]; walk_at "lk"))

section
variable {P : Program} {w : World} {K : PySem.W.Frag} {mg : Str → Option Value} {base : Heap} {CB CE : Addr}
theorem Items.cons {α : Type} {Rel : Hp → V → α → Prop} {H : Hp} {x : V} {xs : List V} {y : α} {ys : List α} (r : Rel H x y) (h : Items Rel H xs ys) : Items Rel H (x :: xs) (y :: ys) := by
  refine ⟨by simp [h.1], fun i a b h1 h2 => ?_⟩
  cases i with
  | zero => simp at h1 h2; subst h1; subst h2; exact r
  | succ i => exact h.2 i a b (by simpa using h1) (by simpa using h2)
/-- a book's tuple -/
def BkV (K : PySem.W.Frag) (H : Hp) (v : V) (R : List Rule) : Prop := ∃ q xs, v = .ref q ∧ RulesAt K H q xs R
theorem BkV.keep {H H' : Hp} {v : V} {R : List Rule} (h : BkV K H v R) (k : Keep H H') : BkV K H' v R := let ⟨q, xs, e, r⟩ := h; ⟨q, xs, e, r.keep k⟩
/-! what an expression of the menu gives -/
def EvS (σ : L2.St) (te : TE) (t : List Nat) : Prop := ∀ (H : Hp) (Q : VK), Q (.str (S t)) H → te σ H Q
def EvR (K : PySem.W.Frag) (σ : L2.St) (te : TE) (r : Rule) : Prop := ∀ (H : Hp) (Q : VK), (∀ v H', RItem K H' v r → Same H H' → Q v H') → te σ H Q
def EvRs (K : PySem.W.Frag) (σ : L2.St) (ta : TA) (R : List Rule) : Prop := ∀ (H : Hp) (Q : List V → Hp → Prop), (∀ vs H', Items (RItem K) H' vs R → Same H H' → Q vs H') → ta σ H Q
def EvB (K : PySem.W.Frag) (σ : L2.St) (te : TE) (R : List Rule) : Prop := ∀ (H : Hp) (Q : VK), (∀ v H', BkV K H' v R → Same H H' → Q v H') → te σ H Q
def EvBs (K : PySem.W.Frag) (σ : L2.St) (ta : TA) (Rs : List (List Rule)) : Prop := ∀ (H : Hp) (Q : List V → Hp → Prop), (∀ vs H', Items (BkV K) H' vs Rs → Same H H' → Q vs H') → ta σ H Q
variable {σ : L2.St} {te x y : TE} {ta : TA}
theorem EvS.var {i : Nat} {t : List Nat} (h : σ[i]? = some (some (.str (S t)))) : EvS σ (tVar i) t := fun H Q q => ⟨_, h, q⟩
theorem EvS.nil : EvS σ (tC (.str (Str.ofString ""))) [] := fun H Q q => q
theorem EvS.add {t u : List Nat} (h : EvS σ x t) (k : EvS σ y u) (l : t.length + u.length ≤ 1000) : EvS σ (tOp (fun x y H Q => ∃ i j, x = V.str i ∧ y = V.str j ∧ i.length + j.length ≤ sizeLine ∧ Q (V.str (i ++ j)) H) x y) (t ++ u) := fun H Q q =>
  h H _ (k H _ ⟨_, _, rfl, rfl, by rw [S_len, S_len]; exact Nat.le_trans l (by decide), by rw [S_cat]; exact q⟩)
theorem EvR.mk {r : Rule} (h : EvS σ x r.1) (k : EvS σ y r.2) : EvR K σ (tTup (tCons x (tCons y tNil))) r := fun H Q q =>
  h H _ (k H _ ⟨Nat.le_of_ble_eq_true rfl, fun p hp => q _ _ ⟨p, rfl, SqT.of upd_same⟩ (same_new hp)⟩)
theorem EvRs.nil : EvRs K σ tNil [] := fun H Q q => q [] H Items.nil (Same.refl H)
theorem EvRs.cons {r : Rule} {R : List Rule} (h : EvR K σ te r) (k : EvRs K σ ta R) : EvRs K σ (tCons te ta) (r :: R) := fun H Q q =>
  h H _ fun v H1 hv s1 => k H1 _ fun vs H2 hvs s2 => q _ _ (Items.cons (hv.sm s2) hvs) (s1.trans s2)
theorem EvB.mk {R : List Rule} (h : EvRs K σ ta R) (l : R.length ≤ 64) : EvB K σ (tTup ta) R := fun H Q q =>
  h H _ fun vs H1 it s1 => ⟨Nat.le_trans (m := 64) (by have := it.1; omega) (by decide), fun p hp => q _ _ ⟨p, vs, rfl, SqT.of upd_same, it.1, fun i x r h1 h2 => (it.2 i x r h1 h2).sm (same_new hp)⟩ (s1.trans (same_new hp))⟩
theorem EvBs.nil : EvBs K σ tNil [] := fun H Q q => q [] H Items.nil (Same.refl H)
theorem EvBs.cons {R : List Rule} {Rs : List (List Rule)} (h : EvB K σ te R) (k : EvBs K σ ta Rs) : EvBs K σ (tCons te ta) (R :: Rs) := fun H Q q =>
  h H _ fun v H1 hv s1 => k H1 _ fun vs H2 hvs s2 => q _ _ (Items.cons (hv.keep (Keep.same s2)) hvs) (s1.trans s2)
theorem EvS.addE {t u s : List Nat} (h : EvS σ x t) (k : EvS σ y u) (l : t.length + u.length ≤ 1000) (e : t ++ u = s) : EvS σ (tOp (fun x y H Q => ∃ i j, x = V.str i ∧ y = V.str j ∧ i.length + j.length ≤ sizeLine ∧ Q (V.str (i ++ j)) H) x y) s := e ▸ EvS.add h k l
theorem st_menu {g : TG} {u : TS} {D : Ends} {H : Hp} {Rs : List (List Rule)} (m : EvBs K σ ta Rs) (k : ∀ vs H1, Items (BkV K) H1 vs Rs → Same H H1 → vs.length ≤ sizeLine ∧ ∀ p, H1 p = none → g (.ref p) σ (upd H1 p (.lst vs)) (u D)) : tSeq (tAsg (tLst ta) g) u D σ H := m H _ k
local macro_rules | `(tactic| walk_at "es") => `(tactic| first | exact EvS.var rfl | exact EvS.nil | exact EvS.addE (by walk_at "es") (by walk_at "es") (by simp) (by exact rfl))
local macro_rules | `(tactic| walk_at "eb") => `(tactic| first | exact EvBs.nil | exact EvRs.nil | (refine EvBs.cons ?_ ?_ <;> walk_at "eb") | (refine EvB.mk ?_ (Nat.le_of_ble_eq_true rfl) <;> walk_at "eb") | (refine EvRs.cons ?_ ?_ <;> walk_at "eb") | (refine EvR.mk ?_ ?_ <;> walk_at "es"))
def spKnown (K : PySem.W.Frag) : Sp := fun vs H Q _ => ∃ (a : Addr) (sg : List Nat), vs = [.ref a, .str (S [sg.getD 0 0]), .str (S [sg.getD (sg.length - 1) 0])] ∧ Src H a ∧ sg ∈ sgMenu ∧ spGood K a sg H Q
end
end Sh
set_option Elab.async false
set_option linter.all false
set_option maxRecDepth 100000
set_option maxHeartbeats 4000000
namespace Sh
open PySem PySem.Spec PyProof.Rows L2
open SX (S S_inj S_len S_cat)
open Bk (Rule firstAt lg bestUp used left drain pushS Wf quarrel Meets)
local macro_rules | `(tactic| walk_at "nx") => `(tactic| repeat (with_reducible first | refine Sh.gn_mk ?_ | refine Sh.nx_mk ?_ | refine Sh.st_nx ?_ | refine Sh.rt_mk ?_ | refine Sh.ct_mk ?_ | refine Sh.bk_mk ?_))
local macro_rules | `(tactic| walk_at "sq") => `(tactic| first | exact SqL.of upd_same | exact SqT.of upd_same | exact SqL.of (by assumption) | exact SqT.of (by assumption) | assumption | exact Or.inl (SqL.of (by assumption)) | exact Or.inr (SqT.of (by assumption)) | exact Or.inl (by assumption) | exact Or.inr (by assumption))
local macro_rules | `(tactic| walk_at "hp") => `(tactic| first | exact upd_same | assumption)
local macro_rules | `(tactic| walk_at "sz") => `(tactic| first | exact Nat.le_of_ble_eq_true rfl | omega)
local macro_rules | `(tactic| walk_at "sd") => `(tactic| first | omega | exact rfl | assumption | (show (0 : Int) < _; omega) | exact And.intro (by omega) (by omega) | exact Or.inl (And.intro (by omega) (by omega)) | exact Or.inr (And.intro (by omega) (by omega)) | omega | exact Sh.sz_S (by omega) | decide)
local macro_rules | `(tactic| walk_at "rd1") => `(tactic| first
  | (with_reducible first | refine Sh.gn_mk ?_ | refine Sh.nx_mk ?_ | refine Sh.st_nx ?_ | refine Sh.rt_mk ?_ | refine Sh.ct_mk ?_ | refine Sh.bk_mk ?_)
  | refine Exists.intro (α := V) _ (And.intro rfl ?_)
  | refine Exists.intro (α := Bool) _ (And.intro rfl ?_)
  | refine Exists.intro (α := Int) _ (And.intro rfl ?_)
  | refine Exists.intro (α := PySem.Str) _ (And.intro rfl ?_)
  | refine Exists.intro (α := Int) _ (Exists.intro (α := Int) _ (And.intro rfl (And.intro rfl ?_)))
  | refine Exists.intro (α := PySem.Str) _ (Exists.intro (α := PySem.Str) _ (And.intro rfl (And.intro rfl ?_)))
  | refine Exists.intro (α := Int) _ (Exists.intro (α := Int) _ (And.intro rfl ?_))
  | refine Or.inl (Exists.intro (α := Int) _ (And.intro rfl ?_))
  | refine Exists.intro _ (Exists.intro _ (Exists.intro _ (Exists.intro _ (And.intro rfl (And.intro rfl (And.intro (by walk_at "sq") (And.intro rfl ?_)))))))
  | refine Exists.intro _ (Exists.intro _ (Exists.intro _ (Exists.intro _ (And.intro rfl (And.intro rfl (And.intro (by walk_at "hp") (And.intro rfl ?_)))))))
  | refine And.intro (by walk_at "sd") ?_
  )
local macro_rules | `(tactic| walk_at "rd") => `(tactic| repeat walk_at "rd1")
local macro_rules | `(tactic| walk_at "lk") => `(tactic| first | exact rfl | (rw [lookup_putF, if_pos rfl]) | (rw [lookup_putF, if_neg (by decide +kernel)]; walk_at "lk"))

section
variable {P : Program} {w : World} {K : PySem.W.Frag} {mg : Str → Option Value} {base : Heap} {CB CE : Addr}
theorem spGood.via {a : Addr} {sg : List Nat} {H H1 : Hp} {Q : VK} (k : spGood K a sg H Q) (b : But a H H1) : spGood K a sg H1 Q := fun p xs R H' r g s b' => k p xs R H' r g s (b.trans b')
theorem EvS.ix {σ : L2.St} {i : Nat} {n : Int} {sg : List Nat} {c : Nat} (h : σ[i]? = some (some (.str (S sg)))) (l : sg.length ≤ 1000) (h0 : 0 ≤ n) (e : sg[n.toNat]? = some c) : EvS σ (tOp rIxS (tVar i) (tC (.int n))) [c] := fun H Q q =>
  ⟨_, h, _, n, c, rfl, rfl, sz_S (t := sg) (by omega), atI_at h0 e, q⟩
theorem EvS.sl {σ : L2.St} {i : Nat} {n : Int} {sg t : List Nat} (h : σ[i]? = some (some (.str (S sg)))) (l : sg.length ≤ 1000) (h0 : 0 ≤ n) (e : sg.take n.toNat = t) : EvS σ (tSl rSlS (tVar i) tNoPart (tPart (tC (.int n)))) t := fun H Q q =>
  ⟨_, h, n, rfl, _, rfl, sz_S (t := sg) (by omega), by rw [cut_to h0, e]; exact q⟩
theorem pair_take {sg : List Nat} (h : 1 < sg.length) : sg.take 2 = [sg.getD 0 0, sg.getD 1 0] := by
  match sg, h with
  | x :: y :: r, _ => simp
theorem ret_sl {σ : L2.St} {te : TE} {r : V → Option Int → Option Int → Hp → VK → Prop} {lo hi : TO} {D : Ends} {H : Hp} {R : List Rule} (m : EvB K σ te R) (k : ∀ v H1, BkV K H1 v R → Same H H1 → lo σ H1 fun l H2 => hi σ H2 fun u H3 => r v l u H3 D.rt) : tRet (tSl r te lo hi) D σ H := m H _ k
def spBookL (K : PySem.W.Frag) : Sp := fun vs H Q _ => ∃ (a : Addr) (sg : List Nat) (most : Int), vs = [.ref a, .str (S sg), .int most] ∧ Src H a ∧ sg ∈ sgMenu ∧ 0 ≤ most ∧ most ≤ 60 ∧ spGood K a sg H Q
end
end Sh
set_option Elab.async false
set_option linter.all false
set_option maxRecDepth 100000
set_option maxHeartbeats 2000000
/-! The law's own call, known to be the outermost one: no repr runs around it (guards = some []), which FnOk does not tell. -/
namespace Sh
open PySem PySem.Spec PyProof.Rows L2
section
variable {P : Program} {w : World} {K : PySem.W.Frag} {mg mb : Str → Option Value}
/-- one def run at one place B: what fn_of says for every place -/
theorem run_at {base : Heap} {j : Nat} {g : Addr} {q : Str} {st : Stmt} {fd : FuncData} {N ps : List Str} {B : Around} {out : List Env} {s0 : Shared} {H0 : Hp} {ar : Args} {us : List Value} {zs : List V} {R : VK} {X0 : XK}
    (F : L2.Fun K q q st g fd) (S : FnScope N ps (defScope st)) (hl : zs.length = ps.length) (room : Room (j + 1) B) (en : Env0 P w K mg base B out s0 H0) (bi : BindsTo s0 fd ar (ps.zip us)) (rv : Vals zs us)
    (body : ∀ cdv : Value, Room j (B.deeper (envOfC q (defScope st) s0.heap.objs.size g cdv)) →
      ∃ t, PSs (cxOf CX0 P w K mg base N q (defScope st) g cdv B out s0 H0 X0).nox (defBody st) t ∧ t { nx := fun _ H' => R .non H', rt := R } (start N zs) H0) :
    codeAny (model P w) B (.call (.ref g) ar) (CR CX0 out P w H0 s0 R X0) s0 := by
  obtain ⟨oc, od, kV, doc, pm, an, cdv, ct, osl, rfl, look, code⟩ := F.ex
  have inK : K.In s0.heap := en.mod.kin.keeps fun b o z => (en.bs b o z).1
  have noL : s0.heap.NoLimit := en.mod.nolimit.keeps fun b o z => (en.bs b o z).1
  refine codeAny_call_function room.depth (inK _ _ look) rfl S.co S.gen rfl (PySem.W.codeRec_of inK code) (bi _ _ _ _ ?_)
  refine wpAny_newFunctionEnv_cells S.kind ?_ fun env same s2 at2 => ?_
  · rintro ⟨n, v⟩ mem
    exact (S.par n (List.of_mem_zip mem).1).imp id fun z => ⟨z, PySem.W.cellsFrom_some _ _ _ (.inl z)⟩
  · subst same
    refine ⟨noL.keeps at2.toInCall.keep, codeAny_func ?_⟩
    obtain ⟨t, run, val⟩ := body cdv (room.deeper _)
    have I0 := inv_start (CX := CX0) (E := X0) S room.hd en hl rv at2
    refine wpAny_mono (run.nox.run [] s2 _ H0 _ I0 val) (fun fl s3 out3 => ?_) fun e s3 z => z
    match fl, out3 with
    | .ret u, ⟨v, _, H3, J, r3, z⟩ => exact ⟨v, H3, J.os, J.bare, J.base, J.hok, r3, z⟩
    | .next, ⟨_, H3, J, z⟩ => exact ⟨.non, H3, J.os, J.bare, J.base, J.hok, rfl, z⟩
    | .brk, ⟨_, _, _, z⟩ => exact z.elim
    | .cont, ⟨_, _, _, z⟩ => exact z.elim
/-- at most the script is tracked, as an object that keeps -/
def OnlyA (a : Addr) (ls : List V) (vs : List Value) (H : Hp) : Prop := ∀ b u, H b = some u → b = a ∧ u = .frz { cls := .type "list", data := .seq vs.toArray } (.lst ls)
theorem law_in {k : Nat} {fa a : Addr} {x p1 : Str} {st : Stmt} {fd : FuncData} {N : List Str} {s1 : Shared} {vs : List Value} {zs : List Int}
    (kin : K.In s1.heap) (glob : s1.heap.Ns mainGlobals mg) (bltn : s1.heap.Ns builtinsNs mb) (bboot : ∀ y : Str, y ≠ "__name__" → mb y = bootBuiltins y) (noL : s1.heap.NoLimit) (noG : s1.gens = #[])
    (scr : s1.heap.get? a = some { cls := .type "list", data := .seq vs.toArray }) (isI : IntsAre vs zs) (small : zs.length ≤ sizeLine) (room : Room (k + 1) callerA)
    (F : L2.Fun K x x st fa fd) (S : FnScope N [p1] (defScope st)) (bi : ∀ (s : Shared) (u : Value), BindsTo s fd ⟨[u], []⟩ [(p1, u)])
    (body : ∀ (base : Heap) (H : Hp) (cdv : Value), Room k (callerA.deeper (envOfC x (defScope st) s1.heap.objs.size fa cdv)) → SqL K H a (zs.map V.int) →
      ∃ t, PSs (cxOf CX0 P w K mg base N x (defScope st) fa cdv callerA [] s1 H fun _ _ _ => False).nox (defBody st) t ∧ t { nx := fun _ _ => V.non = V.bl true, rt := fun v _ => v = .bl true } (start N [.ref a]) H) :
    codeAny (model P w) callerA (.call (.ref fa) ⟨[.ref a], []⟩) (fun r s' => r = .ok (.ret (.bool true)) ∧ OldK s1.heap s'.heap ∧ s'.os = s1.os ∧ AllBare s'.gens) s1 := by
  have isV := vals_ints isI
  have sameL := isI.length
  have main : ∀ H : Hp, OnlyA a (zs.map V.int) vs H → SqL K H a (zs.map V.int) → HOk P w H s1.heap → (K.lookup a ≠ none → H a = none) →
      codeAny (model P w) callerA (.call (.ref fa) ⟨[.ref a], []⟩) (fun r s' => r = .ok (.ret (.bool true)) ∧ OldK s1.heap s'.heap ∧ s'.os = s1.os ∧ AllBare s'.gens) s1 := by
    intro H lone sq good apart
    -- what is not the script is not tracked
    have free : ∀ {b : Addr}, b ≠ a → H b = none := fun {b} n => by
      cases z : H b with
      | none => rfl
      | some u => exact absurd (lone b u z).1 n
    have nsF : ∀ {b : Addr} {m : Str → Option Value}, s1.heap.Ns b m → (hidT s1.heap H).Ns b m := by
      rintro b m ⟨o, es, ep, z, dat, rest⟩
      refine ⟨o, es, ep, hidT_get z (free ?_), dat, rest⟩
      rintro rfl
      rw [scr] at z
      cases z
      cases (show Data.seq vs.toArray _ = Data.dict es ep from dat)
    have kinF : K.In (hidT s1.heap H) := fun b o z => by
      by_cases n : b = a
      · subst n
        exact hidT_get (kin _ _ z) (apart (by rw [z]; simp))
      · exact hidT_get (kin b o z) (free n)
    obtain ⟨mc, c1, c2⟩ := noL
    have en : Env0 P w K mg (hidT s1.heap H) callerA [] s1 H := by
      refine ⟨rfl, ⟨kinF, nsF glob, ⟨mb, nsF bltn, bboot⟩, ⟨mc, nsF c1, c2⟩⟩, fun b o z => of_hidT z, Nat.le_of_eq (hidT_size _ _), trivial, fun b z => ?_, good, .of_eq noG⟩
      cases z
    refine codeAny_mono (run_at (R := fun v _ => v = .bl true) (zs := [.ref a]) (us := [.ref a]) F S rfl room en (bi s1 (.ref a)) (.cons rfl .nil) fun cdv r => body _ H cdv r sq) fun res s2 h => ?_
    match res, h with
    | .error e, h => exact (show False from h).elim
    | .ok .next, h => exact (show False from h).elim
    | .ok .brk, h => exact (show False from h).elim
    | .ok .cont, h => exact (show False from h).elim
    | .ok (.ret u), ⟨v, H2, os, bare, un, good2, rv, ev⟩ =>
      obtain rfl : v = .bl true := ev
      obtain rfl : u = Value.bool true := rv
      refine ⟨rfl, OldK.of_keep fun b o z => ?_, os, bare⟩
      cases q : H b with
      | none => exact un.keep b o z q (fun m => by cases m) (by simp)
      | some u =>
        obtain ⟨rfl, rfl⟩ := lone b u q
        have g1 := (good _ _ q).1
        rw [z] at g1
        cases g1
        exact (good2 _ _ (un.frzs _ _ _ q)).1
  by_cases own : K.lookup a = none
  · refine main (fun b => if b = a then some (.frz { cls := .type "list", data := .seq vs.toArray } (.lst (zs.map V.int))) else none) ?_ (.inl (.inr ⟨_, if_pos rfl⟩)) ?_ fun n => absurd own n
    · intro b u z
      by_cases n : b = a
      · exact ⟨n, (Option.some.inj ((if_pos n).symm.trans z)).symm⟩
      · cases (if_neg n).symm.trans z
    · intro b u z
      by_cases n : b = a
      · subst n
        cases (if_pos rfl).symm.trans z
        exact ⟨scr, by rw [List.length_map]; exact small, vs, _, isV, scr⟩
      · cases (if_neg n).symm.trans z
  · obtain ⟨o, z⟩ := Option.ne_none_iff_exists'.mp own
    have same := kin a o z
    rw [scr] at same
    cases same
    exact main (fun _ => none) (fun _ _ z => by cases z) (.inr ⟨_, vs.toArray, _, z, rfl, rfl, rfl, by rw [List.size_toArray, sameL]; exact small, by simpa using isV⟩) (fun _ _ z => by cases z) fun _ => rfl
end
/-- the law's claim from its body, walked where no repr runs around it -/
theorem walk_law {l : PySem.W.OpenLaw} {n k : Nat} {q : Program} {loose : List Str} {XP : (Str → Option Value) → Heap → Prop} {YP : World → Heap → Prop} {d : DefRec} {K : Params → PySem.W.Frag} {x p1 : Str} {st : Stmt} {N : List Str}
    (hn : l.most = some n) (hn2 : n ≤ sizeLine) (hdf : d.params.defaults = []) (room : Room (k + 1) callerA) (S : FnScope N [p1] (defScope st))
    (hY : ∀ (w : World) (h : Heap), YP w h → (K w.params).In h)
    (F : ∀ (w : World) (mg : Str → Option Value) (fa : Addr) (h : Heap), (K w.params).In h → h.Ns mainGlobals mg → mg d.name = some (.ref fa) →
      ∃ fd : FuncData, L2.Fun (K w.params) x x st fa fd ∧ (∀ (s : Shared) (u : Value), BindsTo s fd ⟨[u], []⟩ [(p1, u)]) ∧
        ∀ (s1 : Shared) (a : Addr) (zs : List Int) (base : Heap) (H : Hp) (cdv : Value), zs.length ≤ n → (∀ z ∈ zs, Builtin.Int.intBits z ≤ 1048576) → Room k (callerA.deeper (envOfC x (defScope st) s1.heap.objs.size fa cdv)) → SqL (K w.params) H a (zs.map V.int) →
          ∃ t, PSs (cxOf CX0 l.prog w (K w.params) mg base N x (defScope st) fa cdv callerA [] s1 H fun _ _ _ => False).nox (defBody st) t ∧ t { nx := fun _ _ => V.non = V.bl true, rt := fun v _ => v = .bl true } (start N [.ref a]) H) :
    PySem.W.WalkO q loose XP YP l.row.toRowW d [] (fun f vs => PySem.call f vs) := by
  refine Att.attach_callB hn hdf fun w s0 s1 mg mb fa o pm cd doc a vs zs G Y ho hd hcd hmg hobj isI len bits noG => ?_
  have kin := hY w _ Y
  obtain ⟨fd, Fn, bi, body⟩ := F w mg fa _ kin G.T.g hmg
  exact law_in kin G.T.g G.T.b G.T.builtins G.T.nolimit noG hobj isI (Nat.le_trans len hn2) room Fn S bi fun base H cdv r sq => body s1 a zs base H cdv len bits r sq
end Sh
/-! what one book says of the rules of another one; plain Lean -/
namespace Bk
def AllSay (R N : List Rule) : Prop := ∀ r ∈ N, left R r.1 = left R r.2
theorem say_step {R N : List Rule} (w : Wf R) (M : Meets R) (h : AllSay R N) {a b : T} (s : Step N a b) : left R a = left R b := by
  cases s with
  | mk x y r hr => exact left_congr w M (left_congr w M rfl (h r hr)) rfl
theorem say_reach {R N : List Rule} (w : Wf R) (M : Meets R) (h : AllSay R N) {a b : T} (s : Reach N a b) : left R a = left R b := by
  induction s with
  | refl => exact rfl
  | step x _ ih => exact (say_step w M h x).trans ih
theorem say_ends {R N : List Rule} (w : Wf R) (M : Meets R) (h : AllSay R N) {t u : T} (e : left N t = left N u) : left R t = left R u := by
  rw [say_reach w M h (left_reach (R := N) t), say_reach w M h (left_reach (R := N) u), e]
/-- the end in R of the first text with the end k in N -/
def fstE (R N : List Rule) (pre : List T) (k : T) : Option T := (pre.find? fun u => decide (left N u = k)).map (left R)
def brk (R N : List Rule) (pre : List T) : Bool := pre.any fun u => decide (¬ fstE R N pre (left N u) = some (left R u))
theorem fstE_snoc (R N : List Rule) (pre : List T) (t k : T) : fstE R N (pre ++ [t]) k = match fstE R N pre k with
    | some v => some v
    | none => if left N t = k then some (left R t) else none := by
  unfold fstE
  rw [List.find?_append]
  cases h : pre.find? fun u => decide (left N u = k) with
  | some v => rfl
  | none =>
    simp only [Option.none_or, Option.map_none, List.find?_cons, List.find?_nil]
    by_cases c : left N t = k
    · simp [c]
    · simp [c]
theorem fstE_mem {R N : List Rule} {pre : List T} {u : T} (h : u ∈ pre) : ∃ v, fstE R N pre (left N u) = some v := by
  unfold fstE
  cases e : pre.find? fun z => decide (left N z = left N u) with
  | some v => exact ⟨_, rfl⟩
  | none =>
    have := List.find?_eq_none.mp e u h
    simp at this
theorem brk_snoc (R N : List Rule) (pre : List T) (t : T) : brk R N (pre ++ [t]) = (brk R N pre || decide (¬ fstE R N (pre ++ [t]) (left N t) = some (left R t))) := by
  unfold brk
  rw [List.any_append]
  congr 1
  · have key : ∀ l : List T, (∀ u ∈ l, u ∈ pre) → (l.any fun u => decide (¬ fstE R N (pre ++ [t]) (left N u) = some (left R u))) = l.any fun u => decide (¬ fstE R N pre (left N u) = some (left R u)) := by
      intro l
      induction l with
      | nil => intro _; rfl
      | cons u l ih =>
        intro h
        obtain ⟨v, hv⟩ := fstE_mem (R := R) (N := N) (h u List.mem_cons_self)
        have e : fstE R N (pre ++ [t]) (left N u) = fstE R N pre (left N u) := by rw [fstE_snoc, hv]
        rw [List.any_cons, List.any_cons, e, ih fun z hz => h z (List.mem_cons_of_mem _ hz)]
    exact key pre fun _ h => h
  · simp
theorem brk_false {R N : List Rule} (w : Wf R) (M : Meets R) (h : AllSay R N) (l : List T) : brk R N l = false := by
  unfold brk
  rw [List.any_eq_false]
  intro u hu
  obtain ⟨v, hv⟩ := fstE_mem (R := R) (N := N) hu
  have hv' := hv
  unfold fstE at hv'
  rw [Option.map_eq_some_iff] at hv'
  obtain ⟨z, hz, rfl⟩ := hv'
  have := List.find?_some hz
  rw [hv, say_ends w M h (of_decide_eq_true this)]
  simp
theorem brk_true {R N : List Rule} (w : Wf N) (M : Meets N) {l : List T} {r : Rule} (hr : r ∈ N) (hne : ¬ left R r.1 = left R r.2) (h1 : r.1 ∈ l) (h2 : r.2 ∈ l) : brk R N l = true := by
  have e : left N r.1 = left N r.2 := left_eq w M (.step (by have := Step.mk (R := N) [] [] r hr; simpa using this) (.refl _))
  obtain ⟨v, hv⟩ := fstE_mem (R := R) (N := N) h1
  unfold brk
  rw [List.any_eq_true]
  by_cases c : v = left R r.1
  · refine ⟨r.2, h2, ?_⟩
    rw [← e, hv, c]
    exact decide_eq_true fun z => hne (Option.some.inj z)
  · refine ⟨r.1, h1, ?_⟩
    rw [hv]
    exact decide_eq_true fun z => c (Option.some.inj z)
/-- all texts of n signs, of up to n signs -/
def lvl (sg : List Nat) : Nat → List T
  | 0 => [[]]
  | k + 1 => (lvl sg k).flatMap fun t => sg.map fun c => t ++ [c]
def txts (sg : List Nat) (n : Nat) : List T := (List.range (n + 1)).flatMap (lvl sg)
theorem mem_lvl {sg : List Nat} : ∀ {n : Nat} {t : T}, t ∈ lvl sg n ↔ t.length = n ∧ ∀ c ∈ t, c ∈ sg
  | 0, t => by
    simp only [lvl, List.mem_singleton]
    constructor
    · rintro rfl; simp
    · rintro ⟨h, _⟩; exact List.eq_nil_of_length_eq_zero h
  | n + 1, t => by
    simp only [lvl, List.mem_flatMap, List.mem_map]
    constructor
    · rintro ⟨u, hu, c, hc, rfl⟩
      obtain ⟨h1, h2⟩ := mem_lvl.mp hu
      refine ⟨by simp [h1], fun d hd => ?_⟩
      rcases List.mem_append.mp hd with q | q
      · exact h2 d q
      · rw [List.mem_singleton] at q; rw [q]; exact hc
    · rintro ⟨h1, h2⟩
      have hne : t ≠ [] := by
        intro e; rw [e] at h1; simp at h1
      refine ⟨t.dropLast, mem_lvl.mpr ⟨by rw [List.length_dropLast, h1]; rfl, fun c hc => h2 c (List.dropLast_subset t hc)⟩, t.getLast hne, h2 _ (List.getLast_mem hne), List.dropLast_concat_getLast hne⟩
theorem mem_txts {sg : List Nat} {n : Nat} {t : T} : t ∈ txts sg n ↔ t.length ≤ n ∧ ∀ c ∈ t, c ∈ sg := by
  unfold txts
  simp only [List.mem_flatMap, List.mem_range, mem_lvl]
  constructor
  · rintro ⟨k, hk, h1, h2⟩
    exact ⟨by omega, h2⟩
  · rintro ⟨h1, h2⟩
    exact ⟨t.length, by omega, rfl, h2⟩
theorem txts_succ (sg : List Nat) (n : Nat) : txts sg (n + 1) = txts sg n ++ lvl sg (n + 1) := by
  unfold txts
  rw [List.range_succ, List.flatMap_append]
  simp
theorem lvl_len (sg : List Nat) : ∀ n, (lvl sg n).length = sg.length ^ n
  | 0 => by simp [lvl]
  | n + 1 => by
    have : ∀ l : List T, (l.flatMap fun t => sg.map fun c => t ++ [c]).length = l.length * sg.length := by
      intro l
      induction l with
      | nil => simp
      | cons x l ih => rw [List.flatMap_cons, List.length_append, ih, List.length_map, List.length_cons, Nat.succ_mul]; omega
    rw [lvl, this, lvl_len sg n, Nat.pow_succ]
end Bk
set_option Elab.async false
set_option linter.all false
set_option maxRecDepth 100000
set_option maxHeartbeats 4000000
namespace Sh
open PySem PySem.Spec PyProof.Rows L2
open SX (S S_inj S_len S_cat)
open Bk (Rule firstAt lg bestUp used left drain pushS Wf quarrel Meets lvl txts)
local macro_rules | `(tactic| walk_at "nx") => `(tactic| repeat (with_reducible first | refine Sh.gn_mk ?_ | refine Sh.nx_mk ?_ | refine Sh.st_nx ?_ | refine Sh.rt_mk ?_ | refine Sh.ct_mk ?_ | refine Sh.bk_mk ?_))
local macro_rules | `(tactic| walk_at "sq") => `(tactic| first | exact SqL.of upd_same | exact SqT.of upd_same | exact SqL.of (by assumption) | exact SqT.of (by assumption) | assumption | exact Or.inl (SqL.of (by assumption)) | exact Or.inr (SqT.of (by assumption)) | exact Or.inl (by assumption) | exact Or.inr (by assumption))
local macro_rules | `(tactic| walk_at "hp") => `(tactic| first | exact upd_same | assumption)
local macro_rules | `(tactic| walk_at "sz") => `(tactic| first | exact Nat.le_of_ble_eq_true rfl | omega)
local macro_rules | `(tactic| walk_at "sd") => `(tactic| first | omega | exact rfl | assumption | (show (0 : Int) < _; omega) | exact And.intro (by omega) (by omega) | exact Or.inl (And.intro (by omega) (by omega)) | exact Or.inr (And.intro (by omega) (by omega)) | omega | exact Sh.sz_S (by omega) | decide)
local macro_rules | `(tactic| walk_at "rd1") => `(tactic| first
  | (with_reducible first | refine Sh.gn_mk ?_ | refine Sh.nx_mk ?_ | refine Sh.st_nx ?_ | refine Sh.rt_mk ?_ | refine Sh.ct_mk ?_ | refine Sh.bk_mk ?_)
  | refine Exists.intro (α := V) _ (And.intro rfl ?_)
  | refine Exists.intro (α := Bool) _ (And.intro rfl ?_)
  | refine Exists.intro (α := Int) _ (And.intro rfl ?_)
  | refine Exists.intro (α := PySem.Str) _ (And.intro rfl ?_)
  | refine Exists.intro (α := Int) _ (Exists.intro (α := Int) _ (And.intro rfl (And.intro rfl ?_)))
  | refine Exists.intro (α := PySem.Str) _ (Exists.intro (α := PySem.Str) _ (And.intro rfl (And.intro rfl ?_)))
  | refine Exists.intro (α := Int) _ (Exists.intro (α := Int) _ (And.intro rfl ?_))
  | refine Or.inl (Exists.intro (α := Int) _ (And.intro rfl ?_))
  | refine Exists.intro _ (Exists.intro _ (Exists.intro _ (Exists.intro _ (And.intro rfl (And.intro rfl (And.intro (by walk_at "sq") (And.intro rfl ?_)))))))
  | refine Exists.intro _ (Exists.intro _ (Exists.intro _ (Exists.intro _ (And.intro rfl (And.intro rfl (And.intro (by walk_at "hp") (And.intro rfl ?_)))))))
  | refine And.intro (by walk_at "sd") ?_
  )
local macro_rules | `(tactic| walk_at "rd") => `(tactic| repeat walk_at "rd1")
local macro_rules | `(tactic| walk_at "lk") => `(tactic| first | exact rfl | (rw [lookup_putF, if_pos rfl]) | (rw [lookup_putF, if_neg (by decide +kernel)]; walk_at "lk"))

theorem txts_len (sg : List Nat) : ∀ n, (txts sg (n + 1)).length = (txts sg n).length + sg.length ^ (n + 1) := fun n => by
  rw [Bk.txts_succ, List.length_append, Bk.lvl_len]
theorem txts_le {sg : List Nat} (h : sg.length ≤ 3) : ∀ {n : Nat}, n ≤ 4 → (txts sg n).length ≤ 121 ∧ (lvl sg n).length ≤ 81 := by
  have z : (txts sg 0).length = 1 := rfl
  have e1 := txts_len sg 0
  have e2 := txts_len sg 1
  have e3 := txts_len sg 2
  have e4 := txts_len sg 3
  have p : ∀ k, sg.length ^ k ≤ 3 ^ k := fun k => Nat.pow_le_pow_left h k
  have p1 := p 1
  have p2 := p 2
  have p3 := p 3
  have p4 := p 4
  have p0 := p 0
  intro n hn
  rw [Bk.lvl_len]
  have : n = 0 ∨ n = 1 ∨ n = 2 ∨ n = 3 ∨ n = 4 := by omega
  rcases this with rfl | rfl | rfl | rfl | rfl <;> (simp only [Nat.reduceAdd, Nat.reducePow] at *; omega)
section
variable {P : Program} {w : World} {K : PySem.W.Frag} {mg : Str → Option Value} {base : Heap} {CB CE : Addr}
def ext (sg : List Nat) (t : List Nat) : List (List Nat) := sg.map fun c => t ++ [c]
theorem lvl_succ (sg : List Nat) (n : Nat) : lvl sg (n + 1) = (lvl sg n).flatMap (ext sg) := rfl
def spEnds (K : PySem.W.Frag) : Sp := fun vs H Q _ => ∃ (sg : List Nat) (e : Addr) (n : Nat), vs = [.str (S sg), .ref e, .int (n : Nat)] ∧ SqT K H e [] ∧ sg.length ≤ 3 ∧ n ≤ 4 ∧
  ∀ (p : Addr) (H' : Hp), H p = none → Same H H' → H' p = some (.lst ((txts sg n).map vS)) → Q (.ref p) H'
def spTexts (K : PySem.W.Frag) : Sp := fun vs H Q _ => ∃ (sg : List Nat) (n : Nat), vs = [.str (S sg), .int (n : Nat)] ∧ sg.length ≤ 3 ∧ n ≤ 4 ∧
  ∀ (p : Addr) (H' : Hp), Same H H' → H' p = some (.lst ((txts sg n).map vS)) → Q (.ref p) H'
end
end Sh
/-! steps by place, what a search over steps finds; plain Lean -/
namespace Bk
theorem step_place {R : List Rule} (w : Wf R) {t u : T} (h : Step R t u) : ∃ r ∈ R, ∃ k, k < t.length ∧ (t.drop k).take r.1.length = r.1 ∧ u = t.take k ++ r.2 ++ t.drop (k + r.1.length) := by
  cases h with
  | mk x y r hr =>
    have := (w r hr).1
    refine ⟨r, hr, x.length, by simp; omega, ?_, ?_⟩
    · rw [List.append_assoc, List.drop_left, List.take_left]
    · have e1 : (x ++ r.1 ++ y).take x.length = x := by rw [List.append_assoc, List.take_left]
      have e2 : (x ++ r.1 ++ y).drop (x.length + r.1.length) = y := by rw [← List.length_append, List.drop_left]
      rw [e1, e2]
theorem place_step {R : List Rule} {t : T} {r : Rule} (hr : r ∈ R) {k : Nat} (h : (t.drop k).take r.1.length = r.1) : Step R t (t.take k ++ r.2 ++ t.drop (k + r.1.length)) := by
  have e : t = t.take k ++ r.1 ++ t.drop (k + r.1.length) := by
    conv => lhs; rw [← List.take_append_drop k t, ← List.take_append_drop r.1.length (t.drop k), h, List.drop_drop]
    rw [List.append_assoc]
  have s := Step.mk (R := R) (t.take k) (t.drop (k + r.1.length)) r hr
  rw [← e] at s
  exact s
/-- a set that holds the successors of all it holds but of W's -/
def ClosedBut (R : List Rule) (F W : List T) : Prop := ∀ a ∈ F, a ∉ W → ∀ b, Step R a b → b ∈ F
theorem closed_reach {R : List Rule} {F : List T} (h : ClosedBut R F []) {a b : T} (s : Reach R a b) : a ∈ F → b ∈ F := by
  induction s with
  | refl => exact id
  | step x _ ih => exact fun m => ih (h _ m (by simp) _ x)
end Bk
/-! the least book: its left sides are the least texts that are no ends; plain Lean -/
namespace Bk
theorem over_place {a b t : T} {k : Nat} (hk : k < a.length) (h : over a b k = some t) : t.take a.length = a ∧ (t.drop k).take b.length = b := by
  unfold over at h
  split at h
  case isFalse => cases h
  case isTrue c =>
    cases h
    refine ⟨by simp, ?_⟩
    rcases Nat.le_total (a.length - k) b.length with q | q
    · rw [Nat.min_eq_left q] at c ⊢
      have e1 : (a.drop k).take (a.length - k) = a.drop k := List.take_of_length_le (by simp)
      rw [e1] at c
      rw [List.drop_append_of_le_length (by omega), c, List.take_append_drop, List.take_length]
    · rw [Nat.min_eq_right q] at c ⊢
      rw [List.take_length] at c
      rw [List.drop_length, List.append_nil]
      exact c
/-- a book whose rules the first one says, and which leaves only ends of it, has the same ends -/
theorem same_left {R L : List Rule} (w : Wf R) (M : Meets R) (wL : Wf L) (he : ∀ t, IsEnd L t → IsEnd R t) (hs : AllSay R L) : (∀ t, left L t = left R t) ∧ Meets L := by
  have main : ∀ t, left L t = left R t := by
    intro t
    rw [say_reach w M hs (left_reach (R := L) t), left_of_end (he _ (left_end wL t))]
  refine ⟨main, fun r hr q hq k hk t ho => ?_⟩
  rw [main, main]
  obtain ⟨h1, h2⟩ := over_place hk ho
  have s1 : Step L t (res1 r t) := by
    have := place_step (k := 0) (t := t) hr (by simpa using h1)
    simpa [res1] using this
  have s2 : Step L t (res2 q t k) := place_step hq h2
  rw [← say_step w M hs s1, ← say_step w M hs s2]
/-- a proper piece of l is a left side -/
def Ins (R : List Rule) (l : T) : Prop := ∃ x m y, l = x ++ m ++ y ∧ m ≠ l ∧ ∃ r ∈ R, r.1 = m
/-- no end, but all its proper pieces are -/
def MinRed (R : List Rule) (l : T) : Prop := ¬ IsEnd R l ∧ ∀ x m y, l = x ++ m ++ y → m ≠ l → IsEnd R m
theorem not_end_left {R : List Rule} {r : Rule} (h : r ∈ R) : ¬ IsEnd R r.1 := by
  intro e
  exact isEnd_iff.mp e r h [] [] (by simp)
theorem not_end {R : List Rule} {t : T} (h : ¬ IsEnd R t) : ∃ r ∈ R, ∃ x y, t = x ++ r.1 ++ y := by
  rw [isEnd_iff] at h
  simp only [Classical.not_forall] at h
  obtain ⟨r, hr, x, y, e⟩ := h
  exact ⟨r, hr, x, y, Classical.not_not.mp e⟩
theorem minRed_iff {R : List Rule} {l : T} : ((∃ r ∈ R, r.1 = l) ∧ ¬ Ins R l) ↔ MinRed R l := by
  constructor
  · rintro ⟨⟨r, hr, rfl⟩, hi⟩
    refine ⟨not_end_left hr, fun x m y e hm => ?_⟩
    refine Classical.byContradiction fun he => ?_
    obtain ⟨q, hq, a, b, rfl⟩ := not_end he
    refine hi ⟨x ++ a, q.1, b ++ y, by rw [e]; simp [List.append_assoc], fun z => hm ?_, q, hq, rfl⟩
    have l1 := congrArg List.length e
    have l2 := congrArg List.length z
    simp at l1
    have : a = [] ∧ b = [] ∧ x = [] ∧ y = [] := by
      refine ⟨?_, ?_, ?_, ?_⟩ <;> (apply List.eq_nil_of_length_eq_zero; omega)
    obtain ⟨rfl, rfl, rfl, rfl⟩ := this
    simpa using z
  · rintro ⟨h1, h2⟩
    obtain ⟨r, hr, x, y, e⟩ := not_end h1
    refine ⟨⟨r, hr, ?_⟩, ?_⟩
    · refine Classical.byContradiction fun hn => not_end_left hr (h2 x r.1 y e hn)
    · rintro ⟨a, m, b, e2, hm, q, hq, rfl⟩
      exact not_end_left hq (h2 a q.1 b e2 hm)
theorem minRed_congr {R L : List Rule} (h : ∀ t, IsEnd R t ↔ IsEnd L t) {l : T} : MinRed R l ↔ MinRed L l := by
  unfold MinRed
  rw [h]
  constructor
  · rintro ⟨a, b⟩; exact ⟨a, fun x m y e hm => (h m).mp (b x m y e hm)⟩
  · rintro ⟨a, b⟩; exact ⟨a, fun x m y e hm => (h m).mpr (b x m y e hm)⟩
/-- whatever is no end has a least piece that is none -/
theorem has_min {R : List Rule} : ∀ (n : Nat) (t : T), t.length ≤ n → ¬ IsEnd R t → ∃ x m y, t = x ++ m ++ y ∧ MinRed R m
  | 0, t, h, he => by
    have : t = [] := List.eq_nil_of_length_eq_zero (by omega)
    subst this
    refine ⟨[], [], [], rfl, he, fun x m y e hm => ?_⟩
    have := congrArg List.length e
    simp at this
    have : m = [] := List.eq_nil_of_length_eq_zero (by omega)
    exact absurd this hm
  | n + 1, t, h, he => by
    by_cases c : ∃ x m y, t = x ++ m ++ y ∧ m ≠ t ∧ ¬ IsEnd R m
    · obtain ⟨x, m, y, e, hm, hn⟩ := c
      have hl : m.length < t.length := by
        rcases Nat.lt_or_ge m.length t.length with q | q
        · exact q
        · exfalso
          have l1 := congrArg List.length e
          simp at l1
          have : x = [] ∧ y = [] := by
            refine ⟨?_, ?_⟩ <;> (apply List.eq_nil_of_length_eq_zero; omega)
          obtain ⟨rfl, rfl⟩ := this
          exact hm (by simpa using e.symm)
      obtain ⟨a, k, b, e2, hk⟩ := has_min n m (by omega) hn
      exact ⟨x ++ a, k, b ++ y, by rw [e, e2]; simp [List.append_assoc], hk⟩
    · refine ⟨[], t, [], by simp, he, fun x m y e hm => ?_⟩
      exact Classical.byContradiction fun z => c ⟨x, m, y, e, hm, z⟩
/-! ### ascending lists -/
theorem keyLt_irrefl (a : T) : keyLt a a = false := by
  unfold keyLt
  rw [if_pos rfl]
  exact decide_eq_false (List.lt_irrefl a)
theorem keyLt_asymm {a b : T} (h : keyLt a b = true) : keyLt b a = false := by
  unfold keyLt at *
  by_cases e : a.length = b.length
  · rw [if_pos e, decide_eq_true_eq] at h
    rw [if_pos e.symm]
    exact decide_eq_false (fun z => List.lt_irrefl a (List.lt_trans h z))
  · rw [if_neg e, decide_eq_true_eq] at h
    rw [if_neg (Ne.symm e)]
    exact decide_eq_false (by omega)
def Asc (l : List T) : Prop := l.Pairwise fun a b => keyLt a b = true
theorem asc_uniq : ∀ {l m : List T}, Asc l → Asc m → (∀ x, x ∈ l ↔ x ∈ m) → l = m
  | [], [], _, _, _ => rfl
  | [], y :: m, _, _, h => by have := (h y).mpr List.mem_cons_self; cases this
  | x :: l, [], _, _, h => by have := (h x).mp List.mem_cons_self; cases this
  | x :: l, y :: m, h1, h2, h => by
    obtain ⟨a1, a2⟩ := List.pairwise_cons.mp h1
    obtain ⟨b1, b2⟩ := List.pairwise_cons.mp h2
    have e : x = y := by
      rcases List.mem_cons.mp ((h x).mp List.mem_cons_self) with e | hx
      · exact e
      · rcases List.mem_cons.mp ((h y).mpr List.mem_cons_self) with e | hy
        · exact e.symm
        · have z1 := b1 x hx
          have z2 := a1 y hy
          rw [keyLt_asymm z1] at z2
          cases z2
    subst e
    have hx1 : x ∉ l := fun z => by have := a1 x z; rw [keyLt_irrefl] at this; cases this
    have hx2 : x ∉ m := fun z => by have := b1 x z; rw [keyLt_irrefl] at this; cases this
    rw [asc_uniq a2 b2 fun z => ?_]
    have hz := h z
    simp only [List.mem_cons] at hz
    constructor
    · intro k
      rcases hz.mp (.inr k) with e | q
      · rw [e] at k; exact absurd k hx1
      · exact q
    · intro k
      rcases hz.mpr (.inr k) with e | q
      · rw [e] at k; exact absurd k hx2
      · exact q
/-- the left sides of the least book -/
def IsDue (R : List Rule) (ds : List T) : Prop := Asc ds ∧ ∀ l, l ∈ ds ↔ MinRed R l
theorem due_uniq {R L : List Rule} (h : ∀ t, IsEnd R t ↔ IsEnd L t) {ds es : List T} (a : IsDue R ds) (b : IsDue L es) : ds = es :=
  asc_uniq a.1 b.1 fun x => by rw [a.2, b.2, minRed_congr h]
def lrules (R : List Rule) (ds : List T) : List Rule := ds.map fun l => (l, left R l)
section
variable {R : List Rule} {ds : List T}
theorem due_left (d : IsDue R ds) {l : T} (h : l ∈ ds) : ∃ r ∈ R, r.1 = l := (minRed_iff.mpr ((d.2 l).mp h)).1
theorem due_shrink (w : Wf R) (M : Meets R) {r : Rule} (h : r ∈ R) : (left R r.1).length ≤ r.2.length := by
  have : left R r.1 = left R r.2 := left_eq w M (by
    have := Step.mk (R := R) [] [] r h
    simp at this
    exact .step this (.refl _))
  rw [this]
  exact (left_reach (R := R) r.2).len w
theorem due_wf (w : Wf R) (M : Meets R) (d : IsDue R ds) : Wf (lrules R ds) := by
  intro r hr
  obtain ⟨l, hl, rfl⟩ := List.mem_map.mp hr
  obtain ⟨q, hq, rfl⟩ := due_left d hl
  have h1 := due_shrink w M hq
  have h2 := w q hq
  exact ⟨by show (left R q.1).length < q.1.length; omega, by show (left R q.1).length ≤ 1; omega⟩
theorem due_end (w : Wf R) (d : IsDue R ds) (t : T) : IsEnd R t ↔ IsEnd (lrules R ds) t := by
  constructor
  · intro h
    rw [isEnd_iff]
    intro r hr x y e
    obtain ⟨l, hl, rfl⟩ := List.mem_map.mp hr
    obtain ⟨q, hq, rfl⟩ := due_left d hl
    exact isEnd_iff.mp h q hq x y e
  · intro h
    refine Classical.byContradiction fun hn => ?_
    obtain ⟨x, m, y, e, hm⟩ := has_min t.length t (Nat.le_refl _) hn
    exact isEnd_iff.mp h (m, left R m) (List.mem_map.mpr ⟨m, (d.2 m).mpr hm, rfl⟩) x y e
theorem due_same (w : Wf R) (M : Meets R) (d : IsDue R ds) : (∀ t, left (lrules R ds) t = left R t) ∧ Meets (lrules R ds) := by
  refine same_left w M (due_wf w M d) (fun t h => (due_end w d t).mpr h) fun r hr => ?_
  obtain ⟨l, hl, rfl⟩ := List.mem_map.mp hr
  exact (left_of_end (left_end w l)).symm
theorem lrules_nodup (h : Asc ds) : (lrules R ds).Nodup := by
  unfold lrules
  rw [List.Nodup, List.pairwise_map]
  refine h.imp fun {a b} z e => ?_
  have : a = b := congrArg Prod.fst e
  subst this
  rw [keyLt_irrefl] at z
  cases z
/-- without its rule the left side is an end -/
theorem due_needed (d : IsDue R ds) {k : Nat} {l : T} (h : ds[k]? = some l) {N : List Rule} (hN : ∀ r ∈ N, ∃ j, j ≠ k ∧ ds[j]? = some r.1) : left N l = l := by
  refine left_of_end (isEnd_iff.mpr fun r hr x y e => ?_)
  obtain ⟨j, hj, hr1⟩ := hN r hr
  have hne : r.1 ≠ l := by
    intro z
    rw [z] at hr1
    have nd : ds.Nodup := d.1.imp fun {a b} q e => by rw [e, keyLt_irrefl] at q; cases q
    obtain ⟨h1, h2⟩ := List.getElem?_eq_some_iff.mp h
    obtain ⟨h3, h4⟩ := List.getElem?_eq_some_iff.mp hr1
    exact hj ((List.getElem_inj nd).mp (h4.trans h2.symm))
  have hm := (d.2 l).mp (List.mem_of_getElem? h)
  exact ((d.2 r.1).mp (List.mem_of_getElem? hr1)).1 (hm.2 x r.1 y e hne)
end
/-- rules more that change no end -/
theorem more_same {R N : List Rule} (w : Wf R) (M : Meets R) (h1 : ∀ r ∈ R, r ∈ N) (h2 : ∀ r ∈ N, r ∈ R ∨ (left R r.1 = r.2 ∧ r.2.length < r.1.length ∧ r.2.length ≤ 1)) :
    Wf N ∧ (∀ t, IsEnd R t ↔ IsEnd N t) ∧ (∀ t, left N t = left R t) ∧ Meets N := by
  have wN : Wf N := fun r hr => by
    rcases h2 r hr with q | ⟨_, q⟩
    · exact w r q
    · exact q
  have say : AllSay R N := fun r hr => by
    rcases h2 r hr with q | ⟨q, _⟩
    · refine left_eq w M ?_
      have := Step.mk (R := R) [] [] r q
      simp at this
      exact .step this (.refl _)
    · rw [← q, left_of_end (left_end w r.1)]
  have e1 : ∀ t, IsEnd N t → IsEnd R t := fun t h => isEnd_iff.mpr fun r hr x y e => isEnd_iff.mp h r (h1 r hr) x y e
  obtain ⟨s1, s2⟩ := same_left w M wN e1 say
  refine ⟨wN, fun t => ⟨fun h => ?_, e1 t⟩, s1, s2⟩
  refine isEnd_iff.mpr fun r hr x y e => ?_
  rcases h2 r hr with q | ⟨q, ql, _⟩
  · exact isEnd_iff.mp h r q x y e
  · have hp : IsEnd R r.1 := by
      rw [e] at h
      exact h.infix
    rw [left_of_end hp] at q
    rw [q] at ql
    omega
end Bk
set_option Elab.async false
set_option linter.all false
set_option maxRecDepth 100000
set_option maxHeartbeats 4000000
namespace Sh
open PySem PySem.Spec PyProof.Rows L2
open SX (S S_inj S_len S_cat)
open Bk (Rule firstAt lg bestUp used left drain pushS Wf quarrel Meets keyLt IsDue lrules MinRed Ins Asc)
local macro_rules | `(tactic| walk_at "nx") => `(tactic| repeat (with_reducible first | refine Sh.gn_mk ?_ | refine Sh.nx_mk ?_ | refine Sh.st_nx ?_ | refine Sh.rt_mk ?_ | refine Sh.ct_mk ?_ | refine Sh.bk_mk ?_))
local macro_rules | `(tactic| walk_at "sq") => `(tactic| first | exact SqL.of upd_same | exact SqT.of upd_same | exact SqL.of (by assumption) | exact SqT.of (by assumption) | assumption | exact Or.inl (SqL.of (by assumption)) | exact Or.inr (SqT.of (by assumption)) | exact Or.inl (by assumption) | exact Or.inr (by assumption))
local macro_rules | `(tactic| walk_at "hp") => `(tactic| first | exact upd_same | assumption)
local macro_rules | `(tactic| walk_at "sz") => `(tactic| first | exact Nat.le_of_ble_eq_true rfl | omega)
local macro_rules | `(tactic| walk_at "sd") => `(tactic| first | omega | exact rfl | assumption | (show (0 : Int) < _; omega) | exact And.intro (by omega) (by omega) | exact Or.inl (And.intro (by omega) (by omega)) | exact Or.inr (And.intro (by omega) (by omega)) | omega | exact Sh.sz_S (by omega) | decide)
local macro_rules | `(tactic| walk_at "rd1") => `(tactic| first
  | (with_reducible first | refine Sh.gn_mk ?_ | refine Sh.nx_mk ?_ | refine Sh.st_nx ?_ | refine Sh.rt_mk ?_ | refine Sh.ct_mk ?_ | refine Sh.bk_mk ?_)
  | refine Exists.intro (α := V) _ (And.intro rfl ?_)
  | refine Exists.intro (α := Bool) _ (And.intro rfl ?_)
  | refine Exists.intro (α := Int) _ (And.intro rfl ?_)
  | refine Exists.intro (α := PySem.Str) _ (And.intro rfl ?_)
  | refine Exists.intro (α := Int) _ (Exists.intro (α := Int) _ (And.intro rfl (And.intro rfl ?_)))
  | refine Exists.intro (α := PySem.Str) _ (Exists.intro (α := PySem.Str) _ (And.intro rfl (And.intro rfl ?_)))
  | refine Exists.intro (α := Int) _ (Exists.intro (α := Int) _ (And.intro rfl ?_))
  | refine Or.inl (Exists.intro (α := Int) _ (And.intro rfl ?_))
  | refine Exists.intro _ (Exists.intro _ (Exists.intro _ (Exists.intro _ (And.intro rfl (And.intro rfl (And.intro (by walk_at "sq") (And.intro rfl ?_)))))))
  | refine Exists.intro _ (Exists.intro _ (Exists.intro _ (Exists.intro _ (And.intro rfl (And.intro rfl (And.intro (by walk_at "hp") (And.intro rfl ?_)))))))
  | refine And.intro (by walk_at "sd") ?_
  )
local macro_rules | `(tactic| walk_at "rd") => `(tactic| repeat walk_at "rd1")
local macro_rules | `(tactic| walk_at "lk") => `(tactic| first | exact rfl | (rw [lookup_putF, if_pos rfl]) | (rw [lookup_putF, if_neg (by decide +kernel)]; walk_at "lk"))

theorem reach_charsB {sg : List Nat} {R : List Rule} (h : ∀ r ∈ R, RuleOk sg 4 r) {t u : List Nat} (s : Bk.Reach R t u) : (∀ c ∈ t, c ∈ sg) → ∀ c ∈ u, c ∈ sg := by
  induction s with
  | refl => exact id
  | step x _ ih =>
    intro ht
    refine ih ?_
    cases x with
    | mk x y r hr =>
      intro c hc
      rcases List.mem_append.mp hc with z | z
      · rcases List.mem_append.mp z with z | z
        · exact ht c (List.mem_append_left _ (List.mem_append_left _ z))
        · exact (h r hr).2.2.2.1 c z
      · exact ht c (List.mem_append_right _ z)
/-! ### a dict whose keys are texts -/
def setK (ls : List (List Nat)) : List (Key × V) := ls.map fun l => ((Sum.inr (S l) : Key), V.bl true)
theorem setK_val (ls : List (List Nat)) (l : List Nat) : valV (setK ls) (Sum.inr (S l) : Key) = if l ∈ ls then some (.bl true) else none := by
  induction ls with
  | nil => rfl
  | cons x ls ih =>
    by_cases e : x = l
    · subst e
      rw [if_pos List.mem_cons_self]
      exact valV_pos (p := ((Sum.inr (S x) : Key), V.bl true)) rfl
    · have e2 : ¬ (Sum.inr (S x) : Key) = Sum.inr (S l) := fun z => e (S_inj (Sum.inr.inj z))
      have : valV (setK (x :: ls)) (Sum.inr (S l) : Key) = valV (setK ls) (Sum.inr (S l) : Key) := valV_neg (p := ((Sum.inr (S x) : Key), V.bl true)) e2
      rw [this, ih]
      by_cases m : l ∈ ls
      · rw [if_pos m, if_pos (List.mem_cons_of_mem _ m)]
      · rw [if_neg m, if_neg (fun z => (List.mem_cons.mp z).elim (fun q => e q.symm) m)]
def addL (ls : List (List Nat)) (l : List Nat) : List (List Nat) := if l ∈ ls then ls else ls ++ [l]
theorem setK_put (ls : List (List Nat)) (l : List Nat) : putK (setK ls) (Sum.inr (S l) : Key) (.bl true) = setK (addL ls l) := by
  unfold addL
  by_cases m : l ∈ ls
  · rw [if_pos m]
    unfold putK
    have h := setK_val ls l
    rw [if_pos m] at h
    rw [valV_any, h]
    rw [if_pos (show (some (V.bl true)).isSome = true from rfl)]
    unfold setK
    rw [List.map_map]
    refine List.map_congr_left fun x _ => ?_
    show (if (Sum.inr (S x) : Key) = Sum.inr (S l) then ((Sum.inr (S x) : Key), V.bl true) else ((Sum.inr (S x) : Key), V.bl true)) = _
    split <;> rfl
  · rw [if_neg m, putK_new _ (by rw [setK_val, if_neg m])]
    unfold setK
    rw [List.map_append]
    rfl
def dl (R : List Rule) : List (List Nat) := R.foldl (fun ls r => addL ls r.1) []
theorem dl_snoc (R : List Rule) (r : Rule) : dl (R ++ [r]) = addL (dl R) r.1 := by
  unfold dl
  rw [List.foldl_append]
  rfl
theorem mem_addL {ls : List (List Nat)} {l x : List Nat} : x ∈ addL ls l ↔ x ∈ ls ∨ x = l := by
  unfold addL
  split
  · next h => exact ⟨.inl, fun z => z.elim id fun e => e ▸ h⟩
  · simp
theorem addL_nodup {ls : List (List Nat)} {l : List Nat} (h : ls.Nodup) : (addL ls l).Nodup := by
  unfold addL
  split
  · exact h
  · next hn =>
    rw [List.nodup_append]
    refine ⟨h, by simp, fun x hx y hy => ?_⟩
    have : y = l := by simpa using hy
    subst this
    intro e
    exact hn (e ▸ hx)
theorem addL_len (ls : List (List Nat)) (l : List Nat) : (addL ls l).length ≤ ls.length + 1 := by
  unfold addL
  split <;> simp
theorem dl_all (R : List Rule) : (dl R).Nodup ∧ (dl R).length ≤ R.length ∧ ∀ l, l ∈ dl R ↔ ∃ r ∈ R, r.1 = l := by
  have key : ∀ n, ∀ R : List Rule, R.length = n → (dl R).Nodup ∧ (dl R).length ≤ R.length ∧ ∀ l, l ∈ dl R ↔ ∃ r ∈ R, r.1 = l := by
    intro n
    induction n with
    | zero =>
      intro R h
      have : R = [] := List.eq_nil_of_length_eq_zero h
      subst this
      exact ⟨List.nodup_nil, Nat.le_refl _, fun l => ⟨fun z => (by cases z), fun ⟨r, hr, _⟩ => (by cases hr)⟩⟩
    | succ n ih =>
      intro R h
      obtain ⟨R0, r, rfl⟩ : ∃ R0 r, R = R0 ++ [r] := ⟨R.dropLast, R.getLast (by intro e; rw [e] at h; cases h), (List.dropLast_concat_getLast _).symm⟩
      obtain ⟨h1, h2, h3⟩ := ih R0 (by simp at h; exact h)
      rw [dl_snoc]
      refine ⟨addL_nodup h1, ?_, fun l => ?_⟩
      · have := addL_len (dl R0) r.1
        simp
        omega
      · rw [mem_addL, h3]
        constructor
        · rintro (⟨q, hq, e⟩ | e)
          · exact ⟨q, List.mem_append_left _ hq, e⟩
          · exact ⟨r, by simp, e.symm⟩
        · rintro ⟨q, hq, e⟩
          rcases List.mem_append.mp hq with z | z
          · exact .inl ⟨q, z, e⟩
          · have : q = r := by simpa using z
            subst this
            exact .inr e.symm
  exact key _ R rfl
/-- a proper piece of l is among them -/
def insB (ls : List (List Nat)) (l : List Nat) : Bool := (List.range l.length).any fun s => (List.range (l.length - s)).any fun d => decide (d + 1 < l.length) && decide ((l.drop s).take (d + 1) ∈ ls)
theorem insB_iff {R : List Rule} (hw : Wf R) {l : List Nat} : insB (dl R) l = true ↔ Ins R l := by
  unfold insB Ins
  simp only [List.any_eq_true, List.mem_range, Bool.and_eq_true, decide_eq_true_eq]
  constructor
  · rintro ⟨s, hs, d, hd, h1, h2⟩
    obtain ⟨r, hr, e⟩ := ((dl_all R).2.2 _).mp h2
    refine ⟨l.take s, (l.drop s).take (d + 1), l.drop (s + (d + 1)), ?_, ?_, r, hr, e⟩
    · rw [List.append_assoc, ← List.drop_drop, List.take_append_drop, List.take_append_drop]
    · intro z
      have := congrArg List.length z
      simp at this
      omega
  · rintro ⟨x, m, y, e, hm, r, hr, er⟩
    have hl := congrArg List.length e
    simp at hl
    have hm1 : 1 ≤ m.length := by
      have := (hw r hr).1
      rw [er] at this
      omega
    have hlt : m.length < l.length := by
      rcases Nat.lt_or_ge m.length l.length with q | q
      · exact q
      · exfalso
        have : x = [] ∧ y = [] := by
          refine ⟨?_, ?_⟩ <;> (apply List.eq_nil_of_length_eq_zero; omega)
        obtain ⟨rfl, rfl⟩ := this
        exact hm (by simpa using e.symm)
    refine ⟨x.length, by omega, m.length - 1, by omega, by omega, ?_⟩
    rw [show m.length - 1 + 1 = m.length by omega]
    have : (l.drop x.length).take m.length = m := by
      rw [e, List.append_assoc, List.drop_left, List.take_left]
    rw [this]
    exact ((dl_all R).2.2 m).mpr ⟨r, hr, er⟩
/-! ### what texts are sorted by -/
def gKey (l : List Nat) : List V := [.int (l.length : Nat), .str (S l)]
theorem gKey_same (a b : List Nat) : sameKs (gKey a) (gKey b) = true := rfl
theorem gKey_head (a : List Nat) : Head "int" (gKey a) := ⟨_, _, rfl, .int _⟩
theorem gKey_lt (a b : List Nat) : cLt (gKey a) (gKey b) = keyLt a b := by
  rw [← tup_cLt (gKey_same a b)]
  exact key_lt a b
theorem keyLt_tot {a b : List Nat} (h : keyLt b a = false) (n : a ≠ b) : keyLt a b = true := by
  unfold keyLt at *
  by_cases e : b.length = a.length
  · rw [if_pos e] at h
    rw [if_pos e.symm]
    have h' := of_decide_eq_false h
    refine decide_eq_true ?_
    refine Classical.byContradiction fun z => n ?_
    exact List.le_antisymm (List.not_lt.mp h') (List.not_lt.mp z)
  · rw [if_neg e] at h
    rw [if_neg (Ne.symm e)]
    have h' := of_decide_eq_false h
    exact decide_eq_true (by omega)
theorem asc_of {l : List (List Nat)} (nd : l.Nodup) (h : l.Pairwise fun y z => cLt (gKey z) (gKey y) = false) : Asc l := by
  have h2 : l.Pairwise fun y z => y ≠ z ∧ cLt (gKey z) (gKey y) = false := List.pairwise_and_iff.mpr ⟨nd, h⟩
  refine h2.imp fun {a b} ⟨n, c⟩ => ?_
  rw [gKey_lt] at c
  exact keyLt_tot c n
/-- the left sides that are kept, sorted -/
theorem due_of {R : List Rule} (hw : Wf R) {ds : List (List Nat)} (p : ds.Perm ((dl R).filter fun l => !insB (dl R) l)) (h : ds.Pairwise fun y z => cLt (gKey z) (gKey y) = false) : IsDue R ds := by
  refine ⟨asc_of (p.nodup_iff.mpr ((dl_all R).1.filter _)) h, fun l => ?_⟩
  rw [p.mem_iff, List.mem_filter, (dl_all R).2.2, ← Bk.minRed_iff, ← insB_iff hw]
  simp
section
variable {P : Program} {w : World} {K : PySem.W.Frag} {mg : Str → Option Value} {base : Heap} {CB CE : Addr}
/-- a comprehension over such a dict -/
theorem lc_setK {d : Addr} {o : Obj} {ls : List (List Nat)} {g : TG} {tt : TT} {te : TE} {vs : List Nat} {σ : L2.St} {H1 : Hp} {D : Addr} {Qd : Hp → Prop}
    (Pv : List (List Nat) → Hp → Prop) (h0 : Pv [] (upd H1 D (.lst []))) (hG : ∀ pre H, Pv pre H → H d = some (.frz o (.dK (setK ls))))
    (hs : ∀ pre k post H, ls = pre ++ k :: post → Pv pre H → g (.str (S k)) (wipe σ vs) H fun σ2 H2 => wipe σ2 vs = wipe σ vs ∧ tt σ2 H2 fun b H3 =>
      if b = true then te σ2 H3 fun y' H4 => ∃ acc, H4 D = some (.lst acc) ∧ acc.length < sizeLine ∧ Pv (pre ++ [k]) (upd H4 D (.lst (acc ++ [y']))) else Pv (pre ++ [k]) H3) (hd : ∀ H, Pv ls H → Qd H) :
    ∃ W : Nat → Nat → Hp → Prop, (∃ m, W 0 m (upd H1 D (.lst []))) ∧ ∀ i m H, W i m H →
      ((Itk d o (setK ls)).stop i H ∧ Qd H) ∨ ((Itk d o (setK ls)).go i H ∧ ∃ Nx : Hp → Prop, (∀ H', Nx H' → ∃ m', m' < m ∧ W (i + 1) m' H') ∧ ∀ x H', (Itk d o (setK ls)).yld i H x H' → g x (wipe σ vs) H' fun σ2 H2 => wipe σ2 vs = wipe σ vs ∧ tt σ2 H2 fun b H3 =>
        if b = true then te σ2 H3 fun y H4 => ∃ acc, H4 D = some (.lst acc) ∧ acc.length < sizeLine ∧ Nx (upd H4 D (.lst (acc ++ [y]))) else Nx H3) := by
  have w := walk_keys (d := d) (o := o) (kvs := setK ls)
  refine lc_it w (fun i H => Pv (ls.take i) H) (by simpa using h0) (fun i H _ p => hG _ H p) (fun i x H H' hi p y => ?_) (fun H p => hd H (by rw [List.take_of_length_le (by simp [setK])] at p; exact p))
  obtain ⟨rfl, k, v, hk, rfl⟩ := y
  unfold setK at hk
  rw [List.getElem?_map] at hk
  cases hl : ls[i]? with
  | none => rw [hl] at hk; cases hk
  | some l =>
    rw [hl] at hk
    cases hk
    obtain ⟨e1, e2⟩ := take_succ_of hl
    have q := hs _ l _ H' e2 p
    rw [← e1] at q
    exact q
theorem lc_lst {α : Type} {f : α → V} {l : List α} {a : Addr} {g : TG} {tt : TT} {te : TE} {vs : List Nat} {σ : L2.St} {H1 : Hp} {D : Addr} {Qd : Hp → Prop}
    (Pv : List α → Hp → Prop) (h0 : Pv [] (upd H1 D (.lst []))) (hG : ∀ pre H, Pv pre H → SqL K H a (l.map f))
    (hs : ∀ pre x post H, l = pre ++ x :: post → Pv pre H → g (f x) (wipe σ vs) H fun σ2 H2 => wipe σ2 vs = wipe σ vs ∧ tt σ2 H2 fun b H3 =>
      if b = true then te σ2 H3 fun y' H4 => ∃ acc, H4 D = some (.lst acc) ∧ acc.length < sizeLine ∧ Pv (pre ++ [x]) (upd H4 D (.lst (acc ++ [y']))) else Pv (pre ++ [x]) H3) (hd : ∀ H, Pv l H → Qd H) :
    ∃ W : Nat → Nat → Hp → Prop, (∃ m, W 0 m (upd H1 D (.lst []))) ∧ ∀ i m H, W i m H →
      ((Itl K a).stop i H ∧ Qd H) ∨ ((Itl K a).go i H ∧ ∃ Nx : Hp → Prop, (∀ H', Nx H' → ∃ m', m' < m ∧ W (i + 1) m' H') ∧ ∀ x H', (Itl K a).yld i H x H' → g x (wipe σ vs) H' fun σ2 H2 => wipe σ2 vs = wipe σ vs ∧ tt σ2 H2 fun b H3 =>
        if b = true then te σ2 H3 fun y H4 => ∃ acc, H4 D = some (.lst acc) ∧ acc.length < sizeLine ∧ Nx (upd H4 D (.lst (acc ++ [y]))) else Nx H3) := by
  have w := walk_list (K := K) (a := a) (xs := l.map f)
  rw [List.length_map] at w
  refine lc_pre w (fun x v _ => v = f x) (fun i H x H' hi _ y => rList i H x H' hi trivial y) Pv h0 hG (fun pre x post v H e r p => ?_) hd
  subst r
  exact hs pre x post H e p
def spInside : Sp := fun vs H Q _ => ∃ (p : Addr) (ls : List (List Nat)) (l : List Nat), vs = [.ref p, .str (S l)] ∧ Rd H p (.dK (setK ls)) ∧ l.length ≤ 8 ∧ Q (.bl (insB ls l)) H
theorem insB_false {ls : List (List Nat)} {l : List Nat} : insB ls l = false ↔ ∀ s d, s + d + 1 ≤ l.length → d + 1 < l.length → (l.drop s).take (d + 1) ∉ ls := by
  unfold insB
  simp only [List.any_eq_false, List.mem_range, Bool.not_eq_true, Bool.and_eq_false_iff, decide_eq_false_iff_not, List.any_eq_false]
  constructor
  · intro h s d h1 h2 h3
    rcases h s (by omega) d (by omega) with z | z
    · exact z h2
    · exact z h3
  · intro h s hs d hd
    by_cases c : d + 1 < l.length
    · exact .inr (h s d (by omega) c)
    · exact .inl c
theorem insB_true {ls : List (List Nat)} {l : List Nat} {s d : Nat} (h1 : s + d + 1 ≤ l.length) (h2 : d + 1 < l.length) (h3 : (l.drop s).take (d + 1) ∈ ls) : insB ls l = true := by
  cases e : insB ls l with
  | true => rfl
  | false => exact absurd h3 (insB_false.mp e s d h1 h2)
theorem c_has_left_inside (T : Txt K mg) : Cal P w K mg base CX0 1 "has_left_inside" spInside := by
  refine Cal.mk0 T.d_has_left_inside sc_has_left_inside (fun vs H Q E h => ?_) (fun f cdv A outer s H vs Q E hr h => ?_)
  · obtain ⟨p, ls, l, rfl, _⟩ := h
    rfl
  · obtain ⟨p, ls, l, rfl, hD, hl, k⟩ := h
    have hu := hu_of hr
    have hSl := S_len l
    refine ⟨_, (pss_cons (ps_for PassesOwn.never rfl (pi_range1 (by rfl) T.b_range (pa_cons (pe_callB call_len_str (by rfl) T.b_len (by decide +kernel) (pa_cons (pv 1) pa_nil)) pa_nil)) (pg_name (i := 2) sc_has_left_inside.nd rfl (Or.inl rfl))
    (pss_one (ps_for PassesOwn.never rfl (pi_range2 (by rfl) T.b_range (pa_cons (pe_op op_add (pv 2) pe_int) (pa_cons (pe_op op_add (pe_callB call_len_str (by rfl) T.b_len (by decide +kernel) (pa_cons (pv 1) pa_nil)) pe_int) pa_nil))) (pg_name (i := 3) sc_has_left_inside.nd rfl (Or.inl rfl))
      (pss_one (ps_if (PW.pt (pw_and (pt_cmpR op_lt (pe_op op_sub (pv 3) (pv 2)) (pe_callB call_len_str (by rfl) T.b_len (by decide +kernel) (pa_cons (pv 1) pa_nil)) (nomark _)) (pw_and1 (pt_cmp (pc_din hu (pe_slice sl_str (pv 1) (po_some (pv 2)) (po_some (pv 3))) (pv 0))))))
        (pss_one (ps_ret pe_bl))
        pss_nil)))))
  (pss_one (ps_ret pe_bl))), ?_⟩
    walk_at "rd"
    refine for_range (lo := 0) (n := (((S l).length : Int)).toNat) (fun i σ H2 => ∃ (v2 v3 : Option V), σ = [some (.ref p), some (.str (S l)), v2, v3] ∧ H2 = H ∧ ∀ s d, s < i → s + d + 1 ≤ l.length → d + 1 < l.length → (l.drop s).take (d + 1) ∉ ls)
      ⟨_, _, rfl, rfl, fun s d h => (by omega)⟩ ?_ ?_
    · rintro i σ H2 hi ⟨v2, v3, rfl, rfl, hn⟩
      rw [Int.zero_add]
      walk_at "rd"
      refine for_range (lo := ((i : Nat) : Int) + 1) (n := ((((S l).length : Nat) : Int) + 1 - (((i : Nat) : Int) + 1)).toNat) (fun j σ H3 => ∃ (v3 : Option V), σ = [some (.ref p), some (.str (S l)), some (.int (i : Nat)), v3] ∧ H3 = H2 ∧ ∀ d, d < j → d + 1 < l.length → (l.drop i).take (d + 1) ∉ ls)
        ⟨_, rfl, rfl, fun d h => (by omega)⟩ ?_ ?_
      · rintro j σ H3 hj ⟨v3, rfl, rfl, hm⟩
        have hj2 : i + j + 1 ≤ l.length := by omega
        walk_at "nx"
        refine if_K (decide (j + 1 < l.length) && decide ((l.drop i).take (j + 1) ∈ ls)) (fun Q' hQ => ?_) (fun hb => ?_) (fun hb => ?_)
        · walk_at "rd"
          by_cases c : j + 1 < l.length
          · rw [decide_eq_true c, Bool.true_and] at hQ
            rw [decide_eq_true (show ((i : Nat) : Int) + 1 + (j : Nat) - (i : Nat) < ((S l).length : Nat) by rw [hSl]; omega)]
            refine iteT ?_
            refine ⟨_, rfl, _, rfl, _, rfl, _, rfl, _, rfl, _, rfl, sz_S (t := l) (by omega), ?_⟩
            rw [cut_mid (by omega) (by omega), show ((i : Nat) : Int).toNat = i by omega, show (((i : Nat) : Int) + 1 + (j : Nat)).toNat - i = j + 1 by omega]
            refine ⟨_, rfl, p, _, rfl, .inl ⟨_, (Sum.inr (S ((l.drop i).take (j + 1))) : Key), hD, rfl, rfl⟩, _, rfl, ?_⟩
            rw [setK_val]
            by_cases m : (l.drop i).take (j + 1) ∈ ls
            · rw [if_pos m]
              rw [decide_eq_true m] at hQ
              exact hQ
            · rw [if_neg m]
              rw [decide_eq_false m] at hQ
              exact hQ
          · rw [decide_eq_false c, Bool.false_and] at hQ
            rw [decide_eq_false (show ¬ ((i : Nat) : Int) + 1 + (j : Nat) - (i : Nat) < ((S l).length : Nat) by rw [hSl]; omega)]
            refine iteF ?_
            exact hQ
        · rw [Bool.and_eq_true, decide_eq_true_eq, decide_eq_true_eq] at hb
          walk_at "rd"
          have := insB_true hj2 hb.1 hb.2
          rw [this] at k
          exact k
        · walk_at "nx"
          refine ⟨_, rfl, rfl, fun d hd h1 => ?_⟩
          by_cases e : d = j
          · subst e
            rw [decide_eq_true h1, Bool.true_and] at hb
            exact of_decide_eq_false hb
          · exact hm d (by omega) h1
      · rintro σ H3 ⟨v3, rfl, rfl, hm⟩
        walk_at "nx"
        refine ⟨_, _, rfl, rfl, fun s d hs h1 h2 => ?_⟩
        by_cases e : s = i
        · subst e
          exact hm d (by omega) h2
        · exact hn s d (by omega) h1 h2
    · rintro σ H2 ⟨v2, v3, rfl, rfl, hn⟩
      walk_at "rd"
      have : insB ls l = false := insB_false.mpr fun s d h1 h2 => hn s d (by omega) h1 h2
      rw [this] at k
      exact k
def spLeastRules (K : PySem.W.Frag) (C : Addr) : Sp := fun vs H Q _ => ∃ (p : Addr) (sg : List Nat) (R : List Rule), vs = [.ref p] ∧ BookAt K C H p sg R ∧ BookOk sg R ∧
  ∀ (q : Addr) (ys : List V) (ds : List (List Nat)) (H' : Hp), IsDue R ds → ds.length ≤ R.length → Same H H' → RulesAt K H' q ys (lrules R ds) → Q (.ref q) H'
theorem c_least_rules (T : TxtC K mg CB) : Cal P w K mg base CX0 4 "least_rules" (spLeastRules K CB) := by
  have c_text_key := c_text_key (P := P) (w := w) (base := base) T.toTxt
  have c_rest_of := c_rest_of (P := P) (w := w) (base := base) T
  have c_has_left_inside := c_has_left_inside (P := P) (w := w) (base := base) T.toTxt
  refine Cal.mk0 T.d_least_rules sc_least_rules (fun vs H Q E h => ?_) (fun f cdv A outer s H vs Q E hr h => ?_)
  · obtain ⟨p, sg, R, rfl, _⟩ := h
    rfl
  · obtain ⟨p, sg, R, rfl, B, hB, k⟩ := h
    obtain ⟨dx, fs, a, xs, pl, hp, g1, g2, hR, _⟩ := id B
    have cl := T.k_Book.cl
    have hw := hB.wf
    have hl := hB.2.1
    have h4 : ∀ r ∈ R, r.1.length ≤ 4 := fun r m => (hB.2.2.1 r m).2.1
    obtain ⟨dn, dlen, dm⟩ := dl_all R
    have d4 : ∀ l ∈ dl R, l.length ≤ 4 := fun l m => by
      obtain ⟨r, hr, e⟩ := (dm l).mp m
      rw [← e]
      exact h4 r hr
    refine ⟨_, (pss_cons (ps_set (i := 1) sc_least_rules.nd rfl (Or.inr rfl) (pe_dc (own := [("rule", 3)]) (g := gName 3) (tt := tYes) rfl sc_least_rules.nd (pi_tup (pe_fld (pv 0) rfl)) (blkOk_by (N := ["book", "lefts", "kept", "rule", "left", "key"]) (sc := defScope s_least_rules) (by decide +kernel)) (fun _ _ _ _ _ => (pg_name (i := 3) sc_least_rules.nd rfl (Or.inl rfl))) (fun _ _ _ _ _ => pts_nil) (fun _ _ _ _ _ => (pe_ix ix_tupB (pv 3) pe_int (fun _ _ => rfl))) (fun _ _ _ _ _ => pe_bl)))
  (pss_cons (ps_set (i := 2) sc_least_rules.nd rfl (Or.inl rfl) (pe_callB cr_sortM (by rfl) T.b_sorted (by decide +kernel) (pa_cons (pe_lock (pe_lc (own := [("left", 4)]) (g := gName 4) rfl sc_least_rules.nd (pi_keys (pv 1)) (blkOk_by (N := ["book", "lefts", "kept", "rule", "left", "key"]) (sc := defScope s_least_rules) (by decide +kernel)) (fun _ _ _ _ _ => (pg_name (i := 4) sc_least_rules.nd rfl (Or.inl rfl))) (fun _ _ _ _ _ => (pts_one (pt_not (pt_val (pe_c c_has_left_inside hr (by decide) rfl (pa_cons (pv 1) (pa_cons (pv 4) pa_nil))))))) (fun _ _ _ _ _ => (pe_c c_text_key hr (by decide) rfl (pa_cons (pv 4) pa_nil))))) pa_nil)))
  (pss_one (ps_ret (pe_callTy call_tuple_of (by rfl) T.b_tuple (by decide +kernel) (pa_cons (pe_lc (own := [("key", 5)]) (g := gName 5) (tt := tYes) rfl sc_least_rules.nd (pi_list (pv 2)) (blkOk_by (N := ["book", "lefts", "kept", "rule", "left", "key"]) (sc := defScope s_least_rules) (by decide +kernel)) (fun _ _ _ _ _ => (pg_name (i := 5) sc_least_rules.nd rfl (Or.inl rfl))) (fun _ _ _ _ _ => pts_nil) (fun _ _ _ _ _ => (pe_tup (pa_cons (pe_ix ix_tupB (pv 5) pe_int (fun _ _ => rfl)) (pa_cons (pe_c c_rest_of hr (by decide) rfl (pa_cons (pv 0) (pa_cons (pe_ix ix_tupB (pv 5) pe_int (fun _ _ => rfl)) pa_nil))) pa_nil))))) pa_nil)))))), ?_⟩
    refine ⟨_, rfl, p, CB, dx, fs, _, rfl, hp, cl, T.n_Book_rules, g2, a, rfl, ⟨_, hR.sq⟩, fun D hD => dc_tupR (K := K) (a := a) (xs := xs) (l := R) (Rel := RItem K) hR.len (fun pre H3 => H3 D = some (.dK (setK (dl pre))) ∧ Same H H3) ⟨upd_same, same_new hD⟩
      (fun pre H3 ⟨_, s3⟩ => ⟨(hR.same s3).sq, (hR.same s3).it⟩) ?_ ?_⟩
    · rintro pre r post x H3 e hx ⟨q, rfl, sq⟩ ⟨h3, s3⟩
      have hpl : pre.length + 1 ≤ 64 := by
        have := congrArg List.length e
        simp at this
        omega
      refine ⟨rfl, ty_T ?_⟩
      refine ⟨_, rfl, q, _, 0, .str (S r.1), rfl, rfl, sq, rfl, ?_⟩
      refine ⟨setK (dl pre), (Sum.inr (S r.1) : Key), rfl, h3, ?_, ?_, same_mut s3 hD⟩
      · have := (dl_all pre).2.1
        unfold setK
        rw [List.length_map]
        exact Nat.lt_of_le_of_lt (m := 64) (by omega) (by decide)
      · rw [upd_same, setK_put, dl_snoc]
    · rintro H2 ⟨h2, s2⟩
      walk_at "nx"
      refine ⟨D, _, h2, trivial, fun od => ?_⟩
      have hfz : (upd H2 D (.frz od (.dK (setK (dl R))))) D = some (.frz od (.dK (setK (dl R)))) := upd_same
      refine ⟨_, rfl, D, od, rfl, .inl ⟨_, hfz, fun D3 hD3 => lc_setK (d := D) (o := od) (ls := dl R) (fun pre H3 => ∃ acc, H3 D3 = some (.lst acc) ∧ Items (TupAt gKey) H3 acc (pre.filter fun l => !insB (dl R) l) ∧ Same (upd H2 D (.frz od (.dK (setK (dl R))))) H3) ⟨[], upd_same, Items.nil, same_new hD3⟩
        (fun pre H3 ⟨_, _, _, s3⟩ => s3 _ _ hfz) ?_ ?_⟩⟩
      · rintro pre l post H3 e ⟨acc, h3, ita, s3⟩
        have hl4 := d4 l (by rw [e]; simp)
        have hpl : pre.length + 1 ≤ 64 := by
          have := congrArg List.length e
          simp at this
          omega
        refine ⟨rfl, ?_⟩
        refine ⟨_, rfl, _, rfl, D, dl R, l, rfl, .inr ⟨od, s3 _ _ hfz⟩, by omega, _, rfl, ?_⟩
        rw [List.filter_append]
        cases hi : insB (dl R) l with
        | true =>
          refine iteF ?_
          refine ⟨acc, h3, ?_, s3⟩
          rw [show ([l].filter fun l => !insB (dl R) l) = [] by simp [hi], List.append_nil]
          exact ita
        | false =>
          refine iteT ?_
          refine ⟨_, rfl, l, rfl, by omega, fun pt hpt => ?_⟩
          have s4 := same_new (o := .tup [.int (l.length : Nat), .str (S l)]) hpt
          have hne : ∀ q0 ks, (upd H3 pt (.tup [.int (l.length : Nat), .str (S l)])) q0 = some (.tup ks) → ∀ acc', upd (upd H3 pt (.tup [.int (l.length : Nat), .str (S l)])) D3 (.lst acc') q0 = some (.tup ks) := fun q0 ks e0 acc' => by
            rw [upd_ne (ne_of e0 (s4 _ _ h3) (by intro z; cases z))]
            exact e0
          have hal : acc.length ≤ pre.length := by rw [ita.1]; exact List.length_filter_le _ _
          refine ⟨_, s4 _ _ h3, Nat.lt_of_le_of_lt (m := 64) (by omega) (by decide), _, upd_same, ?_, same_mut (s3.trans s4) hD3⟩
          rw [show ([l].filter fun l => !insB (dl R) l) = [l] by simp [hi]]
          exact ita.snoc (fun x y ⟨q0, e0, h0⟩ => ⟨q0, e0, hne q0 _ (s4 _ _ h0) _⟩) ⟨pt, rfl, hne pt _ upd_same _⟩
      · rintro H3 ⟨acc, h3, ita, s3⟩
        refine ⟨s3 _ _ hfz, ?_⟩
        have nD : D3 ≠ D := fun z => by rw [z, hfz] at hD3; cases hD3
        -- the dict is let go
        have s4 : Same H (upd H3 D (.dK (setK (dl R)))) := fun b o e => by
          have nb : b ≠ D := ne_of_none e hD
          rw [upd_ne nb]
          refine s3 _ _ ?_
          rw [upd_ne nb]
          exact s2 _ _ e
        have h34 : (upd H3 D (.dK (setK (dl R)))) D3 = some (.lst acc) := by rw [upd_ne nD]; exact h3
        have it4 : Items (TupAt gKey) (upd H3 D (.dK (setK (dl R)))) acc ((dl R).filter fun l => !insB (dl R) l) := ita.mono fun x y ⟨q0, e0, h0⟩ => ⟨q0, e0, by
          rw [upd_ne (ne_of h0 (s3 _ _ hfz) (by intro z; cases z))]
          exact h0⟩
        generalize upd H3 D (.dK (setK (dl R))) = H4 at s4 h34 it4 ⊢
        refine ⟨List Nat, gKey, "int", D3, acc, _, rfl, SqL.of h34, it4, fun o _ => gKey_head o, fun o _ u _ => gKey_same o u, fun ds ys2 ps H5 pm po hps s5 hps5 it5 => ?_⟩
        have hdue := due_of hw pm po
        have hdl : ds.length ≤ R.length := by
          rw [pm.length_eq]
          exact Nat.le_trans (List.length_filter_le _ _) dlen
        have s05 := s4.trans s5
        walk_at "nx"
        refine ⟨_, rfl, ps, rfl, ⟨_, SqL.of hps5⟩, fun D2 hD2 => lc_lstR (K := K) (a := ps) (xs := ys2) (l := ds) (Rel := TupAt gKey) it5.1 (fun pre H6 => ∃ acc, H6 D2 = some (.lst acc) ∧ Items (RItem K) H6 acc (lrules R pre) ∧ Same H5 H6) ⟨[], upd_same, Items.nil, same_new hD2⟩
          (fun pre H6 ⟨_, _, _, s6⟩ => ⟨SqL.of (s6 _ _ hps5), fun i x y h1 h2 => (it5.2 i x y h1 h2).sm s6⟩) ?_ ?_⟩
        · rintro pre l post x H6 e hx ⟨q, rfl, hq⟩ ⟨acc, h6, ita, s6⟩
          have hl4 : l.length ≤ 4 := by
            have : l ∈ (dl R).filter fun l => !insB (dl R) l := pm.mem_iff.mp (by rw [e]; simp)
            exact d4 l (List.mem_filter.mp this).1
          have hpl : pre.length + 1 ≤ 64 := by
            have := congrArg List.length e
            simp at this
            omega
          refine ⟨rfl, ty_T ?_⟩
          refine ⟨_, rfl, q, _, 1, .str (S l), rfl, rfl, SqT.of hq, rfl, _, rfl, _, rfl, q, _, 1, .str (S l), rfl, rfl, SqT.of hq, rfl, p, sg, l, R, rfl, (B.same s05).same s6, hw, by omega, fun H7 s7 => ?_⟩
          refine ⟨by walk_at "sz", fun pt hpt => ?_⟩
          have s8 := s7.trans (same_new (o := .tup [.str (S l), .str (S (left R l))]) hpt)
          have hk : Keep (upd H7 pt (.tup [.str (S l), .str (S (left R l))])) (upd (upd H7 pt (.tup [.str (S l), .str (S (left R l))])) D2 (.lst (acc ++ [.ref pt]))) := Keep.butL but_upd (s8 _ _ h6)
          have hal : acc.length = pre.length := by rw [ita.1]; simp [lrules]
          refine ⟨_, s8 _ _ h6, Nat.lt_of_le_of_lt (m := 64) (by omega) (by decide), _, upd_same, ?_, same_mut (s6.trans s8) hD2⟩
          rw [show lrules R (pre ++ [l]) = lrules R pre ++ [(l, left R l)] by simp [lrules]]
          exact ita.snoc (fun x y h => (h.sm s8).same hk) (RItem.same (H := upd H7 pt (.tup [.str (S l), .str (S (left R l))])) ⟨pt, rfl, SqT.of upd_same⟩ hk)
        · rintro H6 ⟨acc6, h6, it6, s6⟩
          refine ⟨D2, _, rfl, .inl ⟨SqL.of h6, fun l hl => ?_⟩⟩
          have s7 := same_new (o := .tup acc6) hl
          exact k l acc6 ds _ hdue hdl (s05.trans (s6.trans s7)) ⟨SqT.of upd_same, it6.1, fun i x r h1 h2 => (it6.2 i x r h1 h2).sm s7⟩
end
end Sh
set_option Elab.async false
set_option linter.all false
set_option maxRecDepth 100000
/-! name = {k: v for ..} on one line, the name a local of the def and not of the comprehension -/
namespace L2
open PySem PySem.Spec PyProof.Rows
section
variable {X : Cx}
theorem ps_setDc {i : Nat} {y : Str} {py : Pos} {kx vx tg iter : Expr} {ifs : List Expr} {scope : Scope} {own : List (Str × Nat)} {pos spos : Pos} {wi : TI} {g : TG} {tt : TT} {tk tv : TE} (hc : X.calm = true) (hN : X.N.Nodup) (hy : X.N[i]? = some y) (hyl : X.env.scope.names.lookup y = some .local)
    (hsw : swapsWith (.DictComp kx vx [⟨tg, iter, ifs, 0⟩] scope pos) (some (.Name y py)) spos.line X.env = pure true) (hi : PI X tg iter wi) (ok : BlkOk X.N X.env.scope scope own)
    (hg : ∀ (s : Shared) (H : Hp) (C : Addr) (cl : List (Str × Addr)) (fp : List Addr), PG (X.blk s H scope (compEnvC scope cl C X.env) fp) tg g) (ht : ∀ (s : Shared) (H : Hp) (C : Addr) (cl : List (Str × Addr)) (fp : List Addr), PTs (X.blk s H scope (compEnvC scope cl C X.env) fp) ifs tt)
    (hk : ∀ (s : Shared) (H : Hp) (C : Addr) (cl : List (Str × Addr)) (fp : List Addr), PE (X.blk s H scope (compEnvC scope cl C X.env) fp) kx tk)
    (he : ∀ (s : Shared) (H : Hp) (C : Addr) (cl : List (Str × Addr)) (fp : List Addr), PE (X.blk s H scope (compEnvC scope cl C X.env) fp) vx tv) (hs : ∀ x, foldedSetIterable iter X.env x = pure x := by intro _; rfl) :
    PS X (.Assign [.Name y py] (.DictComp kx vx [⟨tg, iter, ifs, 0⟩] scope pos) spos) (tAsg (tDc wi g tt tk tv (own.map (·.2))) (gName i)) := by
  refine ⟨fun pins s σ H D I h => ?_⟩
  rw [exec_Assign_Name_used _ _ _ _ hsw]
  refine wpAny_bind (wpAny_standAt (wpAny_bind ?_))
  show wpAny _ X.A (do let _ ← comprehension (.DictComp kx vx [⟨tg, iter, ifs, 0⟩] scope pos) scope X.env (firstIterPos [⟨tg, iter, ifs, 0⟩] pos) newDict false (eval iter X.env) (some (assign (.Name y py) X.env))) _ _ s
  have h : tDc wi g tt tk tv (own.map (·.2)) σ H (fun x H1 => gName i x σ H1 D.nx) := h
  refine wpAny_bind (thn (dc_core (Qf := fun _ s' => SP X pins D .next s') hc hN I hi ok hg ht hk he hs h fun L C s' m H' I' q hn f => ?_) fun _ s' hq => wpAny_pure (wpAny_pure hq))
  show wpAny _ _ (assign (.Name y py) X.env (.ref L)) _ _ _
  refine wpAny_assign_Name (store_ok2 (v := V.ref L) I' hN hy (.inl hyl) rfl (fun s2 I2 ⟨a, sb, ha⟩ => ?_) (.inr hyl))
  obtain ⟨f0, f1, f2, f3, f4, f5⟩ := f
  have haC : C ≠ a := by
    rcases ha with z | z
    · rw [z]; exact f1
    · exact fun e => f4 y a z e.symm
  refine ⟨m, hn.sameBut sb haC, fun h3 sb3 => ?_⟩
  exact ⟨_, H', I2.turned (t' := s2.toks) (fun b o hb e => (sb3.2 b hb).trans e) f0 f1 f3 f4 f5, q⟩
/-- a tuple of targets within a comprehension -/
theorem pg_tupB {s : Shared} {H : Hp} {sc : Scope} {ce : Env} {fp : List Addr} {es : List Expr} {k : Nat} {pos : Pos} {t : TGs} {n : Nat} (hc : X.calm = true) (h : PGs (X.blk s H sc ce fp) es t)
    (hn : (assignEach es (X.blk s H sc ce fp).env).length = n := by rfl) (hst : (assignEach es (X.blk s H sc ce fp).env).findIdx? (·.1) = none := by rfl) : PG (X.blk s H sc ce fp) (.Tuple es k pos) (gTup X.K n t) := pg_tup (X := X.blk s H sc ce fp) hc h hn hst
theorem op_in_seqB {s : Shared} {H : Hp} {sc : Scope} {ce : Env} {fp : List Addr} : OpR (X.blk s H sc ce fp) (compareOp .In) (rIn X.K false) := op_in_seq (X := X.blk s H sc ce fp)
theorem sw_trueD {kx vx : Expr} {gs : List Comprehension} {scope : Scope} {pos py : Pos} {y : Str} {l : Nat} {env : Env} (hk : env.scope.kind = .function) (hy : env.scope.names.lookup y = some .local) (hl : (py.line == pos.line) = true)
    (ha : (scope.names.any fun (n, k) => n == y && (k == .local || k == .cell)) = false) : swapsWith (.DictComp kx vx gs scope pos) (some (.Name y py)) l env = pure true := by
  have ky : env.kindOf y = some .local := hy
  have hb : env.blockKind = .function := by unfold Env.blockKind; rw [hk]; rfl
  unfold swapsWith
  simp only [hb, ky, ha, Expr.pos, hl]
  rfl
end
end L2
set_option Elab.async false
set_option linter.all false
set_option maxRecDepth 100000
set_option maxHeartbeats 4000000
namespace Sh
open PySem PySem.Spec PyProof.Rows L2
open SX (S S_inj S_len S_cat)
open Bk (Rule firstAt lg bestUp used left drain pushS Wf quarrel Meets keyLt IsDue lrules MinRed Ins Asc IsEnd)
local macro_rules | `(tactic| walk_at "nx") => `(tactic| repeat (with_reducible first | refine Sh.gn_mk ?_ | refine Sh.nx_mk ?_ | refine Sh.st_nx ?_ | refine Sh.rt_mk ?_ | refine Sh.ct_mk ?_ | refine Sh.bk_mk ?_))
local macro_rules | `(tactic| walk_at "sq") => `(tactic| first | exact SqL.of upd_same | exact SqT.of upd_same | exact SqL.of (by assumption) | exact SqT.of (by assumption) | assumption | exact Or.inl (SqL.of (by assumption)) | exact Or.inr (SqT.of (by assumption)) | exact Or.inl (by assumption) | exact Or.inr (by assumption))
local macro_rules | `(tactic| walk_at "hp") => `(tactic| first | exact upd_same | assumption)
local macro_rules | `(tactic| walk_at "sz") => `(tactic| first | exact Nat.le_of_ble_eq_true rfl | omega)
local macro_rules | `(tactic| walk_at "sd") => `(tactic| first | omega | exact rfl | assumption | (show (0 : Int) < _; omega) | exact And.intro (by omega) (by omega) | exact Or.inl (And.intro (by omega) (by omega)) | exact Or.inr (And.intro (by omega) (by omega)) | omega | exact Sh.sz_S (by omega) | decide)
local macro_rules | `(tactic| walk_at "rd1") => `(tactic| first
  | (with_reducible first | refine Sh.gn_mk ?_ | refine Sh.nx_mk ?_ | refine Sh.st_nx ?_ | refine Sh.rt_mk ?_ | refine Sh.ct_mk ?_ | refine Sh.bk_mk ?_)
  | refine Exists.intro (α := V) _ (And.intro rfl ?_)
  | refine Exists.intro (α := Bool) _ (And.intro rfl ?_)
  | refine Exists.intro (α := Int) _ (And.intro rfl ?_)
  | refine Exists.intro (α := PySem.Str) _ (And.intro rfl ?_)
  | refine Exists.intro (α := Int) _ (Exists.intro (α := Int) _ (And.intro rfl (And.intro rfl ?_)))
  | refine Exists.intro (α := PySem.Str) _ (Exists.intro (α := PySem.Str) _ (And.intro rfl (And.intro rfl ?_)))
  | refine Exists.intro (α := Int) _ (Exists.intro (α := Int) _ (And.intro rfl ?_))
  | refine Or.inl (Exists.intro (α := Int) _ (And.intro rfl ?_))
  | refine Exists.intro _ (Exists.intro _ (Exists.intro _ (Exists.intro _ (And.intro rfl (And.intro rfl (And.intro (by walk_at "sq") (And.intro rfl ?_)))))))
  | refine Exists.intro _ (Exists.intro _ (Exists.intro _ (Exists.intro _ (And.intro rfl (And.intro rfl (And.intro (by walk_at "hp") (And.intro rfl ?_)))))))
  | refine And.intro (by walk_at "sd") ?_
  )
local macro_rules | `(tactic| walk_at "rd") => `(tactic| repeat walk_at "rd1")
local macro_rules | `(tactic| walk_at "lk") => `(tactic| first | exact rfl | (rw [lookup_putF, if_pos rfl]) | (rw [lookup_putF, if_neg (by decide +kernel)]; walk_at "lk"))

/-- a book of products: left sides of two signs, one rule for each -/
structure Two (sg : List Nat) (R : List Rule) : Prop where
  l2 : ∀ r ∈ R, r.1.length = 2
  fn : ∀ r ∈ R, ∀ q ∈ R, r.1 = q.1 → r = q
  inv : ∀ c ∈ sg, ∃ e ∈ sg, ([c, e], []) ∈ R ∧ ([e, c], []) ∈ R
theorem two_step {sg : List Nat} {R : List Rule} (h : Two sg R) {r : Rule} (hr : r ∈ R) {u : List Nat} (s : Bk.Step R r.1 u) : u = r.2 := by
  generalize e : r.1 = t at s
  cases s with
  | mk x y q hq =>
    have h1 := h.l2 r hr
    have h2 := h.l2 q hq
    have hl := congrArg List.length e
    simp only [List.length_append] at hl
    have hx : x = [] := List.length_eq_zero_iff.mp (by omega)
    have hy : y = [] := List.length_eq_zero_iff.mp (by omega)
    subst hx hy
    rw [List.nil_append, List.append_nil] at e ⊢
    rw [h.fn r hr q hq e]
theorem end_short {sg : List Nat} {R : List Rule} (h : Two sg R) {t : List Nat} (ht : t.length ≤ 1) : IsEnd R t := by
  rw [Bk.isEnd_iff]
  intro r hr x y e
  have h1 := h.l2 r hr
  have := congrArg List.length e
  simp only [List.length_append] at this
  omega
theorem two_left {sg : List Nat} {R : List Rule} (h : Two sg R) (hw : Wf R) {r : Rule} (hr : r ∈ R) : left R r.1 = r.2 := by
  have h1 := Bk.left_reach (R := R) r.1
  have h2 := Bk.left_end hw r.1
  generalize e : left R r.1 = z at h1 h2
  have hne : z ≠ r.1 := fun e2 => by
    rw [e2] at h2
    exact Bk.not_end_left hr h2
  generalize e3 : r.1 = t at h1 hne
  cases h1 with
  | refl => exact absurd rfl hne
  | step s k =>
    have s' := s
    rw [← e3] at s'
    rw [two_step h hr s'] at k
    exact Bk.reach_end (end_short h (hw r hr).2) k
theorem two_mem {sg : List Nat} {R : List Rule} (h : Two sg R) (hw : Wf R) {ds : List (List Nat)} (d : IsDue R ds) (r : Rule) : r ∈ lrules R ds ↔ r ∈ R := by
  unfold lrules
  rw [List.mem_map]
  constructor
  · rintro ⟨l, hl, rfl⟩
    obtain ⟨q, hq, rfl⟩ := Bk.due_left d hl
    rw [two_left h hw hq]
    exact hq
  · intro hr
    refine ⟨r.1, (d.2 _).mpr (Bk.minRed_iff.mp ⟨⟨r, hr, rfl⟩, ?_⟩), by rw [two_left h hw hr]⟩
    rintro ⟨x, m, y, e, hne, q, hq, rfl⟩
    have h1 := h.l2 r hr
    have h2 := h.l2 q hq
    have hl := congrArg List.length e
    simp only [List.length_append] at hl
    have hx : x = [] := List.length_eq_zero_iff.mp (by omega)
    have hy : y = [] := List.length_eq_zero_iff.mp (by omega)
    subst hx hy
    rw [List.nil_append, List.append_nil] at e
    exact hne e.symm
def UndoAt (sg : List Nat) (R : List Rule) (kvs : List (Key × V)) (c : Nat) : Prop := ∃ e ∈ sg, valV kvs (Sum.inr (S [c])) = some (.str (S [e])) ∧ ([c, e], []) ∈ R ∧ ([e, c], []) ∈ R
theorem same_none {H H' : Hp} {p : Addr} (s : Same H H') (h : H' p = none) : H p = none := by
  cases e : H p with
  | none => rfl
  | some o => rw [s _ _ e] at h; cases h
theorem opt_some (p : Prop) [Decidable p] (v : V) : (if p then some v else none).isSome = decide p := by by_cases h : p <;> simp [h]
def UndoOk (sg : List Nat) (R : List Rule) (kvs : List (Key × V)) : Prop := ∀ c ∈ sg, ∃ e ∈ sg, valV kvs (Sum.inr (S [c])) = some (.str (S [e])) ∧ ([c, e], []) ∈ R ∧ ([e, c], []) ∈ R
section
variable {P : Program} {w : World} {K : PySem.W.Frag} {mg : Str → Option Value} {base : Heap} {CB CE : Addr}
def spUndo (K : PySem.W.Frag) (C : Addr) : Sp := fun vs H Q _ => ∃ (p : Addr) (sg : List Nat) (R : List Rule), vs = [.ref p] ∧ BookAt K C H p sg R ∧ BookOk sg R ∧ quarrel R = none ∧ Two sg R ∧
  ∀ (d : Addr) (kvs : List (Key × V)) (H' : Hp), H' d = some (.dK kvs) → UndoOk sg R kvs → Same H H' → H d = none → Q (.ref d) H'
theorem c_undo_dict (T : TxtC K mg CB) : Cal P w K mg base CX0 5 "undo_dict" (spUndo K CB) := by
  have c_check_settled := c_check_settled (P := P) (w := w) (base := base) T
  have c_least_rules := c_least_rules (P := P) (w := w) (base := base) T
  refine Cal.mk0 T.d_undo_dict sc_undo_dict (fun vs H Q E h => ?_) (fun f cdv A outer s H vs Q E hr h => ?_)
  · obtain ⟨p, sg, R, rfl, _⟩ := h
    rfl
  · obtain ⟨p, sg, R, rfl, B, hB, hq, h2, k⟩ := h
    obtain ⟨dx, fs, a, xs, pl, hp, g1, g2, hR, _⟩ := id B
    have cl := T.k_Book.cl
    have hw := hB.wf
    have hl := hB.2.1
    have hu := hu_of hr
    refine ⟨_, (pss_cons (ps_expr (pe_c c_check_settled hr (by decide) rfl (pa_cons (pv 0) pa_nil)))
  (pss_cons (ps_set (i := 1) sc_undo_dict.nd rfl (Or.inl rfl) (pe_c c_least_rules hr (by decide) rfl (pa_cons (pv 0) pa_nil)))
  (pss_cons (ps_for PassesOwn.never rfl (pi_tup (pv 1)) (pg_tup (by rfl) (pgs_cons (pg_name (i := 2) sc_undo_dict.nd rfl (Or.inl rfl)) (pgs_cons (pg_name (i := 3) sc_undo_dict.nd rfl (Or.inl rfl)) pgs_nil)))
    (pss_one (ps_if (pt_cmpR op_ne (pe_callB call_len_str (by rfl) T.b_len (by decide +kernel) (pa_cons (pv 2) pa_nil)) pe_int (nomark _))
      (pss_one ps_never)
      pss_nil)))
  (pss_cons (ps_setDc (i := 4) (own := [("left", 2), ("right", 3)]) (by rfl) sc_undo_dict.nd rfl rfl (sw_trueD rfl rfl rfl (by decide +kernel)) (pi_tup (pv 1)) (blkOk_by (N := ["book", "rules", "left", "right", "empty", "found", "sign", "other"]) (sc := defScope s_undo_dict) (by decide +kernel)) (fun _ _ _ _ _ => (pg_tupB (n := 2) (by rfl) (pgs_cons (pg_name (i := 2) sc_undo_dict.nd rfl (Or.inl rfl)) (pgs_cons (pg_name (i := 3) sc_undo_dict.nd rfl (Or.inl rfl)) pgs_nil)))) (fun _ _ _ _ _ => (pts_one (pt_cmpR op_eq (pv 3) pe_str (nomark _)))) (fun _ _ _ _ _ => (pv 2)) (fun _ _ _ _ _ => pe_bl))
  (pss_cons (ps_set (i := 5) sc_undo_dict.nd rfl (Or.inl rfl) pe_dnewK)
  (pss_cons (ps_for PassesOwn.never rfl (pi_str (pe_fld (pv 0) rfl)) (pg_name (i := 6) sc_undo_dict.nd rfl (Or.inl rfl))
    (pss_cons (ps_for PassesOwn.never rfl (pi_str (pe_fld (pv 0) rfl)) (pg_name (i := 7) sc_undo_dict.nd rfl (Or.inl rfl))
      (pss_one (ps_if (PW.pt (pw_and (pt_cmp (pc_din hu (pe_op op_add_str (pv 6) (pv 7)) (pv 4))) (pw_and1 (pt_cmp (pc_din hu (pe_op op_add_str (pv 7) (pv 6)) (pv 4))))))
        (pss_one (ps_dput hu (pv 5) (pv 6) (pv 7) rfl))
        pss_nil)))
    (pss_one (ps_if (pt_cmp (pc_dnotin hu (pv 6) (pv 5)))
      (pss_one ps_never)
      pss_nil))))
  (pss_one (ps_ret (pv 5))))))))), ?_⟩
    refine ⟨_, rfl, p, sg, R, rfl, B, hq, ?_⟩
    walk_at "nx"
    refine ⟨_, rfl, p, sg, R, rfl, B, hB, fun q ys ds H1 hd hdl s1 hL => ?_⟩
    have hm := two_mem h2 hw hd
    generalize hLeq : lrules R ds = L at hm hL
    walk_at "nx"
    have hLl : L.length ≤ 64 := by rw [← hLeq]; unfold lrules; rw [List.length_map]; exact Nat.le_trans hdl hl
    clear hLeq hd hdl
    refine ⟨_, rfl, q, rfl, ⟨_, hL.sq⟩, ?_⟩
    refine for_tupR (K := K) (a := q) (xs := ys) (l := L) (Rel := RItem K) hL.len (fun pre σ H2 => ∃ (v2 v3 : Option V), σ = [some (.ref p), some (.ref q), v2, v3, none, none, none, none] ∧ H2 = H1) ⟨_, _, rfl, rfl⟩ (fun pre σ H2 ⟨_, _, _, e⟩ => by rw [e]; exact ⟨hL.sq, hL.it⟩) ?_ ?_
    · rintro pre r post x σ H2 e hx ⟨qr, rfl, sq⟩ ⟨v2, v3, rfl, rfl⟩
      have hr := h2.l2 r ((hm r).mp (by rw [e]; simp))
      refine ⟨qr, _, rfl, sq, rfl, _, _, rfl, _, _, rfl, rfl, ?_⟩
      refine if_K false (fun Q' hQ => ?_) (fun hc => ?_) (fun hc => ?_)
      · refine ⟨_, rfl, _, rfl, sz_S (t := r.1) (by omega), ?_⟩
        refine ⟨rfl, _, rfl, ?_⟩
        rw [S_len, hr]
        exact hQ
      · cases hc
      · exact ⟨_, _, rfl, rfl⟩
    · rintro σ H2 ⟨v2, v3, rfl, rfl⟩
      walk_at "nx"
      refine ⟨_, rfl, q, rfl, ⟨_, hL.sq⟩, fun D hD => dc_tupR (K := K) (a := q) (xs := ys) (l := L) (Rel := RItem K) hL.len (fun pre H3 => H3 D = some (.dK (setK (dl (pre.filter fun r => decide (r.2 = []))))) ∧ Same H2 H3) ⟨upd_same, same_new hD⟩
        (fun pre H3 ⟨_, s3⟩ => ⟨(hL.same s3).sq, (hL.same s3).it⟩) ?_ ?_⟩
      · rintro pre r post x H3 e hx ⟨qr, rfl, sq⟩ ⟨h3, s3⟩
        have hpl : pre.length + 1 ≤ 64 := by
          have := congrArg List.length e
          simp at this
          omega
        refine ⟨qr, _, rfl, sq, rfl, _, _, rfl, _, _, rfl, rfl, rfl, ?_⟩
        refine ⟨_, rfl, rfl, _, rfl, ?_⟩
        rw [List.filter_append]
        cases hr : decide (r.2 = []) with
        | false =>
          rw [decide_eq_false (show ¬ V.str (S r.2) = V.str (Str.ofString "") from fun z => of_decide_eq_false hr (S_inj (V.str.inj z)))]
          refine iteF ?_
          rw [show [r].filter (fun r => decide (r.2 = [])) = [] by simp [of_decide_eq_false hr], List.append_nil]
          exact ⟨h3, s3⟩
        | true =>
          have hr' := of_decide_eq_true hr
          rw [decide_eq_true (show V.str (S r.2) = V.str (Str.ofString "") by rw [hr']; rfl)]
          refine iteT ?_
          rw [show [r].filter (fun r => decide (r.2 = [])) = [r] by simp [hr'], dl_snoc]
          refine ⟨_, rfl, setK _, (Sum.inr (S r.1) : Key), rfl, h3, ?_, ?_, same_mut s3 hD⟩
          · have h1 := (dl_all (pre.filter fun r => decide (r.2 = []))).2.1
            have h2 := List.length_filter_le (fun r : Rule => decide (r.2 = [])) pre
            unfold setK
            rw [List.length_map]
            exact Nat.lt_of_le_of_lt (m := 64) (by omega) (by decide)
          · rw [upd_same, setK_put]
      · rintro H3 ⟨h3, s3⟩
        have hem : ∀ x y : Nat, ([x, y] : List Nat) ∈ dl (L.filter fun r => decide (r.2 = [])) ↔ ([x, y], []) ∈ R := fun x y => by
          rw [(dl_all _).2.2]
          constructor
          · rintro ⟨r, hr, e⟩
            obtain ⟨h4, h5⟩ := List.mem_filter.mp hr
            have h6 := of_decide_eq_true h5
            have : r = ([x, y], []) := by rw [← e, ← h6]
            rw [this] at h4
            exact (hm _).mp h4
          · intro hr
            exact ⟨([x, y], []), List.mem_filter.mpr ⟨(hm _).mpr hr, rfl⟩, rfl⟩
        generalize dl (L.filter fun r => decide (r.2 = [])) = em at h3 hem
        walk_at "nx"
        intro d hd
        have s4 := same_new (o := .dK []) hd
        have e4 : (upd H3 d (.dK [])) d = some (.dK []) := upd_same
        have h4 := s4 _ _ h3
        have nDd : D ≠ d := ne_of_none h3 hd
        have hd2 : H2 d = none := same_none s3 hd
        generalize upd H3 d (.dK []) = H4 at s4 e4 h4 ⊢
        have s24 := s3.trans s4
        have s04 := s1.trans s24
        have hd0 : H d = none := same_none s1 hd2
        clear s4 h3 s3 hd
        have hsl := (signs_len hB.1).2
        walk_at "nx"
        refine ⟨_, rfl, p, CB, dx, fs, _, rfl, s04 _ _ hp, cl, T.n_Book_signs, g1, _, rfl, ?_⟩
        refine for_str (l := sg) (fun pre σ H5 => ∃ (v6 v7 : Option V) (kvs : List (Key × V)), σ = [some (.ref p), some (.ref q), v2, v3, some (.ref D), some (.ref d), v6, v7] ∧ Same H H5 ∧ H5 D = some (.dK (setK em)) ∧ H5 d = some (.dK kvs) ∧ kvs.length ≤ pre.length * 8 ∧ ∀ c ∈ pre, UndoAt sg R kvs c)
          ⟨_, _, [], rfl, s04, h4, e4, Nat.le_refl _, fun c hc => absurd hc (by simp)⟩ ?_ ?_
        · rintro pre c post σ H5 esg ⟨v6, v7, kvs, rfl, s5, hD5, hd5, hkl, hU⟩
          have hcs : c ∈ sg := by rw [esg]; simp
          have hpre : pre.length + 1 ≤ 8 := by
            have := congrArg List.length esg
            simp at this
            omega
          walk_at "nx"
          refine ⟨_, rfl, p, CB, dx, fs, _, rfl, s5 _ _ hp, cl, T.n_Book_signs, g1, _, rfl, ?_⟩
          refine for_str (l := sg) (fun pre2 σ H5 => ∃ (v7 : Option V) (kvs : List (Key × V)), σ = [some (.ref p), some (.ref q), v2, v3, some (.ref D), some (.ref d), some (.str (S [c])), v7] ∧ Same H H5 ∧ H5 D = some (.dK (setK em)) ∧ H5 d = some (.dK kvs) ∧ kvs.length ≤ pre.length * 8 + pre2.length ∧ (∀ c ∈ pre, UndoAt sg R kvs c) ∧ ((∃ e ∈ pre2, ([c, e], []) ∈ R ∧ ([e, c], []) ∈ R) → UndoAt sg R kvs c))
            ⟨_, kvs, rfl, s5, hD5, hd5, by simpa using hkl, hU, fun ⟨e, he, _⟩ => absurd he (by simp)⟩ ?_ ?_
          · clear s5 hD5 hd5 hkl hU
            rintro pre2 c2 post2 σ H5 esg2 ⟨v7, kvs, rfl, s5, hD5, hd5, hkl, hU, hU2⟩
            have hcs2 : c2 ∈ sg := by rw [esg2]; simp
            have hpre2 : pre2.length + 1 ≤ 8 := by
              have := congrArg List.length esg2
              simp at this
              omega
            walk_at "nx"
            refine if_K (decide ([c, c2] ∈ em) && decide ([c2, c] ∈ em)) (fun Q' hQ => ?_) (fun hc => ?_) (fun hc => ?_)
            · refine ⟨_, rfl, _, rfl, S [c], S [c2], rfl, rfl, by rw [S_len, S_len]; exact (by decide : 1 + 1 ≤ sizeLine), ?_⟩
              rw [show S [c] ++ S [c2] = S [c, c2] from (SX.S_cat [c] [c2]).symm]
              refine ⟨_, rfl, D, _, rfl, DGet.k (k := Sum.inr (S [c, c2])) hD5, ?_⟩
              rw [setK_val, opt_some]
              refine ⟨_, rfl, ?_⟩
              cases hij : decide ([c, c2] ∈ em) with
              | false =>
                rw [hij, Bool.false_and] at hQ
                exact iteF hQ
              | true =>
                rw [hij, Bool.true_and] at hQ
                refine iteT ?_
                refine ⟨_, rfl, _, rfl, S [c2], S [c], rfl, rfl, by rw [S_len, S_len]; exact (by decide : 1 + 1 ≤ sizeLine), ?_⟩
                rw [show S [c2] ++ S [c] = S [c2, c] from (SX.S_cat [c2] [c]).symm]
                refine ⟨_, rfl, D, _, rfl, DGet.k (k := Sum.inr (S [c2, c])) hD5, ?_⟩
                rw [setK_val, opt_some]
                exact ⟨_, rfl, hQ⟩
            · rw [Bool.and_eq_true, decide_eq_true_eq, decide_eq_true_eq, hem, hem] at hc
              refine ⟨_, rfl, _, rfl, _, rfl, d, _, rfl, DPut.k (k := Sum.inr (S [c])) hd5 (Nat.lt_of_le_of_lt (m := 1000) (by omega) (by decide)), ?_⟩
              refine ⟨_, putK kvs (Sum.inr (S [c])) (.str (S [c2])), rfl, same_mut s5 hd0, by rw [upd_ne nDd]; exact hD5, upd_same, Nat.le_trans (putK_len _ _ _) (by rw [List.length_append, List.length_singleton]; omega), fun c3 hc3 => ?_, fun _ => ⟨c2, hcs2, ?_, hc⟩⟩
              · obtain ⟨e, he, hv, h7⟩ := hU c3 hc3
                rw [UndoAt]
                by_cases ec : c3 = c
                · subst ec
                  exact ⟨c2, hcs2, by rw [valV_put, if_pos rfl], hc⟩
                · exact ⟨e, he, by rw [valV_put, if_neg (fun z => ec (by simpa using S_inj (Sum.inr.inj z)))]; exact hv, h7⟩
              · rw [valV_put, if_pos rfl]
            · walk_at "nx"
              refine ⟨_, kvs, rfl, s5, hD5, hd5, by rw [List.length_append, List.length_singleton]; omega, hU, fun ⟨e, he, h6, h7⟩ => ?_⟩
              rcases List.mem_append.mp he with z | z
              · exact hU2 ⟨e, z, h6, h7⟩
              · rw [List.mem_singleton] at z
                subst z
                rw [decide_eq_true ((hem _ _).mpr h6), decide_eq_true ((hem _ _).mpr h7)] at hc
                cases hc
          · clear s5 hD5 hd5 hkl hU
            rintro σ H5 ⟨v7, kvs, rfl, s5, hD5, hd5, hkl, hU, hU2⟩
            obtain ⟨e, he, h6, h7⟩ := h2.inv c hcs
            have hc := hU2 ⟨e, he, h6, h7⟩
            obtain ⟨e', he', hv, _⟩ := id hc
            walk_at "nx"
            refine if_K false (fun Q' hQ => ?_) (fun hc => ?_) (fun _ => ?_)
            · refine ⟨_, rfl, _, rfl, d, _, rfl, DGet.k (k := Sum.inr (S [c])) hd5, _, rfl, ?_⟩
              rw [hv]
              exact hQ
            · cases hc
            · walk_at "nx"
              refine ⟨_, _, kvs, rfl, s5, hD5, hd5, by rw [List.length_append, List.length_singleton]; omega, fun c3 hc3 => ?_⟩
              rcases List.mem_append.mp hc3 with z | z
              · exact hU c3 z
              · rw [List.mem_singleton] at z
                subst z
                exact hc
        · rintro σ H5 ⟨v6, v7, kvs, rfl, s5, hD5, hd5, hkl, hU⟩
          walk_at "rd"
          exact k d kvs H5 hd5 hU s5 hd0
end
end Sh
set_option Elab.async false
set_option linter.all false
set_option maxRecDepth 100000
set_option maxHeartbeats 2000000
/-! comprehensions over texts and over a dict's values; dict comprehensions over a walk -/
namespace Sh
open PySem PySem.Spec PyProof.Rows L2
open SX (S S_inj S_len S_cat)
theorem snocRec {α : Type} {p : List α → Prop} (nil : p []) (snoc : ∀ (l : List α) (x : α), p l → p (l ++ [x])) (l : List α) : p l := by
  have h : ∀ m : List α, p m.reverse := fun m => by
    induction m with
    | nil => exact nil
    | cons x m ih => rw [List.reverse_cons]; exact snoc _ _ ih
  have := h l.reverse
  rwa [List.reverse_reverse] at this
/-- a list comprehension over a text's signs -/
theorem lc_str {l : List Nat} {g : TG} {tt : TT} {te : TE} {vs : List Nat} {σ : L2.St} {H1 : Hp} {D : Addr} {Qd : Hp → Prop}
    (Pv : List Nat → Hp → Prop) (h0 : Pv [] (upd H1 D (.lst [])))
    (hs : ∀ pre a post H, l = pre ++ a :: post → Pv pre H → g (.str (S [a])) (wipe σ vs) H fun σ2 H2 => wipe σ2 vs = wipe σ vs ∧ tt σ2 H2 fun b H3 =>
      if b = true then te σ2 H3 fun y H4 => ∃ acc, H4 D = some (.lst acc) ∧ acc.length < sizeLine ∧ Pv (pre ++ [a]) (upd H4 D (.lst (acc ++ [y]))) else Pv (pre ++ [a]) H3) (hd : ∀ H, Pv l H → Qd H) :
    ∃ W : Nat → Nat → Hp → Prop, (∃ m, W 0 m (upd H1 D (.lst []))) ∧ ∀ i m H, W i m H →
      ((Its (S l)).stop i H ∧ Qd H) ∨ ((Its (S l)).go i H ∧ ∃ Nx : Hp → Prop, (∀ H', Nx H' → ∃ m', m' < m ∧ W (i + 1) m' H') ∧ ∀ x H', (Its (S l)).yld i H x H' → g x (wipe σ vs) H' fun σ2 H2 => wipe σ2 vs = wipe σ vs ∧ tt σ2 H2 fun b H3 =>
        if b = true then te σ2 H3 fun y H4 => ∃ acc, H4 D = some (.lst acc) ∧ acc.length < sizeLine ∧ Nx (upd H4 D (.lst (acc ++ [y]))) else Nx H3) := by
  refine lc_pre wStr (fun x v _ => v = .str (S [x])) (fun i H x H' hi _ y => yStr i H x H' hi trivial y) Pv h0 (fun _ _ _ => trivial) (fun pre x post v H e r p => ?_) hd
  subst r
  exact hs pre x post H e p
/-- a list comprehension over the values of a locked dict -/
theorem lc_vals {d : Addr} {o : Obj} {kvs : List (Key × V)} {g : TG} {tt : TT} {te : TE} {vs : List Nat} {σ : L2.St} {H1 : Hp} {D : Addr} {Qd : Hp → Prop}
    (Pv : List V → Hp → Prop) (h0 : Pv [] (upd H1 D (.lst []))) (hG : ∀ pre H, Pv pre H → H d = some (.frz o (.dK kvs)))
    (hs : ∀ pre a post H, kvs.map (·.2) = pre ++ a :: post → Pv pre H → g a (wipe σ vs) H fun σ2 H2 => wipe σ2 vs = wipe σ vs ∧ tt σ2 H2 fun b H3 =>
      if b = true then te σ2 H3 fun y H4 => ∃ acc, H4 D = some (.lst acc) ∧ acc.length < sizeLine ∧ Pv (pre ++ [a]) (upd H4 D (.lst (acc ++ [y]))) else Pv (pre ++ [a]) H3) (hd : ∀ H, Pv (kvs.map (·.2)) H → Qd H) :
    ∃ W : Nat → Nat → Hp → Prop, (∃ m, W 0 m (upd H1 D (.lst []))) ∧ ∀ i m H, W i m H →
      ((Itd d o kvs).stop i H ∧ Qd H) ∨ ((Itd d o kvs).go i H ∧ ∃ Nx : Hp → Prop, (∀ H', Nx H' → ∃ m', m' < m ∧ W (i + 1) m' H') ∧ ∀ x H', (Itd d o kvs).yld i H x H' → g x (wipe σ vs) H' fun σ2 H2 => wipe σ2 vs = wipe σ vs ∧ tt σ2 H2 fun b H3 =>
        if b = true then te σ2 H3 fun y H4 => ∃ acc, H4 D = some (.lst acc) ∧ acc.length < sizeLine ∧ Nx (upd H4 D (.lst (acc ++ [y]))) else Nx H3) := by
  have w := walk_values (d := d) (o := o) (kvs := kvs)
  rw [← List.length_map (f := (·.2))] at w
  refine lc_pre w (fun x v _ => v = x) (fun i H x H' hi _ y => ?_) Pv h0 hG (fun pre x post v H e r p => ?_) hd
  · obtain ⟨rfl, k, hk⟩ := y
    exact ⟨rfl, x, by rw [List.getElem?_map, hk]; rfl, rfl⟩
  · subst r
    exact hs pre _ post H e p
/-- a dict comprehension over a walk -/
theorem dc_it {J : It} {n : Nat} {G : Hp → Prop} {Y : Nat → Hp → V → Hp → Prop} (w : Walk J n G Y) {g : TG} {tt : TT} {tk tv : TE} {vs : List Nat} {σ : L2.St} {H1 : Hp} {D : Addr} {Qd : Hp → Prop} (Pv : Nat → Hp → Prop) (h0 : Pv 0 (upd H1 D (.dK []))) (hG : ∀ i H, i ≤ n → Pv i H → G H)
    (hs : ∀ i x H H', i < n → Pv i H → Y i H x H' → g x (wipe σ vs) H' fun σ2 H2 => wipe σ2 vs = wipe σ vs ∧ tt σ2 H2 fun b H3 =>
      if b = true then tk σ2 H3 fun y H4 => tv σ2 H4 fun z H5 => ∃ kvs k, y = kV k ∧ H5 D = some (.dK kvs) ∧ kvs.length < sizeLine ∧ Pv (i + 1) (upd H5 D (.dK (putK kvs k z))) else Pv (i + 1) H3) (hd : ∀ H, Pv n H → Qd H) :
    ∃ W : Nat → Nat → Hp → Prop, (∃ m, W 0 m (upd H1 D (.dK []))) ∧ ∀ i m H, W i m H →
      (J.stop i H ∧ Qd H) ∨ (J.go i H ∧ ∃ Nx : Hp → Prop, (∀ H', Nx H' → ∃ m', m' < m ∧ W (i + 1) m' H') ∧ ∀ x H', J.yld i H x H' → g x (wipe σ vs) H' fun σ2 H2 => wipe σ2 vs = wipe σ vs ∧ tt σ2 H2 fun b H3 =>
        if b = true then tk σ2 H3 fun y H4 => tv σ2 H4 fun z H5 => ∃ kvs k, y = kV k ∧ H5 D = some (.dK kvs) ∧ kvs.length < sizeLine ∧ Nx (upd H5 D (.dK (putK kvs k z))) else Nx H3) := by
  refine ⟨fun i m H => m = n - i ∧ i ≤ n ∧ Pv i H, ⟨n, by simp, Nat.zero_le _, h0⟩, ?_⟩
  rintro i m H ⟨rfl, hi, p⟩
  have q := hG i H hi p
  by_cases hlt : i < n
  · refine .inr ⟨w.goes i H hlt q, Pv (i + 1), fun H' p' => ⟨n - (i + 1), by omega, rfl, hlt, p'⟩, fun x H' y => hs i x H H' hlt p (w.yields i H x H' hlt q y)⟩
  · have e : i = n := by omega
    subst e
    exact .inl ⟨w.stops H q, hd H p⟩
/-- a dict comprehension over a text's signs -/
theorem dc_str {l : List Nat} {g : TG} {tt : TT} {tk tv : TE} {vs : List Nat} {σ : L2.St} {H1 : Hp} {D : Addr} {Qd : Hp → Prop}
    (Pv : List Nat → Hp → Prop) (h0 : Pv [] (upd H1 D (.dK [])))
    (hs : ∀ pre a post H, l = pre ++ a :: post → Pv pre H → g (.str (S [a])) (wipe σ vs) H fun σ2 H2 => wipe σ2 vs = wipe σ vs ∧ tt σ2 H2 fun b H3 =>
      if b = true then tk σ2 H3 fun y H4 => tv σ2 H4 fun z H5 => ∃ kvs k, y = kV k ∧ H5 D = some (.dK kvs) ∧ kvs.length < sizeLine ∧ Pv (pre ++ [a]) (upd H5 D (.dK (putK kvs k z))) else Pv (pre ++ [a]) H3) (hd : ∀ H, Pv l H → Qd H) :
    ∃ W : Nat → Nat → Hp → Prop, (∃ m, W 0 m (upd H1 D (.dK []))) ∧ ∀ i m H, W i m H →
      ((Its (S l)).stop i H ∧ Qd H) ∨ ((Its (S l)).go i H ∧ ∃ Nx : Hp → Prop, (∀ H', Nx H' → ∃ m', m' < m ∧ W (i + 1) m' H') ∧ ∀ x H', (Its (S l)).yld i H x H' → g x (wipe σ vs) H' fun σ2 H2 => wipe σ2 vs = wipe σ vs ∧ tt σ2 H2 fun b H3 =>
        if b = true then tk σ2 H3 fun y H4 => tv σ2 H4 fun z H5 => ∃ kvs k, y = kV k ∧ H5 D = some (.dK kvs) ∧ kvs.length < sizeLine ∧ Nx (upd H5 D (.dK (putK kvs k z))) else Nx H3) := by
  refine dc_it wStr (fun i H => Pv (l.take i) H) (by simpa using h0) (fun _ _ _ _ => trivial) (fun i x H H' hi p y => ?_) (fun H p => hd H (by simpa using p))
  obtain ⟨rfl, a, ha, rfl⟩ := yStr i H x H' hi trivial y
  obtain ⟨e1, e2⟩ := take_succ_of ha
  have q := hs _ a _ H' e2 p
  rw [← e1] at q
  exact q
end Sh
set_option Elab.async false
set_option linter.all false
set_option maxRecDepth 100000
set_option maxHeartbeats 4000000
namespace Sh
open PySem PySem.Spec PyProof.Rows L2
open SX (S S_inj S_len S_cat)
open Bk (Rule firstAt lg bestUp used left drain pushS Wf quarrel Meets keyLt IsDue lrules MinRed Ins Asc IsEnd)
local macro_rules | `(tactic| walk_at "nx") => `(tactic| repeat (with_reducible first | refine Sh.gn_mk ?_ | refine Sh.nx_mk ?_ | refine Sh.st_nx ?_ | refine Sh.rt_mk ?_ | refine Sh.ct_mk ?_ | refine Sh.bk_mk ?_))
local macro_rules | `(tactic| walk_at "sq") => `(tactic| first | exact SqL.of upd_same | exact SqT.of upd_same | exact SqL.of (by assumption) | exact SqT.of (by assumption) | assumption | exact Or.inl (SqL.of (by assumption)) | exact Or.inr (SqT.of (by assumption)) | exact Or.inl (by assumption) | exact Or.inr (by assumption))
local macro_rules | `(tactic| walk_at "hp") => `(tactic| first | exact upd_same | assumption)
local macro_rules | `(tactic| walk_at "sz") => `(tactic| first | exact Nat.le_of_ble_eq_true rfl | omega)
local macro_rules | `(tactic| walk_at "sd") => `(tactic| first | omega | exact rfl | assumption | (show (0 : Int) < _; omega) | exact And.intro (by omega) (by omega) | exact Or.inl (And.intro (by omega) (by omega)) | exact Or.inr (And.intro (by omega) (by omega)) | omega | exact Sh.sz_S (by omega) | decide)
local macro_rules | `(tactic| walk_at "rd1") => `(tactic| first
  | (with_reducible first | refine Sh.gn_mk ?_ | refine Sh.nx_mk ?_ | refine Sh.st_nx ?_ | refine Sh.rt_mk ?_ | refine Sh.ct_mk ?_ | refine Sh.bk_mk ?_)
  | refine Exists.intro (α := V) _ (And.intro rfl ?_)
  | refine Exists.intro (α := Bool) _ (And.intro rfl ?_)
  | refine Exists.intro (α := Int) _ (And.intro rfl ?_)
  | refine Exists.intro (α := PySem.Str) _ (And.intro rfl ?_)
  | refine Exists.intro (α := Int) _ (Exists.intro (α := Int) _ (And.intro rfl (And.intro rfl ?_)))
  | refine Exists.intro (α := PySem.Str) _ (Exists.intro (α := PySem.Str) _ (And.intro rfl (And.intro rfl ?_)))
  | refine Exists.intro (α := Int) _ (Exists.intro (α := Int) _ (And.intro rfl ?_))
  | refine Or.inl (Exists.intro (α := Int) _ (And.intro rfl ?_))
  | refine Exists.intro _ (Exists.intro _ (Exists.intro _ (Exists.intro _ (And.intro rfl (And.intro rfl (And.intro (by walk_at "sq") (And.intro rfl ?_)))))))
  | refine Exists.intro _ (Exists.intro _ (Exists.intro _ (Exists.intro _ (And.intro rfl (And.intro rfl (And.intro (by walk_at "hp") (And.intro rfl ?_)))))))
  | refine And.intro (by walk_at "sd") ?_
  )
local macro_rules | `(tactic| walk_at "rd") => `(tactic| repeat walk_at "rd1")
local macro_rules | `(tactic| walk_at "lk") => `(tactic| first | exact rfl | (rw [lookup_putF, if_pos rfl]) | (rw [lookup_putF, if_neg (by decide +kernel)]; walk_at "lk"))

/-- things in the order of their first appearance -/
def addF {α : Type} [DecidableEq α] (l : List α) (x : α) : List α := if x ∈ l then l else l ++ [x]
def ixOf {α : Type} [DecidableEq α] (l : List α) (a : α) : Nat := l.idxOf a
theorem ix_lt {α : Type} [DecidableEq α] {l : List α} {a : α} (h : a ∈ l) : ixOf l a < l.length := List.idxOf_lt_length_of_mem h
def plc {α : Type} [DecidableEq α] (f : Nat → α) (cs : List Nat) : List α := cs.foldl (fun l c => addF l (f c)) []
section
variable {α : Type} [DecidableEq α] {f : Nat → α}
theorem plc_snoc (f : Nat → α) (cs : List Nat) (c : Nat) : plc f (cs ++ [c]) = addF (plc f cs) (f c) := by unfold plc; rw [List.foldl_append]; rfl
theorem mem_addF {l : List α} {x y : α} : y ∈ addF l x ↔ y ∈ l ∨ y = x := by
  unfold addF
  split
  · rename_i h
    exact ⟨.inl, fun z => z.elim id fun e => e ▸ h⟩
  · simp
theorem mem_plc {cs : List Nat} {x : α} : x ∈ plc f cs ↔ ∃ c ∈ cs, f c = x := by
  induction cs using snocRec with
  | nil => simp [plc]
  | snoc cs c ih =>
    rw [plc_snoc, mem_addF, ih]
    simp only [List.mem_append, List.mem_singleton]
    constructor
    · rintro (⟨d, h, e⟩ | e)
      · exact ⟨d, .inl h, e⟩
      · exact ⟨c, .inr rfl, e.symm⟩
    · rintro ⟨d, h | h, e⟩
      · exact .inl ⟨d, h, e⟩
      · subst h; exact .inr e.symm
theorem plc_nodup {cs : List Nat} : (plc f cs).Nodup := by
  induction cs using snocRec with
  | nil => simp [plc]
  | snoc cs c ih =>
    rw [plc_snoc]
    unfold addF
    split
    · exact ih
    · rename_i h
      rw [List.nodup_append]
      refine ⟨ih, by simp, fun a ha b hb e => ?_⟩
      rw [List.mem_singleton] at hb
      subst e hb
      exact h ha
theorem plc_len {cs : List Nat} : (plc f cs).length ≤ cs.length := by
  induction cs using snocRec with
  | nil => simp [plc]
  | snoc cs c ih =>
    rw [plc_snoc, List.length_append, List.length_singleton]
    unfold addF
    split
    · omega
    · rw [List.length_append, List.length_singleton]; omega
theorem addF_idx {l : List α} {x y : α} (h : y ∈ l) : ixOf (addF l x) y = ixOf l y := by
  unfold addF ixOf
  split
  · rfl
  · rw [List.idxOf_append, if_pos h]
theorem addF_new {l : List α} {x : α} (h : x ∉ l) : ixOf (addF l x) x = l.length := by
  unfold addF ixOf
  rw [if_neg h, List.idxOf_append, if_neg h]
  simp
end
theorem idxN {α : Type} [DecidableEq α] {l : List α} (h : l.Nodup) {t : Nat} {a : α} (e : l[t]? = some a) : ixOf l a = t := by
  obtain ⟨ht, rfl⟩ := List.getElem?_eq_some_iff.mp e
  exact h.idxOf_getElem t ht
theorem idx_get {α : Type} [DecidableEq α] {l : List α} {a : α} (h : ixOf l a < l.length) : l[ixOf l a]? = some a := by
  unfold ixOf at h ⊢
  rw [List.getElem?_eq_getElem h, List.getElem_idxOf h]
theorem key_none {kvs : List (Key × V)} {pre : List Nat} (h : kvs.map (·.1) = pre.map (fun c => (Sum.inr (S [c]) : Key))) {c : Nat} (hc : c ∉ pre) : valV kvs (Sum.inr (S [c])) = none := by
  induction kvs generalizing pre with
  | nil => rfl
  | cons p kvs ih =>
    cases pre with
    | nil => cases h
    | cons d pre =>
      simp only [List.map_cons, List.cons.injEq] at h
      rw [valV_neg (by rw [h.1]; exact fun z => hc (by have := S_inj (Sum.inr.inj z); simp at this; simp [this]))]
      exact ih h.2 fun z => hc (List.mem_cons_of_mem _ z)
theorem rng_ok {n : Nat} (h : n ≤ 100000) : -2 ^ 62 ≤ (n : Int) ∧ (n : Int) < 2 ^ 62 := by omega
/-- a dict from signs to pairs of numbers -/
def PdAt (H : Hp) (kvs : List (Key × V)) (sg : List Nat) (g : Nat → Nat × Nat) : Prop := kvs.map (·.1) = sg.map (fun c => (Sum.inr (S [c]) : Key)) ∧ Items PrV H (kvs.map (·.2)) (sg.map g)
section
variable {P : Program} {w : World} {K : PySem.W.Frag} {mg : Str → Option Value} {base : Heap} {CB CE : Addr}
def spPlaces (K : PySem.W.Frag) (C : Addr) : Sp := fun vs H Q _ => ∃ (p u : Addr) (sg : List Nat) (R : List Rule) (ku : List (Key × V)) (src tgt : Nat → Nat × Nat), vs = [.ref p, .ref u] ∧ BookAt K C H p sg R ∧ BookOk sg R ∧ Two sg R ∧
  (∀ c ∈ sg, ∀ d ∈ sg, (∃ w, ([c, d], w) ∈ R) ↔ tgt c = src d) ∧ H u = some (.dK ku) ∧ UndoOk sg R ku ∧ sg.Nodup ∧
  ∀ (d : Addr) (kvs : List (Key × V)) (H' : Hp), H' d = some (.dK kvs) → PdAt H' kvs sg (fun c => (ixOf (plc src sg) (src c), ixOf (plc src sg) (tgt c))) → Same H H' → H d = none → Q (.ref d) H'
theorem c_places_dict (T : TxtC K mg CB) : Cal P w K mg base CX0 5 "places_dict" (spPlaces K CB) := by
  have c_least_rules := c_least_rules (P := P) (w := w) (base := base) T
  refine Cal.mk0 T.d_places_dict sc_places_dict (fun vs H Q E h => ?_) (fun f cdv A outer s H vs Q E hr h => ?_)
  · obtain ⟨p, u, sg, R, ku, src, tgt, rfl, _⟩ := h
    rfl
  · obtain ⟨p, u, sg, R, ku, src, tgt, rfl, B, hB, h2, hcmp, hu0, hU, hnd, k⟩ := h
    obtain ⟨dx, fs, a, xs, pl, hp, g1, g2, hR, _⟩ := id B
    have cl := T.k_Book.cl
    have hw := hB.wf
    have hl := hB.2.1
    have hu := hu_of hr
    refine ⟨_, (pss_cons (ps_setDc (i := 2) (own := [("left", 7), ("right", 8)]) (tt := tYes) (by rfl) sc_places_dict.nd rfl rfl (sw_trueD rfl rfl rfl (by decide +kernel)) (pi_tup (pe_c c_least_rules hr (by decide) rfl (pa_cons (pv 0) pa_nil))) (blkOk_by (N := ["book", "undo", "lefts", "begins", "firsts", "sign", "k", "left", "right"]) (sc := defScope s_places_dict) (by decide +kernel)) (fun _ _ _ _ _ => (pg_tupB (n := 2) (by rfl) (pgs_cons (pg_name (i := 7) sc_places_dict.nd rfl (Or.inl rfl)) (pgs_cons (pg_name (i := 8) sc_places_dict.nd rfl (Or.inl rfl)) pgs_nil)))) (fun _ _ _ _ _ => pts_nil) (fun _ _ _ _ _ => (pv 7)) (fun _ _ _ _ _ => pe_bl))
  (pss_cons (ps_set (i := 3) sc_places_dict.nd rfl (Or.inr rfl) pe_dnewK)
  (pss_cons (ps_set (i := 4) sc_places_dict.nd rfl (Or.inl rfl) (pe_lst pa_nil))
  (pss_cons (ps_for PassesOwn.never rfl (pi_str (pe_fld (pv 0) rfl)) (pg_name (i := 5) sc_places_dict.nd rfl (Or.inl rfl))
    (pss_cons (ps_for PassesOwn.never rfl (pi_range1 (by rfl) T.b_range (pa_cons (pe_callB call_len_seq (by rfl) T.b_len (by decide +kernel) (pa_cons (pv 4) pa_nil)) pa_nil)) (pg_name (i := 6) sc_places_dict.nd rfl (Or.inl rfl))
      (pss_one (ps_if (pt_cmp (pc_din hu (pe_op op_add_str (pe_dget hu (pv 1) (pe_ix ix_list (pv 4) (pv 6) (fun _ _ => rfl)) (fun _ _ => rfl)) (pv 5)) (pv 2)))
        (pss_one (ps_dput hu (pv 3) (pv 5) (pv 6) rfl))
        pss_nil)))
    (pss_one (ps_if (pt_cmp (pc_dnotin hu (pv 5) (pv 3)))
      (pss_cons (ps_dput hu (pv 3) (pv 5) (pe_callB call_len_seq (by rfl) T.b_len (by decide +kernel) (pa_cons (pv 4) pa_nil)) rfl)
      (pss_one (ps_expr (pe_bm PySem.F.plainAttrs_list PySem.F.slot_list_append PySem.F.type_list_append mt_append (pv 4) (pa_cons (pv 5) pa_nil)))))
      pss_nil))))
  (pss_one (ps_ret (pe_dc (own := [("sign", 5)]) (g := gName 5) (tt := tYes) rfl sc_places_dict.nd (pi_str (pe_fld (pv 0) rfl)) (blkOk_by (N := ["book", "undo", "lefts", "begins", "firsts", "sign", "k", "left", "right"]) (sc := defScope s_places_dict) (by decide +kernel)) (fun _ _ _ _ _ => (pg_name (i := 5) sc_places_dict.nd rfl (Or.inl rfl))) (fun _ _ _ _ _ => pts_nil) (fun _ _ _ _ _ => (pv 5)) (fun _ _ _ _ _ => (pe_tup (pa_cons (pe_dget hu (pv 3) (pv 5) (fun _ _ => rfl)) (pa_cons (pe_dget hu (pv 3) (pe_dget hu (pv 1) (pv 5) (fun _ _ => rfl)) (fun _ _ => rfl)) pa_nil))))))))))), ?_⟩
    refine ⟨_, rfl, p, sg, R, rfl, B, hB, fun q ys ds H1 hd hdl s1 hL => ?_⟩
    have hm := two_mem h2 hw hd
    generalize hLeq : lrules R ds = L at hm hL
    have hLl : L.length ≤ 64 := by rw [← hLeq]; unfold lrules; rw [List.length_map]; exact Nat.le_trans hdl hl
    clear hLeq hd hdl
    refine ⟨q, rfl, ⟨_, hL.sq⟩, fun D hD => dc_tupR (K := K) (a := q) (xs := ys) (l := L) (Rel := RItem K) hL.len (fun pre H3 => H3 D = some (.dK (setK (dl pre))) ∧ Same H1 H3) ⟨upd_same, same_new hD⟩
      (fun pre H3 ⟨_, s3⟩ => ⟨(hL.same s3).sq, (hL.same s3).it⟩) ?_ ?_⟩
    · rintro pre r post x H3 e hx ⟨qr, rfl, sq⟩ ⟨h3, s3⟩
      have hpl : pre.length + 1 ≤ 64 := by
        have := congrArg List.length e
        simp at this
        omega
      refine ⟨qr, _, rfl, sq, rfl, _, _, rfl, _, _, rfl, rfl, rfl, ty_T ?_⟩
      refine ⟨_, rfl, setK _, (Sum.inr (S r.1) : Key), rfl, h3, ?_, ?_, same_mut s3 hD⟩
      · have h1 := (dl_all pre).2.1
        unfold setK
        rw [List.length_map]
        exact Nat.lt_of_le_of_lt (m := 64) (by omega) (by decide)
      · rw [upd_same, setK_put, dl_snoc]
    · rintro H3 ⟨h3, s3⟩
      have hem : ∀ x ∈ sg, ∀ y ∈ sg, ([x, y] : List Nat) ∈ dl L ↔ tgt x = src y := fun x hx y hy => by
        rw [(dl_all _).2.2, ← hcmp x hx y hy]
        constructor
        · rintro ⟨r, hr, e⟩
          exact ⟨r.2, by rw [← e]; exact (hm _).mp hr⟩
        · rintro ⟨w, hw⟩
          exact ⟨_, (hm _).mpr hw, rfl⟩
      generalize dl L = em at h3 hem
      walk_at "nx"
      intro d hd
      have s4 := same_new (o := .dK []) hd
      have e4 : (upd H3 d (.dK [])) d = some (.dK []) := upd_same
      have h4 := s4 _ _ h3
      generalize upd H3 d (.dK []) = H4 at s4 e4 h4 ⊢
      walk_at "rd"
      intro fl hfl
      have s5 := same_new (o := .lst []) hfl
      have e5 : (upd H4 fl (.lst [])) fl = some (.lst []) := upd_same
      have e45 := s5 _ _ e4
      have h5 := s5 _ _ h4
      have ndf : d ≠ fl := ne_of_none e4 hfl
      generalize upd H4 fl (.lst []) = H5 at s5 e5 e45 h5 ⊢
      have s05 := s1.trans (s3.trans (s4.trans s5))
      have hfl0 : H fl = none := same_none (s1.trans (s3.trans s4)) hfl
      have hd0 : H d = none := same_none (s1.trans s3) hd
      have nDd : D ≠ d := ne_of_none h3 hd
      have nDf : D ≠ fl := ne_of_none h4 hfl
      clear s4 s5 h4 e4 h3 s3 hd hfl
      have hsl := (signs_len hB.1).2
      walk_at "nx"
      refine ⟨_, rfl, p, CB, dx, fs, _, rfl, s05 _ _ hp, cl, T.n_Book_signs, g1, _, rfl, ?_⟩
      refine for_str (l := sg) (fun pre σ H6 => ∃ (v5 v6 v7 v8 : Option V) (kb : List (Key × V)) (fr : List Nat), σ = [some (.ref p), some (.ref u), some (.ref D), some (.ref d), some (.ref fl), v5, v6, v7, v8] ∧ Same H H6 ∧ H6 D = some (.dK (setK em)) ∧ H6 d = some (.dK kb) ∧ H6 fl = some (.lst (fr.map fun c => V.str (S [c]))) ∧ kb.length ≤ pre.length * 10 ∧ (∀ c ∈ fr, c ∈ sg) ∧ fr.map src = plc src pre ∧ ∀ c, valV kb (Sum.inr (S [c])) = if c ∈ pre then some (.int (ixOf (plc src pre) (src c) : Nat)) else none)
        ⟨_, _, _, _, [], [], rfl, s05, h5, e45, e5, Nat.le_refl _, fun c hc => absurd hc (by simp), rfl, fun c => by rw [if_neg (by simp)]; rfl⟩ ?_ ?_
      · rintro pre c post σ H6 esg ⟨v5, v6, v7, v8, kb, fr, rfl, s6, hD6, hd6, hf6, hkl, hfs, hfp, hV⟩
        have hcs : c ∈ sg := by rw [esg]; simp
        have hpre : pre.length + 1 ≤ 8 := by
          have := congrArg List.length esg
          simp at this
          omega
        have hcn : c ∉ pre := fun z => by
          rw [esg, List.nodup_append] at hnd
          exact hnd.2.2 c z c List.mem_cons_self rfl
        have hfl : fr.length = (plc src pre).length := by rw [← hfp, List.length_map]
        have hf8 : fr.length ≤ pre.length := by rw [hfl]; exact plc_len
        have hu6 := s6 _ _ hu0
        walk_at "nx"
        refine ⟨_, rfl, fl, _, rfl, .inl (SqL.of hf6), ?_⟩
        have hmf : (fr.map fun c => V.str (S [c])).length = fr.length := List.length_map _
        generalize hfe : (fr.map fun c => V.str (S [c])) = fv at hf6 hmf ⊢
        refine tNil_mk ?_
        refine ⟨_, rfl, (rng_ok (n := fv.length) (by omega)).1, (rng_ok (n := fv.length) (by omega)).2, ?_⟩
        have hfm : ((fv.length : Nat) : Int).toNat = fr.length := by omega
        refine for_range (lo := 0) (n := ((fv.length : Nat) : Int).toNat) (fun i σ H7 => ∃ (v6 : Option V) (kb : List (Key × V)), σ = [some (.ref p), some (.ref u), some (.ref D), some (.ref d), some (.ref fl), some (.str (S [c])), v6, v7, v8] ∧ Same H H7 ∧ H7 D = some (.dK (setK em)) ∧ H7 d = some (.dK kb) ∧ H7 fl = some (.lst fv) ∧ kb.length ≤ pre.length * 10 + i ∧ (∀ x, x ≠ c → valV kb (Sum.inr (S [x])) = if x ∈ pre then some (.int (ixOf (plc src pre) (src x) : Nat)) else none) ∧ valV kb (Sum.inr (S [c])) = if ixOf (plc src pre) (src c) < i then some (.int (ixOf (plc src pre) (src c) : Nat)) else none)
          ⟨_, kb, rfl, s6, hD6, hd6, hf6, by omega, fun x _ => hV x, by rw [hV c, if_neg hcn, if_neg (by omega)]⟩ ?_ ?_
        · clear s6 hD6 hd6 hkl hV hf6
          rintro i σ H7 hi ⟨v6, kb, rfl, s7, hD7, hd7, hf7, hkl, hV, hVc⟩
          rw [Int.zero_add]
          have hif : i < fr.length := by omega
          obtain ⟨f, hf⟩ : ∃ f, fr[i]? = some f := ⟨_, List.getElem?_eq_getElem hif⟩
          have hfsg := hfs f (List.mem_of_getElem? hf)
          obtain ⟨e, he, hv, r1, r2⟩ := hU f hfsg
          have hpi : (plc src pre)[i]? = some (src f) := by rw [← hfp, List.getElem?_map, hf]; rfl
          have hte : tgt e = src f := (hcmp e he f hfsg).mp ⟨_, r2⟩
          have hkey : decide ([e, c] ∈ em) = decide (ixOf (plc src pre) (src c) = i) := by
            refine decide_eq_decide.mpr ?_
            rw [hem e he c hcs, hte]
            constructor
            · intro z
              rw [← z]
              exact idxN plc_nodup hpi
            · intro z
              have := idx_get (l := plc src pre) (a := src c) (by rw [z, ← hfl]; exact hif)
              rw [z, hpi] at this
              exact Option.some.inj this
          walk_at "nx"
          refine if_K (decide (ixOf (plc src pre) (src c) = i)) (fun Q' hQ => ?_) (fun hc => ?_) (fun hc => ?_)
          · refine ⟨_, rfl, _, rfl, _, rfl, ⟨fl, fv, _, _, rfl, rfl, SqL.of hf7, atI_nat (show fv[i]? = some (V.str (S [f])) by rw [← hfe, List.getElem?_map, hf]; rfl), ?_⟩⟩
            refine ⟨u, _, rfl, by rw [← hv]; exact DGet.k (k := Sum.inr (S [f])) (s7 _ _ hu0), ?_⟩
            refine ⟨_, rfl, S [e], S [c], rfl, rfl, by rw [S_len, S_len]; exact (by decide : 1 + 1 ≤ sizeLine), ?_⟩
            rw [show S [e] ++ S [c] = S [e, c] from (SX.S_cat [e] [c]).symm]
            refine ⟨_, rfl, D, _, rfl, DGet.k (k := Sum.inr (S [e, c])) hD7, ?_⟩
            rw [setK_val, opt_some, hkey]
            exact ⟨_, rfl, hQ⟩
          · have hci := of_decide_eq_true hc
            refine ⟨_, rfl, _, rfl, _, rfl, d, _, rfl, DPut.k (k := Sum.inr (S [c])) hd7 (Nat.lt_of_le_of_lt (m := 1000) (by omega) (by decide)), ?_⟩
            refine ⟨_, putK kb (Sum.inr (S [c])) (.int (i : Nat)), rfl, same_mut s7 hd0, by rw [upd_ne nDd]; exact hD7, upd_same, by rw [upd_ne ndf.symm]; exact hf7, Nat.le_trans (putK_len _ _ _) (by omega), fun x hx => ?_, ?_⟩
            · rw [valV_put, if_neg (fun z => hx (by simpa using S_inj (Sum.inr.inj z)))]
              exact hV x hx
            · rw [valV_put, if_pos rfl, if_pos (by omega), hci]
          · have hci := of_decide_eq_false hc
            walk_at "nx"
            refine ⟨_, kb, rfl, s7, hD7, hd7, hf7, by omega, hV, ?_⟩
            rw [hVc]
            by_cases hlt : ixOf (plc src pre) (src c) < i
            · rw [if_pos hlt, if_pos (by omega)]
            · rw [if_neg hlt, if_neg (by omega)]
        · clear s6 hD6 hd6 hkl hV hf6
          rintro σ H7 ⟨v6, kb, rfl, s7, hD7, hd7, hf7, hkl, hV, hVc⟩
          rw [hfm] at hkl hVc
          walk_at "nx"
          refine if_K (!decide (ixOf (plc src pre) (src c) < fr.length)) (fun Q' hQ => ?_) (fun hc => ?_) (fun hc => ?_)
          · refine ⟨_, rfl, _, rfl, d, _, rfl, DGet.k (k := Sum.inr (S [c])) hd7, _, rfl, ?_⟩
            rw [hVc, opt_some]
            exact hQ
          · have hnew : ¬ ixOf (plc src pre) (src c) < fr.length := by simpa using hc
            have hnm : src c ∉ plc src pre := fun z => hnew (by rw [hfl]; exact ix_lt z)
            walk_at "nx"
            refine ⟨_, rfl, fl, _, rfl, .inl (SqL.of hf7), ?_⟩
            refine ⟨_, rfl, _, rfl, d, _, rfl, DPut.k (k := Sum.inr (S [c])) hd7 (Nat.lt_of_le_of_lt (m := 1000) (by omega) (by decide)), ?_⟩
            walk_at "nx"
            have hf8' : (upd H7 d (.dK (putK kb (Sum.inr (S [c])) (.int (fv.length : Nat))))) fl = some (.lst fv) := by rw [upd_ne ndf.symm]; exact hf7
            have hd8' : (upd H7 d (.dK (putK kb (Sum.inr (S [c])) (.int (fv.length : Nat))))) d = some (.dK (putK kb (Sum.inr (S [c])) (.int (fv.length : Nat)))) := upd_same
            have hD8' : (upd H7 d (.dK (putK kb (Sum.inr (S [c])) (.int (fv.length : Nat))))) D = some (.dK (setK em)) := by rw [upd_ne nDd]; exact hD7
            have s8 : Same H (upd H7 d (.dK (putK kb (Sum.inr (S [c])) (.int (fv.length : Nat))))) := same_mut s7 hd0
            generalize upd H7 d (.dK (putK kb (Sum.inr (S [c])) (.int (fv.length : Nat)))) = H8 at hf8' hd8' hD8' s8 ⊢
            refine ⟨_, rfl, .inl ⟨rfl, _, SqL.of hf8'⟩, ?_⟩
            refine ⟨_, rfl, ?_⟩
            refine tNil_mk ?_
            refine ⟨fl, _, _, rfl, rfl, hf8', Nat.lt_of_le_of_lt (m := 1000) (by omega) (by decide), ?_⟩
            refine ⟨_, _, _, _, putK kb (Sum.inr (S [c])) (.int (fv.length : Nat)), fr ++ [c], rfl, same_mut s8 hfl0, by rw [upd_ne nDf]; exact hD8', by rw [upd_ne ndf]; exact hd8', by rw [upd_same, ← hfe, List.map_append]; rfl, Nat.le_trans (putK_len _ _ _) (by rw [List.length_append, List.length_singleton]; omega), fun x hx => ?_, ?_, fun x => ?_⟩
            · rcases List.mem_append.mp hx with z | z
              · exact hfs x z
              · rw [List.mem_singleton] at z
                subst z
                exact hcs
            · rw [plc_snoc, List.map_append, hfp, addF, if_neg hnm]
              rfl
            · rw [plc_snoc, valV_put]
              by_cases ex : x = c
              · subst ex
                rw [if_pos rfl, if_pos (by simp), addF_new hnm, ← hfl, hmf]
              · rw [if_neg (fun z => ex (by simpa using S_inj (Sum.inr.inj z))), hV x ex]
                by_cases hx : x ∈ pre
                · rw [if_pos hx, if_pos (by simp [hx]), addF_idx (mem_plc.mpr ⟨x, hx, rfl⟩)]
                · rw [if_neg hx, if_neg (by simp [hx, ex])]
          · have hold : ixOf (plc src pre) (src c) < fr.length := by simpa using hc
            have hmem : src c ∈ plc src pre := by
              rw [hfl] at hold
              exact List.mem_of_getElem? (idx_get hold)
            walk_at "nx"
            refine ⟨_, _, _, _, kb, fr, rfl, s7, hD7, hd7, by rw [hfe]; exact hf7, by rw [List.length_append, List.length_singleton]; omega, hfs, ?_, fun x => ?_⟩
            · rw [plc_snoc, hfp, addF, if_pos hmem]
            · rw [plc_snoc]
              by_cases ex : x = c
              · subst ex
                rw [hVc, if_pos hold, if_pos (by simp), addF_idx hmem]
              · rw [hV x ex]
                by_cases hx : x ∈ pre
                · rw [if_pos hx, if_pos (by simp [hx]), addF_idx (mem_plc.mpr ⟨x, hx, rfl⟩)]
                · rw [if_neg hx, if_neg (by simp [hx, ex])]
      · rintro σ H6 ⟨v5, v6, v7, v8, kb, fr, rfl, s6, hD6, hd6, hf6, hkl, hfs, hfp, hV⟩
        walk_at "nx"
        refine ⟨_, rfl, p, CB, dx, fs, _, rfl, s6 _ _ hp, cl, T.n_Book_signs, g1, _, rfl, fun D2 hD2 => ?_⟩
        refine dc_str (l := sg) (fun pre H7 => ∃ kvs, H7 D2 = some (.dK kvs) ∧ PdAt H7 kvs pre (fun c => (ixOf (plc src sg) (src c), ixOf (plc src sg) (tgt c))) ∧ Same H6 H7) ⟨[], upd_same, ⟨rfl, Items.nil⟩, same_new hD2⟩ ?_ ?_
        · rintro pre c post H7 esg ⟨kvs, h7, pd, s7⟩
          have hcs : c ∈ sg := by rw [esg]; simp
          have hpre : pre.length + 1 ≤ 8 := by
            have := congrArg List.length esg
            simp at this
            omega
          have hcn : c ∉ pre := fun z => by
            rw [esg, List.nodup_append] at hnd
            exact hnd.2.2 c z c List.mem_cons_self rfl
          obtain ⟨e, he, hv, r1, r2⟩ := hU c hcs
          have htc : tgt c = src e := (hcmp c hcs e he).mp ⟨_, r1⟩
          have hlk : kvs.length = pre.length := by have := congrArg List.length pd.1; simpa using this
          refine ⟨rfl, ty_T ?_⟩
          refine ⟨_, rfl, ?_⟩
          refine ⟨_, rfl, _, rfl, d, _, rfl, by rw [show (some (V.int ((ixOf (plc src sg) (src c) : Nat) : Int))) = valV kb (Sum.inr (S [c])) by rw [hV c, if_pos hcs]]; exact DGet.k (k := Sum.inr (S [c])) (s7 _ _ hd6), ?_⟩
          refine ⟨_, rfl, _, rfl, _, rfl, u, _, rfl, by rw [← hv]; exact DGet.k (k := Sum.inr (S [c])) (s7 _ _ (s6 _ _ hu0)), ?_⟩
          refine ⟨d, _, rfl, by rw [show (some (V.int ((ixOf (plc src sg) (src e) : Nat) : Int))) = valV kb (Sum.inr (S [e])) by rw [hV e, if_pos he]]; exact DGet.k (k := Sum.inr (S [e])) (s7 _ _ hd6), ?_⟩
          refine tNil_mk ?_
          refine ⟨by walk_at "sz", fun pt hpt => ?_⟩
          have sN := same_new (o := .tup [.int (ixOf (plc src sg) (src c) : Nat), .int (ixOf (plc src sg) (src e) : Nat)]) hpt
          have eN : (upd H7 pt (.tup [.int (ixOf (plc src sg) (src c) : Nat), .int (ixOf (plc src sg) (src e) : Nat)])) pt = some (.tup [.int (ixOf (plc src sg) (src c) : Nat), .int (ixOf (plc src sg) (src e) : Nat)]) := upd_same
          generalize upd H7 pt (.tup [.int (ixOf (plc src sg) (src c) : Nat), .int (ixOf (plc src sg) (src e) : Nat)]) = H8 at sN eN ⊢
          have h8 := sN _ _ h7
          have tpk : ∀ (b : Addr) (xs : List V) (o : List (Key × V)), H8 b = some (.tup xs) → (upd H8 D2 (.dK o)) b = some (.tup xs) := fun b xs o z => by rw [upd_ne (ne_of z h8 (by intro w; cases w))]; exact z
          refine ⟨kvs, (Sum.inr (S [c]) : Key), rfl, h8, Nat.lt_of_le_of_lt (m := 1000) (by omega) (by decide), putK kvs (Sum.inr (S [c])) (.ref pt), upd_same, ⟨?_, ?_⟩, same_mut (s7.trans sN) hD2⟩
          · rw [putK_new _ (key_none pd.1 hcn), List.map_append, List.map_append, pd.1]
            rfl
          · rw [putK_new _ (key_none pd.1 hcn), List.map_append, List.map_append]
            exact pd.2.snoc (fun x y ⟨q, e1, z⟩ => ⟨q, e1, tpk _ _ _ (sN _ _ z)⟩) ⟨pt, rfl, tpk _ _ _ (by show H8 pt = some (.tup [.int (ixOf (plc src sg) (src c) : Nat), .int (ixOf (plc src sg) (tgt c) : Nat)]); rw [htc]; exact eN)⟩
        · rintro H7 ⟨kvs, h7, pd, s7⟩
          exact k D2 kvs H7 h7 pd (s6.trans s7) (same_none s6 hD2)
end
end Sh
set_option Elab.async false
set_option linter.all false
set_option maxRecDepth 100000
set_option maxHeartbeats 4000000
namespace Sh
open PySem PySem.Spec PyProof.Rows L2
open SX (S S_inj S_len S_cat)
open Bk (Rule left Wf Meets Reach Step IsEnd over res1 res2)
/-! group books: plain -/
structure GB (sh : List (Nat × Nat)) (sg : List Nat) (ar : List Arr) (R : List Ru) : Prop where
  gs : GoodSh sh
  perm : ar.Perm (arrows sh)
  pl : ∃ pl ∈ pools, sg = pl.take ar.length
  rp : R.Perm (gI sh sg ar sg.length)
def aof (sg : List Nat) (ar : List Arr) (c : Nat) : Arr := ar.getD (sg.idxOf c) (0, 0, 0, 0)
abbrev cod (sh : List (Nat × Nat)) (k : Nat) : Nat := (sh.getD k (0, 0)).1
abbrev man (sh : List (Nat × Nat)) (k : Nat) : Nat := (sh.getD k (0, 0)).2
structure Val (sh : List (Nat × Nat)) (a : Arr) : Prop where
  k : a.1 < sh.length
  i : a.2.1 < man sh a.1
  j : a.2.2.2 < man sh a.1
  g : a.2.2.1 < Gp.ordT (cod sh a.1)
def IsId (a : Arr) : Prop := a.2.1 = a.2.2.2 ∧ a.2.2.1 = 0
instance (a : Arr) : Decidable (IsId a) := by unfold IsId; infer_instance
def srcA (a : Arr) : Nat × Nat := (a.1, a.2.1)
def tgtA (a : Arr) : Nat × Nat := (a.1, a.2.2.2)
theorem comp_iff {a b : Arr} : compA a b = true ↔ tgtA a = srcA b := by
  unfold compA tgtA srcA
  simp
theorem mem_arrows {sh : List (Nat × Nat)} {a : Arr} : a ∈ arrows sh ↔ Val sh a ∧ ¬ IsId a := by
  constructor
  · intro h
    obtain ⟨h1, h2, h3, h4, h5⟩ := arrows_mem h
    exact ⟨⟨h1, h2, h3, h4⟩, fun z => h5.elim (fun n => n z.1) fun n => n z.2⟩
  · rintro ⟨h, hn⟩
    unfold arrows arrK
    refine List.mem_flatMap.mpr ⟨a.1, List.mem_range.mpr h.k, ?_⟩
    unfold arrI
    refine List.mem_flatMap.mpr ⟨a.2.1, List.mem_range.mpr h.i, ?_⟩
    unfold arrJ
    refine List.mem_flatMap.mpr ⟨a.2.2.2, List.mem_range.mpr h.j, ?_⟩
    unfold arrG
    refine List.mem_map.mpr ⟨a.2.2.1, List.mem_filter.mpr ⟨List.mem_range.mpr h.g, ?_⟩, rfl⟩
    by_cases e : a.2.1 = a.2.2.2
    · have : a.2.2.1 ≠ 0 := fun z => hn ⟨e, z⟩
      simp [this]
    · simp [e]
theorem menu_ord : ∀ s ∈ menuL, 2 ≤ Gp.ordT s.1 ∨ 2 ≤ s.2 := by decide
theorem menu_c : ∀ s ∈ menuL, s.1 < 9 ∧ 1 ≤ s.2 ∧ 1 ≤ Gp.ordT s.1 := by decide
theorem pools_signs : ∀ pl ∈ pools, ∀ n < 9, 0 < n → isSigns (pl.take n) = true := by decide +kernel
section
variable {sh : List (Nat × Nat)} {sg : List Nat} {ar : List Arr} {R : List Ru} (G : GB sh sg ar R)
include G
theorem GB.al8 : ar.length ≤ 8 := by rw [G.perm.length_eq]; exact G.gs.l8
theorem GB.sk {k : Nat} (h : k < sh.length) : sh.getD k (0, 0) ∈ menuL := by
  refine G.gs.mem _ ?_
  rw [List.getD_eq_getElem?_getD, List.getElem?_eq_getElem h]
  exact List.getElem_mem h
theorem GB.cd {k : Nat} (h : k < sh.length) : cod sh k < 9 ∧ 1 ≤ man sh k ∧ 1 ≤ Gp.ordT (cod sh k) := menu_c _ (G.sk h)
theorem GB.len : sg.length = ar.length := by
  obtain ⟨pl, hp, e⟩ := G.pl
  have h := (pools_nd pl hp).2
  have := G.al8
  rw [e, List.length_take]
  omega
theorem GB.l8 : sg.length ≤ 8 := by rw [G.len]; exact G.al8
theorem GB.nd : sg.Nodup := by
  obtain ⟨pl, hp, e⟩ := G.pl
  rw [e]
  exact (pools_nd pl hp).1.sublist (List.take_sublist _ _)
theorem GB.and : ar.Nodup := G.perm.symm.nodup (arrows_nodup sh)
theorem GB.pos : 0 < ar.length := by
  obtain ⟨s, hs⟩ := List.exists_mem_of_ne_nil _ G.gs.ne
  obtain ⟨k, hk, e⟩ := List.getElem_of_mem hs
  have hg : sh.getD k (0, 0) = s := by rw [List.getD_eq_getElem?_getD, List.getElem?_eq_getElem hk, e]; rfl
  have hc := G.cd hk
  have ho := menu_ord s (G.gs.mem s hs)
  obtain ⟨a, ha⟩ : ∃ a, a ∈ arrows sh := by
    rcases ho with h | h
    · exact ⟨(k, 0, 1, 0), mem_arrows.mpr ⟨⟨hk, by show 0 < man sh k; omega, by show 0 < man sh k; omega, by show 1 < Gp.ordT (sh.getD k (0, 0)).1; rw [hg]; omega⟩, fun z => by cases z.2⟩⟩
    · exact ⟨(k, 0, 0, 1), mem_arrows.mpr ⟨⟨hk, by show 0 < man sh k; omega, by show 1 < (sh.getD k (0, 0)).2; rw [hg]; omega, by show 0 < Gp.ordT (cod sh k); omega⟩, fun z => by cases z.1⟩⟩
  exact List.length_pos_of_mem (G.perm.mem_iff.mpr ha)
theorem GB.signs : isSigns sg = true := by
  obtain ⟨pl, hp, e⟩ := G.pl
  rw [e]
  exact pools_signs pl hp _ (by have := G.al8; omega) G.pos
theorem GB.aof_at {t c : Nat} {a : Arr} (h : sg[t]? = some c) (h2 : ar[t]? = some a) : aof sg ar c = a := by
  unfold aof
  obtain ⟨ht, rfl⟩ := List.getElem?_eq_some_iff.mp h
  rw [G.nd.idxOf_getElem t ht, List.getD_eq_getElem?_getD, h2]
  rfl
theorem GB.at_of {c : Nat} (h : c ∈ sg) : ∃ t : Nat, sg[t]? = some c ∧ ar[t]? = some (aof sg ar c) := by
  obtain ⟨t, ht, e⟩ := List.getElem_of_mem h
  have h1 : sg[t]? = some c := by rw [List.getElem?_eq_getElem ht, e]
  have h2 : ar[t]? = some (ar[t]'(by rw [← G.len]; exact ht)) := List.getElem?_eq_getElem (by rw [← G.len]; exact ht)
  exact ⟨t, h1, h2.trans (congrArg some (G.aof_at h1 h2).symm)⟩
theorem GB.aof_mem {c : Nat} (h : c ∈ sg) : aof sg ar c ∈ ar := by
  obtain ⟨t, _, h2⟩ := G.at_of h
  exact List.mem_of_getElem? h2
theorem GB.mem {a : Arr} : a ∈ ar ↔ Val sh a ∧ ¬ IsId a := by rw [G.perm.mem_iff, mem_arrows]
theorem GB.val {c : Nat} (h : c ∈ sg) : Val sh (aof sg ar c) := (G.mem.mp (G.aof_mem h)).1
theorem GB.nid {c : Nat} (h : c ∈ sg) : ¬ IsId (aof sg ar c) := (G.mem.mp (G.aof_mem h)).2
theorem GB.sgn_mem {a : Arr} (h : a ∈ ar) : ∃ c ∈ sg, aof sg ar c = a ∧ sgn sg ar a = [c] := by
  obtain ⟨t, ht, rfl⟩ := List.getElem_of_mem h
  have h2 : ar[t]? = some ar[t] := List.getElem?_eq_getElem ht
  have h1 : sg[t]? = some (sg[t]'(by rw [G.len]; exact ht)) := List.getElem?_eq_getElem (by rw [G.len]; exact ht)
  refine ⟨_, List.mem_of_getElem? h1, G.aof_at h1 h2, ?_⟩
  unfold sgn
  rw [G.and.idxOf_getElem t ht, h1]
  rfl
theorem GB.sgn_no {a : Arr} (h : a ∉ ar) : sgn sg ar a = [] := by
  unfold sgn
  rw [List.idxOf_eq_length h, List.getElem?_eq_none (by rw [G.len]; exact Nat.le_refl _)]
  rfl
theorem GB.sgn_id {a : Arr} (h : IsId a) : sgn sg ar a = [] := G.sgn_no fun z => (G.mem.mp z).2 h
theorem GB.sgn_aof {c : Nat} (h : c ∈ sg) : sgn sg ar (aof sg ar c) = [c] := by
  obtain ⟨t, h1, h2⟩ := G.at_of h
  unfold sgn
  obtain ⟨ht, e⟩ := List.getElem?_eq_some_iff.mp h2
  rw [← e, G.and.idxOf_getElem t ht, h1]
  rfl
theorem GB.aof_inj {c d : Nat} (hc : c ∈ sg) (hd : d ∈ sg) (e : aof sg ar c = aof sg ar d) : c = d := by
  have := G.sgn_aof hc
  rw [e, G.sgn_aof hd] at this
  simpa using this.symm
theorem GB.sgn_len (a : Arr) : (sgn sg ar a).length ≤ 1 := by
  by_cases h : a ∈ ar
  · obtain ⟨c, _, _, e⟩ := G.sgn_mem h
    rw [e]; simp
  · rw [G.sgn_no h]; simp
theorem GB.sgn_sub (a : Arr) : ∀ c ∈ sgn sg ar a, c ∈ sg := by
  by_cases h : a ∈ ar
  · obtain ⟨c, hc, _, e⟩ := G.sgn_mem h
    rw [e]; simpa using hc
  · rw [G.sgn_no h]; simp
theorem GB.sgn_inj {a b : Arr} (ha : Val sh a) (hb : Val sh b) (s : srcA a = srcA b) (e : sgn sg ar a = sgn sg ar b) : a = b := by
  by_cases h : IsId a
  · have h2 : IsId b := by
      refine Decidable.byContradiction fun z => ?_
      obtain ⟨c, _, _, z2⟩ := G.sgn_mem (G.mem.mpr ⟨hb, z⟩)
      rw [G.sgn_id h, z2] at e
      cases e
    obtain ⟨a1, a2, a3, a4⟩ := a
    obtain ⟨b1, b2, b3, b4⟩ := b
    simp only [srcA, Prod.mk.injEq, IsId] at s h h2
    obtain ⟨rfl, rfl⟩ := s
    obtain ⟨rfl, rfl⟩ := h
    obtain ⟨rfl, rfl⟩ := h2
    rfl
  · obtain ⟨c, hc, e1, z1⟩ := G.sgn_mem (G.mem.mpr ⟨ha, h⟩)
    have h2 : ¬ IsId b := fun z => by rw [z1, G.sgn_id z] at e; cases e
    obtain ⟨d, hd, e2, z2⟩ := G.sgn_mem (G.mem.mpr ⟨hb, h2⟩)
    rw [z1, z2] at e
    simp only [List.cons.injEq, and_true] at e
    rw [← e1, ← e2, e]
theorem GB.mem_R {r : Ru} : r ∈ R ↔ ∃ c ∈ sg, ∃ d ∈ sg, tgtA (aof sg ar c) = srcA (aof sg ar d) ∧ r = ([c, d], sgn sg ar (mulA sh (aof sg ar c) (aof sg ar d))) := by
  rw [G.rp.mem_iff]
  unfold gI gJ
  rw [List.mem_flatMap]
  constructor
  · rintro ⟨t, ht, h⟩
    obtain ⟨u, hu, h⟩ := List.mem_filterMap.mp h
    rw [List.mem_range] at ht hu
    have h1 : sg[t]? = some sg[t] := List.getElem?_eq_getElem ht
    have h2 : sg[u]? = some sg[u] := List.getElem?_eq_getElem hu
    have h3 : ar[t]? = some (ar[t]'(by rw [← G.len]; exact ht)) := List.getElem?_eq_getElem (by rw [← G.len]; exact ht)
    have h4 : ar[u]? = some (ar[u]'(by rw [← G.len]; exact hu)) := List.getElem?_eq_getElem (by rw [← G.len]; exact hu)
    unfold gRule at h
    rw [h1, h2, h3, h4] at h
    dsimp only at h
    split at h
    · rename_i hc
      refine ⟨_, List.mem_of_getElem? h1, _, List.mem_of_getElem? h2, ?_, ?_⟩
      · rw [G.aof_at h1 h3, G.aof_at h2 h4]
        exact comp_iff.mp hc
      · rw [G.aof_at h1 h3, G.aof_at h2 h4]
        exact (Option.some.inj h).symm
    · cases h
  · rintro ⟨c, hc, d, hd, hcd, rfl⟩
    obtain ⟨t, h1, h3⟩ := G.at_of hc
    obtain ⟨u, h2, h4⟩ := G.at_of hd
    refine ⟨t, List.mem_range.mpr (List.getElem?_eq_some_iff.mp h1).1, List.mem_filterMap.mpr ⟨u, List.mem_range.mpr (List.getElem?_eq_some_iff.mp h2).1, ?_⟩⟩
    unfold gRule
    rw [h1, h2, h3, h4]
    dsimp only
    rw [if_pos (comp_iff.mpr hcd)]
theorem GB.mul_val {a b : Arr} (ha : Val sh a) (hb : Val sh b) (h : tgtA a = srcA b) : Val sh (mulA sh a b) := by
  obtain ⟨a1, a2, a3, a4⟩ := a
  obtain ⟨b1, b2, b3, b4⟩ := b
  simp only [tgtA, srcA, Prod.mk.injEq] at h
  obtain ⟨rfl, rfl⟩ := h
  exact ⟨ha.k, ha.i, hb.j, Gp.mul_lt _ (G.cd ha.k).1 _ ha.g _ hb.g⟩
omit G in
theorem GB.mul_tgt {a b : Arr} (h : tgtA a = srcA b) : tgtA (mulA sh a b) = tgtA b := by
  obtain ⟨a1, a2, a3, a4⟩ := a
  obtain ⟨b1, b2, b3, b4⟩ := b
  simp only [tgtA, srcA, Prod.mk.injEq] at h
  obtain ⟨rfl, rfl⟩ := h
  rfl
omit G in
theorem GB.mul_src {a b : Arr} : srcA (mulA sh a b) = srcA a := rfl
theorem GB.mul_idl {a b : Arr} (hb : Val sh b) (h : tgtA a = srcA b) (i : IsId a) : mulA sh a b = b := by
  obtain ⟨a1, a2, a3, a4⟩ := a
  obtain ⟨b1, b2, b3, b4⟩ := b
  simp only [tgtA, srcA, Prod.mk.injEq, IsId] at h i
  obtain ⟨rfl, rfl⟩ := h
  obtain ⟨rfl, rfl⟩ := i
  show (a1, a2, Gp.mulT (cod sh a1) 0 b3, b4) = _
  rw [(Gp.mul_one _ (G.cd hb.k).1 _ hb.g).2]
theorem GB.mul_idr {a b : Arr} (ha : Val sh a) (h : tgtA a = srcA b) (i : IsId b) : mulA sh a b = a := by
  obtain ⟨a1, a2, a3, a4⟩ := a
  obtain ⟨b1, b2, b3, b4⟩ := b
  simp only [tgtA, srcA, Prod.mk.injEq, IsId] at h i
  obtain ⟨rfl, rfl⟩ := h
  obtain ⟨rfl, rfl⟩ := i
  show (a1, a2, Gp.mulT (cod sh a1) a3 0, _) = _
  rw [(Gp.mul_one _ (G.cd ha.k).1 _ ha.g).1]
theorem GB.mul_as {a b c : Arr} (ha : Val sh a) (hb : Val sh b) (hc : Val sh c) (h : tgtA a = srcA b) (h2 : tgtA b = srcA c) : mulA sh (mulA sh a b) c = mulA sh a (mulA sh b c) := by
  obtain ⟨a1, a2, a3, a4⟩ := a
  obtain ⟨b1, b2, b3, b4⟩ := b
  obtain ⟨c1, c2, c3, c4⟩ := c
  simp only [tgtA, srcA, Prod.mk.injEq] at h h2
  obtain ⟨rfl, rfl⟩ := h
  obtain ⟨rfl, rfl⟩ := h2
  show (a1, a2, Gp.mulT (cod sh a1) (Gp.mulT (cod sh a1) a3 b3) c3, c4) = (a1, a2, Gp.mulT (cod sh a1) a3 (Gp.mulT (cod sh a1) b3 c3), c4)
  rw [Gp.mul_assoc _ (G.cd ha.k).1 _ ha.g _ hb.g _ hc.g]
theorem GB.inv {a : Arr} (ha : Val sh a) : ∃ b, Val sh b ∧ srcA b = tgtA a ∧ tgtA b = srcA a ∧ IsId (mulA sh a b) ∧ IsId (mulA sh b a) ∧ (IsId b → IsId a) := by
  obtain ⟨a1, a2, a3, a4⟩ := a
  obtain ⟨h, hl, h1, h2⟩ := Gp.mul_inv _ (G.cd ha.k).1 _ ha.g
  refine ⟨(a1, a4, h, a2), ⟨ha.k, ha.j, ha.i, hl⟩, rfl, rfl, ⟨rfl, h1⟩, ⟨rfl, h2⟩, ?_⟩
  rintro ⟨e1, e2⟩
  have e1 : a4 = a2 := e1
  have e2 : h = 0 := e2
  subst e2
  refine ⟨e1.symm, ?_⟩
  have := (Gp.mul_one _ (G.cd ha.k).1 _ ha.g).1
  exact this.symm.trans h1
theorem GB.inv_sg {c : Nat} (hc : c ∈ sg) : ∃ e ∈ sg, srcA (aof sg ar e) = tgtA (aof sg ar c) ∧ tgtA (aof sg ar e) = srcA (aof sg ar c) ∧ IsId (mulA sh (aof sg ar c) (aof sg ar e)) ∧ IsId (mulA sh (aof sg ar e) (aof sg ar c)) := by
  obtain ⟨b, hb, h1, h2, h3, h4, h5⟩ := G.inv (G.val hc)
  obtain ⟨e, he, rfl, _⟩ := G.sgn_mem (G.mem.mpr ⟨hb, fun z => G.nid hc (h5 z)⟩)
  exact ⟨e, he, h1, h2, h3, h4⟩
theorem GB.two : Two sg R where
  l2 r hr := by
    obtain ⟨c, _, d, _, _, rfl⟩ := G.mem_R.mp hr
    rfl
  fn r hr q hq e := by
    obtain ⟨c, _, d, _, _, rfl⟩ := G.mem_R.mp hr
    obtain ⟨c', _, d', _, _, rfl⟩ := G.mem_R.mp hq
    simp only [List.cons.injEq, and_true] at e
    rw [e.1, e.2]
  inv c hc := by
    obtain ⟨e, he, h1, h2, h3, h4⟩ := G.inv_sg hc
    exact ⟨e, he, G.mem_R.mpr ⟨c, hc, e, he, h1.symm, by rw [G.sgn_id h3]⟩, G.mem_R.mpr ⟨e, he, c, hc, h2, by rw [G.sgn_id h4]⟩⟩
theorem GB.cmp {c d : Nat} (hc : c ∈ sg) (hd : d ∈ sg) : (∃ w, ([c, d], w) ∈ R) ↔ tgtA (aof sg ar c) = srcA (aof sg ar d) := by
  constructor
  · rintro ⟨w, h⟩
    obtain ⟨c', _, d', _, h2, e⟩ := G.mem_R.mp h
    simp only [Prod.mk.injEq, List.cons.injEq, and_true] at e
    obtain ⟨⟨rfl, rfl⟩, _⟩ := e
    exact h2
  · intro h
    exact ⟨_, G.mem_R.mpr ⟨c, hc, d, hd, h, rfl⟩⟩
theorem GB.ok : BookOk sg R := by
  refine ⟨G.signs, ?_, fun r hr => ?_, ?_⟩
  · rw [G.rp.length_eq]
    exact Nat.le_trans (gI_len _ _ _ _) (Nat.le_trans (Nat.mul_le_mul G.l8 G.l8) (by decide))
  · obtain ⟨c, hc, d, hd, _, rfl⟩ := G.mem_R.mp hr
    have h1 := G.sgn_len (mulA sh (aof sg ar c) (aof sg ar d))
    refine ⟨by simp, by simp, by simp [hc, hd], G.sgn_sub _, h1, ?_⟩
    simp only [List.length_cons, List.length_nil]
    omega
  · refine G.rp.symm.nodup ?_
    unfold gI
    refine fm_nodup _ _ (fun t ht => ?_) fun t u x htu h h' => ?_
    · unfold gJ
      refine List.pairwise_filterMap.mpr (List.nodup_range.imp fun {u v} huv x hx y hy e => huv ?_)
      subst e
      unfold gRule at hx hy
      split at hx
      · rename_i a b x1 y1 e1 e2 e3 e4
        split at hx
        · rw [e1, e3] at hy
          split at hy
          · rename_i a' b' x1' y1' f1 f2 f3 f4
            split at hy
            · cases hx
              have := Option.some.inj hy
              simp only [Prod.mk.injEq, List.cons.injEq, and_true] at this
              obtain ⟨⟨_, h2⟩, _⟩ := this
              rw [h2] at f4
              exact (List.getElem?_inj (List.getElem?_eq_some_iff.mp e4).1 G.nd).mp (e4.trans f4.symm)
            · cases hy
          · cases hy
        · cases hx
      · cases hx
    · unfold gJ at h h'
      obtain ⟨v, _, hx⟩ := List.mem_filterMap.mp h
      obtain ⟨v', _, hy⟩ := List.mem_filterMap.mp h'
      unfold gRule at hx hy
      split at hx
      · rename_i a b x1 y1 e1 e2 e3 e4
        split at hx
        · split at hy
          · rename_i a' b' x1' y1' f1 f2 f3 f4
            split at hy
            · cases hx
              have := Option.some.inj hy
              simp only [Prod.mk.injEq, List.cons.injEq, and_true] at this
              obtain ⟨⟨h2, _⟩, _⟩ := this
              rw [h2] at f3
              exact htu ((List.getElem?_inj (List.getElem?_eq_some_iff.mp e3).1 G.nd).mp (e3.trans f3.symm))
            · cases hy
          · cases hy
        · cases hx
      · cases hx
theorem GB.left_l {b : Arr} {d : Nat} (hb : Val sh b) (hd : d ∈ sg) (h : tgtA b = srcA (aof sg ar d)) : left R (sgn sg ar b ++ [d]) = sgn sg ar (mulA sh b (aof sg ar d)) := by
  by_cases i : IsId b
  · rw [G.sgn_id i, G.mul_idl (G.val hd) h i, G.sgn_aof hd]
    exact Bk.left_of_end (end_short G.two (by simp))
  · obtain ⟨c, hc, rfl, e⟩ := G.sgn_mem (G.mem.mpr ⟨hb, i⟩)
    rw [e]
    exact two_left G.two G.ok.wf (G.mem_R.mpr ⟨c, hc, d, hd, h, rfl⟩)
theorem GB.left_r {b : Arr} {c : Nat} (hb : Val sh b) (hc : c ∈ sg) (h : tgtA (aof sg ar c) = srcA b) : left R ([c] ++ sgn sg ar b) = sgn sg ar (mulA sh (aof sg ar c) b) := by
  by_cases i : IsId b
  · rw [G.sgn_id i, G.mul_idr (G.val hc) h i, G.sgn_aof hc]
    exact Bk.left_of_end (end_short G.two (by simp))
  · obtain ⟨d, hd, rfl, e⟩ := G.sgn_mem (G.mem.mpr ⟨hb, i⟩)
    rw [e]
    exact two_left G.two G.ok.wf (G.mem_R.mpr ⟨c, hc, d, hd, h, rfl⟩)
theorem GB.meets : Meets R := by
  intro r hr q hq k hk t ho
  have h2 := G.two
  have l1 := h2.l2 r hr
  obtain ⟨c, hc, d, hd, hcd, rfl⟩ := G.mem_R.mp hr
  obtain ⟨c', hc', d', hd', hcd', rfl⟩ := G.mem_R.mp hq
  have hk2 : k < 2 := hk
  obtain rfl | rfl : k = 0 ∨ k = 1 := by omega
  · unfold over at ho
    split at ho
    · rename_i e
      simp only [List.drop_zero, List.length_cons, List.length_nil] at e
      have e' : [c, d] = [c', d'] := e
      simp only [List.cons.injEq, and_true] at e'
      obtain ⟨rfl, rfl⟩ := e'
      have et : t = [c, d] := by simpa using ho.symm
      subst et
      simp [res1, res2]
    · cases ho
  · unfold over at ho
    split at ho
    · rename_i e
      have e' : [d] = [c'] := e
      simp only [List.cons.injEq, and_true] at e'
      subst e'
      have et : t = [c, d, d'] := by simpa using ho.symm
      subst et
      show left R (sgn sg ar _ ++ [d']) = left R ([c] ++ sgn sg ar _ ++ [])
      rw [List.append_nil, G.left_l (G.mul_val (G.val hc) (G.val hd) hcd) hd' ((GB.mul_tgt hcd).trans hcd'), G.left_r (G.mul_val (G.val hd) (G.val hd') hcd') hc hcd, G.mul_as (G.val hc) (G.val hd) (G.val hd') hcd hcd']
    · cases ho
theorem GB.qu : Bk.quarrel R = none := quarrel_of_meets G.meets
end
end Sh
set_option Elab.async false
set_option linter.all false
set_option maxRecDepth 100000
set_option maxHeartbeats 4000000
namespace Sh
open PySem PySem.Spec PyProof.Rows L2
open SX (S S_inj S_len S_cat)
open Bk (Rule left Wf Meets Reach Step IsEnd)
/-! texts of a group book: undoing, powers, orders -/
/-- the same meaning -/
def Eq2 (R : List Ru) (x y : List Nat) : Prop := left R x = left R y
def uS (R : List Ru) (sg : List Nat) (c : Nat) : Nat := (sg.find? fun e => decide (([c, e], ([] : List Nat)) ∈ R)).getD 0
def invS (R : List Ru) (sg t : List Nat) : List Nat := (t.map (uS R sg)).reverse
def pw (t : List Nat) (n : Nat) : List Nat := (List.replicate n t).flatten
theorem pw_succ (t : List Nat) (n : Nat) : pw t (n + 1) = pw t n ++ t := by
  unfold pw
  rw [List.replicate_succ', List.flatten_append]
  simp
theorem pw_succ' (t : List Nat) (n : Nat) : pw t (n + 1) = t ++ pw t n := by
  unfold pw
  rw [List.replicate_succ]
  rfl
theorem pw_len (t : List Nat) (n : Nat) : (pw t n).length = n * t.length := by
  induction n with
  | zero => simp [pw]
  | succ n ih => rw [pw_succ, List.length_append, ih, Nat.succ_mul]
theorem pw_mem {t : List Nat} {n : Nat} {c : Nat} (h : c ∈ pw t n) : c ∈ t := by
  unfold pw at h
  obtain ⟨l, hl, hc⟩ := List.mem_flatten.mp h
  rw [(List.mem_replicate.mp hl).2] at hc
  exact hc
theorem invS_cons (R : List Ru) (sg : List Nat) (c : Nat) (t : List Nat) : invS R sg (c :: t) = invS R sg t ++ [uS R sg c] := by unfold invS; simp
theorem invS_app (R : List Ru) (sg s t : List Nat) : invS R sg (s ++ t) = invS R sg t ++ invS R sg s := by unfold invS; simp
theorem invS_len (R : List Ru) (sg t : List Nat) : (invS R sg t).length = t.length := by unfold invS; simp
/-- the least number of times from 1 to 9 that leaves nothing -/
def isP (R : List Ru) (t : List Nat) (n : Nat) : Bool := decide (left R (pw t n) = [])
def ordW (R : List Ru) (t : List Nat) : Option Nat := ((List.range 9).map fun j => 1 + j).find? (isP R t)
/-- no two neighbours are a left side -/
def Adj (R : List Ru) : List Nat → Prop
  | a :: b :: t => (∀ w, ([a, b], w) ∉ R) ∧ Adj R (b :: t)
  | _ => True
theorem adj_app {R : List Ru} : ∀ {s t : List Nat}, Adj R s → Adj R t → (∀ a b, s.getLast? = some a → t.head? = some b → ∀ w, ([a, b], w) ∉ R) → Adj R (s ++ t)
  | [], t, _, h, _ => h
  | [a], [], _, _, _ => trivial
  | [a], b :: t, _, h, k => ⟨k a b rfl rfl, h⟩
  | a :: b :: s, t, h, h2, k => ⟨h.1, adj_app (s := b :: s) h.2 h2 fun x y hx hy => k x y (by rw [List.getLast?_cons_cons]; exact hx) hy⟩
theorem adj_l {R : List Ru} : ∀ {s t : List Nat}, Adj R (s ++ t) → Adj R s
  | [], _, _ => trivial
  | [_], _, _ => trivial
  | a :: b :: s, t, h => ⟨h.1, adj_l (s := b :: s) h.2⟩
theorem adj_r {R : List Ru} : ∀ {s t : List Nat}, Adj R (s ++ t) → Adj R t
  | [], _, h => h
  | [a], [], _ => trivial
  | [a], _ :: _, h => h.2
  | a :: b :: s, t, h => adj_r (s := b :: s) h.2
theorem adj_at {R : List Ru} {x y : List Nat} {a b : Nat} (h : Adj R (x ++ [a, b] ++ y)) : ∀ w, ([a, b], w) ∉ R := by
  rw [List.append_assoc] at h
  exact (adj_r h).1
theorem Two.end_iff {sg : List Nat} {R : List Ru} (h2 : Two sg R) {t : List Nat} : IsEnd R t ↔ Adj R t := by
  rw [Bk.isEnd_iff]
  constructor
  · intro h
    induction t with
    | nil => trivial
    | cons a t ih =>
      cases t with
      | nil => trivial
      | cons b t =>
        refine ⟨fun w hw => h _ hw [] t rfl, ih fun r hr x y e => h r hr (a :: x) y (by rw [e]; rfl)⟩
  · rintro h r hr x y rfl
    have hl := h2.l2 r hr
    obtain ⟨l, w⟩ := r
    match l, hl with
    | [a, b], _ => exact adj_at h w hr
/-- a core goes round -/
theorem adj_pw {R : List Ru} {t : List Nat} (h : Adj R (t ++ t)) : ∀ n, Adj R (pw t n) := by
  intro n
  have ht := adj_l h
  cases t with
  | nil =>
    have : pw [] n = [] := List.eq_nil_of_length_eq_zero (by rw [pw_len]; simp)
    rw [this]
    trivial
  | cons a t =>
    induction n with
    | zero => trivial
    | succ n ih =>
      rw [pw_succ]
      refine adj_app ih ht fun x y hx hy w hw => ?_
      have hy : y = a := by simpa using hy.symm
      subst hy
      cases n with
      | zero => cases hx
      | succ n =>
        have hx2 : (y :: t).getLast? = some x := by
          rw [pw_succ, List.getLast?_append] at hx
          cases e : (y :: t).getLast? with
          | none => simp at e
          | some z => rw [e] at hx; exact hx
        obtain ⟨s, e⟩ : ∃ s, y :: t = s ++ [x] := by
          have := List.dropLast_concat_getLast (l := y :: t) (by simp)
          rw [List.getLast?_eq_some_getLast (by simp)] at hx2
          exact ⟨_, by rw [← this]; rw [Option.some.inj hx2]⟩
        have h' := h
        rw [show (y :: t) ++ (y :: t) = s ++ [x, y] ++ t by
          conv => lhs; lhs; rw [e]
          simp] at h'
        exact adj_at h' w hw
section
variable {sh : List (Nat × Nat)} {sg : List Nat} {ar : List Arr} {R : List Ru} (G : GB sh sg ar R)
include G
theorem GB.app {x x' y y' : List Nat} (h : Eq2 R x x') (k : Eq2 R y y') : Eq2 R (x ++ y) (x' ++ y') := Bk.left_congr G.ok.wf G.meets h k
theorem GB.mid {x m y : List Nat} (h : Eq2 R m []) : Eq2 R (x ++ m ++ y) (x ++ y) := by
  have := G.app (G.app (x := x) (x' := x) rfl h) (y := y) (y' := y) rfl
  rwa [List.append_nil] at this
theorem GB.lf (x : List Nat) : Eq2 R (left R x) x := by
  show left R (left R x) = left R x
  exact Bk.left_of_end (Bk.left_end G.ok.wf x)
theorem GB.eqR {l w : List Nat} (h : (l, w) ∈ R) : Eq2 R l w := by
  have h1 := two_left G.two G.ok.wf h
  show left R l = left R w
  have h3 := (G.ok.wf _ h).2
  have h2 : left R w = w := Bk.left_of_end (end_short G.two h3)
  rw [h2]
  exact h1
theorem GB.one {c : Nat} : left R [c] = [c] := Bk.left_of_end (end_short G.two (by simp))
theorem GB.nil : left R [] = [] := rfl
theorem GB.inv_u {c e e' : Nat} (h1 : ([e, c], []) ∈ R) (h2 : ([c, e'], []) ∈ R) : e = e' := by
  have a1 : Eq2 R ([e, c] ++ [e']) ([] ++ [e']) := G.app (G.eqR h1) rfl
  have a2 : Eq2 R ([e] ++ [c, e']) ([e] ++ []) := G.app rfl (G.eqR h2)
  have a3 : Eq2 R [e'] [e] := a1.symm.trans a2
  unfold Eq2 at a3
  rw [G.one, G.one] at a3
  simpa using a3.symm
theorem GB.uS_spec {c : Nat} (hc : c ∈ sg) : uS R sg c ∈ sg ∧ ([c, uS R sg c], []) ∈ R ∧ ([uS R sg c, c], []) ∈ R := by
  obtain ⟨e, he, h1, h2⟩ := G.two.inv c hc
  unfold uS
  cases hf : sg.find? fun e => decide (([c, e], ([] : List Nat)) ∈ R) with
  | none => exact absurd (decide_eq_true h1) (List.find?_eq_none.mp hf e he)
  | some e' =>
    have h3 := of_decide_eq_true (List.find?_some (p := fun e => decide (([c, e], ([] : List Nat)) ∈ R)) hf)
    have := G.inv_u h2 h3
    subst this
    exact ⟨he, h1, h2⟩
theorem GB.uS_of {c e : Nat} (hc : c ∈ sg) (h : ([c, e], []) ∈ R) : uS R sg c = e := (G.inv_u (G.uS_spec hc).2.2 h)
theorem GB.uu {c : Nat} (hc : c ∈ sg) : uS R sg (uS R sg c) = c := by
  obtain ⟨h1, h2, h3⟩ := G.uS_spec hc
  exact G.uS_of h1 h3
theorem GB.inv_sub {t : List Nat} (h : ∀ c ∈ t, c ∈ sg) : ∀ c ∈ invS R sg t, c ∈ sg := by
  intro c hc
  unfold invS at hc
  rw [List.mem_reverse, List.mem_map] at hc
  obtain ⟨d, hd, rfl⟩ := hc
  exact (G.uS_spec (h d hd)).1
theorem GB.inv_r {t : List Nat} (h : ∀ c ∈ t, c ∈ sg) : Eq2 R (t ++ invS R sg t) [] := by
  induction t with
  | nil => rfl
  | cons c t ih =>
    have ih := ih fun d hd => h d (List.mem_cons_of_mem _ hd)
    rw [invS_cons]
    have h1 : Eq2 R ([c] ++ (t ++ invS R sg t) ++ [uS R sg c]) ([c] ++ [uS R sg c]) := G.mid ih
    have h2 : Eq2 R ([c] ++ [uS R sg c]) [] := G.eqR (G.uS_spec (h c List.mem_cons_self)).2.1
    have h3 := h1.trans h2
    simp only [List.append_assoc, List.cons_append, List.nil_append] at h3 ⊢
    exact h3
theorem GB.inv_l {t : List Nat} (h : ∀ c ∈ t, c ∈ sg) : Eq2 R (invS R sg t ++ t) [] := by
  induction t with
  | nil => rfl
  | cons c t ih =>
    have ih := ih fun d hd => h d (List.mem_cons_of_mem _ hd)
    rw [invS_cons]
    have h2 : Eq2 R ([uS R sg c] ++ [c]) [] := G.eqR (G.uS_spec (h c List.mem_cons_self)).2.2
    have h1 : Eq2 R (invS R sg t ++ ([uS R sg c] ++ [c]) ++ t) (invS R sg t ++ t) := G.mid h2
    have h3 := h1.trans ih
    simp only [List.append_assoc, List.cons_append, List.nil_append] at h3 ⊢
    exact h3
theorem GB.inv_congr {x y : List Nat} (hx : ∀ c ∈ x, c ∈ sg) (hy : ∀ c ∈ y, c ∈ sg) (h : Eq2 R x y) : Eq2 R (invS R sg x) (invS R sg y) := by
  have a1 : Eq2 R (invS R sg x ++ y ++ invS R sg y) (invS R sg x) := by
    rw [List.append_assoc]
    have := G.app (x := invS R sg x) rfl (G.inv_r hy)
    rwa [List.append_nil] at this
  have a2 : Eq2 R (invS R sg x ++ y ++ invS R sg y) (invS R sg y) := by
    have h1 : Eq2 R (invS R sg x ++ y) [] := (G.app (x := invS R sg x) rfl h.symm).trans (G.inv_l hx)
    exact (G.app h1 (y := invS R sg y) rfl)
  exact a1.symm.trans a2
theorem GB.left_sub {t : List Nat} (h : ∀ c ∈ t, c ∈ sg) : ∀ c ∈ left R t, c ∈ sg := reach_charsB G.ok.2.2.1 (Bk.left_reach t) h
theorem GB.left_len (t : List Nat) : (left R t).length ≤ t.length := (Bk.left_reach t).len G.ok.wf
theorem GB.pw_congr {s t : List Nat} (h : Eq2 R s t) (n : Nat) : Eq2 R (pw s n) (pw t n) := by
  induction n with
  | zero => rfl
  | succ n ih => rw [pw_succ, pw_succ]; exact G.app ih h
/-- turned by a text -/
theorem GB.pw_conj {s t b : List Nat} (hb : ∀ c ∈ b, c ∈ sg) (h : Eq2 R s (b ++ t ++ invS R sg b)) (n : Nat) : Eq2 R (pw s n) (b ++ pw t n ++ invS R sg b) := by
  induction n with
  | zero =>
    show Eq2 R [] (b ++ [] ++ invS R sg b)
    rw [List.append_nil]
    exact (G.inv_r hb).symm
  | succ n ih =>
    rw [pw_succ]
    refine (G.app ih h).trans ?_
    have h1 : Eq2 R ((b ++ pw t n) ++ (invS R sg b ++ b) ++ (t ++ invS R sg b)) ((b ++ pw t n) ++ (t ++ invS R sg b)) := G.mid (G.inv_l hb)
    rw [pw_succ]
    simp only [List.append_assoc] at h1 ⊢
    exact h1
theorem GB.conj_nil {t b : List Nat} (hb : ∀ c ∈ b, c ∈ sg) : Eq2 R (b ++ t ++ invS R sg b) [] ↔ Eq2 R t [] := by
  constructor
  · intro h
    have h1 : Eq2 R (invS R sg b ++ (b ++ t ++ invS R sg b) ++ b) (invS R sg b ++ b) := G.mid h
    have h2 := h1.trans (G.inv_l hb)
    have h3 : Eq2 R ((invS R sg b ++ b) ++ t ++ (invS R sg b ++ b)) t := by
      have a1 := G.app (G.app (G.inv_l hb) (y := t) rfl) (G.inv_l hb)
      simpa using a1
    refine h3.symm.trans ?_
    simpa [List.append_assoc] using h2
  · intro h
    exact (G.mid h).trans (G.inv_r hb)
theorem isP_iff {t : List Nat} {n : Nat} : isP R t n = true ↔ Eq2 R (pw t n) [] := by
  unfold isP Eq2
  rw [decide_eq_true_eq]
  rfl
omit G in
theorem ordW_congr {s t : List Nat} (h : ∀ n, Eq2 R (pw s n) [] ↔ Eq2 R (pw t n) []) : ordW R s = ordW R t := by
  unfold ordW
  have : isP R s = isP R t := funext fun n => by
    rw [Bool.eq_iff_iff]
    unfold isP
    rw [decide_eq_true_eq, decide_eq_true_eq]
    exact h n
  rw [this]
theorem GB.ord_conj {s t b : List Nat} (hb : ∀ c ∈ b, c ∈ sg) (h : Eq2 R s (b ++ t ++ invS R sg b)) : ordW R s = ordW R t := ordW_congr fun n => by
  rw [show Eq2 R (pw s n) [] ↔ Eq2 R (b ++ pw t n ++ invS R sg b) [] from ⟨fun z => (G.pw_conj hb h n).symm.trans z, fun z => (G.pw_conj hb h n).trans z⟩]
  exact G.conj_nil hb
theorem GB.ord_eq {s t : List Nat} (h : Eq2 R s t) : ordW R s = ordW R t := ordW_congr fun n => ⟨fun z => (G.pw_congr h n).symm.trans z, fun z => (G.pw_congr h n).trans z⟩
theorem GB.pw_inv {t : List Nat} (ht : ∀ c ∈ t, c ∈ sg) (n : Nat) : Eq2 R (pw t n ++ pw (invS R sg t) n) [] := by
  induction n with
  | zero => rfl
  | succ n ih =>
    rw [pw_succ, pw_succ']
    have h1 : Eq2 R (pw t n ++ (t ++ invS R sg t) ++ pw (invS R sg t) n) (pw t n ++ pw (invS R sg t) n) := G.mid (G.inv_r ht)
    have := h1.trans ih
    simp only [List.append_assoc] at this ⊢
    exact this
theorem GB.ord_inv {t : List Nat} (ht : ∀ c ∈ t, c ∈ sg) : ordW R (invS R sg t) = ordW R t := ordW_congr fun n => by
  have h := G.pw_inv ht n
  constructor
  · intro z
    have := G.app (x := pw t n) rfl z
    rw [List.append_nil] at this
    exact this.symm.trans h
  · intro z
    exact (G.app z (y := pw (invS R sg t) n) rfl).symm.trans h
/-- a text as a text round a core -/
structure Rnd (R : List Ru) (sg t A core : List Nat) : Prop where
  ae : IsEnd R A
  as : ∀ c ∈ A, c ∈ sg
  cs : ∀ c ∈ core, c ∈ sg
  ce : IsEnd R core
  eq : Eq2 R t (A ++ core ++ invS R sg A)
  cyc : 2 ≤ core.length → Adj R (core ++ core)
theorem GB.ord_rnd {t A core : List Nat} (h : Rnd R sg t A core) : ordW R t = ordW R core := G.ord_conj h.as h.eq
theorem GB.ord_nil : ordW R [] = some 1 := by
  unfold ordW
  have h : isP R [] 1 = true := by rw [isP_iff G]; rfl
  show List.find? (isP R []) [1, 2, 3, 4, 5, 6, 7, 8, 9] = _
  rw [List.find?_cons, h]
theorem GB.ord_none {t : List Nat} (hne : t ≠ []) (h : Adj R (t ++ t)) : ordW R t = none := by
  unfold ordW
  rw [List.find?_eq_none]
  intro n hn
  obtain ⟨j, _, rfl⟩ := List.mem_map.mp hn
  rw [isP_iff G]
  intro z
  have h1 : left R (pw t (1 + j)) = pw t (1 + j) := Bk.left_of_end (G.two.end_iff.mpr (adj_pw h _))
  unfold Eq2 at z
  rw [h1, G.nil] at z
  have h2 := congrArg List.length z
  rw [pw_len] at h2
  have h3 : 0 < t.length := List.length_pos_iff.mpr hne
  have h4 : 1 * 1 ≤ (1 + j) * t.length := Nat.mul_le_mul (by omega) h3
  simp at h2
  omega
/-- [last, first] of a core is no left side if its turned form is as long -/
theorem GB.round_end {x : List Nat} {c : Nat} (hx : x ≠ []) (he : IsEnd R (x ++ [c])) (hl : (x ++ [c]).length ≤ (left R ([c] ++ x)).length) : Adj R ((x ++ [c]) ++ (x ++ [c])) := by
  have ha := G.two.end_iff.mp he
  refine adj_app ha ha fun a b h1 h2 w hw => ?_
  rw [List.getLast?_append] at h1
  have h1 : c = a := by simpa using h1
  subst h1
  cases x with
  | nil => exact absurd rfl hx
  | cons d x =>
    have h2 : d = b := by simpa using h2
    subst h2
    have s : Step R ([] ++ [c, d] ++ x) ([] ++ w ++ x) := Step.mk [] x ([c, d], w) hw
    have h3 : left R ([c] ++ (d :: x)) = left R ([] ++ w ++ x) := Bk.left_eq G.ok.wf G.meets (Reach.step s (Reach.refl _))
    rw [h3] at hl
    have h4 := G.left_len ([] ++ w ++ x)
    have h5 := s.len G.ok.wf
    simp at hl h4 h5
    omega
end
end Sh
set_option Elab.async false
set_option linter.all false
set_option maxRecDepth 100000
namespace Sh
open PySem PySem.Spec PyProof.Rows L2
section
variable {K : PySem.W.Frag} {h : Heap} {mg : Str → Option Value}
/-- a constant that the top has written -/
theorem con_mk {x : Str} {u : Value} {v : V} (X : K.In h) (Y : h.Ns mainGlobals mg) (a : PySem.W.nsIn K mainGlobals x = some (some u)) (r : RelV v u) : ∃ u, mg x = some u ∧ RelV v u := ⟨u, PySem.W.mg_of X Y a, r⟩
/-- a def -/
theorem def_mk {x : Str} {st : Stmt} {ps : List Str} {f : Addr} {oc kv dc pm cd ct : Value} {od an : Option Addr} {sl : Array (Option Value)} (X : K.In h) (Y : h.Ns mainGlobals mg) (a : PySem.W.nsIn K mainGlobals x = some (some (.ref f)))
    (l : K.lookup f = some ⟨oc, od, .func (PySem.W.fnOf x x (defArgs st) (defBody st) (defScope st) .none kv dc pm an cd ct), sl⟩) (c : PySem.W.codeIn K cd x = true) (k : PySem.W.keepIn K (.ref f) = true)
    (b : ∀ (kV doc pm : Value) (an : Option Addr) (cdv ct : Value) (us : List Value), us.length = ps.length → bindArgs (PySem.W.fnOf x x (defArgs st) (defBody st) (defScope st) .none kV doc pm an cdv ct) ⟨us, []⟩ = pure (ps.zip us)) : DefAt K mg x st ps := by
  have F := fun_mk (st := st) l c k
  exact ⟨f, _, F, PySem.W.mg_of X Y a, F.binds b⟩
/-- a method -/
theorem meth_mk {C : Addr} {m q : Str} {st : Stmt} {ps : List Str} {f : Addr} {oc kv dc pm cd ct : Value} {od an : Option Addr} {sl : Array (Option Value)}
    (l : K.lookup f = some ⟨oc, od, .func (PySem.W.fnOf m q (defArgs st) (defBody st) (defScope st) .none kv dc pm an cd ct), sl⟩) (c : PySem.W.codeIn K cd q = true) (k : PySem.W.keepIn K (.ref f) = true)
    (i : PySem.W.findIn K (.ref C) m = some (some (.ref f))) (n : PySem.W.isFn K (.ref f) = true) (o : PySem.W.fnIn K f = true)
    (b : ∀ (kV doc pm : Value) (an : Option Addr) (cdv ct : Value) (us : List Value), us.length = ps.length → bindArgs (PySem.W.fnOf m q (defArgs st) (defBody st) (defScope st) .none kV doc pm an cdv ct) ⟨us, []⟩ = pure (ps.zip us)) : MethAt K C m q st ps := by
  have F := fun_mk (st := st) l c k
  exact ⟨f, _, F, F.binds b, i, n, o⟩
/-- the law's def -/
theorem law_mk {x p1 : Str} {st : Stmt} {fa f : Addr} {oc kv dc pm cd ct : Value} {od an : Option Addr} {sl : Array (Option Value)} (X : K.In h) (Y : h.Ns mainGlobals mg) (g : mg x = some (.ref fa)) (a : PySem.W.nsIn K mainGlobals x = some (some (.ref f)))
    (l : K.lookup f = some ⟨oc, od, .func (PySem.W.fnOf x x (defArgs st) (defBody st) (defScope st) .none kv dc pm an cd ct), sl⟩) (c : PySem.W.codeIn K cd x = true) (k : PySem.W.keepIn K (.ref f) = true)
    (b : ∀ (kV doc pm : Value) (an : Option Addr) (cdv ct : Value) (s : Shared) (u : Value), BindsTo s (PySem.W.fnOf x x (defArgs st) (defBody st) (defScope st) .none kV doc pm an cdv ct) ⟨[u], []⟩ [(p1, u)]) :
    ∃ fd : FuncData, L2.Fun K x x st fa fd ∧ ∀ (s : Shared) (u : Value), BindsTo s fd ⟨[u], []⟩ [(p1, u)] := by
  cases g.symm.trans (PySem.W.mg_of X Y a)
  exact ⟨_, fun_mk l c k, b _ _ _ _ _ _⟩
end
end Sh
set_option Elab.async false
set_option linter.all false
set_option maxRecDepth 100000
namespace Sh
open PySem PySem.Spec PyProof.Rows L2
section
variable {K : PySem.W.Frag} {h : Heap} {mg : Str → Option Value}
theorem kit_self {C : Addr} : PySem.W.kitOne K (.ref C) (.ref C) = some true := if_pos (by simp)
/-- a property -/
theorem prop_mk {C p : Addr} {m q : Str} {st : Stmt} {f : Addr} {oc kv dc pm cd ct : Value} {od an : Option Addr} {sl : Array (Option Value)} {rest : List Value}
    (l : K.lookup f = some ⟨oc, od, .func (PySem.W.fnOf m q (defArgs st) (defBody st) (defScope st) .none kv dc pm an cd ct), sl⟩) (c : PySem.W.codeIn K cd q = true) (k : PySem.W.keepIn K (.ref f) = true)
    (i : PySem.W.findIn K (.ref C) m = some (some (.ref p))) (g : PySem.W.specialIn K (.ref p) "__get__" = some (some (.builtin "property.__get__"))) (t : PySem.W.takesIn K (.ref p) = some true) (r : PySem.W.recIn K p "property" = some (.ref f :: rest))
    (b : ∀ (kV doc pm : Value) (an : Option Addr) (cdv ct : Value) (us : List Value), us.length = 1 → bindArgs (PySem.W.fnOf m q (defArgs st) (defBody st) (defScope st) .none kV doc pm an cdv ct) ⟨us, []⟩ = pure ([("self" : Str)].zip us)) : PropAt K C m q st := by
  have F := fun_mk (st := st) l c k
  exact ⟨p, f, _, ⟨i, g, t, rest, r⟩, F, F.binds b⟩
end
end Sh
set_option Elab.async false
set_option linter.all false
set_option maxRecDepth 100000
/-! x in t, items and x data of any depth, t a tuple -/
namespace Sh
open PySem PySem.Spec PyProof.Rows L2
section
variable {X : Cx}
def rInDT (K : PySem.W.Frag) (neg : Bool) : R2 := fun x y H Q => ∃ d ds, Dp K H x d ∧ Dp K H y (.tuple ds) ∧ SeqAt.shaped d = true ∧ SeqAt.shaped (.tuple ds) = true ∧ Q (.bl (if neg then !ds.any fun z => PyData.eqv z d else ds.any fun z => PyData.eqv z d)) H
theorem op_inDT (hu : X.A.units + 65 < cLine) : OpR X (compareOp .In) (rInDT X.K false) := fun pins s σ H x y v u Q I rx ry h =>
  match h with
  | ⟨d, ds, hd, he, sd, se, q⟩ => by
    obtain ⟨as, r1⟩ := Dp.reads I d x v hd rx
    obtain ⟨bs, r2⟩ := Dp.reads I (.tuple ds) y u he ry
    exact SeqAt.in_tuple_reads r2 r1 (SeqAt.canLay_of_shaped se) (SeqAt.canLay_of_shaped sd) (room_in_shaped sd hu) ⟨.bl _, H, I, rfl, q⟩
theorem op_notInDT (hu : X.A.units + 65 < cLine) : OpR X (compareOp .NotIn) (rInDT X.K true) := fun pins s σ H x y v u Q I rx ry h =>
  match h with
  | ⟨d, ds, hd, he, sd, se, q⟩ => by
    obtain ⟨as, r1⟩ := Dp.reads I d x v hd rx
    obtain ⟨bs, r2⟩ := Dp.reads I (.tuple ds) y u he ry
    exact SeqAt.notIn_tuple_reads r2 r1 (SeqAt.canLay_of_shaped se) (SeqAt.canLay_of_shaped sd) (room_in_shaped sd hu) ⟨.bl _, H, I, rfl, q⟩
end
end Sh
set_option Elab.async false
set_option linter.all false
set_option maxRecDepth 100000
/-! t[::-1], t a tuple -/
namespace Sh
open PySem PySem.Spec PyProof.Rows L2
theorem back_adjust (n : Nat) : Builtin.Slice.sliceAdjust none none (-1) (n : Int) = ((n : Int) - 1, -1) := rfl
theorem back_places (n : Nat) : Builtin.Slice.slicePlaces ((n : Int) - 1) (-1) (-1) = n := by
  unfold Builtin.Slice.slicePlaces
  rw [if_neg (by decide)]
  by_cases h : (n : Int) - 1 > -1
  · rw [if_pos h, show (-(-1) : Int) = 1 by decide, Int.ediv_one]
    omega
  · rw [if_neg h]
    omega
theorem fm_congr {α β : Type} {f g : α → Option β} : ∀ {l : List α}, (∀ x ∈ l, f x = g x) → l.filterMap f = l.filterMap g
  | [], _ => rfl
  | x :: l, h => by
    rw [List.filterMap_cons, List.filterMap_cons, h x List.mem_cons_self, fm_congr fun y hy => h y (List.mem_cons_of_mem _ hy)]
theorem back_pick (xs : Array Value) : (List.range xs.size).filterMap (fun (k : Nat) => xs[((xs.size : Int) - 1 + (k : Int) * (-1)).toNat]?) = xs.toList.reverse := by
  have e : (List.range xs.size).filterMap (fun (k : Nat) => xs[((xs.size : Int) - 1 + (k : Int) * (-1)).toNat]?) = ((List.range xs.size).map fun k => xs.size - 1 - k).filterMap (xs[·]?) := by
    rw [List.filterMap_map]
    refine fm_congr fun k hk => ?_
    have := List.mem_range.mp hk
    show xs[_]? = xs[xs.size - 1 - k]?
    congr 1
    omega
  rw [e, PySem.W.krv_range, List.filterMap_reverse, PySem.W.krv_all]
section
variable {prog : Program} {w : World} {A : Around} {E : Value → Shared → Prop} {s : Shared}
theorem getItem_tup_back {t sl : Addr} {items : Array Value} {tk : Tok} {Q : Value → Shared → Prop} (ht : IsTup s.heap t items) (hs : s.heap.IsSliceOf sl .none .none (.int (-1) tk))
    (h : Q (.ref s.heap.objs.size) { s with heap := s.heap.push { cls := .type "tuple", data := .seq items.toList.reverse.toArray } }) (hsz : items.size ≤ sizeLine) : wpAny (model prog w) A (getItem (.ref t) (.ref sl)) Q E s := by
  have hok : sizeOk (.seq items.toList.reverse.toArray) := by
    show items.toList.reverse.toArray.size ≤ sizeLine
    rw [List.size_toArray, List.length_reverse, Array.length_toList]
    exact hsz
  obtain ⟨os, hos, hcs, hds⟩ := id hs
  have tyS : s.TypeIs (.ref sl) "slice" := ⟨os, hos, hcs⟩
  unfold getItem
  try with_reducible refine wpAny_holding ?_
  first | refine wpAny_bind (wpAny_pure ?_) | skip
  refine wpAny_bind (wpAny_sequenceKey ht.typeIs (by decide) (wpAny_bind (wpAny_callSpecial?_slot (name := Str.ofString "__getitem__") ht.typeIs PyProof.Rows.slot_tuple_getitem
    (wpAny_call_entry PyProof.Rows.slot_tuple_getitem ht.typeIs entry_tuple_getitem ?_ (args_tuple_getitem _ _)))))
  show wpAny _ _ (Builtin.Tuple.tupleItemsOf (.ref t) >>= _) _ _ s
  refine wpAny_bind (tupleItemsOf_ ht (wpAny_bind (wpAny_typeOf tyS ?_)))
  rw [if_pos (by decide)]
  refine wpAny_bind ?_
  unfold Builtin.Slice.sliceApplied Builtin.Slice.sliceFields
  refine wpAny_bind (wpAny_bind (wpAny_field hos hds (x := .none) rfl (wpAny_bind (wpAny_field hos hds (x := .none) rfl (wpAny_bind (wpAny_field hos hds (x := .int (-1) tk) rfl (wpAny_pure ?_)))))))
  refine wpAny_bind (slicePart_int ?_)
  show wpAny _ _ (if ((-1 : Int) == 0) = true then _ else _) _ _ s
  rw [if_neg (by decide)]
  refine wpAny_bind (slicePart_none (wpAny_bind (slicePart_none (wpAny_bind (wpAny_pure ?_)))))
  show wpAny _ _ (pure ((items.size : Int) - 1, (-1 : Int), Builtin.Slice.slicePlaces ((items.size : Int) - 1) (-1) (-1))) _ _ s
  rw [back_places]
  refine wpAny_pure ?_
  have hno : ¬ ((((items.size : Int) - 1) == 0 && (-1 : Int) == 1 && items.size == items.size) = true) := by simp
  show wpAny _ _ (if (((items.size : Int) - 1) == 0 && (-1 : Int) == 1 && items.size == items.size) = true then _ else _) _ _ s
  rw [if_neg hno, back_pick]
  first
    | exact wpAny_bind (m := Builtin.Tuple.tupleExact _) (wpAny_newObj_type (wpAny_pure ⟨_, rfl, wpAny_pure h⟩) hok)
    | exact wpAny_bind (m := Builtin.Tuple.tupleExact _) (wpAny_newObj_type (wpAny_bind (wpAny_pure (wpAny_pure ⟨_, rfl, wpAny_pure h⟩))) hok)
    | exact wpAny_bind (wpAny_bind (m := Builtin.Tuple.tupleExact _) (wpAny_newObj_type (wpAny_pure (wpAny_pure ⟨_, rfl, wpAny_pure h⟩)) hok))
    | exact wpAny_bind (wpAny_bind (m := Builtin.Tuple.tupleExact _) (wpAny_newObj_type (wpAny_pure ⟨_, rfl, wpAny_pure h⟩) hok))
end
section
variable {X : Cx}
def tRevT (K : PySem.W.Frag) (te : TE) : TE := fun σ H Q => te σ H fun x H1 => ∃ a xs, x = .ref a ∧ SqT K H1 a xs ∧ ∀ p, H1 p = none → Q (.ref p) (upd H1 p (.tup xs.reverse))
theorem pe_revT {e : Expr} {te : TE} {k : Nat} {p1 p2 p3 pos : Pos} (he : PE X e te) : PE X (.Subscript e (.Slice none none (some (.UnaryOp .USub (.Constant (.int 1) k p1) p2)) p3) pos) (tRevT X.K te) := by
  refine ⟨fun pins s σ H Q I h => Subscript_ (thn (he.run pins s σ H _ I h) fun v s1 ⟨x, H1, I1, r1, a, xs, ex, hx, q⟩ => ?_)⟩
  subst ex
  cases r1
  have hst : PO X (some (.UnaryOp .USub (.Constant (.int 1) k p1) p2)) (tPart (tUn (rU fun i => .int (-i)) (tC (.int 1)))) := po_some (pe_un un_neg pe_int)
  refine wpAny_Slice (thn (po_none.run pins s1 σ H1 (fun o H2 => o = none ∧ H2 = H1) I1 ⟨rfl, rfl⟩) fun vl s2 ⟨l, H2, I2, pl, el, e2⟩ => thn (po_none.run pins s2 σ H2 (fun o H3 => o = none ∧ H3 = H2) I2 ⟨rfl, rfl⟩) fun vu s3 ⟨u, H3, I3, pu, eu, e3⟩ =>
    thn (hst.run pins s3 σ H3 (fun o H4 => o = some (-1) ∧ H4 = H3) I3 ⟨1, rfl, -1, rfl, rfl, rfl⟩) fun vs s4 ⟨o, H4, I4, ps, eo, e4⟩ => ?_)
  subst el e2 eu e3 eo e4
  have I5 : Inv X pins σ H4 { s4 with heap := s4.heap.push { cls := .type "slice", data := .fields #[vl, vu, vs] } } := I4.kept (t' := s4.toks) fun b ob q => Heap.get?_push_of_some _ q
  obtain ⟨its, r, ht, hz⟩ := I5.tuple hx
  have hlen := r.length
  cases pl
  cases pu
  cases ps
  show wpAny (model X.prog X.w) X.A (subscriptTail e (.Slice none none (some (.UnaryOp .USub (.Constant (.int 1) k p1) p2)) p3) (.ref a) (.ref s4.heap.objs.size)) (EP X pins σ Q) X.xe _
  refine tail_any (ops := [.ref a, .ref s4.heap.objs.size]) ht.typeIs (PyProof.Rows.slot_tuple_getitem.lookup) ?_ (by with_unfolding_all rfl)
  refine getItem_tup_back ht (Heap.IsSliceOf.new _ _ _ _) ?_ (by rw [List.size_toArray]; omega)
  refine ⟨.ref _, _, I5.laid (t' := s4.toks) (o := .tup xs.reverse) (fun b ob q => Heap.get?_push_of_some _ q) (Nat.le_refl _) ?_, rfl, q _ (I5.hok.fresh (Nat.le_refl _))⟩
  exact ⟨by rw [List.length_reverse]; exact hz, _, r.reverse, IsTup.new _ _⟩
end
end Sh
set_option Elab.async false
set_option linter.all false
set_option maxRecDepth 100000
/-! t[::-1], t a text -/
namespace Sh
open PySem PySem.Spec PyProof.Rows L2
open SX (S S_inj S_len S_cat)
def revS (z : Str) : Str := ⟨z.cps.toList.reverse.toArray⟩
theorem revS_S (t : List Nat) : revS (S t) = S t.reverse := by
  unfold revS
  rfl
theorem back_txt (z : Str) : (Builtin.Str.strSliceIndices none none (-1) z.length).filterMap (z.cps[·]?) = z.cps.toList.reverse := by
  have e : Builtin.Str.strSliceIndices none none (-1) z.length = (List.range z.cps.size).map fun k => z.cps.size - 1 - k := by
    show sliceRange ((z.length : Int) - 1) (-1) (-1) = _
    have hz : z.length = z.cps.size := rfl
    unfold sliceRange
    dsimp only
    rw [if_neg (by decide), hz]
    have hc : (if ((z.cps.size : Nat) : Int) - 1 > -1 then (((z.cps.size : Nat) : Int) - 1 - -1 - -1 - 1) / - -1 else 0).toNat = z.cps.size := by
      rw [show (- -1 : Int) = 1 by decide, Int.ediv_one]
      split <;> omega
    rw [hc]
    refine List.map_congr_left fun k hk => ?_
    have := List.mem_range.mp hk
    omega
  rw [e, PySem.W.krv_range, List.filterMap_reverse, PySem.W.krv_all]
section
variable {X : Cx}
def tRevS (te : TE) : TE := fun σ H Q => te σ H fun x H1 => ∃ z, x = .str z ∧ z.length ≤ sizeLine ∧ Q (.str (revS z)) H1
theorem pe_revS {e : Expr} {te : TE} {k : Nat} {p1 p2 p3 pos : Pos} (he : PE X e te) : PE X (.Subscript e (.Slice none none (some (.UnaryOp .USub (.Constant (.int 1) k p1) p2)) p3) pos) (tRevS te) := by
  refine ⟨fun pins s σ H Q I h => Subscript_ (thn (he.run pins s σ H _ I h) fun v s1 ⟨x, H1, I1, r1, z, ex, hzl, q⟩ => ?_)⟩
  subst ex
  obtain ⟨tz, rfl⟩ := r1
  have hst : PO X (some (.UnaryOp .USub (.Constant (.int 1) k p1) p2)) (tPart (tUn (rU fun i => .int (-i)) (tC (.int 1)))) := po_some (pe_un un_neg pe_int)
  refine wpAny_Slice (thn (po_none.run pins s1 σ H1 (fun o H2 => o = none ∧ H2 = H1) I1 ⟨rfl, rfl⟩) fun vl s2 ⟨l, H2, I2, pl, el, e2⟩ => thn (po_none.run pins s2 σ H2 (fun o H3 => o = none ∧ H3 = H2) I2 ⟨rfl, rfl⟩) fun vu s3 ⟨u, H3, I3, pu, eu, e3⟩ =>
    thn (hst.run pins s3 σ H3 (fun o H4 => o = some (-1) ∧ H4 = H3) I3 ⟨1, rfl, -1, rfl, rfl, rfl⟩) fun vs s4 ⟨o, H4, I4, ps, eo, e4⟩ => ?_)
  subst el e2 eu e3 eo e4
  have I5 : Inv X pins σ H4 { s4 with heap := s4.heap.push { cls := .type "slice", data := .fields #[vl, vu, vs] } } := I4.kept (t' := s4.toks) fun b ob q => Heap.get?_push_of_some _ q
  cases pl
  cases pu
  cases ps

  show wpAny (model X.prog X.w) X.A (subscriptTail e (.Slice none none (some (.UnaryOp .USub (.Constant (.int 1) k p1) p2)) p3) (.str z tz) (.ref s4.heap.objs.size)) (EP X pins σ Q) X.xe _
  refine tail_any (ops := [.str z tz, .ref s4.heap.objs.size]) (typeIs_str _ z tz) F.slot_str_getitem.lookup ?_ (by with_unfolding_all rfl)
  refine wpAny_getItem_str_slice (l := none) (u := none) (st := some (-1, _)) ⟨_, Heap.get?_push_size _ rfl, rfl, rfl⟩ rfl ?_
  show Made.post (Made.str ⟨((Builtin.Str.strSliceIndices none none (-1) z.length).filterMap (z.cps[·]?)).toArray⟩) _ _
  rw [back_txt]
  refine ⟨?_, ?_⟩
  · show (z.cps.toList.reverse.toArray).size ≤ sizeLine
    rw [List.size_toArray, List.length_reverse, Array.length_toList]
    exact hzl
  · exact ⟨.str (revS z), H4, I5.kept (t' := _) fun b ob q => q, ⟨_, rfl⟩, q⟩
end
end Sh
set_option Elab.async false
set_option linter.all false
set_option maxRecDepth 100000
set_option maxHeartbeats 4000000
namespace Sh
open PySem PySem.Spec PyProof.Rows L2
open SX (S S_inj S_len S_cat)
open Bk (Rule left Wf Meets Reach Step IsEnd over res1 res2)
/-- the places of a part -/
def rowK (part : Nat → Nat) (n k : Nat) : List Nat := (List.range n).filter fun i => decide (part i = k)
theorem rowK_succ (part : Nat → Nat) (n k : Nat) : rowK part (n + 1) k = rowK part n k ++ (if part n = k then [n] else []) := by
  unfold rowK
  rw [List.range_succ, List.filter_append]
  by_cases h : part n = k <;> simp [h]
theorem mem_rowK {part : Nat → Nat} {n k j : Nat} : j ∈ rowK part n k ↔ j < n ∧ part j = k := by
  unfold rowK
  simp
def partsN (part : Nat → Nat) (n : Nat) : List Nat := plc part (List.range n)
theorem partsN_succ (part : Nat → Nat) (n : Nat) : partsN part (n + 1) = addF (partsN part n) (part n) := by unfold partsN; rw [List.range_succ, plc_snoc]
theorem mem_partsN {part : Nat → Nat} {n k : Nat} : k ∈ partsN part n ↔ ∃ i < n, part i = k := by
  unfold partsN
  rw [mem_plc]
  simp
/-- what a groupoid's pairs of places keep -/
structure Pairs (sg : List Nat) (g : Nat → Nat × Nat) (part : Nat → Nat) (N : Nat) : Prop where
  lt : ∀ c ∈ sg, (g c).1 < N ∧ (g c).2 < N
  all : ∀ i < N, ∃ c ∈ sg, (g c).1 = i
  con : ∀ i < N, ∀ j < N, i ≠ j → ((∃ c ∈ sg, g c = (i, j)) ↔ part i = part j)
  pos : 0 < N
/-- the first place of each part -/
def addH (t : List (Nat × Nat)) (s : Nat × Nat) : List (Nat × Nat) := if s.1 ∈ t.map (·.1) then t else t ++ [s]
def heads (l : List (Nat × Nat)) : List (Nat × Nat) := l.foldl addH []
theorem heads_snoc (l : List (Nat × Nat)) (s : Nat × Nat) : heads (l ++ [s]) = addH (heads l) s := by unfold heads; rw [List.foldl_append]; rfl
def prt (l : List (Nat × Nat)) (i : Nat) : Nat := (l.getD i (0, 0)).1
theorem rows_heads (l : List (Nat × Nat)) : ∀ n, n ≤ l.length → (partsN (prt l) n).map (fun k => l.getD ((rowK (prt l) n k).getD 0 0) (0, 0)) = heads (l.take n) ∧ (heads (l.take n)).map (·.1) = partsN (prt l) n
  | 0, _ => ⟨rfl, rfl⟩
  | n + 1, h => by
    obtain ⟨h1, h2⟩ := rows_heads l n (by omega)
    have hn : l[n]? = some l[n] := List.getElem?_eq_getElem (by omega)
    have hd : l.getD n (0, 0) = l[n] := by rw [List.getD_eq_getElem?_getD, hn]; rfl
    have hp : prt l n = l[n].1 := by unfold prt; rw [hd]
    rw [(take_succ_of hn).1, heads_snoc, partsN_succ, addH, addF, h2, hp]
    have key : ∀ k ∈ partsN (prt l) n, (rowK (prt l) (n + 1) k).getD 0 0 = (rowK (prt l) n k).getD 0 0 := fun k hk => by
      obtain ⟨i, hi, e⟩ := mem_partsN.mp hk
      have hm : i ∈ rowK (prt l) n k := mem_rowK.mpr ⟨hi, e⟩
      rw [rowK_succ, List.getD_eq_getElem?_getD, List.getElem?_append_left (List.length_pos_of_mem hm), ← List.getD_eq_getElem?_getD]
    split
    · refine ⟨?_, h2⟩
      rw [← h1]
      exact List.map_congr_left fun k hk => by rw [key k hk]
    · rename_i hnm
      have hr : rowK (prt l) n l[n].1 = [] := by
        refine List.eq_nil_iff_forall_not_mem.mpr fun j hj => hnm ?_
        obtain ⟨a, b⟩ := mem_rowK.mp hj
        exact mem_partsN.mpr ⟨j, a, b⟩
      refine ⟨?_, by rw [List.map_append, h2]; rfl⟩
      rw [List.map_append, ← h1]
      congr 1
      · exact List.map_congr_left fun k hk => by rw [key k hk]
      · rw [List.map_singleton, rowK_succ, hr, if_pos hp]
        show [l.getD n (0, 0)] = _
        rw [hd]
section
variable {sh : List (Nat × Nat)} {sg : List Nat} {ar : List Arr} {R : List Ru} (G : GB sh sg ar R)
abbrev srcS (sg : List Nat) (ar : List Arr) (c : Nat) : Nat × Nat := srcA (aof sg ar c)
abbrev tgtS (sg : List Nat) (ar : List Arr) (c : Nat) : Nat × Nat := tgtA (aof sg ar c)
/-- the places in the order of the first signs -/
def plS (sg : List Nat) (ar : List Arr) : List (Nat × Nat) := plc (srcS sg ar) sg
def lpS (sg : List Nat) (ar : List Arr) (s : Nat × Nat) : List Nat := sg.filter fun c => decide (srcS sg ar c = s) && decide (tgtS sg ar c = s)
def gS (sg : List Nat) (ar : List Arr) (c : Nat) : Nat × Nat := (ixOf (plS sg ar) (srcS sg ar c), ixOf (plS sg ar) (tgtS sg ar c))
theorem plS_nd : (plS sg ar).Nodup := plc_nodup
include G
theorem GB.src_mem {c : Nat} (hc : c ∈ sg) : srcS sg ar c ∈ plS sg ar := mem_plc.mpr ⟨c, hc, rfl⟩
theorem GB.tgt_mem {c : Nat} (hc : c ∈ sg) : tgtS sg ar c ∈ plS sg ar := by
  obtain ⟨e, he, h1, _⟩ := G.inv_sg hc
  exact mem_plc.mpr ⟨e, he, h1⟩
theorem GB.place {s : Nat × Nat} : s ∈ plS sg ar ↔ s.1 < sh.length ∧ s.2 < man sh s.1 := by
  unfold plS
  rw [mem_plc]
  constructor
  · rintro ⟨c, hc, rfl⟩
    exact ⟨(G.val hc).k, (G.val hc).i⟩
  · obtain ⟨k, i⟩ := s
    rintro ⟨hk, hi⟩
    have hk : k < sh.length := hk
    have hi : i < man sh k := hi
    have ho := menu_ord _ (G.sk hk)
    have hc := G.cd hk
    obtain ⟨a, ha, hs⟩ : ∃ a, (Val sh a ∧ ¬ IsId a) ∧ srcA a = (k, i) := by
      rcases ho with h | h
      · exact ⟨(k, i, 1, i), ⟨⟨hk, hi, hi, h⟩, fun z => by cases z.2⟩, rfl⟩
      · by_cases e : i = 0
        · subst e
          exact ⟨(k, 0, 0, 1), ⟨⟨hk, hi, h, hc.2.2⟩, fun z => by cases z.1⟩, rfl⟩
        · exact ⟨(k, i, 0, 0), ⟨⟨hk, hi, by show 0 < man sh k; omega, hc.2.2⟩, fun z => e z.1⟩, rfl⟩
    obtain ⟨c, h1, h2, _⟩ := G.sgn_mem (G.mem.mpr ha)
    exact ⟨c, h1, by show srcA (aof sg ar c) = _; rw [h2, hs]⟩
theorem GB.plen : (plS sg ar).length ≤ 8 := Nat.le_trans plc_len G.l8
theorem GB.pairs : Pairs sg (gS sg ar) (prt (plS sg ar)) (plS sg ar).length where
  lt c hc := ⟨ix_lt (G.src_mem hc), ix_lt (G.tgt_mem hc)⟩
  all i hi := by
    have h1 : (plS sg ar)[i]? = some (plS sg ar)[i] := List.getElem?_eq_getElem hi
    obtain ⟨c, hc, e⟩ := mem_plc.mp (List.getElem_mem hi)
    refine ⟨c, hc, ?_⟩
    show ixOf (plS sg ar) (srcS sg ar c) = i
    rw [e]
    exact idxN plS_nd h1
  con i hi j hj hne := by
    have h1 : (plS sg ar)[i]? = some (plS sg ar)[i] := List.getElem?_eq_getElem hi
    have h2 : (plS sg ar)[j]? = some (plS sg ar)[j] := List.getElem?_eq_getElem hj
    have e1 : prt (plS sg ar) i = (plS sg ar)[i].1 := by unfold prt; rw [List.getD_eq_getElem?_getD, h1]; rfl
    have e2 : prt (plS sg ar) j = (plS sg ar)[j].1 := by unfold prt; rw [List.getD_eq_getElem?_getD, h2]; rfl
    rw [e1, e2]
    constructor
    · rintro ⟨c, hc, e⟩
      simp only [gS, Prod.mk.injEq] at e
      have g1 := idx_get (ix_lt (G.src_mem hc))
      have g2 := idx_get (ix_lt (G.tgt_mem hc))
      rw [e.1, h1] at g1
      rw [e.2, h2] at g2
      rw [Option.some.inj g1, Option.some.inj g2]
      rfl
    · intro e
      have p1 := G.place.mp (List.getElem_mem hi)
      have p2 := G.place.mp (List.getElem_mem hj)
      have hd : (plS sg ar)[i] ≠ (plS sg ar)[j] := fun z => hne (by rw [← idxN plS_nd h1, z, idxN plS_nd h2])
      generalize (plS sg ar)[i] = s at *
      generalize (plS sg ar)[j] = t at *
      obtain ⟨k, x⟩ := s
      obtain ⟨k', y⟩ := t
      have e : k = k' := e
      subst e
      have hxy : x ≠ y := fun z => hd (by rw [z])
      obtain ⟨c, hc, e3, _⟩ := G.sgn_mem (G.mem.mpr ⟨(⟨p1.1, p1.2, p2.2, (G.cd p1.1).2.2⟩ : Val sh (k, x, 0, y)), fun z => hxy z.1⟩)
      refine ⟨c, hc, ?_⟩
      simp only [gS, Prod.mk.injEq]
      have s1 : srcS sg ar c = (k, x) := by show srcA (aof sg ar c) = _; rw [e3]; rfl
      have s2 : tgtS sg ar c = (k, y) := by show tgtA (aof sg ar c) = _; rw [e3]; rfl
      rw [s1, s2]
      exact ⟨idxN plS_nd h1, idxN plS_nd h2⟩
  pos := by
    have h := G.pos
    rw [← G.len] at h
    exact List.length_pos_of_mem (G.src_mem (List.getElem_mem h))
theorem GB.loops_at {n : Nat} {s : Nat × Nat} (h : (plS sg ar)[n]? = some s) : sg.filter (fun c => decide (gS sg ar c = (n, n))) = lpS sg ar s := by
  unfold lpS
  refine List.filter_congr fun c hc => ?_
  rw [← Bool.decide_and]
  refine decide_eq_decide.mpr ?_
  simp only [gS, Prod.mk.injEq]
  have g1 := idx_get (ix_lt (G.src_mem hc))
  have g2 := idx_get (ix_lt (G.tgt_mem hc))
  constructor
  · rintro ⟨a, b⟩
    rw [a, h] at g1
    rw [b, h] at g2
    exact ⟨(Option.some.inj g1).symm, (Option.some.inj g2).symm⟩
  · rintro ⟨a, b⟩
    rw [a, b]
    exact ⟨idxN plS_nd h, idxN plS_nd h⟩
/-- the program's tables are those of the first places -/
theorem GB.tables : (partsN (prt (plS sg ar)) (plS sg ar).length).map (fun k => sg.filter fun c => decide (gS sg ar c = ((rowK (prt (plS sg ar)) (plS sg ar).length k).getD 0 0, (rowK (prt (plS sg ar)) (plS sg ar).length k).getD 0 0))) = (heads (plS sg ar)).map (lpS sg ar) := by
  have h := (rows_heads (plS sg ar) _ (Nat.le_refl _)).1
  rw [List.take_length] at h
  rw [← h, List.map_map]
  refine List.map_congr_left fun k hk => ?_
  obtain ⟨i, hi, e⟩ := mem_partsN.mp hk
  have hm : i ∈ rowK (prt (plS sg ar)) (plS sg ar).length k := mem_rowK.mpr ⟨hi, e⟩
  have h0 : (rowK (prt (plS sg ar)) (plS sg ar).length k).getD 0 0 < (plS sg ar).length := by
    have : (rowK (prt (plS sg ar)) (plS sg ar).length k).getD 0 0 ∈ rowK (prt (plS sg ar)) (plS sg ar).length k := by
      rw [List.getD_eq_getElem?_getD, List.getElem?_eq_getElem (List.length_pos_of_mem hm)]
      exact List.getElem_mem _
    exact (mem_rowK.mp this).1
  show _ = lpS sg ar ((plS sg ar).getD ((rowK (prt (plS sg ar)) (plS sg ar).length k).getD 0 0) (0, 0))
  generalize (rowK (prt (plS sg ar)) (plS sg ar).length k).getD 0 0 = n at h0 ⊢
  have h1 : (plS sg ar)[n]? = some (plS sg ar)[n] := List.getElem?_eq_getElem h0
  rw [G.loops_at h1]
  rw [List.getD_eq_getElem?_getD, h1]
  rfl
def plAll (sh : List (Nat × Nat)) : List (Nat × Nat) := (List.range sh.length).flatMap fun k => (List.range (man sh k)).map fun i => (k, i)
omit G in
theorem mem_plAll {s : Nat × Nat} : s ∈ plAll sh ↔ s.1 < sh.length ∧ s.2 < man sh s.1 := by
  unfold plAll
  rw [List.mem_flatMap]
  constructor
  · rintro ⟨k, hk, h⟩
    obtain ⟨i, hi, rfl⟩ := List.mem_map.mp h
    exact ⟨List.mem_range.mp hk, List.mem_range.mp hi⟩
  · rintro ⟨h1, h2⟩
    exact ⟨s.1, List.mem_range.mpr h1, List.mem_map.mpr ⟨s.2, List.mem_range.mpr h2, rfl⟩⟩
omit G in
theorem plAll_nd : (plAll sh).Nodup := by
  refine fm_nodup _ _ (fun k _ => ?_) fun k k' x hk h h' => ?_
  · exact List.Pairwise.map _ (fun g g' hne e => hne (by simpa using e)) List.nodup_range
  · obtain ⟨_, _, rfl⟩ := List.mem_map.mp h
    obtain ⟨_, _, e⟩ := List.mem_map.mp h'
    exact hk (by simpa using (congrArg Prod.fst e).symm)
theorem GB.pl_perm : (plS sg ar).Perm (plAll sh) := (List.perm_ext_iff_of_nodup plS_nd plAll_nd).mpr fun s => by rw [G.place, mem_plAll]
theorem GB.heads_perm : ((heads (plS sg ar)).map (·.1)).Perm (List.range sh.length) := by
  have h := (rows_heads (plS sg ar) _ (Nat.le_refl _)).2
  rw [List.take_length] at h
  rw [h]
  refine (List.perm_ext_iff_of_nodup plc_nodup List.nodup_range).mpr fun k => ?_
  rw [List.mem_range]
  show k ∈ partsN _ _ ↔ _
  rw [mem_partsN]
  constructor
  · rintro ⟨i, hi, rfl⟩
    unfold prt
    rw [List.getD_eq_getElem?_getD, List.getElem?_eq_getElem hi]
    exact (G.place.mp (List.getElem_mem hi)).1
  · intro hk
    have hm : (k, 0) ∈ plS sg ar := G.place.mpr ⟨hk, by have := (G.cd hk).2.1; show 0 < man sh k; omega⟩
    obtain ⟨i, hi, e⟩ := List.getElem_of_mem hm
    refine ⟨i, hi, ?_⟩
    unfold prt
    rw [List.getD_eq_getElem?_getD, List.getElem?_eq_getElem hi, e]
    rfl
omit G in
theorem heads_sub {l : List (Nat × Nat)} : ∀ s ∈ heads l, s ∈ l := by
  induction l using snocRec with
  | nil => intro s h; exact h
  | snoc l x ih =>
    intro s h
    rw [heads_snoc, addH] at h
    split at h
    · exact List.mem_append_left _ (ih s h)
    · rcases List.mem_append.mp h with z | z
      · exact List.mem_append_left _ (ih s z)
      · exact List.mem_append_right _ z
/-- the loops of a place, and nothing: all elements there -/
theorem GB.mem_lp {s : Nat × Nat} (hs : s ∈ plS sg ar) {t : List Nat} : t ∈ ([] :: (lpS sg ar s).map fun c => [c]) ↔ ∃ g < Gp.ordT (cod sh s.1), t = sgn sg ar (s.1, s.2, g, s.2) := by
  obtain ⟨k, i⟩ := s
  obtain ⟨hk, hi⟩ := G.place.mp hs
  constructor
  · intro h
    rcases List.mem_cons.mp h with rfl | h
    · exact ⟨0, by have := (G.cd hk).2.2; exact this, by rw [G.sgn_id ⟨rfl, rfl⟩]⟩
    · obtain ⟨c, hc, rfl⟩ := List.mem_map.mp h
      unfold lpS at hc
      obtain ⟨hc, h2⟩ := List.mem_filter.mp hc
      rw [Bool.and_eq_true, decide_eq_true_eq, decide_eq_true_eq] at h2
      have hv := G.val hc
      refine ⟨(aof sg ar c).2.2.1, ?_, ?_⟩
      · have := hv.g
        have e : (aof sg ar c).1 = k := congrArg Prod.fst h2.1
        rw [e] at this
        exact this
      · rw [← G.sgn_aof hc]
        congr 1
        obtain ⟨h3, h4⟩ := h2
        unfold srcS at h3
        unfold tgtS at h4
        generalize aof sg ar c = a at h3 h4
        obtain ⟨a1, a2, a3, a4⟩ := a
        simp only [srcA, tgtA, Prod.mk.injEq] at h3 h4
        obtain ⟨rfl, rfl⟩ := h3
        show _ = (a1, a2, a3, a2)
        rw [h4.2]
  · rintro ⟨g, hg, rfl⟩
    by_cases e : g = 0
    · subst e
      rw [G.sgn_id ⟨rfl, rfl⟩]
      exact List.mem_cons_self
    · obtain ⟨c, hc, e1, e2⟩ := G.sgn_mem (G.mem.mpr ⟨(⟨hk, hi, hi, hg⟩ : Val sh (k, i, g, i)), fun z => e z.2⟩)
      show sgn sg ar (k, i, g, i) ∈ _
      rw [e2]
      refine List.mem_cons_of_mem _ (List.mem_map.mpr ⟨c, List.mem_filter.mpr ⟨hc, ?_⟩, rfl⟩)
      rw [Bool.and_eq_true, decide_eq_true_eq, decide_eq_true_eq]
      unfold srcS tgtS
      rw [e1]
      exact ⟨rfl, rfl⟩
theorem GB.lp_nd (s : Nat × Nat) : ([] :: (lpS sg ar s).map fun c => [c]).Nodup := by
  rw [List.nodup_cons]
  refine ⟨fun h => (by obtain ⟨c, _, e⟩ := List.mem_map.mp h; cases e), ?_⟩
  exact List.Pairwise.map _ (fun a b hne e => hne (by simpa using e)) (G.nd.sublist List.filter_sublist)
theorem GB.lp_perm {s : Nat × Nat} (hs : s ∈ plS sg ar) : ([] :: (lpS sg ar s).map fun c => [c]).Perm ((List.range (Gp.ordT (cod sh s.1))).map fun g => sgn sg ar (s.1, s.2, g, s.2)) := by
  obtain ⟨hk, hi⟩ := G.place.mp hs
  refine (List.perm_ext_iff_of_nodup (G.lp_nd s) ?_).mpr fun t => ?_
  · refine List.Pairwise.map _ (R := fun a b => a < Gp.ordT (cod sh s.1) ∧ b < Gp.ordT (cod sh s.1) ∧ a ≠ b) (fun a b ⟨ha, hb, hne⟩ e => hne ?_) ?_
    · have := G.sgn_inj (a := (s.1, s.2, a, s.2)) (b := (s.1, s.2, b, s.2)) ⟨hk, hi, hi, ha⟩ ⟨hk, hi, hi, hb⟩ rfl e
      simpa using this
    · refine List.Pairwise.imp_of_mem ?_ (List.nodup_range (n := Gp.ordT (cod sh s.1)))
      intro a b ha hb hne
      exact ⟨List.mem_range.mp ha, List.mem_range.mp hb, hne⟩
  · rw [G.mem_lp hs, List.mem_map]
    constructor
    · rintro ⟨g, hg, rfl⟩
      exact ⟨g, List.mem_range.mpr hg, rfl⟩
    · rintro ⟨g, hg, rfl⟩
      exact ⟨g, List.mem_range.mp hg, rfl⟩
theorem GB.lp_len {s : Nat × Nat} (hs : s ∈ plS sg ar) : (lpS sg ar s).length + 1 = Gp.ordT (cod sh s.1) := by
  have := (G.lp_perm hs).length_eq
  simpa using this
/-- the products of a loop with all elements of its table are all of them -/
theorem GB.lp_close {s : Nat × Nat} (hs : s ∈ plS sg ar) {c : Nat} (hc : c ∈ lpS sg ar s) : (([] :: (lpS sg ar s).map fun c => [c]).map fun o => left R ([c] ++ o)).Perm ([] :: (lpS sg ar s).map fun c => [c]) := by
  obtain ⟨hk, hi⟩ := G.place.mp hs
  have hm : [c] ∈ ([] :: (lpS sg ar s).map fun c => [c]) := List.mem_cons_of_mem _ (List.mem_map.mpr ⟨c, hc, rfl⟩)
  obtain ⟨hcs, h2⟩ := List.mem_filter.mp hc
  rw [Bool.and_eq_true, decide_eq_true_eq, decide_eq_true_eq] at h2
  have e1 : aof sg ar c = (s.1, s.2, (aof sg ar c).2.2.1, s.2) := by
    obtain ⟨h3, h4⟩ := h2
    unfold srcS at h3
    unfold tgtS at h4
    generalize aof sg ar c = a at h3 h4
    obtain ⟨a1, a2, a3, a4⟩ := a
    obtain ⟨k, i⟩ := s
    simp only [srcA, tgtA, Prod.mk.injEq] at h3 h4
    obtain ⟨rfl, rfl⟩ := h3
    rw [h4.2]
  have hv := G.val hcs
  have hp := G.lp_perm hs
  have hml : ∀ h < Gp.ordT (cod sh s.1), left R ([c] ++ sgn sg ar (s.1, s.2, h, s.2)) = sgn sg ar (s.1, s.2, Gp.mulT (cod sh s.1) (aof sg ar c).2.2.1 h, s.2) := fun h hh => by
    rw [G.left_r (b := (s.1, s.2, h, s.2)) ⟨hk, hi, hi, hh⟩ hcs (by rw [e1]; rfl), e1]
    rfl
  rw [e1] at hv
  have hg : (aof sg ar c).2.2.1 < Gp.ordT (cod sh s.1) := hv.g
  generalize (aof sg ar c).2.2.1 = g at hml hg
  obtain ⟨hk9, _, _⟩ := G.cd hk
  refine (hp.map fun o => left R ([c] ++ o)).trans (List.Perm.trans ?_ hp.symm)
  rw [List.map_map]
  refine (List.perm_ext_iff_of_nodup ?_ (hp.nodup (G.lp_nd s))).mpr fun t => ?_
  · refine List.Pairwise.map _ (R := fun a b => a < Gp.ordT (cod sh s.1) ∧ b < Gp.ordT (cod sh s.1) ∧ a ≠ b) (fun a b ⟨ha, hb, hne⟩ e => hne ?_) ?_
    · have e : left R ([c] ++ sgn sg ar (s.1, s.2, a, s.2)) = left R ([c] ++ sgn sg ar (s.1, s.2, b, s.2)) := e
      rw [hml a ha, hml b hb] at e
      have := G.sgn_inj (a := (s.1, s.2, Gp.mulT (cod sh s.1) g a, s.2)) (b := (s.1, s.2, Gp.mulT (cod sh s.1) g b, s.2)) ⟨hk, hi, hi, Gp.mul_lt _ hk9 _ hg _ ha⟩ ⟨hk, hi, hi, Gp.mul_lt _ hk9 _ hg _ hb⟩ rfl e
      have e : Gp.mulT (cod sh s.1) g a = Gp.mulT (cod sh s.1) g b := by simpa using this
      obtain ⟨h, hh, _, h0⟩ := Gp.mul_inv _ hk9 g hg
      rw [← (Gp.mul_one _ hk9 a ha).2, ← (Gp.mul_one _ hk9 b hb).2, ← h0, Gp.mul_assoc _ hk9 _ hh _ hg _ ha, Gp.mul_assoc _ hk9 _ hh _ hg _ hb, e]
    · refine List.Pairwise.imp_of_mem ?_ (List.nodup_range (n := Gp.ordT (cod sh s.1)))
      intro a b ha hb hne
      exact ⟨List.mem_range.mp ha, List.mem_range.mp hb, hne⟩
  · rw [List.mem_map, List.mem_map]
    constructor
    · rintro ⟨h, hh, rfl⟩
      rw [List.mem_range] at hh
      exact ⟨_, List.mem_range.mpr (Gp.mul_lt _ hk9 _ hg _ hh), (hml h hh).symm⟩
    · rintro ⟨h, hh, rfl⟩
      rw [List.mem_range] at hh
      obtain ⟨g', hg', h0, _⟩ := Gp.mul_inv _ hk9 g hg
      refine ⟨Gp.mulT (cod sh s.1) g' h, List.mem_range.mpr (Gp.mul_lt _ hk9 _ hg' _ hh), ?_⟩
      show left R ([c] ++ sgn sg ar (s.1, s.2, _, s.2)) = _
      rw [hml _ (Gp.mul_lt _ hk9 _ hg' _ hh), ← Gp.mul_assoc _ hk9 _ hg _ hg' _ hh, h0, (Gp.mul_one _ hk9 h hh).2]
/-- the sizes of the tables -/
theorem GB.sizes : ((heads (plS sg ar)).map fun s => (lpS sg ar s).length).Perm (sh.map fun s => Gp.ordT s.1 - 1) := by
  have h1 : ((heads (plS sg ar)).map fun s => (lpS sg ar s).length) = ((heads (plS sg ar)).map (·.1)).map fun k => Gp.ordT (cod sh k) - 1 := by
    rw [List.map_map]
    refine List.map_congr_left fun s hs => ?_
    have := G.lp_len (heads_sub s hs)
    show _ = Gp.ordT (cod sh s.1) - 1
    omega
  rw [h1]
  refine (G.heads_perm.map _).trans ?_
  have : (List.range sh.length).map (fun k => Gp.ordT (cod sh k) - 1) = sh.map fun s => Gp.ordT s.1 - 1 := by
    refine List.ext_getElem (by simp) fun i h1 h2 => ?_
    simp at h1
    simp [cod, List.getD_eq_getElem?_getD, List.getElem?_eq_getElem h1]
  rw [this]
omit G in
theorem sum_man (sh : List (Nat × Nat)) : (plAll sh).length = (sh.map (·.2)).sum := by
  unfold plAll
  rw [List.length_flatMap]
  congr 1
  refine List.ext_getElem (by simp) fun i h1 h2 => ?_
  simp at h1
  simp [man, List.getD_eq_getElem?_getD, List.getElem?_eq_getElem h1]
theorem GB.rank : (plS sg ar).length - (heads (plS sg ar)).length = (sh.map fun s => s.2 - 1).sum ∧ (heads (plS sg ar)).length = sh.length ∧ sh.length ≤ (plS sg ar).length := by
  have h1 := G.pl_perm.length_eq
  have h2 := G.heads_perm.length_eq
  rw [List.length_map, List.length_range] at h2
  rw [h1, h2, sum_man]
  have h3 : ∀ s ∈ sh, 1 ≤ s.2 := fun s hs => (menu_c s (G.gs.mem s hs)).2.1
  clear h1 h2 G
  induction sh with
  | nil => simp
  | cons s sh ih =>
    have h4 := h3 s List.mem_cons_self
    obtain ⟨h5, _, h6⟩ := ih fun s hs => h3 s (List.mem_cons_of_mem _ hs)
    simp only [List.map_cons, List.sum_cons, List.length_cons]
    refine ⟨by omega, trivial, by omega⟩
omit G in
theorem sum_rowK (part : Nat → Nat) : ∀ n, ((partsN part n).map fun k => (rowK part n k).length).sum = n
  | 0 => rfl
  | n + 1 => by
    have ih := sum_rowK part n
    rw [partsN_succ, addF]
    have h1 : ∀ k, (rowK part (n + 1) k).length = (rowK part n k).length + (if part n = k then 1 else 0) := fun k => by
      rw [rowK_succ, List.length_append]
      split <;> rfl
    simp only [h1]
    split
    · rename_i hm
      have key : ∀ l : List Nat, l.Nodup → part n ∈ l → (l.map fun k => (rowK part n k).length + (if part n = k then 1 else 0)).sum = (l.map fun k => (rowK part n k).length).sum + 1 := by
        intro l
        induction l with
        | nil => intro _ h; cases h
        | cons x l ih =>
          intro hnd hm
          rw [List.nodup_cons] at hnd
          simp only [List.map_cons, List.sum_cons]
          by_cases e : part n = x
          · have h2 : (l.map fun k => (rowK part n k).length + (if part n = k then 1 else 0)) = l.map fun k => (rowK part n k).length := List.map_congr_left fun k hk => by
              rw [if_neg (fun z => hnd.1 (by rw [← e, z]; exact hk))]
              rfl
            rw [h2, if_pos e]
            omega
          · rw [ih hnd.2 ((List.mem_cons.mp hm).resolve_left e), if_neg e]
            omega
      rw [key (partsN part n) plc_nodup hm, ih]
    · rename_i hm
      rw [List.map_append, List.sum_append]
      have h2 : ((partsN part n).map fun k => (rowK part n k).length + (if part n = k then 1 else 0)) = (partsN part n).map fun k => (rowK part n k).length := List.map_congr_left fun k hk => by
        rw [if_neg (fun z => hm (by rw [z]; exact hk))]
        rfl
      have h3 : rowK part n (part n) = [] := List.eq_nil_iff_forall_not_mem.mpr fun j hj => hm (mem_partsN.mpr ⟨j, (mem_rowK.mp hj).1, (mem_rowK.mp hj).2⟩)
      rw [h2, ih]
      simp [h3]
end
end Sh
set_option Elab.async false
set_option linter.all false
set_option maxRecDepth 100000
set_option maxHeartbeats 4000000
namespace Sh
open PySem PySem.Spec PyProof.Rows L2
open SX (S S_inj S_len S_cat)
open Bk (Rule left Wf Meets Reach Step IsEnd)
local macro_rules | `(tactic| walk_at "nx") => `(tactic| repeat (with_reducible first | refine Sh.gn_mk ?_ | refine Sh.nx_mk ?_ | refine Sh.st_nx ?_ | refine Sh.rt_mk ?_ | refine Sh.ct_mk ?_ | refine Sh.bk_mk ?_))
local macro_rules | `(tactic| walk_at "sq") => `(tactic| first | exact SqL.of upd_same | exact SqT.of upd_same | exact SqL.of (by assumption) | exact SqT.of (by assumption) | assumption | exact Or.inl (SqL.of (by assumption)) | exact Or.inr (SqT.of (by assumption)) | exact Or.inl (by assumption) | exact Or.inr (by assumption))
local macro_rules | `(tactic| walk_at "hp") => `(tactic| first | exact upd_same | assumption)
local macro_rules | `(tactic| walk_at "sz") => `(tactic| first | exact Nat.le_of_ble_eq_true rfl | omega)
local macro_rules | `(tactic| walk_at "sd") => `(tactic| first | omega | exact rfl | assumption | (show (0 : Int) < _; omega) | exact And.intro (by omega) (by omega) | exact Or.inl (And.intro (by omega) (by omega)) | exact Or.inr (And.intro (by omega) (by omega)) | omega | exact Sh.sz_S (by omega) | decide)
local macro_rules | `(tactic| walk_at "rd1") => `(tactic| first
  | (with_reducible first | refine Sh.gn_mk ?_ | refine Sh.nx_mk ?_ | refine Sh.st_nx ?_ | refine Sh.rt_mk ?_ | refine Sh.ct_mk ?_ | refine Sh.bk_mk ?_)
  | refine Exists.intro (α := V) _ (And.intro rfl ?_)
  | refine Exists.intro (α := Bool) _ (And.intro rfl ?_)
  | refine Exists.intro (α := Int) _ (And.intro rfl ?_)
  | refine Exists.intro (α := PySem.Str) _ (And.intro rfl ?_)
  | refine Exists.intro (α := Int) _ (Exists.intro (α := Int) _ (And.intro rfl (And.intro rfl ?_)))
  | refine Exists.intro (α := PySem.Str) _ (Exists.intro (α := PySem.Str) _ (And.intro rfl (And.intro rfl ?_)))
  | refine Exists.intro (α := Int) _ (Exists.intro (α := Int) _ (And.intro rfl ?_))
  | refine Or.inl (Exists.intro (α := Int) _ (And.intro rfl ?_))
  | refine Exists.intro _ (Exists.intro _ (Exists.intro _ (Exists.intro _ (And.intro rfl (And.intro rfl (And.intro (by walk_at "sq") (And.intro rfl ?_)))))))
  | refine Exists.intro _ (Exists.intro _ (Exists.intro _ (Exists.intro _ (And.intro rfl (And.intro rfl (And.intro (by walk_at "hp") (And.intro rfl ?_)))))))
  | refine And.intro (by walk_at "sd") ?_
  )
local macro_rules | `(tactic| walk_at "rd") => `(tactic| repeat walk_at "rd1")
local macro_rules | `(tactic| walk_at "lk") => `(tactic| first | exact rfl | (rw [lookup_putF, if_pos rfl]) | (rw [lookup_putF, if_neg (by decide +kernel)]; walk_at "lk"))

theorem sjoin (l : List Nat) : Txt.join (S []) (l.map fun c => S [c]) = S l := by
  have := join_nil (l.map fun c => [c])
  rw [flat_one, List.map_map] at this
  exact this
theorem ssum (l : List Nat) : ((l.map fun c => S [c]).map (·.length)).sum = l.length := by
  induction l with
  | nil => rfl
  | cons x l ih => rw [List.map_cons, List.map_cons, List.sum_cons, ih, S_len]; simp [Nat.add_comm]
/-- a dict of undoing signs -/
def UndV (sg : List Nat) (R : List Ru) (kvs : List (Key × V)) : Prop := ∀ c ∈ sg, valV kvs (Sum.inr (S [c])) = some (.str (S [uS R sg c]))
theorem GB.und {sh : List (Nat × Nat)} {sg : List Nat} {ar : List Arr} {R : List Ru} (G : GB sh sg ar R) {kvs : List (Key × V)} (h : UndoOk sg R kvs) : UndV sg R kvs := fun c hc => by
  obtain ⟨e, he, hv, h1, h2⟩ := h c hc
  rw [hv, G.uS_of hc h1]
section
variable {P : Program} {w : World} {K : PySem.W.Frag} {mg : Str → Option Value} {base : Heap} {CB CE : Addr}
def spLUndo (K : PySem.W.Frag) : Sp := fun vs H Q _ => ∃ (l : Addr) (sh : List (Nat × Nat)) (sg : List Nat) (ar : List Arr) (R : List Ru) (zs : List V), vs = [.str (S sg), .ref l] ∧ GB sh sg ar R ∧ H l = some (.tup zs) ∧ Items RuV H zs R ∧
  ∀ (d : Addr) (kvs : List (Key × V)) (H' : Hp), H' d = some (.dK kvs) → UndV sg R kvs → Same H H' → H d = none → Q (.ref d) H'
theorem c__law_undo (T : Txt K mg) : Cal P w K mg base CX0 1 "_law_undo" (spLUndo K) := by
  refine Cal.mk0 T.d__law_undo sc__law_undo (fun vs H Q E h => ?_) (fun f cdv A outer s H vs Q E hr h => ?_)
  · obtain ⟨l, sh, sg, ar, R, zs, rfl, _⟩ := h
    rfl
  · obtain ⟨l, sh, sg, ar, R, zs, rfl, G, hl, it, k⟩ := h
    have hu := hu_of hr
    have h2 := G.two
    have hRl := G.ok.2.1
    refine ⟨_, (pss_cons (ps_set (i := 2) sc__law_undo.nd rfl (Or.inl rfl) pe_dnewK)
  (pss_cons (ps_for PassesOwn.never rfl (pi_tup (pv 1)) (pg_tup (by rfl) (pgs_cons (pg_name (i := 3) sc__law_undo.nd rfl (Or.inl rfl)) (pgs_cons (pg_name (i := 4) sc__law_undo.nd rfl (Or.inl rfl)) pgs_nil)))
    (pss_one (ps_if (PW.pt (pw_and (pt_cmpR op_eq (pv 4) pe_str (nomark _)) (pw_and1 (pt_cmpR op_eq (pe_callB call_len_str (by rfl) T.b_len (by decide +kernel) (pa_cons (pv 3) pa_nil)) pe_int (nomark _)))))
      (pss_one (ps_dput hu (pv 2) (pe_ix ix_str (pv 3) pe_int (fun _ _ => rfl)) (pe_ix ix_str (pv 3) pe_int (fun _ _ => rfl)) rfl))
      pss_nil)))
  (pss_one (ps_ret (pv 2))))), ?_⟩
    refine fun d hd => ?_
    have s1 := same_new (o := .dK []) hd
    have e1 : (upd H d (.dK [])) d = some (.dK []) := upd_same
    generalize upd H d (.dK []) = H1 at s1 e1 ⊢
    walk_at "nx"
    refine ⟨_, rfl, l, rfl, ⟨_, SqT.of (s1 _ _ hl)⟩, ?_⟩
    refine for_tupR (K := K) (a := l) (xs := zs) (l := R) (Rel := RuV) it.1 (fun pre σ H2 => ∃ (v3 v4 : Option V) (kvs : List (Key × V)), σ = [some (.str (S sg)), some (.ref l), some (.ref d), v3, v4] ∧ Same H H2 ∧ H2 d = some (.dK kvs) ∧ kvs.length ≤ pre.length ∧ ∀ c e, ([c, e], []) ∈ pre → valV kvs (Sum.inr (S [c])) = some (.str (S [e])))
      ⟨_, _, [], rfl, s1, e1, Nat.le_refl _, fun c e h => (by cases h)⟩ (fun pre σ H2 ⟨_, _, _, _, s2, _⟩ => ⟨SqT.of (s2 _ _ hl), fun i x y a b => let ⟨q, e, z⟩ := it.2 i x y a b; ⟨q, e, s2 _ _ z⟩⟩) ?_ ?_
    · rintro pre r post x σ H2 epl hx ⟨q, rfl, hq⟩ ⟨v3, v4, kvs, rfl, s2, hd2, hkl, hV⟩
      have hrR : r ∈ R := by rw [epl]; simp
      have hpl : pre.length + 1 ≤ 64 := by
        have := congrArg List.length epl
        simp at this
        omega
      have hl2 := h2.l2 r hrR
      obtain ⟨ls, w⟩ := r
      match ls, hl2 with
      | [c, e], _ =>
        refine ⟨q, _, rfl, SqT.of hq, rfl, _, _, rfl, _, _, rfl, rfl, ?_⟩
        refine if_K (decide (w = [])) (fun Q' hQ => ?_) (fun hc => ?_) (fun hc => ?_)
        · refine ⟨_, rfl, rfl, _, rfl, ?_⟩
          rw [show decide (V.str (S w) = V.str (Str.ofString "")) = decide (w = []) from decide_eq_decide.mpr ⟨fun z => S_inj (V.str.inj z), fun z => by rw [z]; rfl⟩]
          cases hw : decide (w = []) with
          | false =>
            rw [hw] at hQ
            exact iteF hQ
          | true =>
            rw [hw] at hQ
            refine iteT ?_
            refine ⟨_, rfl, _, rfl, sz_S (t := [c, e]) (by simp), rfl, _, rfl, ?_⟩
            exact hQ
        · have hw := of_decide_eq_true hc
          subst hw
          refine ⟨_, rfl, S [c, e], 1, e, rfl, rfl, sz_S (t := [c, e]) (by simp), rfl, ?_⟩
          refine ⟨_, rfl, ?_⟩
          refine ⟨_, rfl, S [c, e], 0, c, rfl, rfl, sz_S (t := [c, e]) (by simp), rfl, ?_⟩
          refine ⟨d, _, rfl, DPut.k (k := Sum.inr (S [c])) hd2 (Nat.lt_of_le_of_lt (m := 1000) (by omega) (by decide)), ?_⟩
          refine ⟨_, _, putK kvs (Sum.inr (S [c])) (.str (S [e])), rfl, same_mut s2 hd, upd_same, Nat.le_trans (putK_len _ _ _) (by rw [List.length_append, List.length_singleton]; omega), fun c' e' h => ?_⟩
          rw [valV_put]
          by_cases ec : c' = c
          · subst ec
            rw [if_pos rfl]
            have h3 : ([c', e'], []) ∈ R := by
              rw [epl]
              rcases List.mem_append.mp h with z | z
              · exact List.mem_append_left _ z
              · rw [List.mem_singleton] at z
                rw [z]
                simp
            have hc' : c' ∈ sg := (G.ok.2.2.1 _ hrR).2.2.1 c' (by simp)
            have a1 := G.uS_of hc' hrR
            have a2 := G.uS_of hc' h3
            rw [← a1, ← a2]
          · rw [if_neg (fun z => ec (by simpa using S_inj (Sum.inr.inj z)))]
            rcases List.mem_append.mp h with z | z
            · exact hV c' e' z
            · rw [List.mem_singleton] at z
              have := (Prod.mk.inj z).1
              simp only [List.cons.injEq, and_true] at this
              exact absurd this.1 ec
        · have hw := of_decide_eq_false hc
          walk_at "nx"
          refine ⟨_, _, kvs, rfl, s2, hd2, by rw [List.length_append, List.length_singleton]; omega, fun c' e' h => ?_⟩
          rcases List.mem_append.mp h with z | z
          · exact hV c' e' z
          · rw [List.mem_singleton] at z
            exact absurd (Prod.mk.inj z).2.symm hw
    · rintro σ H2 ⟨v3, v4, kvs, rfl, s2, hd2, hkl, hV⟩
      walk_at "rd"
      exact k d kvs H2 hd2 (fun c hc => hV c _ (G.uS_spec hc).2.1) s2 hd
def spUndone : Sp := fun vs H Q _ => ∃ (d : Addr) (sh : List (Nat × Nat)) (sg : List Nat) (ar : List Arr) (R : List Ru) (t : List Nat) (kvs : List (Key × V)), vs = [.ref d, .str (S t)] ∧ GB sh sg ar R ∧ H d = some (.dK kvs) ∧ UndV sg R kvs ∧ (∀ c ∈ t, c ∈ sg) ∧ t.length ≤ 1000 ∧
  ∀ (H' : Hp), Same H H' → Q (.str (S (invS R sg t))) H'
theorem c__law_undone (T : Txt K mg) : Cal P w K mg base CX0 1 "_law_undone" spUndone := by
  refine Cal.mk0 T.d__law_undone sc__law_undone (fun vs H Q E h => ?_) (fun f cdv A outer s H vs Q E hr h => ?_)
  · obtain ⟨d, sh, sg, ar, R, t, kvs, rfl, _⟩ := h
    rfl
  · obtain ⟨d, sh, sg, ar, R, t, kvs, rfl, G, hd, hU, ht, hl, k⟩ := h
    have hu := hu_of hr
    refine ⟨_, (pss_one (ps_ret (pe_join pe_str (pe_lc (own := [("_law_sign", 2)]) (g := gName 2) (tt := tYes) rfl sc__law_undone.nd (pi_str (pe_revS (pv 1))) (blkOk_by (N := ["_law_undo_here", "_law_text_here", "_law_sign"]) (sc := defScope s__law_undone) (by decide +kernel)) (fun _ _ _ _ _ => (pg_name (i := 2) sc__law_undone.nd rfl (Or.inl rfl))) (fun _ _ _ _ _ => pts_nil) (fun _ _ _ _ _ => (pe_dget hu (pv 0) (pv 2) (fun _ _ => rfl))))))), ?_⟩
    walk_at "nx"
    refine ⟨⟨_, rfl⟩, _, rfl, _, rfl, sz_S (by omega), ?_⟩
    rw [revS_S]
    refine ⟨_, rfl, fun D hD => lc_str (l := t.reverse) (fun pre H3 => H3 D = some (.lst ((pre.map (uS R sg)).map fun c => V.str (S [c]))) ∧ Same H H3) ⟨upd_same, same_new hD⟩ ?_ ?_⟩
    · rintro pre c post H3 e ⟨h3, s3⟩
      have hct : c ∈ t := List.mem_reverse.mp (by rw [e]; simp)
      have hpl : pre.length + 1 ≤ 1000 := by
        have := congrArg List.length e
        simp at this
        omega
      refine ⟨rfl, ty_T ?_⟩
      refine ⟨_, rfl, _, rfl, d, _, rfl, by rw [← hU c (ht c hct)]; exact DGet.k (k := Sum.inr (S [c])) (s3 _ _ hd), ?_⟩
      refine ⟨_, h3, ?_, ?_, same_mut s3 hD⟩
      · rw [List.length_map, List.length_map]
        exact Nat.lt_of_le_of_lt (m := 1000) (by omega) (by decide)
      · rw [upd_same, List.map_append, List.map_append]
        rfl
    · rintro H3 ⟨h3, s3⟩
      refine ⟨_, D, (t.reverse.map (uS R sg)).map fun c => S [c], rfl, rfl, .inl ?_, ?_, ?_⟩
      · rw [List.map_map]
        exact SqL.of h3
      · show (((t.reverse.map (uS R sg)).map fun c => S [c]).map (·.length)).sum + ((t.reverse.map (uS R sg)).map fun c => S [c]).length * 0 ≤ 16777216
        rw [ssum, List.length_map, List.length_reverse]
        omega
      · rw [show Txt.join (Str.ofString "") ((t.reverse.map (uS R sg)).map fun c => S [c]) = S (t.reverse.map (uS R sg)) from sjoin _]
        rw [show t.reverse.map (uS R sg) = invS R sg t by unfold invS; rw [List.map_reverse]]
        exact k H3 s3
theorem c_undone_text (T : Txt K mg) : Cal P w K mg base CX0 1 "undone_text" spUndone := by
  refine Cal.mk0 T.d_undone_text sc_undone_text (fun vs H Q E h => ?_) (fun f cdv A outer s H vs Q E hr h => ?_)
  · obtain ⟨d, sh, sg, ar, R, t, kvs, rfl, _⟩ := h
    rfl
  · obtain ⟨d, sh, sg, ar, R, t, kvs, rfl, G, hd, hU, ht, hl, k⟩ := h
    have hu := hu_of hr
    refine ⟨_, (pss_one (ps_ret (pe_join pe_str (pe_lc (own := [("sign", 2)]) (g := gName 2) (tt := tYes) rfl sc_undone_text.nd (pi_str (pe_revS (pv 1))) (blkOk_by (N := ["undo", "text", "sign"]) (sc := defScope s_undone_text) (by decide +kernel)) (fun _ _ _ _ _ => (pg_name (i := 2) sc_undone_text.nd rfl (Or.inl rfl))) (fun _ _ _ _ _ => pts_nil) (fun _ _ _ _ _ => (pe_dget hu (pv 0) (pv 2) (fun _ _ => rfl))))))), ?_⟩
    walk_at "nx"
    refine ⟨⟨_, rfl⟩, _, rfl, _, rfl, sz_S (by omega), ?_⟩
    rw [revS_S]
    refine ⟨_, rfl, fun D hD => lc_str (l := t.reverse) (fun pre H3 => H3 D = some (.lst ((pre.map (uS R sg)).map fun c => V.str (S [c]))) ∧ Same H H3) ⟨upd_same, same_new hD⟩ ?_ ?_⟩
    · rintro pre c post H3 e ⟨h3, s3⟩
      have hct : c ∈ t := List.mem_reverse.mp (by rw [e]; simp)
      have hpl : pre.length + 1 ≤ 1000 := by
        have := congrArg List.length e
        simp at this
        omega
      refine ⟨rfl, ty_T ?_⟩
      refine ⟨_, rfl, _, rfl, d, _, rfl, by rw [← hU c (ht c hct)]; exact DGet.k (k := Sum.inr (S [c])) (s3 _ _ hd), ?_⟩
      refine ⟨_, h3, ?_, ?_, same_mut s3 hD⟩
      · rw [List.length_map, List.length_map]
        exact Nat.lt_of_le_of_lt (m := 1000) (by omega) (by decide)
      · rw [upd_same, List.map_append, List.map_append]
        rfl
    · rintro H3 ⟨h3, s3⟩
      refine ⟨_, D, (t.reverse.map (uS R sg)).map fun c => S [c], rfl, rfl, .inl ?_, ?_, ?_⟩
      · rw [List.map_map]
        exact SqL.of h3
      · show (((t.reverse.map (uS R sg)).map fun c => S [c]).map (·.length)).sum + ((t.reverse.map (uS R sg)).map fun c => S [c]).length * 0 ≤ 16777216
        rw [ssum, List.length_map, List.length_reverse]
        omega
      · rw [show Txt.join (Str.ofString "") ((t.reverse.map (uS R sg)).map fun c => S [c]) = S (t.reverse.map (uS R sg)) from sjoin _]
        rw [show t.reverse.map (uS R sg) = invS R sg t by unfold invS; rw [List.map_reverse]]
        exact k H3 s3
end
end Sh
set_option Elab.async false
set_option linter.all false
set_option maxRecDepth 100000
set_option maxHeartbeats 4000000
namespace Sh
open PySem PySem.Spec PyProof.Rows L2
open SX (S S_inj S_len S_cat)
open Bk (Rule left Wf Meets Reach Step IsEnd)
local macro_rules | `(tactic| walk_at "nx") => `(tactic| repeat (with_reducible first | refine Sh.gn_mk ?_ | refine Sh.nx_mk ?_ | refine Sh.st_nx ?_ | refine Sh.rt_mk ?_ | refine Sh.ct_mk ?_ | refine Sh.bk_mk ?_))
local macro_rules | `(tactic| walk_at "sq") => `(tactic| first | exact SqL.of upd_same | exact SqT.of upd_same | exact SqL.of (by assumption) | exact SqT.of (by assumption) | assumption | exact Or.inl (SqL.of (by assumption)) | exact Or.inr (SqT.of (by assumption)) | exact Or.inl (by assumption) | exact Or.inr (by assumption))
local macro_rules | `(tactic| walk_at "hp") => `(tactic| first | exact upd_same | assumption)
local macro_rules | `(tactic| walk_at "sz") => `(tactic| first | exact Nat.le_of_ble_eq_true rfl | omega)
local macro_rules | `(tactic| walk_at "sd") => `(tactic| first | omega | exact rfl | assumption | (show (0 : Int) < _; omega) | exact And.intro (by omega) (by omega) | exact Or.inl (And.intro (by omega) (by omega)) | exact Or.inr (And.intro (by omega) (by omega)) | omega | exact Sh.sz_S (by omega) | decide)
local macro_rules | `(tactic| walk_at "rd1") => `(tactic| first
  | (with_reducible first | refine Sh.gn_mk ?_ | refine Sh.nx_mk ?_ | refine Sh.st_nx ?_ | refine Sh.rt_mk ?_ | refine Sh.ct_mk ?_ | refine Sh.bk_mk ?_)
  | refine Exists.intro (α := V) _ (And.intro rfl ?_)
  | refine Exists.intro (α := Bool) _ (And.intro rfl ?_)
  | refine Exists.intro (α := Int) _ (And.intro rfl ?_)
  | refine Exists.intro (α := PySem.Str) _ (And.intro rfl ?_)
  | refine Exists.intro (α := Int) _ (Exists.intro (α := Int) _ (And.intro rfl (And.intro rfl ?_)))
  | refine Exists.intro (α := PySem.Str) _ (Exists.intro (α := PySem.Str) _ (And.intro rfl (And.intro rfl ?_)))
  | refine Exists.intro (α := Int) _ (Exists.intro (α := Int) _ (And.intro rfl ?_))
  | refine Or.inl (Exists.intro (α := Int) _ (And.intro rfl ?_))
  | refine Exists.intro _ (Exists.intro _ (Exists.intro _ (Exists.intro _ (And.intro rfl (And.intro rfl (And.intro (by walk_at "sq") (And.intro rfl ?_)))))))
  | refine Exists.intro _ (Exists.intro _ (Exists.intro _ (Exists.intro _ (And.intro rfl (And.intro rfl (And.intro (by walk_at "hp") (And.intro rfl ?_)))))))
  | refine And.intro (by walk_at "sd") ?_
  )
local macro_rules | `(tactic| walk_at "rd") => `(tactic| repeat walk_at "rd1")
local macro_rules | `(tactic| walk_at "lk") => `(tactic| first | exact rfl | (rw [lookup_putF, if_pos rfl]) | (rw [lookup_putF, if_neg (by decide +kernel)]; walk_at "lk"))

theorem cut_last (x : List Nat) (c : Nat) : cutS (S (x ++ [c])) none (some (-1)) = S x := by
  unfold cutS
  have e : (S (x ++ [c])).length = x.length + 1 := (S_len _).trans (by simp)
  have h1 : HT.sIx (x.length + 1) 0 none = 0 := rfl
  have h2 : HT.sIx (x.length + 1) (x.length + 1) (some (-1)) = x.length := by
    unfold HT.sIx
    dsimp only
    rw [if_pos (by decide)]
    omega
  rw [e, h1, h2]
  have h3 : (S (x ++ [c])).cps.toList = x ++ [c] := rfl
  rw [h3, List.drop_zero, Nat.sub_zero]
  show (⟨((x ++ [c]).take x.length).toArray⟩ : Str) = S x
  rw [List.take_left]
theorem at_last (x : List Nat) (c : Nat) : atI (S (x ++ [c])).cps.toList (-1) = some c := by
  have h3 : (S (x ++ [c])).cps.toList = x ++ [c] := rfl
  rw [h3]
  unfold atI ixN
  rw [if_neg (by decide), if_pos (by simp; omega)]
  have : ((-1 : Int) + ((x ++ [c]).length : Nat)).toNat = x.length := by simp; omega
  show (some ((-1 : Int) + ((x ++ [c]).length : Nat)).toNat).bind _ = _
  rw [this]
  simp
/-- the core of a text, while it is turned -/
structure RInv {sh : List (Nat × Nat)} {sg : List Nat} {ar : List Arr} {R : List Ru} (G : GB sh sg ar R) (t y core : List Nat) : Prop where
  ys : ∀ c ∈ y, c ∈ sg
  cs : ∀ c ∈ core, c ∈ sg
  ce : IsEnd R core
  eq : Eq2 R t (y ++ core ++ invS R sg y)
  ln : y.length + core.length ≤ t.length
section
variable {sh : List (Nat × Nat)} {sg : List Nat} {ar : List Arr} {R : List Ru} {G : GB sh sg ar R} {t y core : List Nat}
theorem RInv.done (h : RInv G t y core) (hc : 2 ≤ core.length → Adj R (core ++ core)) : Rnd R sg t (left R y) core where
  ae := Bk.left_end G.ok.wf y
  as := G.left_sub h.ys
  cs := h.cs
  ce := h.ce
  eq := h.eq.trans (G.app (G.app (G.lf y).symm rfl) (G.inv_congr h.ys (G.left_sub h.ys) (G.lf y).symm))
  cyc := hc
theorem RInv.step {x : List Nat} {c : Nat} (h : RInv G t y (x ++ [c])) (hl : (left R ([c] ++ x)).length < (x ++ [c]).length) : RInv G t (y ++ [uS R sg c]) (left R ([c] ++ x)) := by
  have hc : c ∈ sg := h.cs c (by simp)
  obtain ⟨u1, u2, u3⟩ := G.uS_spec hc
  have hx : ∀ d ∈ [c] ++ x, d ∈ sg := fun d hd => by
    rcases List.mem_append.mp hd with z | z
    · rw [List.mem_singleton.mp z]; exact hc
    · exact h.cs d (List.mem_append_left _ z)
  refine ⟨fun d hd => ?_, G.left_sub hx, Bk.left_end G.ok.wf _, ?_, ?_⟩
  · rcases List.mem_append.mp hd with z | z
    · exact h.ys d z
    · rw [List.mem_singleton.mp z]; exact u1
  · have e1 : invS R sg (y ++ [uS R sg c]) = [c] ++ invS R sg y := by
      rw [invS_app]
      show [uS R sg (uS R sg c)] ++ _ = _
      rw [G.uu hc]
    rw [e1]
    refine h.eq.trans ?_
    have a1 : Eq2 R (y ++ ([uS R sg c] ++ [c]) ++ (x ++ [c] ++ invS R sg y)) (y ++ (x ++ [c] ++ invS R sg y)) := G.mid (G.eqR u3)
    have a2 : Eq2 R ((y ++ [uS R sg c]) ++ ([c] ++ x) ++ ([c] ++ invS R sg y)) ((y ++ [uS R sg c]) ++ left R ([c] ++ x) ++ ([c] ++ invS R sg y)) := G.app (G.app rfl (G.lf _).symm) rfl
    refine Eq.trans ?_ a2
    simp only [List.append_assoc] at a1 ⊢
    exact a1.symm
  · have := h.ln
    simp only [List.length_append, List.length_singleton] at this hl ⊢
    omega
end
section
variable {P : Program} {w : World} {K : PySem.W.Frag} {mg : Str → Option Value} {base : Heap} {CB CE : Addr}
def spRound (K : PySem.W.Frag) (C : Addr) : Sp := fun vs H Q _ => ∃ (p d : Addr) (sh : List (Nat × Nat)) (sg : List Nat) (ar : List Arr) (R : List Ru) (t : List Nat) (ku : List (Key × V)), vs = [.ref p, .ref d, .str (S t)] ∧ BookAt K C H p sg R ∧ GB sh sg ar R ∧ H d = some (.dK ku) ∧ UndV sg R ku ∧ (∀ c ∈ t, c ∈ sg) ∧ t.length ≤ 200 ∧
  ∀ (A core : List Nat) (q : Addr) (H' : Hp), Rnd R sg t A core → A.length + core.length ≤ t.length → H' q = some (.tup [.str (S A), .str (S core)]) → Same H H' → Q (.ref q) H'
theorem c_round_form (T : TxtC K mg CB) : Cal P w K mg base CX0 4 "round_form" (spRound K CB) := by
  have c_rest_of := c_rest_of (P := P) (w := w) (base := base) T
  refine Cal.mk0 T.d_round_form sc_round_form (fun vs H Q E h => ?_) (fun f cdv A outer s H vs Q E hr h => ?_)
  · obtain ⟨p, d, sh, sg, ar, R, t, ku, rfl, _⟩ := h
    rfl
  · obtain ⟨p, d, sh, sg, ar, R, t, ku, rfl, B, G, hd, hU, ht, hl, k⟩ := h
    have hu := hu_of hr
    refine ⟨_, (pss_cons (ps_set (i := 3) sc_round_form.nd rfl (Or.inl rfl) (pe_c c_rest_of hr (by decide) rfl (pa_cons (pv 0) (pa_cons (pv 2) pa_nil))))
  (pss_cons (ps_set (i := 4) sc_round_form.nd rfl (Or.inl rfl) pe_str)
  (pss_cons (ps_while PassesOwn.never (pt_cmpR op_ge (pe_callB call_len_str (by rfl) T.b_len (by decide +kernel) (pa_cons (pv 3) pa_nil)) pe_int (nomark _))
    (pss_cons (ps_set (i := 5) sc_round_form.nd rfl (Or.inl rfl) (pe_c c_rest_of hr (by decide) rfl (pa_cons (pv 0) (pa_cons (pe_op op_add_str (pe_ix ix_str (pv 3) (pe_un un_neg pe_int) (fun _ _ => rfl)) (pe_slice sl_str (pv 3) po_none (po_some (pe_un un_neg pe_int)))) pa_nil))))
    (pss_cons (ps_if (pt_cmpR op_ge (pe_callB call_len_str (by rfl) T.b_len (by decide +kernel) (pa_cons (pv 5) pa_nil)) (pe_callB call_len_str (by rfl) T.b_len (by decide +kernel) (pa_cons (pv 3) pa_nil)) (nomark _))
      (pss_one ps_break)
      pss_nil)
    (pss_cons (ps_set (i := 4) sc_round_form.nd rfl (Or.inl rfl) (pe_op op_add_str (pv 4) (pe_dget hu (pv 1) (pe_ix ix_str (pv 3) (pe_un un_neg pe_int) (fun _ _ => rfl)) (fun _ _ => rfl))))
    (pss_one (ps_set (i := 3) sc_round_form.nd rfl (Or.inl rfl) (pv 5)))))))
  (pss_one (ps_ret (pe_tup (pa_cons (pe_c c_rest_of hr (by decide) rfl (pa_cons (pv 0) (pa_cons (pv 4) pa_nil))) (pa_cons (pv 3) pa_nil)))))))), ?_⟩
    have hlim : (1000 : Nat) ≤ sizeLine := by decide
    walk_at "nx"
    refine ⟨_, rfl, _, rfl, p, sg, t, R, rfl, B, G.ok.wf, hl, fun H1 s1 => ?_⟩
    walk_at "nx"
    have hI0 : RInv G t [] (left R t) := ⟨fun c hc => (by cases hc), G.left_sub ht, Bk.left_end G.ok.wf t, by
      show Eq2 R t ([] ++ left R t ++ [])
      rw [List.append_nil]
      exact (G.lf t).symm, by have := G.left_len t; simpa using this⟩
    refine ⟨fun m σ H2 => ∃ (core y : List Nat) (v5 : Option V), σ = [some (.ref p), some (.ref d), some (.str (S t)), some (.str (S core)), some (.str (S y)), v5] ∧ Same H H2 ∧ RInv G t y core ∧ m = core.length, ⟨(left R t).length, left R t, [], _, rfl, s1, hI0, rfl⟩, ?_⟩
    rintro m σ H2 ⟨core, y, v5, rfl, s2, hI, rfl⟩
    have hln := hI.ln
    refine ⟨_, rfl, _, rfl, sz_S (by omega), ?_⟩
    refine ⟨_, _, rfl, rfl, _, rfl, ?_⟩
    rw [S_len]
    by_cases h2 : 2 ≤ core.length
    · rw [show decide ((2 : Int) ≤ ((core.length : Nat) : Int)) = true from decide_eq_true (by omega)]
      refine iteT ⟨_, fun _ _ h => h, ?_⟩
      obtain ⟨x, c, rfl⟩ : ∃ x c, core = x ++ [c] := ⟨core.dropLast, core.getLast (by intro e; rw [e] at h2; simp at h2), (List.dropLast_concat_getLast _).symm⟩
      have hxl : (x ++ [c]).length = x.length + 1 := by simp
      have hc0 : c ∈ sg := hI.cs c (by simp)
      have hsz : (S (x ++ [c])).length ≤ sizeLine := sz_S (t := x ++ [c]) (by omega)
      refine ⟨_, rfl, _, rfl, 1, rfl, S (x ++ [c]), -1, c, rfl, rfl, hsz, at_last x c, ?_⟩
      refine ⟨_, rfl, 1, rfl, -1, rfl, S (x ++ [c]), rfl, hsz, ?_⟩
      rw [cut_last]
      refine ⟨S [c], S x, rfl, rfl, by rw [S_len, S_len, List.length_singleton]; exact Nat.le_trans (m := 1000) (by omega) hlim, ?_⟩
      rw [S_cat]
      refine tNil_mk ?_
      refine ⟨p, sg, [c] ++ x, R, rfl, B.same s2, G.ok.wf, by rw [List.length_append, List.length_singleton]; omega, fun H3 s3 => ?_⟩
      walk_at "nx"
      have hll := G.left_len ([c] ++ x)
      rw [List.length_append, List.length_singleton] at hll
      refine if_K (decide ((x ++ [c]).length ≤ (left R ([c] ++ x)).length)) (fun Q' hQ => ?_) (fun hc => ?_) (fun hc => ?_)
      · refine ⟨_, rfl, ?_⟩
        refine tNil_mk ?_
        refine ⟨_, rfl, sz_S (by omega), ?_⟩
        refine ⟨_, rfl, ?_⟩
        refine tNil_mk ?_
        refine ⟨_, rfl, hsz, ?_⟩
        refine ⟨_, _, rfl, rfl, _, rfl, ?_⟩
        rw [S_len, S_len, show decide ((((x ++ [c]).length : Nat) : Int) ≤ (((left R ([c] ++ x)).length : Nat) : Int)) = decide ((x ++ [c]).length ≤ (left R ([c] ++ x)).length) from decide_eq_decide.mpr ⟨fun z => by omega, fun z => by omega⟩]
        exact hQ
      · have hle := of_decide_eq_true hc
        walk_at "rd"
        refine tNil_mk ?_
        refine ⟨p, sg, y, R, rfl, B.same (s2.trans s3), G.ok.wf, by omega, fun H4 s4 => ?_⟩
        refine ⟨_, rfl, ?_⟩
        refine tNil_mk ?_
        refine ⟨by walk_at "sz", fun q hq => ?_⟩
        have hly := G.left_len y
        exact k _ _ q _ (hI.done fun _ => G.round_end (by intro e; rw [e] at h2; simp at h2) hI.ce hle) (by omega) upd_same (((s2.trans s3).trans s4).trans (same_new hq))
      · have hlt : (left R ([c] ++ x)).length < (x ++ [c]).length := by have := of_decide_eq_false hc; omega
        walk_at "nx"
        have hUc := hU c hc0
        refine ⟨_, rfl, _, rfl, _, rfl, 1, rfl, S (x ++ [c]), -1, c, rfl, rfl, hsz, at_last x c, ?_⟩
        refine ⟨d, _, rfl, by rw [← hUc]; exact DGet.k (k := Sum.inr (S [c])) ((s2.trans s3) _ _ hd), ?_⟩
        refine ⟨S y, S [uS R sg c], rfl, rfl, by rw [S_len, S_len, List.length_singleton]; exact Nat.le_trans (m := 1000) (by omega) hlim, ?_⟩
        rw [S_cat]
        walk_at "nx"
        refine ⟨_, rfl, ?_⟩
        refine ⟨_, hlt, left R ([c] ++ x), y ++ [uS R sg c], _, rfl, s2.trans s3, hI.step hlt, rfl⟩
    · rw [show decide ((2 : Int) ≤ ((core.length : Nat) : Int)) = false from decide_eq_false (by omega)]
      refine iteF ?_
      walk_at "rd"
      refine tNil_mk ?_
      refine ⟨p, sg, y, R, rfl, B.same s2, G.ok.wf, by omega, fun H3 s3 => ?_⟩
      refine ⟨_, rfl, ?_⟩
      refine tNil_mk ?_
      refine ⟨by walk_at "sz", fun q hq => ?_⟩
      have hly := G.left_len y
      exact k _ _ q _ (hI.done fun z => absurd z h2) (by omega) upd_same ((s2.trans s3).trans (same_new hq))
end
end Sh
set_option Elab.async false
set_option linter.all false
set_option maxRecDepth 100000
set_option maxHeartbeats 4000000
namespace Sh
open PySem PySem.Spec PyProof.Rows L2
open SX (S S_inj S_len S_cat)
open Bk (Rule left Wf Meets Reach Step IsEnd)
def powT (c g : Nat) : Nat → Nat
  | 0 => 0
  | n + 1 => Gp.mulT c (powT c g n) g
theorem pow_least0 : ∀ c < 9, ∀ g < Gp.ordT c, g ≠ 0 → ([2, 3, 4, 5, 6].any fun N => decide (powT c g N = 0) && ((List.range N).all fun m => decide (m = 0) || !decide (powT c g m = 0))) = true := by decide +kernel
theorem pow_least {c g : Nat} (hc : c < 9) (hg : g < Gp.ordT c) (h0 : g ≠ 0) : ∃ N, N < 7 ∧ 2 ≤ N ∧ powT c g N = 0 ∧ ∀ m < N, 1 ≤ m → powT c g m ≠ 0 := by
  obtain ⟨N, hN, h⟩ := List.any_eq_true.mp (pow_least0 c hc g hg h0)
  rw [Bool.and_eq_true, decide_eq_true_eq, List.all_eq_true] at h
  refine ⟨N, ?_, ?_, h.1, fun m hm h1 z => ?_⟩
  · simp only [List.mem_cons, List.not_mem_nil, or_false] at hN
    omega
  · simp only [List.mem_cons, List.not_mem_nil, or_false] at hN
    omega
  · have := h.2 m (List.mem_range.mpr hm)
    rw [z] at this
    simp at this
    omega
theorem pow_lt {c g : Nat} (hc : c < 9) (hg : g < Gp.ordT c) : ∀ n, powT c g n < Gp.ordT c
  | 0 => by show 0 < _; omega
  | n + 1 => Gp.mul_lt _ hc _ (pow_lt hc hg n) _ hg
def loopB (sg : List Nat) (ar : List Arr) (core : List Nat) : Bool := match core with
  | [c] => decide (srcS sg ar c = tgtS sg ar c)
  | _ => false
def optN : Option Nat → V
  | none => .non
  | some n => .int (n : Nat)
section
variable {sh : List (Nat × Nat)} {sg : List Nat} {ar : List Arr} {R : List Ru} (G : GB sh sg ar R)
include G
theorem GB.gS_loop {c : Nat} (hc : c ∈ sg) : (gS sg ar c).1 = (gS sg ar c).2 ↔ srcS sg ar c = tgtS sg ar c := by
  simp only [gS]
  have g1 := idx_get (ix_lt (G.src_mem hc))
  have g2 := idx_get (ix_lt (G.tgt_mem hc))
  constructor
  · intro e
    rw [e, g2] at g1
    exact (Option.some.inj g1).symm
  · intro e
    rw [e]
theorem GB.loop_aof {c : Nat} (h : srcS sg ar c = tgtS sg ar c) : aof sg ar c = ((aof sg ar c).1, (aof sg ar c).2.1, (aof sg ar c).2.2.1, (aof sg ar c).2.1) := by
  unfold srcS tgtS srcA tgtA at h
  generalize aof sg ar c = a at h
  obtain ⟨a1, a2, a3, a4⟩ := a
  simp only [Prod.mk.injEq, true_and] at h
  subst h
  rfl
theorem GB.loop_pw {c : Nat} (hc : c ∈ sg) (h : srcS sg ar c = tgtS sg ar c) (n : Nat) : left R (pw [c] n) = sgn sg ar ((aof sg ar c).1, (aof sg ar c).2.1, powT (cod sh (aof sg ar c).1) (aof sg ar c).2.2.1 n, (aof sg ar c).2.1) := by
  have e := G.loop_aof h
  have hv := G.val hc
  have hk := (G.cd hv.k).1
  induction n with
  | zero => exact (G.sgn_id ⟨rfl, rfl⟩).symm
  | succ n ih =>
    rw [pw_succ]
    have h1 : Eq2 R (pw [c] n ++ [c]) (left R (pw [c] n) ++ [c]) := G.app (G.lf _).symm rfl
    have h2 : left R (pw [c] n ++ [c]) = left R (left R (pw [c] n) ++ [c]) := h1
    rw [h2, ih, G.left_l (b := ((aof sg ar c).1, (aof sg ar c).2.1, powT (cod sh (aof sg ar c).1) (aof sg ar c).2.2.1 n, (aof sg ar c).2.1)) ⟨hv.k, hv.i, hv.i, pow_lt hk hv.g n⟩ hc rfl]
    have e2 : mulA sh ((aof sg ar c).1, (aof sg ar c).2.1, powT (cod sh (aof sg ar c).1) (aof sg ar c).2.2.1 n, (aof sg ar c).2.1) (aof sg ar c) = ((aof sg ar c).1, (aof sg ar c).2.1, Gp.mulT (cod sh (aof sg ar c).1) (powT (cod sh (aof sg ar c).1) (aof sg ar c).2.2.1 n) (aof sg ar c).2.2.1, (aof sg ar c).2.2.2) := rfl
    rw [e2]
    have e3 : (aof sg ar c).2.2.2 = (aof sg ar c).2.1 := congrArg (fun a : Arr => a.2.2.2) e
    rw [e3]
    rfl
theorem GB.loop_ord {c : Nat} (hc : c ∈ sg) (h : srcS sg ar c = tgtS sg ar c) : ∃ N, 2 ≤ N ∧ N < 7 ∧ left R (pw [c] N) = [] ∧ (∀ m < N, 1 ≤ m → left R (pw [c] m) ≠ []) ∧ ordW R [c] = some N := by
  have e := G.loop_aof h
  have hv := G.val hc
  have hk := (G.cd hv.k).1
  have hg0 : (aof sg ar c).2.2.1 ≠ 0 := fun z => G.nid hc ⟨(congrArg (fun a : Arr => a.2.2.2) e).symm, z⟩
  obtain ⟨N, h7, h2, h0, hm⟩ := pow_least hk hv.g hg0
  have hz : left R (pw [c] N) = [] := by rw [G.loop_pw hc h, h0]; exact G.sgn_id ⟨rfl, rfl⟩
  have hnz : ∀ m < N, 1 ≤ m → left R (pw [c] m) ≠ [] := fun m h1 h3 => by
    rw [G.loop_pw hc h]
    obtain ⟨d, _, _, e4⟩ := G.sgn_mem (G.mem.mpr ⟨(⟨hv.k, hv.i, hv.i, pow_lt hk hv.g m⟩ : Val sh ((aof sg ar c).1, (aof sg ar c).2.1, powT (cod sh (aof sg ar c).1) (aof sg ar c).2.2.1 m, (aof sg ar c).2.1)), fun z => hm m h1 h3 z.2⟩)
    rw [e4]
    simp
  refine ⟨N, h2, h7, hz, hnz, ?_⟩
  unfold ordW
  have hb : ∀ m < N, 1 ≤ m → isP R [c] m = false := fun m h1 h3 => decide_eq_false (hnz m h1 h3)
  have hN : isP R [c] N = true := decide_eq_true hz
  show List.find? (isP R [c]) [1, 2, 3, 4, 5, 6, 7, 8, 9] = _
  have : N = 2 ∨ N = 3 ∨ N = 4 ∨ N = 5 ∨ N = 6 := by omega
  rcases this with rfl | rfl | rfl | rfl | rfl
  · simp [List.find?_cons, hb 1 (by omega) (by omega), hN]
  · simp [List.find?_cons, hb 1 (by omega) (by omega), hb 2 (by omega) (by omega), hN]
  · simp [List.find?_cons, hb 1 (by omega) (by omega), hb 2 (by omega) (by omega), hb 3 (by omega) (by omega), hN]
  · simp [List.find?_cons, hb 1 (by omega) (by omega), hb 2 (by omega) (by omega), hb 3 (by omega) (by omega), hb 4 (by omega) (by omega), hN]
  · simp [List.find?_cons, hb 1 (by omega) (by omega), hb 2 (by omega) (by omega), hb 3 (by omega) (by omega), hb 4 (by omega) (by omega), hb 5 (by omega) (by omega), hN]
theorem GB.ord_noloop {core : List Nat} (hne : core ≠ []) (hs : ∀ c ∈ core, c ∈ sg) (hc : 2 ≤ core.length → Adj R (core ++ core)) (hl : loopB sg ar core = false) : ordW R core = none := by
  match core, hne with
  | [c], _ =>
    have h1 : ¬ srcS sg ar c = tgtS sg ar c := of_decide_eq_false hl
    refine G.ord_none (by simp) ⟨fun w hw => h1 ?_, trivial⟩
    have hcs := hs c (by simp)
    exact ((G.cmp hcs hcs).mp ⟨w, hw⟩).symm
  | a :: b :: t, _ => exact G.ord_none (by simp) (hc (by simp))
end
end Sh
set_option Elab.async false
set_option linter.all false
set_option maxRecDepth 100000
set_option maxHeartbeats 4000000
namespace Sh
open PySem PySem.Spec PyProof.Rows L2
open SX (S S_inj S_len S_cat)
local macro_rules | `(tactic| walk_at "nx") => `(tactic| repeat (with_reducible first | refine Sh.gn_mk ?_ | refine Sh.nx_mk ?_ | refine Sh.st_nx ?_ | refine Sh.rt_mk ?_ | refine Sh.ct_mk ?_ | refine Sh.bk_mk ?_))
local macro_rules | `(tactic| walk_at "sq") => `(tactic| first | exact SqL.of upd_same | exact SqT.of upd_same | exact SqL.of (by assumption) | exact SqT.of (by assumption) | assumption | exact Or.inl (SqL.of (by assumption)) | exact Or.inr (SqT.of (by assumption)) | exact Or.inl (by assumption) | exact Or.inr (by assumption))
local macro_rules | `(tactic| walk_at "hp") => `(tactic| first | exact upd_same | assumption)
local macro_rules | `(tactic| walk_at "sz") => `(tactic| first | exact Nat.le_of_ble_eq_true rfl | omega)
local macro_rules | `(tactic| walk_at "sd") => `(tactic| first | omega | exact rfl | assumption | (show (0 : Int) < _; omega) | exact And.intro (by omega) (by omega) | exact Or.inl (And.intro (by omega) (by omega)) | exact Or.inr (And.intro (by omega) (by omega)) | omega | exact Sh.sz_S (by omega) | decide)
local macro_rules | `(tactic| walk_at "rd1") => `(tactic| first
  | (with_reducible first | refine Sh.gn_mk ?_ | refine Sh.nx_mk ?_ | refine Sh.st_nx ?_ | refine Sh.rt_mk ?_ | refine Sh.ct_mk ?_ | refine Sh.bk_mk ?_)
  | refine Exists.intro (α := V) _ (And.intro rfl ?_)
  | refine Exists.intro (α := Bool) _ (And.intro rfl ?_)
  | refine Exists.intro (α := Int) _ (And.intro rfl ?_)
  | refine Exists.intro (α := PySem.Str) _ (And.intro rfl ?_)
  | refine Exists.intro (α := Int) _ (Exists.intro (α := Int) _ (And.intro rfl (And.intro rfl ?_)))
  | refine Exists.intro (α := PySem.Str) _ (Exists.intro (α := PySem.Str) _ (And.intro rfl (And.intro rfl ?_)))
  | refine Exists.intro (α := Int) _ (Exists.intro (α := Int) _ (And.intro rfl ?_))
  | refine Or.inl (Exists.intro (α := Int) _ (And.intro rfl ?_))
  | refine Exists.intro _ (Exists.intro _ (Exists.intro _ (Exists.intro _ (And.intro rfl (And.intro rfl (And.intro (by walk_at "sq") (And.intro rfl ?_)))))))
  | refine Exists.intro _ (Exists.intro _ (Exists.intro _ (Exists.intro _ (And.intro rfl (And.intro rfl (And.intro (by walk_at "hp") (And.intro rfl ?_)))))))
  | refine And.intro (by walk_at "sd") ?_
  )
local macro_rules | `(tactic| walk_at "rd") => `(tactic| repeat walk_at "rd1")
local macro_rules | `(tactic| walk_at "lk") => `(tactic| first | exact rfl | (rw [lookup_putF, if_pos rfl]) | (rw [lookup_putF, if_neg (by decide +kernel)]; walk_at "lk"))

theorem frz_tup {H : Hp} {d q : Addr} {kvs : List (Key × V)} {o : Obj} {xs : List V} (hd : H d = some (.dK kvs)) (hq : H q = some (.tup xs)) : (upd H d (.frz o (.dK kvs))) q = some (.tup xs) := by
  rw [upd_ne (ne_of hq hd (by intro w; cases w))]
  exact hq
theorem RowV.same {H H' : Hp} {v : V} {r : List Nat} (h : RowV H v r) (s : Same H H') : RowV H' v r := let ⟨q, e, z⟩ := h; ⟨q, e, s _ _ z⟩
theorem inV_dV (j : Nat) (l : List Nat) : inV (V.int (j : Nat)) (l.map dV) = decide (j ∈ l) := by
  unfold inV
  rw [List.any_map]
  rw [Bool.eq_iff_iff, List.any_eq_true, decide_eq_true_eq]
  constructor
  · rintro ⟨x, hx, h⟩
    have h : eqV (dV x) (V.int (j : Nat)) = true := h
    have : x = j := by
      have h2 : (x : Int) = j := by simpa [eqV, dV] using h
      omega
    exact this ▸ hx
  · intro h
    exact ⟨j, h, by simp [eqV, dV]⟩
theorem flat_dV (l : List Nat) : (l.map dV).all flatV = true := by rw [List.all_map]; exact List.all_eq_true.mpr fun _ _ => rfl
theorem any_near {sg : List Nat} {g : Nat → Nat × Nat} {part : Nat → Nat} {N n i κ : Nat} (hP : Pairs sg g part N) (hn : n < N) (h : (partsN part n)[i]? = some κ) : (((sg.filter fun c => decide ((g c).1 = n)).map fun c => decide ((g c).2 ∈ rowK part n κ)).any id) = decide (part n = κ) := by
  rw [Bool.eq_iff_iff, List.any_eq_true, decide_eq_true_eq]
  constructor
  · rintro ⟨b, hb, hb2⟩
    obtain ⟨c, hc, rfl⟩ := List.mem_map.mp hb
    obtain ⟨hcs, hc1⟩ := List.mem_filter.mp hc
    have hc1 := of_decide_eq_true hc1
    obtain ⟨h1, h2⟩ := mem_rowK.mp (of_decide_eq_true hb2)
    rw [← h2]
    exact (hP.con n hn _ (Nat.lt_trans h1 hn) (by omega)).mp ⟨c, hcs, by rw [← hc1]⟩
  · intro e
    obtain ⟨j, hj, e2⟩ := mem_partsN.mp (List.mem_of_getElem? h)
    obtain ⟨c, hc, e3⟩ := (hP.con n hn j (Nat.lt_trans hj hn) (by omega)).mpr (e.trans e2.symm)
    exact ⟨true, List.mem_map.mpr ⟨c, List.mem_filter.mpr ⟨hc, by rw [e3]; exact decide_eq_true rfl⟩, by rw [e3]; exact decide_eq_true (mem_rowK.mpr ⟨hj, e2⟩)⟩, rfl⟩
theorem same_unlock {H H' : Hp} {d : Addr} {o : Obj} {u : HO} (hd : H d = some u) (s : Same (upd H d (.frz o u)) H') : Same H (upd H' d u) := fun b v e => by
  by_cases hb : b = d
  · subst hb
    rw [hd] at e
    cases e
    exact upd_same
  · rw [upd_ne hb]
    exact s b v (by rw [upd_ne hb]; exact e)
theorem pd_get {H : Hp} {kvs : List (Key × V)} {sg : List Nat} {g : Nat → Nat × Nat} (pd : PdAt H kvs sg g) {pre post : List V} {a : V} (e : kvs.map (·.2) = pre ++ a :: post) : ∃ c, sg[pre.length]? = some c ∧ PrV H a (g c) := by
  have h1 : (kvs.map (·.2))[pre.length]? = some a := by rw [e]; simp
  have hl := pd.2.1
  have hlt := (List.getElem?_eq_some_iff.mp h1).1
  rw [hl, List.length_map] at hlt
  have h2 : sg[pre.length]? = some sg[pre.length] := List.getElem?_eq_getElem hlt
  exact ⟨_, h2, pd.2.2 _ _ _ h1 (by rw [List.getElem?_map, h2]; rfl)⟩
section
variable {P : Program} {w : World} {K : PySem.W.Frag} {mg : Str → Option Value} {base : Heap} {CB CE : Addr}
def spPartRows (K : PySem.W.Frag) : Sp := fun vs H Q _ => ∃ (p d : Addr) (sg : List Nat) (g : Nat → Nat × Nat) (kvs : List (Key × V)) (part : Nat → Nat) (N : Nat), vs = [.ref p, .ref d] ∧ H d = some (.dK kvs) ∧ PdAt H kvs sg g ∧ sg.length ≤ 8 ∧ N ≤ 8 ∧ Pairs sg g part N ∧
  ∀ (r : Addr) (ys : List V) (H' : Hp), H' r = some (.lst ys) → Items RowV H' ys ((partsN part N).map (rowK part N)) → Same H H' → Q (.ref r) H'
end
end Sh
set_option Elab.async false
set_option linter.all false
set_option maxRecDepth 100000
set_option maxHeartbeats 4000000
namespace Sh
open PySem PySem.Spec PyProof.Rows L2
open SX (S S_inj S_len S_cat)
open Bk (Rule left)
local macro_rules | `(tactic| walk_at "nx") => `(tactic| repeat (with_reducible first | refine Sh.gn_mk ?_ | refine Sh.nx_mk ?_ | refine Sh.st_nx ?_ | refine Sh.rt_mk ?_ | refine Sh.ct_mk ?_ | refine Sh.bk_mk ?_))
local macro_rules | `(tactic| walk_at "sq") => `(tactic| first | exact SqL.of upd_same | exact SqT.of upd_same | exact SqL.of (by assumption) | exact SqT.of (by assumption) | assumption | exact Or.inl (SqL.of (by assumption)) | exact Or.inr (SqT.of (by assumption)) | exact Or.inl (by assumption) | exact Or.inr (by assumption))
local macro_rules | `(tactic| walk_at "hp") => `(tactic| first | exact upd_same | assumption)
local macro_rules | `(tactic| walk_at "sz") => `(tactic| first | exact Nat.le_of_ble_eq_true rfl | omega)
local macro_rules | `(tactic| walk_at "sd") => `(tactic| first | omega | exact rfl | assumption | (show (0 : Int) < _; omega) | exact And.intro (by omega) (by omega) | exact Or.inl (And.intro (by omega) (by omega)) | exact Or.inr (And.intro (by omega) (by omega)) | omega | exact Sh.sz_S (by omega) | decide)
local macro_rules | `(tactic| walk_at "rd1") => `(tactic| first
  | (with_reducible first | refine Sh.gn_mk ?_ | refine Sh.nx_mk ?_ | refine Sh.st_nx ?_ | refine Sh.rt_mk ?_ | refine Sh.ct_mk ?_ | refine Sh.bk_mk ?_)
  | refine Exists.intro (α := V) _ (And.intro rfl ?_)
  | refine Exists.intro (α := Bool) _ (And.intro rfl ?_)
  | refine Exists.intro (α := Int) _ (And.intro rfl ?_)
  | refine Exists.intro (α := PySem.Str) _ (And.intro rfl ?_)
  | refine Exists.intro (α := Int) _ (Exists.intro (α := Int) _ (And.intro rfl (And.intro rfl ?_)))
  | refine Exists.intro (α := PySem.Str) _ (Exists.intro (α := PySem.Str) _ (And.intro rfl (And.intro rfl ?_)))
  | refine Exists.intro (α := Int) _ (Exists.intro (α := Int) _ (And.intro rfl ?_))
  | refine Or.inl (Exists.intro (α := Int) _ (And.intro rfl ?_))
  | refine Exists.intro _ (Exists.intro _ (Exists.intro _ (Exists.intro _ (And.intro rfl (And.intro rfl (And.intro (by walk_at "sq") (And.intro rfl ?_)))))))
  | refine Exists.intro _ (Exists.intro _ (Exists.intro _ (Exists.intro _ (And.intro rfl (And.intro rfl (And.intro (by walk_at "hp") (And.intro rfl ?_)))))))
  | refine And.intro (by walk_at "sd") ?_
  )
local macro_rules | `(tactic| walk_at "rd") => `(tactic| repeat walk_at "rd1")
local macro_rules | `(tactic| walk_at "lk") => `(tactic| first | exact rfl | (rw [lookup_putF, if_pos rfl]) | (rw [lookup_putF, if_neg (by decide +kernel)]; walk_at "lk"))

theorem pd_look {H : Hp} {kvs : List (Key × V)} {sg : List Nat} {g : Nat → Nat × Nat} (pd : PdAt H kvs sg g) {c : Nat} (hc : c ∈ sg) : ∃ q, valV kvs (Sum.inr (S [c])) = some (.ref q) ∧ H q = some (.tup [.int ((g c).1 : Nat), .int ((g c).2 : Nat)]) := by
  obtain ⟨h1, h2⟩ := pd
  induction kvs generalizing sg with
  | nil =>
    cases sg with
    | nil => cases hc
    | cons x sg => cases h1
  | cons p kvs ih =>
    cases sg with
    | nil => cases h1
    | cons d sg =>
      simp only [List.map_cons, List.cons.injEq] at h1
      by_cases e : d = c
      · subst e
        obtain ⟨q, e1, e2⟩ := h2.2 0 _ _ rfl rfl
        exact ⟨q, by rw [valV_pos h1.1]; exact congrArg some e1, e2⟩
      · rw [valV_neg (by rw [h1.1]; exact fun z => e (by have := S_inj (Sum.inr.inj z); simpa using this))]
        exact ih ((List.mem_cons.mp hc).resolve_left fun z => e z.symm) h1.2 ⟨by have := h2.1; simpa using this, fun i x y a b => h2.2 (i + 1) x y a b⟩
theorem join_signs (l : List Nat) : Txt.join (S []) (l.map fun c => S [c]) = S l := by
  have := join_nil (l.map fun c => [c])
  rw [flat_one, List.map_map] at this
  exact this
theorem sum_signs (l : List Nat) : ((l.map fun c => S [c]).map (·.length)).sum = l.length := by
  induction l with
  | nil => rfl
  | cons x l ih => rw [List.map_cons, List.map_cons, List.sum_cons, ih, S_len]; simp [Nat.add_comm]
def prD (a : Nat × Nat) : PyData := .tuple [.int (a.1 : Nat), .int (a.2 : Nat)]
theorem prD_eqv (a b : Nat × Nat) : PyData.eqv (prD a) (prD b) = decide (a = b) := by
  show (((a.1 : Nat) : Int) == ((b.1 : Nat) : Int) && (((a.2 : Nat) : Int) == ((b.2 : Nat) : Int) && true)) = _
  rw [Bool.and_true, Bool.eq_iff_iff]
  simp only [Bool.and_eq_true, beq_iff_eq, decide_eq_true_eq]
  constructor
  · rintro ⟨h, k⟩
    exact Prod.ext (by omega) (by omega)
  · rintro rfl
    exact ⟨rfl, rfl⟩
theorem prD_dp {K : PySem.W.Frag} {H : Hp} {q : Addr} {a : Nat × Nat} (h : H q = some (.tup [.int (a.1 : Nat), .int (a.2 : Nat)])) : Dp K H (.ref q) (prD a) := .tup (SqT.of h) (.cons (.int _) (.cons (.int _) .nil))
section
variable {P : Program} {w : World} {K : PySem.W.Frag} {mg : Str → Option Value} {base : Heap} {CB CE : Addr}
def spLoopsAt (K : PySem.W.Frag) (C : Addr) : Sp := fun vs H Q _ => ∃ (p d : Addr) (n : Nat) (sg : List Nat) (R : List Rule) (g : Nat → Nat × Nat) (kvs : List (Key × V)), vs = [.ref p, .ref d, .int (n : Nat)] ∧ BookAt K C H p sg R ∧ BookOk sg R ∧ H d = some (.dK kvs) ∧ PdAt H kvs sg g ∧ sg.Nodup ∧
  ∀ (H' : Hp), Same H H' → Q (.str (S (sg.filter fun c => decide (g c = (n, n))))) H'
end
end Sh
set_option Elab.async false
set_option linter.all false
set_option maxRecDepth 100000
set_option maxHeartbeats 4000000
namespace Sh
open PySem PySem.Spec PyProof.Rows L2
open SX (S S_inj S_len S_cat)
open Bk (Rule left Wf Meets Reach Step IsEnd)
local macro_rules | `(tactic| walk_at "nx") => `(tactic| repeat (with_reducible first | refine Sh.gn_mk ?_ | refine Sh.nx_mk ?_ | refine Sh.st_nx ?_ | refine Sh.rt_mk ?_ | refine Sh.ct_mk ?_ | refine Sh.bk_mk ?_))
local macro_rules | `(tactic| walk_at "sq") => `(tactic| first | exact SqL.of upd_same | exact SqT.of upd_same | exact SqL.of (by assumption) | exact SqT.of (by assumption) | assumption | exact Or.inl (SqL.of (by assumption)) | exact Or.inr (SqT.of (by assumption)) | exact Or.inl (by assumption) | exact Or.inr (by assumption))
local macro_rules | `(tactic| walk_at "hp") => `(tactic| first | exact upd_same | assumption)
local macro_rules | `(tactic| walk_at "sz") => `(tactic| first | exact Nat.le_of_ble_eq_true rfl | omega)
local macro_rules | `(tactic| walk_at "sd") => `(tactic| first | omega | exact rfl | assumption | (show (0 : Int) < _; omega) | exact And.intro (by omega) (by omega) | exact Or.inl (And.intro (by omega) (by omega)) | exact Or.inr (And.intro (by omega) (by omega)) | omega | exact Sh.sz_S (by omega) | decide)
local macro_rules | `(tactic| walk_at "rd1") => `(tactic| first
  | (with_reducible first | refine Sh.gn_mk ?_ | refine Sh.nx_mk ?_ | refine Sh.st_nx ?_ | refine Sh.rt_mk ?_ | refine Sh.ct_mk ?_ | refine Sh.bk_mk ?_)
  | refine Exists.intro (α := V) _ (And.intro rfl ?_)
  | refine Exists.intro (α := Bool) _ (And.intro rfl ?_)
  | refine Exists.intro (α := Int) _ (And.intro rfl ?_)
  | refine Exists.intro (α := PySem.Str) _ (And.intro rfl ?_)
  | refine Exists.intro (α := Int) _ (Exists.intro (α := Int) _ (And.intro rfl (And.intro rfl ?_)))
  | refine Exists.intro (α := PySem.Str) _ (Exists.intro (α := PySem.Str) _ (And.intro rfl (And.intro rfl ?_)))
  | refine Exists.intro (α := Int) _ (Exists.intro (α := Int) _ (And.intro rfl ?_))
  | refine Or.inl (Exists.intro (α := Int) _ (And.intro rfl ?_))
  | refine Exists.intro _ (Exists.intro _ (Exists.intro _ (Exists.intro _ (And.intro rfl (And.intro rfl (And.intro (by walk_at "sq") (And.intro rfl ?_)))))))
  | refine Exists.intro _ (Exists.intro _ (Exists.intro _ (Exists.intro _ (And.intro rfl (And.intro rfl (And.intro (by walk_at "hp") (And.intro rfl ?_)))))))
  | refine And.intro (by walk_at "sd") ?_
  )
local macro_rules | `(tactic| walk_at "rd") => `(tactic| repeat walk_at "rd1")
local macro_rules | `(tactic| walk_at "lk") => `(tactic| first | exact rfl | (rw [lookup_putF, if_pos rfl]) | (rw [lookup_putF, if_neg (by decide +kernel)]; walk_at "lk"))

section
variable {P : Program} {w : World} {K : PySem.W.Frag} {mg : Str → Option Value} {base : Heap} {CB CE : Addr}
def spIsLoop : Sp := fun vs H Q _ => ∃ (d : Addr) (sh : List (Nat × Nat)) (sg : List Nat) (ar : List Arr) (R : List Ru) (core : List Nat) (kvs : List (Key × V)), vs = [.ref d, .str (S core)] ∧ GB sh sg ar R ∧ H d = some (.dK kvs) ∧ PdAt H kvs sg (gS sg ar) ∧ (∀ c ∈ core, c ∈ sg) ∧ core.length ≤ 1000 ∧ Q (.bl (loopB sg ar core)) H
theorem c_is_loop (T : Txt K mg) : Cal P w K mg base CX0 1 "is_loop" spIsLoop := by
  refine Cal.mk0 T.d_is_loop sc_is_loop (fun vs H Q E h => ?_) (fun f cdv A outer s H vs Q E hr h => ?_)
  · obtain ⟨d, sh, sg, ar, R, core, kvs, rfl, _⟩ := h
    rfl
  · obtain ⟨d, sh, sg, ar, R, core, kvs, rfl, G, hd, pd, hs, hl, k⟩ := h
    have hu := hu_of hr
    refine ⟨_, (pss_one (ps_ret (pe_and (pe_cmpR op_eq (pe_callB call_len_str (by rfl) T.b_len (by decide +kernel) (pa_cons (pv 1) pa_nil)) pe_int (nomark _)) (pe_one (pe_cmpR op_eq (pe_ix ix_tup (pe_dget hu (pv 0) (pv 1) (fun _ _ => rfl)) pe_int (fun _ _ => rfl)) (pe_ix ix_tup (pe_dget hu (pv 0) (pv 1) (fun _ _ => rfl)) pe_int (fun _ _ => rfl)) (nomark _)))))), ?_⟩
    refine ⟨_, rfl, ?_⟩
    refine tNil_mk ?_
    refine ⟨_, rfl, sz_S (by omega), ?_⟩
    refine ⟨rfl, _, rfl, ?_⟩
    rw [S_len, show decide (V.int ((core.length : Nat) : Int) = V.int 1) = decide (core.length = 1) from dec_int core.length 1]
    match core, hs, k with
    | [], _, k => exact k
    | a :: b :: t, _, k => 
      rw [decide_eq_false (by simp)]
      exact k
    | [c], hs, k =>
      obtain ⟨q, hv, hq⟩ := pd_look pd (hs c (by simp))
      have hgd : DGet H d (.str (S [c])) (some (.ref q)) := by rw [← hv]; exact DGet.k (k := Sum.inr (S [c])) hd
      refine iteT ?_
      refine ⟨_, rfl, _, rfl, d, _, rfl, hgd, ?_⟩
      refine ⟨q, _, _, _, rfl, rfl, SqT.of hq, rfl, ?_⟩
      refine ⟨_, rfl, _, rfl, d, _, rfl, hgd, ?_⟩
      refine ⟨q, _, _, _, rfl, rfl, SqT.of hq, rfl, ?_⟩
      refine ⟨rfl, ?_⟩
      show Q (.bl (decide (V.int (((gS sg ar c).1 : Nat) : Int) = V.int (((gS sg ar c).2 : Nat) : Int)))) H
      rw [dec_int, show decide ((gS sg ar c).1 = (gS sg ar c).2) = loopB sg ar [c] from decide_eq_decide.mpr (G.gS_loop (hs c (by simp)))]
      exact k
def spOrdCore (K : PySem.W.Frag) (C : Addr) : Sp := fun vs H Q _ => ∃ (p d : Addr) (sh : List (Nat × Nat)) (sg : List Nat) (ar : List Arr) (R : List Ru) (core : List Nat) (kvs : List (Key × V)), vs = [.ref p, .ref d, .str (S core)] ∧ BookAt K C H p sg R ∧ GB sh sg ar R ∧ H d = some (.dK kvs) ∧ PdAt H kvs sg (gS sg ar) ∧ (∀ c ∈ core, c ∈ sg) ∧ core.length ≤ 200 ∧ IsEnd R core ∧ (2 ≤ core.length → Adj R (core ++ core)) ∧
  ∀ (H' : Hp), Same H H' → Q (optN (ordW R core)) H'
end
end Sh
set_option Elab.async false
set_option linter.all false
set_option maxRecDepth 100000
set_option maxHeartbeats 4000000
/-! an own exception's __init__ that begins with super().__init__(e), over ValueError -/
namespace Sh
open PySem PySem.Spec PyProof.Rows L2 NdefX
/-- of the class at C: its super().__init__ as seen from D is ValueError's -/
structure SupC (K : PySem.W.Frag) (C D : Addr) : Prop where
  sub : PySem.W.mroIn K C (.ref D) = some true
  sup : PySem.W.ks_superIn K C D "__init__" = some (some (.builtin "ValueError.__init__"))
  ve : PySem.W.subIn K (.ref C) (.type "ValueError") = some true
/-- the def at f, its class cell at cc (the class at D), its code's file -/
structure SupF (P : Program) (K : PySem.W.Frag) (mg : Str → Option Value) (q : Str) (st : Stmt) (ps : List Str) (D f : Addr) (fd : FuncData) : Prop where
  ex : ∃ (cc cda : Addr) (oc kv doc pm ct : Value) (od an : Option Addr) (osl : Array (Option Value)), fd = PySem.W.fnX "__init__" q (defArgs st) (defBody st) (defScope st) [("__class__", cc)] .none kv doc pm an (.ref cda) ct ∧
    K.lookup f = some ⟨oc, od, .func fd, osl⟩ ∧ PySem.W.codeIn K (.ref cda) q = true ∧
    (∃ (cl : Value) (cld : Option Addr) (csl : Array (Option Value)), K.lookup cc = some ⟨cl, cld, .cell (some (.ref D)), csl⟩) ∧
    (∃ (cl : Value) (cld : Option Addr) (vs : Array Value) (csl : Array (Option Value)) (file : Str) (tf : Tok), K.lookup cda = some ⟨cl, cld, .fields vs, csl⟩ ∧ vs[2]? = some (.str file tf) ∧ ((P.main.file : Str) == file) = true)
  top : (P.main.scope.names.lookup ("super" : Str)).isSome = false
  mgs : mg "super" = none
  hD : ∃ cd, PySem.W.clsIn K D = some cd
  op : PySem.W.nsIn K cStatics "thirdparty.any" = some none
  hp : ∃ ar : Arg, ((defArgs st).posonlyargs ++ (defArgs st).args).head? = some ar ∧ ar.arg = "self"
  hks : (defScope st).names.lookup ("super" : Str) = some .globalImplicit
section
variable {CX : CXT} {P : Program} {w : World} {K : PySem.W.Frag} {mg : Str → Option Value} {base : Heap} {N ps : List Str} {k : Nat} {f cda cc D : Addr} {q : Str} {st : Stmt} {fd : FuncData} {sp : Sp}
theorem look1 {cc c : Addr} {y : Str} (h : List.lookup y [(("__class__" : Str), cc)] = some c) : y = "__class__" ∧ c = cc := by
  by_cases e : y = "__class__"
  · subst e
    simp [List.lookup] at h
    exact ⟨rfl, h.symm⟩
  · have e' : (y == ("__class__" : Str)) = false := by simpa using e
    simp [List.lookup, e'] at h
theorem cells1 {A : Around} {outer : List Env} {s : Shared} {H : Hp} {cl : Value} {cld : Option Addr} {csl : Array (Option Value)} {v : Option Value} (e0 : Env0 P w K mg base A outer s H) (hc : K.lookup cc = some ⟨cl, cld, .cell v, csl⟩) : CellsAt [("__class__", cc)] ["__class__"] [none] s.heap H := by
  have hb := e0.bs _ _ (e0.mod.kin _ _ hc)
  refine ⟨rfl, fun y c h => ?_, fun x y c h1 h2 => (look1 h1).1.trans (look1 h2).1.symm, fun i y h => ?_⟩
  · obtain ⟨_, rfl⟩ := look1 h
    exact ⟨hb.2, v, _, hb.1, rfl⟩
  · match i, h with
    | 0, h =>
      cases h
      exact ⟨cc, by simp [List.lookup], fun v e => by cases e⟩
    | _ + 1, h => cases h
/-- the statement super().__init__(e, ..) -/
theorem sup_run {X : Cx} {σ : L2.St} {H : Hp} {s : Shared} {body : List Stmt} {q : Str} {scope : Scope} {L f cda cc D a C : Addr} {fd : FuncData} {oc : Value} {od : Option Addr} {osl : Array (Option Value)} {ar : Arg} {p0 p1 p2 p3 p4 : Pos} {e : Expr} {es : List Expr} {ta : TA} {G : Hp → Prop}
    {cl cl2 : Value} {cld cld2 : Option Addr} {csl csl2 : Array (Option Value)} {fvs : Array Value} {file : Str} {tf : Tok}
    (I : Inv X [] σ H s) (henv : X.env = PySem.W.ksEnv q scope L f (.ref cda) cc) (hk : scope.kind = .function) (hks : scope.names.lookup ("super" : Str) = some .globalImplicit) (hkc : scope.names.lookup ("__class__" : Str) = some .free) (hka : scope.names.lookup ("self" : Str) = some .local)
    (lk : X.K.lookup f = some ⟨oc, od, .func fd, osl⟩) (hp : (fd.params.posonlyargs ++ fd.params.args).head? = some ar) (har : ar.arg = "self") (hcc : X.K.lookup cc = some ⟨cl, cld, .cell (some (.ref D)), csl⟩)
    (hcda : X.K.lookup cda = some ⟨cl2, cld2, .fields fvs, csl2⟩) (hvs : fvs[2]? = some (.str file tf)) (hfile : ((X.prog.main.file : Str) == file) = true) (htop : (X.prog.main.scope.names.lookup ("super" : Str)).isSome = false) (hmg : X.mg "super" = none) (hop : PySem.W.nsIn X.K cStatics "thirdparty.any" = some none)
    (hN : X.N[0]? = some ("self" : Str)) (hσ : σ[0]? = some (some (.ref a))) {cdD : ClassData} (hD : PySem.W.clsIn X.K D = some cdD) (T : OexC X.K C) (SC : SupC X.K C D) (ea : H a = some (exo a C none)) (ha : PA X (e :: es) ta)
    (he : starEach (e :: es) X.env = (false, eval e X.env) :: starEach es X.env) (hpl : ∀ pos, (backTo pos (starEach es X.env)).any (·.1) = false)
    {pl : Sem Bool} (hev : eval (.Call (.Attribute (.Call (.Name "super" p0) [] [] p1) "__init__" p2) (e :: es) [] p3) X.env = (do
      let ov ← attributeBase (.Call (.Name "super" p0) [] [] p1) "__init__" X.env (eval (.Call (.Name "super" p0) [] [] p1) X.env)
      standAt p2.atName
      let (f, first) ← holding [ov] (getMethod ov "__init__" pl)
      callWith p3 f first (backTo p3 (starEach (e :: es) X.env)) []))
    (hq : ta σ H fun us H1 => us.length ≤ 1000 ∧ H1 a = some (exo a C none) ∧ G H1) :
    _root_.PySem.wpAt (model X.prog X.w) X.A (.func body X.env) (exec (.Expr (.Call (.Attribute (.Call (.Name "super" p0) [] [] p1) "__init__" p2) (e :: es) [] p3) p4) X.env) (fun fl s' => fl = .next ∧ ∃ H1, Inv X [] σ H1 s' ∧ G H1) X.xe s := by
  have KX := I.kIn
  refine ks_wpAt_Expr_any (ks_wpAt_MethodCall (pl := pl) ?_ hev) (by unfold interactive; rw [I.ok.kind]; rfl)
  obtain ⟨oD, hD1, hD2⟩ : ∃ oD, s.heap.get? D = some oD ∧ oD.data = .cls cdD := by
    unfold PySem.W.clsIn at hD
    split at hD
    · rename_i c d cd' sl ho
      cases hD
      exact ⟨_, KX _ _ ho, rfl⟩
    · cases hD
  have k1 : X.env.kindOf "super" = some .globalImplicit := by rw [henv]; exact hks
  have k2 : X.env.kindOf "__class__" = some .free := by rw [henv]; exact hkc
  have k3 : X.env.kindOf "self" = some .local := by rw [henv]; exact hka
  refine ks_wpAt_super_base (f := f) (cc := cda) k1 k2 (by decide) (by rw [henv]) (KX _ _ lk) rfl hp (by rw [henv]) (KX _ _ hcda) rfl hvs hfile htop ?_
  obtain ⟨mb, g1, g2⟩ := I.mod.blt
  refine PySem.W.ks_loadName_global I.ok.kind k1 (Calls.loadGlobal_builtin (by rw [I.ok.glob]; exact I.mod.glob.keeps I.bk) hmg (by rw [I.ok.blt]; exact g1.keeps I.bk) ((g2 _ (by decide)).trans (by first | boot_by_name | rfl | kernel_rfl)) ⟨rfl, ?_⟩)
  refine wpAny_loadName_free I.ok.kind k2 (by rw [henv]; simp [List.lookup]) ⟨_, KX _ _ hcc, rfl⟩ ?_
  obtain ⟨m, hn, hl⟩ := I.loc
  obtain ⟨u, ru, lo⟩ := hl 0 _ _ hN hσ (.inl (by rw [henv]; exact hka))
  obtain rfl : u = Value.ref a := ru
  have hm : m "self" = some (.ref a) := by
    rcases lo with ⟨_, hm⟩ | ⟨hk | hk, _⟩
    · exact hm
    · rw [k3] at hk; cases hk
    · rw [k3] at hk; cases hk
  rw [har]
  refine wpAny_loadName_local I.ok.kind k3 hn hm ?_
  refine ks_wpAny_isType_cls hD1 hD2 ⟨rfl, ?_⟩
  obtain ⟨t1, hx⟩ := exo_at I.hok ea
  have IA : PySem.W.InstAt s.heap a { cls := .ref C, dict := none, data := .fields #[.ref t1, .none, .none, .none, .bool false, .none] } C none := ⟨hx, rfl, rfl, trivial⟩
  obtain ⟨cdC, hcC⟩ : ∃ cd, PySem.W.clsIn X.K C = some cd := by
    obtain ⟨nm, q, N, bs, bm, sn, sub, ab, col, dd, k0, k1, k2, k3, k5, hC, hbm⟩ := T.cls
    exact ⟨_, by unfold PySem.W.clsIn; rw [hC] <;> rfl⟩
  have hsup := SC.sup
  unfold PySem.W.ks_superIn at hsup
  rw [hcC, Option.bind_some] at hsup
  have hsz : s.heap.objs.size ≤ s.heap.objs.size := Nat.le_refl _
  obtain ⟨hh, g, d, t, os⟩ := s
  refine ks_wpAny_call_super hD1 hD2 hx rfl (fun c z => by cases z) (PySem.W.looks_mroIn KX SC.sub) (fun h' hso k => ?_)
  have I1 : Inv X [] σ H ⟨h', g, d, t, os⟩ := I.kept (t' := t) k
  have X1 : X.K.In h' := I1.kIn
  have hx1 := k _ _ hx
  have IA1 : PySem.W.InstAt h' a { cls := .ref C, dict := none, data := .fields #[.ref t1, .none, .none, .none, .bool false, .none] } C none := ⟨hx1, rfl, rfl, trivial⟩
  refine PySem.W.kxs_getMethod PySem.W.kxs_ValueError hso (PySem.W.looks_opaque X1 hop) (l₀ := cdC.mro) (fun A Q E s k q => wpAny_bind ((PySem.W.looks_clsIn X1 hcC) A _ E s k (wpAny_pure q))) rfl X1 hsup (IA1.type.andThen (PySem.W.looks_subIn X1 SC.ve)) (PySem.W.ks_ne X1 IA1 hcC) (by decide) ?_
  have I2 : Inv X [] σ H ⟨h'.push (PySem.W.kxs_mw "ValueError.__init__" a), g, d, t + 1, os⟩ := I1.kept (t' := t + 1) fun b o e => Heap.get?_push_of_some _ e
  have fp : FpOk X [] H h'.objs.size := I1.fpOk (Nat.le_refl _) (I1.hok.fresh (Nat.le_refl _))
  have I3 : Inv X [(h'.objs.size, PySem.W.kxs_mw "ValueError.__init__" a)] σ H ⟨h'.push (PySem.W.kxs_mw "ValueError.__init__" a), g, d, t + 1, os⟩ := I2.pins_of fun p hp => by
    rw [List.mem_singleton.mp hp]
    exact ⟨Heap.get?_push_size _ rfl, fp.1, fp.2.1, fp.2.2.1, fun v z => by cases z⟩
  show wpAny _ _ (callWith p3 (.ref h'.objs.size) [] (backTo p3 (starEach (e :: es) X.env)) []) _ _ _
  refine PySem.W.kxs_callWith (i := "ValueError.__init__") (x := a) (by rw [he]; show (false || (backTo p3 (starEach es X.env)).any (·.1)) = false; rw [hpl]; rfl) ?_
  have hs := ha.run p3 _ _ σ H _ I3 hq
  rw [he] at hs ⊢
  refine PySem.Calls.evalArgs_plain (thn hs fun us s1 ⟨vs, H1, J, r1, hl, ea1, hG⟩ => ?_)
  have hu : s1.heap.get? h'.objs.size = some (PySem.W.kxs_mw "ValueError.__init__" a) := (J.pin _ (List.mem_append_right _ List.mem_cons_self)).1
  refine ⟨hu, ?_⟩
  show wpAny _ _ (call (.ref h'.objs.size) us) _ _ _
  obtain ⟨nm, qn, N, bs, bm, sn, sub, ab, col, dd, k0, k1', k2', k3', k5, hC, hbm⟩ := T.cls
  obtain ⟨t2, he2⟩ := exo_at J.hok ea1
  have hlen : us.length ≤ sizeLine := by
    rw [← r1.length, sizeLine_eq]
    omega
  have hC2 := J.kIn _ _ hC
  obtain ⟨hp2, gn2, dr2, tk2, os2⟩ := s1
  refine wpAny_call (codeAny_of_tree ?_)
  show wpAny _ X.A.in1 (callAny (.ref h'.objs.size) ⟨us, []⟩) _ _ _
  simp only [callAny]
  refine wpAny_bind (wpAny_load hu ?_)
  simp only [PySem.W.kxs_mw, show (Value.type "method-wrapper" == Value.type "method" || Value.type "method-wrapper" == Value.type "builtin_function_or_method" || Value.type "method-wrapper" == Value.type "method-wrapper") = true by decide, if_true]
  refine PySem.W.KFB.if_so (by decide) ?_
  refine wpAny_bind (PySem.W.check_bound_init F.excBase_ValueError.toExcCallFacts hC2 he2 rfl ?_)
  refine wpAny_bind (wpAny_pure (wpAny_pure ?_))
  refine ⟨plainId_quiet F.excBase_ValueError.init.plain _, codeAny_builtin F.excBase_ValueError.initEntry ?_⟩
  refine PySem.W.exc_init_tree (cls := .ref C) (t0 := t2) (dv := none) (c2 := .none) (c3 := .none) (b4 := .bool false) he2 hlen ?_
  intro h3 k3 e3 t3
  have J2 := J.write (t' := tk2) (x := a) (e := a) (o := exo a C none) (by rw [ea1]; exact True.intro) (.inl rfl) k3 ⟨_, e3⟩ (exo_ok e3)
  have eu : upd H1 a (exo a C none) = H1 := by
    funext b
    by_cases hb : b = a
    · rw [hb, upd_same, ea1]
    · rw [upd_ne hb]
  rw [eu] at J2
  exact ⟨trivial, H1, J2.pins_of (fun p hp => absurd hp (by simp)), hG⟩
theorem fn_sup {p0 p1 p2 p3 p4 : Pos} {es : List Expr} {e : Expr} {rest : List Stmt} (F : SupF P K mg q st ps D f fd) (S : NScope N ps ["__class__"] (defScope st))
    (hself : ps.head? = some "self") (hst : defBody st = .Expr (.Call (.Attribute (.Call (.Name "super" p0) [] [] p1) "__init__" p2) (e :: es) [] p3) p4 :: rest)
    (len : ∀ vs H Q E, sp vs H Q E → vs.length = ps.length)
    (hbody : ∀ (cc cda : Addr) (A : Around) (outer : List Env) (s : Shared) (H : Hp) (vs : List V) (Q : VK) (E : XK), Room k (A.deeper (PySem.W.ksEnv q (defScope st) s.heap.objs.size f (.ref cda) cc)) → sp vs H Q E →
      ∃ ta t pl, PA (ncx CX P w K mg base N ⟨"__init__", q, defArgs st, defBody st, defScope st, [("__class__", cc)], cda⟩ f A outer s H E) (e :: es) ta ∧ PSs (ncx CX P w K mg base N ⟨"__init__", q, defArgs st, defBody st, defScope st, [("__class__", cc)], cda⟩ f A outer s H E) rest t ∧ starEach (e :: es) (PySem.W.ksEnv q (defScope st) s.heap.objs.size f (.ref cda) cc) = (false, eval e (PySem.W.ksEnv q (defScope st) s.heap.objs.size f (.ref cda) cc)) :: starEach es (PySem.W.ksEnv q (defScope st) s.heap.objs.size f (.ref cda) cc) ∧ (∀ pos, (backTo pos (starEach es (PySem.W.ksEnv q (defScope st) s.heap.objs.size f (.ref cda) cc))).any (·.1) = false) ∧
        eval (.Call (.Attribute (.Call (.Name "super" p0) [] [] p1) "__init__" p2) (e :: es) [] p3) (PySem.W.ksEnv q (defScope st) s.heap.objs.size f (.ref cda) cc) = (do
          let ov ← attributeBase (.Call (.Name "super" p0) [] [] p1) "__init__" (PySem.W.ksEnv q (defScope st) s.heap.objs.size f (.ref cda) cc) (eval (.Call (.Name "super" p0) [] [] p1) (PySem.W.ksEnv q (defScope st) s.heap.objs.size f (.ref cda) cc))
          standAt p2.atName
          let (g0, first) ← holding [ov] (getMethod ov "__init__" pl)
          callWith p3 g0 first (backTo p3 (starEach (e :: es) (PySem.W.ksEnv q (defScope st) s.heap.objs.size f (.ref cda) cc))) []) ∧
        ∃ (a C : Addr) (ws : List V), vs = .ref a :: ws ∧ OexC K C ∧ SupC K C D ∧ H a = some (exo a C none) ∧
        ta (startF N vs [none]) H (fun us H1 => us.length ≤ 1000 ∧ H1 a = some (exo a C none) ∧ t { nx := fun _ H' => Q .non H', rt := Q } (startF N vs [none]) H1)) :
    FnOk P w K mg base CX (k + 1) f fd ps sp := by
  obtain ⟨cc, cda, oc, kv, doc, pm, ct, od, an, osl, rfl, lk, hcd, ⟨cl, cld, csl, hcc⟩, ⟨cl2, cld2, fvs, csl2, file, tf, hcda, hvs, hfile⟩⟩ := F.ex
  refine ⟨len, fun A outer s H args us vs Q E hr e0 hb r hsp => ?_⟩
  have hl := len _ _ _ _ hsp
  have KX : K.In s.heap := e0.mod.kin.keeps fun b o e => (e0.bs b o e).1
  have lim : s.heap.NoLimit := e0.mod.nolimit.keeps fun b o e => (e0.bs b o e).1
  refine ks_codeAny_call_defAt (binds := ps.zip us) (body := defBody st) hr.depth (KX _ _ lk) rfl lim (PySem.W.codeRec_of KX hcd) rfl hb S.nocell (fun ⟨n, v⟩ hy => S.par n (List.of_mem_zip hy).1) (fun h₁ hns kp => ?_) S.co S.gen S.kind
  have I0 : Inv (ncx CX P w K mg base N ⟨"__init__", q, defArgs st, defBody st, defScope st, [("__class__", cc)], cda⟩ f A outer s H E) [] (startF N vs [none]) H { s with heap := h₁, toks := s.toks + (ps.zip us).length } := inv_startN S hr.hd e0 hl r (cells1 e0 hcc) hns kp
  obtain ⟨ta, t, pl, hpa, hps, he, hpl, hev, a, C, ws, rfl, T, SC, ea, hta⟩ := hbody cc cda A outer s H vs Q E (hr.deeper _) hsp
  obtain ⟨cdD, hD⟩ := F.hD
  obtain ⟨ar, har1, har2⟩ := F.hp
  obtain ⟨ps', rfl⟩ : ∃ ps', ps = ("self" : Str) :: ps' := by
    cases ps with
    | nil => cases hself
    | cons x xs => cases hself; exact ⟨xs, rfl⟩
  have hN0 : N[0]? = some ("self" : Str) := by
    have := congrArg (fun l => l[0]?) S.pre
    simpa using this
  have key : _root_.PySem.wpAt (model P w) (A.deeper (PySem.W.ksEnv q (defScope st) s.heap.objs.size f (.ref cda) cc)) (.func (defBody st) (PySem.W.ksEnv q (defScope st) s.heap.objs.size f (.ref cda) cc)) (execs (.Expr (.Call (.Attribute (.Call (.Name "super" p0) [] [] p1) "__init__" p2) (e :: es) [] p3) p4 :: rest) (PySem.W.ksEnv q (defScope st) s.heap.objs.size f (.ref cda) cc))
      (SP (ncx CX P w K mg base N ⟨"__init__", q, defArgs st, defBody st, defScope st, [("__class__", cc)], cda⟩ f A outer s H E) [] { nx := fun _ H' => Q .non H', rt := Q })
      (ncx CX P w K mg base N ⟨"__init__", q, defArgs st, defBody st, defScope st, [("__class__", cc)], cda⟩ f A outer s H E).xe { s with heap := h₁, toks := s.toks + ((("self" : Str) :: ps').zip us).length } := by
    refine ks_wpAt_execs_cons (ks_wpAt_mono (sup_run (G := fun H1 => t { nx := fun _ H' => Q .non H', rt := Q } (startF N (.ref a :: ws) [none]) H1) I0 rfl S.kind F.hks (S.frk _ List.mem_cons_self) (S.par _ List.mem_cons_self) lk har1 har2 hcc hcda hvs hfile F.top F.mgs F.op hN0 rfl hD T SC ea hpa he hpl hev hta) (fun fl s' ⟨e1, H1, J, hG⟩ => ?_) fun _ _ z => z)
    subst e1
    exact wpAt_of_wpAny (hps.run [] s' _ H1 _ J hG)
  rw [← hst] at key
  refine ks_wpAt_mono key (fun fl s' hs => ?_) fun _ _ z => z
  have fin : ∀ {σ' : L2.St} {H' : Hp} {v : V} {u : Value}, Inv (ncx CX P w K mg base N ⟨"__init__", q, defArgs st, defBody st, defScope st, [("__class__", cc)], cda⟩ f A outer s H E) [] σ' H' s' → L2.RelV v u → Q v H' → CE outer P w H s Q u s' :=
    fun {σ' H' v u} J rv q => ⟨v, H', J.os, J.bare, J.base, J.hok, rv, q⟩
  cases fl with
  | ret u =>
    obtain ⟨v, σ', H', J, rv, q⟩ := hs
    exact fin J rv q
  | next =>
    obtain ⟨σ', H', J, q⟩ := hs
    exact fin (v := V.non) (u := Value.none) J rfl q
  | brk =>
    obtain ⟨_, _, _, q⟩ := hs
    exact False.elim q
  | cont =>
    obtain ⟨_, _, _, q⟩ := hs
    exact False.elim q
end
end Sh
set_option Elab.async false
set_option linter.all false
set_option maxRecDepth 100000
/-! own exceptions over ValueError: made, raised, told by defs that may raise -/
namespace Sh
open PySem PySem.Spec PyProof.Rows L2 NdefX
/-- an exception class of the text: its __init__ (own or an ancestor's, written in the class at D) at f -/
structure ExcAt (K : PySem.W.Frag) (mg : Str → Option Value) (x : Str) (C f D : Addr) : Prop where
  oex : OexC K C
  mgC : mg x = some (.ref C)
  iC : PySem.W.findIn K (.ref C) "__init__" = some (some (.ref f))
  tI : PySem.W.typeIn K (.ref f) = some (.type "function")
  sup : SupC K C D
  xf : XfC K C
/-- its __init__ stands in the text -/
structure XInit (P : Program) (K : PySem.W.Frag) (mg : Str → Option Value) (q : Str) (st : Stmt) (ps : List Str) (D f : Addr) : Prop where
  ex : ∃ fd, SupF P K mg q st ps D f fd ∧ Binds K fd ps []
/-- __init__(self, thing): super().__init__(..), then self.fld = thing -/
def spX1 (K : PySem.W.Frag) (D : Addr) (fld : Str) (ok : V → Prop) : Sp := fun vs H Q _ => ∃ (a C : Addr) (v : V), vs = [.ref a, v] ∧ OexC K C ∧ SupC K C D ∧ PySem.W.findIn K (.ref C) fld = some none ∧ H a = some (exo a C none) ∧ ok v ∧
  ∀ dx, H dx = none → dx ≠ a → Q .non (upd (upd H dx (exd dx [(fld, v)])) a (exo a C (some dx)))
theorem mk1 {K : PySem.W.Frag} {mg : Str → Option Value} {x fld : Str} {C f D : Addr} {ok : V → Prop} {v : V} {H1 : Hp} {Q : XK} {E : XK} (T : ExcAt K mg x C f D) (hno : PySem.W.findIn K (.ref C) fld = some none) (hv : ok v) (k : ∀ d, H1 d = none → Q (.ref C) (some d) (upd H1 d (.xd [(fld, v)]))) :
    [v].length ≤ 1000 ∧ ∀ a, H1 a = none → spX1 K D fld ok (.ref a :: ([v] ++ [])) (upd H1 a (exo a C none)) (fun u H2 => u = .non ∧ ∃ (d : Addr) (fs : List (Str × V)), H2 a = some (exo a C (some d)) ∧ H2 d = some (exd d fs) ∧ H1 d = none ∧ Q (.ref C) (some d) (upd (del H2 a) d (.xd fs))) E := by
  refine ⟨by simp, fun a ha => ⟨a, C, v, rfl, T.oex, T.sup, hno, upd_same, hv, fun dx h1 h2 => ⟨rfl, dx, [(fld, v)], upd_same, ?_, ?_, ?_⟩⟩⟩
  · rw [upd_ne h2, upd_same]
  · rw [upd_ne h2] at h1; exact h1
  · rw [upd_ne h2] at h1
    have e : upd (del (upd (upd (upd H1 a (exo a C none)) dx (exd dx [(fld, v)])) a (exo a C (some dx))) a) dx (.xd [(fld, v)]) = upd H1 dx (.xd [(fld, v)]) := by
      funext b
      by_cases hb : b = dx
      · rw [hb, upd_same, upd_same]
      · rw [upd_ne hb, upd_ne hb]
        by_cases hba : b = a
        · rw [hba, del_same, ha]
        · rw [del_ne hba, upd_ne hba, upd_ne hb, upd_ne hba]
    rw [e]
    exact k dx h1
/-- such an __init__ keeps its promise -/
structure XiOk (P : Program) (w : World) (K : PySem.W.Frag) (mg : Str → Option Value) (base : Heap) (k : Nat) (f : Addr) (sp : Sp) : Prop where
  ex : ∃ (fd : FuncData) (ps : List Str), FnOk P w K mg base CX0 k f fd ps sp ∧ Binds K fd ps []
/-! ### a def that may raise -/
section
variable {P : Program} {w : World} {K : PySem.W.Frag} {mg : Str → Option Value} {base : Heap}
theorem Cal.mkX {x : Str} {st : Stmt} {N ps : List Str} {k : Nat} {sp : Sp} (D : DefAt K mg x st ps) (S : FnScope N ps (defScope st)) (len : ∀ vs H Q E, sp vs H Q E → vs.length = ps.length)
    (hbody : ∀ (f : Addr) (cdv : Value) (A : Around) (outer : List Env) (s : Shared) (H : Hp) (vs : List V) (Q : VK) (E : XK), Room k (A.deeper (envOfC x (defScope st) s.heap.objs.size f cdv)) → sp vs H Q E →
      ∃ t, PSs (cxOf (L2.CX P w) P w K mg base N x (defScope st) f cdv A outer s H E) (defBody st) t ∧ t { nx := fun _ H' => Q .non H', rt := Q } (start N vs) H) : Cal P w K mg base (L2.CX P w) (k + 1) x sp := by
  obtain ⟨f, fd, F, m, b⟩ := D.ex
  exact ⟨f, fd, ps, F.okX S len (fun cdv A outer s H vs Q E hr h => hbody f cdv A outer s H vs Q E hr h), m, F.kp, b⟩
end
section
variable {X : Cx} {k j : Nat} {x : Str} {sp : Sp} {p pos : Pos} {e : Expr} {es : List Expr} {t : TA} {W : WX}
/-- f(e, ..), f a def that may raise; what it raises is wished by W -/
theorem pe_cX (c : Cal X.prog X.w X.K X.mg X.base (L2.CX X.prog X.w) k x sp) (hr : Room j X.A) (hk : k ≤ j) (tk : Takes X W) (hg : Gl X x) (ha : PA X (e :: es) t)
    (hdb : (x == ("__debug__" : Str)) = false := by decide) (he : starEach (e :: es) X.env = (false, eval e X.env) :: starEach es X.env := by rfl) (hpl : (backTo pos (starEach es X.env)).any (·.1) = false := by rfl) :
    PE X (.Call (.Name x p) (e :: es) [] pos) (tCallS sp (WE W) t) := by
  obtain ⟨f, fd, ps, F, hm, kp, b⟩ := c.ex
  exact pe_callS F (hr.mono hk) hg hm kp b (fun σ => passAt tk σ) ha hdb he hpl
/-- the same where it does not raise -/
theorem pe_cXn (c : Cal X.prog X.w X.K X.mg X.base (L2.CX X.prog X.w) k x sp) (hr : Room j X.A) (hk : k ≤ j) (hg : Gl X x) (ha : PA X (e :: es) t)
    (hdb : (x == ("__debug__" : Str)) = false := by decide) (he : starEach (e :: es) X.env = (false, eval e X.env) :: starEach es X.env := by rfl) (hpl : (backTo pos (starEach es X.env)).any (·.1) = false := by rfl) :
    PE X (.Call (.Name x p) (e :: es) [] pos) (tCall sp [] E0 t) := by
  obtain ⟨f, fd, ps, F, hm, kp, b⟩ := c.ex
  exact pe_call F (hr.mono hk) hg hm kp b .nil passL ha hdb he hpl
/-- raise C(e) -/
theorem ps_raiseX {C D f : Addr} {pos2 : Pos} (T : ExcAt X.K X.mg x C f D) (F : XiOk X.prog X.w X.K X.mg X.base k f sp) (hr : Room j X.A) (hk : k + 1 ≤ j) (hc : X.calm = true) (tk : Takes X W) (hg : Gl X x) (ha : PA X (e :: es) t)
    (hdb : (x == ("__debug__" : Str)) = false := by decide) (he : starEach (e :: es) X.env = (false, eval e X.env) :: starEach es X.env := by rfl) (hpl : (backTo pos (starEach es X.env)).any (·.1) = false := by rfl) :
    PS X (.Raise (some (.Call (.Name x p) (e :: es) [] pos)) none pos2) (fun _ σ H => tMkO C sp [] t σ H fun cls d H' => W cls d σ H') := by
  obtain ⟨fd, ps, F, b⟩ := F.ex
  exact ps_raise hc tk (pmk_oex (ds := []) (dvs := []) T.oex T.iC T.tI F (hr.mono hk) b .nil (fun _ _ _ _ _ _ _ z => z.elim) hg T.mgC ha hdb he hpl)
/-- repr of a text -/
theorem call_repr_str : CallR X (.builtin "repr") (fun xs H Q => ∃ z, xs = [.str z] ∧ (reprText z).length ≤ sizeLine ∧ Q (.str (reprText z)) H) := by
  intro pins s σ H xs us Q I r h
  obtain ⟨z, rfl, hz, q⟩ := h
  obtain ⟨u, rfl, t, rfl⟩ := vals1 r
  exact PySem.P.repr_of_str ⟨.str _, H, I.tok _, ⟨_, rfl⟩, q⟩ hz
end
end Sh
set_option Elab.async false
set_option linter.all false
set_option maxRecDepth 100000
set_option maxHeartbeats 2000000
/-! try with several clauses «except C as n» -/
namespace Sh
open PySem PySem.Spec PyProof.Rows L2
abbrev ClA := Value × Nat × (Addr → Value → Option Addr → TS)
def outA (D : Ends) (i : Nat) : Ends := { nx := fun σ' H' => D.nx (σ'.set i none) H', rt := D.rt, bk := fun σ' H' => D.bk (σ'.set i none) H', ct := fun σ' H' => D.ct (σ'.set i none) H' }
/-- what the clauses wish of an exception of the body -/
def wAsN (K : PySem.W.Frag) (Wo : WX) (D : Ends) : List ClA → WX
  | [] => Wo
  | p :: r => fun cls d σ H => ∃ b, PySem.W.exmOne K cls p.1 = some b ∧ (b = true → ∀ a, H a = none → p.2.2 a cls d (outA D p.2.1) (σ.set p.2.1 (some (.ref a))) H) ∧ (b = false → wAsN K Wo D r cls d σ H)
inductive HdsA (X : Cx) : List ExceptHandler → List ClA → Prop
  | nil : HdsA X [] []
  | cons {x n : Str} {c : Value} {i : Nat} {ts : Addr → Value → Option Addr → TS} {b0 : Stmt} {su : List Stmt} {np pos' : Pos} {hds : List ExceptHandler} {l : List ClA} (hi : X.N[i]? = some n) (hl : X.env.kindOf n = some .local) (hc : Names X x c)
      (hsu : ∀ (a : Addr) (oe : Obj) (cls : Value) (d : Option Addr) (pn : List (Addr × Obj)), Zc cls d oe → (∃ vs, oe.data = .fields vs) → PSs (X.suite a ((a, oe) :: pn)) (b0 :: su) (ts a cls d)) (r : HdsA X hds l) :
      HdsA X (.ExceptHandler (some (.Name x np)) (some n) (b0 :: su) pos' :: hds) ((c, i, ts) :: l)
section
variable {X : Cx} {body : List Stmt} {h0 : ExceptHandler} {hds : List ExceptHandler} {l : List ClA} {pos : Pos} {tb : WX → TS} {Wo : WX}
theorem ps_try_asN (hs : X.stack = X.env :: X.outer) (hf : X.env.frame = some X.env.locals) (hN : X.N.Nodup) (tk : Takes X Wo)
    (hb : ∀ (W : WX) (pn : List (Addr × Obj)) (xe : Value → Shared → Prop), Takes (X.tr pn xe) W → PassesOwn (model X.prog X.w) X.A X.env xe → PSs (X.tr pn xe) body (tb W))
    (hh : HdsA X (h0 :: hds) l) : PS X (.Try body (h0 :: hds) [] [] pos) (fun D σ H => tb (wAsN X.K Wo D l) D σ H) := by
  refine ⟨fun pins s σ H D I hgo => ?_⟩
  have okX := I.ok
  have frX : X.A.frames = some (X.env :: X.outer) := okX.frames.trans (congrArg some hs)
  refine wpAny_Try_except (wpAny_mono ((hb (wAsN X.K Wo D l) (X.pn ++ pins) (fun e s₁ => wpAny (model X.prog X.w) X.A (noteFrame e X.env) (fun _ s₂ => wpAny (model X.prog X.w) X.A (setFlight e none) (fun _ s₃ =>
    wpAny (model X.prog X.w) X.A (handleBy e X.env (h0 :: hds)) (SP X pins D) X.xe s₃) X.xe s₂) X.xe s₁) (fun u s' air => ?_) PassesOwn.looking).run [] s σ H D (I.toTry _) hgo) (fun fl s1 done => ?_) fun _ _ he => he)
  · obtain ⟨a, B, sI, pn0, σ1, H1, cls, d, rfl, J0, nb, up, sky, na, os, ag, wish⟩ := air
    have J : Inv X pins σ1 H1 sI := J0.ofTry okX
    show wpAny (model X.prog X.w) X.A (noteFrame (.ref a) X.env) _ _ _
    refine Sky.land Zc.steady frX hf (hs ▸ sky) fun g3 fl3 up3 => ?_
    have J3 : Inv X pins σ1 H1 { s' with heap := g3 } := J.landed nb fl3.1 (up.trans up3) os ag
    obtain ⟨oe3, vs3, at3, z3, d3⟩ := fl3.there
    have offF : a ∉ frs (X.env :: X.outer) := fun hm => by
      obtain ⟨_, o', e', isF⟩ := fl3.2.2.1.mem hm
      cases at3.symm.trans e'
      exact isF _ d3
    have offL : a ≠ X.env.locals := fun z => offF (List.mem_filterMap.mpr ⟨X.env, List.mem_cons_self, hf.trans (congrArg some z.symm)⟩)
    have offO : a ∉ X.fs := fun hm => let ⟨e, he, q⟩ := List.mem_filterMap.mp hm; offF (List.mem_filterMap.mpr ⟨e, List.mem_cons_of_mem _ he, q⟩)
    have S3 := J3.suite at3 d3 na offL offO
    have steps : ∀ {hs' : List ExceptHandler} {l' : List ClA}, HdsA X hs' l' → wAsN X.K Wo D l' cls d σ1 H1 → wpAny (model X.prog X.w) X.A (handleBy (.ref a) X.env hs') (SP X pins D) X.xe { s' with heap := g3 } := by
      intro hs' l' hk
      induction hk with
      | nil =>
        intro wo
        refine wpAny_handleBy_nil ?_
        obtain ⟨_, _, _, oe, vs, Tb, oT, ts', he, _, hd, h1, _⟩ := id fl3
        unfold PySem.passOn
        refine wpAny_bind (wpAny_field he hd h1 ?_)
        rw [if_neg (show ¬ ((Value.ref Tb == Value.none) = true) from by simp)]
        have away : wpAny (model X.prog X.w) X.A (setFlight (.ref a) X.env.frame) (fun _ s4 => wpAny (model X.prog X.w) X.A (throw (.ref a) : Sem Flow) (SP X pins D) X.xe s4) X.xe { s' with heap := g3 } := by
          rw [hf]
          exact HandSPX.setFlight_upZ fl3 fun h4 hh4 up4 => wpAny_throw (tk _ _ ⟨a, B, sI, pins, σ1, H1, cls, d, rfl, J, nb, (up.trans up3).trans up4, .inr (.inr (hs ▸ hh4)), na, os, ag, wo⟩)
        first
          | exact wpAny_bind (wpAny_pure (wpAny_bind away))
          | exact wpAny_bind away
      | @cons x n c i ts b0 su np pos' hd2 l2 hi hl hc hsu r ih =>
        intro wo
        obtain ⟨b, hb1, hy, hn⟩ := wo
        refine wpAny_handleBy_cons (codeAny_handlers_test ?_) (fun q => by cases q)
        have LTy : PySem.W.Looks (model X.prog X.w) g3 (typeOf (.ref a)) cls := fun _ _ _ s k q => wpAny_typeOf_ref (k _ _ at3) (by rw [z3.1]; exact q)
        have LMa := PySem.W.exm_one (M := model X.prog X.w) J3.kIn LTy hb1
        have named : ∀ {Q : Value → Shared → Prop} {E : Value → Shared → Prop}, Q c { s' with heap := g3 } → wpAny (model X.prog X.w) (X.A.mark (some (.ref a))) (eval (.Name x np) X.env) Q E { s' with heap := g3 } := fun {Q E} q => by
          obtain ⟨hg, hdb, hm | ⟨hm, hv, hnn⟩⟩ := hc
          · exact ld_glob (X := X.suite a ((a, oe3) :: (X.pn ++ pins))) S3 hg hm q hdb
          · exact ld_blt (X := X.suite a ((a, oe3) :: (X.pn ++ pins))) S3 hg hm hv q hnn hdb
        refine named (LMa.here ?_)
        cases b with
        | false => exact ih (hn rfl)
        | true =>
          refine codeAny_handlers_suite_as (HandSPX.lands_againZ fl3 fun g4 fl4 up4 => ?_)
          have J4 : Inv X pins σ1 H1 { s' with heap := g4 } := J.landed nb fl4.1 ((up.trans up3).trans up4) os ag
          obtain ⟨oe4, vs4, at4, z4, d4⟩ := fl4.there
          have S4 := J4.suite at4 d4 na offL offO
          refine store_ok (X := X.suite a ((a, oe4) :: (X.pn ++ pins))) (v := .ref a) S4 hN hi (.inl hl) rfl (fun s5 S5 => ?_) (.inr hl)
          refine wpAny_mono ((hsu a oe4 cls d (X.pn ++ pins) z4 ⟨_, d4⟩).run [] s5 _ H1 _ S5 (hy rfl a na)) (fun fl s6 end6 => ?_) (fun _ _ z => z.elim)
          have shut : ∀ {σ6 : L2.St} {H6 : Hp} {Q : Shared → Prop}, Inv (X.suite a ((a, oe4) :: (X.pn ++ pins))) [] σ6 H6 s6 → (∀ s7, Inv X pins (σ6.set i none) H6 s7 → Q s7) →
              wpAny (model X.prog X.w) X.A (do bindName X.env n .none; unbindBehindTheSuite X.env n pos') (fun _ s7 => Q s7) X.xe s6 := fun {σ6 H6 Q} S6 hq => gone_ok (S6.unsuite okX) hN hi hl hq
          cases fl with
          | next => exact let ⟨_, _, S6, q6⟩ := end6; shut S6 fun s7 J7 => ⟨_, _, J7, q6⟩
          | brk => exact let ⟨_, _, S6, q6⟩ := end6; shut S6 fun s7 J7 => ⟨_, _, J7, q6⟩
          | cont => exact let ⟨_, _, S6, q6⟩ := end6; shut S6 fun s7 J7 => ⟨_, _, J7, q6⟩
          | ret u => exact let ⟨_, _, _, S6, r6, q6⟩ := end6; shut S6 fun s7 J7 => ⟨_, _, _, J7, r6, q6⟩
    exact steps hh wish
  · cases fl with
    | next => exact let ⟨σ', H', J', q⟩ := done; wpAny_execs_nil ⟨σ', H', J'.ofTry okX, q⟩
    | brk => exact let ⟨σ', H', J', q⟩ := done; ⟨σ', H', J'.ofTry okX, q⟩
    | cont => exact let ⟨σ', H', J', q⟩ := done; ⟨σ', H', J'.ofTry okX, q⟩
    | ret u => exact let ⟨v, σ', H', J', r, q⟩ := done; ⟨v, σ', H', J'.ofTry okX, r, q⟩
end
end Sh
set_option Elab.async false
set_option linter.all false
set_option maxRecDepth 100000
/-! what leaves a def that raises; a try within a loop -/
namespace Sh
open PySem PySem.Spec PyProof.Rows L2
/-- an exception with one field is let out -/
def Thrown (E : XK) (H : Hp) (X : Addr) (fld : Str) (v : V) : Prop := ∀ d, H d = none → E (.ref X) (some d) (upd H d (.xd [(fld, v)]))
theorem lk1 {f : Str} {v : V} : List.lookup f [(f, v)] = some v := by simp [List.lookup]
/-- the reading of a try, as a word of its own (within a loop) -/
def tTry (tb : WX → TS) (K : PySem.W.Frag) (Wo : WX) (l : List ClA) : TS := fun D σ H => tb (wAsN K Wo D l) D σ H
theorem ps_tryT {X : Cx} {body : List Stmt} {h0 : ExceptHandler} {hds : List ExceptHandler} {l : List ClA} {pos : Pos} {tb : WX → TS} {Wo : WX} (hs : X.stack = X.env :: X.outer) (hf : X.env.frame = some X.env.locals) (hN : X.N.Nodup) (tk : Takes X Wo)
    (hb : ∀ (W : WX) (pn : List (Addr × Obj)) (xe : Value → Shared → Prop), Takes (X.tr pn xe) W → PassesOwn (model X.prog X.w) X.A X.env xe → PSs (X.tr pn xe) body (tb W))
    (hh : HdsA X (h0 :: hds) l) : PS X (.Try body (h0 :: hds) [] [] pos) (tTry tb X.K Wo l) := ps_try_asN hs hf hN tk hb hh
/-- fields of an exception with two: self.f = a, self.g = b -/
def spX2 (K : PySem.W.Frag) (D : Addr) (f g : Str) (ok : V → V → Prop) : Sp := fun vs H Q _ => ∃ (a C : Addr) (u v : V), vs = [.ref a, u, v] ∧ OexC K C ∧ SupC K C D ∧ PySem.W.findIn K (.ref C) f = some none ∧ PySem.W.findIn K (.ref C) g = some none ∧ H a = some (exo a C none) ∧ ok u v ∧
  ∀ (dx : Addr) (H' : Hp), H dx = none → dx ≠ a → H' a = some (exo a C (some dx)) → H' dx = some (exd dx [(g, v), (f, u)]) → (∀ b, b ≠ a → b ≠ dx → H' b = H b) → Q .non H'
theorem mk2 {K : PySem.W.Frag} {mg : Str → Option Value} {x f g : Str} {C fI D : Addr} {ok : V → V → Prop} {u v : V} {H1 : Hp} {Q : XK} {E : XK} (T : ExcAt K mg x C fI D) (hf : PySem.W.findIn K (.ref C) f = some none) (hg : PySem.W.findIn K (.ref C) g = some none) (hv : ok u v)
    (k : ∀ d, H1 d = none → Q (.ref C) (some d) (upd H1 d (.xd [(g, v), (f, u)]))) :
    [u, v].length ≤ 1000 ∧ ∀ a, H1 a = none → spX2 K D f g ok (.ref a :: ([u, v] ++ [])) (upd H1 a (exo a C none)) (fun z H2 => z = .non ∧ ∃ (d : Addr) (fs : List (Str × V)), H2 a = some (exo a C (some d)) ∧ H2 d = some (exd d fs) ∧ H1 d = none ∧ Q (.ref C) (some d) (upd (del H2 a) d (.xd fs))) E := by
  refine ⟨by simp, fun a ha => ⟨a, C, u, v, rfl, T.oex, T.sup, hf, hg, upd_same, hv, fun dx H' h1 h2 e1 e2 e3 => ?_⟩⟩
  rw [upd_ne h2] at h1
  refine ⟨rfl, dx, _, e1, e2, h1, ?_⟩
  have e : upd (del H' a) dx (.xd [(g, v), (f, u)]) = upd H1 dx (.xd [(g, v), (f, u)]) := by
    funext b
    by_cases hb : b = dx
    · rw [hb, upd_same, upd_same]
    · rw [upd_ne hb, upd_ne hb]
      by_cases hba : b = a
      · rw [hba, del_same, ha]
      · rw [del_ne hba, e3 b hba hb, upd_ne hba]
  rw [e]
  exact k dx h1
end Sh
set_option Elab.async false
set_option linter.all false
set_option maxRecDepth 100000
/-! isinstance of a caught error of an own class that has fields -/
namespace Sh
open PySem PySem.Spec PyProof.Rows L2
/-- isinstance(e, c): e the caught exception at a, of the class D, its fields at d -/
def rIsX (K : PySem.W.Frag) (D a : Addr) (cls : Value) (d : Option Addr) : List V → Hp → VK → Prop := fun xs H Q => cls = .ref D ∧ ∃ (c : V) (cv : Value) (b : Bool) (dd : Addr) (fs : List (Str × V)), xs = [.ref a, c] ∧ d = some dd ∧ H dd = some (.xd fs) ∧ (∀ u, RelV c u → u = cv) ∧ PySem.W.kitOne K (.ref D) cv = some b ∧ Q (.bl b) H
theorem inst_cls {K : PySem.W.Frag} {D : Addr} (h : PySem.W.hasDictIn K D = true) : (PySem.W.clsIn K D).isSome = true := by
  obtain ⟨cd, hc, _⟩ := PySem.W.any_some h
  rw [hc]; rfl
theorem call_isX {X : Cx} {a D : Addr} {cls : Value} {d : Option Addr} {oe : Obj} {pn : List (Addr × Obj)} (C : ExcC X.K D) (hz : Zc cls d oe) (hf : ∃ vs, oe.data = .fields vs) : CallR (X.suite a ((a, oe) :: pn)) (.builtin "isinstance") (rIsX X.K D a cls d) := by
  intro pins s σ H xs us Q I r h
  obtain ⟨ec, c, cv, b, dd, fs, rfl, ed, hd, hcv, e, q⟩ := h
  subst ec ed
  obtain ⟨t, rfl, rt⟩ : ∃ t, us = [Value.ref a, t] ∧ RelV c t := by
    cases r with
    | cons rx rr =>
      cases rr with
      | cons rt rr => cases rr; cases rx; exact ⟨_, rfl, rt⟩
  obtain rfl := hcv t rt
  obtain ⟨ha, _⟩ := I.pin (a, oe) (List.mem_append_left _ List.mem_cons_self)
  obtain ⟨vs, hv⟩ := hf
  obtain ⟨mA, hns, _⟩ := (show ObjOk X.prog X.w H s.heap dd (.xd fs) from I.hok dd _ hd)
  obtain ⟨od, ho, _⟩ := lookIn_ns hns
  have J : PySem.W.InstAt s.heap a oe D (some od) := ⟨ha, hz.1, by unfold PySem.W.notCls; rw [hv] <;> rfl, by rw [hz.2]; exact ho⟩
  exact PySem.W.kia_one (PySem.W.kitx_exc (inst_cls C.hd) C.hg C.hk C.hs C.ha C.hn C.ht C.hm) I.kIn J e (fun z => nomatch z) fun tk => ⟨.bl b, H, I.kept (t' := tk) fun _ _ z => z, rfl, q⟩
/-- repr in an except suite -/
theorem call_reprDs {X : Cx} {a : Addr} {pn : List (Addr × Obj)} (hg : X.A.guards = some []) (hu : X.A.units + 64 < cLine) :
    CallR (X.suite a pn) (.builtin "repr") (fun xs H Q => ∃ v d, xs = [v] ∧ Dp X.K H v d ∧ d.showable = true ∧ d.hasDict = false ∧ d.depth ≤ 60 ∧ d.shown.length ≤ sizeLine ∧ Q (.str d.shown) H) :=
  call_reprD (X := X.suite a pn) hg hu
/-- a class asked of its own heir -/
theorem kit_true {K : PySem.W.Frag} {D C : Addr} (hd : PySem.W.hasDictIn K C = true) (ty : PySem.W.typeIn K (.ref C) = some (.type "type")) (h : PySem.W.subIn K (.ref D) (.ref C) = some true) : PySem.W.kitOne K (.ref D) (.ref C) = some true := by
  unfold PySem.W.kitOne
  split
  · rfl
  · unfold PySem.W.kitCls
    dsimp only
    rw [if_pos (by rw [inst_cls hd, ty]; rfl)]
    exact h
/-- a class asked of one that it does not come from -/
theorem kit_false {K : PySem.W.Frag} {D C : Addr} (hd : PySem.W.hasDictIn K C = true) (ty : PySem.W.typeIn K (.ref C) = some (.type "type")) (hs : PySem.W.subIn K (.ref C) (.ref C) = some true) (h : PySem.W.subIn K (.ref D) (.ref C) = some false) : PySem.W.kitOne K (.ref D) (.ref C) = some false := by
  unfold PySem.W.kitOne
  split
  · rename_i z
    have e := beq_iff_eq.mp z
    cases e
    rw [hs] at h
    cases h
  · unfold PySem.W.kitCls
    dsimp only
    rw [if_pos (by rw [inst_cls hd, ty]; rfl)]
    exact h
/-- what str tells of a small number, a text, or nothing -/
inductive StrV : V → Str → Prop
  | int {i : Int} (h : i.natAbs.log2 < 1920) : StrV (.int i) (toString i)
  | str (z : Str) : StrV (.str z) z
  | non : StrV .non "None"
theorem call_str_any {X : Cx} : CallR X (.type "str") (fun xs H Q => ∃ v z, xs = [v] ∧ StrV v z ∧ Q (.str z) H) := by
  intro pins s σ H xs us Q I r h
  obtain ⟨v, z, rfl, hv, q⟩ := h
  cases hv with
  | int hi => exact call_str_int pins s σ H _ us Q I r ⟨_, rfl, hi, q⟩
  | str z => exact SkE.call_str_str pins s σ H _ us Q I r ⟨_, rfl, q⟩
  | non =>
    obtain ⟨u, rfl, ru⟩ := vals1 r
    obtain rfl : u = Value.none := ru
    exact PySem.P.str_of_none ⟨.str "None", H, I.tok _, ⟨_, rfl⟩, q⟩
end Sh
set_option Elab.async false
set_option linter.all false
set_option maxRecDepth 100000
namespace Sh
open PySem PySem.Spec PyProof.Rows L2
theorem nsc_WrongThing : NdefX.NScope ["self", "thing", "__class__"] ["self", "thing"] ["__class__"] (defScope s_WrongThing___init__) := NdefX.nscope_by (by decide +kernel)
structure TxtX (P : Program) (K : PySem.W.Frag) (mg : Str → Option Value) (CB XT FT DT : Addr) : Prop extends TxtC K mg CB where
  e_BadText : ExcAt K mg "BadText" XT FT DT
  q_WrongThing : XInit P K mg "WrongThing.__init__" s_WrongThing___init__ ["self", "thing"] DT FT
  nf_BadText_thing : PySem.W.findIn K (.ref XT) "thing" = some none
  mm_BadText_BadText : PySem.W.exmOne K (.ref XT) (.ref XT) = some true
end Sh
set_option Elab.async false
set_option linter.all false
set_option maxRecDepth 100000
set_option maxHeartbeats 4000000
namespace Sh
open PySem PySem.Spec PyProof.Rows L2
open SX (S S_inj S_len S_cat)
local macro_rules | `(tactic| walk_at "nx") => `(tactic| repeat (with_reducible first | refine Sh.gn_mk ?_ | refine Sh.nx_mk ?_ | refine Sh.st_nx ?_ | refine Sh.rt_mk ?_ | refine Sh.ct_mk ?_ | refine Sh.bk_mk ?_))
local macro_rules | `(tactic| walk_at "sq") => `(tactic| first | exact SqL.of upd_same | exact SqT.of upd_same | exact SqL.of (by assumption) | exact SqT.of (by assumption) | assumption | exact Or.inl (SqL.of (by assumption)) | exact Or.inr (SqT.of (by assumption)) | exact Or.inl (by assumption) | exact Or.inr (by assumption))
local macro_rules | `(tactic| walk_at "hp") => `(tactic| first | exact upd_same | assumption)
local macro_rules | `(tactic| walk_at "sz") => `(tactic| first | exact Nat.le_of_ble_eq_true rfl | omega)
local macro_rules | `(tactic| walk_at "sd") => `(tactic| first | omega | exact rfl | assumption | (show (0 : Int) < _; omega) | exact And.intro (by omega) (by omega) | exact Or.inl (And.intro (by omega) (by omega)) | exact Or.inr (And.intro (by omega) (by omega)) | omega | exact Sh.sz_S (by omega) | decide)
local macro_rules | `(tactic| walk_at "rd1") => `(tactic| first
  | (with_reducible first | refine Sh.gn_mk ?_ | refine Sh.nx_mk ?_ | refine Sh.st_nx ?_ | refine Sh.rt_mk ?_ | refine Sh.ct_mk ?_ | refine Sh.bk_mk ?_)
  | refine Exists.intro (α := V) _ (And.intro rfl ?_)
  | refine Exists.intro (α := Bool) _ (And.intro rfl ?_)
  | refine Exists.intro (α := Int) _ (And.intro rfl ?_)
  | refine Exists.intro (α := PySem.Str) _ (And.intro rfl ?_)
  | refine Exists.intro (α := Int) _ (Exists.intro (α := Int) _ (And.intro rfl (And.intro rfl ?_)))
  | refine Exists.intro (α := PySem.Str) _ (Exists.intro (α := PySem.Str) _ (And.intro rfl (And.intro rfl ?_)))
  | refine Exists.intro (α := Int) _ (Exists.intro (α := Int) _ (And.intro rfl ?_))
  | refine Or.inl (Exists.intro (α := Int) _ (And.intro rfl ?_))
  | refine Exists.intro _ (Exists.intro _ (Exists.intro _ (Exists.intro _ (And.intro rfl (And.intro rfl (And.intro (by walk_at "sq") (And.intro rfl ?_)))))))
  | refine Exists.intro _ (Exists.intro _ (Exists.intro _ (Exists.intro _ (And.intro rfl (And.intro rfl (And.intro (by walk_at "hp") (And.intro rfl ?_)))))))
  | refine And.intro (by walk_at "sd") ?_
  )
local macro_rules | `(tactic| walk_at "rd") => `(tactic| repeat walk_at "rd1")
local macro_rules | `(tactic| walk_at "lk") => `(tactic| first | exact rfl | (rw [lookup_putF, if_pos rfl]) | (rw [lookup_putF, if_neg (by decide +kernel)]; walk_at "lk"))

section
variable {P : Program} {w : World} {K : PySem.W.Frag} {mg : Str → Option Value} {base : Heap} {CB XR FR DI XO FO XT FT DT SE : Addr}
/-- is_integer of a number, or of what is none -/
def spIsInt (K : PySem.W.Frag) : Sp := fun vs H Q _ => (∃ z lo hi : Int, vs = [.int z, .int lo, .int hi] ∧ Q (.bl (decide (lo ≤ z) && decide (z ≤ hi))) H) ∨ ∃ (v a b : V) (n : String), vs = [v, a, b] ∧ TyX K H v (.type n) ∧ n ∈ tys ∧ n ≠ "int" ∧ Q (.bl false) H
theorem isaB_int {n : String} (h : n ∈ tys) : isaB n "int" = (n == "int" || n == "bool") := by
  simp only [tys, List.mem_cons, List.not_mem_nil, or_false] at h
  rcases h with rfl | rfl | rfl | rfl | rfl | rfl | rfl <;> decide
theorem isaB_bool {n : String} (h : n ∈ tys) : isaB n "bool" = (n == "bool") := by
  simp only [tys, List.mem_cons, List.not_mem_nil, or_false] at h
  rcases h with rfl | rfl | rfl | rfl | rfl | rfl | rfl <;> decide
/-- BadText, BadRun: what __init__ keeps -/
def okAny : V → Prop := fun _ => True
theorem x_WrongThing (T : TxtX P K mg CB XT FT DT) : XiOk P w K mg base 1 FT (spX1 K DT "thing" okAny) := by
  obtain ⟨fd, SF, b⟩ := T.q_WrongThing.ex
  refine ⟨fd, _, fn_sup SF nsc_WrongThing rfl rfl (fun vs H Q E h => ?_) (fun cc cda A outer s H vs Q E hr h => ?_), b⟩
  · obtain ⟨a, C, v, rfl, _⟩ := h
    rfl
  · obtain ⟨a, C, v, rfl, o, sc, hno, ea, _, k⟩ := h
    refine ⟨_, _, _, (pa_cons pe_str pa_nil), (pss_cons (ps_ost (pv 0) (pv 1)) pss_nil), rfl, fun _ => rfl, rfl, ?_⟩
    refine ⟨a, C, _, rfl, o, sc, ea, ?_⟩
    refine ⟨by simp, ea, _, rfl, _, rfl, a, C, rfl, o, hno, .inl ⟨ea, fun dx n1 n2 => ?_⟩⟩
    exact k dx n1 n2
/-- BadRun: a small number -/
def okNum : V → Prop := fun v => ∃ i : Int, v = .int i ∧ -1 ≤ i ∧ i ≤ 1000
theorem num_short : ∀ n : Nat, n < 1002 → (Str.ofString (toString ((n : Int) - 1))).length ≤ 5 ∧ ((n : Int) - 1).natAbs.log2 < 1920 := by decide +kernel
def okStr : V → V → Prop := fun u v => (∃ z, StrV u z ∧ z.length ≤ 1000) ∧ ∃ z, StrV v z ∧ z.length ≤ 1000
end
end Sh
set_option Elab.async false
set_option linter.all false
set_option maxRecDepth 100000
set_option maxHeartbeats 4000000
namespace Sh
open PySem PySem.Spec PyProof.Rows L2
open SX (S S_inj S_len S_cat)
open Bk (Rule left Wf Meets Reach Step IsEnd)
/-! texts that are turned into one another -/
section
variable {sh : List (Nat × Nat)} {sg : List Nat} {ar : List Arr} {R : List Ru} (G : GB sh sg ar R)
include G
theorem GB.nadj {a b : Nat} (ha : a ∈ sg) (hb : b ∈ sg) : (∀ w, ([a, b], w) ∉ R) ↔ tgtS sg ar a ≠ srcS sg ar b := by
  constructor
  · intro h z
    obtain ⟨w, hw⟩ := (G.cmp ha hb).mpr z
    exact h w hw
  · intro h w hw
    exact h ((G.cmp ha hb).mp ⟨w, hw⟩)
theorem GB.srcU {c : Nat} (hc : c ∈ sg) : srcS sg ar (uS R sg c) = tgtS sg ar c := by
  obtain ⟨h1, h2, h3⟩ := G.uS_spec hc
  exact ((G.cmp hc h1).mp ⟨_, h2⟩).symm
theorem GB.tgtU {c : Nat} (hc : c ∈ sg) : tgtS sg ar (uS R sg c) = srcS sg ar c := by
  obtain ⟨h1, h2, h3⟩ := G.uS_spec hc
  exact (G.cmp h1 hc).mp ⟨_, h3⟩
/-- two signs that meet and do not undo one another are one sign together -/
theorem GB.prod {l c : Nat} (hl : l ∈ sg) (hc : c ∈ sg) (h : tgtS sg ar l = srcS sg ar c) (hn : c ≠ uS R sg l) : ∃ d ∈ sg, Eq2 R ([l] ++ [c]) [d] ∧ srcS sg ar d = srcS sg ar l ∧ tgtS sg ar d = tgtS sg ar c := by
  have hr : ([l, c], sgn sg ar (mulA sh (aof sg ar l) (aof sg ar c))) ∈ R := G.mem_R.mpr ⟨l, hl, c, hc, h, rfl⟩
  have hv := G.mul_val (G.val hl) (G.val hc) h
  by_cases i : IsId (mulA sh (aof sg ar l) (aof sg ar c))
  · rw [G.sgn_id i] at hr
    exact absurd (G.uS_of hl hr).symm hn
  · obtain ⟨d, hd, e1, e2⟩ := G.sgn_mem (G.mem.mpr ⟨hv, i⟩)
    rw [e2] at hr
    refine ⟨d, hd, G.eqR hr, ?_, ?_⟩
    · show srcA (aof sg ar d) = _
      rw [e1]
      rfl
    · show tgtA (aof sg ar d) = _
      rw [e1]
      exact GB.mul_tgt h
theorem GB.inv_adj {t : List Nat} (ht : ∀ c ∈ t, c ∈ sg) (h : Adj R t) : Adj R (invS R sg t) := by
  induction t with
  | nil => trivial
  | cons a t ih =>
    have ha := ht a List.mem_cons_self
    have ht' : ∀ c ∈ t, c ∈ sg := fun c hc => ht c (List.mem_cons_of_mem _ hc)
    have ht2 : Adj R t := by
      cases t with
      | nil => trivial
      | cons b t => exact h.2
    rw [invS_cons]
    refine adj_app (ih ht' ht2) trivial fun x y hx hy => ?_
    cases t with
    | nil => cases hx
    | cons b t =>
      have hb := ht' b List.mem_cons_self
      rw [invS_cons, List.getLast?_append] at hx
      have hx : uS R sg b = x := by simpa using hx
      have hy : uS R sg a = y := by simpa using hy
      subst hx hy
      rw [G.nadj (G.uS_spec hb).1 (G.uS_spec ha).1, G.tgtU hb, G.srcU ha]
      exact fun z => (G.nadj ha hb).mp h.1 z.symm
theorem GB.cyc_no {W : List Nat} {a b : Nat} {s t : List Nat} (h : Adj R (W ++ W)) (e1 : W = a :: t) (e2 : W = s ++ [b]) (ha : a ∈ sg) (hb : b ∈ sg) (he : tgtS sg ar b = srcS sg ar a) : False := by
  have : W ++ W = s ++ [b, a] ++ t := by
    conv => lhs; lhs; rw [e2]
    rw [e1]
    simp
  rw [this] at h
  exact (G.nadj hb ha).mp (adj_at h) he
theorem GB.lf_adj {t : List Nat} (h : Adj R t) : left R t = t := Bk.left_of_end (G.two.end_iff.mpr h)
theorem GB.eq_adj {s t : List Nat} (hs : Adj R s) (ht : Adj R t) (h : Eq2 R s t) : s = t := by
  unfold Eq2 at h
  rwa [G.lf_adj hs, G.lf_adj ht] at h
/-- one sign of a turning text -/
theorem GB.conj_step {u v z : List Nat} {c : Nat} (hu : ∀ c ∈ u, c ∈ sg) (hv : ∀ c ∈ v, c ∈ sg) (hz : ∀ d ∈ c :: z, d ∈ sg) (cu : Adj R (u ++ u)) (cv : Adj R (v ++ v)) (hne : u ≠ []) (az : Adj R (c :: z)) (h : Eq2 R (u ++ c :: z) (c :: z ++ v)) :
    (∃ u' l, u = u' ++ [l] ∧ c = uS R sg l ∧ Eq2 R (([l] ++ u') ++ z) (z ++ v)) ∨ (∃ u', u = c :: u' ∧ Eq2 R ((u' ++ [c]) ++ z) (z ++ v)) := by
  have hc := hz c List.mem_cons_self
  have hz' : ∀ d ∈ z, d ∈ sg := fun d hd => hz d (List.mem_cons_of_mem _ hd)
  obtain ⟨u', l, eu⟩ : ∃ u' l, u = u' ++ [l] := ⟨u.dropLast, u.getLast hne, (List.dropLast_concat_getLast hne).symm⟩
  obtain ⟨f, u'', ef⟩ : ∃ f u'', u = f :: u'' := by
    cases u with
    | nil => exact absurd rfl hne
    | cons f u'' => exact ⟨f, u'', rfl⟩
  have hl : l ∈ sg := hu l (by rw [eu]; simp)
  have hf : f ∈ sg := hu f (by rw [ef]; simp)
  have hu' : ∀ d ∈ u', d ∈ sg := fun d hd => hu d (by rw [eu]; exact List.mem_append_left _ hd)
  have hu'' : ∀ d ∈ u'', d ∈ sg := fun d hd => hu d (by rw [ef]; exact List.mem_cons_of_mem _ hd)
  have au : Adj R u := adj_l cu
  have av : Adj R v := adj_l cv
  have hlf : tgtS sg ar l ≠ srcS sg ar f := fun z => G.cyc_no cu ef eu hf hl z
  have ai : Adj R (invS R sg (c :: z)) := G.inv_adj hz az
  -- the turned text is v
  have hv2 : Eq2 R (invS R sg (c :: z) ++ (u ++ c :: z)) v := by
    have a1 := G.app (x := invS R sg (c :: z)) rfl h
    refine a1.trans ?_
    have a2 := G.app (G.inv_l hz) (y := v) rfl
    rw [List.append_assoc] at a2
    exact a2
  -- the ends of the turning text
  obtain ⟨z0, e, ez⟩ : ∃ z0 e, c :: z = z0 ++ [e] := ⟨(c :: z).dropLast, (c :: z).getLast (by simp), (List.dropLast_concat_getLast (by simp)).symm⟩
  have he : e ∈ sg := hz e (by rw [ez]; simp)
  have hi : invS R sg (c :: z) = uS R sg e :: invS R sg z0 := by rw [ez, invS_app]; rfl
  have hue := (G.uS_spec he).1
  have huc := (G.uS_spec hc).1
  -- a text x ++ m ++ z that begins as the undoing one and ends as the turning one is not v
  by_cases h1 : tgtS sg ar l = srcS sg ar c
  · by_cases h1a : c = uS R sg l
    · refine .inl ⟨u', l, eu, h1a, ?_⟩
      have a1 : Eq2 R ([l] ++ (u ++ c :: z)) ([l] ++ (c :: z ++ v)) := G.app rfl h
      have a2 : Eq2 R (([l] ++ u') ++ ([l] ++ [c]) ++ z) (([l] ++ u') ++ z) := G.mid (by rw [h1a]; exact G.eqR (G.uS_spec hl).2.1)
      have a3 : Eq2 R ([] ++ ([l] ++ [c]) ++ (z ++ v)) ([] ++ (z ++ v)) := G.mid (by rw [h1a]; exact G.eqR (G.uS_spec hl).2.1)
      rw [eu] at a1
      simp only [List.append_assoc, List.cons_append, List.nil_append] at a1 a2 a3 ⊢
      exact a2.symm.trans (a1.trans a3)
    · exfalso
      obtain ⟨d, hd, ed, sd, td⟩ := G.prod hl hc h1 h1a
      have aW : Adj R (invS R sg (c :: z) ++ (u' ++ [d] ++ z)) := by
        have aud : Adj R (u' ++ [d]) := by
          refine adj_app (adj_l (by rw [eu] at au; exact au)) trivial fun x y hx hy => ?_
          have hy : d = y := by simpa using hy
          subst hy
          have hxs : x ∈ sg := hu' x (List.mem_of_getLast? hx)
          rw [G.nadj hxs hd, sd]
          obtain ⟨s, es⟩ : ∃ s, u' = s ++ [x] := by
            have hne' : u' ≠ [] := by intro e; rw [e] at hx; cases hx
            refine ⟨u'.dropLast, ?_⟩
            rw [List.getLast?_eq_some_getLast hne'] at hx
            rw [← Option.some.inj hx]
            exact (List.dropLast_concat_getLast hne').symm
          rw [eu, es] at au
          have : s ++ [x] ++ [l] = s ++ [x, l] ++ [] := by simp
          rw [this] at au
          exact (G.nadj hxs hl).mp (adj_at au)
        have audz : Adj R (u' ++ [d] ++ z) := by
          refine adj_app aud (adj_r (s := [c]) az) fun x y hx hy => ?_
          rw [List.getLast?_append] at hx
          have hx : d = x := by simpa using hx
          subst hx
          cases z with
          | nil => cases hy
          | cons y' z =>
            have hy : y' = y := by simpa using hy
            subst hy
            rw [G.nadj hd (hz' _ List.mem_cons_self), td]
            exact (G.nadj hc (hz' _ List.mem_cons_self)).mp az.1
        refine adj_app ai audz fun x y hx hy => ?_
        rw [invS_cons, List.getLast?_append] at hx
        have hx : uS R sg c = x := by simpa using hx
        subst hx
        have hys : ∃ y' ∈ sg, srcS sg ar y' = srcS sg ar f ∧ y' = y := by
          cases u' with
          | nil =>
            have hy : d = y := by simpa using hy
            have hfl : f = l := by rw [eu] at ef; simpa using (List.cons.inj ef).1.symm
            exact ⟨d, hd, by rw [sd, hfl], hy⟩
          | cons y' u' =>
            have hy : y' = y := by simpa using hy
            have hfl : f = y' := by rw [eu] at ef; simpa using (List.cons.inj ef).1.symm
            exact ⟨y', hu' _ List.mem_cons_self, by rw [hfl], hy⟩
        obtain ⟨y', hys', ey, rfl⟩ := hys
        rw [G.nadj huc hys', G.tgtU hc, ey, ← h1]
        exact hlf
      have hW : Eq2 R (invS R sg (c :: z) ++ (u' ++ [d] ++ z)) v := by
        refine Eq.trans ?_ hv2
        refine G.app rfl ?_
        rw [eu]
        have := G.app (G.app (x := u') rfl ed.symm) (y := z) rfl
        simpa only [List.append_assoc, List.cons_append, List.nil_append] using this
      have eW := G.eq_adj aW av hW
      rw [← eW] at cv
      cases z with
      | nil =>
        have e1 : c = e := by simpa using (List.append_inj' (show ([] : List Nat) ++ [c] = z0 ++ [e] from ez) rfl).2
        refine G.cyc_no cv (a := uS R sg e) (b := d) (s := invS R sg [c] ++ u') (t := invS R sg z0 ++ (u' ++ [d] ++ [])) (by rw [hi]; rfl) (by simp) hue hd ?_
        rw [td, G.srcU he, e1]
      | cons y z =>
        obtain ⟨z1, ez1⟩ : ∃ z1, y :: z = z1 ++ [e] := by
          cases z0 with
          | nil => simp at ez
          | cons x z0 => exact ⟨z0, (List.cons.inj ez).2⟩
        refine G.cyc_no cv (a := uS R sg e) (b := e) (s := invS R sg (c :: y :: z) ++ (u' ++ [d] ++ z1)) (t := invS R sg z0 ++ (u' ++ [d] ++ (y :: z))) (by rw [hi]; rfl) (by rw [ez1]; simp) hue he ?_
        rw [G.srcU he]
  · by_cases h2 : srcS sg ar c = srcS sg ar f
    · by_cases h2a : f = c
      · refine .inr ⟨u'', by rw [ef, h2a], ?_⟩
        have a1 : Eq2 R ([uS R sg c] ++ (u ++ c :: z)) ([uS R sg c] ++ (c :: z ++ v)) := G.app rfl h
        have a2 : Eq2 R ([] ++ ([uS R sg c] ++ [c]) ++ (u'' ++ c :: z)) ([] ++ (u'' ++ c :: z)) := G.mid (G.eqR (G.uS_spec hc).2.2)
        have a3 : Eq2 R ([] ++ ([uS R sg c] ++ [c]) ++ (z ++ v)) ([] ++ (z ++ v)) := G.mid (G.eqR (G.uS_spec hc).2.2)
        rw [ef, h2a] at a1
        simp only [List.append_assoc, List.cons_append, List.nil_append] at a1 a2 a3 ⊢
        exact a2.symm.trans (a1.trans a3)
      · exfalso
        obtain ⟨d, hd, ed, sd, td⟩ := G.prod huc hf (by rw [G.tgtU hc, h2]) (by rw [G.uu hc]; exact h2a)
        rw [G.srcU hc] at sd
        have aW : Adj R (invS R sg z ++ ([d] ++ u'' ++ c :: z)) := by
          have adu : Adj R ([d] ++ u'') := by
            cases u'' with
            | nil => trivial
            | cons x u'' =>
              rw [ef] at au
              refine ⟨?_, au.2⟩
              rw [G.nadj hd (hu'' x List.mem_cons_self), td]
              exact (G.nadj hf (hu'' x List.mem_cons_self)).mp au.1
          have aduz : Adj R ([d] ++ u'' ++ c :: z) := by
            refine adj_app adu az fun x y hx hy => ?_
            have hy : c = y := by simpa using hy
            subst hy
            have hxs : ∃ x' ∈ sg, tgtS sg ar x' = tgtS sg ar l ∧ x' = x := by
              cases hu9 : u''.reverse with
              | nil =>
                have e9 : u'' = [] := by simpa using hu9
                subst e9
                have hx : d = x := by simpa using hx
                have hfl : l = f := by
                  rw [eu] at ef
                  cases u' with
                  | nil => simpa using ef
                  | cons _ u' => simp at ef
                exact ⟨d, hd, by rw [td, hfl], hx⟩
              | cons x' r =>
                have e9 : u'' = r.reverse ++ [x'] := by
                  have := congrArg List.reverse hu9
                  simpa using this
                have hx : x' = x := by
                  rw [e9, ← List.append_assoc, List.getLast?_append] at hx
                  simpa using hx
                have hfl : l = x' := by
                  rw [eu, e9] at ef
                  have e8 : u' ++ [l] = (f :: r.reverse) ++ [x'] := ef
                  exact (List.append_inj_right' e8 rfl |> List.cons.inj).1
                exact ⟨x', hu'' x' (by rw [e9]; simp), by rw [hfl], hx⟩
            obtain ⟨x', hxs', ex, rfl⟩ := hxs
            rw [G.nadj hxs' hc, ex]
            exact h1
          refine adj_app (G.inv_adj hz' (adj_r (s := [c]) az)) aduz fun x y hx hy => ?_
          have hy : d = y := by simpa using hy
          subst hy
          cases z with
          | nil => cases hx
          | cons y' z =>
            rw [invS_cons, List.getLast?_append] at hx
            have hx : uS R sg y' = x := by simpa using hx
            subst hx
            have hy' := hz' y' List.mem_cons_self
            rw [G.nadj (G.uS_spec hy').1 hd, G.tgtU hy', sd]
            exact fun q => (G.nadj hc hy').mp az.1 q.symm
        have hW : Eq2 R (invS R sg z ++ ([d] ++ u'' ++ c :: z)) v := by
          refine Eq.trans ?_ hv2
          rw [invS_cons, ef]
          have := G.app (G.app (x := invS R sg z) rfl ed.symm) (y := u'' ++ c :: z) rfl
          simp only [List.append_assoc, List.cons_append, List.nil_append] at this ⊢
          exact this
        have eW := G.eq_adj aW av hW
        rw [← eW] at cv
        cases z with
        | nil =>
          refine G.cyc_no cv (a := d) (b := c) (s := [d] ++ u'') (t := u'' ++ [c]) rfl (by simp [invS]) hd hc ?_
          rw [sd]
        | cons y z =>
          obtain ⟨z1, ez1⟩ : ∃ z1, y :: z = z1 ++ [e] := by
            cases z0 with
            | nil => simp at ez
            | cons x z0 => exact ⟨z0, (List.cons.inj ez).2⟩
          refine G.cyc_no cv (a := uS R sg e) (b := e) (s := invS R sg (y :: z) ++ ([d] ++ u'' ++ (c :: z1))) (t := invS R sg z1 ++ ([d] ++ u'' ++ c :: y :: z)) (by rw [ez1, invS_app]; rfl) (by rw [ez1]; simp) hue he ?_
          rw [G.srcU he]
    · exfalso
      have aW : Adj R (invS R sg (c :: z) ++ (u ++ c :: z)) := by
        have auz : Adj R (u ++ c :: z) := by
          refine adj_app au az fun x y hx hy => ?_
          have hy : c = y := by simpa using hy
          subst hy
          rw [eu, List.getLast?_append] at hx
          have hx : l = x := by simpa using hx
          subst hx
          rw [G.nadj hl hc]
          exact h1
        refine adj_app ai auz fun x y hx hy => ?_
        rw [invS_cons, List.getLast?_append] at hx
        have hx : uS R sg c = x := by simpa using hx
        subst hx
        rw [ef] at hy
        have hy : f = y := by simpa using hy
        subst hy
        rw [G.nadj huc hf, G.tgtU hc]
        exact h2
      have eW := G.eq_adj aW av hv2
      rw [← eW] at cv
      refine G.cyc_no cv (a := uS R sg e) (b := e) (s := invS R sg (c :: z) ++ (u ++ z0)) (t := invS R sg z0 ++ (u ++ c :: z)) (by rw [hi]; rfl) (by rw [ez]; simp) hue he ?_
      rw [G.srcU he]
end
end Sh
set_option Elab.async false
set_option linter.all false
set_option maxRecDepth 100000
set_option maxHeartbeats 4000000
namespace Sh
open PySem PySem.Spec PyProof.Rows L2
open SX (S S_inj S_len S_cat)
open Bk (Rule left Wf Meets Reach Step IsEnd)
/-- a text turned round -/
def Rot (u v : List Nat) : Prop := ∃ a b, u = a ++ b ∧ v = b ++ a
theorem Rot.refl (u : List Nat) : Rot u u := ⟨[], u, rfl, by simp⟩
theorem Rot.trans {u v w : List Nat} (h : Rot u v) (k : Rot v w) : Rot u w := by
  obtain ⟨a, b, rfl, rfl⟩ := h
  obtain ⟨c, d, e, rfl⟩ := k
  rcases List.append_eq_append_iff.mp e with ⟨m, e1, e2⟩ | ⟨m, e1, e2⟩
  · exact ⟨m, d ++ b, by rw [e2]; simp, by rw [e1]; simp⟩
  · exact ⟨a ++ c, m, by rw [e1]; simp, by rw [e2]; simp⟩
theorem Rot.at {u v : List Nat} (h : Rot u v) (hne : u ≠ []) : ∃ k, k < u.length ∧ u.drop k ++ u.take k = v := by
  obtain ⟨a, b, rfl, rfl⟩ := h
  cases b with
  | nil =>
    refine ⟨0, List.length_pos_iff.mpr hne, ?_⟩
    simp
  | cons x b => exact ⟨a.length, by simp, by simp⟩
theorem rot_adj {R : List Ru} {u v : List Nat} (h : Rot u v) (hu : Adj R (u ++ u)) : Adj R (v ++ v) := by
  obtain ⟨a, b, rfl, rfl⟩ := h
  have h3 := adj_pw hu 3
  have e : pw (a ++ b) 3 = a ++ ((b ++ a) ++ (b ++ a)) ++ b := by
    rw [pw_succ, pw_succ, pw_succ]
    show [] ++ (a ++ b) ++ (a ++ b) ++ (a ++ b) = _
    simp
  rw [e, List.append_assoc] at h3
  exact adj_l (adj_r h3)
/-- one text carries the one into the other -/
def Cnj (R : List Ru) (sg x y : List Nat) : Prop := ∃ z, (∀ c ∈ z, c ∈ sg) ∧ Eq2 R (x ++ z) (z ++ y)
/-- what a core keeps -/
structure Core (R : List Ru) (sg u : List Nat) : Prop where
  s : ∀ c ∈ u, c ∈ sg
  a : Adj R u
  c : 2 ≤ u.length → Adj R (u ++ u)
section
variable {sh : List (Nat × Nat)} {sg : List Nat} {ar : List Arr} {R : List Ru} (G : GB sh sg ar R)
include G
theorem Rnd.core {t A core : List Nat} (h : Rnd R sg t A core) : Core R sg core := ⟨h.cs, G.two.end_iff.mp h.ce, h.cyc⟩
theorem GB.cnj_symm {x y : List Nat} (h : Cnj R sg x y) : Cnj R sg y x := by
  obtain ⟨z, hz, e⟩ := h
  refine ⟨invS R sg z, G.inv_sub hz, ?_⟩
  have a1 : Eq2 R (invS R sg z ++ (x ++ z) ++ invS R sg z) (invS R sg z ++ (z ++ y) ++ invS R sg z) := G.app (G.app rfl e) rfl
  have a2 : Eq2 R (invS R sg z ++ x ++ (z ++ invS R sg z)) (invS R sg z ++ x) := by
    have := G.app (x := invS R sg z ++ x) rfl (G.inv_r hz)
    rwa [List.append_nil] at this
  have a3 : Eq2 R ((invS R sg z ++ z) ++ (y ++ invS R sg z)) ([] ++ (y ++ invS R sg z)) := G.app (G.inv_l hz) rfl
  simp only [List.append_assoc, List.cons_append, List.nil_append] at a1 a2 a3 ⊢
  exact a3.symm.trans (a1.symm.trans a2)
theorem GB.cnj_trans {x y w : List Nat} (h : Cnj R sg x y) (k : Cnj R sg y w) : Cnj R sg x w := by
  obtain ⟨z, hz, e⟩ := h
  obtain ⟨z2, hz2, e2⟩ := k
  refine ⟨z ++ z2, fun c hc => (List.mem_append.mp hc).elim (hz c) (hz2 c), ?_⟩
  have a1 := G.app e (y := z2) rfl
  have a2 := G.app (x := z) rfl e2
  simp only [List.append_assoc] at a1 a2 ⊢
  exact a1.trans a2
theorem GB.cnj_rnd {t A core : List Nat} (h : Rnd R sg t A core) : Cnj R sg t core := by
  refine ⟨A, h.as, ?_⟩
  have a1 := G.app h.eq (y := A) rfl
  have a2 : Eq2 R ((A ++ core) ++ (invS R sg A ++ A)) (A ++ core) := by
    have := G.app (x := A ++ core) rfl (G.inv_l h.as)
    rwa [List.append_nil] at this
  simp only [List.append_assoc] at a1 a2 ⊢
  exact a1.trans a2
theorem GB.cnj_eq {x y : List Nat} (h : Eq2 R x y) : Cnj R sg x y := ⟨[], by simp, by simpa using h⟩
theorem GB.cnj_ord {x y : List Nat} (h : Cnj R sg x y) : ordW R x = ordW R y := by
  obtain ⟨z, hz, e⟩ := h
  refine G.ord_conj hz ?_
  have a1 := G.app e (y := invS R sg z) rfl
  have a2 : Eq2 R (x ++ (z ++ invS R sg z)) x := by
    have := G.app (x := x) rfl (G.inv_r hz)
    rwa [List.append_nil] at this
  simp only [List.append_assoc] at a1 a2 ⊢
  exact a2.symm.trans a1
theorem GB.cnj_turn {x b : List Nat} (hb : ∀ c ∈ b, c ∈ sg) : Cnj R sg x (invS R sg b ++ x ++ b) := by
  refine ⟨b, hb, ?_⟩
  have a1 : Eq2 R ((b ++ invS R sg b) ++ (x ++ b)) ([] ++ (x ++ b)) := G.app (G.inv_r hb) rfl
  simp only [List.append_assoc, List.nil_append] at a1 ⊢
  exact a1.symm
omit G in
theorem cnj_rot {a b : List Nat} (ha : ∀ c ∈ a, c ∈ sg) : Cnj R sg (a ++ b) (b ++ a) := ⟨a, ha, by rw [List.append_assoc]; rfl⟩
/-- a carrier that is an end -/
theorem GB.cnj_end {x y : List Nat} (h : Cnj R sg x y) : ∃ z, (∀ c ∈ z, c ∈ sg) ∧ Adj R z ∧ Eq2 R (x ++ z) (z ++ y) := by
  obtain ⟨z, hz, e⟩ := h
  refine ⟨left R z, G.left_sub hz, G.two.end_iff.mp (Bk.left_end G.ok.wf z), ?_⟩
  exact (G.app rfl (G.lf z)).trans (e.trans (G.app (G.lf z).symm rfl))
theorem GB.rot_cnj : ∀ (z u v : List Nat), (∀ c ∈ u, c ∈ sg) → (∀ c ∈ v, c ∈ sg) → (∀ c ∈ z, c ∈ sg) → Adj R (u ++ u) → Adj R (v ++ v) → u ≠ [] → Adj R z → Eq2 R (u ++ z) (z ++ v) → Rot u v
  | [], u, v, hu, hv, _, cu, cv, _, _, e => by
    rw [List.append_nil, List.nil_append] at e
    rw [G.eq_adj (adj_l cu) (adj_l cv) e]
    exact Rot.refl v
  | c :: z, u, v, hu, hv, hz, cu, cv, hne, az, e => by
    have hz' : ∀ d ∈ z, d ∈ sg := fun d hd => hz d (List.mem_cons_of_mem _ hd)
    have az' : Adj R z := adj_r (s := [c]) az
    rcases G.conj_step hu hv hz cu cv hne az e with ⟨u', l, rfl, _, e2⟩ | ⟨u', rfl, e2⟩
    · have hr : Rot (u' ++ [l]) ([l] ++ u') := ⟨u', [l], rfl, rfl⟩
      exact hr.trans (GB.rot_cnj z _ v (fun d hd => hu d (by simp at hd ⊢; exact hd.symm)) hv hz' (rot_adj hr cu) cv (by simp) az' e2)
    · have hr : Rot (c :: u') (u' ++ [c]) := ⟨[c], u', rfl, rfl⟩
      exact hr.trans (GB.rot_cnj z _ v (fun d hd => hu d (by simp at hd ⊢; exact hd.symm)) hv hz' (rot_adj hr cu) cv (by simp) az' e2)
theorem GB.loop_irr {z : List Nat} {y e : Nat} (hz : ∀ c ∈ y :: z, c ∈ sg) (he : e ∈ sg) (az : Adj R (y :: z)) (h1 : srcS sg ar y ≠ tgtS sg ar e) (h2 : srcS sg ar y ≠ srcS sg ar e) {h : Nat} (k : Eq2 R (invS R sg (y :: z) ++ ([e] ++ (y :: z))) [h]) : False := by
  have hy := hz y List.mem_cons_self
  have a1 : Adj R ([e] ++ (y :: z)) := ⟨(G.nadj he hy).mpr fun q => h1 q.symm, az⟩
  have a2 : Adj R (invS R sg (y :: z) ++ ([e] ++ (y :: z))) := by
    refine adj_app (G.inv_adj hz az) a1 fun a b ha hb => ?_
    rw [invS_cons, List.getLast?_append] at ha
    have ha : uS R sg y = a := by simpa using ha
    have hb : e = b := by simpa using hb
    subst ha hb
    rw [G.nadj (G.uS_spec hy).1 he, G.tgtU hy]
    exact h2
  have := congrArg List.length (G.eq_adj a2 (show Adj R [h] from trivial) k)
  simp only [List.length_append, List.length_cons, List.length_nil] at this
  omega
theorem GB.loop_cnj : ∀ (z : List Nat) (g h : Nat), g ∈ sg → srcS sg ar g = tgtS sg ar g → (∀ c ∈ z, c ∈ sg) → Adj R z → Eq2 R ([g] ++ z) (z ++ [h]) → ∃ s, (s = [] ∨ ∃ c ∈ sg, s = [c]) ∧ Eq2 R ([g] ++ s) (s ++ [h])
  | [], g, h, _, _, _, _, e => ⟨[], .inl rfl, e⟩
  | [c], g, h, _, _, hz, _, e => ⟨[c], .inr ⟨c, hz c List.mem_cons_self, rfl⟩, e⟩
  | c :: y :: z, g, h, hg, hl, hz, az, e => by
    have hc := hz c List.mem_cons_self
    have hz' : ∀ d ∈ y :: z, d ∈ sg := fun d hd => hz d (List.mem_cons_of_mem _ hd)
    have hy := hz' y List.mem_cons_self
    have hcy : tgtS sg ar c ≠ srcS sg ar y := (G.nadj hc hy).mp az.1
    have hgu := (G.uS_spec hg)
    -- the turned sign
    have e1 : Eq2 R (invS R sg (c :: y :: z) ++ ([g] ++ (c :: y :: z))) [h] := by
      have a1 := G.app (x := invS R sg (c :: y :: z)) rfl e
      refine a1.trans ?_
      have a2 := G.app (G.inv_l hz) (y := [h]) rfl
      rw [List.append_assoc] at a2
      exact a2
    by_cases h1 : srcS sg ar c = tgtS sg ar g
    · by_cases h2 : c = uS R sg g
      · -- it turns nothing
        have a1 : Eq2 R ([] ++ ([g] ++ [uS R sg g]) ++ (y :: z)) ([] ++ (y :: z)) := G.mid (G.eqR hgu.2.1)
        have a2 := e
        rw [h2] at a2
        have a3 : Eq2 R (y :: z) ([uS R sg g] ++ ((y :: z) ++ [h])) := a1.symm.trans a2
        have a4 : Eq2 R ([g] ++ (y :: z)) ([g] ++ ([uS R sg g] ++ ((y :: z) ++ [h]))) := G.app rfl a3
        have a5 : Eq2 R ([] ++ ([g] ++ [uS R sg g]) ++ ((y :: z) ++ [h])) ([] ++ ((y :: z) ++ [h])) := G.mid (G.eqR hgu.2.1)
        exact GB.loop_cnj (y :: z) g h hg hl hz' az.2 (a4.trans a5)
      · exfalso
        obtain ⟨d, hd, ed, sd, td⟩ := G.prod hg hc h1.symm h2
        have huc := (G.uS_spec hc).1
        obtain ⟨f, hf, ef, sf, tf⟩ := G.prod huc hd (by rw [G.tgtU hc, sd, h1, hl]) (by
          rw [G.uu hc]
          intro q
          subst q
          have a1 : Eq2 R ([g] ++ [d] ++ [uS R sg d]) ([d] ++ [uS R sg d]) := G.app ed rfl
          have a2 : Eq2 R ([g] ++ ([d] ++ [uS R sg d])) [g] := by
            have := G.app (x := [g]) rfl (G.eqR (G.uS_spec hd).2.1)
            rwa [List.append_nil] at this
          have a3 : Eq2 R ([d] ++ [uS R sg d]) [] := G.eqR (G.uS_spec hd).2.1
          have a4 : Eq2 R [g] [] := a2.symm.trans (a1.trans a3)
          unfold Eq2 at a4
          rw [G.one] at a4
          cases a4)
        have e2 : Eq2 R (invS R sg (y :: z) ++ ([f] ++ (y :: z))) [h] := by
          refine Eq.trans ?_ e1
          have a1 : Eq2 R ([uS R sg c] ++ ([g] ++ [c])) [f] := (G.app (x := [uS R sg c]) rfl ed).trans ef
          have a2 := G.app (G.app (x := invS R sg (y :: z)) rfl a1.symm) (y := y :: z) rfl
          rw [show invS R sg (c :: y :: z) = invS R sg (y :: z) ++ [uS R sg c] from invS_cons _ _ _ _]
          simp only [List.append_assoc, List.cons_append, List.nil_append] at a2 ⊢
          exact a2
        refine G.loop_irr hz' hf az.2 (fun q => hcy ?_) (fun q => hcy ?_) e2
        · rw [q, tf, td]
        · rw [q, sf, G.srcU hc]
    · exfalso
      exact G.loop_irr hz hg az h1 (by rw [hl]; exact h1) e1
/-- cores that are carried into one another -/
theorem GB.core_cnj {u v : List Nat} (cu : Core R sg u) (cv : Core R sg v) (h : Cnj R sg u v) : u.length = v.length ∧ (loopB sg ar u = true → ∃ s, (s = [] ∨ ∃ c ∈ sg, s = [c]) ∧ Eq2 R (u ++ s) (s ++ v)) ∧ (loopB sg ar u = false → Rot u v) := by
  have ho := G.cnj_ord h
  have key : ∀ {u : List Nat}, Core R sg u → u ≠ [] → loopB sg ar u = false → Adj R (u ++ u) := fun {u} cu hne hl => by
    match u, hne with
    | [c], _ =>
      have h1 : ¬ srcS sg ar c = tgtS sg ar c := of_decide_eq_false hl
      have hc := cu.s c List.mem_cons_self
      exact ⟨(G.nadj hc hc).mpr fun q => h1 q.symm, trivial⟩
    | a :: b :: t, _ => exact cu.c (by simp)
  have lp : ∀ {u : List Nat}, loopB sg ar u = true → ∃ c, u = [c] ∧ srcS sg ar c = tgtS sg ar c := fun {u} hl => by
    match u, hl with
    | [c], hl => exact ⟨c, rfl, of_decide_eq_true hl⟩
  by_cases hun : u = []
  · subst hun
    obtain ⟨z, hz, e⟩ := h
    rw [List.nil_append] at e
    have e2 : Eq2 R v [] := by
      have a1 := G.app (x := invS R sg z) rfl e
      have a2 := G.app (G.inv_l hz) (y := v) rfl
      rw [List.append_assoc] at a2
      exact a2.symm.trans (a1.symm.trans (G.inv_l hz))
    have : v = [] := G.eq_adj cv.a (show Adj R [] from trivial) e2
    subst this
    exact ⟨rfl, fun q => (by cases q), fun _ => Rot.refl _⟩
  · cases hlu : loopB sg ar u with
    | true =>
      obtain ⟨g, rfl, hg⟩ := lp hlu
      have hgs := cu.s g List.mem_cons_self
      obtain ⟨N, h2, _, _, _, hN⟩ := G.loop_ord hgs hg
      cases hlv : loopB sg ar v with
      | true =>
        obtain ⟨q, rfl, hq⟩ := lp hlv
        obtain ⟨z, hz, az, e⟩ := G.cnj_end h
        exact ⟨rfl, fun _ => G.loop_cnj z g q hgs hg hz az e, fun k => (by cases k)⟩
      | false =>
        exfalso
        by_cases hvn : v = []
        · subst hvn
          rw [hN, G.ord_nil] at ho
          have := Option.some.inj ho
          omega
        · rw [hN, G.ord_none hvn (key cv hvn hlv)] at ho
          cases ho
    | false =>
      have hu := key cu hun hlu
      have hou := G.ord_none hun hu
      by_cases hvn : v = []
      · subst hvn
        rw [hou, G.ord_nil] at ho
        cases ho
      · cases hlv : loopB sg ar v with
        | true =>
          obtain ⟨q, rfl, hq⟩ := lp hlv
          obtain ⟨N, _, _, _, _, hN⟩ := G.loop_ord (cv.s q List.mem_cons_self) hq
          rw [hou, hN] at ho
          cases ho
        | false =>
          obtain ⟨z, hz, az, e⟩ := G.cnj_end h
          have hr := G.rot_cnj z u v cu.s cv.s hz hu (key cv hvn hlv) hun az e
          refine ⟨?_, fun k => (by cases k), fun _ => hr⟩
          obtain ⟨a, b, rfl, rfl⟩ := hr
          simp [Nat.add_comm]
end
end Sh
set_option Elab.async false
set_option linter.all false
set_option maxRecDepth 100000
set_option maxHeartbeats 4000000
namespace Sh
open PySem PySem.Spec PyProof.Rows L2
open SX (S S_inj S_len S_cat)
open Bk (Rule left Wf Meets Reach Step IsEnd)
local macro_rules | `(tactic| walk_at "nx") => `(tactic| repeat (with_reducible first | refine Sh.gn_mk ?_ | refine Sh.nx_mk ?_ | refine Sh.st_nx ?_ | refine Sh.rt_mk ?_ | refine Sh.ct_mk ?_ | refine Sh.bk_mk ?_))
local macro_rules | `(tactic| walk_at "sq") => `(tactic| first | exact SqL.of upd_same | exact SqT.of upd_same | exact SqL.of (by assumption) | exact SqT.of (by assumption) | assumption | exact Or.inl (SqL.of (by assumption)) | exact Or.inr (SqT.of (by assumption)) | exact Or.inl (by assumption) | exact Or.inr (by assumption))
local macro_rules | `(tactic| walk_at "hp") => `(tactic| first | exact upd_same | assumption)
local macro_rules | `(tactic| walk_at "sz") => `(tactic| first | exact Nat.le_of_ble_eq_true rfl | omega)
local macro_rules | `(tactic| walk_at "sd") => `(tactic| first | omega | exact rfl | assumption | (show (0 : Int) < _; omega) | exact And.intro (by omega) (by omega) | exact Or.inl (And.intro (by omega) (by omega)) | exact Or.inr (And.intro (by omega) (by omega)) | omega | exact Sh.sz_S (by omega) | decide)
local macro_rules | `(tactic| walk_at "rd1") => `(tactic| first
  | (with_reducible first | refine Sh.gn_mk ?_ | refine Sh.nx_mk ?_ | refine Sh.st_nx ?_ | refine Sh.rt_mk ?_ | refine Sh.ct_mk ?_ | refine Sh.bk_mk ?_)
  | refine Exists.intro (α := V) _ (And.intro rfl ?_)
  | refine Exists.intro (α := Bool) _ (And.intro rfl ?_)
  | refine Exists.intro (α := Int) _ (And.intro rfl ?_)
  | refine Exists.intro (α := PySem.Str) _ (And.intro rfl ?_)
  | refine Exists.intro (α := Int) _ (Exists.intro (α := Int) _ (And.intro rfl (And.intro rfl ?_)))
  | refine Exists.intro (α := PySem.Str) _ (Exists.intro (α := PySem.Str) _ (And.intro rfl (And.intro rfl ?_)))
  | refine Exists.intro (α := Int) _ (Exists.intro (α := Int) _ (And.intro rfl ?_))
  | refine Or.inl (Exists.intro (α := Int) _ (And.intro rfl ?_))
  | refine Exists.intro _ (Exists.intro _ (Exists.intro _ (Exists.intro _ (And.intro rfl (And.intro rfl (And.intro (by walk_at "sq") (And.intro rfl ?_)))))))
  | refine Exists.intro _ (Exists.intro _ (Exists.intro _ (Exists.intro _ (And.intro rfl (And.intro rfl (And.intro (by walk_at "hp") (And.intro rfl ?_)))))))
  | refine And.intro (by walk_at "sd") ?_
  )
local macro_rules | `(tactic| walk_at "rd") => `(tactic| repeat walk_at "rd1")
local macro_rules | `(tactic| walk_at "lk") => `(tactic| first | exact rfl | (rw [lookup_putF, if_pos rfl]) | (rw [lookup_putF, if_neg (by decide +kernel)]; walk_at "lk"))

/-- what is no text over the signs -/
def BadV (K : PySem.W.Frag) (sg : List Nat) (v : V) : Prop := (∃ t : List Nat, v = .str (S t) ∧ t.length ≤ 1000 ∧ isText sg t 0 200 = false) ∨ ∀ H, NotStr K H v
section
variable {P : Program} {w : World} {K : PySem.W.Frag} {mg : Str → Option Value} {base : Heap} {CB XT FT DT : Addr}
def spTextY (K : PySem.W.Frag) (XT : Addr) : Sp := fun vs H Q E => ∃ (sg : List Nat) (v : V), vs = [.str (S sg), v] ∧ ((∃ t : List Nat, v = .str (S t) ∧ t.length ≤ 1000 ∧ isText sg t 0 200 = true ∧ Q .non H) ∨ (BadV K sg v ∧ Thrown E H XT "thing" v))
theorem c_X_check_text (T : TxtX P K mg CB XT FT DT) : Cal P w K mg base (L2.CX P w) 3 "check_text" (spTextY K XT) := by
  have x_WrongThing := x_WrongThing (P := P) (w := w) (base := base) T
  have c_is_text := c_is_text (P := P) (w := w) (base := base) T.toTxtC.toTxt
  refine Cal.mkX T.toTxtC.toTxt.d_check_text sc_check_text (fun vs H Q E h => ?_) (fun f cdv A outer s H vs Q E hr h => ?_)
  · obtain ⟨sg, v, rfl, _⟩ := h
    rfl
  · obtain ⟨sg, v, rfl, h⟩ := h
    rcases h with ⟨t, rfl, hl, e, k⟩ | ⟨⟨t, rfl, hl, e⟩ | hn, k⟩
    · refine ⟨_, (pss_one (ps_if (pt_not (pt_truth (pe_c c_is_text hr (by decide) rfl (pa_cons (pv 0) (pa_cons (pv 1) (pa_cons pe_int (pa_cons (pe_gK rfl T.g_LONGEST_TEXT) pa_nil))))) (by intro _; rfl)))
    (pss_one (ps_raiseX T.e_BadText x_WrongThing hr (by decide) rfl (takes_of rfl rfl rfl rfl) rfl (pa_cons (pv 1) pa_nil)))
    pss_nil)), ?_⟩
      walk_at "rd"
      refine .inl ⟨sg, t, 0, 200, rfl, by omega, ?_⟩
      rw [e]
      walk_at "rd"
      refine iteF ?_
      walk_at "rd"
      exact k
    · refine ⟨_, (pss_one (ps_if (pt_not (pt_truth (pe_c c_is_text hr (by decide) rfl (pa_cons (pv 0) (pa_cons (pv 1) (pa_cons pe_int (pa_cons (pe_gK rfl T.g_LONGEST_TEXT) pa_nil))))) (by intro _; rfl)))
    (pss_one (ps_raiseX T.e_BadText x_WrongThing hr (by decide) rfl (takes_of rfl rfl rfl rfl) rfl (pa_cons (pv 1) pa_nil)))
    pss_nil)), ?_⟩
      walk_at "rd"
      refine .inl ⟨sg, t, 0, 200, rfl, by omega, ?_⟩
      rw [e]
      walk_at "rd"
      exact mk1 T.e_BadText T.nf_BadText_thing trivial k
    · refine ⟨_, (pss_one (ps_if (pt_not (pt_truth (pe_c c_is_text hr (by decide) rfl (pa_cons (pv 0) (pa_cons (pv 1) (pa_cons pe_int (pa_cons (pe_gK rfl T.g_LONGEST_TEXT) pa_nil))))) (by intro _; rfl)))
    (pss_one (ps_raiseX T.e_BadText x_WrongThing hr (by decide) rfl (takes_of rfl rfl rfl rfl) rfl (pa_cons (pv 1) pa_nil)))
    pss_nil)), ?_⟩
      walk_at "rd"
      refine .inr ⟨_, _, _, _, rfl, hn _, ?_⟩
      walk_at "rd"
      exact mk1 T.e_BadText T.nf_BadText_thing trivial k
end
/-- what core_carrier tells -/
def Carr (R : List Ru) (sg one other : List Nat) (m : Option (List Nat)) : Prop := (∀ s, m = some s → (∀ c ∈ s, c ∈ sg) ∧ s.length ≤ one.length + 1 ∧ Eq2 R (one ++ s) (s ++ other)) ∧ (m = none → ¬ Cnj R sg one other)
section
variable {P : Program} {w : World} {K : PySem.W.Frag} {mg : Str → Option Value} {base : Heap} {CB CE : Addr}
def spCarrier (K : PySem.W.Frag) (C : Addr) : Sp := fun vs H Q _ => ∃ (p d : Addr) (sh : List (Nat × Nat)) (sg : List Nat) (ar : List Arr) (R : List Ru) (one other : List Nat) (kvs : List (Key × V)), vs = [.ref p, .ref d, .str (S one), .str (S other)] ∧ BookAt K C H p sg R ∧ GB sh sg ar R ∧ H d = some (.dK kvs) ∧ PdAt H kvs sg (gS sg ar) ∧ Core R sg one ∧ Core R sg other ∧ one.length ≤ 60 ∧ other.length ≤ 60 ∧
  ∀ (m : Option (List Nat)) (H' : Hp), Carr R sg one other m → Same H H' → Q (optS m) H'
theorem c_core_carrier (T : TxtC K mg CB) : Cal P w K mg base CX0 4 "core_carrier" (spCarrier K CB) := by
  have c_is_loop := c_is_loop (P := P) (w := w) (base := base) T.toTxt
  have c_rest_of := c_rest_of (P := P) (w := w) (base := base) T
  refine Cal.mk0 T.d_core_carrier sc_core_carrier (fun vs H Q E h => ?_) (fun f cdv A outer s H vs Q E hr h => ?_)
  · obtain ⟨p, d, sh, sg, ar, R, one, other, kvs, rfl, _⟩ := h
    rfl
  · obtain ⟨p, d, sh, sg, ar, R, one, other, kvs, rfl, B, G, hd, pd, co, ct, hl1, hl2, k⟩ := h
    have hu := hu_of hr
    obtain ⟨dx, fs, a, xs, pl, hp, g1, g2, hR, _⟩ := id B
    have cl := T.k_Book.cl
    have hlim : (1000 : Nat) ≤ sizeLine := by decide
    refine ⟨_, (pss_cons (ps_if (pt_cmpR op_ne (pe_callB call_len_str (by rfl) T.b_len (by decide +kernel) (pa_cons (pv 2) pa_nil)) (pe_callB call_len_str (by rfl) T.b_len (by decide +kernel) (pa_cons (pv 3) pa_nil)) (nomark _))
    (pss_one (ps_ret pe_non))
    pss_nil)
  (pss_cons (ps_if (pt_val (pe_c c_is_loop hr (by decide) rfl (pa_cons (pv 1) (pa_cons (pv 2) pa_nil))))
    (pss_cons (ps_for PassesOwn.never rfl (pi_list (pe_op op_cat (pe_lst (pa_cons pe_str pa_nil)) (pe_lc (own := [("letter", 6)]) (g := gName 6) (tt := tYes) rfl sc_core_carrier.nd (pi_str (pe_fld (pv 0) rfl)) (blkOk_by (N := ["book", "found", "one", "other", "sign", "k", "letter"]) (sc := defScope s_core_carrier) (by decide +kernel)) (fun _ _ _ _ _ => (pg_name (i := 6) sc_core_carrier.nd rfl (Or.inl rfl))) (fun _ _ _ _ _ => pts_nil) (fun _ _ _ _ _ => (pv 6))))) (pg_name (i := 4) sc_core_carrier.nd rfl (Or.inl rfl))
      (pss_one (ps_if (pt_cmpR op_eq (pe_c c_rest_of hr (by decide) rfl (pa_cons (pv 0) (pa_cons (pe_op op_add_str (pv 2) (pv 4)) pa_nil))) (pe_c c_rest_of hr (by decide) rfl (pa_cons (pv 0) (pa_cons (pe_op op_add_str (pv 4) (pv 3)) pa_nil))) (nomark _))
        (pss_one (ps_ret (pv 4)))
        pss_nil)))
    (pss_one (ps_ret pe_non)))
    pss_nil)
  (pss_cons (ps_for PassesOwn.never rfl (pi_range1 (by rfl) T.b_range (pa_cons (pe_callB (call_max2 rfl) (by rfl) T.b_max (by decide +kernel) (pa_cons pe_int (pa_cons (pe_callB call_len_str (by rfl) T.b_len (by decide +kernel) (pa_cons (pv 2) pa_nil)) pa_nil))) pa_nil)) (pg_name (i := 5) sc_core_carrier.nd rfl (Or.inl rfl))
    (pss_one (ps_if (pt_cmpR op_eq (pe_op op_add_str (pe_slice sl_str (pv 2) (po_some (pv 5)) po_none) (pe_slice sl_str (pv 2) po_none (po_some (pv 5)))) (pv 3) (nomark _))
      (pss_one (ps_ret (pe_slice sl_str (pv 2) po_none (po_some (pv 5)))))
      pss_nil)))
  (pss_one (ps_ret pe_non))))), ?_⟩
    refine if_K (decide (one.length ≠ other.length)) (fun Q' hQ => ?_) (fun hc => ?_) (fun hc => ?_)
    · refine ⟨_, rfl, ?_⟩
      refine tNil_mk ?_
      refine ⟨_, rfl, sz_S (by omega), ?_⟩
      refine ⟨_, rfl, ?_⟩
      refine tNil_mk ?_
      refine ⟨_, rfl, sz_S (by omega), ?_⟩
      refine ⟨rfl, _, rfl, ?_⟩
      rw [S_len, S_len, dec_int, ← decide_not]
      exact hQ
    · have hne := of_decide_eq_true hc
      walk_at "rd"
      exact k none H ⟨fun s z => (by cases z), fun _ z => hne (G.core_cnj co ct z).1⟩ fun _ _ h => h
    · have heq : one.length = other.length := Decidable.byContradiction fun z => of_decide_eq_false hc z
      walk_at "nx"
      refine if_K (loopB sg ar one) (fun Q' hQ => ?_) (fun hc => ?_) (fun hc => ?_)
      · refine ⟨_, rfl, _, rfl, ?_⟩
        refine tNil_mk ?_
        refine ⟨d, sh, sg, ar, R, one, kvs, rfl, G, hd, pd, co.s, by omega, ?_⟩
        exact ⟨_, rfl, hQ⟩
      · refine ⟨by walk_at "sz", fun p5 hp5 => ?_⟩
        have s2 := same_new (o := .lst [.str (Str.ofString "")]) hp5
        have e2 : (upd H p5 (.lst [.str (Str.ofString "")])) p5 = some (.lst [.str (Str.ofString "")]) := upd_same
        generalize upd H p5 (.lst [.str (Str.ofString "")]) = H2 at s2 e2 ⊢
        obtain ⟨hs1, hs8⟩ := signs_len G.ok.1
        refine ⟨_, rfl, p, CB, dx, fs, _, rfl, s2 _ _ hp, cl, T.n_Book_signs, g1, _, rfl, fun D hD => lc_str (l := sg) (fun pre H3 => H3 D = some (.lst (pre.map fun c => V.str (S [c]))) ∧ Same H2 H3) ⟨upd_same, same_new hD⟩ ?_ ?_⟩
        · rintro pre c post H3 e ⟨h3, s3⟩
          have hpl : pre.length + 1 ≤ 8 := by
            have := congrArg List.length e
            simp at this
            omega
          refine ⟨rfl, ty_T ?_⟩
          refine ⟨_, rfl, _, h3, ?_, ?_, same_mut s3 hD⟩
          · rw [List.length_map]
            exact Nat.lt_of_le_of_lt (m := 8) (by omega) (by decide)
          · rw [upd_same, List.map_append]
            rfl
        · rintro H3 ⟨h3, s3⟩
          refine ⟨p5, D, _, _, rfl, rfl, s3 _ _ e2, h3, by rw [List.length_map]; exact Nat.le_trans (m := 9) (by show 1 + sg.length ≤ 9; omega) (by decide), fun p6 hp6 => ?_⟩
          rw [show [V.str (Str.ofString "")] ++ (sg.map fun c => V.str (S [c])) = (([] :: sg.map fun c => [c]) : List (List Nat)).map vS by rw [List.map_cons, List.map_map]; rfl]
          have s4 := same_new (o := .lst ((([] :: sg.map fun c => [c]) : List (List Nat)).map vS)) hp6
          have e4 : (upd H3 p6 (.lst ((([] :: sg.map fun c => [c]) : List (List Nat)).map vS))) p6 = some (.lst ((([] :: sg.map fun c => [c]) : List (List Nat)).map vS)) := upd_same
          generalize upd H3 p6 (.lst ((([] :: sg.map fun c => [c]) : List (List Nat)).map vS)) = H4 at s4 e4 ⊢
          have s04 : Same H H4 := s2.trans (s3.trans s4)
          have hnm : ∀ s : List Nat, s ∈ (([] :: sg.map fun c => [c]) : List (List Nat)) ↔ (s = [] ∨ ∃ c ∈ sg, s = [c]) := fun s => by
            rw [List.mem_cons, List.mem_map]
            constructor
            · rintro (h | ⟨c, hc, rfl⟩)
              · exact .inl h
              · exact .inr ⟨c, hc, rfl⟩
            · rintro (h | ⟨c, hc, rfl⟩)
              · exact .inl h
              · exact .inr ⟨c, hc, rfl⟩
          generalize (([] :: sg.map fun c => [c]) : List (List Nat)) = near at e4 hnm
          refine ⟨p6, rfl, ⟨_, SqL.of e4⟩, ?_⟩
          refine for_lst (K := K) (a := p6) (f := vS) (l := near) (fun pre σ H5 => ∃ v4 v5 v6 : Option V, σ = [some (.ref p), some (.ref d), some (.str (S one)), some (.str (S other)), v4, v5, v6] ∧ Same H4 H5 ∧ ∀ s ∈ pre, ¬ Eq2 R (one ++ s) (s ++ other))
            ⟨_, _, _, rfl, fun _ _ h => h, fun s hs => absurd hs (by simp)⟩ (fun pre σ H5 ⟨_, _, _, _, s5, _⟩ => SqL.of (s5 _ _ e4)) ?_ ?_
          · rintro pre s post σ H5 en ⟨v4, v5, v6, rfl, s5, hno⟩
            have hs := (hnm s).mp (by rw [en]; simp)
            have hsl : s.length ≤ 1 := by
              rcases hs with rfl | ⟨c, _, rfl⟩ <;> simp
            have hsc : ∀ c ∈ s, c ∈ sg := by
              rcases hs with rfl | ⟨c, hc, rfl⟩
              · simp
              · intro x hx
                rw [List.mem_singleton.mp hx]
                exact hc
            have s05 := s04.trans s5
            walk_at "nx"
            refine if_KH (decide (left R (one ++ s) = left R (s ++ other))) (fun H' => Same H5 H') (fun Q' hQ => ?_) (fun hc H6 s6 => ?_) (fun hc H6 s6 => ?_)
            · refine ⟨_, rfl, _, rfl, _, rfl, S one, S s, rfl, rfl, by rw [S_len, S_len]; exact Nat.le_trans (m := 1000) (by omega) hlim, ?_⟩
              rw [S_cat]
              refine tNil_mk ?_
              refine ⟨p, sg, one ++ s, R, rfl, B.same s05, G.ok.wf, by rw [List.length_append]; omega, fun H6 s6 => ?_⟩
              refine ⟨_, rfl, _, rfl, _, rfl, S s, S other, rfl, rfl, by rw [S_len, S_len]; exact Nat.le_trans (m := 1000) (by omega) hlim, ?_⟩
              rw [S_cat]
              refine tNil_mk ?_
              refine ⟨p, sg, s ++ other, R, rfl, B.same (s05.trans s6), G.ok.wf, by rw [List.length_append]; omega, fun H7 s7 => ?_⟩
              refine ⟨rfl, _, rfl, ?_⟩
              rw [show decide (V.str (S (left R (one ++ s))) = V.str (S (left R (s ++ other)))) = decide (left R (one ++ s) = left R (s ++ other)) from decide_eq_decide.mpr ⟨fun z => S_inj (V.str.inj z), fun z => by rw [z]⟩]
              exact hQ _ (s6.trans s7)
            · have hE := of_decide_eq_true hc
              walk_at "rd"
              exact k (some s) H6 ⟨fun z hz => by cases hz; exact ⟨hsc, by omega, hE⟩, fun z => (by cases z)⟩ (s05.trans s6)
            · have hE := of_decide_eq_false hc
              walk_at "nx"
              refine ⟨_, _, _, rfl, s5.trans s6, fun z hz => ?_⟩
              rcases List.mem_append.mp hz with q | q
              · exact hno z q
              · rw [List.mem_singleton.mp q]
                exact hE
          · rintro σ H5 ⟨v4, v5, v6, rfl, s5, hno⟩
            walk_at "rd"
            refine k none H5 ⟨fun s z => (by cases z), fun _ z => ?_⟩ (s04.trans s5)
            obtain ⟨s, h1, h2⟩ := (G.core_cnj co ct z).2.1 hc
            exact hno s ((hnm s).mpr h1) h2
      · walk_at "nx"
        refine ⟨_, rfl, ?_⟩
        refine tNil_mk ?_
        refine ⟨_, rfl, sz_S (by omega), ?_⟩
        refine tNil_mk ?_
        refine ⟨_, _, rfl, ?_⟩
        refine tNil_mk ?_
        rw [S_len, show (if ((one.length : Nat) : Int) > 1 then ((one.length : Nat) : Int) else 1) = ((max 1 one.length : Nat) : Int) by split <;> omega]
        refine ⟨_, rfl, (rng_ok (n := max 1 one.length) (by omega)).1, (rng_ok (n := max 1 one.length) (by omega)).2, ?_⟩
        refine for_range (lo := 0) (n := ((max 1 one.length : Nat) : Int).toNat) (fun i σ H5 => ∃ v4 v5 v6 : Option V, σ = [some (.ref p), some (.ref d), some (.str (S one)), some (.str (S other)), v4, v5, v6] ∧ Same H H5 ∧ ∀ j < i, one.drop j ++ one.take j ≠ other)
          ⟨_, _, _, rfl, fun _ _ h => h, fun j hj => absurd hj (by omega)⟩ ?_ ?_
        · rintro i σ H5 hi ⟨v4, v5, v6, rfl, s5, hno⟩
          rw [Int.zero_add]
          have hto : ((i : Nat) : Int).toNat = i := by omega
          walk_at "nx"
          refine if_K (decide (one.drop i ++ one.take i = other)) (fun Q' hQ => ?_) (fun hc => ?_) (fun hc => ?_)
          · refine ⟨_, rfl, _, rfl, _, rfl, S one, rfl, sz_S (by omega), ?_⟩
            rw [cut_from (by omega), hto]
            refine ⟨_, rfl, _, rfl, _, rfl, S one, rfl, sz_S (by omega), ?_⟩
            rw [cut_to (by omega), hto]
            refine ⟨S (one.drop i), S (one.take i), rfl, rfl, by rw [S_len, S_len]; exact Nat.le_trans (m := 1000) (by rw [List.length_drop, List.length_take]; omega) hlim, ?_⟩
            rw [S_cat]
            refine ⟨_, rfl, rfl, _, rfl, ?_⟩
            rw [show decide (V.str (S (one.drop i ++ one.take i)) = V.str (S other)) = decide (one.drop i ++ one.take i = other) from decide_eq_decide.mpr ⟨fun z => S_inj (V.str.inj z), fun z => by rw [z]⟩]
            exact hQ
          · have hE := of_decide_eq_true hc
            walk_at "nx"
            refine ⟨_, rfl, _, rfl, _, rfl, S one, rfl, sz_S (by omega), ?_⟩
            rw [cut_to (by omega), hto]
            have hEq : Eq2 R (one ++ one.take i) (one.take i ++ other) := by
              rw [← hE, ← List.append_assoc, List.take_append_drop]
              rfl
            exact k (some (one.take i)) H5 ⟨fun z hz => by cases hz; exact ⟨fun c hc => co.s c (List.mem_of_mem_take hc), by rw [List.length_take]; omega, hEq⟩, fun z => (by cases z)⟩ s5
          · have hE := of_decide_eq_false hc
            walk_at "nx"
            refine ⟨_, _, _, rfl, s5, fun j hj => ?_⟩
            by_cases ej : j = i
            · rw [ej]; exact hE
            · exact hno j (by omega)
        · rintro σ H5 ⟨v4, v5, v6, rfl, s5, hno⟩
          walk_at "rd"
          refine k none H5 ⟨fun s z => (by cases z), fun _ z => ?_⟩ s5
          have hr := (G.core_cnj co ct z).2.2 hc
          by_cases hn : one = []
          · subst hn
            obtain ⟨a, b, e1, e2⟩ := hr
            have h1 : a = [] ∧ b = [] := by
              have := congrArg List.length e1
              simp at this
              exact ⟨List.eq_nil_of_length_eq_zero (by omega), List.eq_nil_of_length_eq_zero (by omega)⟩
            exact hno 0 (by simp) (by rw [e2, h1.1, h1.2]; rfl)
          · obtain ⟨j, hj, e⟩ := hr.at hn
            exact hno j (by omega) e
theorem GB.carry {sh : List (Nat × Nat)} {sg : List Nat} {ar : List Arr} {R : List Ru} (G : GB sh sg ar R) {t t2 A1 A2 c1 c2 s : List Nat} (h1 : Rnd R sg t A1 c1) (h2 : Rnd R sg t2 A2 c2) (h : Eq2 R (c1 ++ s) (s ++ c2)) : Eq2 R (t ++ (A1 ++ s ++ invS R sg A2)) ((A1 ++ s ++ invS R sg A2) ++ t2) := by
  have a1 := G.app h1.eq (y := A1 ++ s ++ invS R sg A2) rfl
  have a2 : Eq2 R ((A1 ++ c1) ++ (invS R sg A1 ++ A1) ++ (s ++ invS R sg A2)) ((A1 ++ c1) ++ (s ++ invS R sg A2)) := G.mid (G.inv_l h1.as)
  have a3 : Eq2 R (A1 ++ (c1 ++ s) ++ invS R sg A2) (A1 ++ (s ++ c2) ++ invS R sg A2) := G.app (G.app rfl h) rfl
  have b1 := G.app (x := A1 ++ s ++ invS R sg A2) rfl h2.eq
  have b2 : Eq2 R ((A1 ++ s) ++ (invS R sg A2 ++ A2) ++ (c2 ++ invS R sg A2)) ((A1 ++ s) ++ (c2 ++ invS R sg A2)) := G.mid (G.inv_l h2.as)
  simp only [List.append_assoc] at a1 a2 a3 b1 b2 ⊢
  exact a1.trans (a2.trans (a3.trans (b2.symm.trans b1.symm)))
/-- what carried tells -/
structure CarT (R : List Ru) (sg one other : List Nat) (m : Option (List Nat)) : Prop where
  som : ∀ s, m = some s → (∀ c ∈ s, c ∈ sg) ∧ IsEnd R s ∧ s.length ≤ 200 ∧ Eq2 R (one ++ s) (s ++ other)
  non : m = none → ¬ Cnj R sg one other
end
section
variable {P : Program} {w : World} {K : PySem.W.Frag} {mg : Str → Option Value} {base : Heap} {CB XT FT DT : Addr}
def spCarried (K : PySem.W.Frag) (C XT : Addr) : Sp := fun vs H Q E => ∃ (p : Addr) (sh : List (Nat × Nat)) (sg : List Nat) (ar : List Arr) (R : List Ru) (u v : V), vs = [.ref p, u, v] ∧ BookAt K C H p sg R ∧ GB sh sg ar R ∧
  ((BadV K sg u ∧ ∀ (H' : Hp), Same H H' → Thrown E H' XT "thing" u) ∨ ∃ t : List Nat, u = .str (S t) ∧ (∀ c ∈ t, c ∈ sg) ∧ t.length ≤ 60 ∧
    ((BadV K sg v ∧ ∀ (H' : Hp), Same H H' → Thrown E H' XT "thing" v) ∨ ∃ t2 : List Nat, v = .str (S t2) ∧ (∀ c ∈ t2, c ∈ sg) ∧ t2.length ≤ 60 ∧
      ∀ (m : Option (List Nat)) (H' : Hp), CarT R sg t t2 m → Same H H' → Q (optS m) H'))
theorem text_all {sg t : List Nat} (h : ∀ c ∈ t, c ∈ sg) (hl : t.length ≤ 200) : isText sg t 0 200 = true := by
  simp only [isText, Bool.and_eq_true, decide_eq_true_eq, List.all_eq_true]
  exact ⟨⟨by omega, by omega⟩, fun c hc => h c hc⟩
theorem c_X_carried (T : TxtX P K mg CB XT FT DT) : Cal P w K mg base (L2.CX P w) 6 "carried" (spCarried K CB XT) := by
  have c_undo_dict := c_undo_dict (P := P) (w := w) (base := base) T.toTxtC
  have c_X_check_text := c_X_check_text (P := P) (w := w) (base := base) T
  have c_round_form := c_round_form (P := P) (w := w) (base := base) T.toTxtC
  have c_core_carrier := c_core_carrier (P := P) (w := w) (base := base) T.toTxtC
  have c_rest_of := c_rest_of (P := P) (w := w) (base := base) T.toTxtC
  have c_places_dict := c_places_dict (P := P) (w := w) (base := base) T.toTxtC
  have c_undone_text := c_undone_text (P := P) (w := w) (base := base) T.toTxtC.toTxt
  refine Cal.mkX T.toTxtC.toTxt.d_carried sc_carried (fun vs H Q E h => ?_) (fun f cdv A outer s H vs Q E hr h => ?_)
  · obtain ⟨p, sh, sg, ar, R, u, v, rfl, _⟩ := h
    rfl
  · obtain ⟨p, sh, sg, ar, R, u, v, rfl, B, G, h⟩ := h
    have hu := hu_of hr
    obtain ⟨dx, fs, a, xs, pl, hp, g1, g2, hR, _⟩ := id B
    have cl := T.k_Book.cl
    have hlim : (1000 : Nat) ≤ sizeLine := by decide
    refine ⟨_, (pss_cons (ps_set (i := 3) sc_carried.nd rfl (Or.inl rfl) (pe_c c_undo_dict hr (by decide) rfl (pa_cons (pv 0) pa_nil)))
  (pss_cons (ps_expr (pe_cX c_X_check_text hr (by decide) (takes_of rfl rfl rfl rfl) rfl (pa_cons (pe_fld (pv 0) rfl) (pa_cons (pv 1) pa_nil))))
  (pss_cons (ps_expr (pe_cX c_X_check_text hr (by decide) (takes_of rfl rfl rfl rfl) rfl (pa_cons (pe_fld (pv 0) rfl) (pa_cons (pv 2) pa_nil))))
  (pss_cons (ps_asg (pe_c c_round_form hr (by decide) rfl (pa_cons (pv 0) (pa_cons (pv 3) (pa_cons (pv 1) pa_nil)))) (pg_tup (by rfl) (pgs_cons (pg_name (i := 4) sc_carried.nd rfl (Or.inl rfl)) (pgs_cons (pg_name (i := 5) sc_carried.nd rfl (Or.inl rfl)) pgs_nil))))
  (pss_cons (ps_asg (pe_c c_round_form hr (by decide) rfl (pa_cons (pv 0) (pa_cons (pv 3) (pa_cons (pv 2) pa_nil)))) (pg_tup (by rfl) (pgs_cons (pg_name (i := 6) sc_carried.nd rfl (Or.inl rfl)) (pgs_cons (pg_name (i := 7) sc_carried.nd rfl (Or.inl rfl)) pgs_nil))))
  (pss_cons (ps_set (i := 8) sc_carried.nd rfl (Or.inl rfl) (pe_c c_core_carrier hr (by decide) rfl (pa_cons (pv 0) (pa_cons (pe_c c_places_dict hr (by decide) rfl (pa_cons (pv 0) (pa_cons (pv 3) pa_nil))) (pa_cons (pv 5) (pa_cons (pv 7) pa_nil))))))
  (pss_cons (ps_if (pt_cmpR op_isN (pv 8) pe_non (nomark _))
    (pss_one (ps_ret pe_non))
    pss_nil)
  (pss_one (ps_ret (pe_c c_rest_of hr (by decide) rfl (pa_cons (pv 0) (pa_cons (pe_op op_add_str (pe_op op_add_str (pv 4) (pv 8)) (pe_c c_undone_text hr (by decide) rfl (pa_cons (pv 3) (pa_cons (pv 6) pa_nil)))) pa_nil)))))))))))), ?_⟩
    walk_at "nx"
    refine ⟨_, rfl, p, sg, R, rfl, B, G.ok, G.qu, G.two, fun un ku H1 hu1 hU s1 _ => ?_⟩
    have hU1 := G.und hU
    walk_at "nx"
    refine ⟨_, rfl, p, CB, dx, fs, _, rfl, s1 _ _ hp, cl, T.n_Book_signs, g1, ?_⟩
    refine ⟨_, rfl, ?_⟩
    refine tNil_mk ?_
    refine ⟨sg, u, rfl, ?_⟩
    rcases h with ⟨hb, ht⟩ | ⟨t, rfl, htc, htl, h⟩
    · exact .inr ⟨hb, ht H1 s1⟩
    refine .inl ⟨t, rfl, by omega, text_all htc (by omega), ?_⟩
    walk_at "nx"
    refine ⟨_, rfl, p, CB, dx, fs, _, rfl, s1 _ _ hp, cl, T.n_Book_signs, g1, ?_⟩
    refine ⟨_, rfl, ?_⟩
    refine tNil_mk ?_
    refine ⟨sg, v, rfl, ?_⟩
    rcases h with ⟨hb, ht⟩ | ⟨t2, rfl, htc2, htl2, k⟩
    · exact .inr ⟨hb, ht H1 s1⟩
    refine .inl ⟨t2, rfl, by omega, text_all htc2 (by omega), ?_⟩
    walk_at "nx"
    refine ⟨_, rfl, _, rfl, _, rfl, ?_⟩
    refine tNil_mk ?_
    refine ⟨p, un, sh, sg, ar, R, t, ku, rfl, B.same s1, G, hu1, hU1, htc, by omega, fun A1 c1 q1 H2 hR1 hn1 hq1 s2 => ?_⟩
    refine ⟨q1, _, rfl, SqT.of hq1, rfl, _, _, rfl, _, _, rfl, rfl, ?_⟩
    have s02 := s1.trans s2
    walk_at "nx"
    refine ⟨_, rfl, _, rfl, _, rfl, ?_⟩
    refine tNil_mk ?_
    refine ⟨p, un, sh, sg, ar, R, t2, ku, rfl, B.same s02, G, s2 _ _ hu1, hU1, htc2, by omega, fun A2 c2 q2 H3 hR2 hn2 hq2 s3 => ?_⟩
    refine ⟨q2, _, rfl, SqT.of hq2, rfl, _, _, rfl, _, _, rfl, rfl, ?_⟩
    have s03 := s02.trans s3
    have s13 := s2.trans s3
    walk_at "nx"
    refine ⟨_, rfl, _, rfl, _, rfl, ?_⟩
    refine tNil_mk ?_
    refine ⟨p, un, sg, R, ku, srcS sg ar, tgtS sg ar, rfl, B.same s03, G.ok, G.two, fun c hc d hd => G.cmp hc hd, s13 _ _ hu1, hU, G.nd, fun d kvs H4 hd pd s4 _ => ?_⟩
    have pd : PdAt H4 kvs sg (gS sg ar) := pd
    have s04 := s03.trans s4
    refine ⟨_, rfl, _, rfl, ?_⟩
    refine tNil_mk ?_
    refine ⟨p, d, sh, sg, ar, R, c1, c2, kvs, rfl, B.same s04, G, hd, pd, Rnd.core G hR1, Rnd.core G hR2, by omega, by omega, fun m H5 hm s5 => ?_⟩
    have s05 := s04.trans s5
    walk_at "nx"
    cases m with
    | none =>
      refine if_K true (fun Q' hQ => ?_) (fun _ => ?_) (fun z => by cases z)
      · refine ⟨_, rfl, rfl, _, rfl, ?_⟩
        exact hQ
      · walk_at "rd"
        refine k none H5 ⟨fun s z => (by cases z), fun _ z => hm.2 rfl ?_⟩ s05
        exact G.cnj_trans (G.cnj_symm (G.cnj_rnd hR1)) (G.cnj_trans z (G.cnj_rnd hR2))
    | some s =>
      obtain ⟨hsc, hsl, hse⟩ := hm.1 s rfl
      refine if_K false (fun Q' hQ => ?_) (fun z => by cases z) (fun _ => ?_)
      · refine ⟨_, rfl, rfl, _, rfl, ?_⟩
        rw [show decide (optS (some s) = V.non) = false from decide_eq_false (fun z => by cases z)]
        exact hQ
      · walk_at "nx"
        refine ⟨_, rfl, _, rfl, _, rfl, S A1, S s, rfl, rfl, by rw [S_len, S_len]; exact Nat.le_trans (m := 1000) (by omega) hlim, ?_⟩
        rw [S_cat]
        refine ⟨_, rfl, _, rfl, ?_⟩
        refine tNil_mk ?_
        refine ⟨un, sh, sg, ar, R, A2, ku, rfl, G, (s13.trans (s4.trans s5)) _ _ hu1, hU1, hR2.as, by omega, fun H6 s6 => ?_⟩
        have hil : (invS R sg A2).length = A2.length := invS_len _ _ _
        refine ⟨S (A1 ++ s), S (invS R sg A2), rfl, rfl, by rw [S_len, S_len, List.length_append]; exact Nat.le_trans (m := 1000) (by omega) hlim, ?_⟩
        rw [S_cat]
        refine tNil_mk ?_
        have htot : (A1 ++ s ++ invS R sg A2).length ≤ 200 := by rw [List.length_append, List.length_append]; omega
        refine ⟨p, sg, A1 ++ s ++ invS R sg A2, R, rfl, B.same (s05.trans s6), G.ok.wf, htot, fun H7 s7 => ?_⟩
        have hall : ∀ c ∈ A1 ++ s ++ invS R sg A2, c ∈ sg := fun c hc => by
          rcases List.mem_append.mp hc with z | z
          · rcases List.mem_append.mp z with z | z
            · exact hR1.as c z
            · exact hsc c z
          · exact G.inv_sub hR2.as c z
        refine k (some (left R (A1 ++ s ++ invS R sg A2))) H7 ⟨fun z hz => ?_, fun z => (by cases z)⟩ ((s05.trans s6).trans s7)
        cases hz
        refine ⟨G.left_sub hall, Bk.left_end G.ok.wf _, Nat.le_trans (G.left_len _) htot, ?_⟩
        have hc := G.carry hR1 hR2 hse
        exact (G.app rfl (G.lf _)).trans (hc.trans (G.app (G.lf _).symm rfl))
end
end Sh
set_option Elab.async false
set_option linter.all false
set_option maxRecDepth 100000
/-! text * number -/
namespace Sh
open PySem PySem.Spec PyProof.Rows L2
open SX (S S_inj S_len S_cat)
theorem fold_rep (a : List Nat) : ∀ (m : Nat) (acc : List Nat), (List.replicate m a.toArray).foldl (· ++ ·) acc.toArray = (acc ++ (List.replicate m a).flatten).toArray
  | 0, acc => by simp
  | m + 1, acc => by
    rw [List.replicate_succ, List.foldl_cons, List.replicate_succ, List.flatten_cons, ← List.append_assoc, ← fold_rep a m (acc ++ a)]
    congr 1
    simp
theorem mul_S (t : List Nat) (k : Nat) (hk : 1 ≤ k) : Txt.mul (S t) (k : Int) = S (List.replicate k t).flatten := by
  unfold Txt.mul
  rw [if_neg (by omega)]
  by_cases h : (((k : Int) == 1) || ((S t).length == 0)) = true
  · rw [if_pos h]
    rw [Bool.or_eq_true, beq_iff_eq, beq_iff_eq, S_len] at h
    rcases h with h | h
    · have : k = 1 := by omega
      subst this
      simp
    · have : t = [] := List.eq_nil_of_length_eq_zero h
      subst this
      congr 1
      simp
  · rw [if_neg h]
    show (⟨(List.replicate ((k : Int)).toNat t.toArray).foldl (· ++ ·) ([] : List Nat).toArray⟩ : Str) = _
    rw [Int.toNat_natCast, fold_rep, List.nil_append]
def rMulT : R2 := fun x y H Q => ∃ (t : List Nat) (k : Nat), x = .str (S t) ∧ y = .int (k : Nat) ∧ 1 ≤ k ∧ k ≤ 1000 ∧ t.length ≤ 1000 ∧ Q (.str (S (List.replicate k t).flatten)) H
theorem op_mulStr {X : Cx} : OpR X (binaryOp .Mult) rMulT := by
  intro pins s σ H x y v u Q I rx ry h
  obtain ⟨t, k, rfl, rfl, h1, h2, h3, q⟩ := h
  obtain ⟨t1, rfl⟩ := rx
  obtain ⟨t2, rfl⟩ := ry
  have hlen : (S t).length = t.length := S_len t
  have hm : t.length * k ≤ 1000000 := Nat.le_trans (Nat.mul_le_mul h3 h2) (by decide)
  refine SB.mul ⟨?_, fun _ _ => ?_, fun _ _ => ?_⟩ fun t' tk => ?_
  · rw [Bool.or_eq_false_iff]
    exact ⟨decide_eq_false (by omega), decide_eq_false (by omega)⟩
  · rw [hlen]
    intro z
    have h4 : (2 ^ 63 - 1 : Int) / (k : Int) ≥ 1000 := by
      rw [ge_iff_le, Int.le_ediv_iff_mul_le (by omega)]
      omega
    omega
  · rw [hlen, Int.toNat_natCast]
    exact decide_eq_false (by have : (1000000 : Nat) ≤ sizeLine := by decide
                              omega)
  · rw [mul_S t k h1]
    exact ⟨.str _, H, I.tok _, ⟨_, rfl⟩, q⟩
end Sh
set_option Elab.async false
set_option linter.all false
set_option maxRecDepth 100000
set_option maxHeartbeats 4000000
namespace Sh
open PySem PySem.Spec PyProof.Rows L2
open SX (S S_inj S_len S_cat)
open Bk (Rule left Wf Meets Reach Step IsEnd)
local macro_rules | `(tactic| walk_at "nx") => `(tactic| repeat (with_reducible first | refine Sh.gn_mk ?_ | refine Sh.nx_mk ?_ | refine Sh.st_nx ?_ | refine Sh.rt_mk ?_ | refine Sh.ct_mk ?_ | refine Sh.bk_mk ?_))
local macro_rules | `(tactic| walk_at "sq") => `(tactic| first | exact SqL.of upd_same | exact SqT.of upd_same | exact SqL.of (by assumption) | exact SqT.of (by assumption) | assumption | exact Or.inl (SqL.of (by assumption)) | exact Or.inr (SqT.of (by assumption)) | exact Or.inl (by assumption) | exact Or.inr (by assumption))
local macro_rules | `(tactic| walk_at "hp") => `(tactic| first | exact upd_same | assumption)
local macro_rules | `(tactic| walk_at "sz") => `(tactic| first | exact Nat.le_of_ble_eq_true rfl | omega)
local macro_rules | `(tactic| walk_at "sd") => `(tactic| first | omega | exact rfl | assumption | (show (0 : Int) < _; omega) | exact And.intro (by omega) (by omega) | exact Or.inl (And.intro (by omega) (by omega)) | exact Or.inr (And.intro (by omega) (by omega)) | omega | exact Sh.sz_S (by omega) | decide)
local macro_rules | `(tactic| walk_at "rd1") => `(tactic| first
  | (with_reducible first | refine Sh.gn_mk ?_ | refine Sh.nx_mk ?_ | refine Sh.st_nx ?_ | refine Sh.rt_mk ?_ | refine Sh.ct_mk ?_ | refine Sh.bk_mk ?_)
  | refine Exists.intro (α := V) _ (And.intro rfl ?_)
  | refine Exists.intro (α := Bool) _ (And.intro rfl ?_)
  | refine Exists.intro (α := Int) _ (And.intro rfl ?_)
  | refine Exists.intro (α := PySem.Str) _ (And.intro rfl ?_)
  | refine Exists.intro (α := Int) _ (Exists.intro (α := Int) _ (And.intro rfl (And.intro rfl ?_)))
  | refine Exists.intro (α := PySem.Str) _ (Exists.intro (α := PySem.Str) _ (And.intro rfl (And.intro rfl ?_)))
  | refine Exists.intro (α := Int) _ (Exists.intro (α := Int) _ (And.intro rfl ?_))
  | refine Or.inl (Exists.intro (α := Int) _ (And.intro rfl ?_))
  | refine Exists.intro _ (Exists.intro _ (Exists.intro _ (Exists.intro _ (And.intro rfl (And.intro rfl (And.intro (by walk_at "sq") (And.intro rfl ?_)))))))
  | refine Exists.intro _ (Exists.intro _ (Exists.intro _ (Exists.intro _ (And.intro rfl (And.intro rfl (And.intro (by walk_at "hp") (And.intro rfl ?_)))))))
  | refine And.intro (by walk_at "sd") ?_
  )
local macro_rules | `(tactic| walk_at "rd") => `(tactic| repeat walk_at "rd1")
local macro_rules | `(tactic| walk_at "lk") => `(tactic| first | exact rfl | (rw [lookup_putF, if_pos rfl]) | (rw [lookup_putF, if_neg (by decide +kernel)]; walk_at "lk"))

theorem GB.arrow2 {sh : List (Nat × Nat)} {sg : List Nat} {ar : List Arr} {R : List Ru} (G : GB sh sg ar R) {H : Hp} {kvs : List (Key × V)} (h : ArrowOf H kvs sg ar ar.length) {c : Nat} (hc : c ∈ sg) : ∃ q, valV kvs (Sum.inr (S [c])) = some (.ref q) ∧ H q = some (.tup (arT (aof sg ar c))) := by
  obtain ⟨t, h1, h2⟩ := G.at_of hc
  exact h t c _ (List.getElem?_eq_some_iff.mp h2).1 h1 h2
section
variable {P : Program} {w : World} {K : PySem.W.Frag} {mg : Str → Option Value} {base : Heap} {CB CE : Addr}
def spGText (K : PySem.W.Frag) : Sp := fun vs H Q _ => ∃ (a l d da : Addr) (sh : List (Nat × Nat)) (sg : List Nat) (ar : List Arr) (R : List Ru) (zs : List V) (ku ka : List (Key × V)), vs = [.ref a, .str (S sg), .ref l, .ref d, .ref da] ∧ Src H a ∧ GB sh sg ar R ∧ H l = some (.tup zs) ∧ Items RuV H zs R ∧ H d = some (.dK ku) ∧ UndV sg R ku ∧ H da = some (.dK ka) ∧ ArrowOf H ka sg ar ar.length ∧
  ∀ (t : List Nat) (H' : Hp), (∀ c ∈ t, c ∈ sg) → t.length ≤ 13 → Src H' a → But a H H' → Q (.str (S t)) H'
theorem c__law_group_text (T : Txt K mg) : Cal P w K mg base CX0 3 "_law_group_text" (spGText K) := by
  have c__law_pick := c__law_pick (P := P) (w := w) (base := base) T
  have c__law_text := c__law_text (P := P) (w := w) (base := base) T
  have c__law_undone := c__law_undone (P := P) (w := w) (base := base) T
  have c__law_left := c__law_left (P := P) (w := w) (base := base) T
  refine Cal.mk0 T.d__law_group_text sc__law_group_text (fun vs H Q E h => ?_) (fun f cdv A outer s H vs Q E hr h => ?_)
  · obtain ⟨a, l, d, da, sh, sg, ar, R, zs, ku, ka, rfl, _⟩ := h
    rfl
  · obtain ⟨a, l, d, da, sh, sg, ar, R, zs, ku, ka, rfl, hS, G, hl, it, hd, hU, hda, hA, k⟩ := h
    have hu := hu_of hr
    refine ⟨_, (pss_cons (ps_set (i := 5) sc__law_group_text.nd rfl (Or.inl rfl) (pe_c c__law_pick hr (by decide) rfl (pa_cons (pv 0) (pa_cons pe_int pa_nil))))
  (pss_cons (ps_setLc (i := 6) (own := [("_law_sign", 10)]) (g := gName 10) (by rfl) sc__law_group_text.nd rfl rfl (sw_true rfl rfl rfl (by decide +kernel)) (pi_str (pv 1)) (blkOk_by (N := ["_law_source_here", "_law_signs", "_law_rules", "_law_undo_here", "_law_arrow_of", "_law_way", "_law_loops", "_law_middle", "_law_round_text", "_law_text_here", "_law_sign"]) (sc := defScope s__law_group_text) (by decide +kernel)) (fun _ _ _ _ _ => (pg_name (i := 10) sc__law_group_text.nd rfl (Or.inl rfl))) (fun _ _ _ _ _ => (pts_one (pt_cmpR op_eq (pe_ix ix_tupB (pe_dget hu (pv 4) (pv 10) (fun _ _ => rfl)) pe_int (fun _ _ => rfl)) (pe_ix ix_tupB (pe_dget hu (pv 4) (pv 10) (fun _ _ => rfl)) pe_int (fun _ _ => rfl)) (nomark _)))) (fun _ _ _ _ _ => (pv 10)))
  (pss_cons (ps_set (i := 7) sc__law_group_text.nd rfl (Or.inl rfl) (pe_c c__law_text hr (by decide) rfl (pa_cons (pv 0) (pa_cons (pv 1) (pa_cons pe_int pa_nil)))))
  (pss_cons (ps_if (PW.pt (pw_and (pt_cmpR op_lt (pv 5) pe_int (nomark _)) (pw_and1 (pt_truth (pv 6) (by intro _; rfl)))))
    (pss_one (ps_set (i := 7) sc__law_group_text.nd rfl (Or.inl rfl) (pe_ix ix_list (pv 6) (pe_c c__law_pick hr (by decide) rfl (pa_cons (pv 0) (pa_cons (pe_callB call_len_seq (by rfl) T.b_len (by decide +kernel) (pa_cons (pv 6) pa_nil)) pa_nil))) (fun _ _ => rfl))))
    (pss_one (ps_if (pt_cmpR op_eq (pv 5) pe_int (nomark _))
      (pss_one (ps_set (i := 7) sc__law_group_text.nd rfl (Or.inl rfl) (pe_op op_mulStr (pv 7) (pe_op op_add pe_int (pe_c c__law_pick hr (by decide) rfl (pa_cons (pv 0) (pa_cons pe_int pa_nil)))))))
      pss_nil)))
  (pss_cons (ps_set (i := 8) sc__law_group_text.nd rfl (Or.inl rfl) (pe_ifExp (pt_cmpR op_gt (pe_c c__law_pick hr (by decide) rfl (pa_cons (pv 0) (pa_cons pe_int pa_nil))) pe_int (nomark _)) (pe_c c__law_text hr (by decide) rfl (pa_cons (pv 0) (pa_cons (pv 1) (pa_cons pe_int pa_nil)))) pe_str))
  (pss_cons (ps_set (i := 9) sc__law_group_text.nd rfl (Or.inl rfl) (pe_op op_add_str (pe_op op_add_str (pv 8) (pv 7)) (pe_c c__law_undone hr (by decide) rfl (pa_cons (pv 3) (pa_cons (pv 8) pa_nil)))))
  (pss_one (ps_ret (pe_ifExp (pt_cmpR op_eq (pe_c c__law_pick hr (by decide) rfl (pa_cons (pv 0) (pa_cons pe_int pa_nil))) pe_int (nomark _)) (pv 9) (pe_c c__law_left hr (by decide) rfl (pa_cons (pv 2) (pa_cons (pv 9) pa_nil)))))))))))), ?_⟩
    obtain ⟨hs1, hs8⟩ := signs_len G.ok.1
    walk_at "nx"
    refine ⟨_, rfl, a, 6, rfl, hS, by decide, by decide, fun n H1 n0 n1 hS1 b1 => ?_⟩
    have nla : l ≠ a := by
      obtain ⟨d, e, c, z⟩ := hS
      exact ne_of hl z (by intro w; cases w)
    have nda : d ≠ a := by
      obtain ⟨d, e, c, z⟩ := hS
      exact ne_of hd z (by intro w; cases w)
    have nea : da ≠ a := by
      obtain ⟨d, e, c, z⟩ := hS
      exact ne_of hda z (by intro w; cases w)
    have hA' : ∀ H', But a H H' → ArrowOf H' ka sg ar ar.length := fun H' b t' c a' h1 h2 h3 => by
      obtain ⟨q, e, z⟩ := hA t' c a' h1 h2 h3
      obtain ⟨d, e2, c2, z2⟩ := hS
      exact ⟨q, e, b _ _ (ne_of z z2 (by intro w; cases w)) z⟩
    walk_at "nx"
    refine ⟨_, rfl, _, rfl, fun D hD => lc_str (l := sg) (fun pre H3 => H3 D = some (.lst ((pre.filter fun c => decide (srcS sg ar c = tgtS sg ar c)).map fun c => V.str (S [c]))) ∧ Same H1 H3) ⟨upd_same, same_new hD⟩ ?_ ?_⟩
    · rintro pre c post H3 e ⟨h3, s3⟩
      have hcs : c ∈ sg := by rw [e]; simp
      have hpl : pre.length + 1 ≤ 8 := by
        have := congrArg List.length e
        simp at this
        omega
      obtain ⟨q, hv, hq⟩ := G.arrow2 (hA' _ b1) hcs
      have hgd : DGet H3 da (.str (S [c])) (some (.ref q)) := by rw [← hv]; exact DGet.k (k := Sum.inr (S [c])) (s3 _ _ (b1 _ _ nea hda))
      refine ⟨rfl, ?_⟩
      refine ⟨_, rfl, _, rfl, da, _, rfl, hgd, ?_⟩
      refine ⟨q, _, _, _, rfl, rfl, SqT.of (s3 _ _ hq), rfl, ?_⟩
      refine ⟨_, rfl, _, rfl, da, _, rfl, hgd, ?_⟩
      refine ⟨q, _, _, _, rfl, rfl, SqT.of (s3 _ _ hq), rfl, ?_⟩
      refine ⟨rfl, _, rfl, ?_⟩
      rw [show decide (V.int (((aof sg ar c).2.1 : Nat) : Int) = V.int (((aof sg ar c).2.2.2 : Nat) : Int)) = decide (srcS sg ar c = tgtS sg ar c) by
        rw [dec_int]
        refine decide_eq_decide.mpr ?_
        show (aof sg ar c).2.1 = (aof sg ar c).2.2.2 ↔ ((aof sg ar c).1, (aof sg ar c).2.1) = ((aof sg ar c).1, (aof sg ar c).2.2.2)
        simp]
      rw [List.filter_append]
      cases hcn : decide (srcS sg ar c = tgtS sg ar c) with
      | false =>
        refine iteF ?_
        rw [show [c].filter (fun c => decide (srcS sg ar c = tgtS sg ar c)) = [] by simp [of_decide_eq_false hcn], List.append_nil]
        exact ⟨h3, s3⟩
      | true =>
        refine iteT ?_
        rw [show [c].filter (fun c => decide (srcS sg ar c = tgtS sg ar c)) = [c] by simp [of_decide_eq_true hcn], List.map_append]
        refine ⟨_, rfl, _, h3, ?_, ?_, same_mut s3 hD⟩
        · rw [List.length_map]
          have h1 := List.length_filter_le (fun c => decide (srcS sg ar c = tgtS sg ar c)) pre
          exact Nat.lt_of_le_of_lt (m := 8) (by omega) (by decide)
        · rw [upd_same]
          rfl
    · rintro H3 ⟨h3, s3⟩
      have hLs : ∀ c ∈ sg.filter (fun c => decide (srcS sg ar c = tgtS sg ar c)), c ∈ sg := fun c hc => (List.mem_filter.mp hc).1
      have hLl := List.length_filter_le (fun c => decide (srcS sg ar c = tgtS sg ar c)) sg
      generalize sg.filter (fun c => decide (srcS sg ar c = tgtS sg ar c)) = L at h3 hLs hLl
      have hS3 : Src H3 a := by
        obtain ⟨d, e, c, z⟩ := hS1
        exact ⟨d, e, c, s3 _ _ z⟩
      have nDa : D ≠ a := by
        obtain ⟨d, e, c, z⟩ := hS1
        exact (ne_of_none z hD).symm
      have b3 := b1.trans (But.same s3)
      walk_at "nx"
      refine ⟨_, rfl, _, rfl, a, sg, 3, rfl, hS3, hs1, by omega, by decide, by decide, fun m0 H4 hm1 hm2 hS4 b4 => ?_⟩
      have b04 := b3.trans b4
      have h4 := b4 _ _ nDa h3
      walk_at "nx"
      refine st_ifJ (fun σ H5 => ∃ (mid : List Nat) (v8 v9 v10 : Option V), σ = [some (.ref a), some (.str (S sg)), some (.ref l), some (.ref d), some (.ref da), some (.int n), some (.ref D), some (.str (S mid)), v8, v9, v10] ∧ (∀ c ∈ mid, c ∈ sg) ∧ mid.length ≤ 9 ∧ Src H5 a ∧ But a H H5) (fun N hN => ?_) (fun σ H5 hP => ?_)
      · have fin : ∀ (mid : List Nat) (H5 : Hp), (∀ c ∈ mid, c ∈ sg) → mid.length ≤ 9 → Src H5 a → But a H H5 → ∀ v8 v9 v10, N [some (.ref a), some (.str (S sg)), some (.ref l), some (.ref d), some (.ref da), some (.int n), some (.ref D), some (.str (S mid)), v8, v9, v10] H5 := fun mid H5 h1 h2 h3 h4 v8 v9 v10 => hN _ _ ⟨mid, v8, v9, v10, rfl, h1, h2, h3, h4⟩
        refine if_K (decide (n < 2) && !L.isEmpty) (fun Q' hQ => ?_) (fun hc => ?_) (fun hc => ?_)
        · refine ⟨_, rfl, _, _, rfl, rfl, _, rfl, ?_⟩
          cases hn2 : decide (n < 2) with
          | false =>
            rw [hn2, Bool.false_and] at hQ
            exact iteF hQ
          | true =>
            rw [hn2, Bool.true_and] at hQ
            refine iteT ?_
            refine ⟨_, rfl, !L.isEmpty, .inl ⟨_, SqL.of h4, ?_⟩, hQ⟩
            cases L <;> rfl
        · rw [Bool.and_eq_true] at hc
          have hLne : 0 < L.length := by
            cases L with
            | nil => simp at hc
            | cons x L => simp
          refine ⟨_, rfl, _, rfl, _, rfl, ?_⟩
          refine tNil_mk ?_
          refine ⟨D, _, rfl, .inl (SqL.of h4), ?_⟩
          refine tNil_mk ?_
          refine ⟨a, _, rfl, hS4, by rw [List.length_map]; omega, by rw [List.length_map]; omega, fun r H5 r0 r1 hS5 b5 => ?_⟩
          rw [List.length_map] at r1
          have hr2 : r.toNat < L.length := by omega
          refine ⟨D, _, r, V.str (S [L[r.toNat]]), rfl, rfl, SqL.of (b5 _ _ nDa h4), atI_at r0 (by rw [List.getElem?_map, List.getElem?_eq_getElem hr2]; rfl), ?_⟩
          exact fin [L[r.toNat]] H5 (fun c hc => by rw [List.mem_singleton.mp hc]; exact hLs _ (List.getElem_mem hr2)) (by simp) hS5 (b04.trans b5) _ _ _
        · refine if_K (decide (n = 2)) (fun Q' hQ => ?_) (fun hc => ?_) (fun hc => ?_)
          · refine ⟨_, rfl, rfl, _, rfl, ?_⟩
            rw [show decide (V.int n = V.int 2) = decide (n = 2) from decide_eq_decide.mpr ⟨fun z => V.int.inj z, fun z => by rw [z]⟩]
            exact hQ
          · refine ⟨_, rfl, _, rfl, ?_⟩
            refine ⟨a, 3, rfl, hS4, by decide, by decide, fun r H5 r0 r1 hS5 b5 => ?_⟩
            obtain ⟨rn, rfl⟩ : ∃ rn : Nat, r = rn := ⟨r.toNat, by omega⟩
            refine ⟨_, _, rfl, rfl, ?_⟩
            have hm9 : (pw m0 (1 + rn)).length ≤ 9 := by
              rw [pw_len]
              exact Nat.mul_le_mul (show 1 + rn ≤ 3 by omega) (show m0.length ≤ 3 by omega)
            refine ⟨m0, 1 + rn, rfl, by congr 1, by omega, by omega, by omega, ?_⟩
            exact fin (pw m0 (1 + rn)) H5 (fun c hc => hm2 c (pw_mem hc)) hm9 hS5 (b04.trans b5) _ _ _
          · walk_at "nx"
            exact fin m0 H4 hm2 (by omega) hS4 b04 _ _ _
      · obtain ⟨mid, v8, v9, v10, rfl, hmc, hml, hS5, b5⟩ := hP
        refine st_asgJ (fun v H6 => ∃ rt : List Nat, v = .str (S rt) ∧ (∀ c ∈ rt, c ∈ sg) ∧ rt.length ≤ 2 ∧ Src H6 a ∧ But a H H6) (fun Q' hQ => ?_) (fun v H6 hv => ?_)
        · refine ⟨_, rfl, ?_⟩
          walk_at "rd"
          refine ⟨a, 3, rfl, hS5, by decide, by decide, fun r H6 r0 r1 hS6 b6 => ?_⟩
          walk_at "rd"
          refine ite2 (fun c => ?_) (fun c => ?_)
          · refine ⟨_, rfl, _, rfl, a, sg, 2, rfl, hS6, hs1, by omega, by decide, by decide, fun rt H7 h1 h2 hS7 b7 => ?_⟩
            exact hQ _ _ ⟨rt, rfl, h2, by omega, hS7, b5.trans (b6.trans b7)⟩
          · exact hQ _ _ ⟨[], rfl, fun c hc => (by cases hc), Nat.zero_le _, hS6, b5.trans b6⟩
        · obtain ⟨rt, rfl, hrc, hrl, hS6, b6⟩ := hv
          walk_at "nx"
          have hlim : (1000 : Nat) ≤ sizeLine := by decide
          refine ⟨_, rfl, _, rfl, S rt, S mid, rfl, rfl, by rw [S_len, S_len]; exact Nat.le_trans (m := 1000) (by omega) hlim, ?_⟩
          rw [S_cat]
          refine ⟨_, rfl, _, rfl, ?_⟩
          refine tNil_mk ?_
          refine ⟨d, sh, sg, ar, R, rt, ku, rfl, G, b6 _ _ nda hd, hU, hrc, by omega, fun H7 s7 => ?_⟩
          refine ⟨S (rt ++ mid), S (invS R sg rt), rfl, rfl, by rw [S_len, S_len, List.length_append, invS_len]; exact Nat.le_trans (m := 1000) (by omega) hlim, ?_⟩
          rw [S_cat]
          have hS7 : Src H7 a := by
            obtain ⟨d, e, c, z⟩ := hS6
            exact ⟨d, e, c, s7 _ _ z⟩
          have b07 := b6.trans (But.same s7)
          have htl : (rt ++ mid ++ invS R sg rt).length ≤ 13 := by rw [List.length_append, List.length_append, invS_len]; omega
          have htc : ∀ c ∈ rt ++ mid ++ invS R sg rt, c ∈ sg := fun c hc => by
            rcases List.mem_append.mp hc with z | z
            · rcases List.mem_append.mp z with z | z
              · exact hrc c z
              · exact hmc c z
            · exact G.inv_sub hrc c z
          generalize rt ++ mid ++ invS R sg rt = T at htl htc ⊢
          walk_at "nx"
          refine ⟨_, rfl, ?_⟩
          walk_at "rd"
          refine ⟨a, 2, rfl, hS7, by decide, by decide, fun r H8 r0 r1 hS8 b8 => ?_⟩
          walk_at "rd"
          refine ite2 (fun c => ?_) (fun c => ?_)
          · refine ⟨_, rfl, ?_⟩
            exact k T H8 htc htl hS8 (b07.trans b8)
          · refine ⟨_, rfl, _, rfl, l, zs, R, T, rfl, .inr (SqT.of (b07.trans b8 _ _ nla hl)), ?_, G.ok.2.1, G.ok.wf, fun r hr => (G.ok.2.2.1 r hr).2.1, by omega, fun H9 s9 => ?_⟩
            · refine Items.imp it fun x y ⟨q, e, z⟩ => ⟨q, e, SqT.of ?_⟩
              obtain ⟨d2, e2, c2, z2⟩ := hS
              exact (b07.trans b8) _ _ (ne_of z z2 (by intro w; cases w)) z
            · have hll := G.left_len T
              refine k (left R T) H9 (G.left_sub htc) (by omega) ?_ ((b07.trans b8).trans (But.same s9))
              obtain ⟨d2, e2, c2, z2⟩ := hS8
              exact ⟨d2, e2, c2, s9 _ _ z2⟩
end
end Sh
set_option Elab.async false
set_option linter.all false
set_option maxRecDepth 100000
/-! how data are shown: bounds -/
namespace Sh
open PySem PySem.Spec PyProof.Rows L2
open SX (S S_inj S_len S_cat)
def Shw (d : PyData) (k m : Nat) : Prop := d.showable = true ∧ d.hasDict = false ∧ d.depth ≤ k ∧ d.shown.length ≤ m
theorem Shw.mono {d : PyData} {k m k' m' : Nat} (h : Shw d k m) (h1 : k ≤ k') (h2 : m ≤ m') : Shw d k' m' := ⟨h.1, h.2.1, Nat.le_trans h.2.2.1 h1, Nat.le_trans h.2.2.2 h2⟩
theorem Shw.non : Shw .none 0 4 := ⟨rfl, rfl, Nat.le_refl _, by decide⟩
theorem Shw.bl (b : Bool) : Shw (.bool b) 0 5 := by cases b <;> exact ⟨rfl, rfl, Nat.le_refl _, by decide⟩
theorem Shw.str {u : List Nat} (h : ∀ c ∈ u, c < 1114112) : Shw (.str (S u)) 0 (10 * u.length + 2) := by
  refine ⟨rfl, rfl, Nat.le_refl _, ?_⟩
  have := PySem.StrLaws.reprText_len (S u) (fun c hc => Nat.lt_trans (h c hc) (by decide))
  rw [S_len] at this
  exact this
theorem showAll {ds : List PyData} {k m : Nat} (h : ∀ d ∈ ds, Shw d k m) : PyData.showableAll ds = true ∧ PyData.hasDictAll ds = false ∧ PyData.depthAll ds ≤ k ∧ (((PyData.shownAll ds).map (·.length)).sum ≤ ds.length * m) ∧ (PyData.shownAll ds).length = ds.length := by
  induction ds with
  | nil => exact ⟨rfl, rfl, Nat.zero_le _, Nat.zero_le _, rfl⟩
  | cons d ds ih =>
    obtain ⟨a1, a2, a3, a4⟩ := h d List.mem_cons_self
    obtain ⟨b1, b2, b3, b4, b5⟩ := ih fun x hx => h x (List.mem_cons_of_mem _ hx)
    refine ⟨?_, ?_, ?_, ?_, ?_⟩
    · show (d.showable && PyData.showableAll ds) = true
      rw [a1, b1]; rfl
    · show (d.hasDict || PyData.hasDictAll ds) = false
      rw [a2, b2]; rfl
    · show max d.depth (PyData.depthAll ds) ≤ k
      omega
    · show d.shown.length + ((PyData.shownAll ds).map (·.length)).sum ≤ (ds.length + 1) * m
      rw [Nat.succ_mul]
      omega
    · show (PyData.shownAll ds).length + 1 = ds.length + 1
      rw [b5]
theorem Shw.tup {ds : List PyData} {k m : Nat} (h : ∀ d ∈ ds, Shw d k m) : Shw (.tuple ds) (k + 1) (ds.length * m + 2 * ds.length + 3) := by
  obtain ⟨b1, b2, b3, b4, b5⟩ := showAll h
  refine ⟨b1, b2, ?_, ?_⟩
  · show PyData.depthAll ds + 1 ≤ k + 1
    omega
  · have := PySem.tupleText_len_le (PyData.shownAll ds)
    rw [b5] at this
    show (tupleText (PyData.shownAll ds)).length ≤ _
    omega
theorem Shw.lst {ds : List PyData} {k m : Nat} (h : ∀ d ∈ ds, Shw d k m) : Shw (.list ds) (k + 1) (ds.length * m + 2 * ds.length + 3) := by
  obtain ⟨b1, b2, b3, b4, b5⟩ := showAll h
  refine ⟨b1, b2, ?_, ?_⟩
  · show PyData.depthAll ds + 1 ≤ k + 1
    omega
  · have := PySem.listText_len_le (PyData.shownAll ds)
    rw [b5] at this
    show (listText (PyData.shownAll ds)).length ≤ _
    omega
theorem Shw.ok {d : PyData} {k m : Nat} (h : Shw d k m) (h1 : k ≤ 60) (h2 : m ≤ 16777216) : d.showable = true ∧ d.hasDict = false ∧ d.depth ≤ 60 ∧ d.shown.length ≤ sizeLine := ⟨h.1, h.2.1, Nat.le_trans h.2.2.1 h1, Nat.le_trans h.2.2.2 (Nat.le_trans h2 (by decide))⟩
end Sh
set_option Elab.async false
set_option linter.all false
/-! blocks of a def's body, by their places -/
namespace Sh
open PySem PySem.Spec PyProof.Rows L2
def stBody (l : List Stmt) (n : Nat) : List Stmt := match l.drop n with
  | .For _ _ b _ _ :: _ => b
  | .While _ b _ _ :: _ => b
  | .If _ b _ _ :: _ => b
  | _ => []
def stElse (l : List Stmt) (n : Nat) : List Stmt := match l.drop n with
  | .If _ _ b _ :: _ => b
  | _ => []
end Sh
-- OWN
set_option Elab.async false
set_option linter.all false
set_option maxRecDepth 100000
set_option maxHeartbeats 4000000
namespace Sh
open PySem PySem.Spec PyProof.Rows L2
open SX (S S_inj S_len S_cat)
open Bk (Rule left Wf Meets Reach Step IsEnd)
local macro_rules | `(tactic| walk_at "nx") => `(tactic| repeat (with_reducible first | refine Sh.gn_mk ?_ | refine Sh.nx_mk ?_ | refine Sh.st_nx ?_ | refine Sh.rt_mk ?_ | refine Sh.ct_mk ?_ | refine Sh.bk_mk ?_))
local macro_rules | `(tactic| walk_at "sq") => `(tactic| first | exact SqL.of upd_same | exact SqT.of upd_same | exact SqL.of (by assumption) | exact SqT.of (by assumption) | assumption | exact Or.inl (SqL.of (by assumption)) | exact Or.inr (SqT.of (by assumption)) | exact Or.inl (by assumption) | exact Or.inr (by assumption))
local macro_rules | `(tactic| walk_at "hp") => `(tactic| first | exact upd_same | assumption)
local macro_rules | `(tactic| walk_at "sz") => `(tactic| first | exact Nat.le_of_ble_eq_true rfl | omega)
local macro_rules | `(tactic| walk_at "sd") => `(tactic| first | omega | exact rfl | assumption | (show (0 : Int) < _; omega) | exact And.intro (by omega) (by omega) | exact Or.inl (And.intro (by omega) (by omega)) | exact Or.inr (And.intro (by omega) (by omega)) | omega | exact Sh.sz_S (by omega) | decide)
local macro_rules | `(tactic| walk_at "rd1") => `(tactic| first
  | (with_reducible first | refine Sh.gn_mk ?_ | refine Sh.nx_mk ?_ | refine Sh.st_nx ?_ | refine Sh.rt_mk ?_ | refine Sh.ct_mk ?_ | refine Sh.bk_mk ?_)
  | refine Exists.intro (α := V) _ (And.intro rfl ?_)
  | refine Exists.intro (α := Bool) _ (And.intro rfl ?_)
  | refine Exists.intro (α := Int) _ (And.intro rfl ?_)
  | refine Exists.intro (α := PySem.Str) _ (And.intro rfl ?_)
  | refine Exists.intro (α := Int) _ (Exists.intro (α := Int) _ (And.intro rfl (And.intro rfl ?_)))
  | refine Exists.intro (α := PySem.Str) _ (Exists.intro (α := PySem.Str) _ (And.intro rfl (And.intro rfl ?_)))
  | refine Exists.intro (α := Int) _ (Exists.intro (α := Int) _ (And.intro rfl ?_))
  | refine Or.inl (Exists.intro (α := Int) _ (And.intro rfl ?_))
  | refine Exists.intro _ (Exists.intro _ (Exists.intro _ (Exists.intro _ (And.intro rfl (And.intro rfl (And.intro (by walk_at "sq") (And.intro rfl ?_)))))))
  | refine Exists.intro _ (Exists.intro _ (Exists.intro _ (Exists.intro _ (And.intro rfl (And.intro rfl (And.intro (by walk_at "hp") (And.intro rfl ?_)))))))
  | refine And.intro (by walk_at "sd") ?_
  )
local macro_rules | `(tactic| walk_at "rd") => `(tactic| repeat walk_at "rd1")
local macro_rules | `(tactic| walk_at "lk") => `(tactic| first | exact rfl | (rw [lookup_putF, if_pos rfl]) | (rw [lookup_putF, if_neg (by decide +kernel)]; walk_at "lk"))

theorem in_end {R : List Ru} {t : List Nat} (he : IsEnd R t) {r : Ru} (hr : r ∈ R) : (!(Builtin.Str.occurrences (S t) (S r.1) 0 (S t).length 1).isEmpty) = false := by
  rw [Bool.eq_false_iff]
  intro h
  obtain ⟨i, hi, hs⟩ := (StrLaws.found_iff _ _).mp h
  rw [S_len, S_len] at hi
  have e : (S t).cps.extract i (i + (S r.1).length) = (S r.1).cps := eq_of_beq hs
  have e2 := congrArg Array.toList e
  rw [Array.toList_extract, S_len] at e2
  have e3 : (t.drop i).take r.1.length = r.1 := by
    have e4 : (S t).cps.toList = t := rfl
    have e5 : (S r.1).cps.toList = r.1 := rfl
    rw [e4, e5, List.extract_eq_take_drop] at e2
    have e6 : i + r.1.length - i = r.1.length := by omega
    rw [e6] at e2
    exact e2
  refine Bk.isEnd_iff.mp he r hr (t.take i) (t.drop (i + r.1.length)) ?_
  have e7 : (t.drop i).take r.1.length ++ (t.drop i).drop r.1.length = t.drop i := List.take_append_drop _ _
  rw [e3, List.drop_drop] at e7
  rw [List.append_assoc, e7, List.take_append_drop]
section
variable {P : Program} {w : World} {K : PySem.W.Frag} {mg : Str → Option Value} {base : Heap} {CB CE : Addr}
def spLIsEnd (K : PySem.W.Frag) : Sp := fun vs H Q _ => ∃ (l : Addr) (sh : List (Nat × Nat)) (sg : List Nat) (ar : List Arr) (R : List Ru) (zs : List V) (t : List Nat), vs = [.ref l, .str (S t)] ∧ GB sh sg ar R ∧ H l = some (.tup zs) ∧ Items RuV H zs R ∧ t.length ≤ 1000 ∧ IsEnd R t ∧
  ∀ (H' : Hp), Same H H' → Q (.bl true) H'
theorem c__law_is_end (T : Txt K mg) : Cal P w K mg base CX0 1 "_law_is_end" (spLIsEnd K) := by
  refine Cal.mk0 T.d__law_is_end sc__law_is_end (fun vs H Q E h => ?_) (fun f cdv A outer s H vs Q E hr h => ?_)
  · obtain ⟨l, sh, sg, ar, R, zs, t, rfl, _⟩ := h
    rfl
  · obtain ⟨l, sh, sg, ar, R, zs, t, rfl, G, hl, it, htl, he, k⟩ := h
    have hu := hu_of hr
    have hRl := G.ok.2.1
    refine ⟨_, (pss_one (ps_ret (pe_not (pe_callB (cr_any rfl) (by rfl) T.b_any (by decide +kernel) (pa_cons (pe_lc (own := [("_law_rule", 2)]) (g := gName 2) (tt := tYes) rfl sc__law_is_end.nd (pi_tup (pv 0)) (blkOk_by (N := ["_law_rules", "_law_text_here", "_law_rule"]) (sc := defScope s__law_is_end) (by decide +kernel)) (fun _ _ _ _ _ => (pg_name (i := 2) sc__law_is_end.nd rfl (Or.inl rfl))) (fun _ _ _ _ _ => pts_nil) (fun _ _ _ _ _ => (pe_cmpR op_in_str (pe_ix ix_tupB (pv 2) pe_int (fun _ _ => rfl)) (pv 1) (by rfl)))) pa_nil))))), ?_⟩
    walk_at "rd"
    refine ⟨l, rfl, ⟨_, SqT.of hl⟩, fun D hD => lc_tupR (K := K) (a := l) (xs := zs) (l := R) (Rel := RuV) it.1 (fun pre H2 => H2 D = some (.lst ((List.replicate pre.length false).map V.bl)) ∧ Same H H2) ⟨upd_same, same_new hD⟩
      (fun pre H2 ⟨_, s2⟩ => ⟨SqT.of (s2 _ _ hl), fun i x y h1 h2 => let ⟨q, e, z⟩ := it.2 i x y h1 h2; ⟨q, e, s2 _ _ z⟩⟩) ?_ ?_⟩
    · rintro pre r post x H2 e hx ⟨q, rfl, hq⟩ ⟨h2, s2⟩
      have hpl : pre.length + 1 ≤ 64 := by
        have := congrArg List.length e
        simp at this
        omega
      have hrR : r ∈ R := by rw [e]; simp
      refine ⟨rfl, ty_T ?_⟩
      refine ⟨_, rfl, ⟨q, _, _, _, rfl, rfl, SqT.of hq, rfl, ?_⟩⟩
      refine ⟨_, rfl, _, _, rfl, rfl, ?_⟩
      rw [in_end he hrR]
      refine ⟨_, h2, ?_, ?_, same_mut s2 hD⟩
      · rw [List.length_map, List.length_replicate]
        exact Nat.lt_of_le_of_lt (m := 64) (by omega) (by decide)
      · rw [upd_same, List.length_append, List.length_singleton, List.replicate_succ', List.map_append]
        rfl
    · rintro H2 ⟨h2, s2⟩
      refine tNil_mk ?_
      refine ⟨D, _, rfl, SqL.of h2, ?_⟩
      rw [show (List.replicate R.length false).any id = false by
        rw [List.any_eq_false]
        intro x hx
        rw [(List.mem_replicate.mp hx).2]
        exact Bool.false_ne_true]
      exact ⟨_, rfl, k H2 s2⟩
def spLEnds (K : PySem.W.Frag) : Sp := fun vs H Q _ => ∃ (l : Addr) (sh : List (Nat × Nat)) (sg : List Nat) (ar : List Arr) (R : List Ru) (zs : List V) (n : Nat), vs = [.str (S sg), .ref l, .int (n : Nat)] ∧ GB sh sg ar R ∧ H l = some (.tup zs) ∧ Items RuV H zs R ∧ n ≤ 3 ∧
  ∀ (p : Addr) (ts : List (List Nat)) (H' : Hp), H' p = some (.lst (ts.map vS)) → (∀ t ∈ ts, t.length ≤ 3 ∧ ∀ c ∈ t, c ∈ sg) → Same H H' → Q (.ref p) H'
theorem c__law_ends (T : Txt K mg) : Cal P w K mg base CX0 1 "_law_ends" (spLEnds K) := by
  refine Cal.mk0 T.d__law_ends sc__law_ends (fun vs H Q E h => ?_) (fun f cdv A outer s H vs Q E hr h => ?_)
  · obtain ⟨l, sh, sg, ar, R, zs, n, rfl, _⟩ := h
    rfl
  · obtain ⟨l, sh, sg, ar, R, zs, n, rfl, G, hl, it, hn, k⟩ := h
    have hu := hu_of hr
    have hRl := G.ok.2.1
    obtain ⟨hs1, hs8⟩ := signs_len G.ok.1
    refine ⟨_, (pss_cons (ps_set (i := 3) sc__law_ends.nd rfl (Or.inl rfl) (pe_lst (pa_cons pe_str pa_nil)))
  (pss_cons (ps_set (i := 4) sc__law_ends.nd rfl (Or.inl rfl) (pe_lst (pa_cons pe_str pa_nil)))
  (pss_cons (ps_for PassesOwn.never rfl (pi_range1 (by rfl) T.b_range (pa_cons (pv 2) pa_nil)) (pg_name (i := 5) sc__law_ends.nd rfl (Or.inl rfl))
    (pss_cons (ps_set (i := 6) sc__law_ends.nd rfl (Or.inl rfl) (pe_lst pa_nil))
    (pss_cons (ps_for PassesOwn.never rfl (pi_list (pv 4)) (pg_name (i := 7) sc__law_ends.nd rfl (Or.inr rfl))
      (pss_one (ps_for PassesOwn.never rfl (pi_str (pv 0)) (pg_name (i := 8) sc__law_ends.nd rfl (Or.inr rfl))
        (pss_one (ps_if (pt_not (pt_val (pe_callB (cr_any rfl) (by rfl) T.b_any (by decide +kernel) (pa_cons (pe_lc (own := [("_law_rule", 9)]) (g := gName 9) (tt := tYes) rfl sc__law_ends.nd (pi_tup (pv 1)) (blkOk_by (N := ["_law_signs", "_law_rules", "_law_size", "_law_told", "_law_level", "_law_k", "_law_later", "_law_text_here", "_law_sign", "_law_rule"]) (sc := defScope s__law_ends) (by decide +kernel)) (fun _ _ _ _ _ => (pg_name (i := 9) sc__law_ends.nd rfl (Or.inl rfl))) (fun _ _ _ _ _ => pts_nil) (fun _ _ _ _ _ => (pe_m1 PySem.F.slot_str_endswith PySem.F.type_str_endswith mt_endswith (pe_op op_add_str (pv 7) (pv 8)) (pe_ix ix_tupB (pv 9) pe_int (fun _ _ => rfl))))) pa_nil))))
          (pss_one (ps_expr (pe_bm PySem.F.plainAttrs_list PySem.F.slot_list_append PySem.F.type_list_append mt_append (pv 6) (pa_cons (pe_op op_add_str (pv 7) (pv 8)) pa_nil))))
          pss_nil)))))
    (pss_cons (ps_set (i := 4) sc__law_ends.nd rfl (Or.inl rfl) (pe_callTy call_list_of (by rfl) T.b_list (by decide +kernel) (pa_cons (pv 6) pa_nil)))
    (pss_one (ps_set (i := 3) sc__law_ends.nd rfl (Or.inl rfl) (pe_op op_cat (pv 3) (pv 4))))))))
  (pss_one (ps_ret (pv 3)))))), ?_⟩
    refine ⟨by walk_at "sz", fun p1 hp1 => ?_⟩
    have s1 := same_new (o := .lst [.str (Str.ofString "")]) hp1
    have e1 : (upd H p1 (.lst [.str (Str.ofString "")])) p1 = some (.lst (([[]] : List (List Nat)).map vS)) := upd_same
    generalize upd H p1 (.lst [.str (Str.ofString "")]) = H1 at s1 e1 ⊢
    walk_at "nx"
    refine ⟨by walk_at "sz", fun p2 hp2 => ?_⟩
    have s2 := same_new (o := .lst [.str (Str.ofString "")]) hp2
    have e2 : (upd H1 p2 (.lst [.str (Str.ofString "")])) p2 = some (.lst (([[]] : List (List Nat)).map vS)) := upd_same
    have e12 := s2 _ _ e1
    generalize upd H1 p2 (.lst [.str (Str.ofString "")]) = H2 at s2 e2 e12 ⊢
    walk_at "nx"
    refine ⟨_, rfl, _, rfl, (rng_ok (n := n) (by omega)).1, (rng_ok (n := n) (by omega)).2, ?_⟩
    refine for_range (lo := 0) (n := ((n : Nat) : Int).toNat) (fun kk σ H3 => ∃ (pt pl : Addr) (ts ls : List (List Nat)) (v5 v6 v7 v8 v9 : Option V), σ = [some (.str (S sg)), some (.ref l), some (.int (n : Nat)), some (.ref pt), some (.ref pl), v5, v6, v7, v8, v9] ∧ Same H H3 ∧ H3 pt = some (.lst (ts.map vS)) ∧ H3 pl = some (.lst (ls.map vS)) ∧ (∀ t ∈ ts, t.length ≤ 3 ∧ ∀ c ∈ t, c ∈ sg) ∧ (∀ t ∈ ls, t.length ≤ kk ∧ ∀ c ∈ t, c ∈ sg) ∧ ls.length ≤ 8 ^ kk ∧ ts.length ≤ 1 + 512 * kk)
      ⟨p1, p2, [[]], [[]], _, _, _, _, _, rfl, s1.trans s2, e12, e2, fun t ht => by rw [List.mem_singleton.mp ht]; exact ⟨by decide, fun c hc => (by cases hc)⟩, fun t ht => by rw [List.mem_singleton.mp ht]; exact ⟨by decide, fun c hc => (by cases hc)⟩, by decide, by decide⟩ ?_ ?_
    · rintro kk σ H3 hk ⟨pt, pl, ts, ls, v5, v6, v7, v8, v9, rfl, s3, hpt, hpl, hts, hls, hll, htl⟩
      have hk3 : kk < 3 := by omega
      have h8 : 8 ^ kk ≤ 64 := by
        have : kk = 0 ∨ kk = 1 ∨ kk = 2 := by omega
        rcases this with rfl | rfl | rfl <;> decide
      rw [Int.zero_add]
      walk_at "nx"
      refine ⟨by walk_at "sz", fun lp hlp => ?_⟩
      have s4 := same_new (o := .lst []) hlp
      have e4 : (upd H3 lp (.lst [])) lp = some (.lst []) := upd_same
      have hlp0 : H lp = none := same_none s3 hlp
      have hpt4 := s4 _ _ hpt
      have hpl4 := s4 _ _ hpl
      have nll : pl ≠ lp := ne_of_none hpl hlp
      have ntl : pt ≠ lp := ne_of_none hpt hlp
      generalize upd H3 lp (.lst []) = H4 at s4 e4 hpt4 hpl4 ⊢
      have s04 := s3.trans s4
      walk_at "nx"
      refine ⟨_, rfl, pl, rfl, ⟨_, SqL.of hpl4⟩, ?_⟩
      refine for_lst (K := K) (a := pl) (f := vS) (l := ls) (fun pre σ H5 => ∃ (acc : List (List Nat)) (v7 v8 v9 : Option V), σ = [some (.str (S sg)), some (.ref l), some (.int (n : Nat)), some (.ref pt), some (.ref pl), some (.int (kk : Nat)), some (.ref lp), v7, v8, v9] ∧ Same H H5 ∧ H5 pt = some (.lst (ts.map vS)) ∧ H5 pl = some (.lst (ls.map vS)) ∧ H5 lp = some (.lst (acc.map vS)) ∧ (∀ t ∈ acc, t.length ≤ kk + 1 ∧ ∀ c ∈ t, c ∈ sg) ∧ acc.length ≤ pre.length * 8)
        ⟨[], _, _, _, rfl, s04, hpt4, hpl4, e4, fun t ht => absurd ht (by simp), Nat.le_refl _⟩ (fun pre σ H5 ⟨_, _, _, _, _, _, _, h, _⟩ => SqL.of h) ?_ ?_
      · clear v5 v6 v7 v8 v9
        rintro pre tx post σ H5 els ⟨acc, v7, v8, v9, rfl, s5, hpt5, hpl5, hlp5, hac, hal⟩
        have htx := hls tx (by rw [els]; simp)
        have hpre : pre.length + 1 ≤ 64 := by
          have := congrArg List.length els
          simp at this
          omega
        walk_at "nx"
        refine ⟨_, rfl, _, rfl, ?_⟩
        refine for_str (l := sg) (fun pre2 σ H5 => ∃ (acc : List (List Nat)) (v8 v9 : Option V), σ = [some (.str (S sg)), some (.ref l), some (.int (n : Nat)), some (.ref pt), some (.ref pl), some (.int (kk : Nat)), some (.ref lp), some (.str (S tx)), v8, v9] ∧ Same H H5 ∧ H5 pt = some (.lst (ts.map vS)) ∧ H5 pl = some (.lst (ls.map vS)) ∧ H5 lp = some (.lst (acc.map vS)) ∧ (∀ t ∈ acc, t.length ≤ kk + 1 ∧ ∀ c ∈ t, c ∈ sg) ∧ acc.length ≤ pre.length * 8 + pre2.length)
          ⟨acc, _, _, rfl, s5, hpt5, hpl5, hlp5, hac, by simpa using hal⟩ ?_ ?_
        · clear s5 hpt5 hpl5 hlp5 hac hal acc v7 v8 v9
          rintro pre2 c post2 σ H5 esg ⟨acc, v8, v9, rfl, s5, hpt5, hpl5, hlp5, hac, hal⟩
          have hcs : c ∈ sg := by rw [esg]; simp
          have hpre2 : pre2.length + 1 ≤ 8 := by
            have := congrArg List.length esg
            simp at this
            omega
          walk_at "nx"
          refine if_JB (fun b H' => Same H5 H') (fun Q' hQ => ?_) (fun H6 s6 => ?_) (fun H6 s6 => ?_)
          · refine ⟨_, rfl, l, rfl, ⟨_, SqT.of (s5 _ _ hl)⟩, fun D hD => lc_tupR (K := K) (a := l) (xs := zs) (l := R) (Rel := RuV) it.1 (fun pre H6 => ∃ bs : List Bool, bs.length = pre.length ∧ H6 D = some (.lst (bs.map V.bl)) ∧ Same H5 H6) ⟨[], rfl, upd_same, same_new hD⟩
              (fun pre H6 ⟨_, _, _, s6⟩ => ⟨SqT.of (s6 _ _ (s5 _ _ hl)), fun i x y h1 h2 => let ⟨q, e, z⟩ := it.2 i x y h1 h2; ⟨q, e, s6 _ _ (s5 _ _ z)⟩⟩) ?_ ?_⟩
            · rintro pre3 r post3 x H6 e3 hx ⟨q, rfl, hq⟩ ⟨bs, hbl, h6, s6⟩
              have hpl3 : pre3.length + 1 ≤ 64 := by
                have := congrArg List.length e3
                simp at this
                omega
              refine ⟨rfl, ty_T ?_⟩
              refine ⟨_, rfl, _, rfl, S tx, S [c], rfl, rfl, by rw [S_len, S_len, List.length_singleton]; exact Nat.le_trans (m := 10) (by omega) (by decide), ?_⟩
              refine ⟨⟨_, rfl⟩, _, rfl, ⟨q, _, _, _, rfl, rfl, SqT.of hq, rfl, ?_⟩⟩
              refine ⟨_, _, rfl, rfl, ?_⟩
              refine ⟨_, h6, by rw [List.length_map, hbl]; exact Nat.lt_of_le_of_lt (m := 64) (by omega) (by decide), bs ++ [Txt.endswith (S tx ++ S [c]) (S r.1)], by rw [List.length_append, hbl, List.length_append]; rfl, ?_, same_mut s6 hD⟩
              rw [upd_same, List.map_append]
              rfl
            · rintro H6 ⟨bs, hbl, h6, s6⟩
              refine tNil_mk ?_
              refine ⟨D, bs, rfl, SqL.of h6, ?_⟩
              exact ⟨_, rfl, hQ _ _ s6⟩
          · have hlp6 := s6 _ _ hlp5
            walk_at "nx"
            refine ⟨_, rfl, .inl ⟨rfl, _, SqL.of hlp6⟩, ?_⟩
            refine ⟨_, rfl, _, rfl, S tx, S [c], rfl, rfl, by rw [S_len, S_len, List.length_singleton]; exact Nat.le_trans (m := 10) (by omega) (by decide), ?_⟩
            rw [S_cat]
            refine tNil_mk ?_
            refine ⟨lp, _, _, rfl, rfl, hlp6, by rw [List.length_map]; exact Nat.lt_of_le_of_lt (m := 1000) (by omega) (by decide), ?_⟩
            refine ⟨acc ++ [tx ++ [c]], _, _, rfl, same_mut (s5.trans s6) hlp0, by rw [upd_ne ntl]; exact s6 _ _ hpt5, by rw [upd_ne nll]; exact s6 _ _ hpl5, by rw [upd_same, List.map_append]; rfl, fun t ht => ?_, by rw [List.length_append, List.length_append]; show acc.length + 1 ≤ _ + (_ + 1); omega⟩
            rcases List.mem_append.mp ht with z | z
            · exact hac t z
            · rw [List.mem_singleton.mp z]
              refine ⟨by rw [List.length_append, List.length_singleton]; omega, fun x hx => ?_⟩
              rcases List.mem_append.mp hx with y | y
              · exact htx.2 x y
              · rw [List.mem_singleton.mp y]; exact hcs
          · walk_at "nx"
            refine ⟨acc, _, _, rfl, s5.trans s6, s6 _ _ hpt5, s6 _ _ hpl5, s6 _ _ hlp5, hac, by rw [List.length_append, List.length_singleton]; omega⟩
        · rintro σ H5 ⟨acc, v8, v9, rfl, s5, hpt5, hpl5, hlp5, hac, hal⟩
          exact ⟨acc, _, _, _, rfl, s5, hpt5, hpl5, hlp5, hac, by rw [List.length_append, List.length_singleton]; omega⟩
      · clear v5 v6 v7 v8 v9
        rintro σ H5 ⟨acc, v7, v8, v9, rfl, s5, hpt5, hpl5, hlp5, hac, hal⟩
        walk_at "nx"
        refine ⟨_, rfl, ?_⟩
        refine tNil_mk ?_
        refine ⟨lp, _, rfl, .inl (SqL.of hlp5), fun np hnp => ?_⟩
        have s6 := same_new (o := .lst (acc.map vS)) hnp
        have e6 : (upd H5 np (.lst (acc.map vS))) np = some (.lst (acc.map vS)) := upd_same
        have hpt6 := s6 _ _ hpt5
        generalize upd H5 np (.lst (acc.map vS)) = H6 at s6 e6 hpt6 ⊢
        walk_at "nx"
        have hal2 : acc.length ≤ 512 := Nat.le_trans hal (Nat.le_trans (Nat.mul_le_mul_right 8 hll) (by omega))
        refine ⟨_, rfl, _, rfl, pt, np, _, _, rfl, rfl, hpt6, e6, by rw [List.length_map, List.length_map]; exact Nat.le_trans (m := 3000) (by omega) (by decide), fun nt hnt => ?_⟩
        refine ⟨nt, np, ts ++ acc, acc, _, _, _, _, _, rfl, (s5.trans s6).trans (same_new hnt), by rw [upd_same, List.map_append], by rw [upd_ne (ne_of_none e6 hnt)]; exact e6, fun t ht => ?_, hac, ?_, by rw [List.length_append]; omega⟩
        · rcases List.mem_append.mp ht with z | z
          · exact hts t z
          · exact ⟨by have := (hac t z).1; omega, (hac t z).2⟩
        · rw [Nat.pow_succ]
          exact Nat.le_trans hal (Nat.mul_le_mul_right 8 hll)
    · rintro σ H3 ⟨pt, pl, ts, ls, v5, v6, v7, v8, v9, rfl, s3, hpt, hpl, hts, hls, hll, htl⟩
      walk_at "rd"
      exact k pt ts H3 hpt hts s3
/-- the law's own core -/
def spLCore (K : PySem.W.Frag) : Sp := fun vs H Q _ => ∃ (l : Addr) (sh : List (Nat × Nat)) (sg : List Nat) (ar : List Arr) (R : List Ru) (zs : List V) (t : List Nat), vs = [.ref l, .str (S t)] ∧ GB sh sg ar R ∧ H l = some (.tup zs) ∧ Items RuV H zs R ∧ (∀ c ∈ t, c ∈ sg) ∧ t.length ≤ 100 ∧
  ∀ (core : List Nat) (H' : Hp), Core R sg core → Cnj R sg t core → core.length ≤ t.length → Same H H' → Q (.str (S core)) H'
theorem Bk_len {sh : List (Nat × Nat)} {sg : List Nat} {ar : List Arr} {R : List Ru} (G : GB sh sg ar R) {x : List Nat} {c : Nat} (h : Adj R ((x ++ [c]) ++ (x ++ [c]))) : (left R ([c] ++ x)).length = (x ++ [c]).length := by
  have hr : Rot (x ++ [c]) ([c] ++ x) := ⟨x, [c], rfl, rfl⟩
  rw [G.lf_adj (adj_l (rot_adj hr h))]
  simp [Nat.add_comm]
theorem c__law_core (T : Txt K mg) : Cal P w K mg base CX0 2 "_law_core" (spLCore K) := by
  have c__law_left := c__law_left (P := P) (w := w) (base := base) T
  refine Cal.mk0 T.d__law_core sc__law_core (fun vs H Q E h => ?_) (fun f cdv A outer s H vs Q E hr h => ?_)
  · obtain ⟨l, sh, sg, ar, R, zs, t, rfl, _⟩ := h
    rfl
  · obtain ⟨l, sh, sg, ar, R, zs, t, rfl, G, hl, it, htc, htl, k⟩ := h
    have hu := hu_of hr
    have hRl := G.ok.2.1
    have hw := G.ok.wf
    have h4 : ∀ r ∈ R, r.1.length ≤ 4 := fun r hr => (G.ok.2.2.1 r hr).2.1
    have hlim : (1000 : Nat) ≤ sizeLine := by decide
    have itK : ∀ H', Same H H' → Items (RItem K) H' zs R := fun H' s => Items.imp it fun x y ⟨q, e, z⟩ => ⟨q, e, SqT.of (s _ _ z)⟩
    refine ⟨_, (pss_cons (ps_set (i := 2) sc__law_core.nd rfl (Or.inl rfl) (pe_c c__law_left hr (by decide) rfl (pa_cons (pv 0) (pa_cons (pv 1) pa_nil))))
  (pss_cons (ps_for PassesOwn.never rfl (pi_range1 (by rfl) T.b_range (pa_cons (pe_callB call_len_str (by rfl) T.b_len (by decide +kernel) (pa_cons (pv 2) pa_nil)) pa_nil)) (pg_name (i := 3) sc__law_core.nd rfl (Or.inl rfl))
    (pss_cons (ps_set (i := 4) sc__law_core.nd rfl (Or.inl rfl) (pe_ifExp (pt_cmpR op_gt (pe_callB call_len_str (by rfl) T.b_len (by decide +kernel) (pa_cons (pv 2) pa_nil)) pe_int (nomark _)) (pe_c c__law_left hr (by decide) rfl (pa_cons (pv 0) (pa_cons (pe_op op_add_str (pe_slice sl_str (pv 2) (po_some (pe_op op_sub (pe_callB call_len_str (by rfl) T.b_len (by decide +kernel) (pa_cons (pv 2) pa_nil)) pe_int)) po_none) (pe_slice sl_str (pv 2) po_none (po_some (pe_op op_sub (pe_callB call_len_str (by rfl) T.b_len (by decide +kernel) (pa_cons (pv 2) pa_nil)) pe_int)))) pa_nil))) (pv 2)))
    (pss_one (ps_if (pt_cmpR op_lt (pe_callB call_len_str (by rfl) T.b_len (by decide +kernel) (pa_cons (pv 4) pa_nil)) (pe_callB call_len_str (by rfl) T.b_len (by decide +kernel) (pa_cons (pv 2) pa_nil)) (nomark _))
      (pss_one (ps_set (i := 2) sc__law_core.nd rfl (Or.inl rfl) (pv 4)))
      pss_nil))))
  (pss_one (ps_ret (pv 2))))), ?_⟩
    refine ⟨_, rfl, _, rfl, l, zs, R, t, rfl, .inr (SqT.of hl), itK _ fun _ _ h => h, hRl, hw, h4, by omega, fun H1 s1 => ?_⟩
    have hI0 : RInv G t [] (left R t) := ⟨fun c hc => (by cases hc), G.left_sub htc, Bk.left_end G.ok.wf t, by
      show Eq2 R t ([] ++ left R t ++ [])
      rw [List.append_nil]
      exact (G.lf t).symm, by have := G.left_len t; simpa using this⟩
    have hll := G.left_len t
    walk_at "nx"
    refine ⟨_, rfl, ?_⟩
    refine tNil_mk ?_
    refine ⟨_, rfl, sz_S (by omega), ?_⟩
    refine tNil_mk ?_
    rw [S_len]
    refine ⟨_, rfl, (rng_ok (n := (left R t).length) (by omega)).1, (rng_ok (n := (left R t).length) (by omega)).2, ?_⟩
    refine for_range (lo := 0) (n := (((left R t).length : Nat) : Int).toNat) (fun i σ H2 => ∃ (core y : List Nat) (v3 v4 : Option V), σ = [some (.ref l), some (.str (S t)), some (.str (S core)), v3, v4] ∧ Same H H2 ∧ RInv G t y core ∧ (core.length + i ≤ (left R t).length ∨ (2 ≤ core.length → Adj R (core ++ core))))
      ⟨_, [], _, _, rfl, s1, hI0, .inl (by omega)⟩ ?_ ?_
    · rintro i σ H2 hi ⟨core, y, v3, v4, rfl, s2, hI, hor⟩
      have hcl := hI.ln
      rw [Int.zero_add]
      walk_at "nx"
      by_cases h2 : 2 ≤ core.length
      · obtain ⟨x, c, rfl⟩ : ∃ x c, core = x ++ [c] := ⟨core.dropLast, core.getLast (by intro e; rw [e] at h2; simp at h2), (List.dropLast_concat_getLast _).symm⟩
        have hxl : (x ++ [c]).length = x.length + 1 := by simp
        have hxn : x ≠ [] := by intro e; rw [e] at h2; simp at h2
        have hml := G.left_len ([c] ++ x)
        rw [List.length_append, List.length_singleton] at hml
        refine st_asgJ (fun v H3 => v = .str (S (left R ([c] ++ x))) ∧ Same H2 H3) (fun Q' hQ => ?_) (fun v H3 hv => ?_)
        · have hsx : (S (x ++ [c])).length ≤ sizeLine := sz_S (by omega)
          have hsl := S_len (x ++ [c])
          refine ⟨_, rfl, ?_⟩
          refine tNil_mk ?_
          refine ⟨_, rfl, hsx, ?_⟩
          refine ⟨_, _, rfl, rfl, _, rfl, ?_⟩
          rw [hsl, show decide ((1 : Int) < (((x ++ [c]).length : Nat) : Int)) = true from decide_eq_true (by omega)]
          refine iteT ?_
          refine ⟨_, rfl, _, rfl, _, rfl, ?_⟩
          refine tNil_mk ?_
          refine ⟨_, rfl, hsx, ?_⟩
          refine ⟨_, _, rfl, rfl, ?_⟩
          refine ⟨_, rfl, S (x ++ [c]), rfl, hsx, ?_⟩
          rw [cut_from (by rw [hsl]; omega), hsl, show ((((x ++ [c]).length : Nat) : Int) - 1).toNat = x.length by omega, List.drop_left]
          refine ⟨_, rfl, _, rfl, ?_⟩
          refine tNil_mk ?_
          refine ⟨_, rfl, hsx, ?_⟩
          refine ⟨_, _, rfl, rfl, ?_⟩
          refine ⟨_, rfl, S (x ++ [c]), rfl, hsx, ?_⟩
          rw [cut_to (by rw [hsl]; omega), hsl, show ((((x ++ [c]).length : Nat) : Int) - 1).toNat = x.length by omega, List.take_left]
          refine ⟨S [c], S x, rfl, rfl, by rw [S_len, S_len, List.length_singleton]; exact Nat.le_trans (m := 1000) (by omega) hlim, ?_⟩
          rw [S_cat]
          refine tNil_mk ?_
          refine ⟨l, zs, R, [c] ++ x, rfl, .inr (SqT.of (s2 _ _ hl)), itK _ s2, hRl, hw, h4, by rw [List.length_append, List.length_singleton]; omega, fun H3 s3 => ?_⟩
          exact hQ _ _ ⟨rfl, s3⟩
        · obtain ⟨rfl, s3⟩ := hv
          walk_at "nx"
          refine if_K (decide ((left R ([c] ++ x)).length < (x ++ [c]).length)) (fun Q' hQ => ?_) (fun hc => ?_) (fun hc => ?_)
          · refine ⟨_, rfl, ?_⟩
            refine tNil_mk ?_
            refine ⟨_, rfl, sz_S (by omega), ?_⟩
            refine ⟨_, rfl, ?_⟩
            refine tNil_mk ?_
            refine ⟨_, rfl, sz_S (by omega), ?_⟩
            refine ⟨_, _, rfl, rfl, _, rfl, ?_⟩
            rw [S_len, S_len, show decide ((((left R ([c] ++ x)).length : Nat) : Int) < (((x ++ [c]).length : Nat) : Int)) = decide ((left R ([c] ++ x)).length < (x ++ [c]).length) from decide_eq_decide.mpr ⟨fun z => by omega, fun z => by omega⟩]
            exact hQ
          · have hlt := of_decide_eq_true hc
            walk_at "nx"
            refine ⟨_, rfl, ?_⟩
            refine ⟨_, y ++ [uS R sg c], _, _, rfl, s2.trans s3, hI.step hlt, .inl ?_⟩
            rcases hor with h | h
            · omega
            · have := Bk_len G (h h2)
              omega
          · have hge : (x ++ [c]).length ≤ (left R ([c] ++ x)).length := by have := of_decide_eq_false hc; omega
            walk_at "nx"
            exact ⟨_, y, _, _, rfl, s2.trans s3, hI, .inr fun _ => G.round_end hxn hI.ce hge⟩
      · refine st_asgJ (fun v H3 => v = .str (S core) ∧ Same H2 H3) (fun Q' hQ => ?_) (fun v H3 hv => ?_)
        · refine ⟨_, rfl, ?_⟩
          refine tNil_mk ?_
          refine ⟨_, rfl, sz_S (by omega), ?_⟩
          refine ⟨_, _, rfl, rfl, _, rfl, ?_⟩
          rw [S_len, show decide ((1 : Int) < ((core.length : Nat) : Int)) = false from decide_eq_false (by omega)]
          refine iteF ?_
          exact ⟨_, rfl, hQ _ _ ⟨rfl, fun _ _ h => h⟩⟩
        · obtain ⟨rfl, s3⟩ := hv
          walk_at "nx"
          refine if_K false (fun Q' hQ => ?_) (fun z => by cases z) (fun _ => ?_)
          · refine ⟨_, rfl, ?_⟩
            refine tNil_mk ?_
            refine ⟨_, rfl, sz_S (by omega), ?_⟩
            refine ⟨_, rfl, ?_⟩
            refine tNil_mk ?_
            refine ⟨_, rfl, sz_S (by omega), ?_⟩
            refine ⟨_, _, rfl, rfl, _, rfl, ?_⟩
            rw [decide_eq_false (Int.lt_irrefl _)]
            exact hQ
          · walk_at "nx"
            exact ⟨_, y, _, _, rfl, s2.trans s3, hI, .inr fun z => absurd z h2⟩
    · rintro σ H2 ⟨core, y, v3, v4, rfl, s2, hI, hor⟩
      have hcl := hI.ln
      have hcyc : 2 ≤ core.length → Adj R (core ++ core) := fun z => by
        rcases hor with h | h
        · exfalso; omega
        · exact h z
      walk_at "rd"
      have hR := hI.done hcyc
      exact k core H2 (Rnd.core G hR) (G.cnj_rnd hR) (by omega) s2
end
end Sh
set_option Elab.async false
set_option linter.all false
set_option maxRecDepth 100000
set_option maxHeartbeats 4000000
namespace Sh
open PySem PySem.Spec PyProof.Rows L2
open SX (S S_inj S_len S_cat)
open Bk (Rule left Wf Meets Reach Step IsEnd)
local macro_rules | `(tactic| walk_at "nx") => `(tactic| repeat (with_reducible first | refine Sh.gn_mk ?_ | refine Sh.nx_mk ?_ | refine Sh.st_nx ?_ | refine Sh.rt_mk ?_ | refine Sh.ct_mk ?_ | refine Sh.bk_mk ?_))
local macro_rules | `(tactic| walk_at "sq") => `(tactic| first | exact SqL.of upd_same | exact SqT.of upd_same | exact SqL.of (by assumption) | exact SqT.of (by assumption) | assumption | exact Or.inl (SqL.of (by assumption)) | exact Or.inr (SqT.of (by assumption)) | exact Or.inl (by assumption) | exact Or.inr (by assumption))
local macro_rules | `(tactic| walk_at "hp") => `(tactic| first | exact upd_same | assumption)
local macro_rules | `(tactic| walk_at "sz") => `(tactic| first | exact Nat.le_of_ble_eq_true rfl | omega)
local macro_rules | `(tactic| walk_at "sd") => `(tactic| first | omega | exact rfl | assumption | (show (0 : Int) < _; omega) | exact And.intro (by omega) (by omega) | exact Or.inl (And.intro (by omega) (by omega)) | exact Or.inr (And.intro (by omega) (by omega)) | omega | exact Sh.sz_S (by omega) | decide)
local macro_rules | `(tactic| walk_at "rd1") => `(tactic| first
  | (with_reducible first | refine Sh.gn_mk ?_ | refine Sh.nx_mk ?_ | refine Sh.st_nx ?_ | refine Sh.rt_mk ?_ | refine Sh.ct_mk ?_ | refine Sh.bk_mk ?_)
  | refine Exists.intro (α := V) _ (And.intro rfl ?_)
  | refine Exists.intro (α := Bool) _ (And.intro rfl ?_)
  | refine Exists.intro (α := Int) _ (And.intro rfl ?_)
  | refine Exists.intro (α := PySem.Str) _ (And.intro rfl ?_)
  | refine Exists.intro (α := Int) _ (Exists.intro (α := Int) _ (And.intro rfl (And.intro rfl ?_)))
  | refine Exists.intro (α := PySem.Str) _ (Exists.intro (α := PySem.Str) _ (And.intro rfl (And.intro rfl ?_)))
  | refine Exists.intro (α := Int) _ (Exists.intro (α := Int) _ (And.intro rfl ?_))
  | refine Or.inl (Exists.intro (α := Int) _ (And.intro rfl ?_))
  | refine Exists.intro _ (Exists.intro _ (Exists.intro _ (Exists.intro _ (And.intro rfl (And.intro rfl (And.intro (by walk_at "sq") (And.intro rfl ?_)))))))
  | refine Exists.intro _ (Exists.intro _ (Exists.intro _ (Exists.intro _ (And.intro rfl (And.intro rfl (And.intro (by walk_at "hp") (And.intro rfl ?_)))))))
  | refine And.intro (by walk_at "sd") ?_
  )
local macro_rules | `(tactic| walk_at "rd") => `(tactic| repeat walk_at "rd1")
local macro_rules | `(tactic| walk_at "lk") => `(tactic| first | exact rfl | (rw [lookup_putF, if_pos rfl]) | (rw [lookup_putF, if_neg (by decide +kernel)]; walk_at "lk"))

section
variable {sh : List (Nat × Nat)} {sg : List Nat} {ar : List Arr} {R : List Ru} (G : GB sh sg ar R)
include G
theorem GB.cnj_cores {t t2 c1 c2 : List Nat} (h1 : Cnj R sg t c1) (h2 : Cnj R sg t2 c2) : Cnj R sg t t2 ↔ Cnj R sg c1 c2 :=
  ⟨fun h => G.cnj_trans (G.cnj_symm h1) (G.cnj_trans h h2), fun h => G.cnj_trans h1 (G.cnj_trans h (G.cnj_symm h2))⟩
theorem GB.due_one {c1 c2 : List Nat} (a : Core R sg c1) (b : Core R sg c2) (h : c1.length = 1) {near : List (List Nat)} (hn : ∀ s : List Nat, s ∈ near ↔ (s = [] ∨ ∃ c ∈ sg, s = [c])) : (∃ x ∈ near, Eq2 R (c1 ++ x) (x ++ c2)) ↔ Cnj R sg c1 c2 := by
  constructor
  · rintro ⟨x, hx, e⟩
    refine ⟨x, ?_, e⟩
    rcases (hn x).mp hx with rfl | ⟨c, hc, rfl⟩
    · simp
    · intro d hd
      rw [List.mem_singleton.mp hd]
      exact hc
  · intro z
    obtain ⟨_, k1, k2⟩ := G.core_cnj a b z
    cases hl : loopB sg ar c1 with
    | true =>
      obtain ⟨s, hs, e⟩ := k1 hl
      exact ⟨s, (hn s).mpr hs, e⟩
    | false =>
      obtain ⟨j, hj, e⟩ := (k2 hl).at (by intro e; rw [e] at h; cases h)
      have : j = 0 := by omega
      subst this
      refine ⟨[], (hn []).mpr (.inl rfl), ?_⟩
      simp at e
      rw [e, List.append_nil]
      rfl
theorem GB.due_rot {c1 c2 : List Nat} (a : Core R sg c1) (b : Core R sg c2) (h : c1.length ≠ 1) : (c1 = c2 ∨ ∃ k < c1.length, c1.drop k ++ c1.take k = c2) ↔ Cnj R sg c1 c2 := by
  constructor
  · rintro (rfl | ⟨k, hk, rfl⟩)
    · exact G.cnj_eq rfl
    · have := cnj_rot (R := R) (a := c1.take k) (b := c1.drop k) fun c hc => a.s c (List.mem_of_mem_take hc)
      rwa [List.take_append_drop] at this
  · intro z
    obtain ⟨k0, k1, k2⟩ := G.core_cnj a b z
    have hl : loopB sg ar c1 = false := by
      match c1, h with
      | [], _ => rfl
      | [_], h => exact absurd rfl h
      | _ :: _ :: _, _ => rfl
    by_cases hn : c1 = []
    · subst hn
      exact .inl (List.eq_nil_of_length_eq_zero k0.symm).symm
    · exact .inr ((k2 hl).at hn)
end
section
variable {P : Program} {w : World} {K : PySem.W.Frag} {mg : Str → Option Value} {base : Heap} {CB CE : Addr}
def spDue (K : PySem.W.Frag) : Sp := fun vs H Q _ => ∃ (l : Addr) (sh : List (Nat × Nat)) (sg : List Nat) (ar : List Arr) (R : List Ru) (zs : List V) (t t2 : List Nat), vs = [.str (S sg), .ref l, .str (S t), .str (S t2)] ∧ GB sh sg ar R ∧ H l = some (.tup zs) ∧ Items RuV H zs R ∧ (∀ c ∈ t, c ∈ sg) ∧ t.length ≤ 60 ∧ (∀ c ∈ t2, c ∈ sg) ∧ t2.length ≤ 60 ∧
  ∀ (b : Bool) (H' : Hp), (b = true ↔ Cnj R sg t t2) → Same H H' → Q (.bl b) H'
theorem c__law_due (T : Txt K mg) : Cal P w K mg base CX0 3 "_law_due" (spDue K) := by
  have c__law_core := c__law_core (P := P) (w := w) (base := base) T
  have c__law_left := c__law_left (P := P) (w := w) (base := base) T
  refine Cal.mk0 T.d__law_due sc__law_due (fun vs H Q E h => ?_) (fun f cdv A outer s H vs Q E hr h => ?_)
  · obtain ⟨l, sh, sg, ar, R, zs, t, t2, rfl, _⟩ := h
    rfl
  · obtain ⟨l, sh, sg, ar, R, zs, t, t2, rfl, G, hl, it, htc, htl, htc2, htl2, k⟩ := h
    have hu := hu_of hr
    have hRl := G.ok.2.1
    have hw := G.ok.wf
    have h4 : ∀ r ∈ R, r.1.length ≤ 4 := fun r hr => (G.ok.2.2.1 r hr).2.1
    have hlim : (1000 : Nat) ≤ sizeLine := by decide
    have itK : ∀ H', Same H H' → Items (RItem K) H' zs R := fun H' s => Items.imp it fun x y ⟨q, e, z⟩ => ⟨q, e, SqT.of (s _ _ z)⟩
    have itS : ∀ H', Same H H' → Items RuV H' zs R := fun H' s => it.mono fun x y ⟨q, e, z⟩ => ⟨q, e, s _ _ z⟩
    obtain ⟨hs1, hs8⟩ := signs_len G.ok.1
    refine ⟨_, (pss_cons (ps_asg (pe_tup (pa_cons (pe_c c__law_core hr (by decide) rfl (pa_cons (pv 1) (pa_cons (pv 2) pa_nil))) (pa_cons (pe_c c__law_core hr (by decide) rfl (pa_cons (pv 1) (pa_cons (pv 3) pa_nil))) pa_nil))) (pg_tup (by rfl) (pgs_cons (pg_name (i := 4) sc__law_due.nd rfl (Or.inr rfl)) (pgs_cons (pg_name (i := 5) sc__law_due.nd rfl (Or.inr rfl)) pgs_nil))))
  (pss_cons (ps_if (pt_cmpR op_ne (pe_callB call_len_str (by rfl) T.b_len (by decide +kernel) (pa_cons (pv 4) pa_nil)) (pe_callB call_len_str (by rfl) T.b_len (by decide +kernel) (pa_cons (pv 5) pa_nil)) (nomark _))
    (pss_one (ps_ret pe_bl))
    pss_nil)
  (pss_cons (ps_if (pt_cmpR op_eq (pe_callB call_len_str (by rfl) T.b_len (by decide +kernel) (pa_cons (pv 4) pa_nil)) pe_int (nomark _))
    (pss_cons (ps_set (i := 6) sc__law_due.nd rfl (Or.inl rfl) (pe_op op_cat (pe_lst (pa_cons pe_str pa_nil)) (pe_lc (own := [("_law_sign", 7)]) (g := gName 7) (tt := tYes) rfl sc__law_due.nd (pi_str (pv 0)) (blkOk_by (N := ["_law_signs", "_law_rules", "_law_one", "_law_other", "_law_first", "_law_second", "_law_near", "_law_sign", "_law_x", "_law_k"]) (sc := defScope s__law_due) (by decide +kernel)) (fun _ _ _ _ _ => (pg_name (i := 7) sc__law_due.nd rfl (Or.inl rfl))) (fun _ _ _ _ _ => pts_nil) (fun _ _ _ _ _ => (pv 7)))))
    (pss_one (ps_ret (pe_cmpR op_gt (pe_callB call_len_seq (by rfl) T.b_len (by decide +kernel) (pa_cons (pe_lc (own := [("_law_x", 8)]) (g := gName 8) rfl sc__law_due.nd (pi_list (pv 6)) (blkOk_by (N := ["_law_signs", "_law_rules", "_law_one", "_law_other", "_law_first", "_law_second", "_law_near", "_law_sign", "_law_x", "_law_k"]) (sc := defScope s__law_due) (by decide +kernel)) (fun _ _ _ _ _ => (pg_name (i := 8) sc__law_due.nd rfl (Or.inl rfl))) (fun _ _ _ _ _ => (pts_one (pt_cmpR op_eq (pe_c c__law_left hr (by decide) rfl (pa_cons (pv 1) (pa_cons (pe_op op_add_str (pv 4) (pv 8)) pa_nil))) (pe_c c__law_left hr (by decide) rfl (pa_cons (pv 1) (pa_cons (pe_op op_add_str (pv 8) (pv 5)) pa_nil))) (nomark _)))) (fun _ _ _ _ _ => (pv 8))) pa_nil)) pe_int (nomark _)))))
    pss_nil)
  (pss_one (ps_ret (pe_or (pe_cmpR op_eq (pv 4) (pv 5) (nomark _)) (pe_one (pe_cmpR op_gt (pe_callB call_len_seq (by rfl) T.b_len (by decide +kernel) (pa_cons (pe_lc (own := [("_law_k", 9)]) (g := gName 9) rfl sc__law_due.nd (pi_range1 (by rfl) T.b_range (pa_cons (pe_callB call_len_str (by rfl) T.b_len (by decide +kernel) (pa_cons (pv 4) pa_nil)) pa_nil)) (blkOk_by (N := ["_law_signs", "_law_rules", "_law_one", "_law_other", "_law_first", "_law_second", "_law_near", "_law_sign", "_law_x", "_law_k"]) (sc := defScope s__law_due) (by decide +kernel)) (fun _ _ _ _ _ => (pg_name (i := 9) sc__law_due.nd rfl (Or.inl rfl))) (fun _ _ _ _ _ => (pts_one (pt_cmpR op_eq (pe_op op_add_str (pe_slice sl_str (pv 4) (po_some (pv 9)) po_none) (pe_slice sl_str (pv 4) po_none (po_some (pv 9)))) (pv 5) (nomark _)))) (fun _ _ _ _ _ => (pv 9))) pa_nil)) pe_int (nomark _))))))))), ?_⟩
    refine ⟨_, rfl, _, rfl, l, sh, sg, ar, R, zs, t, rfl, G, hl, it, htc, by omega, fun c1 H1 hC1 hc1 hn1 s1 => ?_⟩
    refine ⟨_, rfl, _, rfl, l, sh, sg, ar, R, zs, t2, rfl, G, s1 _ _ hl, itS _ s1, htc2, by omega, fun c2 H2 hC2 hc2 hn2 s2 => ?_⟩
    have hiff := G.cnj_cores hc1 hc2
    refine tNil_mk ?_
    refine ⟨by walk_at "sz", fun pq hpq => ?_⟩
    have s3 := same_new (o := .tup [.str (S c1), .str (S c2)]) hpq
    have e3 : (upd H2 pq (.tup [.str (S c1), .str (S c2)])) pq = some (.tup [.str (S c1), .str (S c2)]) := upd_same
    generalize upd H2 pq (.tup [.str (S c1), .str (S c2)]) = H3 at s3 e3 ⊢
    have s02 := (s1.trans s2).trans s3
    clear s1 s2 s3
    refine ⟨pq, _, rfl, SqT.of e3, rfl, _, _, rfl, _, _, rfl, rfl, ?_⟩
    walk_at "nx"
    refine if_K (decide (c1.length ≠ c2.length)) (fun Q' hQ => ?_) (fun hc => ?_) (fun hc => ?_)
    · refine ⟨_, rfl, ?_⟩
      refine tNil_mk ?_
      refine ⟨_, rfl, sz_S (by omega), ?_⟩
      refine ⟨_, rfl, ?_⟩
      refine tNil_mk ?_
      refine ⟨_, rfl, sz_S (by omega), ?_⟩
      refine ⟨rfl, _, rfl, ?_⟩
      rw [S_len, S_len, dec_int, ← decide_not]
      exact hQ
    · have hne := of_decide_eq_true hc
      walk_at "rd"
      exact k false H3 ⟨fun z => (by cases z), fun z => absurd (G.core_cnj hC1 hC2 (hiff.mp z)).1 hne⟩ s02
    · have heq : c1.length = c2.length := Decidable.byContradiction fun z => of_decide_eq_false hc z
      walk_at "nx"
      refine if_K (decide (c1.length = 1)) (fun Q' hQ => ?_) (fun hc => ?_) (fun hc => ?_)
      · refine ⟨_, rfl, ?_⟩
        refine tNil_mk ?_
        refine ⟨_, rfl, sz_S (by omega), ?_⟩
        refine ⟨rfl, _, rfl, ?_⟩
        rw [S_len, show decide (V.int ((c1.length : Nat) : Int) = V.int 1) = decide (c1.length = 1) from dec_int c1.length 1]
        exact hQ
      · have h1 := of_decide_eq_true hc
        walk_at "nx"
        refine ⟨by walk_at "sz", fun p5 hp5 => ?_⟩
        have s2 := same_new (o := .lst [.str (Str.ofString "")]) hp5
        have e2 : (upd H3 p5 (.lst [.str (Str.ofString "")])) p5 = some (.lst [.str (Str.ofString "")]) := upd_same
        generalize upd H3 p5 (.lst [.str (Str.ofString "")]) = H4 at s2 e2 ⊢
        refine ⟨_, rfl, _, rfl, fun D hD => lc_str (l := sg) (fun pre H5 => H5 D = some (.lst (pre.map fun c => V.str (S [c]))) ∧ Same H4 H5) ⟨upd_same, same_new hD⟩ ?_ ?_⟩
        · rintro pre c post H5 e ⟨h5, s5⟩
          have hpl : pre.length + 1 ≤ 8 := by
            have := congrArg List.length e
            simp at this
            omega
          refine ⟨rfl, ty_T ?_⟩
          refine ⟨_, rfl, _, h5, ?_, ?_, same_mut s5 hD⟩
          · rw [List.length_map]
            exact Nat.lt_of_le_of_lt (m := 8) (by omega) (by decide)
          · rw [upd_same, List.map_append]
            rfl
        · rintro H5 ⟨h5, s5⟩
          refine ⟨p5, D, _, _, rfl, rfl, s5 _ _ e2, h5, by rw [List.length_map]; exact Nat.le_trans (m := 9) (by show 1 + sg.length ≤ 9; omega) (by decide), fun p6 hp6 => ?_⟩
          rw [show [V.str (Str.ofString "")] ++ (sg.map fun c => V.str (S [c])) = (([] :: sg.map fun c => [c]) : List (List Nat)).map vS by rw [List.map_cons, List.map_map]; rfl]
          have s6 := same_new (o := .lst ((([] :: sg.map fun c => [c]) : List (List Nat)).map vS)) hp6
          have e6 : (upd H5 p6 (.lst ((([] :: sg.map fun c => [c]) : List (List Nat)).map vS))) p6 = some (.lst ((([] :: sg.map fun c => [c]) : List (List Nat)).map vS)) := upd_same
          generalize upd H5 p6 (.lst ((([] :: sg.map fun c => [c]) : List (List Nat)).map vS)) = H6 at s6 e6 ⊢
          have s36 : Same H3 H6 := s2.trans (s5.trans s6)
          have hnm : ∀ s : List Nat, s ∈ (([] :: sg.map fun c => [c]) : List (List Nat)) ↔ (s = [] ∨ ∃ c ∈ sg, s = [c]) := fun s => by
            rw [List.mem_cons, List.mem_map]
            constructor
            · rintro (h | ⟨c, hc, rfl⟩)
              · exact .inl h
              · exact .inr ⟨c, hc, rfl⟩
            · rintro (h | ⟨c, hc, rfl⟩)
              · exact .inl h
              · exact .inr ⟨c, hc, rfl⟩
          have hnl : (([] :: sg.map fun c => [c]) : List (List Nat)).length ≤ 9 := by simp; omega
          generalize (([] :: sg.map fun c => [c]) : List (List Nat)) = near at e6 hnm hnl
          walk_at "nx"
          refine ⟨_, rfl, p6, rfl, ⟨_, SqL.of e6⟩, fun D2 hD2 => lc_lstF (K := K) (a := p6) (f := vS) (l := near) (fun pre H7 => H7 D2 = some (.lst ((pre.filter fun x => decide (left R (c1 ++ x) = left R (x ++ c2))).map vS)) ∧ Same H6 H7) ⟨upd_same, same_new hD2⟩
            (fun pre H7 ⟨_, s7⟩ => SqL.of (s7 _ _ e6)) ?_ ?_⟩
          · rintro pre x post H7 e ⟨h7, s7⟩
            have hpl : pre.length + 1 ≤ 9 := by
              have := congrArg List.length e
              simp at this
              omega
            have hx := (hnm x).mp (by rw [e]; simp)
            have hxl : x.length ≤ 1 := by
              rcases hx with rfl | ⟨c, _, rfl⟩ <;> simp
            have s07 := s02.trans (s36.trans s7)
            refine ⟨rfl, ?_⟩
            refine ⟨_, rfl, _, rfl, _, rfl, S c1, S x, rfl, rfl, by rw [S_len, S_len]; exact Nat.le_trans (m := 1000) (by omega) hlim, ?_⟩
            rw [S_cat]
            refine tNil_mk ?_
            refine ⟨l, zs, R, c1 ++ x, rfl, .inr (SqT.of (s07 _ _ hl)), itK _ s07, hRl, hw, h4, by rw [List.length_append]; omega, fun H8 s8 => ?_⟩
            refine ⟨_, rfl, _, rfl, _, rfl, S x, S c2, rfl, rfl, by rw [S_len, S_len]; exact Nat.le_trans (m := 1000) (by omega) hlim, ?_⟩
            rw [S_cat]
            refine tNil_mk ?_
            have s08 := s07.trans s8
            refine ⟨l, zs, R, x ++ c2, rfl, .inr (SqT.of (s08 _ _ hl)), itK _ s08, hRl, hw, h4, by rw [List.length_append]; omega, fun H9 s9 => ?_⟩
            refine ⟨rfl, _, rfl, ?_⟩
            rw [show decide (V.str (S (left R (c1 ++ x))) = V.str (S (left R (x ++ c2)))) = decide (left R (c1 ++ x) = left R (x ++ c2)) from decide_eq_decide.mpr ⟨fun z => S_inj (V.str.inj z), fun z => by rw [z]⟩]
            rw [List.filter_append]
            have s79 := s7.trans (s8.trans s9)
            have h9 := s9 _ _ (s8 _ _ h7)
            cases hcn : decide (left R (c1 ++ x) = left R (x ++ c2)) with
            | false =>
              refine iteF ?_
              rw [show [x].filter (fun x => decide (left R (c1 ++ x) = left R (x ++ c2))) = [] by simp [of_decide_eq_false hcn], List.append_nil]
              exact ⟨h9, s79⟩
            | true =>
              refine iteT ?_
              rw [show [x].filter (fun x => decide (left R (c1 ++ x) = left R (x ++ c2))) = [x] by simp [of_decide_eq_true hcn], List.map_append]
              refine ⟨_, rfl, _, h9, ?_, ?_, same_mut s79 hD2⟩
              · rw [List.length_map]
                have h1 := List.length_filter_le (fun x => decide (left R (c1 ++ x) = left R (x ++ c2))) pre
                exact Nat.lt_of_le_of_lt (m := 9) (by omega) (by decide)
              · rw [upd_same]
                rfl
          · rintro H7 ⟨h7, s7⟩
            refine tNil_mk ?_
            refine ⟨D2, _, rfl, .inl (SqL.of h7), ?_⟩
            refine ⟨_, _, rfl, rfl, ?_⟩
            refine k _ H7 ?_ (s02.trans (s36.trans s7))
            rw [decide_eq_true_eq, hiff, ← G.due_one hC1 hC2 h1 hnm, List.length_map]
            constructor
            · intro z
              obtain ⟨x, hx⟩ := List.exists_mem_of_length_pos (show 0 < (near.filter fun x => decide (left R (c1 ++ x) = left R (x ++ c2))).length by omega)
              obtain ⟨a1, a2⟩ := List.mem_filter.mp hx
              exact ⟨x, a1, (of_decide_eq_true a2 : left R (c1 ++ x) = left R (x ++ c2))⟩
            · rintro ⟨x, hx, e⟩
              have := List.length_pos_of_mem (show x ∈ near.filter fun x => decide (left R (c1 ++ x) = left R (x ++ c2)) from List.mem_filter.mpr ⟨hx, decide_eq_true (show left R (c1 ++ x) = left R (x ++ c2) from e)⟩)
              omega
      · have h1 := of_decide_eq_false hc
        walk_at "nx"
        refine ⟨_, rfl, _, rfl, rfl, ?_⟩
        refine ⟨_, rfl, ?_⟩
        rw [show decide (V.str (S c1) = V.str (S c2)) = decide (c1 = c2) from decide_eq_decide.mpr ⟨fun z => S_inj (V.str.inj z), fun z => by rw [z]⟩]
        have hrot := G.due_rot hC1 hC2 h1
        by_cases hce : c1 = c2
        · rw [decide_eq_true hce]
          refine iteT ?_
          exact k true H3 ⟨fun _ => hiff.mpr (hrot.mp (.inl hce)), fun _ => rfl⟩ s02
        · rw [decide_eq_false hce]
          refine iteF ?_
          refine ⟨_, rfl, ?_⟩
          refine tNil_mk ?_
          refine ⟨_, rfl, sz_S (by omega), ?_⟩
          refine tNil_mk ?_
          rw [S_len]
          refine ⟨_, rfl, (rng_ok (n := c1.length) (by omega)).1, (rng_ok (n := c1.length) (by omega)).2, fun D2 hD2 => ?_⟩
          refine lc_range (lo := 0) (n := ((c1.length : Nat) : Int).toNat) (fun i H7 => H7 D2 = some (.lst (((List.range i).filter fun k => decide (c1.drop k ++ c1.take k = c2)).map dV)) ∧ Same H3 H7) ⟨upd_same, same_new hD2⟩ ?_ ?_
          · rintro i H7 hi ⟨h7, s7⟩
            rw [Int.zero_add]
            have hto : ((i : Nat) : Int).toNat = i := by omega
            refine ⟨rfl, ?_⟩
            refine ⟨_, rfl, _, rfl, _, rfl, S c1, rfl, sz_S (by omega), ?_⟩
            rw [cut_from (by omega), hto]
            refine ⟨_, rfl, _, rfl, _, rfl, S c1, rfl, sz_S (by omega), ?_⟩
            rw [cut_to (by omega), hto]
            refine ⟨S (c1.drop i), S (c1.take i), rfl, rfl, by rw [S_len, S_len]; exact Nat.le_trans (m := 1000) (by rw [List.length_drop, List.length_take]; omega) hlim, ?_⟩
            rw [S_cat]
            refine ⟨_, rfl, rfl, _, rfl, ?_⟩
            rw [show decide (V.str (S (c1.drop i ++ c1.take i)) = V.str (S c2)) = decide (c1.drop i ++ c1.take i = c2) from decide_eq_decide.mpr ⟨fun z => S_inj (V.str.inj z), fun z => by rw [z]⟩]
            rw [List.range_succ, List.filter_append]
            cases hcn : decide (c1.drop i ++ c1.take i = c2) with
            | false =>
              refine iteF ?_
              rw [show [i].filter (fun k => decide (c1.drop k ++ c1.take k = c2)) = [] by simp [of_decide_eq_false hcn], List.append_nil]
              exact ⟨h7, s7⟩
            | true =>
              refine iteT ?_
              rw [show [i].filter (fun k => decide (c1.drop k ++ c1.take k = c2)) = [i] by simp [of_decide_eq_true hcn], List.map_append]
              refine ⟨_, rfl, _, h7, ?_, ?_, same_mut s7 hD2⟩
              · rw [List.length_map]
                have h1 := List.length_filter_le (fun k => decide (c1.drop k ++ c1.take k = c2)) (List.range i)
                rw [List.length_range] at h1
                exact Nat.lt_of_le_of_lt (m := 100) (by omega) (by decide)
              · rw [upd_same]
                rfl
          · rintro H7 ⟨h7, s7⟩
            rw [Int.toNat_natCast] at h7
            refine tNil_mk ?_
            refine ⟨D2, _, rfl, .inl (SqL.of h7), ?_⟩
            refine ⟨_, _, rfl, rfl, ?_⟩
            refine k _ H7 ?_ (s02.trans s7)
            rw [decide_eq_true_eq, hiff, ← hrot, List.length_map]
            constructor
            · intro z
              obtain ⟨x, hx⟩ := List.exists_mem_of_length_pos (show 0 < ((List.range c1.length).filter fun k => decide (c1.drop k ++ c1.take k = c2)).length by omega)
              obtain ⟨a1, a2⟩ := List.mem_filter.mp hx
              exact .inr ⟨x, List.mem_range.mp a1, of_decide_eq_true a2⟩
            · rintro (q | ⟨x, hx, e⟩)
              · exact absurd q hce
              · have := List.length_pos_of_mem (show x ∈ (List.range c1.length).filter fun k => decide (c1.drop k ++ c1.take k = c2) from List.mem_filter.mpr ⟨List.mem_range.mpr hx, decide_eq_true e⟩)
                omega
end
end Sh
set_option Elab.async false
set_option linter.all false
set_option maxRecDepth 100000
set_option maxHeartbeats 4000000
namespace Sh
open PySem PySem.Spec PyProof.Rows L2
open SX (S S_inj S_len S_cat)
open Bk (Rule left Wf Meets Reach Step IsEnd)
local macro_rules | `(tactic| walk_at "nx") => `(tactic| repeat (with_reducible first | refine Sh.gn_mk ?_ | refine Sh.nx_mk ?_ | refine Sh.st_nx ?_ | refine Sh.rt_mk ?_ | refine Sh.ct_mk ?_ | refine Sh.bk_mk ?_))
local macro_rules | `(tactic| walk_at "sq") => `(tactic| first | exact SqL.of upd_same | exact SqT.of upd_same | exact SqL.of (by assumption) | exact SqT.of (by assumption) | assumption | exact Or.inl (SqL.of (by assumption)) | exact Or.inr (SqT.of (by assumption)) | exact Or.inl (by assumption) | exact Or.inr (by assumption))
local macro_rules | `(tactic| walk_at "hp") => `(tactic| first | exact upd_same | assumption)
local macro_rules | `(tactic| walk_at "sz") => `(tactic| first | exact Nat.le_of_ble_eq_true rfl | omega)
local macro_rules | `(tactic| walk_at "sd") => `(tactic| first | omega | exact rfl | assumption | (show (0 : Int) < _; omega) | exact And.intro (by omega) (by omega) | exact Or.inl (And.intro (by omega) (by omega)) | exact Or.inr (And.intro (by omega) (by omega)) | omega | exact Sh.sz_S (by omega) | decide)
local macro_rules | `(tactic| walk_at "rd1") => `(tactic| first
  | (with_reducible first | refine Sh.gn_mk ?_ | refine Sh.nx_mk ?_ | refine Sh.st_nx ?_ | refine Sh.rt_mk ?_ | refine Sh.ct_mk ?_ | refine Sh.bk_mk ?_)
  | refine Exists.intro (α := V) _ (And.intro rfl ?_)
  | refine Exists.intro (α := Bool) _ (And.intro rfl ?_)
  | refine Exists.intro (α := Int) _ (And.intro rfl ?_)
  | refine Exists.intro (α := PySem.Str) _ (And.intro rfl ?_)
  | refine Exists.intro (α := Int) _ (Exists.intro (α := Int) _ (And.intro rfl (And.intro rfl ?_)))
  | refine Exists.intro (α := PySem.Str) _ (Exists.intro (α := PySem.Str) _ (And.intro rfl (And.intro rfl ?_)))
  | refine Exists.intro (α := Int) _ (Exists.intro (α := Int) _ (And.intro rfl ?_))
  | refine Or.inl (Exists.intro (α := Int) _ (And.intro rfl ?_))
  | refine Exists.intro _ (Exists.intro _ (Exists.intro _ (Exists.intro _ (And.intro rfl (And.intro rfl (And.intro (by walk_at "sq") (And.intro rfl ?_)))))))
  | refine Exists.intro _ (Exists.intro _ (Exists.intro _ (Exists.intro _ (And.intro rfl (And.intro rfl (And.intro (by walk_at "hp") (And.intro rfl ?_)))))))
  | refine And.intro (by walk_at "sd") ?_
  )
local macro_rules | `(tactic| walk_at "rd") => `(tactic| repeat walk_at "rd1")
local macro_rules | `(tactic| walk_at "lk") => `(tactic| first | exact rfl | (rw [lookup_putF, if_pos rfl]) | (rw [lookup_putF, if_neg (by decide +kernel)]; walk_at "lk"))

/-- the book of the law as it stands in the heap -/
structure LBk (K : PySem.W.Frag) (C : Addr) (sh : List (Nat × Nat)) (sg : List Nat) (ar : List Arr) (R : List Ru) (l d u b : Addr) (zs : List V) (ka ku : List (Key × V)) (H : Hp) : Prop where
  G : GB sh sg ar R
  hl : H l = some (.tup zs)
  it : Items RuV H zs R
  hd : H d = some (.dK ka)
  ha : ArrowOf H ka sg ar ar.length
  hu : H u = some (.dK ku)
  uv : UndV sg R ku
  bk : BookAt K C H b sg R
theorem LBk.same {K : PySem.W.Frag} {C : Addr} {sh : List (Nat × Nat)} {sg : List Nat} {ar : List Arr} {R : List Ru} {l d u b : Addr} {zs : List V} {ka ku : List (Key × V)} {H H' : Hp} (h : LBk K C sh sg ar R l d u b zs ka ku H) (s : Same H H') : LBk K C sh sg ar R l d u b zs ka ku H' :=
  ⟨h.G, s _ _ h.hl, h.it.mono fun x y ⟨q, e, z⟩ => ⟨q, e, s _ _ z⟩, s _ _ h.hd, fun t c a h1 h2 h3 => let ⟨q, e, z⟩ := h.ha t c a h1 h2 h3; ⟨q, e, s _ _ z⟩, s _ _ h.hu, h.uv, h.bk.same s⟩
theorem LBk.sq {K : PySem.W.Frag} {C : Addr} {sh : List (Nat × Nat)} {sg : List Nat} {ar : List Arr} {R : List Ru} {l d u b : Addr} {zs : List V} {ka ku : List (Key × V)} {H : Hp} (h : LBk K C sh sg ar R l d u b zs ka ku H) : Items (RItem K) H zs R := Items.imp h.it fun x y ⟨q, e, z⟩ => ⟨q, e, SqT.of z⟩
theorem But.toSame {p : Addr} {H H' : Hp} (b : But p H H') (n : H p = none) : Same H H' := fun c o e => b c o (ne_of_none e n) e
section
variable {P : Program} {w : World} {K : PySem.W.Frag} {mg : Str → Option Value} {base : Heap} {CB CE : Addr}
def spPower (K : PySem.W.Frag) : Sp := fun vs H Q _ => ∃ (l : Addr) (sh : List (Nat × Nat)) (sg : List Nat) (ar : List Arr) (R : List Ru) (zs : List V) (t : List Nat) (n : Nat), vs = [.ref l, .str (S t), .int (n : Nat)] ∧ GB sh sg ar R ∧ H l = some (.tup zs) ∧ Items RuV H zs R ∧ t.length ≤ 60 ∧ n ≤ 12 ∧
  ∀ (H' : Hp), Same H H' → Q (.str (S (left R (pw t n)))) H'
end
end Sh
set_option Elab.async false
set_option linter.all false
set_option maxRecDepth 100000
set_option maxHeartbeats 4000000
namespace Sh
open PySem PySem.Spec PyProof.Rows L2
open SX (S S_inj S_len S_cat)
open Bk (Rule left Wf Meets Reach Step IsEnd)
local macro_rules | `(tactic| walk_at "nx") => `(tactic| repeat (with_reducible first | refine Sh.gn_mk ?_ | refine Sh.nx_mk ?_ | refine Sh.st_nx ?_ | refine Sh.rt_mk ?_ | refine Sh.ct_mk ?_ | refine Sh.bk_mk ?_))
local macro_rules | `(tactic| walk_at "sq") => `(tactic| first | exact SqL.of upd_same | exact SqT.of upd_same | exact SqL.of (by assumption) | exact SqT.of (by assumption) | assumption | exact Or.inl (SqL.of (by assumption)) | exact Or.inr (SqT.of (by assumption)) | exact Or.inl (by assumption) | exact Or.inr (by assumption))
local macro_rules | `(tactic| walk_at "hp") => `(tactic| first | exact upd_same | assumption)
local macro_rules | `(tactic| walk_at "sz") => `(tactic| first | exact Nat.le_of_ble_eq_true rfl | omega)
local macro_rules | `(tactic| walk_at "sd") => `(tactic| first | omega | exact rfl | assumption | (show (0 : Int) < _; omega) | exact And.intro (by omega) (by omega) | exact Or.inl (And.intro (by omega) (by omega)) | exact Or.inr (And.intro (by omega) (by omega)) | omega | exact Sh.sz_S (by omega) | decide)
local macro_rules | `(tactic| walk_at "rd1") => `(tactic| first
  | (with_reducible first | refine Sh.gn_mk ?_ | refine Sh.nx_mk ?_ | refine Sh.st_nx ?_ | refine Sh.rt_mk ?_ | refine Sh.ct_mk ?_ | refine Sh.bk_mk ?_)
  | refine Exists.intro (α := V) _ (And.intro rfl ?_)
  | refine Exists.intro (α := Bool) _ (And.intro rfl ?_)
  | refine Exists.intro (α := Int) _ (And.intro rfl ?_)
  | refine Exists.intro (α := PySem.Str) _ (And.intro rfl ?_)
  | refine Exists.intro (α := Int) _ (Exists.intro (α := Int) _ (And.intro rfl (And.intro rfl ?_)))
  | refine Exists.intro (α := PySem.Str) _ (Exists.intro (α := PySem.Str) _ (And.intro rfl (And.intro rfl ?_)))
  | refine Exists.intro (α := Int) _ (Exists.intro (α := Int) _ (And.intro rfl ?_))
  | refine Or.inl (Exists.intro (α := Int) _ (And.intro rfl ?_))
  | refine Exists.intro _ (Exists.intro _ (Exists.intro _ (Exists.intro _ (And.intro rfl (And.intro rfl (And.intro (by walk_at "sq") (And.intro rfl ?_)))))))
  | refine Exists.intro _ (Exists.intro _ (Exists.intro _ (Exists.intro _ (And.intro rfl (And.intro rfl (And.intro (by walk_at "hp") (And.intro rfl ?_)))))))
  | refine And.intro (by walk_at "sd") ?_
  )
local macro_rules | `(tactic| walk_at "rd") => `(tactic| repeat walk_at "rd1")
local macro_rules | `(tactic| walk_at "lk") => `(tactic| first | exact rfl | (rw [lookup_putF, if_pos rfl]) | (rw [lookup_putF, if_neg (by decide +kernel)]; walk_at "lk"))

theorem opt_non {m : Option (List Nat)} : decide (optS m = V.non) = m.isNone := by
  cases m with
  | none => exact decide_eq_true rfl
  | some s => exact decide_eq_false fun z => by cases z
section
variable {P : Program} {w : World} {K : PySem.W.Frag} {mg : Str → Option Value} {base : Heap} {CB XT FT DT : Addr}
theorem blk_alt (T : TxtX P K mg CB XT FT DT) (f : Addr) (cdv : Value) (A : Around) (outer : List Env) (s : Shared) (H : Hp) (E : XK) (hr : Room 7 (A.deeper (envOfC "law" (defScope s_law) s.heap.objs.size f cdv))) (hgd : A.guards = some []) :
    ∃ t_, PSs (cxOf CX0 P w K mg base ["_law_script", "_law_source_here", "_law_signs", "_law_rules", "_law_arrow_of", "_law_book", "_law_undo_here", "_law_small", "_law_turn", "_law_draws", "_law_one", "_law_other", "_law_way", "_law_beside", "_law_cut", "_law_told", "_law_x", "_law_odd", "_law_lost", "raised", "_law_sign"] "law" (defScope s_law) f cdv A outer s H E).nox ((stBody (defBody s_law) 5).drop 8) t_ ∧
    ∀ (D : Ends) (Hb H0 : Hp) (i : Nat) (a p sm pd l d u b : Addr) (sh : List (Nat × Nat)) (sg : List Nat) (ar : List Arr) (R : List Ru) (zs : List V) (ka ku : List (Key × V)) (t t2 : List Nat) (ts : List (List Nat)) (m : Option (List Nat)) (v12 v13 v14 v16 v17 v18 v19 v20 : Option V), LBk K CB sh sg ar R l d u b zs ka ku Hb → Hb sm = some (.lst (ts.map vS)) → (∀ x ∈ ts, x.length ≤ 3 ∧ ∀ c ∈ x, c ∈ sg) → Hb pd = none → But pd Hb H0 → (∀ c ∈ t, c ∈ sg) → t.length ≤ 20 → (∀ c ∈ t2, c ∈ sg) → t2.length ≤ 20 → CarT R sg t t2 m →
      (∀ σ' H', (∃ v9 v10 v11 v12 v13 v14 v15 v16 v17 v18 v19 v20 : Option V, σ' = [some (.ref a), some (.ref p), some (.str (S sg)), some (.ref l), some (.ref d), some (.ref b), some (.ref u), some (.ref sm), some (.int (i : Nat)), v9, v10, v11, v12, v13, v14, v15, v16, v17, v18, v19, v20]) → But pd Hb H' → D.nx σ' H') →
      t_ D [some (.ref a), some (.ref p), some (.str (S sg)), some (.ref l), some (.ref d), some (.ref b), some (.ref u), some (.ref sm), some (.int (i : Nat)), some (.ref pd), some (.str (S t)), some (.str (S t2)), v12, v13, v14, some (optS m), v16, v17, v18, v19, v20] H0 := by
  have c__law_source := c__law_source (P := P) (w := w) (base := base) T.toTxtC.toTxt
  have c__law_group := c__law_group (P := P) (w := w) (base := base) T.toTxtC.toTxt
  have c_Book := c_Book___init__ (P := P) (w := w) (base := base) T.toTxtC
  have c__law_undo := c__law_undo (P := P) (w := w) (base := base) T.toTxtC.toTxt
  have c__law_ends := c__law_ends (P := P) (w := w) (base := base) T.toTxtC.toTxt
  have c__law_group_parts := c__law_group_parts (P := P) (w := w) (base := base) T.toTxtC.toTxt
  have c__law_group_text := c__law_group_text (P := P) (w := w) (base := base) T.toTxtC.toTxt
  have c__law_pick := c__law_pick (P := P) (w := w) (base := base) T.toTxtC.toTxt
  have c__law_text := c__law_text (P := P) (w := w) (base := base) T.toTxtC.toTxt
  have c_X_carried := c_X_carried (P := P) (w := w) (base := base) T
  have c__law_due := c__law_due (P := P) (w := w) (base := base) T.toTxtC.toTxt
  have c__law_undone := c__law_undone (P := P) (w := w) (base := base) T.toTxtC.toTxt
  have c__law_left := c__law_left (P := P) (w := w) (base := base) T.toTxtC.toTxt
  have c__law_is_end := c__law_is_end (P := P) (w := w) (base := base) T.toTxtC.toTxt
  have hgd : (A.deeper (envOfC "law" (defScope s_law) s.heap.objs.size f cdv)).guards = some [] := hgd
  have hu := hu_of hr
  refine ⟨_, (pss_one (ps_if (pt_cmpR op_isN (pv 15) pe_non (nomark _))
    (pss_cons (ps_if (pt_cmpR op_notN (pe_cXn c_X_carried hr (by decide) rfl (pa_cons (pv 5) (pa_cons (pv 11) (pa_cons (pv 10) pa_nil)))) pe_non (nomark _))
      (pss_one (ps_ret pe_bl))
      pss_nil)
    (pss_one (ps_for PassesOwn.never rfl (pi_list (pv 7)) (pg_name (i := 16) sc_law.nd rfl (Or.inl rfl))
      (pss_one (ps_if (pt_cmpR op_eq (pe_c c__law_left hr (by decide) rfl (pa_cons (pv 3) (pa_cons (pe_op op_add_str (pv 10) (pv 16)) pa_nil))) (pe_c c__law_left hr (by decide) rfl (pa_cons (pv 3) (pa_cons (pe_op op_add_str (pv 16) (pv 11)) pa_nil))) (nomark _))
        (pss_one (ps_ret pe_bl))
        pss_nil)))))
    (pss_cons (ps_if (PW.pt (pw_or (pt_not (pt_val (pe_callB call_isi (by rfl) T.b_isinstance (by decide +kernel) (pa_cons (pv 15) (pa_cons (pe_bltn (v := .ty "str") (by rfl) T.b_str (by decide +kernel) rfl) pa_nil))))) (pw_or (pt_not (pt_val (pe_c c__law_is_end hr (by decide) rfl (pa_cons (pv 3) (pa_cons (pv 15) pa_nil))))) (pw_or1 (pt_cmpR op_isN (pe_cXn c_X_carried hr (by decide) rfl (pa_cons (pv 5) (pa_cons (pv 11) (pa_cons (pv 10) pa_nil)))) pe_non (nomark _))))))
      (pss_one (ps_ret pe_bl))
      pss_nil)
    (pss_one (ps_if (PW.pt (pw_or (pt_not (pt_val (pe_callB (cr_all rfl) (by rfl) T.b_all (by decide +kernel) (pa_cons (pe_lc (own := [("_law_sign", 20)]) (g := gName 20) (tt := tYes) rfl sc_law.nd (pi_str (pv 15)) (blkOk_by (N := ["_law_script", "_law_source_here", "_law_signs", "_law_rules", "_law_arrow_of", "_law_book", "_law_undo_here", "_law_small", "_law_turn", "_law_draws", "_law_one", "_law_other", "_law_way", "_law_beside", "_law_cut", "_law_told", "_law_x", "_law_odd", "_law_lost", "raised", "_law_sign"]) (sc := defScope s_law) (by decide +kernel)) (fun _ _ _ _ _ => (pg_name (i := 20) sc_law.nd rfl (Or.inl rfl))) (fun _ _ _ _ _ => pts_nil) (fun _ _ _ _ _ => (pe_cmpR op_in_sign (pv 20) (pv 2) (by rfl)))) pa_nil)))) (pw_or1 (pt_cmpR op_ne (pe_c c__law_left hr (by decide) rfl (pa_cons (pv 3) (pa_cons (pe_op op_add_str (pv 10) (pv 15)) pa_nil))) (pe_c c__law_left hr (by decide) rfl (pa_cons (pv 3) (pa_cons (pe_op op_add_str (pv 15) (pv 11)) pa_nil))) (nomark _)))))
      (pss_one (ps_ret pe_bl))
      pss_nil))))), ?_⟩
  intro D Hb H0 i a p sm pd l d u b sh sg ar R zs ka ku t t2 ts m v12 v13 v14 v16 v17 v18 v19 v20 LBb hsm hts hb0 bb htc htl htc2 htl2 hm kD
  have s0 := bb.toSame hb0
  have LB := LBb.same s0
  have G := LB.G
  have hsm0 := s0 _ _ hsm
  have hRl := G.ok.2.1
  have hw := G.ok.wf
  have h4 : ∀ r ∈ R, r.1.length ≤ 4 := fun r hr => (G.ok.2.2.1 r hr).2.1
  have hlim : (1000 : Nat) ≤ sizeLine := by decide
  refine if_K m.isNone (fun Q' hQ => ?_) (fun hc => ?_) (fun hc => ?_)
  · refine ⟨_, rfl, rfl, _, rfl, ?_⟩
    rw [opt_non]
    exact hQ
  · have hmn : m = none := by simpa using hc
    subst hmn
    have hno := hm.2 rfl
    walk_at "nx"
    refine if_KH false (fun H' => Same H0 H') (fun Q' hQ => ?_) (fun z => by cases z) (fun _ H1 s1 => ?_)
    · refine ⟨_, rfl, _, rfl, _, rfl, ?_⟩
      refine tNil_mk ?_
      refine ⟨b, sh, sg, ar, R, .str (S t2), .str (S t), rfl, LB.bk, G, .inr ⟨t2, rfl, htc2, by omega, .inr ⟨t, rfl, htc, by omega, fun m2 H1 hm2 s1 => ?_⟩⟩⟩
      have e2 : m2 = none := by
        cases m2 with
        | none => rfl
        | some s =>
          obtain ⟨k1, _, _, k2⟩ := hm2.1 s rfl
          exact absurd (G.cnj_symm ⟨s, k1, k2⟩) hno
      subst e2
      refine ⟨rfl, _, rfl, ?_⟩
      exact hQ _ s1
    · walk_at "nx"
      refine ⟨_, rfl, sm, rfl, ⟨_, SqL.of (s1 _ _ hsm0)⟩, ?_⟩
      refine for_lst (K := K) (a := sm) (f := vS) (l := ts) (fun pre σ H2 => ∃ v16 : Option V, σ = [some (.ref a), some (.ref p), some (.str (S sg)), some (.ref l), some (.ref d), some (.ref b), some (.ref u), some (.ref sm), some (.int (i : Nat)), some (.ref pd), some (.str (S t)), some (.str (S t2)), v12, v13, v14, some (optS none), v16, v17, v18, v19, v20] ∧ Same H1 H2)
        ⟨_, rfl, fun _ _ h => h⟩ (fun pre σ H2 ⟨_, _, s2⟩ => SqL.of (s2 _ _ (s1 _ _ hsm0))) ?_ ?_
      · rintro pre x post σ H2 e ⟨v16, rfl, s2⟩
        obtain ⟨hxl, hxc⟩ := hts x (by rw [e]; simp)
        have s02 := s1.trans s2
        walk_at "nx"
        refine if_KH false (fun H' => Same H2 H') (fun Q' hQ => ?_) (fun z => by cases z) (fun _ H3 s3 => ?_)
        · refine ⟨_, rfl, _, rfl, _, rfl, S t, S x, rfl, rfl, by rw [S_len, S_len]; exact Nat.le_trans (m := 1000) (by omega) hlim, ?_⟩
          rw [S_cat]
          refine tNil_mk ?_
          refine ⟨l, zs, R, t ++ x, rfl, .inr (SqT.of (LB.same s02).hl), (LB.same s02).sq, hRl, hw, h4, by rw [List.length_append]; omega, fun H3 s3 => ?_⟩
          refine ⟨_, rfl, _, rfl, _, rfl, S x, S t2, rfl, rfl, by rw [S_len, S_len]; exact Nat.le_trans (m := 1000) (by omega) hlim, ?_⟩
          rw [S_cat]
          refine tNil_mk ?_
          refine ⟨l, zs, R, x ++ t2, rfl, .inr (SqT.of (LB.same (s02.trans s3)).hl), (LB.same (s02.trans s3)).sq, hRl, hw, h4, by rw [List.length_append]; omega, fun H4 s4 => ?_⟩
          refine ⟨rfl, _, rfl, ?_⟩
          rw [decide_eq_false (show ¬ V.str (S (left R (t ++ x))) = V.str (S (left R (x ++ t2))) from fun z => hno ⟨x, hxc, S_inj (V.str.inj z)⟩)]
          exact hQ _ (s3.trans s4)
        · walk_at "nx"
          exact ⟨_, rfl, s2.trans s3⟩
      · rintro σ H2 ⟨v16, rfl, s2⟩
        exact kD _ _ ⟨_, _, _, _, _, _, _, _, _, _, _, _, rfl⟩ (bb.trans (But.same (s1.trans s2)))
  · obtain ⟨z, rfl⟩ : ∃ z, m = some z := by
      cases m with
      | none => cases hc
      | some z => exact ⟨z, rfl⟩
    obtain ⟨hzc, hze, hzl, hzq⟩ := hm.1 z rfl
    have hcn : Cnj R sg t2 t := G.cnj_symm ⟨z, hzc, hzq⟩
    walk_at "nx"
    refine if_KH false (fun H' => Same H0 H') (fun Q' hQ => ?_) (fun z => by cases z) (fun _ H1 s1 => ?_)
    · walk_at "rd"
      refine ⟨_, _, _, _, _, rfl, .ty _, .base (.str _), kit_ty (r := true) (by decide +kernel), _, rfl, ?_⟩
      refine iteF ?_
      refine ⟨_, rfl, _, rfl, ?_⟩
      refine tNil_mk ?_
      refine ⟨l, sh, sg, ar, R, zs, z, rfl, G, LB.hl, LB.it, by omega, hze, fun H1 s1 => ?_⟩
      refine ⟨_, rfl, ?_⟩
      refine iteF ?_
      refine ⟨_, rfl, _, rfl, _, rfl, ?_⟩
      refine tNil_mk ?_
      refine ⟨b, sh, sg, ar, R, .str (S t2), .str (S t), rfl, LB.bk.same s1, G, .inr ⟨t2, rfl, htc2, by omega, .inr ⟨t, rfl, htc, by omega, fun m2 H2 hm2 s2 => ?_⟩⟩⟩
      obtain ⟨z2, rfl⟩ : ∃ z2, m2 = some z2 := by
        cases m2 with
        | none => exact absurd hcn (hm2.2 rfl)
        | some z2 => exact ⟨z2, rfl⟩
      refine ⟨rfl, _, rfl, ?_⟩
      rw [opt_non]
      exact hQ _ (s1.trans s2)
    · walk_at "nx"
      refine if_KH false (fun H' => Same H1 H') (fun Q' hQ => ?_) (fun z => by cases z) (fun _ H2 s2 => ?_)
      · refine ⟨_, rfl, _, rfl, fun D2 hD2 => lc_str (l := z) (fun pre H2 => H2 D2 = some (.lst ((List.replicate pre.length true).map V.bl)) ∧ Same H1 H2) ⟨upd_same, same_new hD2⟩ ?_ ?_⟩
        · rintro pre c post H2 e ⟨h2, s2⟩
          have hpl : pre.length + 1 ≤ 200 := by
            have := congrArg List.length e
            simp at this
            omega
          have hcz : c ∈ sg := hzc c (by rw [e]; simp)
          refine ⟨rfl, ty_T ?_⟩
          refine ⟨_, rfl, _, rfl, c, S sg, rfl, rfl, ?_⟩
          rw [show decide (c ∈ (S sg).cps.toList) = true from decide_eq_true hcz]
          refine ⟨_, h2, ?_, ?_, same_mut s2 hD2⟩
          · rw [List.length_map, List.length_replicate]
            exact Nat.lt_of_le_of_lt (m := 200) (by omega) (by decide)
          · rw [upd_same, List.length_append, List.length_singleton, List.replicate_succ', List.map_append]
            rfl
        · rintro H2 ⟨h2, s2⟩
          refine tNil_mk ?_
          refine ⟨D2, _, rfl, SqL.of h2, ?_⟩
          rw [show (List.replicate z.length true).all id = true by
            rw [List.all_eq_true]
            intro x hx
            rw [(List.mem_replicate.mp hx).2]
            rfl]
          refine ⟨_, rfl, ?_⟩
          refine iteF ?_
          have s02 := s1.trans s2
          refine ⟨_, rfl, _, rfl, _, rfl, S t, S z, rfl, rfl, by rw [S_len, S_len]; exact Nat.le_trans (m := 1000) (by omega) hlim, ?_⟩
          rw [S_cat]
          refine tNil_mk ?_
          refine ⟨l, zs, R, t ++ z, rfl, .inr (SqT.of (LB.same s02).hl), (LB.same s02).sq, hRl, hw, h4, by rw [List.length_append]; omega, fun H3 s3 => ?_⟩
          refine ⟨_, rfl, _, rfl, _, rfl, S z, S t2, rfl, rfl, by rw [S_len, S_len]; exact Nat.le_trans (m := 1000) (by omega) hlim, ?_⟩
          rw [S_cat]
          refine tNil_mk ?_
          refine ⟨l, zs, R, z ++ t2, rfl, .inr (SqT.of (LB.same (s02.trans s3)).hl), (LB.same (s02.trans s3)).sq, hRl, hw, h4, by rw [List.length_append]; omega, fun H4 s4 => ?_⟩
          refine ⟨rfl, _, rfl, ?_⟩
          have hzq' : left R (t ++ z) = left R (z ++ t2) := hzq
          rw [hzq', decide_eq_true rfl]
          exact hQ _ (s2.trans (s3.trans s4))
      · exact kD _ _ ⟨_, _, _, _, _, _, _, _, _, _, _, _, rfl⟩ (bb.trans (But.same (s1.trans s2)))
end
end Sh
set_option Elab.async false
set_option linter.all false
set_option maxRecDepth 100000
set_option maxHeartbeats 4000000
namespace Sh
open PySem PySem.Spec PyProof.Rows L2
open SX (S S_inj S_len S_cat)
open Bk (Rule left Wf Meets Reach Step IsEnd)
local macro_rules | `(tactic| walk_at "nx") => `(tactic| repeat (with_reducible first | refine Sh.gn_mk ?_ | refine Sh.nx_mk ?_ | refine Sh.st_nx ?_ | refine Sh.rt_mk ?_ | refine Sh.ct_mk ?_ | refine Sh.bk_mk ?_))
local macro_rules | `(tactic| walk_at "sq") => `(tactic| first | exact SqL.of upd_same | exact SqT.of upd_same | exact SqL.of (by assumption) | exact SqT.of (by assumption) | assumption | exact Or.inl (SqL.of (by assumption)) | exact Or.inr (SqT.of (by assumption)) | exact Or.inl (by assumption) | exact Or.inr (by assumption))
local macro_rules | `(tactic| walk_at "hp") => `(tactic| first | exact upd_same | assumption)
local macro_rules | `(tactic| walk_at "sz") => `(tactic| first | exact Nat.le_of_ble_eq_true rfl | omega)
local macro_rules | `(tactic| walk_at "sd") => `(tactic| first | omega | exact rfl | assumption | (show (0 : Int) < _; omega) | exact And.intro (by omega) (by omega) | exact Or.inl (And.intro (by omega) (by omega)) | exact Or.inr (And.intro (by omega) (by omega)) | omega | exact Sh.sz_S (by omega) | decide)
local macro_rules | `(tactic| walk_at "rd1") => `(tactic| first
  | (with_reducible first | refine Sh.gn_mk ?_ | refine Sh.nx_mk ?_ | refine Sh.st_nx ?_ | refine Sh.rt_mk ?_ | refine Sh.ct_mk ?_ | refine Sh.bk_mk ?_)
  | refine Exists.intro (α := V) _ (And.intro rfl ?_)
  | refine Exists.intro (α := Bool) _ (And.intro rfl ?_)
  | refine Exists.intro (α := Int) _ (And.intro rfl ?_)
  | refine Exists.intro (α := PySem.Str) _ (And.intro rfl ?_)
  | refine Exists.intro (α := Int) _ (Exists.intro (α := Int) _ (And.intro rfl (And.intro rfl ?_)))
  | refine Exists.intro (α := PySem.Str) _ (Exists.intro (α := PySem.Str) _ (And.intro rfl (And.intro rfl ?_)))
  | refine Exists.intro (α := Int) _ (Exists.intro (α := Int) _ (And.intro rfl ?_))
  | refine Or.inl (Exists.intro (α := Int) _ (And.intro rfl ?_))
  | refine Exists.intro _ (Exists.intro _ (Exists.intro _ (Exists.intro _ (And.intro rfl (And.intro rfl (And.intro (by walk_at "sq") (And.intro rfl ?_)))))))
  | refine Exists.intro _ (Exists.intro _ (Exists.intro _ (Exists.intro _ (And.intro rfl (And.intro rfl (And.intro (by walk_at "hp") (And.intro rfl ?_)))))))
  | refine And.intro (by walk_at "sd") ?_
  )
local macro_rules | `(tactic| walk_at "rd") => `(tactic| repeat walk_at "rd1")
local macro_rules | `(tactic| walk_at "lk") => `(tactic| first | exact rfl | (rw [lookup_putF, if_pos rfl]) | (rw [lookup_putF, if_neg (by decide +kernel)]; walk_at "lk"))

section
variable {P : Program} {w : World} {K : PySem.W.Frag} {mg : Str → Option Value} {base : Heap} {CB XT FT DT : Addr}
theorem blk_told (T : TxtX P K mg CB XT FT DT) (f : Addr) (cdv : Value) (A : Around) (outer : List Env) (s : Shared) (H : Hp) (E : XK) (hr : Room 7 (A.deeper (envOfC "law" (defScope s_law) s.heap.objs.size f cdv))) (hgd : A.guards = some []) :
    ∃ t_, PSs (cxOf CX0 P w K mg base ["_law_script", "_law_source_here", "_law_signs", "_law_rules", "_law_arrow_of", "_law_book", "_law_undo_here", "_law_small", "_law_turn", "_law_draws", "_law_one", "_law_other", "_law_way", "_law_beside", "_law_cut", "_law_told", "_law_x", "_law_odd", "_law_lost", "raised", "_law_sign"] "law" (defScope s_law) f cdv A outer s H E).nox ((stBody (defBody s_law) 5).drop 6) t_ ∧
    ∀ (D : Ends) (Hb H0 : Hp) (i : Nat) (a p sm pd l d u b : Addr) (sh : List (Nat × Nat)) (sg : List Nat) (ar : List Arr) (R : List Ru) (zs : List V) (ka ku : List (Key × V)) (t t2 : List Nat) (ts : List (List Nat)) (n : Int) (v13 v14 v15 v16 v17 v18 v19 v20 : Option V), LBk K CB sh sg ar R l d u b zs ka ku Hb → Hb sm = some (.lst (ts.map vS)) → (∀ x ∈ ts, x.length ≤ 3 ∧ ∀ c ∈ x, c ∈ sg) → Hb pd = none → But pd Hb H0 → (∀ c ∈ t, c ∈ sg) → t.length ≤ 20 → (∀ c ∈ t2, c ∈ sg) → t2.length ≤ 20 → (n < 2 → Cnj R sg t t2) →
      (∀ σ' H', (∃ v9 v10 v11 v12 v13 v14 v15 v16 v17 v18 v19 v20 : Option V, σ' = [some (.ref a), some (.ref p), some (.str (S sg)), some (.ref l), some (.ref d), some (.ref b), some (.ref u), some (.ref sm), some (.int (i : Nat)), v9, v10, v11, v12, v13, v14, v15, v16, v17, v18, v19, v20]) → But pd Hb H' → D.nx σ' H') →
      t_ D [some (.ref a), some (.ref p), some (.str (S sg)), some (.ref l), some (.ref d), some (.ref b), some (.ref u), some (.ref sm), some (.int (i : Nat)), some (.ref pd), some (.str (S t)), some (.str (S t2)), some (.int n), v13, v14, v15, v16, v17, v18, v19, v20] H0 := by
  have c__law_source := c__law_source (P := P) (w := w) (base := base) T.toTxtC.toTxt
  have c__law_group := c__law_group (P := P) (w := w) (base := base) T.toTxtC.toTxt
  have c_Book := c_Book___init__ (P := P) (w := w) (base := base) T.toTxtC
  have c__law_undo := c__law_undo (P := P) (w := w) (base := base) T.toTxtC.toTxt
  have c__law_ends := c__law_ends (P := P) (w := w) (base := base) T.toTxtC.toTxt
  have c__law_group_parts := c__law_group_parts (P := P) (w := w) (base := base) T.toTxtC.toTxt
  have c__law_group_text := c__law_group_text (P := P) (w := w) (base := base) T.toTxtC.toTxt
  have c__law_pick := c__law_pick (P := P) (w := w) (base := base) T.toTxtC.toTxt
  have c__law_text := c__law_text (P := P) (w := w) (base := base) T.toTxtC.toTxt
  have c_X_carried := c_X_carried (P := P) (w := w) (base := base) T
  have c__law_due := c__law_due (P := P) (w := w) (base := base) T.toTxtC.toTxt
  have c__law_undone := c__law_undone (P := P) (w := w) (base := base) T.toTxtC.toTxt
  have c__law_left := c__law_left (P := P) (w := w) (base := base) T.toTxtC.toTxt
  have c__law_is_end := c__law_is_end (P := P) (w := w) (base := base) T.toTxtC.toTxt
  obtain ⟨tb_alt, hb_alt, kb_alt⟩ := blk_alt (P := P) (w := w) (base := base) T f cdv A outer s H E hr hgd
  have hgd : (A.deeper (envOfC "law" (defScope s_law) s.heap.objs.size f cdv)).guards = some [] := hgd
  have hu := hu_of hr
  refine ⟨_, (pss_cons (ps_set (i := 15) sc_law.nd rfl (Or.inl rfl) (pe_cXn c_X_carried hr (by decide) rfl (pa_cons (pv 5) (pa_cons (pv 10) (pa_cons (pv 11) pa_nil)))))
  (pss_cons (ps_if (PW.pt (pw_or (pt_cmpR op_ne (pe_cmpR op_notN (pv 15) pe_non (nomark _)) (pe_c c__law_due hr (by decide) rfl (pa_cons (pv 2) (pa_cons (pv 3) (pa_cons (pv 10) (pa_cons (pv 11) pa_nil))))) (nomark _)) (pw_or1 (PW.pt (pw_and (pt_cmpR op_lt (pv 12) pe_int (nomark _)) (pw_and1 (pt_cmpR op_isN (pv 15) pe_non (nomark _))))))))
    (pss_one (ps_ret pe_bl))
    pss_nil)
  hb_alt)), ?_⟩
  intro D Hb H0 i a p sm pd l d u b sh sg ar R zs ka ku t t2 ts n v13 v14 v15 v16 v17 v18 v19 v20 LBb hsm hts hb0 bb htc htl htc2 htl2 hway kD
  have LB := LBb.same (bb.toSame hb0)
  have G := LB.G
  refine ⟨_, rfl, _, rfl, _, rfl, ?_⟩
  refine tNil_mk ?_
  refine ⟨b, sh, sg, ar, R, .str (S t), .str (S t2), rfl, LB.bk, G, .inr ⟨t, rfl, htc, by omega, .inr ⟨t2, rfl, htc2, by omega, fun m H1 hm s1 => ?_⟩⟩⟩
  have hiff : m.isSome = true ↔ Cnj R sg t t2 := by
    cases m with
    | none => exact ⟨fun z => (by cases z), fun z => absurd z (hm.2 rfl)⟩
    | some z =>
      obtain ⟨k1, _, _, k2⟩ := hm.1 z rfl
      exact ⟨fun _ => ⟨z, k1, k2⟩, fun _ => rfl⟩
  walk_at "nx"
  refine if_KH false (fun H' => Same H1 H') (fun Q' hQ => ?_) (fun z => by cases z) (fun _ H2 s2 => ?_)
  · refine ⟨_, rfl, rfl, ?_⟩
    refine ⟨_, rfl, _, rfl, _, rfl, _, rfl, ?_⟩
    refine tNil_mk ?_
    refine ⟨l, sh, sg, ar, R, zs, t, t2, rfl, G, (LB.same s1).hl, (LB.same s1).it, htc, by omega, htc2, by omega, fun bb2 H2 hb2 s2 => ?_⟩
    have e1 : bb2 = m.isSome := by
      rw [Bool.eq_iff_iff, hb2, hiff]
    subst e1
    rw [opt_non, show (!m.isNone) = m.isSome by cases m <;> rfl]
    refine ⟨rfl, _, rfl, ?_⟩
    rw [decide_eq_true rfl]
    refine iteF ?_
    refine ⟨_, rfl, _, _, rfl, rfl, _, rfl, ?_⟩
    by_cases h2 : n < 2
    · rw [decide_eq_true h2]
      refine iteT ?_
      refine ⟨_, rfl, rfl, _, rfl, ?_⟩
      have := hiff.mpr (hway h2)
      rw [opt_non, show m.isNone = false by cases m with
        | none => cases this
        | some z => rfl]
      exact hQ _ s2
    · rw [decide_eq_false h2]
      refine iteF ?_
      exact hQ _ s2
  · show tb_alt D _ _
    exact kb_alt D Hb H2 i a p sm pd l d u b sh sg ar R zs ka ku t t2 ts m _ _ _ _ _ _ _ _ LBb hsm hts hb0 (bb.trans (But.same (s1.trans s2))) htc htl htc2 htl2 hm kD
end
end Sh
set_option Elab.async false
set_option linter.all false
set_option maxRecDepth 100000
set_option maxHeartbeats 4000000
namespace Sh
open PySem PySem.Spec PyProof.Rows L2
open SX (S S_inj S_len S_cat)
open Bk (Rule left Wf Meets Reach Step IsEnd)
local macro_rules | `(tactic| walk_at "nx") => `(tactic| repeat (with_reducible first | refine Sh.gn_mk ?_ | refine Sh.nx_mk ?_ | refine Sh.st_nx ?_ | refine Sh.rt_mk ?_ | refine Sh.ct_mk ?_ | refine Sh.bk_mk ?_))
local macro_rules | `(tactic| walk_at "sq") => `(tactic| first | exact SqL.of upd_same | exact SqT.of upd_same | exact SqL.of (by assumption) | exact SqT.of (by assumption) | assumption | exact Or.inl (SqL.of (by assumption)) | exact Or.inr (SqT.of (by assumption)) | exact Or.inl (by assumption) | exact Or.inr (by assumption))
local macro_rules | `(tactic| walk_at "hp") => `(tactic| first | exact upd_same | assumption)
local macro_rules | `(tactic| walk_at "sz") => `(tactic| first | exact Nat.le_of_ble_eq_true rfl | omega)
local macro_rules | `(tactic| walk_at "sd") => `(tactic| first | omega | exact rfl | assumption | (show (0 : Int) < _; omega) | exact And.intro (by omega) (by omega) | exact Or.inl (And.intro (by omega) (by omega)) | exact Or.inr (And.intro (by omega) (by omega)) | omega | exact Sh.sz_S (by omega) | decide)
local macro_rules | `(tactic| walk_at "rd1") => `(tactic| first
  | (with_reducible first | refine Sh.gn_mk ?_ | refine Sh.nx_mk ?_ | refine Sh.st_nx ?_ | refine Sh.rt_mk ?_ | refine Sh.ct_mk ?_ | refine Sh.bk_mk ?_)
  | refine Exists.intro (α := V) _ (And.intro rfl ?_)
  | refine Exists.intro (α := Bool) _ (And.intro rfl ?_)
  | refine Exists.intro (α := Int) _ (And.intro rfl ?_)
  | refine Exists.intro (α := PySem.Str) _ (And.intro rfl ?_)
  | refine Exists.intro (α := Int) _ (Exists.intro (α := Int) _ (And.intro rfl (And.intro rfl ?_)))
  | refine Exists.intro (α := PySem.Str) _ (Exists.intro (α := PySem.Str) _ (And.intro rfl (And.intro rfl ?_)))
  | refine Exists.intro (α := Int) _ (Exists.intro (α := Int) _ (And.intro rfl ?_))
  | refine Or.inl (Exists.intro (α := Int) _ (And.intro rfl ?_))
  | refine Exists.intro _ (Exists.intro _ (Exists.intro _ (Exists.intro _ (And.intro rfl (And.intro rfl (And.intro (by walk_at "sq") (And.intro rfl ?_)))))))
  | refine Exists.intro _ (Exists.intro _ (Exists.intro _ (Exists.intro _ (And.intro rfl (And.intro rfl (And.intro (by walk_at "hp") (And.intro rfl ?_)))))))
  | refine And.intro (by walk_at "sd") ?_
  )
local macro_rules | `(tactic| walk_at "rd") => `(tactic| repeat walk_at "rd1")
local macro_rules | `(tactic| walk_at "lk") => `(tactic| first | exact rfl | (rw [lookup_putF, if_pos rfl]) | (rw [lookup_putF, if_neg (by decide +kernel)]; walk_at "lk"))

theorem pools_A : ∀ pl ∈ pools, 65 ∉ pl := by decide +kernel
theorem GB.noA {sh : List (Nat × Nat)} {sg : List Nat} {ar : List Arr} {R : List Ru} (G : GB sh sg ar R) : isText sg [65] 0 200 = false := by
  obtain ⟨pl, hp, e⟩ := G.pl
  have h : 65 ∉ sg := fun z => pools_A pl hp (by rw [e] at z; exact List.mem_of_mem_take z)
  simp [isText, h]
theorem LBk.but {K : PySem.W.Frag} {C : Addr} {sh : List (Nat × Nat)} {sg : List Nat} {ar : List Arr} {R : List Ru} {l d u b p : Addr} {zs : List V} {ka ku : List (Key × V)} {H H' : Hp} (h : LBk K C sh sg ar R l d u b zs ka ku H) (bb : But p H H') (z : Src H p) : LBk K C sh sg ar R l d u b zs ka ku H' := by
  obtain ⟨dx, fs, a, xs, pl, h1, h2, h3, h4, h5, h6, h7, h8⟩ := h.bk
  obtain ⟨e0, e1, e2, e3⟩ := id z
  refine ⟨h.G, bb _ _ (ne_of h.hl e3 (by intro w; cases w)) h.hl, h.it.mono fun x y ⟨q, e, k⟩ => ⟨q, e, bb _ _ (ne_of k e3 (by intro w; cases w)) k⟩, bb _ _ (ne_of h.hd e3 (by intro w; cases w)) h.hd, fun t c a h1 h2 h3 => ?_, bb _ _ (ne_of h.hu e3 (by intro w; cases w)) h.hu, h.uv, ?_⟩
  · obtain ⟨q, e, k⟩ := h.ha t c a h1 h2 h3
    exact ⟨q, e, bb _ _ (ne_of k e3 (by intro w; cases w)) k⟩
  · exact ⟨dx, fs, a, xs, pl, bb _ _ (ne_of h1 e3 (by intro w; cases w)) h1, h2, h3, h4.keep (Keep.but bb z), h5, h6.but bb z, h7, h8⟩
section
variable {P : Program} {w : World} {K : PySem.W.Frag} {mg : Str → Option Value} {base : Heap} {CB XT FT DT : Addr}
theorem blk_odd (T : TxtX P K mg CB XT FT DT) (f : Addr) (cdv : Value) (A : Around) (outer : List Env) (s : Shared) (H : Hp) (E : XK) (hr : Room 7 (A.deeper (envOfC "law" (defScope s_law) s.heap.objs.size f cdv))) (hgd : A.guards = some []) :
    ∃ t_, PSs (cxOf CX0 P w K mg base ["_law_script", "_law_source_here", "_law_signs", "_law_rules", "_law_arrow_of", "_law_book", "_law_undo_here", "_law_small", "_law_turn", "_law_draws", "_law_one", "_law_other", "_law_way", "_law_beside", "_law_cut", "_law_told", "_law_x", "_law_odd", "_law_lost", "raised", "_law_sign"] "law" (defScope s_law) f cdv A outer s H E).nox ((defBody s_law).drop 6) t_ ∧
    ∀ (D : Ends) (H0 : Hp) (a p sm l d u b : Addr) (sh : List (Nat × Nat)) (sg : List Nat) (ar : List Arr) (R : List Ru) (zs : List V) (ka ku : List (Key × V)) (v8 v9 v10 v11 v12 v13 v14 v15 v16 v17 v18 v19 v20 : Option V), LBk K CB sh sg ar R l d u b zs ka ku H0 → Src H0 p → 
      (∀ H', D.rt (.bl true) H') →
      t_ D [some (.ref a), some (.ref p), some (.str (S sg)), some (.ref l), some (.ref d), some (.ref b), some (.ref u), some (.ref sm), v8, v9, v10, v11, v12, v13, v14, v15, v16, v17, v18, v19, v20] H0 := by
  have c__law_source := c__law_source (P := P) (w := w) (base := base) T.toTxtC.toTxt
  have c__law_group := c__law_group (P := P) (w := w) (base := base) T.toTxtC.toTxt
  have c_Book := c_Book___init__ (P := P) (w := w) (base := base) T.toTxtC
  have c__law_undo := c__law_undo (P := P) (w := w) (base := base) T.toTxtC.toTxt
  have c__law_ends := c__law_ends (P := P) (w := w) (base := base) T.toTxtC.toTxt
  have c__law_group_parts := c__law_group_parts (P := P) (w := w) (base := base) T.toTxtC.toTxt
  have c__law_group_text := c__law_group_text (P := P) (w := w) (base := base) T.toTxtC.toTxt
  have c__law_pick := c__law_pick (P := P) (w := w) (base := base) T.toTxtC.toTxt
  have c__law_text := c__law_text (P := P) (w := w) (base := base) T.toTxtC.toTxt
  have c_X_carried := c_X_carried (P := P) (w := w) (base := base) T
  have c__law_due := c__law_due (P := P) (w := w) (base := base) T.toTxtC.toTxt
  have c__law_undone := c__law_undone (P := P) (w := w) (base := base) T.toTxtC.toTxt
  have c__law_left := c__law_left (P := P) (w := w) (base := base) T.toTxtC.toTxt
  have c__law_is_end := c__law_is_end (P := P) (w := w) (base := base) T.toTxtC.toTxt
  have hgd : (A.deeper (envOfC "law" (defScope s_law) s.heap.objs.size f cdv)).guards = some [] := hgd
  have hu := hu_of hr
  refine ⟨_, (pss_cons (ps_set (i := 17) sc_law.nd rfl (Or.inl rfl) (pe_ix ix_list (pe_lst (pa_cons pe_str (pa_cons pe_non (pa_cons pe_int pa_nil)))) (pe_c c__law_pick hr (by decide) rfl (pa_cons (pv 1) (pa_cons pe_int pa_nil))) (fun _ _ => rfl)))
  (pss_one (ps_tryT rfl rfl sc_law.nd takes0 (fun W pn xe tk po => (pss_cons (ps_set (i := 18) sc_law.nd rfl (Or.inl rfl) (pe_ifExp (pt_cmpR op_eq (pe_c c__law_pick hr (by decide) rfl (pa_cons (pv 1) (pa_cons pe_int pa_nil))) pe_int (nomark _)) (pe_cX c_X_carried hr (by decide) tk rfl (pa_cons (pv 5) (pa_cons (pv 17) (pa_cons pe_str pa_nil)))) (pe_cX c_X_carried hr (by decide) tk rfl (pa_cons (pv 5) (pa_cons pe_str (pa_cons (pv 17) pa_nil))))))
    (pss_one (ps_ret (pe_and (pe_cmpR op_isN (pv 18) pe_non (nomark _)) (pe_one pe_bl))))))
    (HdsA.cons (i := 19) rfl rfl ⟨rfl, by decide, Or.inl T.e_BadText.mgC⟩ (fun a oe cls d pn hz hf => (pss_one (ps_ret (pe_cmpR op_eq (pe_xf T.e_BadText.xf T.nf_BadText_thing hz hf (pv 19)) (pv 17) (nomark _)))))
    HdsA.nil)))), ?_⟩
  intro D H0 a p sm l d u b sh sg ar R zs ka ku v8 v9 v10 v11 v12 v13 v14 v15 v16 v17 v18 v19 v20 LBb hS kD
  refine ⟨by walk_at "sz", fun p5 hp5 => ?_⟩
  have s1 := same_new (o := .lst [.str (Str.ofString "A"), .non, .int 5]) hp5
  have e1 : (upd H0 p5 (.lst [.str (Str.ofString "A"), .non, .int 5])) p5 = some (.lst [.str (Str.ofString "A"), .non, .int 5]) := upd_same
  generalize upd H0 p5 (.lst [.str (Str.ofString "A"), .non, .int 5]) = H1 at s1 e1 ⊢
  have G := LBb.G
  have n5p : p5 ≠ p := by
    obtain ⟨d, e, c, z⟩ := hS
    exact (ne_of_none z hp5).symm
  have hS1 : Src H1 p := by
    obtain ⟨d, e, c, z⟩ := hS
    exact ⟨d, e, c, s1 _ _ z⟩
  refine ⟨_, rfl, p, 3, rfl, hS1, by decide, by decide, fun r H2 r0 r1 hS2 b2 => ?_⟩
  obtain ⟨v, hat, hbad, hsc⟩ : ∃ v, atI [V.str (Str.ofString "A"), .non, .int 5] r = some v ∧ BadV K sg v ∧ scal v v = true := by
    have : r = 0 ∨ r = 1 ∨ r = 2 := by omega
    rcases this with rfl | rfl | rfl
    · exact ⟨_, rfl, .inl ⟨[65], rfl, by decide, G.noA⟩, rfl⟩
    · exact ⟨_, rfl, .inr fun H => ⟨"NoneType", .base .non, by decide, by decide⟩, rfl⟩
    · exact ⟨_, rfl, .inr fun H => ⟨"int", .base (.int _), by decide, by decide⟩, rfl⟩
  refine ⟨p5, _, _, _, rfl, rfl, SqL.of (b2 _ _ n5p e1), hat, ?_⟩
  have LB2 := (LBb.same s1).but b2 hS1
  walk_at "nx"
  unfold tTry
  have fin : ∀ (H4 : Hp) (dd : Addr), H4 dd = none → ∀ a0 : Addr, True := fun _ _ _ _ => trivial
  refine ⟨_, rfl, p, 2, rfl, hS2, by decide, by decide, fun r2 H3 r20 r21 hS3 b3 => ?_⟩
  have LB3 := LB2.but b3 hS2
  walk_at "rd"
  refine ite2 (fun c => ?_) (fun c => ?_)
  · refine ⟨_, rfl, _, rfl, b, sh, sg, ar, R, v, .str (Str.ofString "Q"), rfl, LB3.bk, G, .inl ⟨hbad, fun H4 s4 dd hdd => ⟨true, T.mm_BadText_BadText, fun _ a0 ha0 => ?_, fun zz => (by cases zz)⟩⟩⟩
    dsimp only [outA]
    refine ⟨_, rfl, rfl, rfl, dd, _, _, rfl, upd_same, lk1, ?_⟩
    refine ⟨_, rfl, hsc, ?_⟩
    rw [decide_eq_true rfl]
    exact kD _
  · refine ⟨_, rfl, _, rfl, b, sh, sg, ar, R, .str (Str.ofString ""), v, rfl, LB3.bk, G, .inr ⟨[], rfl, fun c hc => (by cases hc), by decide, .inl ⟨hbad, fun H4 s4 dd hdd => ⟨true, T.mm_BadText_BadText, fun _ a0 ha0 => ?_, fun zz => (by cases zz)⟩⟩⟩⟩
    dsimp only [outA]
    refine ⟨_, rfl, rfl, rfl, dd, _, _, rfl, upd_same, lk1, ?_⟩
    refine ⟨_, rfl, hsc, ?_⟩
    rw [decide_eq_true rfl]
    exact kD _
end
end Sh
set_option Elab.async false
set_option linter.all false
set_option maxRecDepth 100000
set_option maxHeartbeats 4000000
namespace Sh
open PySem PySem.Spec PyProof.Rows L2
open SX (S S_inj S_len S_cat)
open Bk (Rule left Wf Meets Reach Step IsEnd)
local macro_rules | `(tactic| walk_at "nx") => `(tactic| repeat (with_reducible first | refine Sh.gn_mk ?_ | refine Sh.nx_mk ?_ | refine Sh.st_nx ?_ | refine Sh.rt_mk ?_ | refine Sh.ct_mk ?_ | refine Sh.bk_mk ?_))
local macro_rules | `(tactic| walk_at "sq") => `(tactic| first | exact SqL.of upd_same | exact SqT.of upd_same | exact SqL.of (by assumption) | exact SqT.of (by assumption) | assumption | exact Or.inl (SqL.of (by assumption)) | exact Or.inr (SqT.of (by assumption)) | exact Or.inl (by assumption) | exact Or.inr (by assumption))
local macro_rules | `(tactic| walk_at "hp") => `(tactic| first | exact upd_same | assumption)
local macro_rules | `(tactic| walk_at "sz") => `(tactic| first | exact Nat.le_of_ble_eq_true rfl | omega)
local macro_rules | `(tactic| walk_at "sd") => `(tactic| first | omega | exact rfl | assumption | (show (0 : Int) < _; omega) | exact And.intro (by omega) (by omega) | exact Or.inl (And.intro (by omega) (by omega)) | exact Or.inr (And.intro (by omega) (by omega)) | omega | exact Sh.sz_S (by omega) | decide)
local macro_rules | `(tactic| walk_at "rd1") => `(tactic| first
  | (with_reducible first | refine Sh.gn_mk ?_ | refine Sh.nx_mk ?_ | refine Sh.st_nx ?_ | refine Sh.rt_mk ?_ | refine Sh.ct_mk ?_ | refine Sh.bk_mk ?_)
  | refine Exists.intro (α := V) _ (And.intro rfl ?_)
  | refine Exists.intro (α := Bool) _ (And.intro rfl ?_)
  | refine Exists.intro (α := Int) _ (And.intro rfl ?_)
  | refine Exists.intro (α := PySem.Str) _ (And.intro rfl ?_)
  | refine Exists.intro (α := Int) _ (Exists.intro (α := Int) _ (And.intro rfl (And.intro rfl ?_)))
  | refine Exists.intro (α := PySem.Str) _ (Exists.intro (α := PySem.Str) _ (And.intro rfl (And.intro rfl ?_)))
  | refine Exists.intro (α := Int) _ (Exists.intro (α := Int) _ (And.intro rfl ?_))
  | refine Or.inl (Exists.intro (α := Int) _ (And.intro rfl ?_))
  | refine Exists.intro _ (Exists.intro _ (Exists.intro _ (Exists.intro _ (And.intro rfl (And.intro rfl (And.intro (by walk_at "sq") (And.intro rfl ?_)))))))
  | refine Exists.intro _ (Exists.intro _ (Exists.intro _ (Exists.intro _ (And.intro rfl (And.intro rfl (And.intro (by walk_at "hp") (And.intro rfl ?_)))))))
  | refine And.intro (by walk_at "sd") ?_
  )
local macro_rules | `(tactic| walk_at "rd") => `(tactic| repeat walk_at "rd1")
local macro_rules | `(tactic| walk_at "lk") => `(tactic| first | exact rfl | (rw [lookup_putF, if_pos rfl]) | (rw [lookup_putF, if_neg (by decide +kernel)]; walk_at "lk"))

section
variable {P : Program} {w : World} {K : PySem.W.Frag} {mg : Str → Option Value} {base : Heap} {CB XT FT DT : Addr}
theorem law_body (T : TxtX P K mg CB XT FT DT) (f : Addr) (cdv : Value) (A : Around) (outer : List Env) (s : Shared) (H : Hp) (E : XK) (hr : Room 7 (A.deeper (envOfC "law" (defScope s_law) s.heap.objs.size f cdv))) (hgd : A.guards = some [])
    (a : Addr) (ns : List Int) (hS : SqL K H a (ns.map V.int)) (hbits : ∀ z ∈ ns, Builtin.Int.intBits z ≤ 1048576) (hlen : ns.length ≤ 63) :
    ∃ t, PSs (cxOf CX0 P w K mg base ["_law_script", "_law_source_here", "_law_signs", "_law_rules", "_law_arrow_of", "_law_book", "_law_undo_here", "_law_small", "_law_turn", "_law_draws", "_law_one", "_law_other", "_law_way", "_law_beside", "_law_cut", "_law_told", "_law_x", "_law_odd", "_law_lost", "raised", "_law_sign"] "law" (defScope s_law) f cdv A outer s H E).nox (defBody s_law) t ∧
      t { nx := fun _ _ => V.non = V.bl true, rt := fun v _ => v = .bl true } (start ["_law_script", "_law_source_here", "_law_signs", "_law_rules", "_law_arrow_of", "_law_book", "_law_undo_here", "_law_small", "_law_turn", "_law_draws", "_law_one", "_law_other", "_law_way", "_law_beside", "_law_cut", "_law_told", "_law_x", "_law_odd", "_law_lost", "raised", "_law_sign"] [.ref a]) H := by
  have c__law_source := c__law_source (P := P) (w := w) (base := base) T.toTxtC.toTxt
  have c__law_group := c__law_group (P := P) (w := w) (base := base) T.toTxtC.toTxt
  have c_Book := c_Book___init__ (P := P) (w := w) (base := base) T.toTxtC
  have c__law_undo := c__law_undo (P := P) (w := w) (base := base) T.toTxtC.toTxt
  have c__law_ends := c__law_ends (P := P) (w := w) (base := base) T.toTxtC.toTxt
  have c__law_group_parts := c__law_group_parts (P := P) (w := w) (base := base) T.toTxtC.toTxt
  have c__law_group_text := c__law_group_text (P := P) (w := w) (base := base) T.toTxtC.toTxt
  have c__law_pick := c__law_pick (P := P) (w := w) (base := base) T.toTxtC.toTxt
  have c__law_text := c__law_text (P := P) (w := w) (base := base) T.toTxtC.toTxt
  have c_X_carried := c_X_carried (P := P) (w := w) (base := base) T
  have c__law_due := c__law_due (P := P) (w := w) (base := base) T.toTxtC.toTxt
  have c__law_undone := c__law_undone (P := P) (w := w) (base := base) T.toTxtC.toTxt
  have c__law_left := c__law_left (P := P) (w := w) (base := base) T.toTxtC.toTxt
  have c__law_is_end := c__law_is_end (P := P) (w := w) (base := base) T.toTxtC.toTxt
  obtain ⟨tb_told, hb_told, kb_told⟩ := blk_told (P := P) (w := w) (base := base) T f cdv A outer s H E hr hgd
  obtain ⟨tb_odd, hb_odd, kb_odd⟩ := blk_odd (P := P) (w := w) (base := base) T f cdv A outer s H E hr hgd
  have hgd : (A.deeper (envOfC "law" (defScope s_law) s.heap.objs.size f cdv)).guards = some [] := hgd
  have hu := hu_of hr
  refine ⟨_, (pss_cons (ps_set (i := 1) sc_law.nd rfl (Or.inl rfl) (pe_c c__law_source hr (by decide) rfl (pa_cons (pv 0) (pa_cons pe_int pa_nil))))
  (pss_cons (ps_asg (pe_c c__law_group hr (by decide) rfl (pa_cons (pv 1) (pa_cons (pe_c c__law_group_parts hr (by decide) rfl (pa_cons (pe_c c__law_source hr (by decide) rfl (pa_cons (pv 0) (pa_cons pe_int pa_nil))) pa_nil)) pa_nil))) (pg_tup (by rfl) (pgs_cons (pg_name (i := 2) sc_law.nd rfl (Or.inr rfl)) (pgs_cons (pg_name (i := 3) sc_law.nd rfl (Or.inl rfl)) (pgs_cons (pg_name (i := 4) sc_law.nd rfl (Or.inl rfl)) pgs_nil)))))
  (pss_cons (ps_set (i := 5) sc_law.nd rfl (Or.inl rfl) (pe_mkC T.k_Book c_Book hr (by decide) rfl (pa_cons (pv 2) (pa_cons (pv 3) pa_nil))))
  (pss_cons (ps_set (i := 6) sc_law.nd rfl (Or.inl rfl) (pe_c c__law_undo hr (by decide) rfl (pa_cons (pv 2) (pa_cons (pv 3) pa_nil))))
  (pss_cons (ps_set (i := 7) sc_law.nd rfl (Or.inl rfl) (pe_c c__law_ends hr (by decide) rfl (pa_cons (pv 2) (pa_cons (pv 3) (pa_cons (pe_ifExp (pt_cmpR op_lt (pe_callB call_len_str (by rfl) T.b_len (by decide +kernel) (pa_cons (pv 2) pa_nil)) pe_int (nomark _)) pe_int pe_int) pa_nil)))))
  (pss_cons (ps_for PassesOwn.never rfl (pi_range1 (by rfl) T.b_range (pa_cons pe_int pa_nil)) (pg_name (i := 8) sc_law.nd rfl (Or.inl rfl))
    (pss_cons (ps_set (i := 9) sc_law.nd rfl (Or.inl rfl) (pe_c c__law_source hr (by decide) rfl (pa_cons (pv 0) (pa_cons (pe_op op_add (pv 8) pe_int) pa_nil))))
    (pss_cons (ps_set (i := 10) sc_law.nd rfl (Or.inl rfl) (pe_c c__law_group_text hr (by decide) rfl (pa_cons (pv 9) (pa_cons (pv 2) (pa_cons (pv 3) (pa_cons (pv 6) (pa_cons (pv 4) pa_nil)))))))
    (pss_cons (ps_set (i := 11) sc_law.nd rfl (Or.inl rfl) (pe_c c__law_group_text hr (by decide) rfl (pa_cons (pv 9) (pa_cons (pv 2) (pa_cons (pv 3) (pa_cons (pv 6) (pa_cons (pv 4) pa_nil)))))))
    (pss_cons (ps_set (i := 12) sc_law.nd rfl (Or.inl rfl) (pe_c c__law_pick hr (by decide) rfl (pa_cons (pv 9) (pa_cons pe_int pa_nil))))
    (pss_cons (ps_set (i := 13) sc_law.nd rfl (Or.inl rfl) (pe_c c__law_text hr (by decide) rfl (pa_cons (pv 9) (pa_cons (pv 2) (pa_cons pe_int pa_nil)))))
    (pss_cons (ps_if (pt_cmpR op_eq (pv 12) pe_int (nomark _))
      (pss_one (ps_set (i := 11) sc_law.nd rfl (Or.inl rfl) (pe_op op_add_str (pe_op op_add_str (pe_c c__law_undone hr (by decide) rfl (pa_cons (pv 6) (pa_cons (pv 13) pa_nil))) (pv 10)) (pv 13))))
      (pss_one (ps_if (pt_cmpR op_eq (pv 12) pe_int (nomark _))
        (pss_cons (ps_set (i := 14) sc_law.nd rfl (Or.inl rfl) (pe_c c__law_pick hr (by decide) rfl (pa_cons (pv 9) (pa_cons (pe_op op_add (pe_callB call_len_str (by rfl) T.b_len (by decide +kernel) (pa_cons (pv 10) pa_nil)) pe_int) pa_nil))))
        (pss_one (ps_set (i := 11) sc_law.nd rfl (Or.inl rfl) (pe_op op_add_str (pe_slice sl_str (pv 10) (po_some (pv 14)) po_none) (pe_slice sl_str (pv 10) po_none (po_some (pv 14)))))))
        pss_nil)))
    hb_told)))))))
  hb_odd)))))), ?_⟩
  have hu65 := hu65_of hr
  refine ⟨_, rfl, a, ns, 0, rfl, hS, hbits, hlen, by decide, by decide, fun p H1 hp s1 hs1 => ?_⟩
  walk_at "nx"
  refine ⟨_, rfl, _, rfl, a, ns, 1, rfl, s1.seq hS, hbits, hlen, by decide, by decide, fun p1 H2 hp1 s2 hs2 => ?_⟩
  refine tNil_mk ?_
  refine ⟨p1, rfl, hs2, fun q qs sh H3 hg hq itq hS3 b3 hq0 => ?_⟩
  have s13 : Same H1 H3 := ((But.same s2).trans b3).toSame hp1
  have nqp : q ≠ p := by
    obtain ⟨d, e, c, z⟩ := hs1
    exact (ne_of_none (s2 _ _ z) hq0).symm
  have hSp : Src H3 p := by
    obtain ⟨d, e, c, z⟩ := hs1
    exact ⟨d, e, c, s13 _ _ z⟩
  clear b3 hS3 hq0 s2 hs2 hp1
  refine tNil_mk ?_
  refine ⟨p, q, qs, sh, rfl, hSp, hq, itq, hg, nqp, fun r d l sg ar R kvs zs H4 harp hsp hR hr4 hl4 itR4 hd4 hA4 hS4 b4 => ?_⟩
  have G : GB sh sg ar R := ⟨hg, harp, hsp, hR⟩
  have s04 : Same H H4 := ((But.same (s1.trans s13)).trans b4).toSame hp
  clear b4 hSp s13 s1 hs1 hp
  refine ⟨r, _, rfl, SqT.of hr4, rfl, _, _, rfl, _, _, rfl, _, _, rfl, rfl, ?_⟩
  walk_at "nx"
  refine ⟨_, rfl, _, rfl, ?_⟩
  intro x dx hx hdx hne
  have s5 : Same H4 (upd (upd H4 dx (.own x)) x (.ins CB dx [])) := fun b o e => by
    rw [upd_ne (ne_of_none e hx), upd_ne (ne_of_none e hdx)]
    exact e
  have hRA : RulesAt K H4 l zs R := ⟨SqT.of hl4, itR4.1, fun i x y h1 h2 => let ⟨q', e, z⟩ := itR4.2 i x y h1 h2; ⟨q', e, SqT.of z⟩⟩
  refine ⟨x, dx, l, sg, zs, R, rfl, upd_same, hRA.same s5, G.ok, fun H5 BA b5 => ⟨rfl, ?_⟩⟩
  have s45 : Same H4 H5 := Same.made hx hdx fun b o e n => b5 b o n e
  clear b5 s5 hne hdx hx dx
  walk_at "nx"
  have itR5 := itR4.mono fun x y (h : RuV H4 x y) => (let ⟨q', e, z⟩ := h; ⟨q', e, s45 _ _ z⟩ : RuV H5 x y)
  refine ⟨_, rfl, _, rfl, l, sh, sg, ar, R, zs, rfl, G, s45 _ _ hl4, itR5, fun u ku H6 hu6 hU6 s56 _ => ?_⟩
  have s46 := s45.trans s56
  have LB : LBk K CB sh sg ar R l d u x zs kvs ku H6 := ⟨G, s46 _ _ hl4, itR4.mono fun x y ⟨q', e, z⟩ => ⟨q', e, s46 _ _ z⟩, s46 _ _ hd4, fun t c a h1 h2 h3 => let ⟨q', e, z⟩ := hA4 t c a h1 h2 h3; ⟨q', e, s46 _ _ z⟩, hu6, hU6, BA.same s56⟩
  have hS6 := (s04.trans s46).seq hS
  have hSp6 : Src H6 p := by
    obtain ⟨d, e, c, z⟩ := hS4
    exact ⟨d, e, c, s46 _ _ z⟩
  obtain ⟨hs1, hs8⟩ := signs_len G.ok.1
  walk_at "nx"
  refine ⟨_, rfl, _, rfl, ?_⟩
  show tIf _ _ _ _ _ _
  refine ev_J (fun v H' => (∃ n : Nat, v = .int (n : Nat) ∧ n ≤ 3) ∧ H' = H6) (fun Q' hQ => ?_) ?_
  · refine ⟨_, rfl, ?_⟩
    refine tNil_mk ?_
    refine ⟨_, rfl, sz_S (by omega), ?_⟩
    refine ⟨_, _, rfl, rfl, _, rfl, ?_⟩
    refine ite2 (fun c => ?_) (fun c => ?_)
    · exact hQ _ _ ⟨⟨3, rfl, by decide⟩, rfl⟩
    · exact hQ _ _ ⟨⟨2, rfl, by decide⟩, rfl⟩
  rintro v H' ⟨⟨nn, rfl, hnn⟩, rfl⟩
  refine tNil_mk ?_
  refine ⟨l, sh, sg, ar, R, zs, nn, rfl, G, LB.hl, LB.it, hnn, fun sm ts H7 hsm hts s67 => ?_⟩
  have LB7 := LB.same s67
  have hS7 := s67.seq hS6
  have hSp7 : Src H7 p := by
    obtain ⟨d, e, c, z⟩ := hSp6
    exact ⟨d, e, c, s67 _ _ z⟩
  walk_at "nx"
  walk_at "rd"
  refine for_range (lo := 0) (n := _) (fun i σ H8 => ∃ (v8 v9 v10 v11 v12 v13 v14 v15 v16 v17 v18 v19 v20 : Option V), σ = [some (.ref a), some (.ref p), some (.str (S sg)), some (.ref l), some (.ref d), some (.ref x), some (.ref u), some (.ref sm), v8, v9, v10, v11, v12, v13, v14, v15, v16, v17, v18, v19, v20] ∧ Same H7 H8)
    ⟨_, _, _, _, _, _, _, _, _, _, _, _, _, rfl, fun _ _ h => h⟩ ?_ ?_
  · rintro i σ H8 hi ⟨v8, v9, v10, v11, v12, v13, v14, v15, v16, v17, v18, v19, v20, rfl, s8⟩
    rw [Int.zero_add]
    have hi3 : i < 3 := hi
    have LB8 := LB7.same s8
    walk_at "nx"
    refine ⟨_, rfl, _, rfl, _, _, rfl, rfl, ?_⟩
    refine tNil_mk ?_
    refine ⟨a, ns, (i : Nat) + 2, rfl, s8.seq hS7, hbits, hlen, by omega, by omega, fun pd H9 hpd s9 hs9 => ?_⟩
    have LB9 := LB8.same s9
    walk_at "nx"
    refine ⟨_, rfl, _, rfl, _, rfl, _, rfl, _, rfl, pd, l, u, d, sh, sg, ar, R, zs, ku, kvs, rfl, hs9, G, LB9.hl, LB9.it, LB9.hu, LB9.uv, LB9.hd, LB9.ha, fun t H10 htc htl hS10 b10 => ?_⟩
    have bb10 := (But.same s9).trans b10
    have LB10 := LB8.same (bb10.toSame hpd)
    walk_at "nx"
    refine ⟨_, rfl, _, rfl, _, rfl, _, rfl, _, rfl, pd, l, u, d, sh, sg, ar, R, zs, ku, kvs, rfl, hS10, G, LB10.hl, LB10.it, LB10.hu, LB10.uv, LB10.hd, LB10.ha, fun t2 H11 htc2 htl2 hS11 b11 => ?_⟩
    have bb11 := bb10.trans b11
    walk_at "nx"
    refine ⟨_, rfl, pd, 3, rfl, hS11, by decide, by decide, fun n H12 n0 n1 hS12 b12 => ?_⟩
    have bb12 := bb11.trans b12
    walk_at "nx"
    refine ⟨_, rfl, _, rfl, pd, sg, 3, rfl, hS12, hs1, by omega, by decide, by decide, fun bs H13 hb1 hb2 hS13 b13 => ?_⟩
    have bb13 := bb12.trans b13
    have LB13 := LB8.same (bb13.toSame hpd)
    walk_at "nx"
    refine st_ifJ (fun σ H14 => ∃ (o : List Nat) (v14 : Option V), σ = [some (.ref a), some (.ref p), some (.str (S sg)), some (.ref l), some (.ref d), some (.ref x), some (.ref u), some (.ref sm), some (.int (i : Nat)), some (.ref pd), some (.str (S t)), some (.str (S o)), some (.int n), some (.str (S bs)), v14, v15, v16, v17, v18, v19, v20] ∧ (∀ c ∈ o, c ∈ sg) ∧ o.length ≤ 20 ∧ (n < 2 → Cnj R sg t o) ∧ But pd H8 H14) (fun N hN => ?_) (fun σ H14 hP => ?_)
    · have hlim : (1000 : Nat) ≤ sizeLine := by decide
      refine if_K (decide (n = 0)) (fun Q' hQ => ?_) (fun hc => ?_) (fun hc => ?_)
      · refine ⟨_, rfl, rfl, _, rfl, ?_⟩
        rw [show decide (V.int n = V.int 0) = decide (n = 0) from decide_eq_decide.mpr ⟨fun z => V.int.inj z, fun z => by rw [z]⟩]
        exact hQ
      · have hil : (invS R sg bs).length = bs.length := invS_len _ _ _
        refine ⟨_, rfl, _, rfl, ?_⟩
        refine tNil_mk ?_
        refine ⟨u, sh, sg, ar, R, bs, ku, rfl, G, LB13.hu, LB13.uv, hb2, by omega, fun H14 s14 => ?_⟩
        refine ⟨_, rfl, S (invS R sg bs), S t, rfl, rfl, by rw [S_len, S_len]; exact Nat.le_trans (m := 1000) (by omega) hlim, ?_⟩
        rw [S_cat]
        refine ⟨_, rfl, S (invS R sg bs ++ t), S bs, rfl, rfl, by rw [S_len, S_len, List.length_append]; exact Nat.le_trans (m := 1000) (by omega) hlim, ?_⟩
        rw [S_cat]
        refine hN _ _ ⟨invS R sg bs ++ t ++ bs, _, rfl, fun c hc => ?_, by rw [List.length_append, List.length_append]; omega, fun _ => G.cnj_turn hb2, bb13.trans (But.same s14)⟩
        rcases List.mem_append.mp hc with z | z
        · rcases List.mem_append.mp z with z | z
          · exact G.inv_sub hb2 c z
          · exact htc c z
        · exact hb2 c z
      · have hn0 := of_decide_eq_false hc
        refine if_K (decide (n = 1)) (fun Q' hQ => ?_) (fun hc => ?_) (fun hc => ?_)
        · refine ⟨_, rfl, rfl, _, rfl, ?_⟩
          rw [show decide (V.int n = V.int 1) = decide (n = 1) from decide_eq_decide.mpr ⟨fun z => V.int.inj z, fun z => by rw [z]⟩]
          exact hQ
        · refine ⟨_, rfl, _, rfl, ?_⟩
          refine tNil_mk ?_
          refine ⟨_, rfl, sz_S (by omega), ?_⟩
          rw [S_len]
          refine ⟨_, _, rfl, rfl, ?_⟩
          refine tNil_mk ?_
          refine ⟨pd, _, rfl, hS13, by omega, by omega, fun r H14 r0 r1 hS14 b14 => ?_⟩
          obtain ⟨rn, rfl⟩ : ∃ rn : Nat, r = rn := ⟨r.toNat, by omega⟩
          have hto : ((rn : Nat) : Int).toNat = rn := by omega
          walk_at "nx"
          refine ⟨_, rfl, _, rfl, _, rfl, S t, rfl, sz_S (by omega), ?_⟩
          rw [cut_from (by omega), hto]
          refine ⟨_, rfl, _, rfl, _, rfl, S t, rfl, sz_S (by omega), ?_⟩
          rw [cut_to (by omega), hto]
          refine ⟨S (t.drop rn), S (t.take rn), rfl, rfl, by rw [S_len, S_len]; exact Nat.le_trans (m := 1000) (by rw [List.length_drop, List.length_take]; omega) hlim, ?_⟩
          rw [S_cat]
          refine hN _ _ ⟨t.drop rn ++ t.take rn, _, rfl, fun c hc => ?_, by rw [List.length_append, List.length_drop, List.length_take]; omega, fun _ => ?_, bb13.trans b14⟩
          · rcases List.mem_append.mp hc with z | z
            · exact htc c (List.mem_of_mem_drop z)
            · exact htc c (List.mem_of_mem_take z)
          · have := cnj_rot (R := R) (a := t.take rn) (b := t.drop rn) fun c hc => htc c (List.mem_of_mem_take hc)
            rwa [List.take_append_drop] at this
        · have hn1 := of_decide_eq_false hc
          walk_at "nx"
          exact hN _ _ ⟨t2, _, rfl, htc2, by omega, fun z => by omega, bb13⟩
    · obtain ⟨o, v14', rfl, hoc, hol, hcn, bb14⟩ := hP
      show tb_told _ _ _
      refine kb_told _ H8 H14 i a p sm pd l d u x sh sg ar R zs kvs ku t o ts n _ _ _ _ _ _ _ _ LB8 (s8 _ _ hsm) hts hpd bb14 htc (by omega) hoc hol hcn ?_
      rintro σ' H' ⟨w9, w10, w11, w12, w13, w14, w15, w16, w17, w18, w19, w20, rfl⟩ b'
      exact ⟨_, _, _, _, _, _, _, _, _, _, _, _, _, rfl, s8.trans (b'.toSame hpd)⟩
  · rintro σ H8 ⟨v8, v9, v10, v11, v12, v13, v14, v15, v16, v17, v18, v19, v20, rfl, s8⟩
    exact kb_odd _ H8 a p sm l d u x sh sg ar R zs kvs ku v8 v9 v10 v11 v12 v13 v14 v15 v16 v17 v18 v19 v20 (LB7.same s8) (by obtain ⟨d, e, c, z⟩ := hSp7; exact ⟨d, e, c, s8 _ _ z⟩) fun H' => rfl
end
end Sh
set_option Elab.async false
set_option linter.all false
set_option maxRecDepth 100000
namespace Sh
open PySem PySem.Spec PyProof.Rows L2
section
variable {P : Program} {K : PySem.W.Frag} {h : Heap} {mg : Str → Option Value}
/-- an exception class -/
theorem exc_mk {x : Str} {C f D N : Addr} {nm q : Str} {bs bm : List Value} {sn : List Str} {sub : List Value} {ab : Bool} {col : Option Bool} {dd : Option Addr} {k0 k1 k2 k3 k5 : Option Value} (X : K.In h) (Y : h.Ns mainGlobals mg)
    (a : PySem.W.nsIn K mainGlobals x = some (some (.ref C))) (l : K.lookup C = some (excClassObj nm q C N bs bm true sn sub ab col dd k0 k1 k2 k3 k5 "ValueError.__new__")) (vb : PySem.HandSPX.refsVE bm = true)
    (sa : PySem.W.findIn K (.ref C) "__setattr__" = some (some (.builtin "object.__setattr__"))) (ga : PySem.W.findIn K (.ref C) "__getattribute__" = some (some (.builtin "BaseException.__getattribute__"))) (gg : PySem.W.findIn K (.ref C) "__getattr__" = some none)
    (ic : PySem.W.findIn K (.ref C) "__init__" = some (some (.ref f))) (ti : PySem.W.typeIn K (.ref f) = some (.type "function")) (kc : PySem.W.keepIn K (.ref C) = true) (ex : PySem.W.subIn K (.ref C) (.type "BaseException") = some true)
    (ty : PySem.W.typeIn K (.ref C) = some (.type "type")) (hd : PySem.W.hasDictIn K C = true) (su : PySem.W.mroIn K C (.ref D) = some true) (sp : PySem.W.ks_superIn K C D "__init__" = some (some (.builtin "ValueError.__init__"))) (ve : PySem.W.subIn K (.ref C) (.type "ValueError") = some true) :
    ExcAt K mg x C f D :=
  ⟨⟨⟨nm, q, N, bs, bm, sn, sub, ab, col, dd, k0, k1, k2, k3, k5, l, vb⟩, sa, ex, ty, kc⟩, PySem.W.mg_of X Y a, ic, ti, ⟨su, sp, ve⟩, ⟨ga, gg, ex, hd⟩⟩
/-- its __init__ -/
theorem xinit_mk {q : Str} {st : Stmt} {ps : List Str} {D f cc cda : Addr} {oc kv dc pm ct cl cl2 : Value} {od an cld cld2 : Option Addr} {sl csl csl2 : Array (Option Value)} {vs : Array Value} {file : Str} {tf : Tok} {cd : ClassData}
    (l : K.lookup f = some ⟨oc, od, .func (PySem.W.fnX "__init__" q (defArgs st) (defBody st) (defScope st) [("__class__", cc)] .none kv dc pm an (.ref cda) ct), sl⟩) (c : PySem.W.codeIn K (.ref cda) q = true)
    (hcc : K.lookup cc = some ⟨cl, cld, .cell (some (.ref D)), csl⟩) (hcd : K.lookup cda = some ⟨cl2, cld2, .fields vs, csl2⟩) (hvs : vs[2]? = some (.str file tf)) (hfl : ((P.main.file : Str) == file) = true) (top : (P.main.scope.names.lookup ("super" : Str)).isSome = false)
    (hD : PySem.W.clsIn K D = some cd) (op : PySem.W.nsIn K cStatics "thirdparty.any" = some none) (ms : mg "super" = none) (hp : ∃ ar : Arg, ((defArgs st).posonlyargs ++ (defArgs st).args).head? = some ar ∧ ar.arg = "self") (hks : (defScope st).names.lookup ("super" : Str) = some .globalImplicit)
    (b : ∀ (kV doc pm : Value) (an : Option Addr) (cdv ct : Value) (us : List Value), us.length = ps.length → bindArgs (PySem.W.fnX "__init__" q (defArgs st) (defBody st) (defScope st) [("__class__", cc)] .none kV doc pm an cdv ct) ⟨us, []⟩ = pure (ps.zip us)) : XInit P K mg q st ps D f :=
  ⟨_, ⟨⟨cc, cda, oc, kv, dc, pm, ct, od, an, sl, rfl, l, c, ⟨cl, cld, csl, hcc⟩, ⟨cl2, cld2, vs, csl2, file, tf, hcd, hvs, hfl⟩⟩, top, ms, ⟨cd, hD⟩, op, hp, hks⟩, Binds.all fun us hl => b kv dc pm an (.ref cda) ct us hl⟩
end
end Sh
set_option Elab.async false
set_option linter.all false
set_option maxRecDepth 100000
namespace Sh
open PySem PySem.Spec PyProof.Rows L2
theorem all_cls {K : PySem.W.Frag} {h : Heap} {mg : Str → Option Value} {CB : Addr}
    {f_Book___init__ : Addr} {od_Book___init__ an_Book___init__ : Option Addr} {sl_Book___init__ : Array (Option Value)} {oc_Book___init__ kv_Book___init__ dc_Book___init__ pm_Book___init__ cd_Book___init__ ct_Book___init__ : Value}
    {f_Book___call__ : Addr} {od_Book___call__ an_Book___call__ : Option Addr} {sl_Book___call__ : Array (Option Value)} {oc_Book___call__ kv_Book___call__ dc_Book___call__ pm_Book___call__ cd_Book___call__ ct_Book___call__ : Value}
    (X : K.In h) (Y : h.Ns mainGlobals mg) (T0 : Txt K mg)
    (a_Book : PySem.W.nsIn K mainGlobals "Book" = some (some (.ref CB)))
    (pg_Book : PySem.W.plainGet K CB Str.empty = true) (hd_Book : PySem.W.hasDictIn K CB = true) (po_Book : PySem.W.plainOver K CB = true) (sa_Book : PySem.W.findIn K (.ref CB) "__setattr__" = some (some (.builtin "object.__setattr__")))
    (mk_Book : PySem.W.makesIn K CB = true) (kp_Book : PySem.W.keepIn K (.ref CB) = true)
    (m_Book___init__ : PySem.W.findIn K (.ref CB) "__init__" = some (some (.ref f_Book___init__))) (i_Book___init__ : PySem.W.isFn K (.ref f_Book___init__) = true) (o_Book___init__ : PySem.W.fnIn K f_Book___init__ = true)
    (l_Book___init__ : K.lookup f_Book___init__ = some ⟨oc_Book___init__, od_Book___init__, .func (PySem.W.fnOf "__init__" "Book.__init__" (defArgs s_Book___init__) (defBody s_Book___init__) (defScope s_Book___init__) .none kv_Book___init__ dc_Book___init__ pm_Book___init__ an_Book___init__ cd_Book___init__ ct_Book___init__), sl_Book___init__⟩)
    (c_Book___init__ : PySem.W.codeIn K cd_Book___init__ "Book.__init__" = true) (k_Book___init__ : PySem.W.keepIn K (.ref f_Book___init__) = true)
    (m_Book___call__ : PySem.W.findIn K (.ref CB) "__call__" = some (some (.ref f_Book___call__))) (i_Book___call__ : PySem.W.isFn K (.ref f_Book___call__) = true) (o_Book___call__ : PySem.W.fnIn K f_Book___call__ = true)
    (l_Book___call__ : K.lookup f_Book___call__ = some ⟨oc_Book___call__, od_Book___call__, .func (PySem.W.fnOf "__call__" "Book.__call__" (defArgs s_Book___call__) (defBody s_Book___call__) (defScope s_Book___call__) .none kv_Book___call__ dc_Book___call__ pm_Book___call__ an_Book___call__ cd_Book___call__ ct_Book___call__), sl_Book___call__⟩)
    (c_Book___call__ : PySem.W.codeIn K cd_Book___call__ "Book.__call__" = true) (k_Book___call__ : PySem.W.keepIn K (.ref f_Book___call__) = true)
    (n_Book_signs : PySem.W.findIn K (.ref CB) "signs" = some none)
    (n_Book_rules : PySem.W.findIn K (.ref CB) "rules" = some none)
    (n_Book__lefts : PySem.W.findIn K (.ref CB) "_lefts" = some none)
    (n_Book__longest : PySem.W.findIn K (.ref CB) "_longest" = some none)
    (n_Book__quarrel : PySem.W.findIn K (.ref CB) "_quarrel" = some none)
    (n_Book__moves : PySem.W.findIn K (.ref CB) "_moves" = some none) :
    ∃ CB : Addr, TxtC K mg CB :=
  ⟨CB, { T0 with
    k_Book := ⟨⟨pg_Book, hd_Book, po_Book, sa_Book⟩, PySem.W.mg_of X Y a_Book, mk_Book, kp_Book⟩
    m_Book___init__ := meth_mk (ps := ["self", "signs", "rules"]) l_Book___init__ c_Book___init__ k_Book___init__ m_Book___init__ i_Book___init__ o_Book___init__ (fun _ _ _ _ _ _ us hl => match us, hl with | [_, _, _], _ => rfl)
    m_Book___call__ := meth_mk (ps := ["self", "text"]) l_Book___call__ c_Book___call__ k_Book___call__ m_Book___call__ i_Book___call__ o_Book___call__ (fun _ _ _ _ _ _ us hl => match us, hl with | [_, _], _ => rfl)
    n_Book_signs := n_Book_signs
    n_Book_rules := n_Book_rules
    n_Book__lefts := n_Book__lefts
    n_Book__longest := n_Book__longest
    n_Book__quarrel := n_Book__quarrel
    n_Book__moves := n_Book__moves }⟩
theorem all_exc {P : Program} {K : PySem.W.Frag} {h : Heap} {mg : Str → Option Value} {CB XT FT DT : Addr}
    {N_BadText : Addr} {nm_BadText q_BadText : Str} {bs_BadText bm_BadText : List Value} {sn_BadText : List Str} {sub_BadText : List Value} {ab_BadText : Bool} {col_BadText : Option Bool} {dd_BadText : Option Addr} {k0_BadText k1_BadText k2_BadText k3_BadText k5_BadText : Option Value}
    {cc_WrongThing ca_WrongThing : Addr} {oc_WrongThing kv_WrongThing dc_WrongThing pm_WrongThing ct_WrongThing cl_WrongThing cm_WrongThing : Value} {od_WrongThing an_WrongThing ce_WrongThing cf_WrongThing : Option Addr} {sl_WrongThing cs_WrongThing ct2_WrongThing : Array (Option Value)} {fv_WrongThing : Array Value} {fi_WrongThing : Str} {tf_WrongThing : Tok} {cd_WrongThing : ClassData}
    (KX : K.In h) (G : h.Ns mainGlobals mg) (TC : TxtC K mg CB)
    (op : PySem.W.nsIn K cStatics "thirdparty.any" = some none)
    (a_BadText : PySem.W.nsIn K mainGlobals "BadText" = some (some (.ref XT)))
    (xl_BadText : K.lookup XT = some (excClassObj nm_BadText q_BadText XT N_BadText bs_BadText bm_BadText true sn_BadText sub_BadText ab_BadText col_BadText dd_BadText k0_BadText k1_BadText k2_BadText k3_BadText k5_BadText "ValueError.__new__"))
    (vb_BadText : PySem.HandSPX.refsVE bm_BadText = true)
    (sa_BadText : PySem.W.findIn K (.ref XT) "__setattr__" = some (some (.builtin "object.__setattr__")))
    (ga_BadText : PySem.W.findIn K (.ref XT) "__getattribute__" = some (some (.builtin "BaseException.__getattribute__")))
    (gg_BadText : PySem.W.findIn K (.ref XT) "__getattr__" = some none)
    (ic_BadText : PySem.W.findIn K (.ref XT) "__init__" = some (some (.ref FT)))
    (ti_BadText : PySem.W.typeIn K (.ref FT) = some (.type "function"))
    (kc_BadText : PySem.W.keepIn K (.ref XT) = true)
    (ex_BadText : PySem.W.subIn K (.ref XT) (.type "BaseException") = some true)
    (ty_BadText : PySem.W.typeIn K (.ref XT) = some (.type "type"))
    (hd_BadText : PySem.W.hasDictIn K XT = true)
    (l_WrongThing : K.lookup FT = some ⟨oc_WrongThing, od_WrongThing, .func (PySem.W.fnX "__init__" "WrongThing.__init__" (defArgs s_WrongThing___init__) (defBody s_WrongThing___init__) (defScope s_WrongThing___init__) [("__class__", cc_WrongThing)] .none kv_WrongThing dc_WrongThing pm_WrongThing an_WrongThing (.ref ca_WrongThing) ct_WrongThing), sl_WrongThing⟩)
    (c_WrongThing : PySem.W.codeIn K (.ref ca_WrongThing) "WrongThing.__init__" = true)
    (cl1_WrongThing : K.lookup cc_WrongThing = some ⟨cl_WrongThing, ce_WrongThing, .cell (some (.ref DT)), cs_WrongThing⟩)
    (cl2_WrongThing : K.lookup ca_WrongThing = some ⟨cm_WrongThing, cf_WrongThing, .fields fv_WrongThing, ct2_WrongThing⟩)
    (fv1_WrongThing : fv_WrongThing[2]? = some (.str fi_WrongThing tf_WrongThing))
    (fl_WrongThing : ((P.main.file : Str) == fi_WrongThing) = true)
    (cD_WrongThing : PySem.W.clsIn K DT = some cd_WrongThing)
    (top : (P.main.scope.names.lookup ("super" : Str)).isSome = false)
    (su_BadText : PySem.W.mroIn K XT (.ref DT) = some true)
    (sp_BadText : PySem.W.ks_superIn K XT DT "__init__" = some (some (.builtin "ValueError.__init__")))
    (ve_BadText : PySem.W.subIn K (.ref XT) (.type "ValueError") = some true)
    (nf_BadText_thing : PySem.W.findIn K (.ref XT) "thing" = some none)
    (h_BadText_BadText : PySem.W.subIn K (.ref XT) (.ref XT) = some true) :
    ∃ XT FT DT : Addr, TxtX P K mg CB XT FT DT :=
  ⟨XT, FT, DT, { TC with
    e_BadText := exc_mk KX G a_BadText xl_BadText vb_BadText sa_BadText ga_BadText gg_BadText ic_BadText ti_BadText kc_BadText ex_BadText ty_BadText hd_BadText su_BadText sp_BadText ve_BadText
    q_WrongThing := xinit_mk l_WrongThing c_WrongThing cl1_WrongThing cl2_WrongThing fv1_WrongThing fl_WrongThing top cD_WrongThing op TC.b_super ⟨_, rfl, rfl⟩ (by decide +kernel) (fun _ _ _ _ _ _ us hl => match us, hl with | [_, _], _ => rfl)
    nf_BadText_thing := nf_BadText_thing
    mm_BadText_BadText := PySem.W.exm_ref ex_BadText hd_BadText ty_BadText h_BadText_BadText }⟩
end Sh
open PySem PySem.W PyProof.Rows
set_option maxRecDepth 100000 in
set_option maxHeartbeats 0 in
theorem PySem.Challenge.cw_shrunkalike_k56_whole_carried_holds : PySem.Challenge.rw_shrunkalike_k56_whole_carried.Holds := by
  w_on; o_law; k_head; (case hw => w_witness2)
  k_fill
  refine Sh.walk_law (l := PySem.Challenge.rw_shrunkalike_k56_whole_carried) (n := 63) (k := 7) (x := "law") (p1 := "_law_script") (st := Sh.s_law) (N := ["_law_script", "_law_source_here", "_law_signs", "_law_rules", "_law_arrow_of", "_law_book", "_law_undo_here", "_law_small", "_law_turn", "_law_draws", "_law_one", "_law_other", "_law_way", "_law_beside", "_law_cut", "_law_told", "_law_x", "_law_odd", "_law_lost", "raised", "_law_sign"]) rfl (by decide) rfl ⟨rfl, by decide, by decide⟩ Sh.sc_law (fun w h Y => PySem.W.kIn_of Y) ?F
  case F =>
    intro w mg fa h KX G hmg
    have b_len : mg "len" = none := by refine' PySem.W.mg_none_of KX G ?z; (case z => k_is)
    have b_range : mg "range" = none := by refine' PySem.W.mg_none_of KX G ?z; (case z => k_is)
    have b_min : mg "min" = none := by refine' PySem.W.mg_none_of KX G ?z; (case z => k_is)
    have b_max : mg "max" = none := by refine' PySem.W.mg_none_of KX G ?z; (case z => k_is)
    have b_any : mg "any" = none := by refine' PySem.W.mg_none_of KX G ?z; (case z => k_is)
    have b_all : mg "all" = none := by refine' PySem.W.mg_none_of KX G ?z; (case z => k_is)
    have b_isinstance : mg "isinstance" = none := by refine' PySem.W.mg_none_of KX G ?z; (case z => k_is)
    have b_abs : mg "abs" = none := by refine' PySem.W.mg_none_of KX G ?z; (case z => k_is)
    have b_int : mg "int" = none := by refine' PySem.W.mg_none_of KX G ?z; (case z => k_is)
    have b_str : mg "str" = none := by refine' PySem.W.mg_none_of KX G ?z; (case z => k_is)
    have b_tuple : mg "tuple" = none := by refine' PySem.W.mg_none_of KX G ?z; (case z => k_is)
    have b_list : mg "list" = none := by refine' PySem.W.mg_none_of KX G ?z; (case z => k_is)
    have b_repr : mg "repr" = none := by refine' PySem.W.mg_none_of KX G ?z; (case z => k_is)
    have b_sorted : mg "sorted" = none := by refine' PySem.W.mg_none_of KX G ?z; (case z => k_is)
    have b_iter : mg "iter" = none := by refine' PySem.W.mg_none_of KX G ?z; (case z => k_is)
    have b_super : mg "super" = none := by refine' PySem.W.mg_none_of KX G ?z; (case z => k_is)
    have g_LETTERS : ∃ u, mg "LETTERS" = some u ∧ L2.RelV (.str "abcdefghijklmnopqrstuvwxyz") u := by refine' Sh.con_mk KX G ?a ?r; (case a => k_is); (case r => exact ⟨_, rfl⟩)
    have g_LONGEST_TEXT : ∃ u, mg "LONGEST_TEXT" = some u ∧ L2.RelV (.int 200) u := by refine' Sh.con_mk KX G ?a ?r; (case a => k_is); (case r => exact ⟨_, rfl⟩)
    have g_MOST_RULES : ∃ u, mg "MOST_RULES" = some u ∧ L2.RelV (.int 64) u := by refine' Sh.con_mk KX G ?a ?r; (case a => k_is); (case r => exact ⟨_, rfl⟩)
    have g_LONGEST_LEFT : ∃ u, mg "LONGEST_LEFT" = some u ∧ L2.RelV (.int 4) u := by refine' Sh.con_mk KX G ?a ?r; (case a => k_is); (case r => exact ⟨_, rfl⟩)
    have d_is_listed : Sh.DefAt (L2.KOf KX) mg "is_listed" Sh.s_is_listed ["thing"] := by delta L2.KOf; refine' Sh.def_mk KX G ?a ?l ?c ?k ?b; (case a => k_is); (case l => k_is); (case c => k_is); (case k => k_is); (case b => exact fun _ _ _ _ _ _ us hl => match us, hl with | [_], _ => rfl)
    have d_is_signs : Sh.DefAt (L2.KOf KX) mg "is_signs" Sh.s_is_signs ["thing"] := by delta L2.KOf; refine' Sh.def_mk KX G ?a ?l ?c ?k ?b; (case a => k_is); (case l => k_is); (case c => k_is); (case k => k_is); (case b => exact fun _ _ _ _ _ _ us hl => match us, hl with | [_], _ => rfl)
    have d_check_signs : Sh.DefAt (L2.KOf KX) mg "check_signs" Sh.s_check_signs ["thing"] := by delta L2.KOf; refine' Sh.def_mk KX G ?a ?l ?c ?k ?b; (case a => k_is); (case l => k_is); (case c => k_is); (case k => k_is); (case b => exact fun _ _ _ _ _ _ us hl => match us, hl with | [_], _ => rfl)
    have d_is_text : Sh.DefAt (L2.KOf KX) mg "is_text" Sh.s_is_text ["signs", "thing", "low", "high"] := by delta L2.KOf; refine' Sh.def_mk KX G ?a ?l ?c ?k ?b; (case a => k_is); (case l => k_is); (case c => k_is); (case k => k_is); (case b => exact fun _ _ _ _ _ _ us hl => match us, hl with | [_, _, _, _], _ => rfl)
    have d_check_text : Sh.DefAt (L2.KOf KX) mg "check_text" Sh.s_check_text ["signs", "thing"] := by delta L2.KOf; refine' Sh.def_mk KX G ?a ?l ?c ?k ?b; (case a => k_is); (case l => k_is); (case c => k_is); (case k => k_is); (case b => exact fun _ _ _ _ _ _ us hl => match us, hl with | [_, _], _ => rfl)
    have d_text_key : Sh.DefAt (L2.KOf KX) mg "text_key" Sh.s_text_key ["text"] := by delta L2.KOf; refine' Sh.def_mk KX G ?a ?l ?c ?k ?b; (case a => k_is); (case l => k_is); (case c => k_is); (case k => k_is); (case b => exact fun _ _ _ _ _ _ us hl => match us, hl with | [_], _ => rfl)
    have d_first_rules : Sh.DefAt (L2.KOf KX) mg "first_rules" Sh.s_first_rules ["rules"] := by delta L2.KOf; refine' Sh.def_mk KX G ?a ?l ?c ?k ?b; (case a => k_is); (case l => k_is); (case c => k_is); (case k => k_is); (case b => exact fun _ _ _ _ _ _ us hl => match us, hl with | [_], _ => rfl)
    have d_longest_left : Sh.DefAt (L2.KOf KX) mg "longest_left" Sh.s_longest_left ["rules"] := by delta L2.KOf; refine' Sh.def_mk KX G ?a ?l ?c ?k ?b; (case a => k_is); (case l => k_is); (case c => k_is); (case k => k_is); (case b => exact fun _ _ _ _ _ _ us hl => match us, hl with | [_], _ => rfl)
    have d_used_at_end : Sh.DefAt (L2.KOf KX) mg "used_at_end" Sh.s_used_at_end ["lefts", "longest", "pile"] := by delta L2.KOf; refine' Sh.def_mk KX G ?a ?l ?c ?k ?b; (case a => k_is); (case l => k_is); (case c => k_is); (case k => k_is); (case b => exact fun _ _ _ _ _ _ us hl => match us, hl with | [_, _, _], _ => rfl)
    have d_left_over : Sh.DefAt (L2.KOf KX) mg "left_over" Sh.s_left_over ["lefts", "longest", "text"] := by delta L2.KOf; refine' Sh.def_mk KX G ?a ?l ?c ?k ?b; (case a => k_is); (case l => k_is); (case c => k_is); (case k => k_is); (case b => exact fun _ _ _ _ _ _ us hl => match us, hl with | [_, _, _], _ => rfl)
    have d_overlap_rows : Sh.DefAt (L2.KOf KX) mg "overlap_rows" Sh.s_overlap_rows ["rules"] := by delta L2.KOf; refine' Sh.def_mk KX G ?a ?l ?c ?k ?b; (case a => k_is); (case l => k_is); (case c => k_is); (case k => k_is); (case b => exact fun _ _ _ _ _ _ us hl => match us, hl with | [_], _ => rfl)
    have d_both_results : Sh.DefAt (L2.KOf KX) mg "both_results" Sh.s_both_results ["rules", "overlap"] := by delta L2.KOf; refine' Sh.def_mk KX G ?a ?l ?c ?k ?b; (case a => k_is); (case l => k_is); (case c => k_is); (case k => k_is); (case b => exact fun _ _ _ _ _ _ us hl => match us, hl with | [_, _], _ => rfl)
    have d_quarrel_of : Sh.DefAt (L2.KOf KX) mg "quarrel_of" Sh.s_quarrel_of ["rules", "lefts", "longest"] := by delta L2.KOf; refine' Sh.def_mk KX G ?a ?l ?c ?k ?b; (case a => k_is); (case l => k_is); (case c => k_is); (case k => k_is); (case b => exact fun _ _ _ _ _ _ us hl => match us, hl with | [_, _, _], _ => rfl)
    have d_end_moves : Sh.DefAt (L2.KOf KX) mg "end_moves" Sh.s_end_moves ["signs", "rules"] := by delta L2.KOf; refine' Sh.def_mk KX G ?a ?l ?c ?k ?b; (case a => k_is); (case l => k_is); (case c => k_is); (case k => k_is); (case b => exact fun _ _ _ _ _ _ us hl => match us, hl with | [_, _], _ => rfl)
    have d_kept_tail : Sh.DefAt (L2.KOf KX) mg "kept_tail" Sh.s_kept_tail ["lefts", "longest", "text"] := by delta L2.KOf; refine' Sh.def_mk KX G ?a ?l ?c ?k ?b; (case a => k_is); (case l => k_is); (case c => k_is); (case k => k_is); (case b => exact fun _ _ _ _ _ _ us hl => match us, hl with | [_, _, _], _ => rfl)
    have d_is_rule : Sh.DefAt (L2.KOf KX) mg "is_rule" Sh.s_is_rule ["signs", "thing"] := by delta L2.KOf; refine' Sh.def_mk KX G ?a ?l ?c ?k ?b; (case a => k_is); (case l => k_is); (case c => k_is); (case k => k_is); (case b => exact fun _ _ _ _ _ _ us hl => match us, hl with | [_, _], _ => rfl)
    have d_checked_rules : Sh.DefAt (L2.KOf KX) mg "checked_rules" Sh.s_checked_rules ["signs", "thing"] := by delta L2.KOf; refine' Sh.def_mk KX G ?a ?l ?c ?k ?b; (case a => k_is); (case l => k_is); (case c => k_is); (case k => k_is); (case b => exact fun _ _ _ _ _ _ us hl => match us, hl with | [_, _], _ => rfl)
    have d_rest_of : Sh.DefAt (L2.KOf KX) mg "rest_of" Sh.s_rest_of ["book", "text"] := by delta L2.KOf; refine' Sh.def_mk KX G ?a ?l ?c ?k ?b; (case a => k_is); (case l => k_is); (case c => k_is); (case k => k_is); (case b => exact fun _ _ _ _ _ _ us hl => match us, hl with | [_, _], _ => rfl)
    have d_check_settled : Sh.DefAt (L2.KOf KX) mg "check_settled" Sh.s_check_settled ["book"] := by delta L2.KOf; refine' Sh.def_mk KX G ?a ?l ?c ?k ?b; (case a => k_is); (case l => k_is); (case c => k_is); (case k => k_is); (case b => exact fun _ _ _ _ _ _ us hl => match us, hl with | [_], _ => rfl)
    have d_has_left_inside : Sh.DefAt (L2.KOf KX) mg "has_left_inside" Sh.s_has_left_inside ["lefts", "left"] := by delta L2.KOf; refine' Sh.def_mk KX G ?a ?l ?c ?k ?b; (case a => k_is); (case l => k_is); (case c => k_is); (case k => k_is); (case b => exact fun _ _ _ _ _ _ us hl => match us, hl with | [_, _], _ => rfl)
    have d_least_rules : Sh.DefAt (L2.KOf KX) mg "least_rules" Sh.s_least_rules ["book"] := by delta L2.KOf; refine' Sh.def_mk KX G ?a ?l ?c ?k ?b; (case a => k_is); (case l => k_is); (case c => k_is); (case k => k_is); (case b => exact fun _ _ _ _ _ _ us hl => match us, hl with | [_], _ => rfl)
    have d_undo_dict : Sh.DefAt (L2.KOf KX) mg "undo_dict" Sh.s_undo_dict ["book"] := by delta L2.KOf; refine' Sh.def_mk KX G ?a ?l ?c ?k ?b; (case a => k_is); (case l => k_is); (case c => k_is); (case k => k_is); (case b => exact fun _ _ _ _ _ _ us hl => match us, hl with | [_], _ => rfl)
    have d_places_dict : Sh.DefAt (L2.KOf KX) mg "places_dict" Sh.s_places_dict ["book", "undo"] := by delta L2.KOf; refine' Sh.def_mk KX G ?a ?l ?c ?k ?b; (case a => k_is); (case l => k_is); (case c => k_is); (case k => k_is); (case b => exact fun _ _ _ _ _ _ us hl => match us, hl with | [_, _], _ => rfl)
    have d_undone_text : Sh.DefAt (L2.KOf KX) mg "undone_text" Sh.s_undone_text ["undo", "text"] := by delta L2.KOf; refine' Sh.def_mk KX G ?a ?l ?c ?k ?b; (case a => k_is); (case l => k_is); (case c => k_is); (case k => k_is); (case b => exact fun _ _ _ _ _ _ us hl => match us, hl with | [_, _], _ => rfl)
    have d_round_form : Sh.DefAt (L2.KOf KX) mg "round_form" Sh.s_round_form ["book", "undo", "text"] := by delta L2.KOf; refine' Sh.def_mk KX G ?a ?l ?c ?k ?b; (case a => k_is); (case l => k_is); (case c => k_is); (case k => k_is); (case b => exact fun _ _ _ _ _ _ us hl => match us, hl with | [_, _, _], _ => rfl)
    have d_is_loop : Sh.DefAt (L2.KOf KX) mg "is_loop" Sh.s_is_loop ["found", "core"] := by delta L2.KOf; refine' Sh.def_mk KX G ?a ?l ?c ?k ?b; (case a => k_is); (case l => k_is); (case c => k_is); (case k => k_is); (case b => exact fun _ _ _ _ _ _ us hl => match us, hl with | [_, _], _ => rfl)
    have d_core_carrier : Sh.DefAt (L2.KOf KX) mg "core_carrier" Sh.s_core_carrier ["book", "found", "one", "other"] := by delta L2.KOf; refine' Sh.def_mk KX G ?a ?l ?c ?k ?b; (case a => k_is); (case l => k_is); (case c => k_is); (case k => k_is); (case b => exact fun _ _ _ _ _ _ us hl => match us, hl with | [_, _, _, _], _ => rfl)
    have d_carried : Sh.DefAt (L2.KOf KX) mg "carried" Sh.s_carried ["book", "one", "other"] := by delta L2.KOf; refine' Sh.def_mk KX G ?a ?l ?c ?k ?b; (case a => k_is); (case l => k_is); (case c => k_is); (case k => k_is); (case b => exact fun _ _ _ _ _ _ us hl => match us, hl with | [_, _, _], _ => rfl)
    have d__law_source : Sh.DefAt (L2.KOf KX) mg "_law_source" Sh.s__law_source ["_law_script", "_law_place"] := by delta L2.KOf; refine' Sh.def_mk KX G ?a ?l ?c ?k ?b; (case a => k_is); (case l => k_is); (case c => k_is); (case k => k_is); (case b => exact fun _ _ _ _ _ _ us hl => match us, hl with | [_, _], _ => rfl)
    have d__law_pick : Sh.DefAt (L2.KOf KX) mg "_law_pick" Sh.s__law_pick ["_law_source_here", "_law_many"] := by delta L2.KOf; refine' Sh.def_mk KX G ?a ?l ?c ?k ?b; (case a => k_is); (case l => k_is); (case c => k_is); (case k => k_is); (case b => exact fun _ _ _ _ _ _ us hl => match us, hl with | [_, _], _ => rfl)
    have d__law_text : Sh.DefAt (L2.KOf KX) mg "_law_text" Sh.s__law_text ["_law_source_here", "_law_signs", "_law_most"] := by delta L2.KOf; refine' Sh.def_mk KX G ?a ?l ?c ?k ?b; (case a => k_is); (case l => k_is); (case c => k_is); (case k => k_is); (case b => exact fun _ _ _ _ _ _ us hl => match us, hl with | [_, _, _], _ => rfl)
    have d__law_left : Sh.DefAt (L2.KOf KX) mg "_law_left" Sh.s__law_left ["_law_rules", "_law_text_here"] := by delta L2.KOf; refine' Sh.def_mk KX G ?a ?l ?c ?k ?b; (case a => k_is); (case l => k_is); (case c => k_is); (case k => k_is); (case b => exact fun _ _ _ _ _ _ us hl => match us, hl with | [_, _], _ => rfl)
    have d__law_is_end : Sh.DefAt (L2.KOf KX) mg "_law_is_end" Sh.s__law_is_end ["_law_rules", "_law_text_here"] := by delta L2.KOf; refine' Sh.def_mk KX G ?a ?l ?c ?k ?b; (case a => k_is); (case l => k_is); (case c => k_is); (case k => k_is); (case b => exact fun _ _ _ _ _ _ us hl => match us, hl with | [_, _], _ => rfl)
    have d__law_ends : Sh.DefAt (L2.KOf KX) mg "_law_ends" Sh.s__law_ends ["_law_signs", "_law_rules", "_law_size"] := by delta L2.KOf; refine' Sh.def_mk KX G ?a ?l ?c ?k ?b; (case a => k_is); (case l => k_is); (case c => k_is); (case k => k_is); (case b => exact fun _ _ _ _ _ _ us hl => match us, hl with | [_, _, _], _ => rfl)
    have d__law_products : Sh.DefAt (L2.KOf KX) mg "_law_products" Sh.s__law_products ["_law_code"] := by delta L2.KOf; refine' Sh.def_mk KX G ?a ?l ?c ?k ?b; (case a => k_is); (case l => k_is); (case c => k_is); (case k => k_is); (case b => exact fun _ _ _ _ _ _ us hl => match us, hl with | [_], _ => rfl)
    have d__law_arrows : Sh.DefAt (L2.KOf KX) mg "_law_arrows" Sh.s__law_arrows ["_law_shapes"] := by delta L2.KOf; refine' Sh.def_mk KX G ?a ?l ?c ?k ?b; (case a => k_is); (case l => k_is); (case c => k_is); (case k => k_is); (case b => exact fun _ _ _ _ _ _ us hl => match us, hl with | [_], _ => rfl)
    have d__law_group_parts : Sh.DefAt (L2.KOf KX) mg "_law_group_parts" Sh.s__law_group_parts ["_law_source_here"] := by delta L2.KOf; refine' Sh.def_mk KX G ?a ?l ?c ?k ?b; (case a => k_is); (case l => k_is); (case c => k_is); (case k => k_is); (case b => exact fun _ _ _ _ _ _ us hl => match us, hl with | [_], _ => rfl)
    have d__law_shuffled : Sh.DefAt (L2.KOf KX) mg "_law_shuffled" Sh.s__law_shuffled ["_law_source_here", "_law_row"] := by delta L2.KOf; refine' Sh.def_mk KX G ?a ?l ?c ?k ?b; (case a => k_is); (case l => k_is); (case c => k_is); (case k => k_is); (case b => exact fun _ _ _ _ _ _ us hl => match us, hl with | [_, _], _ => rfl)
    have d__law_group : Sh.DefAt (L2.KOf KX) mg "_law_group" Sh.s__law_group ["_law_source_here", "_law_shapes"] := by delta L2.KOf; refine' Sh.def_mk KX G ?a ?l ?c ?k ?b; (case a => k_is); (case l => k_is); (case c => k_is); (case k => k_is); (case b => exact fun _ _ _ _ _ _ us hl => match us, hl with | [_, _], _ => rfl)
    have d__law_undo : Sh.DefAt (L2.KOf KX) mg "_law_undo" Sh.s__law_undo ["_law_signs", "_law_rules"] := by delta L2.KOf; refine' Sh.def_mk KX G ?a ?l ?c ?k ?b; (case a => k_is); (case l => k_is); (case c => k_is); (case k => k_is); (case b => exact fun _ _ _ _ _ _ us hl => match us, hl with | [_, _], _ => rfl)
    have d__law_undone : Sh.DefAt (L2.KOf KX) mg "_law_undone" Sh.s__law_undone ["_law_undo_here", "_law_text_here"] := by delta L2.KOf; refine' Sh.def_mk KX G ?a ?l ?c ?k ?b; (case a => k_is); (case l => k_is); (case c => k_is); (case k => k_is); (case b => exact fun _ _ _ _ _ _ us hl => match us, hl with | [_, _], _ => rfl)
    have d__law_group_text : Sh.DefAt (L2.KOf KX) mg "_law_group_text" Sh.s__law_group_text ["_law_source_here", "_law_signs", "_law_rules", "_law_undo_here", "_law_arrow_of"] := by delta L2.KOf; refine' Sh.def_mk KX G ?a ?l ?c ?k ?b; (case a => k_is); (case l => k_is); (case c => k_is); (case k => k_is); (case b => exact fun _ _ _ _ _ _ us hl => match us, hl with | [_, _, _, _, _], _ => rfl)
    have d__law_core : Sh.DefAt (L2.KOf KX) mg "_law_core" Sh.s__law_core ["_law_rules", "_law_text_here"] := by delta L2.KOf; refine' Sh.def_mk KX G ?a ?l ?c ?k ?b; (case a => k_is); (case l => k_is); (case c => k_is); (case k => k_is); (case b => exact fun _ _ _ _ _ _ us hl => match us, hl with | [_, _], _ => rfl)
    have d__law_due : Sh.DefAt (L2.KOf KX) mg "_law_due" Sh.s__law_due ["_law_signs", "_law_rules", "_law_one", "_law_other"] := by delta L2.KOf; refine' Sh.def_mk KX G ?a ?l ?c ?k ?b; (case a => k_is); (case l => k_is); (case c => k_is); (case k => k_is); (case b => exact fun _ _ _ _ _ _ us hl => match us, hl with | [_, _, _, _], _ => rfl)
    have T0 : Sh.Txt (L2.KOf KX) mg := ⟨b_len, b_range, b_min, b_max, b_any, b_all, b_isinstance, b_abs, b_int, b_str, b_tuple, b_list, b_repr, b_sorted, b_iter, b_super, g_LETTERS, g_LONGEST_TEXT, g_MOST_RULES, g_LONGEST_LEFT, d_is_listed, d_is_signs, d_check_signs, d_is_text, d_check_text, d_text_key, d_first_rules, d_longest_left, d_used_at_end, d_left_over, d_overlap_rows, d_both_results, d_quarrel_of, d_end_moves, d_kept_tail, d_is_rule, d_checked_rules, d_rest_of, d_check_settled, d_has_left_inside, d_least_rules, d_undo_dict, d_places_dict, d_undone_text, d_round_form, d_is_loop, d_core_carrier, d_carried, d__law_source, d__law_pick, d__law_text, d__law_left, d__law_is_end, d__law_ends, d__law_products, d__law_arrows, d__law_group_parts, d__law_shuffled, d__law_group, d__law_undo, d__law_undone, d__law_group_text, d__law_core, d__law_due⟩
    obtain ⟨CB, T⟩ : ∃ CB : Addr, Sh.TxtC (L2.KOf KX) mg CB := by
      delta L2.KOf at T0 ⊢; refine' Sh.all_cls KX G T0 ?a_Book ?pg_Book ?hd_Book ?po_Book ?sa_Book ?mk_Book ?kp_Book ?m_Book___init__ ?i_Book___init__ ?o_Book___init__ ?l_Book___init__ ?c_Book___init__ ?k_Book___init__ ?m_Book___call__ ?i_Book___call__ ?o_Book___call__ ?l_Book___call__ ?c_Book___call__ ?k_Book___call__ ?n_Book_signs ?n_Book_rules ?n_Book__lefts ?n_Book__longest ?n_Book__quarrel ?n_Book__moves
      (case a_Book => k_is)
      (case pg_Book => k_is)
      (case hd_Book => k_is)
      (case po_Book => k_is)
      (case sa_Book => k_is)
      (case mk_Book => k_is)
      (case kp_Book => k_is)
      (case m_Book___init__ => k_is)
      (case i_Book___init__ => k_is)
      (case o_Book___init__ => k_is)
      (case l_Book___init__ => k_is)
      (case c_Book___init__ => k_is)
      (case k_Book___init__ => k_is)
      (case m_Book___call__ => k_is)
      (case i_Book___call__ => k_is)
      (case o_Book___call__ => k_is)
      (case l_Book___call__ => k_is)
      (case c_Book___call__ => k_is)
      (case k_Book___call__ => k_is)
      (case n_Book_signs => k_is)
      (case n_Book_rules => k_is)
      (case n_Book__lefts => k_is)
      (case n_Book__longest => k_is)
      (case n_Book__quarrel => k_is)
      (case n_Book__moves => k_is)
    obtain ⟨XT, FT, DT, T⟩ : ∃ XT FT DT : Addr, Sh.TxtX (PySem.Challenge.rw_shrunkalike_k56_whole_carried).prog (L2.KOf KX) mg CB XT FT DT := by
      delta L2.KOf at T ⊢; refine' Sh.all_exc KX G T ?op ?a_BadText ?xl_BadText ?vb_BadText ?sa_BadText ?ga_BadText ?gg_BadText ?ic_BadText ?ti_BadText ?kc_BadText ?ex_BadText ?ty_BadText ?hd_BadText ?l_WrongThing ?c_WrongThing ?cl1_WrongThing ?cl2_WrongThing ?fv1_WrongThing ?fl_WrongThing ?cD_WrongThing ?top ?su_BadText ?sp_BadText ?ve_BadText ?nf_BadText_thing ?h_BadText_BadText
      (case op => k_is)
      (case a_BadText => k_is)
      (case xl_BadText => k_is)
      (case vb_BadText => first | rfl | decide +kernel)
      (case sa_BadText => k_is)
      (case ga_BadText => k_is)
      (case gg_BadText => k_is)
      (case ic_BadText => k_is)
      (case ti_BadText => k_is)
      (case kc_BadText => k_is)
      (case ex_BadText => k_is)
      (case ty_BadText => k_is)
      (case hd_BadText => k_is)
      (case l_WrongThing => k_is)
      (case c_WrongThing => k_is)
      (case cl1_WrongThing => k_is)
      (case cl2_WrongThing => k_is)
      (case fv1_WrongThing => rfl)
      (case fl_WrongThing => first | rfl | decide +kernel)
      (case cD_WrongThing => k_is)
      (case top => first | rfl | decide +kernel)
      (case su_BadText => k_is)
      (case sp_BadText => ks_is)
      (case ve_BadText => k_is)
      (case nf_BadText_thing => k_is)
      (case h_BadText_BadText => first | rfl | k_is)
    obtain ⟨fd, Fn, bi⟩ : ∃ fd : FuncData, L2.Fun (L2.KOf KX) "law" "law" Sh.s_law fa fd ∧ ∀ (s : Shared) (u : Value), BindsTo s fd ⟨[u], []⟩ [("_law_script", u)] := by
      delta L2.KOf; refine' Sh.law_mk KX G hmg ?a ?l ?c ?k ?b; (case a => k_is); (case l => k_is); (case c => k_is); (case k => k_is); (case b => exact fun _ _ _ _ _ _ s u => .of_eq rfl)
    exact ⟨fd, Fn, bi, fun s1 a zs base H cdv hl hb hr hS => Sh.law_body T fa cdv callerA [] s1 H _ hr rfl a zs hS hb hl⟩
#print axioms PySem.Challenge.cw_shrunkalike_k56_whole_carried_holds
