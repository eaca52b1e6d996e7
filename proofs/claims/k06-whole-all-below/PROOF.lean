import PyProof.Rows.All
import Wide.All
import OpenK.AllK
import Wide.FinOn
import HandS.ForMost
import HandS.Codes
import HandS.IsInst
import HandS.TupLe
import HandS.TupAny
import HandS.Deep
import HandS.Wide
import HandS.WideBits
import HandS.WideMore
import HandS.EndBits
import HandS.Star
import HandS.StrMore
import HandS.Walk
import PySem.Challenge.RW_shrunkalike_k06_whole_all_below
import PyProof.ReprRoads
import PyProof.Rows.Range3
import HandS.SortKw
import HandS.Keys
import HandS.Conv
import HandS.Property
import HandS.DictComp
import KE.KExcSuper
import HandS.ExcInit
import HandS.Nested
import HandS.WordsExc
import HandS.ExcField
import HandS.RaiseMore
import HandS.TryMany
import HandS.ExcIs
import KE.KExcIs
import KE.LtData
import HandS.TupSets
import HandS.Strs
import PyProof.Rows.SortStr
import HandS.SetBool
import HandS.More
import PyProof.ReprLen
import HandS.Flow
import PyProof.StrLawsIn
import PyProof.P3In
import KE.KRevSl
import HandS.Style
import HandS.Text
import PyProof.StrBlock2
set_option Elab.async false
set_option linter.all false
set_option maxRecDepth 100000
/-! My base over the hand layer: callables, heaps but for one object, the law's source of draws, the lacking rules -/
namespace Sh
open PySem PySem.Spec PyProof.Rows L2
open SX (S S_inj S_len S_cat)

/-- all that was tracked is as it was, but for the object at a -/
def But (a : Addr) (H H' : Hp) : Prop := ∀ b o, b ≠ a → H b = some o → H' b = some o
theorem But.refl (a : Addr) (H : Hp) : But a H H := fun _ _ _ h => h
theorem But.trans {a : Addr} {H H1 H2 : Hp} (x : But a H H1) (y : But a H1 H2) : But a H H2 := fun b o n h => y b o n (x b o n h)
theorem But.same {a : Addr} {H H1 : Hp} (x : Same H H1) : But a H H1 := fun b o _ h => x b o h
theorem same_new {H : Hp} {p : Addr} {o : HO} (h : H p = none) : Same H (upd H p o) := fun b u e => by
  rw [upd_ne (ne_of_none e h)]
  exact e
theorem but_upd {H : Hp} {p : Addr} {o : HO} : But p H (upd H p o) := fun b u n e => by
  rw [upd_ne n]
  exact e
/-- a fresh object may change -/
theorem same_mut {H H1 : Hp} {p : Addr} {o : HO} (s : Same H H1) (h : H p = none) : Same H (upd H1 p o) := fun b u e => by
  rw [upd_ne (ne_of_none e h)]
  exact s b u e
theorem but_mut {a : Addr} {H H1 : Hp} {p : Addr} {o : HO} (s : But a H H1) (h : H p = none) : But a H (upd H1 p o) := fun b u n e => by
  rw [upd_ne (ne_of_none e h)]
  exact s b u n e
theorem But.none_of {a : Addr} {H H1 : Hp} (s : But a H H1) {p : Addr} (n : p ≠ a) (h : H1 p = none) : H p = none := by
  cases e : H p with
  | none => rfl
  | some o => rw [s p o n e] at h; cases h

/-- the law's source of draws: a list of three ints -/
def Src (H : Hp) (a : Addr) : Prop := ∃ d s c : Int, H a = some (.lst [.int d, .int s, .int c])

/-- a def that may be called by its name -/
structure Cal (P : Program) (w : World) (K : PySem.W.Frag) (mg : Str → Option Value) (base : Heap) (CX : CXT) (k : Nat) (x : Str) (sp : Sp) : Prop where
  ex : ∃ (f : Addr) (fd : FuncData) (ps : List Str), FnOk P w K mg base CX k f fd ps sp ∧ mg x = some (.ref f) ∧ PySem.W.keepIn K (.ref f) = true ∧ Binds K fd ps []
/-- a def of the text under its name, its parameters bound by place -/
structure DefAt (K : PySem.W.Frag) (mg : Str → Option Value) (x : Str) (st : Stmt) (ps : List Str) : Prop where
  ex : ∃ (f : Addr) (fd : FuncData), L2.Fun K x x st f fd ∧ mg x = some (.ref f) ∧ Binds K fd ps []
section
variable {P : Program} {w : World} {K : PySem.W.Frag} {mg : Str → Option Value} {base : Heap}
theorem Cal.mk0 {x : Str} {st : Stmt} {N ps : List Str} {k : Nat} {sp : Sp} (D : DefAt K mg x st ps) (S : FnScope N ps (defScope st)) (len : ∀ vs H Q E, sp vs H Q E → vs.length = ps.length)
    (hbody : ∀ (f : Addr) (cdv : Value) (A : Around) (outer : List Env) (s : Shared) (H : Hp) (vs : List V) (Q : VK) (E : XK), Room k (A.deeper (envOfC x (defScope st) s.heap.objs.size f cdv)) → sp vs H Q E →
      ∃ t, PSs (cxOf CX0 P w K mg base N x (defScope st) f cdv A outer s H E).nox (defBody st) t ∧ t { nx := fun _ H' => Q .non H', rt := Q } (start N vs) H) : Cal P w K mg base CX0 (k + 1) x sp := by
  obtain ⟨f, fd, F, m, b⟩ := D.ex
  exact ⟨f, fd, ps, F.ok S len (hbody f), m, F.kp, b⟩
end
section
variable {X : Cx} {k j : Nat} {x : Str} {sp : Sp} {p pos : Pos} {e : Expr} {es : List Expr} {t : TA}
theorem pe_c (c : Cal X.prog X.w X.K X.mg X.base CX0 k x sp) (hr : Room j X.A) (hk : k ≤ j) (hg : Gl X x) (ha : PA X (e :: es) t)
    (hdb : (x == ("__debug__" : Str)) = false := by decide) (he : starEach (e :: es) X.env = (false, eval e X.env) :: starEach es X.env := by rfl) (hpl : (backTo pos (starEach es X.env)).any (·.1) = false := by rfl) :
    PE X (.Call (.Name x p) (e :: es) [] pos) (tCall sp [] E0 t) := by
  obtain ⟨f, fd, ps, F, hm, kp, b⟩ := c.ex
  exact pe_call F (hr.mono hk) hg hm kp b .nil pass0 ha hdb he hpl
end

/-! ### walks by what has been taken -/
section
variable {J : It} {G : Hp → Prop} {Y : Nat → Hp → V → Hp → Prop} {α : Type}
theorem take_succ_of {l : List α} {i : Nat} {a : α} (h : l[i]? = some a) : l.take (i + 1) = l.take i ++ [a] ∧ l = l.take i ++ a :: l.drop (i + 1) := by
  obtain ⟨hi, rfl⟩ := List.getElem?_eq_some_iff.mp h
  refine ⟨?_, ?_⟩
  · rw [List.take_succ, h]; rfl
  · rw [← List.drop_eq_getElem_cons hi, List.take_append_drop]
/-- a for over l: Pv by the part that was taken -/
theorem for_pre {l : List α} (w : Walk J l.length G Y) (Rel : α → V → Hp → Prop) (hY : ∀ i H x H', i < l.length → G H → Y i H x H' → H' = H ∧ ∃ a, l[i]? = some a ∧ Rel a x H) {g : TG} {tb : TS} {D : Ends} {σ : L2.St} {H : Hp}
    (Pv : List α → L2.St → Hp → Prop) (h0 : Pv [] σ H) (hG : ∀ pre σ H, Pv pre σ H → G H)
    (hs : ∀ pre a post x σ H, l = pre ++ a :: post → Rel a x H → Pv pre σ H → g x σ H fun σ2 H2 => tb { D with nx := Pv (pre ++ [a]), ct := Pv (pre ++ [a]), bk := D.nx } σ2 H2) (hd : ∀ σ H, Pv l σ H → D.nx σ H) :
    ∃ W : Nat → Nat → L2.St → Hp → Prop, (∃ m, W 0 m σ H) ∧ ∀ i m σ H, W i m σ H →
      (J.stop i H ∧ D.nx σ H) ∨ (J.go i H ∧ ∃ N : L2.St → Hp → Prop, (∀ σ' H', N σ' H' → ∃ m', m' < m ∧ W (i + 1) m' σ' H') ∧ ∀ x H', J.yld i H x H' → g x σ H' fun σ2 H2 => tb { D with nx := N, ct := N, bk := D.nx } σ2 H2) := by
  refine for_it w (fun i σ H => Pv (l.take i) σ H) (by simpa using h0) (fun i σ H _ p => hG _ σ H p) (fun i x σ H H' hi p y => ?_) (fun σ H p => hd σ H (by simpa using p))
  obtain ⟨rfl, a, ha, r⟩ := hY i H x H' hi (hG _ _ _ p) y
  obtain ⟨e1, e2⟩ := take_succ_of ha
  have q := hs _ a _ x σ H' e2 r p
  rw [← e1] at q
  exact q
/-- a comprehension over l -/
theorem lc_pre {l : List α} (w : Walk J l.length G Y) (Rel : α → V → Hp → Prop) (hY : ∀ i H x H', i < l.length → G H → Y i H x H' → H' = H ∧ ∃ a, l[i]? = some a ∧ Rel a x H) {g : TG} {tt : TT} {te : TE} {vs : List Nat} {σ : L2.St} {H1 : Hp} {D : Addr} {Qd : Hp → Prop}
    (Pv : List α → Hp → Prop) (h0 : Pv [] (upd H1 D (.lst []))) (hG : ∀ pre H, Pv pre H → G H)
    (hs : ∀ pre a post x H, l = pre ++ a :: post → Rel a x H → Pv pre H → g x (wipe σ vs) H fun σ2 H2 => wipe σ2 vs = wipe σ vs ∧ tt σ2 H2 fun b H3 =>
      if b = true then te σ2 H3 fun y H4 => ∃ acc, H4 D = some (.lst acc) ∧ acc.length < sizeLine ∧ Pv (pre ++ [a]) (upd H4 D (.lst (acc ++ [y]))) else Pv (pre ++ [a]) H3) (hd : ∀ H, Pv l H → Qd H) :
    ∃ W : Nat → Nat → Hp → Prop, (∃ m, W 0 m (upd H1 D (.lst []))) ∧ ∀ i m H, W i m H →
      (J.stop i H ∧ Qd H) ∨ (J.go i H ∧ ∃ Nx : Hp → Prop, (∀ H', Nx H' → ∃ m', m' < m ∧ W (i + 1) m' H') ∧ ∀ x H', J.yld i H x H' → g x (wipe σ vs) H' fun σ2 H2 => wipe σ2 vs = wipe σ vs ∧ tt σ2 H2 fun b H3 =>
        if b = true then te σ2 H3 fun y H4 => ∃ acc, H4 D = some (.lst acc) ∧ acc.length < sizeLine ∧ Nx (upd H4 D (.lst (acc ++ [y]))) else Nx H3) := by
  refine lc_it w (fun i H => Pv (l.take i) H) (by simpa using h0) (fun i H _ p => hG _ H p) (fun i x H H' hi p y => ?_) (fun H p => hd H (by simpa using p))
  obtain ⟨rfl, a, ha, r⟩ := hY i H x H' hi (hG _ _ p) y
  obtain ⟨e1, e2⟩ := take_succ_of ha
  have q := hs _ a _ x H' e2 r p
  rw [← e1] at q
  exact q
theorem yStr {l : List Nat} : ∀ (i : Nat) (H : Hp) (x : V) (H' : Hp), i < l.length → True → (H' = H ∧ ∃ c, (S l).cps[i]? = some c ∧ x = V.str ⟨#[c]⟩) → H' = H ∧ ∃ a, l[i]? = some a ∧ x = V.str (S [a]) := by
  rintro i H x H' _ _ ⟨rfl, c, hc, rfl⟩
  exact ⟨rfl, c, by simpa using hc, rfl⟩
theorem wStr {l : List Nat} : Walk (Its (S l)) l.length (fun _ => True) (fun i H v H' => H' = H ∧ ∃ c, (S l).cps[i]? = some c ∧ v = .str ⟨#[c]⟩) := by
  have h := walk_str (z := S l)
  simpa using h
end
/-! ### data of None, bools, ints, texts and tuples -/
mutual
inductive Tp (K : PySem.W.Frag) (H : Hp) : V → PyData → Prop
  | non : Tp K H .non .none
  | bl (b : Bool) : Tp K H (.bl b) (.bool b)
  | int (i : Int) : Tp K H (.int i) (.int i)
  | str (x : Str) : Tp K H (.str x) (.str x)
  | tup {a : Addr} {xs : List V} {ds : List PyData} : SqT K H a xs → TpAll K H xs ds → Tp K H (.ref a) (.tuple ds)
inductive TpAll (K : PySem.W.Frag) (H : Hp) : List V → List PyData → Prop
  | nil : TpAll K H [] []
  | cons {v : V} {vs : List V} {d : PyData} {ds : List PyData} : Tp K H v d → TpAll K H vs ds → TpAll K H (v :: vs) (d :: ds)
end
/-- what was a tuple is one -/
def Keep (H H' : Hp) : Prop := ∀ b xs, Rd H b (.tup xs) → Rd H' b (.tup xs)
theorem Keep.refl (H : Hp) : Keep H H := fun _ _ h => h
theorem Keep.trans {H H1 H2 : Hp} (a : Keep H H1) (b : Keep H1 H2) : Keep H H2 := fun x y h => b x y (a x y h)
theorem Keep.same {H H' : Hp} (s : Same H H') : Keep H H' := fun b xs h => by
  rcases h with h | ⟨o, h⟩
  · exact .inl (s _ _ h)
  · exact .inr ⟨o, s _ _ h⟩
theorem Keep.but {H H' : Hp} {a : Addr} (s : But a H H') (z : Src H a) : Keep H H' := fun b xs h => by
  obtain ⟨d, e, c, z⟩ := z
  rcases h with h | ⟨o, h⟩
  · exact .inl (s _ _ (ne_of h z (by intro q; cases q)) h)
  · exact .inr ⟨o, s _ _ (ne_of h z (by intro q; cases q)) h⟩
theorem Keep.butL {H H' : Hp} {a : Addr} {ys : List V} (s : But a H H') (z : H a = some (.lst ys)) : Keep H H' := fun b xs h => by
  rcases h with h | ⟨o, h⟩
  · exact .inl (s _ _ (ne_of h z (by intro q; cases q)) h)
  · exact .inr ⟨o, s _ _ (ne_of h z (by intro q; cases q)) h⟩
theorem Keep.seq {K : PySem.W.Frag} {H H' : Hp} {a : Addr} {xs : List V} (k : Keep H H') (h : SqT K H a xs) : SqT K H' a xs := by
  rcases h with h | h
  · exact .inl (k _ _ h)
  · exact .inr h
mutual
theorem Tp.keep {K : PySem.W.Frag} {H H' : Hp} (k : Keep H H') : ∀ {v : V} {d : PyData}, Tp K H v d → Tp K H' v d
  | _, _, .non => .non
  | _, _, .bl b => .bl b
  | _, _, .int i => .int i
  | _, _, .str x => .str x
  | _, _, .tup h t => .tup (k.seq h) (TpAll.keep k t)
theorem TpAll.keep {K : PySem.W.Frag} {H H' : Hp} (k : Keep H H') : ∀ {vs : List V} {ds : List PyData}, TpAll K H vs ds → TpAll K H' vs ds
  | _, _, .nil => .nil
  | _, _, .cons h t => .cons (Tp.keep k h) (TpAll.keep k t)
end
mutual
theorem Tp.dp {K : PySem.W.Frag} {H : Hp} : ∀ {v : V} {d : PyData}, Tp K H v d → Dp K H v d
  | _, _, .non => .non
  | _, _, .bl b => .bl b
  | _, _, .int i => .int i
  | _, _, .str x => .str x
  | _, _, .tup h t => .tup h (TpAll.dp t)
theorem TpAll.dp {K : PySem.W.Frag} {H : Hp} : ∀ {vs : List V} {ds : List PyData}, TpAll K H vs ds → DpAll K H vs ds
  | _, _, .nil => .nil
  | _, _, .cons h t => .cons (Tp.dp h) (TpAll.dp t)
end
section
variable {K : PySem.W.Frag} {H : Hp} {v : V} {d : PyData} {vs ws : List V} {ds es : List PyData}
theorem Tp.inv (h : Tp K H v (.tuple ds)) : ∃ a xs, v = .ref a ∧ SqT K H a xs ∧ TpAll K H xs ds := by
  cases h with
  | tup h t => exact ⟨_, _, rfl, h, t⟩
theorem TpAll.len : ∀ {vs : List V} {ds : List PyData}, TpAll K H vs ds → vs.length = ds.length
  | _, _, .nil => rfl
  | _, _, .cons _ t => congrArg (· + 1) (TpAll.len t)
theorem TpAll.get : ∀ {vs : List V} {ds : List PyData}, TpAll K H vs ds → ∀ {i : Nat} {d : PyData}, ds[i]? = some d → ∃ v, vs[i]? = some v ∧ Tp K H v d
  | _, _, .nil, _, _, e => by simp at e
  | _, _, .cons h _, 0, _, e => by simp at e; subst e; exact ⟨_, rfl, h⟩
  | _, _, .cons _ t, i + 1, d, e => by
    obtain ⟨v, h1, h2⟩ := TpAll.get t (i := i) (d := d) (by simpa using e)
    exact ⟨v, by simpa using h1, h2⟩
theorem TpAll.getV : ∀ {vs : List V} {ds : List PyData}, TpAll K H vs ds → ∀ {i : Nat} {v : V}, vs[i]? = some v → ∃ d, ds[i]? = some d ∧ Tp K H v d
  | _, _, .nil, _, _, e => by simp at e
  | _, _, .cons h _, 0, _, e => by simp at e; subst e; exact ⟨_, rfl, h⟩
  | _, _, .cons _ t, i + 1, v, e => by
    obtain ⟨d, h1, h2⟩ := TpAll.getV t (i := i) (v := v) (by simpa using e)
    exact ⟨d, by simpa using h1, h2⟩
theorem TpAll.app (h : TpAll K H vs ds) (k : TpAll K H ws es) : TpAll K H (vs ++ ws) (ds ++ es) := by
  induction h using TpAll.rec (motive_1 := fun _ _ _ => True) with
  | nil => exact k
  | cons a _ _ ih => exact .cons a ih
  | _ => trivial
end
end Sh
namespace Sh
open PySem PySem.Spec PyProof.Rows L2
theorem pe_gK {X : Cx} {x : Str} {pos : Pos} {v : V} (hg : Gl X x) (h : ∃ u, X.mg x = some u ∧ RelV v u) (hd : (x == ("__debug__" : Str)) = false := by decide) : PE X (.Name x pos) (tC v) := by
  obtain ⟨u, hu, r⟩ := h
  exact pe_glob hg hu r hd
end Sh
namespace Sh
open PySem PySem.Spec PyProof.Rows L2
/-- the ways through an assignment's expression meet in P -/
theorem st_asgJ {te : TE} {g : TG} {u : TS} {D : Ends} {σ : L2.St} {H : Hp} (P : V → Hp → Prop) (h : ∀ Q : VK, (∀ v H', P v H' → Q v H') → te σ H Q) (k : ∀ v H', P v H' → g v σ H' (u D)) : tSeq (tAsg te g) u D σ H := h _ k
/-- the ways through an if meet in P -/
theorem st_ifJ {c : TT} {t v u : TS} {D : Ends} {σ : L2.St} {H : Hp} (P : L2.St → Hp → Prop) (h : ∀ N : L2.St → Hp → Prop, (∀ σ' H', P σ' H' → N σ' H') → tIfS c t v { D with nx := N } σ H) (k : ∀ σ' H', P σ' H' → u D σ' H') : tSeq (tIfS c t v) u D σ H := h _ k
/-- any statement's ways meet in P -/
theorem st_J {t u : TS} {D : Ends} {σ : L2.St} {H : Hp} (P : L2.St → Hp → Prop) (h : ∀ N : L2.St → Hp → Prop, (∀ σ' H', P σ' H' → N σ' H') → t { D with nx := N } σ H) (k : ∀ σ' H', P σ' H' → u D σ' H') : tSeq t u D σ H := h _ k
/-- the ways through an expression meet in P -/
theorem ev_J {te : TE} {σ : L2.St} {H : Hp} {Q : VK} (P : V → Hp → Prop) (h : ∀ Q : VK, (∀ v H', P v H' → Q v H') → te σ H Q) (k : ∀ v H', P v H' → Q v H') : te σ H Q := h _ k
theorem tt_J {te : TT} {σ : L2.St} {H : Hp} {Q : Bool → Hp → Prop} (P : Bool → Hp → Prop) (h : ∀ Q : Bool → Hp → Prop, (∀ v H', P v H' → Q v H') → te σ H Q) (k : ∀ v H', P v H' → Q v H') : te σ H Q := h _ k
end Sh
namespace Sh
open PySem PySem.Spec PyProof.Rows L2
theorem atI_at {α : Type} {xs : List α} {i : Int} {v : α} (h0 : 0 ≤ i) (h : xs[i.toNat]? = some v) : atI xs i = some v := by
  have := atI_nat h
  rwa [Int.toNat_of_nonneg h0] at this
theorem rList {α : Type} {f : α → V} {l : List α} : ∀ (i : Nat) (H : Hp) (x : V) (H' : Hp), i < l.length → True → (YAt (l.map f) i H x H') → H' = H ∧ ∃ a, l[i]? = some a ∧ x = f a := by
  rintro i H x H' hi _ ⟨rfl, h⟩
  refine ⟨rfl, l[i], by simp [hi], ?_⟩
  rw [List.getElem?_map, List.getElem?_eq_getElem hi] at h
  exact (Option.some.inj h).symm
/-- a for over a list of l's values -/
theorem for_lst {α : Type} {f : α → V} {l : List α} {K : PySem.W.Frag} {a : Addr} {g : TG} {tb : TS} {D : Ends} {σ : L2.St} {H : Hp}
    (Pv : List α → L2.St → Hp → Prop) (h0 : Pv [] σ H) (hG : ∀ pre σ H, Pv pre σ H → SqL K H a (l.map f))
    (hs : ∀ pre x post σ H, l = pre ++ x :: post → Pv pre σ H → g (f x) σ H fun σ2 H2 => tb { D with nx := Pv (pre ++ [x]), ct := Pv (pre ++ [x]), bk := D.nx } σ2 H2) (hd : ∀ σ H, Pv l σ H → D.nx σ H) :
    ∃ W : Nat → Nat → L2.St → Hp → Prop, (∃ m, W 0 m σ H) ∧ ∀ i m σ H, W i m σ H →
      ((Itl K a).stop i H ∧ D.nx σ H) ∨ ((Itl K a).go i H ∧ ∃ N : L2.St → Hp → Prop, (∀ σ' H', N σ' H' → ∃ m', m' < m ∧ W (i + 1) m' σ' H') ∧ ∀ x H', (Itl K a).yld i H x H' → g x σ H' fun σ2 H2 => tb { D with nx := N, ct := N, bk := D.nx } σ2 H2) := by
  have w := walk_list (K := K) (a := a) (xs := l.map f)
  rw [List.length_map] at w
  refine for_pre w (fun x v _ => v = f x) (fun i H x H' hi _ y => rList i H x H' hi trivial y) Pv h0 hG (fun pre x post v σ H e r p => ?_) hd
  subst r
  exact hs pre x post σ H e p
/-- a for over a text's signs -/
theorem for_str {l : List Nat} {g : TG} {tb : TS} {D : Ends} {σ : L2.St} {H : Hp}
    (Pv : List Nat → L2.St → Hp → Prop) (h0 : Pv [] σ H)
    (hs : ∀ pre x post σ H, l = pre ++ x :: post → Pv pre σ H → g (.str (SX.S [x])) σ H fun σ2 H2 => tb { D with nx := Pv (pre ++ [x]), ct := Pv (pre ++ [x]), bk := D.nx } σ2 H2) (hd : ∀ σ H, Pv l σ H → D.nx σ H) :
    ∃ W : Nat → Nat → L2.St → Hp → Prop, (∃ m, W 0 m σ H) ∧ ∀ i m σ H, W i m σ H →
      ((Its (SX.S l)).stop i H ∧ D.nx σ H) ∨ ((Its (SX.S l)).go i H ∧ ∃ N : L2.St → Hp → Prop, (∀ σ' H', N σ' H' → ∃ m', m' < m ∧ W (i + 1) m' σ' H') ∧ ∀ x H', (Its (SX.S l)).yld i H x H' → g x σ H' fun σ2 H2 => tb { D with nx := N, ct := N, bk := D.nx } σ2 H2) := by
  refine for_pre wStr (fun x v _ => v = .str (SX.S [x])) (fun i H x H' hi _ y => yStr i H x H' hi trivial y) Pv h0 (fun _ _ _ _ => trivial) (fun pre x post v σ H e r p => ?_) hd
  subst r
  exact hs pre x post σ H e p
/-- tuples whose items are told by l -/
theorem for_tupR {α : Type} {Rel : Hp → V → α → Prop} {l : List α} {xs : List V} {K : PySem.W.Frag} {a : Addr} {g : TG} {tb : TS} {D : Ends} {σ : L2.St} {H : Hp} (hlen : xs.length = l.length)
    (Pv : List α → L2.St → Hp → Prop) (h0 : Pv [] σ H) (hG : ∀ pre σ H, Pv pre σ H → SqT K H a xs ∧ ∀ (i : Nat) x y, xs[i]? = some x → l[i]? = some y → Rel H x y)
    (hs : ∀ pre y post x σ H, l = pre ++ y :: post → xs[pre.length]? = some x → Rel H x y → Pv pre σ H → g x σ H fun σ2 H2 => tb { D with nx := Pv (pre ++ [y]), ct := Pv (pre ++ [y]), bk := D.nx } σ2 H2) (hd : ∀ σ H, Pv l σ H → D.nx σ H) :
    ∃ W : Nat → Nat → L2.St → Hp → Prop, (∃ m, W 0 m σ H) ∧ ∀ i m σ H, W i m σ H →
      ((Itt K a).stop i H ∧ D.nx σ H) ∨ ((Itt K a).go i H ∧ ∃ N : L2.St → Hp → Prop, (∀ σ' H', N σ' H' → ∃ m', m' < m ∧ W (i + 1) m' σ' H') ∧ ∀ x H', (Itt K a).yld i H x H' → g x σ H' fun σ2 H2 => tb { D with nx := N, ct := N, bk := D.nx } σ2 H2) := by
  have w := walk_tup (K := K) (a := a) (xs := xs)
  refine for_it w (fun i σ H => Pv (l.take i) σ H) (by simpa using h0) (fun i σ H _ p => (hG _ σ H p).1) (fun i x σ H H' hi p y => ?_) (fun σ H p => hd σ H (by simpa [hlen] using p))
  obtain ⟨rfl, hx⟩ := y
  have hi' : i < l.length := hlen ▸ hi
  have hl : l[i]? = some l[i] := by simp [hi']
  obtain ⟨e1, e2⟩ := take_succ_of hl
  have q := hs _ l[i] _ x σ H' e2 (by rw [List.length_take, Nat.min_eq_left (Nat.le_of_lt hi')]; exact hx) ((hG _ σ H' p).2 i x l[i] hx hl) p
  rw [← e1] at q
  exact q
end Sh
namespace Sh
open PySem PySem.Spec PyProof.Rows L2
theorem st_nx {D : Ends} {σ : L2.St} {H : Hp} (q : D.nx σ H) : tNext D σ H := q
end Sh
namespace Sh
open PySem PySem.Spec PyProof.Rows L2
theorem nx_mk {a c d : L2.St → Hp → Prop} {b : VK} {σ : L2.St} {H : Hp} (h : a σ H) : (Ends.mk a b c d).nx σ H := h
theorem rt_mk {a c d : L2.St → Hp → Prop} {b : VK} {v : V} {H : Hp} (h : b v H) : (Ends.mk a b c d).rt v H := h
theorem bk_mk {a c d : L2.St → Hp → Prop} {b : VK} {σ : L2.St} {H : Hp} (h : c σ H) : (Ends.mk a b c d).bk σ H := h
theorem ct_mk {a c d : L2.St → Hp → Prop} {b : VK} {σ : L2.St} {H : Hp} (h : d σ H) : (Ends.mk a b c d).ct σ H := h
end Sh
namespace Sh
open PySem PySem.Spec PyProof.Rows L2
theorem gn_mk {i : Nat} {v : V} {σ : L2.St} {H : Hp} {Q : L2.St → Hp → Prop} (h : Q (σ.set i (some v)) H) : gName i v σ H Q := h
theorem sz_S {t : List Nat} (h : t.length ≤ 1000000) : (SX.S t).length ≤ sizeLine := by
  rw [SX.S_len]
  exact Nat.le_trans h (by decide)
end Sh
namespace Sh
open PySem PySem.Spec PyProof.Rows L2
theorem ty_T {A B : Hp → Prop} {σ : L2.St} {H : Hp} (h : A H) : tYes σ H (fun b H3 => if b = true then A H3 else B H3) := h
end Sh
namespace Sh
open PySem PySem.Spec PyProof.Rows L2
/-- a comprehension over a tuple whose items are told by l -/
theorem lc_tupR {α : Type} {Rel : Hp → V → α → Prop} {l : List α} {xs : List V} {K : PySem.W.Frag} {a : Addr} {g : TG} {tt : TT} {te : TE} {vs : List Nat} {σ : L2.St} {H1 : Hp} {D : Addr} {Qd : Hp → Prop} (hlen : xs.length = l.length)
    (Pv : List α → Hp → Prop) (h0 : Pv [] (upd H1 D (.lst []))) (hG : ∀ pre H, Pv pre H → SqT K H a xs ∧ ∀ (i : Nat) x y, xs[i]? = some x → l[i]? = some y → Rel H x y)
    (hs : ∀ pre y post x H, l = pre ++ y :: post → xs[pre.length]? = some x → Rel H x y → Pv pre H → g x (wipe σ vs) H fun σ2 H2 => wipe σ2 vs = wipe σ vs ∧ tt σ2 H2 fun b H3 =>
      if b = true then te σ2 H3 fun y' H4 => ∃ acc, H4 D = some (.lst acc) ∧ acc.length < sizeLine ∧ Pv (pre ++ [y]) (upd H4 D (.lst (acc ++ [y']))) else Pv (pre ++ [y]) H3) (hd : ∀ H, Pv l H → Qd H) :
    ∃ W : Nat → Nat → Hp → Prop, (∃ m, W 0 m (upd H1 D (.lst []))) ∧ ∀ i m H, W i m H →
      ((Itt K a).stop i H ∧ Qd H) ∨ ((Itt K a).go i H ∧ ∃ Nx : Hp → Prop, (∀ H', Nx H' → ∃ m', m' < m ∧ W (i + 1) m' H') ∧ ∀ x H', (Itt K a).yld i H x H' → g x (wipe σ vs) H' fun σ2 H2 => wipe σ2 vs = wipe σ vs ∧ tt σ2 H2 fun b H3 =>
        if b = true then te σ2 H3 fun y H4 => ∃ acc, H4 D = some (.lst acc) ∧ acc.length < sizeLine ∧ Nx (upd H4 D (.lst (acc ++ [y]))) else Nx H3) := by
  have w := walk_tup (K := K) (a := a) (xs := xs)
  refine lc_it w (fun i H => Pv (l.take i) H) (by simpa using h0) (fun i H _ p => (hG _ H p).1) (fun i x H H' hi p y => ?_) (fun H p => hd H (by simpa [hlen] using p))
  obtain ⟨rfl, hx⟩ := y
  have hi' : i < l.length := hlen ▸ hi
  have hl : l[i]? = some l[i] := by simp [hi']
  obtain ⟨e1, e2⟩ := take_succ_of hl
  have q := hs _ l[i] _ x H' e2 (by rw [List.length_take, Nat.min_eq_left (Nat.le_of_lt hi')]; exact hx) ((hG _ H' p).2 i x l[i] hx hl) p
  rw [← e1] at q
  exact q
end Sh
namespace Sh
open PySem PySem.Spec PyProof.Rows L2
section
variable {X : Cx} {s : Shared} {H : Hp} {sc : Scope} {ce : Env} {fp : List Addr}
theorem ix_tupB : IxR (X.blk s H sc ce fp) (rIxT X.K) := ix_tup
theorem ix_listB : IxR (X.blk s H sc ce fp) (rIxL X.K) := ix_list
theorem sl_tupAB : SlR (X.blk s H sc ce fp) (rSlA X.K) := sl_tupA
theorem sl_listB : SlR (X.blk s H sc ce fp) (rSlL X.K) := sl_list
theorem call_len_seqB : CallR (X.blk s H sc ce fp) (.builtin "len") (fun xs H Q => ∃ p ys, xs = [.ref p] ∧ (SqL X.K H p ys ∨ SqT X.K H p ys) ∧ Q (.int ys.length) H) := call_len_seq
theorem call_list_ofB : CallR (X.blk s H sc ce fp) (.type "list") (fun xs H Q => ∃ p ys, xs = [.ref p] ∧ (SqL X.K H p ys ∨ SqT X.K H p ys) ∧ ∀ l, H l = none → Q (.ref l) (upd H l (.lst ys))) := call_list_of
end
end Sh
namespace Sh
open PySem PySem.Spec PyProof.Rows L2
/-- the values xs tell the list l -/
def Items {α : Type} (Rel : Hp → V → α → Prop) (H : Hp) (xs : List V) (l : List α) : Prop := xs.length = l.length ∧ ∀ (i : Nat) x y, xs[i]? = some x → l[i]? = some y → Rel H x y
section
variable {α : Type} {Rel : Hp → V → α → Prop} {H H' : Hp} {xs : List V} {l : List α}
theorem Items.nil : Items Rel H [] [] := ⟨rfl, fun i x y h _ => by simp at h⟩
theorem Items.mono (h : Items Rel H xs l) (m : ∀ x y, Rel H x y → Rel H' x y) : Items Rel H' xs l := ⟨h.1, fun i x y h1 h2 => m x y (h.2 i x y h1 h2)⟩
theorem Items.snoc (h : Items Rel H xs l) (m : ∀ x y, Rel H x y → Rel H' x y) {x : V} {y : α} (r : Rel H' x y) : Items Rel H' (xs ++ [x]) (l ++ [y]) := by
  refine ⟨by simp [h.1], fun i a b h1 h2 => ?_⟩
  rcases Nat.lt_or_ge i xs.length with q | q
  · rw [List.getElem?_append_left q] at h1
    rw [List.getElem?_append_left (h.1 ▸ q)] at h2
    exact m a b (h.2 i a b h1 h2)
  · rw [List.getElem?_append_right q] at h1
    rw [List.getElem?_append_right (h.1 ▸ q)] at h2
    have e : i - xs.length = i - l.length := by rw [h.1]
    rcases Nat.eq_zero_or_pos (i - xs.length) with z | z
    · rw [z] at h1
      rw [← e, z] at h2
      simp at h1 h2
      subst h1; subst h2
      exact r
    · rw [List.getElem?_eq_none (by simp; omega)] at h1
      cases h1
theorem Items.get (h : Items Rel H xs l) {i : Nat} {y : α} (hy : l[i]? = some y) : ∃ x, xs[i]? = some x ∧ Rel H x y := by
  obtain ⟨hi, _⟩ := List.getElem?_eq_some_iff.mp hy
  have hi2 : i < xs.length := by rw [h.1]; exact hi
  exact ⟨xs[i], List.getElem?_eq_getElem hi2, h.2 i _ y (List.getElem?_eq_getElem hi2) hy⟩
end
/-- a for over a list whose items are told by l -/
theorem for_lstR {α : Type} {Rel : Hp → V → α → Prop} {l : List α} {xs : List V} {K : PySem.W.Frag} {a : Addr} {g : TG} {tb : TS} {D : Ends} {σ : L2.St} {H : Hp} (hlen : xs.length = l.length)
    (Pv : List α → L2.St → Hp → Prop) (h0 : Pv [] σ H) (hG : ∀ pre σ H, Pv pre σ H → SqL K H a xs ∧ ∀ (i : Nat) x y, xs[i]? = some x → l[i]? = some y → Rel H x y)
    (hs : ∀ pre y post x σ H, l = pre ++ y :: post → xs[pre.length]? = some x → Rel H x y → Pv pre σ H → g x σ H fun σ2 H2 => tb { D with nx := Pv (pre ++ [y]), ct := Pv (pre ++ [y]), bk := D.nx } σ2 H2) (hd : ∀ σ H, Pv l σ H → D.nx σ H) :
    ∃ W : Nat → Nat → L2.St → Hp → Prop, (∃ m, W 0 m σ H) ∧ ∀ i m σ H, W i m σ H →
      ((Itl K a).stop i H ∧ D.nx σ H) ∨ ((Itl K a).go i H ∧ ∃ N : L2.St → Hp → Prop, (∀ σ' H', N σ' H' → ∃ m', m' < m ∧ W (i + 1) m' σ' H') ∧ ∀ x H', (Itl K a).yld i H x H' → g x σ H' fun σ2 H2 => tb { D with nx := N, ct := N, bk := D.nx } σ2 H2) := by
  have w := walk_list (K := K) (a := a) (xs := xs)
  refine for_it w (fun i σ H => Pv (l.take i) σ H) (by simpa using h0) (fun i σ H _ p => (hG _ σ H p).1) (fun i x σ H H' hi p y => ?_) (fun σ H p => hd σ H (by simpa [hlen] using p))
  obtain ⟨rfl, hx⟩ := y
  have hi' : i < l.length := hlen ▸ hi
  have hl : l[i]? = some l[i] := by simp [hi']
  obtain ⟨e1, e2⟩ := take_succ_of hl
  have q := hs _ l[i] _ x σ H' e2 (by rw [List.length_take, Nat.min_eq_left (Nat.le_of_lt hi')]; exact hx) ((hG _ σ H' p).2 i x l[i] hx hl) p
  rw [← e1] at q
  exact q
end Sh
namespace Sh
open PySem PySem.Spec PyProof.Rows L2
/-- an if whose test is known -/
theorem st_ifK {c : TT} {t u v : TS} {D : Ends} {σ : L2.St} {H : Hp} (b : Bool) (h : ∀ Q : Bool → Hp → Prop, Q b H → c σ H Q) (k1 : b = true → t { D with nx := v D } σ H) (k2 : b = false → u { D with nx := v D } σ H) : tSeq (tIfS c t u) v D σ H := by
  refine h _ ?_
  cases b with
  | true => exact iteT (k1 rfl)
  | false => exact iteF (k2 rfl)
theorem if_K {c : TT} {t u : TS} {D : Ends} {σ : L2.St} {H : Hp} (b : Bool) (h : ∀ Q : Bool → Hp → Prop, Q b H → c σ H Q) (k1 : b = true → t D σ H) (k2 : b = false → u D σ H) : tIfS c t u D σ H := by
  refine h _ ?_
  cases b with
  | true => exact iteT (k1 rfl)
  | false => exact iteF (k2 rfl)
/-- .. which may lay new objects -/
theorem if_KH {c : TT} {t u : TS} {D : Ends} {σ : L2.St} {H : Hp} (b : Bool) (P : Hp → Prop) (h : ∀ Q : Bool → Hp → Prop, (∀ H', P H' → Q b H') → c σ H Q) (k1 : b = true → ∀ H', P H' → t D σ H') (k2 : b = false → ∀ H', P H' → u D σ H') : tIfS c t u D σ H := by
  refine h _ fun H' p => ?_
  cases b with
  | true => exact iteT (k1 rfl H' p)
  | false => exact iteF (k2 rfl H' p)
theorem st_ifKH {c : TT} {t u v : TS} {D : Ends} {σ : L2.St} {H : Hp} (b : Bool) (P : Hp → Prop) (h : ∀ Q : Bool → Hp → Prop, (∀ H', P H' → Q b H') → c σ H Q) (k1 : b = true → ∀ H', P H' → t { D with nx := v D } σ H') (k2 : b = false → ∀ H', P H' → u { D with nx := v D } σ H') : tSeq (tIfS c t u) v D σ H := by
  refine h _ fun H' p => ?_
  cases b with
  | true => exact iteT (k1 rfl H' p)
  | false => exact iteF (k2 rfl H' p)
theorem q_of {b c : Bool} {Q : Bool → Hp → Prop} {H : Hp} (h : Q b H) (e : c = b) : Q c H := e ▸ h
end Sh
set_option Elab.async false
set_option linter.all false
set_option maxRecDepth 100000
namespace Sh
open PySem PySem.Spec PyProof.Rows L2
def top (i : Nat) : Stmt := PySem.Challenge.pw_shrunkalike_k06_whole_all_below.main.body.getD i (.Pass ⟨0, 0, 0, 0⟩)
abbrev s__wall : Stmt := top 0
abbrev s_WrongThing___init__ : Stmt := inClass (top 3) 0
abbrev s_WrongItem___init__ : Stmt := inClass (top 4) 0
abbrev s_TooMany___init__ : Stmt := inClass (top 8) 0
abbrev s_is_listed : Stmt := top 12
abbrev s_is_signs : Stmt := top 13
abbrev s_check_signs : Stmt := top 14
abbrev s_is_text : Stmt := top 15
abbrev s_check_text : Stmt := top 16
abbrev s_text_key : Stmt := top 17
abbrev s_ascending_texts : Stmt := top 18
abbrev s_first_rules : Stmt := top 20
abbrev s_longest_left : Stmt := top 21
abbrev s_used_at_end : Stmt := top 22
abbrev s_left_over : Stmt := top 23
abbrev s_overlap_rows : Stmt := top 24
abbrev s_both_results : Stmt := top 25
abbrev s_quarrel_of : Stmt := top 26
abbrev s_end_moves : Stmt := top 27
abbrev s_kept_tail : Stmt := top 28
abbrev s_made_step : Stmt := top 31
abbrev s_all_steps : Stmt := top 32
abbrev s_all_below : Stmt := top 33
abbrev s_shrinks : Stmt := top 34
abbrev s_ends : Stmt := top 35
abbrev s_is_rule : Stmt := top 39
abbrev s_checked_rules : Stmt := top 40
abbrev s_Book___init__ : Stmt := inClass (top 41) 0
abbrev s_Book_quarrel : Stmt := inClass (top 41) 1
abbrev s_Book___len__ : Stmt := inClass (top 41) 2
abbrev s_Book___getitem__ : Stmt := inClass (top 41) 3
abbrev s_Book___iter__ : Stmt := inClass (top 41) 4
abbrev s_Book___eq__ : Stmt := inClass (top 41) 5
abbrev s_Book___call__ : Stmt := inClass (top 41) 6
abbrev s__law_source : Stmt := top 43
abbrev s__law_pick : Stmt := top 44
abbrev s__law_signs : Stmt := top 45
abbrev s__law_text : Stmt := top 46
abbrev s__law_key : Stmt := top 47
abbrev s__law_rule : Stmt := top 48
abbrev s__law_is_end : Stmt := top 49
abbrev s__law_below : Stmt := top 50
abbrev s__law_drawn : Stmt := top 51
abbrev s_law : Stmt := top 52
theorem sc__wall : FnScope ["k"] ["k"] (defScope s__wall) := ⟨rfl, rfl, rfl, by decide +kernel, rfl, by decide +kernel, by decide +kernel⟩
theorem sc_is_listed : FnScope ["thing"] ["thing"] (defScope s_is_listed) := ⟨rfl, rfl, rfl, by decide +kernel, rfl, by decide +kernel, by decide +kernel⟩
theorem sc_is_signs : FnScope ["thing", "k"] ["thing"] (defScope s_is_signs) := ⟨rfl, rfl, rfl, by decide +kernel, rfl, by decide +kernel, by decide +kernel⟩
theorem sc_check_signs : FnScope ["thing"] ["thing"] (defScope s_check_signs) := ⟨rfl, rfl, rfl, by decide +kernel, rfl, by decide +kernel, by decide +kernel⟩
theorem sc_is_text : FnScope ["signs", "thing", "low", "high", "sign"] ["signs", "thing", "low", "high"] (defScope s_is_text) := ⟨rfl, rfl, rfl, by decide +kernel, rfl, by decide +kernel, by decide +kernel⟩
theorem sc_check_text : FnScope ["signs", "thing"] ["signs", "thing"] (defScope s_check_text) := ⟨rfl, rfl, rfl, by decide +kernel, rfl, by decide +kernel, by decide +kernel⟩
theorem sc_text_key : FnScope ["text"] ["text"] (defScope s_text_key) := ⟨rfl, rfl, rfl, by decide +kernel, rfl, by decide +kernel, by decide +kernel⟩
theorem sc_ascending_texts : FnScope ["texts", "keys", "text", "key"] ["texts"] (defScope s_ascending_texts) := ⟨rfl, rfl, rfl, by decide +kernel, rfl, by decide +kernel, by decide +kernel⟩
theorem sc_first_rules : FnScope ["rules", "found", "k", "left", "right"] ["rules"] (defScope s_first_rules) := ⟨rfl, rfl, rfl, by decide +kernel, rfl, by decide +kernel, by decide +kernel⟩
theorem sc_longest_left : FnScope ["rules", "rule"] ["rules"] (defScope s_longest_left) := ⟨rfl, rfl, rfl, by decide +kernel, rfl, by decide +kernel, by decide +kernel⟩
theorem sc_used_at_end : FnScope ["lefts", "longest", "pile", "best", "size", "found"] ["lefts", "longest", "pile"] (defScope s_used_at_end) := ⟨rfl, rfl, rfl, by decide +kernel, rfl, by decide +kernel, by decide +kernel⟩
theorem sc_left_over : FnScope ["lefts", "longest", "text", "pile", "sign", "shorter"] ["lefts", "longest", "text"] (defScope s_left_over) := ⟨rfl, rfl, rfl, by decide +kernel, rfl, by decide +kernel, by decide +kernel⟩
theorem sc_overlap_rows : FnScope ["rules", "found", "one", "left", "other", "right", "place", "shared"] ["rules"] (defScope s_overlap_rows) := ⟨rfl, rfl, rfl, by decide +kernel, rfl, by decide +kernel, by decide +kernel⟩
theorem sc_both_results : FnScope ["rules", "overlap", "text", "one", "place", "other", "first", "second"] ["rules", "overlap"] (defScope s_both_results) := ⟨rfl, rfl, rfl, by decide +kernel, rfl, by decide +kernel, by decide +kernel⟩
theorem sc_quarrel_of : FnScope ["rules", "lefts", "longest", "best", "overlap", "first", "second"] ["rules", "lefts", "longest"] (defScope s_quarrel_of) := ⟨rfl, rfl, rfl, by decide +kernel, rfl, by decide +kernel, by decide +kernel⟩
theorem sc_end_moves : FnScope ["signs", "rules", "lefts", "names", "numbers", "moves", "longest", "row", "sign", "text", "tail", "rule", "left"] ["signs", "rules"] (defScope s_end_moves) := ⟨rfl, rfl, rfl, by decide +kernel, rfl, by decide +kernel, by decide +kernel⟩
theorem sc_kept_tail : FnScope ["lefts", "longest", "text", "size", "tail", "left"] ["lefts", "longest", "text"] (defScope s_kept_tail) := ⟨rfl, rfl, rfl, by decide +kernel, rfl, by decide +kernel, by decide +kernel⟩
theorem sc_made_step : FnScope ["book", "text", "place", "number", "left", "right"] ["book", "text", "place", "number"] (defScope s_made_step) := ⟨rfl, rfl, rfl, by decide +kernel, rfl, by decide +kernel, by decide +kernel⟩
theorem sc_all_steps : FnScope ["book", "text", "found", "place", "number", "left"] ["book", "text"] (defScope s_all_steps) := ⟨rfl, rfl, rfl, by decide +kernel, rfl, by decide +kernel, by decide +kernel⟩
theorem sc_all_below : FnScope ["book", "text", "found", "waiting", "one", "place", "number", "less"] ["book", "text"] (defScope s_all_below) := ⟨rfl, rfl, rfl, by decide +kernel, rfl, by decide +kernel, by decide +kernel⟩
theorem sc_shrinks : FnScope ["book", "text"] ["book", "text"] (defScope s_shrinks) := ⟨rfl, rfl, rfl, by decide +kernel, rfl, by decide +kernel, by decide +kernel⟩
theorem sc_ends : FnScope ["book", "text", "one"] ["book", "text"] (defScope s_ends) := ⟨rfl, rfl, rfl, by decide +kernel, rfl, by decide +kernel, by decide +kernel⟩
theorem sc_is_rule : FnScope ["signs", "thing"] ["signs", "thing"] (defScope s_is_rule) := ⟨rfl, rfl, rfl, by decide +kernel, rfl, by decide +kernel, by decide +kernel⟩
theorem sc_checked_rules : FnScope ["signs", "thing", "rules", "k"] ["signs", "thing"] (defScope s_checked_rules) := ⟨rfl, rfl, rfl, by decide +kernel, rfl, by decide +kernel, by decide +kernel⟩
theorem sc_Book___init__ : FnScope ["self", "signs", "rules"] ["self", "signs", "rules"] (defScope s_Book___init__) := ⟨rfl, rfl, rfl, by decide +kernel, rfl, by decide +kernel, by decide +kernel⟩
theorem sc_Book_quarrel : FnScope ["self"] ["self"] (defScope s_Book_quarrel) := ⟨rfl, rfl, rfl, by decide +kernel, rfl, by decide +kernel, by decide +kernel⟩
theorem sc_Book___len__ : FnScope ["self"] ["self"] (defScope s_Book___len__) := ⟨rfl, rfl, rfl, by decide +kernel, rfl, by decide +kernel, by decide +kernel⟩
theorem sc_Book___getitem__ : FnScope ["self", "number"] ["self", "number"] (defScope s_Book___getitem__) := ⟨rfl, rfl, rfl, by decide +kernel, rfl, by decide +kernel, by decide +kernel⟩
theorem sc_Book___iter__ : FnScope ["self"] ["self"] (defScope s_Book___iter__) := ⟨rfl, rfl, rfl, by decide +kernel, rfl, by decide +kernel, by decide +kernel⟩
theorem sc_Book___eq__ : FnScope ["self", "other"] ["self", "other"] (defScope s_Book___eq__) := ⟨rfl, rfl, rfl, by decide +kernel, rfl, by decide +kernel, by decide +kernel⟩
theorem sc_Book___call__ : FnScope ["self", "text"] ["self", "text"] (defScope s_Book___call__) := ⟨rfl, rfl, rfl, by decide +kernel, rfl, by decide +kernel, by decide +kernel⟩
theorem sc__law_source : FnScope ["_law_script", "_law_place", "_law_cell", "_law_seed", "_law_one", "_law_number"] ["_law_script", "_law_place"] (defScope s__law_source) := ⟨rfl, rfl, rfl, by decide +kernel, rfl, by decide +kernel, by decide +kernel⟩
theorem sc__law_pick : FnScope ["_law_source_here", "_law_many", "_law_digit", "_law_mixed"] ["_law_source_here", "_law_many"] (defScope s__law_pick) := ⟨rfl, rfl, rfl, by decide +kernel, rfl, by decide +kernel, by decide +kernel⟩
theorem sc__law_signs : FnScope ["_law_source_here", "_law_menu"] ["_law_source_here"] (defScope s__law_signs) := ⟨rfl, rfl, rfl, by decide +kernel, rfl, by decide +kernel, by decide +kernel⟩
theorem sc__law_text : FnScope ["_law_source_here", "_law_signs_here", "_law_most", "_law_told", "_law_k"] ["_law_source_here", "_law_signs_here", "_law_most"] (defScope s__law_text) := ⟨rfl, rfl, rfl, by decide +kernel, rfl, by decide +kernel, by decide +kernel⟩
theorem sc__law_key : FnScope ["_law_text_here"] ["_law_text_here"] (defScope s__law_key) := ⟨rfl, rfl, rfl, by decide +kernel, rfl, by decide +kernel, by decide +kernel⟩
theorem sc__law_rule : FnScope ["_law_source_here", "_law_signs_here", "_law_longest", "_law_size", "_law_left", "_law_k"] ["_law_source_here", "_law_signs_here", "_law_longest"] (defScope s__law_rule) := ⟨rfl, rfl, rfl, by decide +kernel, rfl, by decide +kernel, by decide +kernel⟩
theorem sc__law_is_end : FnScope ["_law_rules", "_law_text_here", "_law_rule_here"] ["_law_rules", "_law_text_here"] (defScope s__law_is_end) := ⟨rfl, rfl, rfl, by decide +kernel, rfl, by decide +kernel, by decide +kernel⟩
theorem sc__law_below : FnScope ["_law_rules", "_law_text_here", "_law_found", "_law_waiting", "_law_one", "_law_left", "_law_right", "_law_place", "_law_less"] ["_law_rules", "_law_text_here"] (defScope s__law_below) := ⟨rfl, rfl, rfl, by decide +kernel, rfl, by decide +kernel, by decide +kernel⟩
theorem sc__law_drawn : FnScope ["_law_source_here", "_law_signs_here", "_law_rules", "_law_k", "_law_rule_here"] ["_law_source_here", "_law_signs_here"] (defScope s__law_drawn) := ⟨rfl, rfl, rfl, by decide +kernel, rfl, by decide +kernel, by decide +kernel⟩
theorem sc_law : FnScope ["_law_script", "_law_source_here", "_law_signs_here", "_law_rules", "_law_book", "_law_turn", "_law_draws", "_law_text_here", "_law_due", "_law_told", "_law_bare", "_law_less", "_law_tall", "raised", "_law_odd", "_law_asked", "_law_rule_here", "_law_one"] ["_law_script"] (defScope s_law) := ⟨rfl, rfl, rfl, by decide +kernel, rfl, by decide +kernel, by decide +kernel⟩
structure Txt (K : PySem.W.Frag) (mg : Str → Option Value) : Prop where
  b_len : mg "len" = none
  b_range : mg "range" = none
  b_min : mg "min" = none
  b_max : mg "max" = none
  b_any : mg "any" = none
  b_all : mg "all" = none
  b_isinstance : mg "isinstance" = none
  b_abs : mg "abs" = none
  b_int : mg "int" = none
  b_str : mg "str" = none
  b_tuple : mg "tuple" = none
  b_list : mg "list" = none
  b_repr : mg "repr" = none
  b_sorted : mg "sorted" = none
  b_iter : mg "iter" = none
  b_super : mg "super" = none
  g_LETTERS : ∃ u, mg "LETTERS" = some u ∧ RelV (.str "abcdefghijklmnopqrstuvwxyz") u
  g_LONGEST_TEXT : ∃ u, mg "LONGEST_TEXT" = some u ∧ RelV (.int 200) u
  g_MOST_TEXTS : ∃ u, mg "MOST_TEXTS" = some u ∧ RelV (.int 2000) u
  g_MOST_RULES : ∃ u, mg "MOST_RULES" = some u ∧ RelV (.int 64) u
  g_LONGEST_LEFT : ∃ u, mg "LONGEST_LEFT" = some u ∧ RelV (.int 4) u
  d_is_listed : DefAt K mg "is_listed" s_is_listed ["thing"]
  d_is_signs : DefAt K mg "is_signs" s_is_signs ["thing"]
  d_check_signs : DefAt K mg "check_signs" s_check_signs ["thing"]
  d_is_text : DefAt K mg "is_text" s_is_text ["signs", "thing", "low", "high"]
  d_check_text : DefAt K mg "check_text" s_check_text ["signs", "thing"]
  d_text_key : DefAt K mg "text_key" s_text_key ["text"]
  d_ascending_texts : DefAt K mg "ascending_texts" s_ascending_texts ["texts"]
  d_first_rules : DefAt K mg "first_rules" s_first_rules ["rules"]
  d_longest_left : DefAt K mg "longest_left" s_longest_left ["rules"]
  d_used_at_end : DefAt K mg "used_at_end" s_used_at_end ["lefts", "longest", "pile"]
  d_left_over : DefAt K mg "left_over" s_left_over ["lefts", "longest", "text"]
  d_overlap_rows : DefAt K mg "overlap_rows" s_overlap_rows ["rules"]
  d_both_results : DefAt K mg "both_results" s_both_results ["rules", "overlap"]
  d_quarrel_of : DefAt K mg "quarrel_of" s_quarrel_of ["rules", "lefts", "longest"]
  d_end_moves : DefAt K mg "end_moves" s_end_moves ["signs", "rules"]
  d_kept_tail : DefAt K mg "kept_tail" s_kept_tail ["lefts", "longest", "text"]
  d_made_step : DefAt K mg "made_step" s_made_step ["book", "text", "place", "number"]
  d_all_steps : DefAt K mg "all_steps" s_all_steps ["book", "text"]
  d_all_below : DefAt K mg "all_below" s_all_below ["book", "text"]
  d_shrinks : DefAt K mg "shrinks" s_shrinks ["book", "text"]
  d_ends : DefAt K mg "ends" s_ends ["book", "text"]
  d_is_rule : DefAt K mg "is_rule" s_is_rule ["signs", "thing"]
  d_checked_rules : DefAt K mg "checked_rules" s_checked_rules ["signs", "thing"]
  d__law_source : DefAt K mg "_law_source" s__law_source ["_law_script", "_law_place"]
  d__law_pick : DefAt K mg "_law_pick" s__law_pick ["_law_source_here", "_law_many"]
  d__law_signs : DefAt K mg "_law_signs" s__law_signs ["_law_source_here"]
  d__law_text : DefAt K mg "_law_text" s__law_text ["_law_source_here", "_law_signs_here", "_law_most"]
  d__law_key : DefAt K mg "_law_key" s__law_key ["_law_text_here"]
  d__law_rule : DefAt K mg "_law_rule" s__law_rule ["_law_source_here", "_law_signs_here", "_law_longest"]
  d__law_is_end : DefAt K mg "_law_is_end" s__law_is_end ["_law_rules", "_law_text_here"]
  d__law_below : DefAt K mg "_law_below" s__law_below ["_law_rules", "_law_text_here"]
  d__law_drawn : DefAt K mg "_law_drawn" s__law_drawn ["_law_source_here", "_law_signs_here"]
end Sh
set_option Elab.async false
set_option linter.all false
set_option maxRecDepth 100000
set_option maxHeartbeats 4000000
namespace Sh
open PySem PySem.Spec PyProof.Rows L2
open SX (S S_inj S_len S_cat)
local macro_rules | `(tactic| walk_at "nx") => `(tactic| repeat (with_reducible first | refine Sh.gn_mk ?_ | refine Sh.nx_mk ?_ | refine Sh.st_nx ?_ | refine Sh.rt_mk ?_ | refine Sh.ct_mk ?_ | refine Sh.bk_mk ?_))
local macro_rules | `(tactic| walk_at "sq") => `(tactic| first | exact SqL.of upd_same | exact SqT.of upd_same | exact SqL.of (by assumption) | exact SqT.of (by assumption) | assumption | exact Or.inl (SqL.of (by assumption)) | exact Or.inr (SqT.of (by assumption)) | exact Or.inl (by assumption) | exact Or.inr (by assumption))
local macro_rules | `(tactic| walk_at "hp") => `(tactic| first | exact upd_same | assumption)
local macro_rules | `(tactic| walk_at "sz") => `(tactic| first | exact Nat.le_of_ble_eq_true rfl | omega)
local macro_rules | `(tactic| walk_at "sd") => `(tactic| first | omega | exact rfl | assumption | (show (0 : Int) < _; omega) | exact And.intro (by omega) (by omega) | exact Or.inl (And.intro (by omega) (by omega)) | exact Or.inr (And.intro (by omega) (by omega)) | omega | exact Sh.sz_S (by omega) | decide)
local macro_rules | `(tactic| walk_at "rd1") => `(tactic| first
  | (with_reducible first | refine Sh.gn_mk ?_ | refine Sh.nx_mk ?_ | refine Sh.st_nx ?_ | refine Sh.rt_mk ?_ | refine Sh.ct_mk ?_ | refine Sh.bk_mk ?_)
  | refine Exists.intro (α := V) _ (And.intro rfl ?_)
  | refine Exists.intro (α := Bool) _ (And.intro rfl ?_)
  | refine Exists.intro (α := Int) _ (And.intro rfl ?_)
  | refine Exists.intro (α := PySem.Str) _ (And.intro rfl ?_)
  | refine Exists.intro (α := Int) _ (Exists.intro (α := Int) _ (And.intro rfl (And.intro rfl ?_)))
  | refine Exists.intro (α := PySem.Str) _ (Exists.intro (α := PySem.Str) _ (And.intro rfl (And.intro rfl ?_)))
  | refine Exists.intro (α := Int) _ (Exists.intro (α := Int) _ (And.intro rfl ?_))
  | refine Or.inl (Exists.intro (α := Int) _ (And.intro rfl ?_))
  | refine Exists.intro _ (Exists.intro _ (Exists.intro _ (Exists.intro _ (And.intro rfl (And.intro rfl (And.intro (by walk_at "sq") (And.intro rfl ?_)))))))
  | refine Exists.intro _ (Exists.intro _ (Exists.intro _ (Exists.intro _ (And.intro rfl (And.intro rfl (And.intro (by walk_at "hp") (And.intro rfl ?_)))))))
  | refine And.intro (by walk_at "sd") ?_
  )
local macro_rules | `(tactic| walk_at "rd") => `(tactic| repeat walk_at "rd1")
local macro_rules | `(tactic| walk_at "lk") => `(tactic| first | exact rfl | (rw [lookup_putF, if_pos rfl]) | (rw [lookup_putF, if_neg (by decide +kernel)]; walk_at "lk"))

section
variable {P : Program} {w : World} {K : PySem.W.Frag} {mg : Str → Option Value} {base : Heap}
/-- _law_pick(source, many): any number from 0 to many - 1; the source changes alone -/
def spPick : Sp := fun vs H Q _ => ∃ (a : Addr) (m : Int), vs = [.ref a, .int m] ∧ Src H a ∧ 0 < m ∧ m < 1000000 ∧ ∀ (r : Int) (H' : Hp), 0 ≤ r → r < m → Src H' a → But a H H' → Q (.int r) H'
theorem c__law_pick (T : Txt K mg) : Cal P w K mg base CX0 1 "_law_pick" spPick := by
  refine Cal.mk0 T.d__law_pick sc__law_pick (fun vs H Q E h => ?_) (fun f cdv A outer s H vs Q E hr h => ?_)
  · obtain ⟨a, m, rfl, _⟩ := h
    rfl
  · obtain ⟨a, m, rfl, ⟨d, sd, c, ha⟩, h0, h1, k⟩ := h
    refine ⟨_, (pss_cons (ps_if (pt_cmpR op_gt (pe_ix ix_list (pv 0) pe_int (fun _ _ => rfl)) pe_int (nomark _))
    (pss_cons (ps_set (i := 2) sc__law_pick.nd rfl (Or.inl rfl) (pe_op op_mod (pe_callTy call_int1 (by rfl) T.b_int (by decide +kernel) (pa_cons (pe_ix ix_list (pv 0) pe_int (fun _ _ => rfl)) pa_nil)) (pv 1)))
    (pss_cons (ps_asg (pe_op op_fdiv (pe_ix ix_list (pv 0) pe_int (fun _ _ => rfl)) (pv 1)) (pg_sub (pv 0) pe_int set_list))
    (pss_one (ps_ret (pv 2)))))
    pss_nil)
  (pss_cons (ps_asg (pe_op op_add (pe_ix ix_list (pv 0) pe_int (fun _ _ => rfl)) pe_int) (pg_sub (pv 0) pe_int set_list))
  (pss_cons (ps_set (i := 3) sc__law_pick.nd rfl (Or.inl rfl) (pe_op op_mod (pe_callTy call_int1 (by rfl) T.b_int (by decide +kernel) (pa_cons (pe_op op_mul (pe_op op_add (pe_ix ix_list (pv 0) pe_int (fun _ _ => rfl)) (pe_op op_mul pe_int (pe_ix ix_list (pv 0) pe_int (fun _ _ => rfl)))) pe_int) pa_nil)) pe_int))
  (pss_cons (ps_set (i := 3) sc__law_pick.nd rfl (Or.inl rfl) (pe_op op_mod (pe_callTy call_int1 (by rfl) T.b_int (by decide +kernel) (pa_cons (pe_op op_add (pe_op op_add (pe_op op_mul (pv 3) (pv 3)) (pe_op op_mul pe_int (pe_ix ix_list (pv 0) pe_int (fun _ _ => rfl)))) (pe_ix ix_list (pv 0) pe_int (fun _ _ => rfl))) pa_nil)) pe_int))
  (pss_cons (ps_set (i := 3) sc__law_pick.nd rfl (Or.inl rfl) (pe_op op_mod (pe_callTy call_int1 (by rfl) T.b_int (by decide +kernel) (pa_cons (pe_op op_add (pe_op op_mul (pv 3) pe_int) pe_int) pa_nil)) pe_int))
  (pss_cons (ps_set (i := 3) sc__law_pick.nd rfl (Or.inl rfl) (pe_op op_mod (pe_callTy call_int1 (by rfl) T.b_int (by decide +kernel) (pa_cons (pe_op op_add (pe_op op_mul (pv 3) (pv 3)) (pv 3)) pa_nil)) pe_int))
  (pss_one (ps_ret (pe_op op_mod (pe_callTy call_int1 (by rfl) T.b_int (by decide +kernel) (pa_cons (pe_op op_fdiv (pv 3) pe_int) pa_nil)) (pv 1)))))))))), ?_⟩
    walk_at "rd"
    refine ite2 (fun c0 => ?_) (fun c0 => ?_)
    · walk_at "rd"
      exact k _ _ (Int.emod_nonneg _ (by omega)) (Int.emod_lt_of_pos _ h0) ⟨_, _, _, upd_same⟩ but_upd
    · walk_at "rd"
      exact k _ _ (Int.emod_nonneg _ (by omega)) (Int.emod_lt_of_pos _ h0) ⟨_, _, _, upd_same⟩ but_upd
/-- _law_source(script, place): a new source -/
def spSource (K : PySem.W.Frag) : Sp := fun vs H Q _ => ∃ (a : Addr) (ns : List Int) (i : Int), vs = [.ref a, .int i] ∧ SqL K H a (ns.map V.int) ∧ (∀ z ∈ ns, Builtin.Int.intBits z ≤ 1048576) ∧ ns.length ≤ 63 ∧ 0 ≤ i ∧ i < 100 ∧
  ∀ (p : Addr) (H' : Hp), H p = none → Same H H' → Src H' p → Q (.ref p) H'
theorem cut_ints (ns : List Int) : ∃ ms : List Int, cutV (ns.map V.int) none (some 4) = ms.map V.int := ⟨_, by unfold cutV; rw [← List.map_drop, ← List.map_take]⟩
theorem c__law_source (T : Txt K mg) : Cal P w K mg base CX0 1 "_law_source" (spSource K) := by
  refine Cal.mk0 T.d__law_source sc__law_source (fun vs H Q E h => ?_) (fun f cdv A outer s H vs Q E hr h => ?_)
  · obtain ⟨a, ns, i, rfl, _⟩ := h
    rfl
  · obtain ⟨a, ns, i, rfl, hS, hb, hl, hi0, hi1, k⟩ := h
    obtain ⟨ms, hms⟩ := cut_ints ns
    refine ⟨_, (pss_cons (ps_set (i := 2) sc__law_source.nd rfl (Or.inl rfl) (pe_ifExp (pt_cmpR op_lt (pv 1) (pe_callB call_len_seq (by rfl) T.b_len (by decide +kernel) (pa_cons (pv 0) pa_nil)) (nomark _)) (pe_ix ix_list (pv 0) (pv 1) (fun _ _ => rfl)) (pe_op op_add (pe_op op_mul pe_int (pv 1)) pe_int)))
  (pss_cons (ps_set (i := 3) sc__law_source.nd rfl (Or.inl rfl) (pe_op op_add (pe_op op_mul pe_int (pv 1)) pe_int))
  (pss_cons (ps_for PassesOwn.never rfl (pi_list (pe_slice sl_list (pv 0) po_none (po_some pe_int))) (pg_name (i := 4) sc__law_source.nd rfl (Or.inl rfl))
    (pss_one (ps_set (i := 3) sc__law_source.nd rfl (Or.inl rfl) (pe_op op_mod (pe_callTy call_int1 (by rfl) T.b_int (by decide +kernel) (pa_cons (pe_op op_add (pe_op op_mul (pv 3) pe_int) (pe_op op_mod (pe_callTy call_int1 (by rfl) T.b_int (by decide +kernel) (pa_cons (pv 4) pa_nil)) pe_int)) pa_nil)) pe_int))))
  (pss_cons (ps_set (i := 3) sc__law_source.nd rfl (Or.inl rfl) (pe_op op_mod (pe_callTy call_int1 (by rfl) T.b_int (by decide +kernel) (pa_cons (pe_op op_add (pe_op op_mul (pv 3) pe_int) (pe_op op_mod (pe_callTy call_int1 (by rfl) T.b_int (by decide +kernel) (pa_cons (pv 2) pa_nil)) pe_int)) pa_nil)) pe_int))
  (pss_cons (ps_set (i := 5) sc__law_source.nd rfl (Or.inl rfl) (pe_callB call_abs (by rfl) T.b_abs (by decide +kernel) (pa_cons (pv 2) pa_nil)))
  (pss_cons (ps_if (pt_cmpR op_lt (pv 5) (pe_op op_pow pe_int pe_int) (nomark _))
    (pss_one (ps_ret (pe_lst (pa_cons pe_int (pa_cons (pv 3) (pa_cons pe_int pa_nil))))))
    pss_nil)
  (pss_cons (ps_if (pt_cmpR op_gt (pe_op op_shr (pv 5) pe_int) pe_int (nomark _))
    (pss_one (ps_set (i := 5) sc__law_source.nd rfl (Or.inl rfl) (pe_op op_sub (pv 5) (pe_op op_shlW (pe_op op_shr (pv 5) pe_int) pe_int))))
    pss_nil)
  (pss_one (ps_ret (pe_lst (pa_cons (pv 5) (pa_cons (pv 3) (pa_cons pe_int pa_nil))))))))))))), ?_⟩
    -- cell
    refine st_asgJ (fun v H' => H' = H ∧ ∃ z, v = V.int z ∧ Builtin.Int.intBits z ≤ 1048576) (fun Q' kQ => ?_) ?_
    · refine ⟨_, rfl, _, rfl, _, _, rfl, .inl hS, _, _, rfl, rfl, _, rfl, ?_⟩
      refine ite2 (fun c0 => ?_) (fun c0 => ?_)
      · have c1 : i < (ns.map V.int).length := of_decide_eq_true c0
        rw [List.length_map] at c1
        have c2 : i.toNat < ns.length := by omega
        refine ⟨_, rfl, _, rfl, _, _, _, .int ns[i.toNat], rfl, rfl, hS, ?_, kQ _ _ ⟨rfl, _, rfl, hb _ (List.getElem_mem c2)⟩⟩
        exact atI_at hi0 (by simp [c2])
      · walk_at "rd"
        refine kQ _ _ ⟨rfl, _, rfl, ?_⟩
        refine Nat.le_trans ((PySem.intBits_le_iff (m := 20)).mpr ?_) (by decide)
        show (7 * i + 5).natAbs < 2 ^ 20
        omega
    · rintro v H' ⟨rfl, cell, rfl, hcell⟩
      walk_at "rd"
      -- script[:4]
      refine ⟨_, _, rfl, hS, fun p hp => ?_⟩
      rw [hms]
      refine ⟨p, rfl, ⟨_, SqL.of upd_same⟩, for_lst (K := K) (a := p) (f := V.int) (l := ms) (fun pre σ H2 => ∃ (sd : Int) (v : Option V), σ = [some (.ref a), some (.int i), some (.int cell), some (.int sd), v, none] ∧ H2 = upd H' p (.lst (ms.map V.int)))
        ⟨_, _, rfl, rfl⟩ (fun pre σ H2 ⟨_, _, _, e⟩ => e ▸ SqL.of upd_same) ?_ ?_⟩
      · rintro pre x post σ H2 e ⟨sd, v, rfl, rfl⟩
        walk_at "rd"
        exact ⟨_, _, rfl, rfl⟩
      · rintro σ H2 ⟨sd, v, rfl, rfl⟩
        walk_at "rd"
        refine ite2 (fun c0 => ?_) (fun c0 => ?_)
        · walk_at "rd"
          refine ⟨by walk_at "sz", fun q hq => ?_⟩
          have s1 : Same H' (upd H' p (.lst (ms.map V.int))) := same_new hp
          exact k q _ (s1.free hq) (s1.trans (same_new hq)) ⟨_, _, _, upd_same⟩
        · walk_at "nx"
          refine st_ifJ (fun σ' H3 => H3 = upd H' p (.lst (ms.map V.int)) ∧ ∃ n sd v, σ' = [some (.ref a), some (.int i), some (.int cell), some (.int sd), v, some (.int n)]) (fun N kN => ?_) ?_
          · walk_at "rd"
            refine ite2 (fun c1 => ?_) (fun c1 => ?_)
            · walk_at "rd"
              have hn : Builtin.Int.intBits (if cell < 0 then -cell else cell) ≤ 1048576 := by
                split
                · exact PySem.intBits_neg_le hcell
                · exact hcell
              refine ⟨?_, ?_⟩
              · have h2 := PySem.intBits_le_of_natAbs (x := (if cell < 0 then -cell else cell) / 2 ^ Int.toNat 2500) (y := if cell < 0 then -cell else cell) (by first | exact Int.natAbs_ediv_le_natAbs _ _ | exact Int.natAbs_div_le_natAbs _ _) hn
                refine ⟨by decide, ?_⟩
                show _ + (2500 : Int) ≤ 134217728
                omega
              · walk_at "rd"
                exact kN _ _ ⟨rfl, _, _, _, rfl⟩
            · walk_at "rd"
              exact kN _ _ ⟨rfl, _, _, _, rfl⟩
          · rintro σ' H3 ⟨rfl, n, sd', v', rfl⟩
            walk_at "rd"
            refine ⟨by walk_at "sz", fun q hq => ?_⟩
            have s1 : Same H' (upd H' p (.lst (ms.map V.int))) := same_new hp
            exact k q _ (s1.free hq) (s1.trans (same_new hq)) ⟨_, _, _, upd_same⟩
end
end Sh
set_option Elab.async false
set_option linter.all false
namespace Sh
open PySem PySem.Spec PyProof.Rows L2
open SX (S S_inj S_len S_cat)
theorem cut_from {t : List Nat} {i : Int} (h : 0 ≤ i) : cutS (S t) (some i) none = S (t.drop i.toNat) := by
  rw [C8.cutS_slice]; exact SX.slice_from h
theorem cut_to {t : List Nat} {i : Int} (h : 0 ≤ i) : cutS (S t) none (some i) = S (t.take i.toNat) := by
  rw [C8.cutS_slice]; exact SX.slice_to h
theorem cut_mid {t : List Nat} {i j : Int} (h : 0 ≤ i) (k : 0 ≤ j) : cutS (S t) (some i) (some j) = S ((t.drop i.toNat).take (j.toNat - i.toNat)) := by
  unfold cutS
  have e : (S t).length = t.length := S_len t
  have h1 : HT.sIx t.length 0 (some i) = min i.toNat t.length := by
    show (if i < 0 then _ else min i.toNat t.length) = _
    rw [if_neg (by omega)]
  have h2 : HT.sIx t.length t.length (some j) = min j.toNat t.length := by
    show (if j < 0 then _ else min j.toNat t.length) = _
    rw [if_neg (by omega)]
  rw [e, h1, h2]
  show S ((t.drop (min i.toNat t.length)).take (min j.toNat t.length - min i.toNat t.length)) = _
  congr 1
  apply List.ext_getElem?
  intro n
  simp only [List.getElem?_take, List.getElem?_drop]
  by_cases hi : i.toNat ≤ t.length
  · rw [Nat.min_eq_left hi]
    by_cases hn : n < j.toNat - i.toNat
    · rw [if_pos hn]
      by_cases hn2 : n < min j.toNat t.length - i.toNat
      · rw [if_pos hn2]
      · rw [if_neg hn2, List.getElem?_eq_none (by omega)]
    · rw [if_neg hn, if_neg (by omega)]
  · have e1 : min i.toNat t.length = t.length := by omega
    rw [e1, List.getElem?_eq_none (l := t) (i := t.length + n) (by omega), List.getElem?_eq_none (l := t) (i := i.toNat + n) (by omega)]
    simp
theorem endswith_S (a b : List Nat) : Txt.endswith (S a) (S b) = b.isSuffixOf a := by
  unfold Txt.endswith
  rw [PySem.StrLaws.subAt_eq, S_len, S_len, Bool.eq_iff_iff, List.isSuffixOf_iff_suffix, List.suffix_iff_eq_drop]
  simp only [Bool.and_eq_true, decide_eq_true_eq, beq_iff_eq]
  constructor
  · rintro ⟨h1, h2⟩
    rw [List.take_of_length_le (by rw [List.length_drop]; omega)] at h2
    exact h2.symm
  · intro h
    have hl := congrArg List.length h
    rw [List.length_drop] at hl
    refine ⟨by omega, ?_⟩
    rw [List.take_of_length_le (by rw [List.length_drop]; omega)]
    exact h.symm
theorem startswith_S (a b : List Nat) : Txt.startswith (S a) (S b) = b.isPrefixOf a := by
  unfold Txt.startswith
  rw [PySem.StrLaws.subAt_eq, S_len, S_len, Bool.eq_iff_iff, List.isPrefixOf_iff_prefix, List.prefix_iff_eq_take]
  simp only [Bool.and_eq_true, decide_eq_true_eq, beq_iff_eq, List.drop_zero]
  constructor
  · rintro ⟨h1, h2⟩
    exact h2.symm
  · intro h
    have hl := congrArg List.length h
    rw [List.length_take] at hl
    exact ⟨by omega, h.symm⟩
theorem join_nil (l : List (List Nat)) : Txt.join (S []) (l.map S) = S l.flatten := by
  rw [SX.join_S]
  congr 1
  induction l with
  | nil => rfl
  | cons x l ih =>
    cases l with
    | nil => simp [TL.joinL]
    | cons y l =>
      rw [List.flatten_cons, ← ih]
      simp [TL.joinL]
theorem flat_one (l : List Nat) : (l.map fun c => [c]).flatten = l := by
  induction l with
  | nil => rfl
  | cons x l ih => rw [List.map_cons, List.flatten_cons, ih]; rfl
end Sh
set_option Elab.async false
set_option linter.all false
set_option maxRecDepth 100000
set_option maxHeartbeats 4000000
namespace Sh
open PySem PySem.Spec PyProof.Rows L2
open SX (S S_inj S_len S_cat)
local macro_rules | `(tactic| walk_at "nx") => `(tactic| repeat (with_reducible first | refine Sh.gn_mk ?_ | refine Sh.nx_mk ?_ | refine Sh.st_nx ?_ | refine Sh.rt_mk ?_ | refine Sh.ct_mk ?_ | refine Sh.bk_mk ?_))
local macro_rules | `(tactic| walk_at "sq") => `(tactic| first | exact SqL.of upd_same | exact SqT.of upd_same | exact SqL.of (by assumption) | exact SqT.of (by assumption) | assumption | exact Or.inl (SqL.of (by assumption)) | exact Or.inr (SqT.of (by assumption)) | exact Or.inl (by assumption) | exact Or.inr (by assumption))
local macro_rules | `(tactic| walk_at "hp") => `(tactic| first | exact upd_same | assumption)
local macro_rules | `(tactic| walk_at "sz") => `(tactic| first | exact Nat.le_of_ble_eq_true rfl | omega)
local macro_rules | `(tactic| walk_at "sd") => `(tactic| first | omega | exact rfl | assumption | (show (0 : Int) < _; omega) | exact And.intro (by omega) (by omega) | exact Or.inl (And.intro (by omega) (by omega)) | exact Or.inr (And.intro (by omega) (by omega)) | omega | exact Sh.sz_S (by omega) | decide)
local macro_rules | `(tactic| walk_at "rd1") => `(tactic| first
  | (with_reducible first | refine Sh.gn_mk ?_ | refine Sh.nx_mk ?_ | refine Sh.st_nx ?_ | refine Sh.rt_mk ?_ | refine Sh.ct_mk ?_ | refine Sh.bk_mk ?_)
  | refine Exists.intro (α := V) _ (And.intro rfl ?_)
  | refine Exists.intro (α := Bool) _ (And.intro rfl ?_)
  | refine Exists.intro (α := Int) _ (And.intro rfl ?_)
  | refine Exists.intro (α := PySem.Str) _ (And.intro rfl ?_)
  | refine Exists.intro (α := Int) _ (Exists.intro (α := Int) _ (And.intro rfl (And.intro rfl ?_)))
  | refine Exists.intro (α := PySem.Str) _ (Exists.intro (α := PySem.Str) _ (And.intro rfl (And.intro rfl ?_)))
  | refine Exists.intro (α := Int) _ (Exists.intro (α := Int) _ (And.intro rfl ?_))
  | refine Or.inl (Exists.intro (α := Int) _ (And.intro rfl ?_))
  | refine Exists.intro _ (Exists.intro _ (Exists.intro _ (Exists.intro _ (And.intro rfl (And.intro rfl (And.intro (by walk_at "sq") (And.intro rfl ?_)))))))
  | refine Exists.intro _ (Exists.intro _ (Exists.intro _ (Exists.intro _ (And.intro rfl (And.intro rfl (And.intro (by walk_at "hp") (And.intro rfl ?_)))))))
  | refine And.intro (by walk_at "sd") ?_
  )
local macro_rules | `(tactic| walk_at "rd") => `(tactic| repeat walk_at "rd1")
local macro_rules | `(tactic| walk_at "lk") => `(tactic| first | exact rfl | (rw [lookup_putF, if_pos rfl]) | (rw [lookup_putF, if_neg (by decide +kernel)]; walk_at "lk"))

section
variable {P : Program} {w : World} {K : PySem.W.Frag} {mg : Str → Option Value} {base : Heap}
/-- the signs that the law draws -/
def sgMenu : List (List Nat) := [[97, 98], [97, 98, 99], [97, 98], [97, 99], [97, 98, 99], [98, 122], [97], [98, 99, 100], [97, 98], [107, 109, 122], [97, 98, 99], [120, 121]]
def spSigns : Sp := fun vs H Q _ => ∃ (a : Addr), vs = [.ref a] ∧ Src H a ∧ ∀ (sg : List Nat) (H' : Hp), sg ∈ sgMenu → Src H' a → But a H H' → Q (.str (S sg)) H'
theorem sgMenu_V : ([V.str "ab", V.str "abc", V.str "ab", V.str "ac", V.str "abc", V.str "bz", V.str "a", V.str "bcd", V.str "ab", V.str "kmz", V.str "abc", V.str "xy"] : List V) = sgMenu.map fun l => V.str (S l) := by decide +kernel
theorem c__law_signs (T : Txt K mg) : Cal P w K mg base CX0 2 "_law_signs" spSigns := by
  have c__law_pick := c__law_pick (P := P) (w := w) (base := base) T
  refine Cal.mk0 T.d__law_signs sc__law_signs (fun vs H Q E h => ?_) (fun f cdv A outer s H vs Q E hr h => ?_)
  · obtain ⟨a, rfl, _⟩ := h
    rfl
  · obtain ⟨a, rfl, hs, k⟩ := h
    refine ⟨_, (pss_cons (ps_set (i := 1) sc__law_signs.nd rfl (Or.inl rfl) (pe_lst (pa_cons pe_str (pa_cons pe_str (pa_cons pe_str (pa_cons pe_str (pa_cons pe_str (pa_cons pe_str (pa_cons pe_str (pa_cons pe_str (pa_cons pe_str (pa_cons pe_str (pa_cons pe_str (pa_cons pe_str pa_nil))))))))))))))
  (pss_one (ps_ret (pe_ix ix_list (pv 1) (pe_c c__law_pick hr (by decide) rfl (pa_cons (pv 0) (pa_cons (pe_callB call_len_seq (by rfl) T.b_len (by decide +kernel) (pa_cons (pv 1) pa_nil)) pa_nil))) (fun _ _ => rfl))))), ?_⟩
    refine ⟨by walk_at "sz", fun p hp => ?_⟩
    rw [sgMenu_V]
    have ns := same_new (o := .lst (sgMenu.map fun l => V.str (S l))) hp
    obtain ⟨d, sd, c, ha⟩ := id hs
    have hs1 : Src (upd H p (.lst (sgMenu.map fun l => V.str (S l)))) a := ⟨d, sd, c, ns _ _ ha⟩
    have npa : p ≠ a := (ne_of_none ha hp).symm
    refine ⟨_, rfl, _, rfl, _, rfl, p, _, rfl, .inl (SqL.of upd_same), ?_⟩
    refine ⟨_, _, rfl, hs1, by decide, by decide, fun r H2 r0 r1 s2 b2 => ?_⟩
    have r1' : r < 12 := r1
    have hr2 : r.toNat < sgMenu.length := by show _ < 12; omega
    refine ⟨p, _, r, .str (S sgMenu[r.toNat]), rfl, rfl, SqL.of (b2 _ _ npa upd_same), atI_at r0 (by rw [List.getElem?_map, List.getElem?_eq_getElem hr2]; rfl), ?_⟩
    exact k _ _ (List.getElem_mem hr2) s2 (But.trans (But.same ns) b2)
/-- a drawn text -/
def spText : Sp := fun vs H Q _ => ∃ (a : Addr) (sg : List Nat) (m : Int), vs = [.ref a, .str (S sg), .int m] ∧ Src H a ∧ 0 < sg.length ∧ sg.length ≤ 1000 ∧ 0 ≤ m ∧ m < 1000 ∧
  ∀ (t : List Nat) (H' : Hp), (t.length : Int) ≤ m → (∀ c ∈ t, c ∈ sg) → Src H' a → But a H H' → Q (.str (S t)) H'
theorem c__law_text (T : Txt K mg) : Cal P w K mg base CX0 2 "_law_text" spText := by
  have c__law_pick := c__law_pick (P := P) (w := w) (base := base) T
  refine Cal.mk0 T.d__law_text sc__law_text (fun vs H Q E h => ?_) (fun f cdv A outer s H vs Q E hr h => ?_)
  · obtain ⟨a, sg, m, rfl, _⟩ := h
    rfl
  · obtain ⟨a, sg, m, rfl, hs, hg0, hg1, hm0, hm1, k⟩ := h
    refine ⟨_, (pss_cons (ps_set (i := 3) sc__law_text.nd rfl (Or.inl rfl) pe_str)
  (pss_cons (ps_for PassesOwn.never rfl (pi_range1 (by rfl) T.b_range (pa_cons (pe_c c__law_pick hr (by decide) rfl (pa_cons (pv 0) (pa_cons (pe_op op_add (pv 2) pe_int) pa_nil))) pa_nil)) (pg_name (i := 4) sc__law_text.nd rfl (Or.inl rfl))
    (pss_one (ps_set (i := 3) sc__law_text.nd rfl (Or.inl rfl) (pe_op op_add_str (pv 3) (pe_ix ix_str (pv 1) (pe_c c__law_pick hr (by decide) rfl (pa_cons (pv 0) (pa_cons (pe_callB call_len_str (by rfl) T.b_len (by decide +kernel) (pa_cons (pv 1) pa_nil)) pa_nil))) (fun _ _ => rfl))))))
  (pss_one (ps_ret (pv 3))))), ?_⟩
    walk_at "rd"
    refine ⟨_, _, rfl, hs, by omega, by omega, fun n H1 n0 n1 s1 b1 => ?_⟩
    refine ⟨_, rfl, by omega, by omega, for_range (lo := 0) (n := n.toNat) (fun i σ H2 => ∃ (t : List Nat) (v : Option V), σ = [some (.ref a), some (.str (S sg)), some (.int m), some (.str (S t)), v] ∧ t.length = i ∧ (∀ c ∈ t, c ∈ sg) ∧ Src H2 a ∧ But a H H2)
      ⟨[], _, rfl, rfl, by simp, s1, b1⟩ ?_ ?_⟩
    · rintro i σ H2 hi ⟨t, v, rfl, ht, hc, s2, b2⟩
      refine ⟨_, rfl, _, rfl, _, rfl, _, rfl, _, rfl, sz_S (by omega), ?_⟩
      refine ⟨_, _, rfl, s2, by rw [S_len]; omega, by rw [S_len]; omega, fun r H3 r0 r1 s3 b3 => ?_⟩
      rw [S_len] at r1
      have hr2 : r.toNat < sg.length := by omega
      refine ⟨_, r, sg[r.toNat], rfl, rfl, sz_S (by omega), atI_at r0 (by show sg[r.toNat]? = _; simp [hr2]), ?_⟩
      refine ⟨_, _, rfl, rfl, by show (S t).length + (S [sg[r.toNat]]).length ≤ _; rw [S_len, S_len]; exact Nat.le_trans (m := 1000000) (by simp; omega) (by decide), ?_⟩
      refine ⟨t ++ [sg[r.toNat]], some (.int (0 + i)), ?_, by simp [ht], ?_, s3, b2.trans b3⟩
      · rw [← S_cat]; rfl
      · intro c hcc
        rcases List.mem_append.mp hcc with q | q
        · exact hc c q
        · rw [List.mem_singleton] at q; rw [q]; exact List.getElem_mem hr2
    · rintro σ H2 ⟨t, v, rfl, ht, hc, s2, b2⟩
      walk_at "rd"
      exact k _ _ (by omega) hc s2 b2
/-- (len(text), text) -/
def spKey : Sp := fun vs H Q _ => ∃ t : List Nat, vs = [.str (S t)] ∧ t.length ≤ 1000000 ∧ ∀ p, H p = none → Q (.ref p) (upd H p (.tup [.int t.length, .str (S t)]))
theorem c_text_key (T : Txt K mg) : Cal P w K mg base CX0 1 "text_key" spKey := by
  refine Cal.mk0 T.d_text_key sc_text_key (fun vs H Q E h => ?_) (fun f cdv A outer s H vs Q E hr h => ?_)
  · obtain ⟨t, rfl, _⟩ := h
    rfl
  · obtain ⟨t, rfl, ht, k⟩ := h
    refine ⟨_, (pss_one (ps_ret (pe_tup (pa_cons (pe_callB call_len_str (by rfl) T.b_len (by decide +kernel) (pa_cons (pv 0) pa_nil)) (pa_cons (pv 0) pa_nil))))), ?_⟩
    refine ⟨_, rfl, _, rfl, sz_S ht, _, rfl, by walk_at "sz", fun p hp => ?_⟩
    have q := k p hp
    rw [← S_len] at q
    exact q
theorem c__law_key (T : Txt K mg) : Cal P w K mg base CX0 1 "_law_key" spKey := by
  refine Cal.mk0 T.d__law_key sc__law_key (fun vs H Q E h => ?_) (fun f cdv A outer s H vs Q E hr h => ?_)
  · obtain ⟨t, rfl, _⟩ := h
    rfl
  · obtain ⟨t, rfl, ht, k⟩ := h
    refine ⟨_, (pss_one (ps_ret (pe_tup (pa_cons (pe_callB call_len_str (by rfl) T.b_len (by decide +kernel) (pa_cons (pv 0) pa_nil)) (pa_cons (pv 0) pa_nil))))), ?_⟩
    refine ⟨_, rfl, _, rfl, sz_S ht, _, rfl, by walk_at "sz", fun p hp => ?_⟩
    have q := k p hp
    rw [← S_len] at q
    exact q
/-- a drawn rule: its left side has 1 to longest signs, its right side none, or one and the left side two or more -/
def RuleOk (sg : List Nat) (m : Nat) (r : List Nat × List Nat) : Prop :=
  1 ≤ r.1.length ∧ r.1.length ≤ m ∧ (∀ c ∈ r.1, c ∈ sg) ∧ (∀ c ∈ r.2, c ∈ sg) ∧ r.2.length ≤ 1 ∧ r.2.length < r.1.length
def rTup (r : List Nat × List Nat) : List V := [.str (S r.1), .str (S r.2)]
def spRule : Sp := fun vs H Q _ => ∃ (a : Addr) (sg : List Nat) (m : Int), vs = [.ref a, .str (S sg), .int m] ∧ Src H a ∧ 0 < sg.length ∧ sg.length ≤ 1000 ∧ 1 ≤ m ∧ m ≤ 4 ∧
  ∀ (r : List Nat × List Nat) (p : Addr) (H' : Hp), RuleOk sg m.toNat r → Src H' a → But a H H' → H p = none → H' p = some (.tup (rTup r)) → Q (.ref p) H'
theorem c__law_rule (T : Txt K mg) : Cal P w K mg base CX0 2 "_law_rule" spRule := by
  have c__law_pick := c__law_pick (P := P) (w := w) (base := base) T
  refine Cal.mk0 T.d__law_rule sc__law_rule (fun vs H Q E h => ?_) (fun f cdv A outer s H vs Q E hr h => ?_)
  · obtain ⟨a, sg, m, rfl, _⟩ := h
    rfl
  · obtain ⟨a, sg, m, rfl, hs, hg0, hg1, hm0, hm1, k⟩ := h
    refine ⟨_, (pss_cons (ps_set (i := 3) sc__law_rule.nd rfl (Or.inl rfl) (pe_op op_add pe_int (pe_c c__law_pick hr (by decide) rfl (pa_cons (pv 0) (pa_cons (pv 2) pa_nil)))))
  (pss_cons (ps_if (PW.pt (pw_and (pt_cmpR op_eq (pv 3) pe_int (nomark _)) (pw_and1 (pt_cmpR op_gt (pe_c c__law_pick hr (by decide) rfl (pa_cons (pv 0) (pa_cons pe_int pa_nil))) pe_int (nomark _)))))
    (pss_one (ps_set (i := 3) sc__law_rule.nd rfl (Or.inl rfl) (pe_callB (call_min2 rfl) (by rfl) T.b_min (by decide +kernel) (pa_cons pe_int (pa_cons (pv 2) pa_nil)))))
    pss_nil)
  (pss_cons (ps_set (i := 4) sc__law_rule.nd rfl (Or.inl rfl) (pe_join pe_str (pe_lc (own := [("_law_k", 5)]) (g := gName 5) (tt := tYes) rfl sc__law_rule.nd (pi_range1 (by rfl) T.b_range (pa_cons (pv 3) pa_nil)) (blkOk_by (N := ["_law_source_here", "_law_signs_here", "_law_longest", "_law_size", "_law_left", "_law_k"]) (sc := defScope s__law_rule) (by decide +kernel)) (fun _ _ _ _ _ => (pg_name (i := 5) sc__law_rule.nd rfl (Or.inl rfl))) (fun _ _ _ _ _ => pts_nil) (fun _ _ _ _ _ => (pe_ix ix_str (pv 1) (pe_c c__law_pick hr (by decide) rfl (pa_cons (pv 0) (pa_cons (pe_callB call_len_str (by rfl) T.b_len (by decide +kernel) (pa_cons (pv 1) pa_nil)) pa_nil))) (fun _ _ => rfl))))))
  (pss_cons (ps_if (PW.pt (pw_or (pt_cmpR op_eq (pv 3) pe_int (nomark _)) (pw_or1 (pt_cmpR op_eq (pe_c c__law_pick hr (by decide) rfl (pa_cons (pv 0) (pa_cons pe_int pa_nil))) pe_int (nomark _)))))
    (pss_one (ps_ret (pe_tup (pa_cons (pv 4) (pa_cons pe_str pa_nil)))))
    pss_nil)
  (pss_one (ps_ret (pe_tup (pa_cons (pv 4) (pa_cons (pe_ix ix_str (pv 1) (pe_c c__law_pick hr (by decide) rfl (pa_cons (pv 0) (pa_cons (pe_callB call_len_str (by rfl) T.b_len (by decide +kernel) (pa_cons (pv 1) pa_nil)) pa_nil))) (fun _ _ => rfl)) pa_nil))))))))), ?_⟩
    walk_at "rd"
    refine ⟨_, _, rfl, hs, by omega, by omega, fun n H1 n0 n1 s1 b1 => ?_⟩
    refine ⟨_, _, rfl, rfl, ?_⟩
    walk_at "nx"
    refine st_ifJ (fun σ' H' => ∃ z : Int, 1 ≤ z ∧ z ≤ m ∧ σ' = [some (.ref a), some (.str (S sg)), some (.int m), some (.int z), none, none] ∧ Src H' a ∧ But a H H') (fun N kN => ?_) ?_
    · walk_at "rd"
      refine ite2 (fun c0 => ?_) (fun c0 => ?_)
      · walk_at "rd"
        refine ⟨_, _, rfl, s1, by decide, by decide, fun r H2 r0 r1 s2 b2 => ?_⟩
        walk_at "rd"
        refine ite2 (fun c1 => ?_) (fun c1 => ?_)
        · walk_at "rd"
          refine kN _ _ ⟨_, ?_, ?_, rfl, s2, b1.trans b2⟩
          · split <;> omega
          · split <;> omega
        · walk_at "nx"
          exact kN _ _ ⟨_, by omega, by omega, rfl, s2, b1.trans b2⟩
      · walk_at "nx"
        refine iteF ?_
        walk_at "nx"
        exact kN _ _ ⟨_, by omega, by omega, rfl, s1, b1⟩
    · rintro σ' H2 ⟨z, z0, z1, rfl, s2, b2⟩
      refine ⟨⟨_, rfl⟩, _, rfl, _, rfl, by omega, by omega, fun D hD => lc_range (lo := 0) (n := z.toNat) (fun i H3 => ∃ l : List Nat, l.length = i ∧ (∀ c ∈ l, c ∈ sg) ∧ H3 D = some (.lst (l.map fun c => .str (S [c]))) ∧ Src H3 a ∧ But a H2 H3) ?_ ?_ ?_⟩
      · obtain ⟨d, sd, c, ha⟩ := id s2
        exact ⟨[], rfl, by simp, upd_same, ⟨d, sd, c, same_new hD _ _ ha⟩, But.same (same_new hD)⟩
      · rintro i H3 hi ⟨l, hl, hc, h3, s3, b3⟩
        refine ⟨rfl, ty_T ?_⟩
        walk_at "rd"
        refine ⟨_, _, rfl, s3, by rw [S_len]; omega, by rw [S_len]; omega, fun r H4 r0 r1 s4 b4 => ?_⟩
        rw [S_len] at r1
        have hr2 : r.toNat < sg.length := by omega
        have nDa : D ≠ a := by
          obtain ⟨d, sd, c, ha⟩ := id s2
          exact (ne_of_none ha hD).symm
        refine ⟨_, r, sg[r.toNat], rfl, rfl, sz_S (by omega), atI_at r0 (by show sg[r.toNat]? = _; simp [hr2]), ?_⟩
        have h4 := b4 _ _ nDa h3
        refine ⟨_, h4, by rw [List.length_map, hl]; exact Nat.lt_of_le_of_lt (m := 4) (by omega) (by decide), l ++ [sg[r.toNat]], by simp [hl], ?_, ?_, ?_, ?_⟩
        · intro c hcc
          rcases List.mem_append.mp hcc with q | q
          · exact hc c q
          · rw [List.mem_singleton] at q; rw [q]; exact List.getElem_mem hr2
        · rw [List.map_append]; exact upd_same
        · obtain ⟨d, sd, c, ha⟩ := id s4
          exact ⟨d, sd, c, by rw [upd_ne nDa.symm]; exact ha⟩
        · exact but_mut (b3.trans b4) hD
      · rintro H3 ⟨l, hl, hc, h3, s3, b3⟩
        have hjoin : Txt.join (S []) (l.map fun c => S [c]) = S l := by
          have := join_nil (l.map fun c => [c])
          rw [flat_one, List.map_map] at this
          exact this
        have hsum : ∀ l : List Nat, ((l.map fun c => S [c]).map (·.length)).sum = l.length := by
          intro l
          induction l with
          | nil => rfl
          | cons x l ih => rw [List.map_cons, List.map_cons, List.sum_cons, ih, S_len]; simp [Nat.add_comm]
        refine ⟨_, D, l.map fun c => S [c], rfl, rfl, .inl (SqL.of (by rw [List.map_map]; exact h3)), ?_, ?_⟩
        · show ((l.map fun c => S [c]).map (·.length)).sum + (l.map fun c => S [c]).length * 0 ≤ 16777216
          rw [hsum]
          omega
        · show gName 4 (.str (Txt.join (S []) (l.map fun c => S [c]))) _ _ _
          rw [hjoin]
          have nDa : D ≠ a := by
            obtain ⟨d, sd, c, ha⟩ := id s2
            exact (ne_of_none ha hD).symm
          have hDH : H D = none := b2.none_of nDa hD
          have fin : ∀ (r : List Nat) (H4 : Hp) (p : Addr), (∀ c ∈ r, c ∈ sg) → r.length ≤ 1 → r.length < l.length → Src H4 a → But a H3 H4 → H4 p = none → Q (.ref p) (upd H4 p (.tup (rTup (l, r)))) := by
            intro r H4 p hr0 hr1 hr2 s4 b4 hp
            have npa : p ≠ a := by
              obtain ⟨d, sd, c, ha⟩ := id s4
              exact (ne_of_none ha hp).symm
            refine k (l, r) p _ ⟨by show 1 ≤ l.length; omega, by show l.length ≤ m.toNat; omega, hc, hr0, hr1, hr2⟩ ?_ ?_ ?_ upd_same
            · obtain ⟨d, sd, c, ha⟩ := id s4
              exact ⟨d, sd, c, by rw [upd_ne npa.symm]; exact ha⟩
            · exact ((b2.trans b3).trans b4).trans (But.same (same_new hp))
            · exact ((b2.trans b3).trans b4).none_of npa hp
          walk_at "rd"
          refine ite2 (fun c0 => ?_) (fun c0 => ?_)
          · refine iteT ?_
            walk_at "rd"
            refine ⟨by walk_at "sz", fun p hp => ?_⟩
            exact fin [] H3 p (by simp) (by simp) (by show 0 < l.length; omega) s3 (But.refl a H3) hp
          · have hz : ¬ z = 1 := fun e => c0 (by rw [e]; rfl)
            walk_at "rd"
            refine ⟨_, _, rfl, s3, by decide, by decide, fun r H4 r0 r1 s4 b4 => ?_⟩
            walk_at "rd"
            refine ite2 (fun c1 => ?_) (fun c1 => ?_)
            · walk_at "rd"
              refine ⟨by walk_at "sz", fun p hp => ?_⟩
              exact fin [] H4 p (by simp) (by simp) (by show 0 < l.length; omega) s4 b4 hp
            · walk_at "rd"
              refine ⟨_, _, rfl, s4, by rw [S_len]; omega, by rw [S_len]; omega, fun r2 H5 r20 r21 s5 b5 => ?_⟩
              rw [S_len] at r21
              have hr2 : r2.toNat < sg.length := by omega
              refine ⟨_, r2, sg[r2.toNat], rfl, rfl, sz_S (by omega), atI_at r20 (by show sg[r2.toNat]? = _; simp [hr2]), ?_⟩
              refine ⟨by walk_at "sz", fun p hp => ?_⟩
              exact fin [sg[r2.toNat]] H5 p (by intro c hc; rw [List.mem_singleton] at hc; rw [hc]; exact List.getElem_mem hr2) (by simp) (by show 1 < l.length; omega) s5 (b4.trans b5) hp
end
end Sh
/-! texts, rules, piles, ends: plain Lean -/
namespace Bk
abbrev T := List Nat
abbrev Rule := T × T

def fits (p : T) (r : Rule) : Bool := r.1.isSuffixOf p
def useR (p : T) (r : Rule) : T := p.take (p.length - r.1.length) ++ r.2
def used (R : List Rule) (p : T) : Option T := (R.find? (fits p)).map (useR p)
def drain (R : List Rule) : Nat → T → T
  | 0, p => p
  | n + 1, p => match used R p with
    | none => p
    | some q => drain R n q
def pushS (R : List Rule) (p : T) (c : Nat) : T := drain R (p.length + 1) (p ++ [c])
def left (R : List Rule) (t : T) : T := t.foldl (pushS R) []

/-- every right side is shorter than its left side and has at most one sign -/
def Wf (R : List Rule) : Prop := ∀ r ∈ R, r.2.length < r.1.length ∧ r.2.length ≤ 1

inductive Step (R : List Rule) : T → T → Prop where
  | mk (x y : T) (r : Rule) (h : r ∈ R) : Step R (x ++ r.1 ++ y) (x ++ r.2 ++ y)
inductive Reach (R : List Rule) : T → T → Prop where
  | refl (t : T) : Reach R t t
  | step {a b c : T} : Step R a b → Reach R b c → Reach R a c
def IsEnd (R : List Rule) (t : T) : Prop := ∀ u, ¬ Step R t u

theorem Reach.trans {R : List Rule} {a b c : T} (h : Reach R a b) (k : Reach R b c) : Reach R a c := by
  induction h with
  | refl => exact k
  | step s _ ih => exact .step s (ih k)
theorem Step.ctx {R : List Rule} {a b : T} (x y : T) (h : Step R a b) : Step R (x ++ a ++ y) (x ++ b ++ y) := by
  cases h with
  | mk p q r hr =>
    have := Step.mk (R := R) (x ++ p) (q ++ y) r hr
    simpa [List.append_assoc] using this
theorem Reach.ctx {R : List Rule} {a b : T} (x y : T) (h : Reach R a b) : Reach R (x ++ a ++ y) (x ++ b ++ y) := by
  induction h with
  | refl => exact .refl _
  | step s _ ih => exact .step (s.ctx x y) ih
theorem Step.len {R : List Rule} (w : Wf R) {a b : T} (h : Step R a b) : b.length < a.length := by
  cases h with
  | mk p q r hr => have := (w r hr).1; simp; omega
theorem Reach.len {R : List Rule} (w : Wf R) {a b : T} (h : Reach R a b) : b.length ≤ a.length := by
  induction h with
  | refl => exact Nat.le_refl _
  | step s _ ih => have := s.len w; omega

theorem fits_iff {p : T} {r : Rule} : fits p r = true ↔ ∃ x, p = x ++ r.1 := by
  unfold fits
  rw [List.isSuffixOf_iff_suffix]
  constructor
  · rintro ⟨x, h⟩; exact ⟨x, h.symm⟩
  · rintro ⟨x, h⟩; exact ⟨x, h.symm⟩
theorem useR_app {x : T} {r : Rule} : useR (x ++ r.1) r = x ++ r.2 := by
  unfold useR
  simp
theorem used_some {R : List Rule} {p q : T} (h : used R p = some q) : ∃ x r, r ∈ R ∧ p = x ++ r.1 ∧ q = x ++ r.2 := by
  unfold used at h
  cases e : R.find? (fits p) with
  | none => rw [e] at h; cases h
  | some r =>
    rw [e] at h
    have hr := List.mem_of_find?_eq_some e
    have hf := List.find?_some e
    obtain ⟨x, hx⟩ := fits_iff.mp hf
    subst hx
    simp only [Option.map_some, Option.some.injEq] at h
    rw [useR_app] at h
    exact ⟨x, r, hr, rfl, h.symm⟩
theorem used_none {R : List Rule} {p : T} (h : used R p = none) : ∀ r ∈ R, ∀ x, p ≠ x ++ r.1 := by
  intro r hr x e
  unfold used at h
  rw [Option.map_eq_none_iff, List.find?_eq_none] at h
  exact h r hr (fits_iff.mpr ⟨x, e⟩)
theorem used_step {R : List Rule} {p q : T} (h : used R p = some q) : Step R p q := by
  obtain ⟨x, r, hr, rfl, rfl⟩ := used_some h
  have := Step.mk (R := R) x [] r hr
  simpa using this
theorem drain_reach {R : List Rule} : ∀ (n : Nat) (p : T), Reach R p (drain R n p)
  | 0, p => .refl _
  | n + 1, p => by
    unfold drain
    split
    · exact .refl _
    · next q h => exact .step (used_step h) (drain_reach n q)
theorem drain_none {R : List Rule} (w : Wf R) : ∀ (n : Nat) (p : T), p.length ≤ n → used R (drain R n p) = none
  | 0, p, h => by
    have : p = [] := by cases p with | nil => rfl | cons => simp at h
    subst this
    unfold drain
    cases e : used R [] with
    | none => rfl
    | some q => have := (used_step e).len w; simp at this
  | n + 1, p, h => by
    unfold drain
    split
    · next e => exact e
    · next q e =>
      have := (used_step e).len w
      exact drain_none w n q (by omega)
/-- all but the last sign is an end -/
def Near (R : List Rule) (p : T) : Prop := ∃ x y, p = x ++ y ∧ y.length ≤ 1 ∧ IsEnd R x
theorem isEnd_iff {R : List Rule} {t : T} : IsEnd R t ↔ ∀ r ∈ R, ∀ x y, t ≠ x ++ r.1 ++ y := by
  constructor
  · intro h r hr x y e
    exact h (x ++ r.2 ++ y) (e ▸ Step.mk x y r hr)
  · intro h u s
    cases s with
    | mk x y r hr => exact h r hr x y rfl
theorem IsEnd.pre {R : List Rule} {x y : T} (h : IsEnd R (x ++ y)) : IsEnd R x := by
  rw [isEnd_iff] at h ⊢
  intro r hr a b e
  refine h r hr a (b ++ y) ?_
  rw [e]; simp [List.append_assoc]
theorem IsEnd.infix {R : List Rule} {x y z : T} (h : IsEnd R (x ++ y ++ z)) : IsEnd R y := by
  rw [isEnd_iff] at h ⊢
  intro r hr a b e
  refine h r hr (x ++ a) (b ++ z) ?_
  rw [e]; simp [List.append_assoc]
theorem near_end {R : List Rule} (w : Wf R) {p : T} (h : Near R p) (hu : used R p = none) : IsEnd R p := by
  obtain ⟨x, y, rfl, hy, hx⟩ := h
  rw [isEnd_iff] at hx ⊢
  intro r hr a b e
  rcases List.append_eq_append_iff.mp e with ⟨c, e1, e2⟩ | ⟨c, e1, e2⟩
  · -- a ++ r.1 = x ++ c, y = c ++ b
    cases b with
    | nil => exact used_none hu r hr a (by rw [e]; simp)
    | cons b0 b' =>
      have : c = [] := by
        cases c with
        | nil => rfl
        | cons c0 c' =>
          have q := congrArg List.length e2
          simp at q
          omega
      subst this
      exact hx r hr a [] (by simpa using e1.symm)
  · exact hx r hr a c e1
theorem near_used {R : List Rule} (w : Wf R) {p q : T} (h : Near R p) (hu : used R p = some q) : Near R q := by
  obtain ⟨x, y, rfl, hy, hx⟩ := h
  obtain ⟨a, r, hr, e, rfl⟩ := used_some hu
  refine ⟨a, r.2, rfl, (w r hr).2, ?_⟩
  have hl := (w r hr).1
  rcases List.append_eq_append_iff.mp e with ⟨c, e1, e2⟩ | ⟨c, e1, e2⟩
  · -- a = x ++ c, y = c ++ r.1
    have : c = [] := by
      cases c with
      | nil => rfl
      | cons c0 c' =>
        have q := congrArg List.length e2
        simp at q
        omega
    subst this
    simp at e1
    rw [e1]; exact hx
  · rw [e1] at hx; exact hx.pre
theorem near_drain {R : List Rule} (w : Wf R) : ∀ (n : Nat) (p : T), Near R p → p.length ≤ n → IsEnd R (drain R n p)
  | 0, p, h, hn => by
    have hu := drain_none w 0 p hn
    exact near_end w h hu
  | n + 1, p, h, hn => by
    unfold drain
    split
    · next e => exact near_end w h e
    · next q e =>
      have := (used_step e).len w
      exact near_drain w n q (near_used w h e) (by omega)
theorem push_end {R : List Rule} (w : Wf R) {p : T} {c : Nat} (h : IsEnd R p) : IsEnd R (pushS R p c) :=
  near_drain w _ _ ⟨p, [c], rfl, Nat.le_refl _, h⟩ (by simp)
theorem foldl_end {R : List Rule} (w : Wf R) : ∀ (t p : T), IsEnd R p → IsEnd R (t.foldl (pushS R) p)
  | [], _, h => h
  | c :: t, p, h => foldl_end w t _ (push_end w h)
theorem end_nil {R : List Rule} (w : Wf R) : IsEnd R [] := by
  intro u s
  have := s.len w
  simp at this
theorem left_end {R : List Rule} (w : Wf R) (t : T) : IsEnd R (left R t) := foldl_end w t [] (end_nil w)
theorem foldl_reach {R : List Rule} : ∀ (t p : T), Reach R (p ++ t) (t.foldl (pushS R) p)
  | [], p => by simpa using Reach.refl (R := R) p
  | c :: t, p => by
    have h1 : Reach R (p ++ [c]) (pushS R p c) := drain_reach _ _
    have h2 := h1.ctx [] t
    have h3 := foldl_reach (R := R) t (pushS R p c)
    simp only [List.nil_append, List.append_assoc, List.singleton_append] at h2
    exact h2.trans h3
theorem left_reach {R : List Rule} (t : T) : Reach R t (left R t) := by
  exact foldl_reach (R := R) t []
theorem reach_end {R : List Rule} {a b : T} (h : IsEnd R a) (k : Reach R a b) : b = a := by
  cases k with
  | refl => rfl
  | step s _ => exact absurd s (h _)
theorem left_of_end {R : List Rule} {t : T} (h : IsEnd R t) : left R t = t := reach_end h (left_reach t)

/-! ### overlaps -/
def Join (R : List Rule) (a b : T) : Prop := ∃ c, Reach R a c ∧ Reach R b c
theorem Join.symm {R : List Rule} {a b : T} (h : Join R a b) : Join R b a := by
  obtain ⟨c, h1, h2⟩ := h; exact ⟨c, h2, h1⟩
theorem Join.ctx {R : List Rule} {a b : T} (x y : T) (h : Join R a b) : Join R (x ++ a ++ y) (x ++ b ++ y) := by
  obtain ⟨c, h1, h2⟩ := h; exact ⟨_, h1.ctx x y, h2.ctx x y⟩

/-- the overlap of a with b at a place below the length of a: the text, if they agree -/
def over (a b : T) (k : Nat) : Option T :=
  if (a.drop k).take (min (a.length - k) b.length) = b.take (min (a.length - k) b.length) then some (a ++ b.drop (min (a.length - k) b.length)) else none
/-- both results -/
def res1 (r : Rule) (t : T) : T := r.2 ++ t.drop r.1.length
def res2 (r : Rule) (t : T) (k : Nat) : T := t.take k ++ r.2 ++ t.drop (k + r.1.length)
/-- the overlaps of all pairs of rules, each with equal ends -/
def Meets (R : List Rule) : Prop := ∀ r ∈ R, ∀ q ∈ R, ∀ k, k < r.1.length → ∀ t, over r.1 q.1 k = some t → left R (res1 r t) = left R (res2 q t k)

theorem over_app {p b y a z : T} (h : p ++ b ++ y = a ++ z) (hk : p.length < a.length) :
    ∃ t y', over a b p.length = some t ∧ p ++ b ++ y = t ++ y' ∧ t.drop a.length ++ y' = z ∧ t.drop (p.length + b.length) ++ y' = y ∧ t.take p.length = p := by
  have hlen : (p ++ b ++ y).length = (a ++ z).length := by rw [h]
  simp at hlen
  rw [List.append_assoc] at h
  rcases List.append_eq_append_iff.mp h with ⟨c, e1, e2⟩ | ⟨c, e1, e2⟩
  · -- a = p ++ c, b ++ y = c ++ z
    subst e1
    rcases List.append_eq_append_iff.mp e2 with ⟨d, e3, e4⟩ | ⟨d, e3, e4⟩
    · -- c = b ++ d, y = d ++ z : b within a
      subst e3; subst e4
      refine ⟨p ++ (b ++ d), z, ?_, ?_, ?_, ?_, ?_⟩
      · unfold over
        have : min ((p ++ (b ++ d)).length - p.length) b.length = b.length := by simp
        rw [this]
        simp
      · simp [List.append_assoc]
      · simp
      · rw [← List.append_assoc p b d, ← List.length_append, List.drop_left]
      · simp
    · -- b = c ++ d, z = d ++ y
      subst e3; subst e4
      refine ⟨p ++ c ++ d, y, ?_, ?_, ?_, ?_, ?_⟩
      · unfold over
        have : min ((p ++ c).length - p.length) (c ++ d).length = c.length := by simp
        rw [this]
        simp
      · simp [List.append_assoc]
      · rw [List.drop_left]
      · simp [← Nat.add_assoc]
      · simp [List.append_assoc]
  · -- p = a ++ c
    subst e1
    simp at hk
    omega
theorem local_le {R : List Rule} (M : Meets R) {x1 y1 x2 y2 : T} {r q : Rule} (hr : r ∈ R) (hq : q ∈ R) (e : x1 ++ r.1 ++ y1 = x2 ++ q.1 ++ y2) (hl : x1.length ≤ x2.length) :
    Join R (x1 ++ r.2 ++ y1) (x2 ++ q.2 ++ y2) := by
  have e' : x1 ++ (r.1 ++ y1) = x2 ++ (q.1 ++ y2) := by simpa [List.append_assoc] using e
  obtain ⟨p, hp⟩ : ∃ p, x2 = x1 ++ p := by
    rcases List.append_eq_append_iff.mp e' with ⟨c, e1, _⟩ | ⟨c, e1, _⟩
    · exact ⟨c, e1⟩
    · have : c = [] := by
        have := congrArg List.length e1
        simp at this
        cases c with
        | nil => rfl
        | cons => simp at this; omega
      subst this
      exact ⟨[], by simpa using e1.symm⟩
  subst hp
  have e2 : r.1 ++ y1 = p ++ (q.1 ++ y2) := by
    rw [List.append_assoc] at e'
    exact List.append_cancel_left e'
  by_cases hk : p.length < r.1.length
  · obtain ⟨t, y', ho, _, hz, hy, htk⟩ := over_app (p := p) (b := q.1) (y := y2) (a := r.1) (z := y1) (by rw [e2, List.append_assoc]) hk
    have m := M r hr q hq p.length hk t ho
    have j : Join R (res1 r t) (res2 q t p.length) := ⟨_, left_reach _, m ▸ left_reach _⟩
    have j2 := j.ctx x1 y'
    have a1 : x1 ++ res1 r t ++ y' = x1 ++ r.2 ++ y1 := by
      unfold res1; rw [← hz]; simp [List.append_assoc]
    have a2 : x1 ++ res2 q t p.length ++ y' = x1 ++ p ++ q.2 ++ y2 := by
      unfold res2; rw [← hy, htk]; simp [List.append_assoc]
    rw [a1, a2] at j2
    exact j2
  · -- apart
    obtain ⟨m, hm⟩ : ∃ m, p = r.1 ++ m := by
      rcases List.append_eq_append_iff.mp e2 with ⟨c, e1, _⟩ | ⟨c, e1, _⟩
      · exact ⟨c, e1⟩
      · have : c = [] := by
          have := congrArg List.length e1
          simp at this
          cases c with
          | nil => rfl
          | cons => simp at this; omega
        subst this
        exact ⟨[], by simpa using e1.symm⟩
    subst hm
    have hy1 : y1 = m ++ (q.1 ++ y2) := by
      rw [List.append_assoc] at e2
      exact List.append_cancel_left e2
    subst hy1
    refine ⟨x1 ++ r.2 ++ m ++ q.2 ++ y2, ?_, ?_⟩
    · have := Step.mk (R := R) (x1 ++ r.2 ++ m) y2 q hq
      refine .step ?_ (.refl _)
      simpa [List.append_assoc] using this
    · have := Step.mk (R := R) x1 (m ++ q.2 ++ y2) r hr
      refine .step ?_ (.refl _)
      simpa [List.append_assoc] using this
theorem local_conf {R : List Rule} (M : Meets R) {s a b : T} (h : Step R s a) (k : Step R s b) : Join R a b := by
  generalize hs : s = s' at k
  cases h with
  | mk x1 y1 r hr =>
    cases k with
    | mk x2 y2 q hq =>
      by_cases hl : x1.length ≤ x2.length
      · exact local_le M hr hq hs hl
      · exact (local_le M hq hr hs.symm (by omega)).symm
/-- in a book whose overlaps meet each text has one end -/
theorem one_end {R : List Rule} (w : Wf R) (M : Meets R) : ∀ (n : Nat) (s : T), s.length ≤ n → ∀ a b, Reach R s a → Reach R s b → IsEnd R a → IsEnd R b → a = b
  | n, s, hn, a, b, ha, hb, ea, eb => by
    cases ha with
    | refl => exact (reach_end ea hb).symm
    | step s1 r1 =>
      cases hb with
      | refl => exact absurd s1 (eb _)
      | step s2 r2 =>
        rename_i u v
        cases n with
        | zero => have := s1.len w; omega
        | succ n =>
          have l1 := s1.len w
          have l2 := s2.len w
          obtain ⟨c, c1, c2⟩ := local_conf M s1 s2
          have z1 := one_end w M n u (by omega) a (left R c) r1 (c1.trans (left_reach c)) ea (left_end w c)
          have z2 := one_end w M n v (by omega) b (left R c) r2 (c2.trans (left_reach c)) eb (left_end w c)
          rw [z1, z2]
theorem left_eq {R : List Rule} (w : Wf R) (M : Meets R) {s a : T} (h : Reach R s a) : left R s = left R a :=
  one_end w M s.length s (Nat.le_refl _) _ _ (left_reach s) (h.trans (left_reach a)) (left_end w s) (left_end w a)
/-- pieces may be shrunk apart -/
theorem left_app {R : List Rule} (w : Wf R) (M : Meets R) (x y : T) : left R (x ++ y) = left R (left R x ++ left R y) := by
  refine left_eq w M ?_
  have h1 := (left_reach (R := R) x).ctx [] y
  have h2 := (left_reach (R := R) y).ctx (left R x) []
  simp only [List.nil_append, List.append_nil] at h1 h2
  exact h1.trans h2
theorem left_congr {R : List Rule} (w : Wf R) (M : Meets R) {x x' y y' : T} (h : left R x = left R x') (k : left R y = left R y') : left R (x ++ y) = left R (x' ++ y') := by
  rw [left_app w M x y, left_app w M x' y', h, k]

/-! ### exchanging signs -/
def Swap (R : List Rule) (x y : T) : Prop := left R (x ++ y) = left R (y ++ x)
theorem Swap.app {R : List Rule} (w : Wf R) (M : Meets R) {x y z : T} (h : Swap R x z) (k : Swap R y z) : Swap R (x ++ y) z := by
  unfold Swap at *
  have e1 : left R (x ++ y ++ z) = left R (x ++ z ++ y) := by
    rw [List.append_assoc, List.append_assoc]
    exact left_congr w M rfl k
  have e2 : left R (x ++ z ++ y) = left R (z ++ x ++ y) := left_congr w M h rfl
  rw [e1, e2, List.append_assoc]
theorem Swap.symm {R : List Rule} {x y : T} (h : Swap R x y) : Swap R y x := Eq.symm h
theorem swap_all {R : List Rule} (w : Wf R) (M : Meets R) {s : List Nat} (h : ∀ a ∈ s, ∀ b ∈ s, Swap R [a] [b]) :
    ∀ x y : T, (∀ c ∈ x, c ∈ s) → (∀ c ∈ y, c ∈ s) → Swap R x y := by
  have one : ∀ (a : Nat), a ∈ s → ∀ y : T, (∀ c ∈ y, c ∈ s) → Swap R y [a] := by
    intro a ha y
    induction y with
    | nil => intro _; unfold Swap; simp
    | cons b y ih =>
      intro hy
      exact Swap.app (x := [b]) (y := y) w M (h b (hy b List.mem_cons_self) a ha) (ih fun c hc => hy c (List.mem_cons_of_mem _ hc))
  intro x
  induction x with
  | nil => intro y _ _; unfold Swap; simp
  | cons a x ih =>
    intro y hx hy
    exact Swap.app (x := [a]) (y := x) w M (one a (hx a List.mem_cons_self) y hy).symm (ih y (fun c hc => hx c (List.mem_cons_of_mem _ hc)) hy)
end Bk
/-! the pile of the program: rules by their left sides; plain Lean -/
namespace Bk
def firstAt : List Rule → Nat → T → Option (Nat × T)
  | [], _, _ => none
  | r :: R, k, l => if r.1 = l then some (k, r.2) else firstAt R (k + 1) l
theorem firstAt_app (R Q : List Rule) (k : Nat) (l : T) : firstAt (R ++ Q) k l = match firstAt R k l with
    | some z => some z
    | none => firstAt Q (k + R.length) l := by
  induction R generalizing k with
  | nil => simp [firstAt]
  | cons r R ih =>
    simp only [List.cons_append, firstAt]
    by_cases h : r.1 = l
    · simp [h]
    · simp only [h, if_false]
      rw [ih (k + 1)]
      have : k + 1 + R.length = k + (r :: R).length := by simp; omega
      rw [this]
theorem firstAt_snoc (R : List Rule) (r : Rule) (l : T) : firstAt (R ++ [r]) 0 l = match firstAt R 0 l with
    | some z => some z
    | none => if r.1 = l then some (R.length, r.2) else none := by
  rw [firstAt_app]
  simp [firstAt]
theorem firstAt_snoc_some {R : List Rule} (r : Rule) {l : T} {z : Nat × T} (h : firstAt R 0 l = some z) : firstAt (R ++ [r]) 0 l = some z := by
  rw [firstAt_snoc, h]
theorem firstAt_snoc_none {R : List Rule} (r : Rule) {l : T} (h : firstAt R 0 l = none) : firstAt (R ++ [r]) 0 l = if r.1 = l then some (R.length, r.2) else none := by
  rw [firstAt_snoc, h]
theorem firstAt_none {R : List Rule} {k : Nat} {l : T} : firstAt R k l = none ↔ ∀ r ∈ R, r.1 ≠ l := by
  induction R generalizing k with
  | nil => simp [firstAt]
  | cons r R ih =>
    simp only [firstAt, List.mem_cons, forall_eq_or_imp]
    by_cases h : r.1 = l
    · simp [h]
    · simp [h, ih]
theorem firstAt_some {R : List Rule} {k j : Nat} {l s : T} (h : firstAt R k l = some (j, s)) : k ≤ j ∧ R[j - k]? = some (l, s) ∧ ∀ i, i < j - k → ∀ r, R[i]? = some r → r.1 ≠ l := by
  induction R generalizing k with
  | nil => simp [firstAt] at h
  | cons r R ih =>
    simp only [firstAt] at h
    by_cases hr : r.1 = l
    · rw [if_pos hr] at h
      simp only [Option.some.injEq, Prod.mk.injEq] at h
      obtain ⟨rfl, rfl⟩ := h
      refine ⟨Nat.le_refl _, by simp [← hr], fun i hi => by omega⟩
    · rw [if_neg hr] at h
      obtain ⟨h1, h2, h3⟩ := ih h
      have e : j - k = (j - (k + 1)) + 1 := by omega
      refine ⟨by omega, by rw [e]; simpa using h2, fun i hi q hq => ?_⟩
      cases i with
      | zero => simp at hq; rw [← hq]; exact hr
      | succ i => exact h3 i (by omega) q (by simpa using hq)
/-- the length of the longest left side -/
def lg (R : List Rule) : Nat := (R.map (·.1.length)).foldl max 0
theorem foldl_max_le {l : List Nat} {a : Nat} : a ≤ l.foldl max a ∧ ∀ x ∈ l, x ≤ l.foldl max a := by
  induction l generalizing a with
  | nil => simp
  | cons b l ih =>
    obtain ⟨h1, h2⟩ := ih (a := max a b)
    simp only [List.foldl_cons, List.mem_cons, forall_eq_or_imp]
    exact ⟨Nat.le_trans (Nat.le_max_left _ _) h1, Nat.le_trans (Nat.le_max_right _ _) h1, h2⟩
theorem foldl_max_mem {l : List Nat} {a : Nat} : l.foldl max a = a ∨ l.foldl max a ∈ l := by
  induction l generalizing a with
  | nil => simp
  | cons b l ih =>
    simp only [List.foldl_cons, List.mem_cons]
    rcases ih (a := max a b) with h | h
    · rw [h]
      rcases Nat.le_total a b with q | q
      · right; left; exact Nat.max_eq_right q
      · left; exact Nat.max_eq_left q
    · exact .inr (.inr h)
theorem lg_le {R : List Rule} {r : Rule} (h : r ∈ R) : r.1.length ≤ lg R := foldl_max_le.2 _ (List.mem_map_of_mem h)
theorem lg_eq {R : List Rule} {m : Nat} (h1 : m ∈ 0 :: R.map (·.1.length)) (h2 : ∀ y ∈ 0 :: R.map (·.1.length), y ≤ m) : m = lg R := by
  have a : lg R ≤ m := by
    rcases foldl_max_mem (l := R.map (·.1.length)) (a := 0) with h | h
    · unfold lg; rw [h]; exact Nat.zero_le _
    · exact h2 _ (List.mem_cons_of_mem _ h)
  have b : m ≤ lg R := by
    rcases List.mem_cons.mp h1 with h | h
    · rw [h]; exact Nat.zero_le _
    · exact foldl_max_le.2 _ h
  omega
/-- the best rule of left sides up to i signs: its number, its size, its right side -/
def bestUp (R : List Rule) (t : T) : Nat → Option (Nat × Nat × T)
  | 0 => none
  | i + 1 => match firstAt R 0 (t.drop (t.length - (i + 1))) with
    | none => bestUp R t i
    | some (k, r) => match bestUp R t i with
      | none => some (k, i + 1, r)
      | some b => if k < b.1 then some (k, i + 1, r) else some b
/-- rules with at most i signs that stand at the end -/
def Fit (R : List Rule) (t : T) (i k : Nat) (r : Rule) : Prop := R[k]? = some r ∧ 1 ≤ r.1.length ∧ r.1.length ≤ i ∧ ∃ x, t = x ++ r.1
theorem suffix_drop {t x l : T} (h : t = x ++ l) : t.drop (t.length - l.length) = l := by
  subst h; simp
theorem bestUp_spec (R : List Rule) (t : T) : ∀ i, i ≤ t.length → match bestUp R t i with
    | none => ∀ k r, ¬ Fit R t i k r
    | some (k, s, r) => (∃ l, Fit R t i k (l, r) ∧ l.length = s) ∧ ∀ k' r', Fit R t i k' r' → k ≤ k'
  | 0, _ => by
    simp only [bestUp]
    rintro k r ⟨_, h1, h2, _⟩
    omega
  | i + 1, hi => by
    have ih := bestUp_spec R t i (by omega)
    have wide : ∀ (k : Nat) (r : Rule), Fit R t (i + 1) k r → Fit R t i k r ∨ (r.1.length = i + 1 ∧ R[k]? = some r ∧ r.1 = t.drop (t.length - (i + 1))) := by
      rintro k r ⟨h1, h2, h3, x, hx⟩
      by_cases e : r.1.length = i + 1
      · exact .inr ⟨e, h1, by rw [← e]; exact (suffix_drop hx).symm⟩
      · exact .inl ⟨h1, h2, by omega, x, hx⟩
    have mono : ∀ (k : Nat) (r : Rule), Fit R t i k r → Fit R t (i + 1) k r := fun k r ⟨h1, h2, h3, h4⟩ => ⟨h1, h2, by omega, h4⟩
    simp only [bestUp]
    cases hf : firstAt R 0 (t.drop (t.length - (i + 1))) with
    | none =>
      have hn := firstAt_none.mp hf
      have no : ∀ (k : Nat) (r : Rule), R[k]? = some r → r.1 ≠ t.drop (t.length - (i + 1)) := fun k r h => hn r (List.mem_of_getElem? h)
      cases hb : bestUp R t i with
      | none =>
        rw [hb] at ih
        intro k r h
        rcases wide k r h with q | ⟨_, q1, q2⟩
        · exact ih k r q
        · exact no k r q1 q2
      | some b =>
        obtain ⟨k, s, r⟩ := b
        rw [hb] at ih
        obtain ⟨⟨l, h1, h2⟩, h3⟩ := ih
        refine ⟨⟨l, mono _ _ h1, h2⟩, fun k' r' h => ?_⟩
        rcases wide k' r' h with q | ⟨_, q1, q2⟩
        · exact h3 k' r' q
        · exact absurd q2 (no k' r' q1)
    | some z =>
      obtain ⟨k, r⟩ := z
      obtain ⟨_, f2, f3⟩ := firstAt_some hf
      rw [Nat.sub_zero] at f2 f3
      have hl : (t.drop (t.length - (i + 1))).length = i + 1 := by rw [List.length_drop]; omega
      have new : Fit R t (i + 1) k (t.drop (t.length - (i + 1)), r) := ⟨f2, by simp only; omega, by simp only; omega, t.take (t.length - (i + 1)), by simp⟩
      have least : ∀ (k' : Nat) (r' : Rule), R[k']? = some r' → r'.1 = t.drop (t.length - (i + 1)) → k ≤ k' := fun k' r' h e => by
        rcases Nat.lt_or_ge k' k with q | q
        · exact absurd e (f3 k' q r' h)
        · exact q
      cases hb : bestUp R t i with
      | none =>
        rw [hb] at ih
        refine ⟨⟨_, new, hl⟩, fun k' r' h => ?_⟩
        rcases wide k' r' h with q | ⟨_, q1, q2⟩
        · exact absurd q (ih k' r')
        · exact least k' r' q1 q2
      | some b =>
        obtain ⟨kb, sb, rb⟩ := b
        rw [hb] at ih
        obtain ⟨⟨l, h1, h2⟩, h3⟩ := ih
        simp only
        by_cases hk : k < kb
        · rw [if_pos hk]
          refine ⟨⟨_, new, hl⟩, fun k' r' h => ?_⟩
          rcases wide k' r' h with q | ⟨_, q1, q2⟩
          · have := h3 k' r' q; omega
          · exact least k' r' q1 q2
        · rw [if_neg hk]
          refine ⟨⟨l, mono _ _ h1, h2⟩, fun k' r' h => ?_⟩
          rcases wide k' r' h with q | ⟨_, q1, q2⟩
          · exact h3 k' r' q
          · have := least k' r' q1 q2; omega
theorem find_least {R : List Rule} {p : Rule → Bool} {k : Nat} {r : Rule} (h1 : R[k]? = some r) (h2 : p r = true) (h3 : ∀ k' r', R[k']? = some r' → p r' = true → k ≤ k') : R.find? p = some r := by
  induction R generalizing k with
  | nil => simp at h1
  | cons a R ih =>
    cases k with
    | zero =>
      simp at h1
      subst h1
      simp [h2]
    | succ k =>
      have ha : p a = false := by
        cases e : p a with
        | false => rfl
        | true => have := h3 0 a (by simp) e; omega
      rw [List.find?_cons, ha]
      exact ih (k := k) (by simpa using h1) (fun k' r' q1 q2 => by have := h3 (k' + 1) r' (by simpa using q1) q2; omega)
/-- what the program finds is what the first fitting rule gives -/
theorem used_best {R : List Rule} (w : Wf R) (t : T) : used R t = (bestUp R t (min (lg R) t.length)).map fun b => t.take (t.length - b.2.1) ++ b.2.2 := by
  have sp := bestUp_spec R t (min (lg R) t.length) (by omega)
  have full : ∀ (k : Nat) (r : Rule), R[k]? = some r → fits t r = true → Fit R t (min (lg R) t.length) k r := by
    intro k r h f
    obtain ⟨x, hx⟩ := fits_iff.mp f
    have hm := List.mem_of_getElem? h
    have h1 := (w r hm).1
    have h2 := lg_le hm
    have h3 : r.1.length ≤ t.length := by rw [hx]; simp
    exact ⟨h, by omega, by omega, x, hx⟩
  cases hb : bestUp R t (min (lg R) t.length) with
  | none =>
    rw [hb] at sp
    simp only [Option.map_none]
    unfold used
    rw [Option.map_eq_none_iff, List.find?_eq_none]
    intro r hr f
    obtain ⟨k, hk, rfl⟩ := List.mem_iff_getElem.mp hr
    exact sp k R[k] (full k R[k] (by simp [hk]) f)
  | some b =>
    obtain ⟨k, s, r⟩ := b
    rw [hb] at sp
    obtain ⟨⟨l, ⟨h1, h2, h3, x, hx⟩, hs⟩, h4⟩ := sp
    have hf : R.find? (fits t) = some (l, r) := find_least h1 (fits_iff.mpr ⟨x, hx⟩) (fun k' r' q1 q2 => h4 k' r' (full k' r' q1 q2))
    unfold used
    rw [hf]
    simp only [Option.map_some, useR, hs]
end Bk
-- OWN
set_option Elab.async false
set_option linter.all false
set_option maxRecDepth 100000
set_option maxHeartbeats 4000000
namespace Sh
open PySem PySem.Spec PyProof.Rows L2
open SX (S S_inj S_len S_cat)
open Bk (Rule firstAt lg bestUp used left drain pushS Wf)
local macro_rules | `(tactic| walk_at "nx") => `(tactic| repeat (with_reducible first | refine Sh.gn_mk ?_ | refine Sh.nx_mk ?_ | refine Sh.st_nx ?_ | refine Sh.rt_mk ?_ | refine Sh.ct_mk ?_ | refine Sh.bk_mk ?_))
local macro_rules | `(tactic| walk_at "sq") => `(tactic| first | exact SqL.of upd_same | exact SqT.of upd_same | exact SqL.of (by assumption) | exact SqT.of (by assumption) | assumption | exact Or.inl (SqL.of (by assumption)) | exact Or.inr (SqT.of (by assumption)) | exact Or.inl (by assumption) | exact Or.inr (by assumption))
local macro_rules | `(tactic| walk_at "hp") => `(tactic| first | exact upd_same | assumption)
local macro_rules | `(tactic| walk_at "sz") => `(tactic| first | exact Nat.le_of_ble_eq_true rfl | omega)
local macro_rules | `(tactic| walk_at "sd") => `(tactic| first | omega | exact rfl | assumption | (show (0 : Int) < _; omega) | exact And.intro (by omega) (by omega) | exact Or.inl (And.intro (by omega) (by omega)) | exact Or.inr (And.intro (by omega) (by omega)) | omega | exact Sh.sz_S (by omega) | decide)
local macro_rules | `(tactic| walk_at "rd1") => `(tactic| first
  | (with_reducible first | refine Sh.gn_mk ?_ | refine Sh.nx_mk ?_ | refine Sh.st_nx ?_ | refine Sh.rt_mk ?_ | refine Sh.ct_mk ?_ | refine Sh.bk_mk ?_)
  | refine Exists.intro (α := V) _ (And.intro rfl ?_)
  | refine Exists.intro (α := Bool) _ (And.intro rfl ?_)
  | refine Exists.intro (α := Int) _ (And.intro rfl ?_)
  | refine Exists.intro (α := PySem.Str) _ (And.intro rfl ?_)
  | refine Exists.intro (α := Int) _ (Exists.intro (α := Int) _ (And.intro rfl (And.intro rfl ?_)))
  | refine Exists.intro (α := PySem.Str) _ (Exists.intro (α := PySem.Str) _ (And.intro rfl (And.intro rfl ?_)))
  | refine Exists.intro (α := Int) _ (Exists.intro (α := Int) _ (And.intro rfl ?_))
  | refine Or.inl (Exists.intro (α := Int) _ (And.intro rfl ?_))
  | refine Exists.intro _ (Exists.intro _ (Exists.intro _ (Exists.intro _ (And.intro rfl (And.intro rfl (And.intro (by walk_at "sq") (And.intro rfl ?_)))))))
  | refine Exists.intro _ (Exists.intro _ (Exists.intro _ (Exists.intro _ (And.intro rfl (And.intro rfl (And.intro (by walk_at "hp") (And.intro rfl ?_)))))))
  | refine And.intro (by walk_at "sd") ?_
  )
local macro_rules | `(tactic| walk_at "rd") => `(tactic| repeat walk_at "rd1")
local macro_rules | `(tactic| walk_at "lk") => `(tactic| first | exact rfl | (rw [lookup_putF, if_pos rfl]) | (rw [lookup_putF, if_neg (by decide +kernel)]; walk_at "lk"))

section
variable {P : Program} {w : World} {K : PySem.W.Frag} {mg : Str → Option Value} {base : Heap}
/-! ### kinds of values -/
def tys : List String := ["NoneType", "bool", "int", "str", "list", "tuple", "dict"]
def isaB (n m : String) : Bool := n == m || (n == "bool" && m == "int")
theorem kit_all : ∀ n ∈ tys, ∀ m ∈ ["tuple", "list", "str", "int", "bool"], kitB n m = some (isaB n m) := by decide +kernel
theorem ty_tup {H : Hp} {a : Addr} {xs : List V} (h : SqT K H a xs) : TyX K H (.ref a) (.type "tuple") := by
  rcases h with (h | ⟨o, h⟩) | ⟨o, its, n, hk, hc, _⟩
  · exact .base (.tup h)
  · exact .fTuple h
  · exact .kTuple hk hc
theorem ty_lst {H : Hp} {a : Addr} {xs : List V} (h : SqL K H a xs) : TyX K H (.ref a) (.type "list") := by
  rcases h with (h | ⟨o, h⟩) | ⟨o, its, n, hk, hc, _⟩
  · exact .base (.lst h)
  · exact .base (.frz h)
  · exact .kList hk hc
def spListed (K : PySem.W.Frag) : Sp := fun vs H Q _ => ∃ (v : V) (n : String), vs = [v] ∧ TyX K H v (.type n) ∧ n ∈ tys ∧ Q (.bl (n == "tuple" || n == "list")) H
theorem isaB_tup {n : String} (h : n ∈ tys) : isaB n "tuple" = (n == "tuple") := by
  simp only [tys, List.mem_cons, List.not_mem_nil, or_false] at h
  rcases h with rfl | rfl | rfl | rfl | rfl | rfl | rfl <;> decide
theorem isaB_lst {n : String} (h : n ∈ tys) : isaB n "list" = (n == "list") := by
  simp only [tys, List.mem_cons, List.not_mem_nil, or_false] at h
  rcases h with rfl | rfl | rfl | rfl | rfl | rfl | rfl <;> decide
theorem isaB_str {n : String} (h : n ∈ tys) : isaB n "str" = (n == "str") := by
  simp only [tys, List.mem_cons, List.not_mem_nil, or_false] at h
  rcases h with rfl | rfl | rfl | rfl | rfl | rfl | rfl <;> decide
theorem c_is_listed (T : Txt K mg) : Cal P w K mg base CX0 1 "is_listed" (spListed K) := by
  refine Cal.mk0 T.d_is_listed sc_is_listed (fun vs H Q E h => ?_) (fun f cdv A outer s H vs Q E hr h => ?_)
  · obtain ⟨v, n, rfl, _⟩ := h
    rfl
  · obtain ⟨v, n, rfl, ht, hn, k⟩ := h
    refine ⟨_, (pss_one (ps_ret (pe_or (pe_callB call_isi (by rfl) T.b_isinstance (by decide +kernel) (pa_cons (pv 0) (pa_cons (pe_bltn (v := .ty "tuple") (by rfl) T.b_tuple (by decide +kernel) rfl) pa_nil))) (pe_one (pe_callB call_isi (by rfl) T.b_isinstance (by decide +kernel) (pa_cons (pv 0) (pa_cons (pe_bltn (v := .ty "list") (by rfl) T.b_list (by decide +kernel) rfl) pa_nil))))))), ?_⟩
    walk_at "rd"
    refine ⟨_, _, _, _, _, rfl, .ty _, ht, kit_ty (kit_all _ hn _ (by decide)), _, rfl, ?_⟩
    rw [isaB_tup hn]
    by_cases c : (n == "tuple") = true
    · rw [c] at k ⊢
      exact iteT k
    · rw [Bool.not_eq_true] at c
      rw [c] at k ⊢
      refine iteF ?_
      walk_at "rd"
      refine ⟨_, _, _, _, _, rfl, .ty _, ht, kit_ty (kit_all _ hn _ (by decide)), ?_⟩
      rw [isaB_lst hn]
      exact k
/-! ### signs -/
def letters : List Nat := (Str.ofString "abcdefghijklmnopqrstuvwxyz").cps.toList
def okAt (sg : List Nat) (k : Nat) : Bool := decide (sg.getD k 0 ∈ letters) && (k == 0 || decide ([sg.getD (k - 1) 0] < [sg.getD k 0]))
def isSigns (sg : List Nat) : Bool := decide (1 ≤ sg.length) && decide (sg.length ≤ 8) && (List.range sg.length).all (okAt sg)
theorem menu_signs : ∀ sg ∈ sgMenu, isSigns sg = true := by decide +kernel
theorem menu_len : ∀ sg ∈ sgMenu, 0 < sg.length ∧ sg.length ≤ 3 := by decide +kernel
/-- a value that is no text -/
def NotStr (K : PySem.W.Frag) (H : Hp) (v : V) : Prop := ∃ n, TyX K H v (.type n) ∧ n ∈ tys ∧ n ≠ "str"
/-- is_signs of a text, or of what is none -/
def spIsSigns (K : PySem.W.Frag) : Sp := fun vs H Q _ => (∃ sg : List Nat, vs = [.str (S sg)] ∧ sg.length ≤ 1000000 ∧ Q (.bl (isSigns sg)) H) ∨ ∃ v : V, vs = [v] ∧ NotStr K H v ∧ Q (.bl false) H
theorem getD_some {l : List Nat} {k : Nat} (h : k < l.length) : l[k]? = some (l.getD k 0) := by
  rw [List.getD_eq_getElem?_getD, List.getElem?_eq_getElem h]; rfl
theorem c_is_signs (T : Txt K mg) : Cal P w K mg base CX0 1 "is_signs" (spIsSigns K) := by
  refine Cal.mk0 T.d_is_signs sc_is_signs (fun vs H Q E h => ?_) (fun f cdv A outer s H vs Q E hr h => ?_)
  · rcases h with ⟨sg, rfl, _⟩ | ⟨v, rfl, _⟩ <;> rfl
  · rcases h with ⟨sg, rfl, hl, k⟩ | ⟨v, rfl, ⟨n, ht, hn, hs⟩, k⟩
    rotate_left
    · refine ⟨_, (pss_cons (ps_if (PW.pt (pw_or (pt_not (pt_val (pe_callB call_isi (by rfl) T.b_isinstance (by decide +kernel) (pa_cons (pv 0) (pa_cons (pe_bltn (v := .ty "str") (by rfl) T.b_str (by decide +kernel) rfl) pa_nil))))) (pw_or1 (pt_not (pt_chain op_le op_le pe_int (pe_callB call_len_str (by rfl) T.b_len (by decide +kernel) (pa_cons (pv 0) pa_nil)) pe_int)))))
    (pss_one (ps_ret pe_bl))
    pss_nil)
  (pss_cons (ps_for PassesOwn.never rfl (pi_range1 (by rfl) T.b_range (pa_cons (pe_callB call_len_str (by rfl) T.b_len (by decide +kernel) (pa_cons (pv 0) pa_nil)) pa_nil)) (pg_name (i := 1) sc_is_signs.nd rfl (Or.inl rfl))
    (pss_one (ps_if (PW.pt (pw_or (pt_cmpR op_notIn_sign (pe_ix ix_str (pv 0) (pv 1) (fun _ _ => rfl)) (pe_gK rfl T.g_LETTERS) (by rfl)) (pw_or1 (PW.pt (pw_and (pt_cmpR op_gt (pv 1) pe_int (nomark _)) (pw_and1 (pt_cmpR op_ge_str (pe_ix ix_str (pv 0) (pe_op op_sub (pv 1) pe_int) (fun _ _ => rfl)) (pe_ix ix_str (pv 0) (pv 1) (fun _ _ => rfl)) (nomark _))))))))
      (pss_one (ps_ret pe_bl))
      pss_nil)))
  (pss_one (ps_ret pe_bl)))), ?_⟩
      walk_at "rd"
      refine ⟨_, _, _, _, _, rfl, .ty _, ht, kit_ty (kit_all _ hn _ (by decide)), _, rfl, ?_⟩
      rw [isaB_str hn, show (n == "str") = false from by simp [hs]]
      refine iteT ?_
      walk_at "rd"
      exact k
    refine ⟨_, (pss_cons (ps_if (PW.pt (pw_or (pt_not (pt_val (pe_callB call_isi (by rfl) T.b_isinstance (by decide +kernel) (pa_cons (pv 0) (pa_cons (pe_bltn (v := .ty "str") (by rfl) T.b_str (by decide +kernel) rfl) pa_nil))))) (pw_or1 (pt_not (pt_chain op_le op_le pe_int (pe_callB call_len_str (by rfl) T.b_len (by decide +kernel) (pa_cons (pv 0) pa_nil)) pe_int)))))
    (pss_one (ps_ret pe_bl))
    pss_nil)
  (pss_cons (ps_for PassesOwn.never rfl (pi_range1 (by rfl) T.b_range (pa_cons (pe_callB call_len_str (by rfl) T.b_len (by decide +kernel) (pa_cons (pv 0) pa_nil)) pa_nil)) (pg_name (i := 1) sc_is_signs.nd rfl (Or.inl rfl))
    (pss_one (ps_if (PW.pt (pw_or (pt_cmpR op_notIn_sign (pe_ix ix_str (pv 0) (pv 1) (fun _ _ => rfl)) (pe_gK rfl T.g_LETTERS) (by rfl)) (pw_or1 (PW.pt (pw_and (pt_cmpR op_gt (pv 1) pe_int (nomark _)) (pw_and1 (pt_cmpR op_ge_str (pe_ix ix_str (pv 0) (pe_op op_sub (pv 1) pe_int) (fun _ _ => rfl)) (pe_ix ix_str (pv 0) (pv 1) (fun _ _ => rfl)) (nomark _))))))))
      (pss_one (ps_ret pe_bl))
      pss_nil)))
  (pss_one (ps_ret pe_bl)))), ?_⟩
    walk_at "rd"
    refine ⟨_, _, _, _, _, rfl, .ty _, .base (.str _), kit_ty (r := true) (by decide +kernel), _, rfl, ?_⟩
    refine iteF ?_
    have hSl := S_len sg
    have bad : ∀ b : Bool, isSigns sg = b → Q (.bl b) H := fun b e => e ▸ k
    walk_at "rd"
    refine ite2 (fun c0 => ?_) (fun c0 => ?_)
    · have c0' : (1 : Int) ≤ (S sg).length := of_decide_eq_true c0
      walk_at "rd"
      refine ite2 (fun c1 => ?_) (fun c1 => ?_)
      · walk_at "rd"
        refine bad false ?_
        have c1' : ¬ ((S sg).length : Int) ≤ 8 := by simpa using c1
        have c2 : ¬ sg.length ≤ 8 := by omega
        simp only [isSigns, c2, decide_false, Bool.and_false, Bool.false_and]
      · have c1' : ((S sg).length : Int) ≤ 8 := by simpa using c1
        walk_at "rd"
        refine for_range (lo := 0) (n := (((S sg).length : Int)).toNat) (fun i σ H2 => (∃ v, σ = [some (.str (S sg)), v]) ∧ H2 = H ∧ ∀ j, j < i → okAt sg j = true)
          ⟨⟨_, rfl⟩, rfl, fun j hj => by omega⟩ ?_ ?_
        · rintro i σ H2 hi ⟨⟨v, rfl⟩, rfl, ok⟩
          have hi2 : i < sg.length := by omega
          have e1 : atI sg ((0 : Int) + i) = some (sg.getD i 0) := atI_at (by omega) (by rw [show ((0 : Int) + i).toNat = i by omega]; exact getD_some hi2)
          walk_at "rd"
          refine ⟨_, _, _, rfl, rfl, sz_S hl, e1, ?_⟩
          refine ⟨_, _, rfl, rfl, ?_⟩
          have notOk : okAt sg i = false → isSigns sg = false := fun e => by
            cases hb : isSigns sg with
            | false => rfl
            | true =>
              simp only [isSigns, Bool.and_eq_true, List.all_eq_true] at hb
              rw [hb.2 i (List.mem_range.mpr hi2)] at e
              cases e
          have more : okAt sg i = true → ∀ j, j < i + 1 → okAt sg j = true := fun e j hj => by
            rcases Nat.lt_succ_iff_lt_or_eq.mp hj with q | q
            · exact ok j q
            · rw [q]; exact e
          walk_at "rd"
          refine ite2 (fun d0 => ?_) (fun d0 => ?_)
          · refine iteT ?_
            walk_at "rd"
            refine bad false (notOk ?_)
            have d1 : ¬ sg.getD i 0 ∈ letters := by
              intro hm
              have : decide (sg.getD i 0 ∈ letters) = true := decide_eq_true hm
              rw [show (PySem.Str.cps (Str.ofString "abcdefghijklmnopqrstuvwxyz")).toList = letters from rfl, this] at d0
              cases d0
            simp only [okAt, d1, decide_false, Bool.false_and]
          · have d1 : sg.getD i 0 ∈ letters := by
              by_cases hm : sg.getD i 0 ∈ letters
              · exact hm
              · exact absurd (by rw [show (PySem.Str.cps (Str.ofString "abcdefghijklmnopqrstuvwxyz")).toList = letters from rfl, decide_eq_false hm]; rfl) d0
            walk_at "rd"
            refine ite2 (fun d2 => ?_) (fun d2 => ?_)
            · have d3 : (0 : Int) < 0 + i := of_decide_eq_true d2
              have e2 : atI sg ((0 : Int) + i - 1) = some (sg.getD (i - 1) 0) := atI_at (by omega) (by rw [show ((0 : Int) + i - 1).toNat = i - 1 by omega]; exact getD_some (by omega))
              walk_at "rd"
              refine ⟨_, _, _, rfl, rfl, sz_S hl, e2, ?_⟩
              walk_at "rd"
              refine ⟨_, _, _, rfl, rfl, sz_S hl, e1, ?_⟩
              refine ⟨_, _, rfl, rfl, ?_⟩
              walk_at "rd"
              refine ite2 (fun d4 => ?_) (fun d4 => ?_)
              · walk_at "rd"
                refine bad false (notOk ?_)
                have d5 : decide ([sg.getD (i - 1) 0] < [sg.getD i 0]) = false := by
                  cases hd : decide ([sg.getD (i - 1) 0] < [sg.getD i 0]) with
                  | false => rfl
                  | true =>
                    have d4' : (!decide ([sg.getD (i - 1) 0] < [sg.getD i 0])) = true := d4
                    rw [hd] at d4'; cases d4'
                have d6 : (i == 0) = false := by rw [beq_eq_false_iff_ne]; omega
                simp only [okAt, d5, d6, Bool.or_false, Bool.and_false]
              · walk_at "rd"
                refine ⟨⟨_, rfl⟩, rfl, more ?_⟩
                have d5 : decide ([sg.getD (i - 1) 0] < [sg.getD i 0]) = true := by
                  cases hd : decide ([sg.getD (i - 1) 0] < [sg.getD i 0]) with
                  | true => rfl
                  | false =>
                    refine absurd ?_ d4
                    show (!decide ([sg.getD (i - 1) 0] < [sg.getD i 0])) = true
                    rw [hd]; rfl
                simp only [okAt, d1, d5, decide_true, Bool.or_true, Bool.and_true]
            · have d3 : i = 0 := by
                have : ¬ (0 : Int) < 0 + i := by simpa using d2
                omega
              refine iteF ?_
              walk_at "rd"
              refine ⟨⟨_, rfl⟩, rfl, more ?_⟩
              subst d3
              simp only [okAt, d1, decide_true, Bool.true_and, beq_self_eq_true, Bool.true_or]
        · rintro σ H2 ⟨⟨v, rfl⟩, rfl, ok⟩
          walk_at "rd"
          refine bad true ?_
          have c2 : 1 ≤ sg.length := by omega
          have c3 : sg.length ≤ 8 := by omega
          simp only [isSigns, c2, c3, decide_true, Bool.true_and, List.all_eq_true]
          intro j hj
          exact ok j (by have := List.mem_range.mp hj; omega)
    · have c0' : ¬ (1 : Int) ≤ (S sg).length := by simpa using c0
      walk_at "rd"
      refine iteT ?_
      walk_at "rd"
      refine bad false ?_
      have c2 : ¬ 1 ≤ sg.length := by omega
      simp only [isSigns, c2, decide_false, Bool.false_and]
/-- check_signs: what are signs passes -/
def spCheckSigns : Sp := fun vs H Q _ => ∃ sg : List Nat, vs = [.str (S sg)] ∧ isSigns sg = true ∧ Q .non H
theorem signs_len {sg : List Nat} (h : isSigns sg = true) : 1 ≤ sg.length ∧ sg.length ≤ 8 := by
  simp only [isSigns, Bool.and_eq_true, decide_eq_true_eq] at h
  exact h.1
theorem c_check_signs (T : Txt K mg) : Cal P w K mg base CX0 2 "check_signs" spCheckSigns := by
  have c_is_signs := c_is_signs (P := P) (w := w) (base := base) T
  refine Cal.mk0 T.d_check_signs sc_check_signs (fun vs H Q E h => ?_) (fun f cdv A outer s H vs Q E hr h => ?_)
  · obtain ⟨sg, rfl, _⟩ := h
    rfl
  · obtain ⟨sg, rfl, hs, k⟩ := h
    have hl := signs_len hs
    refine ⟨_, (pss_one (ps_if (pt_not (pt_truth (pe_c c_is_signs hr (by decide) rfl (pa_cons (pv 0) pa_nil)) (by intro _; rfl)))
    (pss_one ps_never)
    pss_nil)), ?_⟩
    walk_at "rd"
    refine .inl ⟨sg, rfl, by omega, ?_⟩
    rw [hs]
    walk_at "rd"
    refine iteF ?_
    walk_at "rd"
    exact k
/-- is_text of a text -/
def isText (sg t : List Nat) (lo hi : Int) : Bool := decide (lo ≤ t.length) && decide ((t.length : Int) ≤ hi) && t.all fun c => decide (c ∈ sg)
def spIsText (K : PySem.W.Frag) : Sp := fun vs H Q _ => (∃ (sg t : List Nat) (lo hi : Int), vs = [.str (S sg), .str (S t), .int lo, .int hi] ∧ t.length ≤ 1000000 ∧ Q (.bl (isText sg t lo hi)) H) ∨ ∃ (u v a b : V), vs = [u, v, a, b] ∧ NotStr K H v ∧ Q (.bl false) H
theorem c_is_text (T : Txt K mg) : Cal P w K mg base CX0 1 "is_text" (spIsText K) := by
  refine Cal.mk0 T.d_is_text sc_is_text (fun vs H Q E h => ?_) (fun f cdv A outer s H vs Q E hr h => ?_)
  · rcases h with ⟨sg, t, lo, hi, rfl, _⟩ | ⟨u, v, a, b, rfl, _⟩ <;> rfl
  · rcases h with ⟨sg, t, lo, hi, rfl, hl, k⟩ | ⟨u, v, a, b, rfl, ⟨n, ht, hn, hs⟩, k⟩
    rotate_left
    · refine ⟨_, (pss_cons (ps_if (PW.pt (pw_or (pt_not (pt_val (pe_callB call_isi (by rfl) T.b_isinstance (by decide +kernel) (pa_cons (pv 1) (pa_cons (pe_bltn (v := .ty "str") (by rfl) T.b_str (by decide +kernel) rfl) pa_nil))))) (pw_or1 (pt_not (pt_chain op_le op_le (pv 2) (pe_callB call_len_str (by rfl) T.b_len (by decide +kernel) (pa_cons (pv 1) pa_nil)) (pv 3))))))
    (pss_one (ps_ret pe_bl))
    pss_nil)
  (pss_cons (ps_for PassesOwn.never rfl (pi_str (pv 1)) (pg_name (i := 4) sc_is_text.nd rfl (Or.inl rfl))
    (pss_one (ps_if (pt_cmpR op_notIn_sign (pv 4) (pv 0) (by rfl))
      (pss_one (ps_ret pe_bl))
      pss_nil)))
  (pss_one (ps_ret pe_bl)))), ?_⟩
      walk_at "rd"
      refine ⟨_, _, _, _, _, rfl, .ty _, ht, kit_ty (kit_all _ hn _ (by decide)), _, rfl, ?_⟩
      rw [isaB_str hn, show (n == "str") = false from by simp [hs]]
      refine iteT ?_
      walk_at "rd"
      exact k
    refine ⟨_, (pss_cons (ps_if (PW.pt (pw_or (pt_not (pt_val (pe_callB call_isi (by rfl) T.b_isinstance (by decide +kernel) (pa_cons (pv 1) (pa_cons (pe_bltn (v := .ty "str") (by rfl) T.b_str (by decide +kernel) rfl) pa_nil))))) (pw_or1 (pt_not (pt_chain op_le op_le (pv 2) (pe_callB call_len_str (by rfl) T.b_len (by decide +kernel) (pa_cons (pv 1) pa_nil)) (pv 3))))))
    (pss_one (ps_ret pe_bl))
    pss_nil)
  (pss_cons (ps_for PassesOwn.never rfl (pi_str (pv 1)) (pg_name (i := 4) sc_is_text.nd rfl (Or.inl rfl))
    (pss_one (ps_if (pt_cmpR op_notIn_sign (pv 4) (pv 0) (by rfl))
      (pss_one (ps_ret pe_bl))
      pss_nil)))
  (pss_one (ps_ret pe_bl)))), ?_⟩
    have hSl := S_len t
    walk_at "rd"
    refine ⟨_, _, _, _, _, rfl, .ty _, .base (.str _), kit_ty (r := true) (by decide +kernel), _, rfl, ?_⟩
    refine iteF ?_
    have bad : ∀ b : Bool, isText sg t lo hi = b → Q (.bl b) H := fun b e => e ▸ k
    walk_at "rd"
    refine ite2 (fun c0 => ?_) (fun c0 => ?_)
    · have c0' : lo ≤ (S t).length := of_decide_eq_true c0
      walk_at "rd"
      refine ite2 (fun c1 => ?_) (fun c1 => ?_)
      · walk_at "rd"
        refine bad false ?_
        have c1' : ¬ ((S t).length : Int) ≤ hi := by simpa using c1
        have c2 : ¬ (t.length : Int) ≤ hi := by omega
        simp only [isText, c2, decide_false, Bool.and_false, Bool.false_and]
      · have c1' : ((S t).length : Int) ≤ hi := by simpa using c1
        walk_at "rd"
        refine for_str (l := t) (fun pre σ H2 => (∃ v, σ = [some (.str (S sg)), some (.str (S t)), some (.int lo), some (.int hi), v]) ∧ H2 = H ∧ ∀ c ∈ pre, c ∈ sg) ⟨⟨_, rfl⟩, rfl, by simp⟩ ?_ ?_
        · rintro pre c post σ H2 e ⟨⟨v, rfl⟩, rfl, ok⟩
          walk_at "rd"
          refine ⟨_, _, rfl, rfl, _, rfl, ?_⟩
          refine ite2 (fun d0 => ?_) (fun d0 => ?_)
          · walk_at "rd"
            refine bad false ?_
            have d1 : c ∉ sg := by
              intro hm
              have d2 : (!decide (c ∈ sg)) = true := d0
              rw [decide_eq_true hm] at d2
              cases d2
            have d2 : (t.all fun c => decide (c ∈ sg)) = false := by
              rw [List.all_eq_false]
              exact ⟨c, by rw [e]; simp, by rw [decide_eq_false d1]; exact Bool.false_ne_true⟩
            simp only [isText, d2, Bool.and_false]
          · walk_at "rd"
            refine ⟨⟨_, rfl⟩, rfl, fun x hx => ?_⟩
            rcases List.mem_append.mp hx with q | q
            · exact ok x q
            · rw [List.mem_singleton] at q
              rw [q]
              by_cases hm : c ∈ sg
              · exact hm
              · refine absurd ?_ d0
                show (!decide (c ∈ sg)) = true
                rw [decide_eq_false hm]; rfl
        · rintro σ H2 ⟨⟨v, rfl⟩, rfl, ok⟩
          walk_at "rd"
          refine bad true ?_
          have c2 : lo ≤ (t.length : Int) := by omega
          have c3 : (t.length : Int) ≤ hi := by omega
          simp only [isText, c2, c3, decide_true, Bool.true_and, List.all_eq_true]
          exact fun c hc => decide_eq_true (ok c hc)
    · have c0' : ¬ lo ≤ (S t).length := by simpa using c0
      walk_at "rd"
      refine iteT ?_
      walk_at "rd"
      refine bad false ?_
      have c2 : ¬ lo ≤ (t.length : Int) := by omega
      simp only [isText, c2, decide_false, Bool.false_and]
def spCheckText : Sp := fun vs H Q _ => ∃ (sg t : List Nat), vs = [.str (S sg), .str (S t)] ∧ t.length ≤ 200 ∧ (∀ c ∈ t, c ∈ sg) ∧ Q .non H
theorem c_check_text (T : Txt K mg) : Cal P w K mg base CX0 2 "check_text" spCheckText := by
  have c_is_text := c_is_text (P := P) (w := w) (base := base) T
  refine Cal.mk0 T.d_check_text sc_check_text (fun vs H Q E h => ?_) (fun f cdv A outer s H vs Q E hr h => ?_)
  · obtain ⟨sg, t, rfl, _⟩ := h
    rfl
  · obtain ⟨sg, t, rfl, hl, hc, k⟩ := h
    refine ⟨_, (pss_one (ps_if (pt_not (pt_truth (pe_c c_is_text hr (by decide) rfl (pa_cons (pv 0) (pa_cons (pv 1) (pa_cons pe_int (pa_cons (pe_gK rfl T.g_LONGEST_TEXT) pa_nil))))) (by intro _; rfl)))
    (pss_one ps_never)
    pss_nil)), ?_⟩
    walk_at "rd"
    refine .inl ⟨sg, t, 0, 200, rfl, by omega, ?_⟩
    have e : isText sg t 0 200 = true := by
      have c2 : (0 : Int) ≤ (t.length : Int) := by omega
      have c3 : (t.length : Int) ≤ 200 := by omega
      simp only [isText, c2, c3, decide_true, Bool.true_and, List.all_eq_true]
      exact fun c h => decide_eq_true (hc c h)
    rw [e]
    walk_at "rd"
    refine iteF ?_
    walk_at "rd"
    exact k
end
end Sh
set_option Elab.async false
set_option linter.all false
set_option maxRecDepth 100000
set_option maxHeartbeats 4000000
namespace Sh
open PySem PySem.Spec PyProof.Rows L2
open SX (S S_inj S_len S_cat)
open Bk (Rule firstAt lg bestUp used left drain pushS Wf)
local macro_rules | `(tactic| walk_at "nx") => `(tactic| repeat (with_reducible first | refine Sh.gn_mk ?_ | refine Sh.nx_mk ?_ | refine Sh.st_nx ?_ | refine Sh.rt_mk ?_ | refine Sh.ct_mk ?_ | refine Sh.bk_mk ?_))
local macro_rules | `(tactic| walk_at "sq") => `(tactic| first | exact SqL.of upd_same | exact SqT.of upd_same | exact SqL.of (by assumption) | exact SqT.of (by assumption) | assumption | exact Or.inl (SqL.of (by assumption)) | exact Or.inr (SqT.of (by assumption)) | exact Or.inl (by assumption) | exact Or.inr (by assumption))
local macro_rules | `(tactic| walk_at "hp") => `(tactic| first | exact upd_same | assumption)
local macro_rules | `(tactic| walk_at "sz") => `(tactic| first | exact Nat.le_of_ble_eq_true rfl | omega)
local macro_rules | `(tactic| walk_at "sd") => `(tactic| first | omega | exact rfl | assumption | (show (0 : Int) < _; omega) | exact And.intro (by omega) (by omega) | exact Or.inl (And.intro (by omega) (by omega)) | exact Or.inr (And.intro (by omega) (by omega)) | omega | exact Sh.sz_S (by omega) | decide)
local macro_rules | `(tactic| walk_at "rd1") => `(tactic| first
  | (with_reducible first | refine Sh.gn_mk ?_ | refine Sh.nx_mk ?_ | refine Sh.st_nx ?_ | refine Sh.rt_mk ?_ | refine Sh.ct_mk ?_ | refine Sh.bk_mk ?_)
  | refine Exists.intro (α := V) _ (And.intro rfl ?_)
  | refine Exists.intro (α := Bool) _ (And.intro rfl ?_)
  | refine Exists.intro (α := Int) _ (And.intro rfl ?_)
  | refine Exists.intro (α := PySem.Str) _ (And.intro rfl ?_)
  | refine Exists.intro (α := Int) _ (Exists.intro (α := Int) _ (And.intro rfl (And.intro rfl ?_)))
  | refine Exists.intro (α := PySem.Str) _ (Exists.intro (α := PySem.Str) _ (And.intro rfl (And.intro rfl ?_)))
  | refine Exists.intro (α := Int) _ (Exists.intro (α := Int) _ (And.intro rfl ?_))
  | refine Or.inl (Exists.intro (α := Int) _ (And.intro rfl ?_))
  | refine Exists.intro _ (Exists.intro _ (Exists.intro _ (Exists.intro _ (And.intro rfl (And.intro rfl (And.intro (by walk_at "sq") (And.intro rfl ?_)))))))
  | refine Exists.intro _ (Exists.intro _ (Exists.intro _ (Exists.intro _ (And.intro rfl (And.intro rfl (And.intro (by walk_at "hp") (And.intro rfl ?_)))))))
  | refine And.intro (by walk_at "sd") ?_
  )
local macro_rules | `(tactic| walk_at "rd") => `(tactic| repeat walk_at "rd1")
local macro_rules | `(tactic| walk_at "lk") => `(tactic| first | exact rfl | (rw [lookup_putF, if_pos rfl]) | (rw [lookup_putF, if_neg (by decide +kernel)]; walk_at "lk"))

section
variable {P : Program} {w : World} {K : PySem.W.Frag} {mg : Str → Option Value} {base : Heap}
/-- a tuple of rules stands at a -/
structure RulesAt (K : PySem.W.Frag) (H : Hp) (a : Addr) (xs : List V) (R : List Rule) : Prop where
  sq : SqT K H a xs
  len : xs.length = R.length
  it : ∀ (i : Nat) x r, xs[i]? = some x → R[i]? = some r → ∃ q, x = .ref q ∧ SqT K H q (rTup r)
theorem RulesAt.keep {H H' : Hp} {a : Addr} {xs : List V} {R : List Rule} (h : RulesAt K H a xs R) (k : Keep H H') : RulesAt K H' a xs R :=
  ⟨k.seq h.sq, h.len, fun i x r h1 h2 => let ⟨q, e, s⟩ := h.it i x r h1 h2; ⟨q, e, k.seq s⟩⟩
theorem RulesAt.same {H H' : Hp} {a : Addr} {xs : List V} {R : List Rule} (h : RulesAt K H a xs R) (k : Same H H') : RulesAt K H' a xs R := h.keep (Keep.same k)
theorem RulesAt.get {H : Hp} {a : Addr} {xs : List V} {R : List Rule} (h : RulesAt K H a xs R) {i : Nat} {r : Rule} (hr : R[i]? = some r) : ∃ q, xs[i]? = some (.ref q) ∧ SqT K H q (rTup r) := by
  obtain ⟨hi, _⟩ := List.getElem?_eq_some_iff.mp hr
  have hi2 : i < xs.length := by rw [h.len]; exact hi
  obtain ⟨q, e, s⟩ := h.it i xs[i] r (List.getElem?_eq_getElem hi2) hr
  exact ⟨q, by rw [List.getElem?_eq_getElem hi2, e], s⟩
/-- the dict of the left sides -/
def LeftsK (H : Hp) (kvs : List (Key × V)) (R : List Rule) : Prop :=
  ∀ l : List Nat, (firstAt R 0 l = none → valV kvs (Sum.inr (S l)) = none) ∧ ∀ k r, firstAt R 0 l = some (k, r) → ∃ q, valV kvs (Sum.inr (S l)) = some (.ref q) ∧ H q = some (.tup [.int (k : Nat), .str (S r)])
theorem LeftsK.same {H H' : Hp} {kvs : List (Key × V)} {R : List Rule} (h : LeftsK H kvs R) (s : Same H H') : LeftsK H' kvs R :=
  fun l => ⟨(h l).1, fun k r e => let ⟨q, e1, e2⟩ := (h l).2 k r e; ⟨q, e1, s _ _ e2⟩⟩
/-- .. stands at p -/
def LeftsAt (H : Hp) (p : Addr) (R : List Rule) : Prop := ∃ kvs, H p = some (.dK kvs) ∧ LeftsK H kvs R
theorem LeftsAt.same {H H' : Hp} {p : Addr} {R : List Rule} (h : LeftsAt H p R) (s : Same H H') : LeftsAt H' p R := let ⟨kvs, e, k⟩ := h; ⟨kvs, s _ _ e, k.same s⟩
theorem LeftsAt.but {H H' : Hp} {p a : Addr} {R : List Rule} (h : LeftsAt H p R) (s : But a H H') (z : Src H a) : LeftsAt H' p R := by
  obtain ⟨kvs, e, k⟩ := h
  obtain ⟨d, sd, c, ha⟩ := z
  refine ⟨kvs, s _ _ (ne_of e ha (by intro q; cases q)) e, fun l => ⟨(k l).1, fun j r e => ?_⟩⟩
  obtain ⟨q, e1, e2⟩ := (k l).2 j r e
  exact ⟨q, e1, s _ _ (ne_of e2 ha (by intro q; cases q)) e2⟩
def spFirst (K : PySem.W.Frag) : Sp := fun vs H Q _ => ∃ (a : Addr) (xs : List V) (R : List Rule), vs = [.ref a] ∧ RulesAt K H a xs R ∧ R.length ≤ 64 ∧ ∀ (p : Addr) (H' : Hp), H p = none → Same H H' → LeftsAt H' p R → Q (.ref p) H'
theorem lefts_snoc {H H' : Hp} {kvs : List (Key × V)} {R : List Rule} {r : Rule} {q : Addr} (h : LeftsK H kvs R) (s : ∀ b o, H b = some o → (∃ ys, o = .tup ys) → H' b = some o) (hn : valV kvs (Sum.inr (S r.1)) = none)
    (hq : H' q = some (.tup [.int (R.length : Nat), .str (S r.2)])) : LeftsK H' (putK kvs (Sum.inr (S r.1)) (.ref q)) (R ++ [r]) := by
  have none_of : firstAt R 0 r.1 = none := by
    cases e : firstAt R 0 r.1 with
    | none => rfl
    | some z =>
      obtain ⟨q, e1, _⟩ := (h r.1).2 z.1 z.2 e
      rw [hn] at e1; cases e1
  intro l
  rw [valV_put]
  by_cases hl : l = r.1
  · subst hl
    rw [Bk.firstAt_snoc_none r none_of]
    simp only [if_true]
    refine ⟨fun e => by simp at e, fun k z e => ?_⟩
    simp only [Option.some.injEq, Prod.mk.injEq] at e
    obtain ⟨rfl, rfl⟩ := e
    exact ⟨q, rfl, hq⟩
  · have hne : ¬ (Sum.inr (S l) : Key) = Sum.inr (S r.1) := fun e => hl (S_inj (Sum.inr.inj e))
    rw [if_neg hne]
    cases e : firstAt R 0 l with
    | none =>
      rw [Bk.firstAt_snoc_none r e, if_neg (Ne.symm hl)]
      exact ⟨fun _ => (h l).1 e, fun k z e => by cases e⟩
    | some z =>
      rw [Bk.firstAt_snoc_some r e]
      refine ⟨fun e => (by cases e), fun k y e' => ?_⟩
      cases e'
      obtain ⟨q', e1, e2⟩ := (h l).2 k y e
      exact ⟨q', e1, s _ _ e2 ⟨_, rfl⟩⟩
theorem lefts_skip {H : Hp} {kvs : List (Key × V)} {R : List Rule} {r : Rule} (h : LeftsK H kvs R) (hn : valV kvs (Sum.inr (S r.1)) ≠ none) : LeftsK H kvs (R ++ [r]) := by
  intro l
  cases e : firstAt R 0 l with
  | some z =>
    rw [Bk.firstAt_snoc_some r e]
    exact ⟨fun e => (by cases e), fun k y e' => by cases e'; exact (h l).2 _ _ e⟩
  | none =>
    have hne : ¬ r.1 = l := fun e' => hn (by rw [e']; exact (h l).1 e)
    rw [Bk.firstAt_snoc_none r e, if_neg hne]
    exact ⟨fun _ => (h l).1 e, fun k z e => by cases e⟩
theorem c_first_rules (T : Txt K mg) : Cal P w K mg base CX0 1 "first_rules" (spFirst K) := by
  refine Cal.mk0 T.d_first_rules sc_first_rules (fun vs H Q E h => ?_) (fun f cdv A outer s H vs Q E hr h => ?_)
  · obtain ⟨a, xs, R, rfl, _⟩ := h
    rfl
  · obtain ⟨a, xs, R, rfl, hR, hl, k⟩ := h
    have hu := hu_of hr
    have hlx := hR.len
    refine ⟨_, (pss_cons (ps_set (i := 1) sc_first_rules.nd rfl (Or.inl rfl) pe_dnewK)
  (pss_cons (ps_for PassesOwn.never rfl (pi_range1 (by rfl) T.b_range (pa_cons (pe_callB call_len_seq (by rfl) T.b_len (by decide +kernel) (pa_cons (pv 0) pa_nil)) pa_nil)) (pg_name (i := 2) sc_first_rules.nd rfl (Or.inl rfl))
    (pss_cons (ps_asg (pe_ix ix_tup (pv 0) (pv 2) (fun _ _ => rfl)) (pg_tup (by rfl) (pgs_cons (pg_name (i := 3) sc_first_rules.nd rfl (Or.inl rfl)) (pgs_cons (pg_name (i := 4) sc_first_rules.nd rfl (Or.inl rfl)) pgs_nil))))
    (pss_one (ps_if (pt_cmp (pc_dnotin hu (pv 3) (pv 1)))
      (pss_one (ps_dput hu (pv 1) (pv 3) (pe_tup (pa_cons (pv 2) (pa_cons (pv 4) pa_nil))) rfl))
      pss_nil))))
  (pss_one (ps_ret (pv 1))))), ?_⟩
    walk_at "rd"
    intro p hp
    have hR1 := hR.same (same_new (o := .dK []) hp)
    refine ⟨_, rfl, a, xs, rfl, .inr hR1.sq, ?_⟩
    walk_at "rd"
    refine for_range (lo := 0) (n := ((xs.length : Int)).toNat) (fun i σ H2 => ∃ (kvs : List (Key × V)) (v2 v3 v4 : Option V), σ = [some (.ref a), some (.ref p), v2, v3, v4] ∧ Same H H2 ∧ H2 p = some (.dK kvs) ∧ kvs.length ≤ i ∧ LeftsK H2 kvs (R.take i))
      ⟨[], _, _, _, rfl, same_new hp, upd_same, Nat.le_refl _, fun l => ⟨fun _ => rfl, fun k r e => by simp [firstAt] at e⟩⟩ ?_ ?_
    · rintro i σ H2 hi ⟨kvs, v2, v3, v4, rfl, s2, hp2, hk, L⟩
      have hi2 : i < R.length := by omega
      have hr2 : R[i]? = some R[i] := by simp [hi2]
      obtain ⟨q, hq, sq⟩ := (hR.same s2).get hr2
      refine ⟨_, rfl, _, rfl, a, xs, _, .ref q, rfl, rfl, (hR.same s2).sq, atI_at (by omega) (by rw [show ((0 : Int) + i).toNat = i by omega]; exact hq), ?_⟩
      refine ⟨q, _, rfl, sq, rfl, _, _, rfl, _, _, rfl, rfl, ?_⟩
      have et : R.take (i + 1) = R.take i ++ [R[i]] := by rw [List.take_succ, hr2]; rfl
      walk_at "rd"
      refine ⟨p, _, rfl, DGet.k (k := Sum.inr (S R[i].1)) hp2, ?_⟩
      walk_at "rd"
      cases hv : valV kvs (Sum.inr (S R[i].1) : Key) with
      | none =>
        refine iteT ?_
        refine ⟨_, rfl, _, rfl, by walk_at "sz", fun q2 hq2 => ?_⟩
        have nq : q2 ≠ p := (ne_of_none hp2 hq2).symm
        refine ⟨_, rfl, _, rfl, p, _, rfl, DPut.k (k := Sum.inr (S R[i].1)) (by rw [upd_ne nq.symm]; exact hp2) (by exact Nat.lt_of_le_of_lt (m := 64) (by omega) (by decide)), ?_⟩
        have s3 : Same H2 (upd H2 q2 (.tup [.int (0 + (i : Int)), .str (S R[i].2)])) := same_new hq2
        refine ⟨_, _, _, _, rfl, same_mut (s2.trans s3) hp, upd_same, ?_, ?_⟩
        · rw [putK_new _ hv]; simp; omega
        · rw [et]
          refine lefts_snoc L (fun b o hb ⟨ys, e⟩ => ?_) hv ?_
          · rw [upd_ne (ne_of hb hp2 (by intro z; rw [e] at z; cases z))]
            exact s3 b o hb
          · rw [upd_ne nq, List.length_take, Nat.min_eq_left (by omega)]
            rw [upd_same]
            simp
      | some z =>
        refine iteF ?_
        walk_at "rd"
        refine ⟨_, _, _, _, rfl, s2, hp2, by omega, ?_⟩
        rw [et]
        exact lefts_skip L (by rw [hv]; simp)
    · rintro σ H2 ⟨kvs, v2, v3, v4, rfl, s2, hp2, hk, L⟩
      walk_at "rd"
      refine k p H2 hp s2 ⟨kvs, hp2, ?_⟩
      rw [List.take_of_length_le (by omega)] at L
      exact L
/-- the longest left side -/
def spLongest (K : PySem.W.Frag) : Sp := fun vs H Q _ => ∃ (a : Addr) (xs : List V) (R : List Rule), vs = [.ref a] ∧ RulesAt K H a xs R ∧ R.length ≤ 64 ∧ (∀ r ∈ R, r.1.length ≤ 1000000) ∧ ∀ (H' : Hp), Same H H' → Q (.int (lg R : Nat)) H'
theorem c_longest_left (T : Txt K mg) : Cal P w K mg base CX0 1 "longest_left" (spLongest K) := by
  refine Cal.mk0 T.d_longest_left sc_longest_left (fun vs H Q E h => ?_) (fun f cdv A outer s H vs Q E hr h => ?_)
  · obtain ⟨a, xs, R, rfl, _⟩ := h
    rfl
  · obtain ⟨a, xs, R, rfl, hR, hl, hz, k⟩ := h
    refine ⟨_, (pss_one (ps_ret (pe_callB (cr_max rfl) (by rfl) T.b_max (by decide +kernel) (pa_cons (pe_op op_cat (pe_lst (pa_cons pe_int pa_nil)) (pe_lc (own := [("rule", 1)]) (g := gName 1) (tt := tYes) rfl sc_longest_left.nd (pi_tup (pv 0)) (blkOk_by (N := ["rules", "rule"]) (sc := defScope s_longest_left) (by decide +kernel)) (fun _ _ _ _ _ => (pg_name (i := 1) sc_longest_left.nd rfl (Or.inl rfl))) (fun _ _ _ _ _ => pts_nil) (fun _ _ _ _ _ => (pe_callB call_len_str (by rfl) T.b_len (by decide +kernel) (pa_cons (pe_ix ix_tupB (pv 1) pe_int (fun _ _ => rfl)) pa_nil))))) pa_nil)))), ?_⟩
    refine ⟨by walk_at "sz", fun p1 hp1 => ?_⟩
    have s1 : Same H (upd H p1 (.lst [.int 0])) := same_new hp1
    refine ⟨_, rfl, a, rfl, ⟨_, (hR.same s1).sq⟩, fun D hD => lc_tupR (K := K) (a := a) (xs := xs) (l := R) (Rel := fun H v r => ∃ q, v = .ref q ∧ SqT K H q (rTup r)) hR.len
      (fun pre H3 => H3 D = some (.lst (pre.map fun r => V.int (r.1.length : Nat))) ∧ Same (upd H p1 (.lst [.int 0])) H3) ⟨upd_same, same_new hD⟩ (fun pre H3 ⟨_, s3⟩ => ⟨(hR.same (s1.trans s3)).sq, (hR.same (s1.trans s3)).it⟩) ?_ ?_⟩
    · rintro pre r post x H3 e hx ⟨q, rfl, sq⟩ ⟨h3, s3⟩
      have hrm : r ∈ R := by rw [e]; simp
      refine ⟨rfl, ty_T ?_⟩
      refine ⟨_, rfl, q, _, 0, .str (S r.1), rfl, rfl, sq, rfl, _, rfl, sz_S (hz r hrm), ?_⟩
      have hpl : pre.length ≤ 64 := by
        have := congrArg List.length e
        simp at this
        omega
      refine ⟨_, h3, by rw [List.length_map]; exact Nat.lt_of_le_of_lt (m := 64) hpl (by decide), ?_, same_mut s3 hD⟩
      rw [List.map_append, S_len]
      exact upd_same
    · rintro H3 ⟨h3, s3⟩
      refine ⟨p1, D, _, _, rfl, rfl, s3 _ _ upd_same, h3, ?_, fun p2 hp2 => ?_⟩
      · rw [List.length_map]; exact Nat.le_trans (m := 65) (by simp; omega) (by decide)
      · refine ⟨p2, (0 :: R.map fun r => r.1.length).map Int.ofNat, rfl, SqL.of ?_, by simp, fun m hm hle => ?_⟩
        · rw [upd_same, List.map_map]
          simp only [List.map_cons, List.map_map]
          rfl
        · obtain ⟨n, hn, rfl⟩ := List.mem_map.mp hm
          have : n = lg R := Bk.lg_eq hn (fun y hy => by
            have := hle (Int.ofNat y) (List.mem_map_of_mem hy)
            exact Int.ofNat_le.mp this)
          rw [this]
          exact k _ ((s1.trans s3).trans (same_new hp2))
/-- used_at_end: the first rule that fits, or None -/
def optS : Option (List Nat) → V
  | none => .non
  | some u => .str (S u)
def spUsed : Sp := fun vs H Q _ => ∃ (p : Addr) (R : List Rule) (t : List Nat), vs = [.ref p, .int (lg R : Nat), .str (S t)] ∧ LeftsAt H p R ∧ Wf R ∧ t.length ≤ 100000 ∧ ∀ (H' : Hp), Same H H' → Q (optS (used R t)) H'
/-- best so far -/
def BestV (H : Hp) : V → Option (Nat × Nat × List Nat) → Prop
  | v, none => v = .non
  | v, some (k, s, r) => ∃ q, v = .ref q ∧ H q = some (.tup [.int (k : Nat), .int (s : Nat), .str (S r)])
theorem BestV.same {H H' : Hp} {v : V} : ∀ {b}, BestV H v b → Same H H' → BestV H' v b
  | none, h, _ => h
  | some (_, _, _), ⟨q, e, h⟩, s => ⟨q, e, s _ _ h⟩
theorem c_used_at_end (T : Txt K mg) : Cal P w K mg base CX0 1 "used_at_end" spUsed := by
  refine Cal.mk0 T.d_used_at_end sc_used_at_end (fun vs H Q E h => ?_) (fun f cdv A outer s H vs Q E hr h => ?_)
  · obtain ⟨p, R, t, rfl, _⟩ := h
    rfl
  · obtain ⟨p, R, t, rfl, ⟨kvs, hp, L⟩, hw, hl, k⟩ := h
    have hu := hu_of hr
    have hSl := S_len t
    refine ⟨_, (pss_cons (ps_set (i := 3) sc_used_at_end.nd rfl (Or.inl rfl) pe_non)
  (pss_cons (ps_for PassesOwn.never rfl (pi_range2 (by rfl) T.b_range (pa_cons pe_int (pa_cons (pe_op op_add (pe_callB (call_min2 rfl) (by rfl) T.b_min (by decide +kernel) (pa_cons (pv 1) (pa_cons (pe_callB call_len_str (by rfl) T.b_len (by decide +kernel) (pa_cons (pv 2) pa_nil)) pa_nil))) pe_int) pa_nil))) (pg_name (i := 4) sc_used_at_end.nd rfl (Or.inl rfl))
    (pss_cons (ps_set (i := 5) sc_used_at_end.nd rfl (Or.inl rfl) (pe_dget1 hu (pv 0) (pe_slice sl_str (pv 2) (po_some (pe_op op_sub (pe_callB call_len_str (by rfl) T.b_len (by decide +kernel) (pa_cons (pv 2) pa_nil)) (pv 4))) po_none) ⟨rfl, rfl, rfl, rfl⟩))
    (pss_one (ps_if (PW.pt (pw_and (pt_cmpR op_notN (pv 5) pe_non (nomark _)) (pw_and1 (PW.pt (pw_or (pt_cmpR op_isN (pv 3) pe_non (nomark _)) (pw_or1 (pt_cmpR op_lt (pe_ix ix_tup (pv 5) pe_int (fun _ _ => rfl)) (pe_ix ix_tup (pv 3) pe_int (fun _ _ => rfl)) (nomark _))))))))
      (pss_one (ps_set (i := 3) sc_used_at_end.nd rfl (Or.inl rfl) (pe_tup (pa_cons (pe_ix ix_tup (pv 5) pe_int (fun _ _ => rfl)) (pa_cons (pv 4) (pa_cons (pe_ix ix_tup (pv 5) pe_int (fun _ _ => rfl)) pa_nil))))))
      pss_nil))))
  (pss_cons (ps_if (pt_cmpR op_isN (pv 3) pe_non (nomark _))
    (pss_one (ps_ret pe_non))
    pss_nil)
  (pss_one (ps_ret (pe_op op_add_str (pe_slice sl_str (pv 2) po_none (po_some (pe_op op_sub (pe_callB call_len_str (by rfl) T.b_len (by decide +kernel) (pa_cons (pv 2) pa_nil)) (pe_ix ix_tup (pv 3) pe_int (fun _ _ => rfl))))) (pe_ix ix_tup (pv 3) pe_int (fun _ _ => rfl)))))))), ?_⟩
    walk_at "rd"
    refine for_range (lo := 1) (n := _) (fun i σ H2 => ∃ (vb : V) (v4 v5 : Option V), σ = [some (.ref p), some (.int (lg R : Nat)), some (.str (S t)), some vb, v4, v5] ∧ Same H H2 ∧ BestV H2 vb (bestUp R t i))
      ⟨_, _, _, rfl, Same.refl H, rfl⟩ ?_ ?_
    · rintro i σ H2 hi ⟨vb, v4, v5, rfl, s2, hb⟩
      have hi2 : i < t.length := by
        split at hi <;> omega
      have hL := L.same s2
      refine ⟨_, rfl, p, rfl, .inl ⟨kvs, .inl (s2 _ _ hp)⟩, ?_⟩
      walk_at "rd"
      rw [cut_from (by omega), hSl, show ((t.length : Int) - (1 + (i : Int))).toNat = t.length - (i + 1) by omega]
      refine ⟨_, DGet.k (k := Sum.inr (S (t.drop (t.length - (i + 1))))) (s2 _ _ hp), ?_⟩
      walk_at "nx"
      cases hf : firstAt R 0 (t.drop (t.length - (i + 1))) with
      | none =>
        rw [(hL _).1 hf]
        have eb : bestUp R t (i + 1) = bestUp R t i := by simp only [bestUp, hf]
        walk_at "rd"
        refine iteF ?_
        walk_at "rd"
        refine iteF ?_
        walk_at "rd"
        exact ⟨_, _, _, rfl, s2, eb ▸ hb⟩
      | some z =>
        obtain ⟨k2, r2⟩ := z
        obtain ⟨q, hq, hqt⟩ := (hL _).2 _ _ hf
        rw [hq]
        have s3 : ∀ q2 o, H2 q2 = none → Same H (upd H2 q2 o) := fun q2 o h => s2.trans (same_new h)
        cases hbb : bestUp R t i with
        | none =>
          rw [hbb] at hb
          have hb' : vb = .non := hb
          subst hb'
          have eb : bestUp R t (i + 1) = some (k2, i + 1, r2) := by simp only [bestUp, hf, hbb]
          walk_at "rd"
          refine ⟨by walk_at "sz", fun q2 hq2 => ?_⟩
          refine ⟨_, _, _, rfl, s3 _ _ hq2, ?_⟩
          rw [eb]
          refine ⟨q2, rfl, ?_⟩
          rw [upd_same]
          show some (HO.tup [V.int (k2 : Nat), V.int (1 + (i : Int)), V.str (S r2)]) = _
          rw [show (1 + (i : Int)) = ((i + 1 : Nat) : Int) by omega]
        | some b =>
          obtain ⟨k3, s3', r3⟩ := b
          rw [hbb] at hb
          obtain ⟨q3, rfl, hq3⟩ := id hb
          walk_at "rd"
          refine ite2 (fun c0 => ?_) (fun c0 => ?_)
          · have c1 : k2 < k3 := by have := of_decide_eq_true c0; omega
            have eb : bestUp R t (i + 1) = some (k2, i + 1, r2) := by simp only [bestUp, hf, hbb, if_pos c1]
            walk_at "rd"
            refine ⟨by walk_at "sz", fun q2 hq2 => ?_⟩
            refine ⟨_, _, _, rfl, s3 _ _ hq2, ?_⟩
            rw [eb]
            refine ⟨q2, rfl, ?_⟩
            rw [upd_same]
            show some (HO.tup [V.int (k2 : Nat), V.int (1 + (i : Int)), V.str (S r2)]) = _
            rw [show (1 + (i : Int)) = ((i + 1 : Nat) : Int) by omega]
          · have c1 : ¬ k2 < k3 := by
              intro h
              exact c0 (decide_eq_true (by omega))
            have eb : bestUp R t (i + 1) = some (k3, s3', r3) := by simp only [bestUp, hf, hbb, if_neg c1]
            walk_at "rd"
            exact ⟨_, _, _, rfl, s2, by rw [eb]; exact hb⟩
    · rintro σ H2 ⟨vb, v4, v5, rfl, s2, hb⟩
      have hn : ((if ((S t).length : Int) < (lg R : Nat) then ((S t).length : Int) else (lg R : Nat)) + 1 - 1).toNat = min (lg R) t.length := by
        split <;> omega
      rw [hn] at hb
      have hU := Bk.used_best hw t
      cases hbb : bestUp R t (min (lg R) t.length) with
      | none =>
        rw [hbb] at hb hU
        have hb' : vb = .non := hb
        subst hb'
        walk_at "rd"
        have q := k H2 s2
        rw [hU] at q
        exact q
      | some b =>
        obtain ⟨k3, s3', r3⟩ := b
        rw [hbb] at hb hU
        obtain ⟨q3, rfl, hq3⟩ := id hb
        walk_at "rd"
        have sp := Bk.bestUp_spec R t (min (lg R) t.length) (by omega)
        rw [hbb] at sp
        obtain ⟨⟨l, ⟨_, _, _, x, hx⟩, hs⟩, _⟩ := sp
        have hst : s3' ≤ t.length := by
          rw [hx, List.length_append]
          show s3' ≤ x.length + l.length
          omega
        have hU2 : used R t = some (t.take (t.length - s3') ++ r3) := hU
        have hlen := (Bk.used_step hU2).len hw
        rw [cut_to (by omega), hSl, show ((t.length : Int) - (s3' : Int)).toNat = t.length - s3' by omega]
        refine ⟨?_, ?_⟩
        · rw [S_len, S_len, ← List.length_append]
          exact Nat.le_trans (m := 100000) (by omega) (by decide)
        · rw [S_cat]
          have q := k H2 s2
          rw [hU2] at q
          exact q
/-- what is left over -/
def spLeft : Sp := fun vs H Q _ => ∃ (p : Addr) (R : List Rule) (t : List Nat), vs = [.ref p, .int (lg R : Nat), .str (S t)] ∧ LeftsAt H p R ∧ Wf R ∧ t.length ≤ 100000 ∧ ∀ (H' : Hp), Same H H' → Q (.str (S (left R t))) H'
theorem left_snoc (R : List Rule) (t : List Nat) (c : Nat) : left R (t ++ [c]) = pushS R (left R t) c := by
  unfold left; rw [List.foldl_append]; rfl
theorem left_len {R : List Rule} (w : Wf R) (t : List Nat) : (left R t).length ≤ t.length := (Bk.left_reach t).len w
theorem c_left_over (T : Txt K mg) : Cal P w K mg base CX0 2 "left_over" spLeft := by
  have c_used_at_end := c_used_at_end (P := P) (w := w) (base := base) T
  refine Cal.mk0 T.d_left_over sc_left_over (fun vs H Q E h => ?_) (fun f cdv A outer s H vs Q E hr h => ?_)
  · obtain ⟨p, R, t, rfl, _⟩ := h
    rfl
  · obtain ⟨p, R, t, rfl, L, hw, hl, k⟩ := h
    refine ⟨_, (pss_cons (ps_set (i := 3) sc_left_over.nd rfl (Or.inl rfl) pe_str)
  (pss_cons (ps_for PassesOwn.never rfl (pi_str (pv 2)) (pg_name (i := 4) sc_left_over.nd rfl (Or.inl rfl))
    (pss_cons (ps_set (i := 3) sc_left_over.nd rfl (Or.inl rfl) (pe_op op_add_str (pv 3) (pv 4)))
    (pss_cons (ps_set (i := 5) sc_left_over.nd rfl (Or.inl rfl) (pe_c c_used_at_end hr (by decide) rfl (pa_cons (pv 0) (pa_cons (pv 1) (pa_cons (pv 3) pa_nil)))))
    (pss_one (ps_while PassesOwn.never (pt_cmpR op_notN (pv 5) pe_non (nomark _))
      (pss_cons (ps_set (i := 3) sc_left_over.nd rfl (Or.inl rfl) (pv 5))
      (pss_one (ps_set (i := 5) sc_left_over.nd rfl (Or.inl rfl) (pe_c c_used_at_end hr (by decide) rfl (pa_cons (pv 0) (pa_cons (pv 1) (pa_cons (pv 3) pa_nil))))))))))))
  (pss_one (ps_ret (pv 3))))), ?_⟩
    walk_at "rd"
    refine for_str (l := t) (fun pre σ H2 => ∃ (v4 v5 : Option V), σ = [some (.ref p), some (.int (lg R : Nat)), some (.str (S t)), some (.str (S (left R pre))), v4, v5] ∧ Same H H2)
      ⟨_, _, rfl, Same.refl H⟩ ?_ ?_
    · rintro pre c post σ H2 e ⟨v4, v5, rfl, s2⟩
      have hpl : pre.length + 1 ≤ t.length := by
        have := congrArg List.length e
        simp at this
        omega
      have hlp := left_len hw pre
      refine ⟨_, rfl, _, rfl, _, _, rfl, rfl, by rw [S_len, S_len]; exact Nat.le_trans (m := 100001) (by simp; omega) (by decide), ?_⟩
      rw [S_cat]
      walk_at "nx"
      refine ⟨_, rfl, _, rfl, _, rfl, p, R, left R pre ++ [c], rfl, L.same s2, hw, by simp; omega, fun H3 s3 => ?_⟩
      walk_at "nx"
      refine ⟨fun m σ H4 => ∃ (q : List Nat) (v4 : Option V), σ = [some (.ref p), some (.int (lg R : Nat)), some (.str (S t)), some (.str (S q)), v4, some (optS (used R q))] ∧ Same H H4 ∧ q.length ≤ m ∧ q.length ≤ 100000 ∧ drain R m q = left R (pre ++ [c]),
        ⟨(left R pre).length + 1, left R pre ++ [c], _, rfl, s2.trans s3, by simp, by simp; omega, (left_snoc R pre c).symm⟩, ?_⟩
      rintro m σ H4 ⟨q, v4, rfl, s4, hm, hq, hd⟩
      cases hu1 : used R q with
      | none =>
        have e1 : drain R m q = q := by
          cases m with
          | zero => rfl
          | succ m => simp only [drain, hu1]
        rw [e1] at hd
        walk_at "rd"
        refine iteF ?_
        walk_at "nx"
        exact ⟨_, _, by rw [hd], s4⟩
      | some u =>
        have hlt := (Bk.used_step hu1).len hw
        cases m with
        | zero => omega
        | succ m =>
          have hd2 : drain R m u = left R (pre ++ [c]) := by
            rw [← hd]; simp only [drain, hu1]
          walk_at "rd"
          refine iteT ⟨_, fun _ _ h => h, ?_⟩
          refine ⟨_, rfl, ?_⟩
          walk_at "nx"
          refine ⟨_, rfl, _, rfl, _, rfl, p, R, u, rfl, L.same s4, hw, by omega, fun H5 s5 => ?_⟩
          walk_at "nx"
          exact ⟨m, Nat.lt_succ_self m, u, _, rfl, s4.trans s5, by omega, by omega, hd2⟩
    · rintro σ H2 ⟨v4, v5, rfl, s2⟩
      walk_at "rd"
      exact k H2 s2
end
end Sh
/-! overlaps as the program lists them; plain Lean -/
namespace Bk
abbrev Ov := T × Nat × Nat × Nat
def ovAt (i : Nat) (l : T) (j : Nat) (r : T) (k : Nat) : Option Ov := if k = 0 ∧ j ≤ i then none else (over l r k).map fun t => (t, i, k, j)
def ovP (i : Nat) (l : T) (j : Nat) (r : T) (n : Nat) : List Ov := (List.range n).filterMap (ovAt i l j r)
def lf (R : List Rule) (i : Nat) : T := (R.getD i ([], [])).1
def ovJ (R : List Rule) (i n : Nat) : List Ov := (List.range n).flatMap fun j => ovP i (lf R i) j (lf R j) (lf R i).length
def ovI (R : List Rule) (n : Nat) : List Ov := (List.range n).flatMap fun i => ovJ R i R.length
def ovs (R : List Rule) : List Ov := ovI R R.length
theorem ovP_succ (i : Nat) (l : T) (j : Nat) (r : T) (n : Nat) : ovP i l j r (n + 1) = ovP i l j r n ++ (ovAt i l j r n).toList := by
  unfold ovP
  rw [List.range_succ, List.filterMap_append]
  cases h : ovAt i l j r n <;> simp [h]
theorem ovJ_succ (R : List Rule) (i n : Nat) : ovJ R i (n + 1) = ovJ R i n ++ ovP i (lf R i) n (lf R n) (lf R i).length := by
  unfold ovJ
  rw [List.range_succ, List.flatMap_append]
  simp
theorem ovI_succ (R : List Rule) (n : Nat) : ovI R (n + 1) = ovI R n ++ ovJ R n R.length := by
  unfold ovI
  rw [List.range_succ, List.flatMap_append]
  simp
theorem lf_get {R : List Rule} {i : Nat} {r : Rule} (h : R[i]? = some r) : lf R i = r.1 := by
  unfold lf
  rw [List.getD_eq_getElem?_getD, h]; rfl
theorem mem_ovs {R : List Rule} {o : Ov} : o ∈ ovs R ↔ ∃ i r j q k t, R[i]? = some r ∧ R[j]? = some q ∧ k < r.1.length ∧ ¬ (k = 0 ∧ j ≤ i) ∧ over r.1 q.1 k = some t ∧ o = (t, i, k, j) := by
  unfold ovs ovI ovJ ovP ovAt
  simp only [List.mem_flatMap, List.mem_range, List.mem_filterMap]
  constructor
  · rintro ⟨i, hi, j, hj, k, hk, h⟩
    have hr : R[i]? = some R[i] := by simp [hi]
    have hq : R[j]? = some R[j] := by simp [hj]
    rw [lf_get hr, lf_get hq] at h
    rw [lf_get hr] at hk
    by_cases c : k = 0 ∧ j ≤ i
    · rw [if_pos c] at h; cases h
    · rw [if_neg c, Option.map_eq_some_iff] at h
      obtain ⟨t, h1, rfl⟩ := h
      exact ⟨i, R[i], j, R[j], k, t, hr, hq, hk, c, h1, rfl⟩
  · rintro ⟨i, r, j, q, k, t, hr, hq, hk, c, h1, rfl⟩
    refine ⟨i, (List.getElem?_eq_some_iff.mp hr).1, j, (List.getElem?_eq_some_iff.mp hq).1, k, by rw [lf_get hr]; exact hk, ?_⟩
    rw [lf_get hr, lf_get hq, if_neg c, h1]; rfl
/-- a text is less than another one -/
def keyLt (a b : T) : Bool := if a.length = b.length then decide (a < b) else decide (a.length < b.length)
/-- an overlap whose results have one end -/
def okOv (R : List Rule) (o : Ov) : Bool := match R[o.2.1]?, R[o.2.2.2]? with
  | some r, some q => decide (left R (res1 r o.1) = left R (res2 q o.1 o.2.2.1))
  | _, _ => true
def qstep (R : List Rule) (best : Option T) (o : Ov) : Option T :=
  if (match best with | none => true | some b => keyLt o.1 b) = true then (if okOv R o = true then best else some o.1) else best
def quarrel (R : List Rule) : Option T := (ovs R).foldl (qstep R) none
theorem qstep_none {R : List Rule} {b : Option T} {o : Ov} (h : qstep R b o = none) : b = none ∧ okOv R o = true := by
  unfold qstep at h
  cases hb : b with
  | none =>
    subst hb
    refine ⟨rfl, ?_⟩
    simp only [if_true] at h
    cases c : okOv R o with
    | true => rfl
    | false => rw [c] at h; simp at h
  | some b' =>
    subst hb
    exfalso
    cases c : okOv R o <;> cases d : keyLt o.1 b' <;> simp [c, d] at h
theorem foldl_q {R : List Rule} : ∀ (l : List Ov) (b : Option T), l.foldl (qstep R) b = none → b = none ∧ ∀ o ∈ l, okOv R o = true
  | [], b, h => ⟨h, by simp⟩
  | o :: l, b, h => by
    obtain ⟨h1, h2⟩ := foldl_q l (qstep R b o) h
    have := qstep_none h1
    exact ⟨this.1, fun o' ho => by
      rcases List.mem_cons.mp ho with rfl | q
      · exact this.2
      · exact h2 o' q⟩
theorem foldl_q' {R : List Rule} : ∀ (l : List Ov), (∀ o ∈ l, okOv R o = true) → l.foldl (qstep R) none = none
  | [], _ => rfl
  | o :: l, h => by
    have : qstep R none o = none := by
      unfold qstep
      simp only [if_true]
      rw [if_pos (h o List.mem_cons_self)]
    rw [List.foldl_cons, this]
    exact foldl_q' l fun o' ho => h o' (List.mem_cons_of_mem _ ho)
theorem quarrel_none {R : List Rule} : quarrel R = none ↔ ∀ o ∈ ovs R, okOv R o = true :=
  ⟨fun h => (foldl_q _ _ h).2, foldl_q' _⟩
theorem over_symm {a b t : T} (h : over a b 0 = some t) : over b a 0 = some t := by
  unfold over at h ⊢
  simp only [List.drop_zero, Nat.sub_zero] at h ⊢
  rw [Nat.min_comm b.length a.length]
  generalize hm : min a.length b.length = m at h ⊢
  by_cases c : a.take m = b.take m
  · rw [if_pos c] at h
    rw [if_pos c.symm, ← h]
    congr 1
    rcases Nat.le_total a.length b.length with q | q
    · have e : m = a.length := by omega
      have e1 : a.drop m = [] := List.drop_eq_nil_of_le (by omega)
      have e2 : a.take m = a := List.take_of_length_le (by omega)
      rw [e1, List.append_nil, ← e2, c, List.take_append_drop]
    · have e1 : b.drop m = [] := List.drop_eq_nil_of_le (by omega)
      have e2 : b.take m = b := List.take_of_length_le (by omega)
      rw [e1, List.append_nil, ← e2, ← c, List.take_append_drop]
  · rw [if_neg c] at h; cases h
/-- a book without quarrel meets -/
theorem meets_of {R : List Rule} (w : Wf R) (h : quarrel R = none) : Meets R := by
  have ok := quarrel_none.mp h
  have use : ∀ (i : Nat) (r : Rule) (j : Nat) (q : Rule) (k : Nat) (t : T), R[i]? = some r → R[j]? = some q → k < r.1.length → ¬ (k = 0 ∧ j ≤ i) → over r.1 q.1 k = some t → left R (res1 r t) = left R (res2 q t k) := by
    intro i r j q k t hr hq hk c ho
    have := ok (t, i, k, j) (mem_ovs.mpr ⟨i, r, j, q, k, t, hr, hq, hk, c, ho, rfl⟩)
    unfold okOv at this
    simp only [hr, hq, decide_eq_true_eq] at this
    exact this
  intro r hr q hq k hk t ho
  obtain ⟨i, hi, rfl⟩ := List.mem_iff_getElem.mp hr
  obtain ⟨j, hj, rfl⟩ := List.mem_iff_getElem.mp hq
  have gi : R[i]? = some R[i] := by simp [hi]
  have gj : R[j]? = some R[j] := by simp [hj]
  by_cases c : k = 0 ∧ j ≤ i
  · obtain ⟨rfl, hji⟩ := c
    -- at place 0 the pair stands the other way round, or it is one rule
    by_cases e : j = i
    · subst e
      unfold over at ho
      simp at ho
      subst ho
      unfold res1 res2
      simp
    · have h1 := over_symm ho
      have hk' : 0 < R[j].1.length := by
        have := (w R[j] hq).1
        omega
      have := use j R[j] i R[i] 0 t gj gi hk' (by omega) h1
      unfold res1 res2 at this ⊢
      simp at this ⊢
      exact this.symm
  · exact use i R[i] j R[j] k t gi gj hk c ho
end Bk
namespace Bk
theorem ovP_len (i : Nat) (l : T) (j : Nat) (r : T) (n : Nat) : (ovP i l j r n).length ≤ n := by
  unfold ovP
  exact Nat.le_trans (List.length_filterMap_le _ _) (by simp)
theorem ovJ_len (R : List Rule) (i n : Nat) : (ovJ R i n).length ≤ n * (lf R i).length := by
  induction n with
  | zero => simp [ovJ]
  | succ n ih =>
    rw [ovJ_succ, List.length_append, Nat.succ_mul]
    have := ovP_len i (lf R i) n (lf R n) (lf R i).length
    omega
theorem ovI_len {R : List Rule} {m : Nat} (h : ∀ i, (lf R i).length ≤ m) (n : Nat) : (ovI R n).length ≤ n * (R.length * m) := by
  induction n with
  | zero => simp [ovI]
  | succ n ih =>
    rw [ovI_succ, List.length_append, Nat.succ_mul]
    have h1 := ovJ_len R n R.length
    have h2 : R.length * (lf R n).length ≤ R.length * m := Nat.mul_le_mul_left _ (h n)
    omega
theorem lf_le {R : List Rule} {m : Nat} (h : ∀ r ∈ R, r.1.length ≤ m) (i : Nat) : (lf R i).length ≤ m := by
  unfold lf
  rw [List.getD_eq_getElem?_getD]
  cases e : R[i]? with
  | none => simp
  | some r => exact h r (List.mem_of_getElem? e)
end Bk
set_option Elab.async false
set_option linter.all false
set_option maxRecDepth 100000
namespace Sh
open PySem PySem.Spec PyProof.Rows L2
/-! ### t < u of tuples of ints and texts -/
def sameK : V → V → Bool
  | .int _, .int _ => true
  | .str _, .str _ => true
  | _, _ => false
def sameKs : List V → List V → Bool
  | x :: xs, y :: ys => sameK x y && sameKs xs ys
  | _, _ => true
def vLt : V → V → Bool
  | .int i, .int j => decide (i < j)
  | .str a, .str b => decide (a.cps.toList < b.cps.toList)
  | _, _ => false
def tupLt : List V → List V → Bool
  | [], [] => false
  | [], _ :: _ => true
  | _ :: _, [] => false
  | x :: xs, y :: ys => if x = y then tupLt xs ys else vLt x y
theorem lexAt_tup : ∀ (xs ys : List V) (e r : Nat → Bool) (k : Nat), sameKs xs ys = true →
    (∀ j x y, xs[j]? = some x → ys[j]? = some y → e (k + j) = decide (x = y)) → (∀ j x y, xs[j]? = some x → ys[j]? = some y → r (k + j) = vLt x y) →
    Ob.lexAt e r (decide (xs.length < ys.length)) k (min xs.length ys.length) = tupLt xs ys
  | [], [], e, r, k, _, _, _ => rfl
  | [], _ :: _, e, r, k, _, _, _ => by
    show Ob.lexAt e r (decide (0 < _ + 1)) k 0 = true
    rw [Ob.lexAt_zero]
    exact decide_eq_true (by omega)
  | _ :: _, [], e, r, k, _, _, _ => by
    show Ob.lexAt e r (decide (_ + 1 < 0)) k 0 = false
    rw [Ob.lexAt_zero]
    exact decide_eq_false (by omega)
  | x :: xs, y :: ys, e, r, k, hs, he, hr => by
    have e0 := he 0 x y rfl rfl
    have r0 := hr 0 x y rfl rfl
    rw [Nat.add_zero] at e0 r0
    have hs2 : sameKs xs ys = true := by
      have : (sameK x y && sameKs xs ys) = true := hs
      rw [Bool.and_eq_true] at this
      exact this.2
    have ih := lexAt_tup xs ys e r (k + 1) hs2 (fun j a b h1 h2 => by have := he (j + 1) a b (by simpa using h1) (by simpa using h2); rw [← this]; congr 1; omega)
      (fun j a b h1 h2 => by have := hr (j + 1) a b (by simpa using h1) (by simpa using h2); rw [← this]; congr 1; omega)
    have em : min (x :: xs).length (y :: ys).length = min xs.length ys.length + 1 := by simp only [List.length_cons]; omega
    have el : decide ((x :: xs).length < (y :: ys).length) = decide (xs.length < ys.length) := by
      simp only [List.length_cons]
      exact decide_eq_decide.mpr (by omega)
    rw [em, el, Ob.lexAt_succ, e0, r0, ih]
    show _ = if x = y then tupLt xs ys else vLt x y
    by_cases h : x = y
    · rw [if_pos h, if_pos (decide_eq_true h)]
    · rw [if_neg h, if_neg (by simpa using h)]
theorem sameKs_get : ∀ {xs ys : List V}, sameKs xs ys = true → ∀ {j : Nat} {x y : V}, xs[j]? = some x → ys[j]? = some y → sameK x y = true
  | [], _, _, j, _, _, h, _ => by simp at h
  | _ :: _, [], _, j, _, _, _, h => by simp at h
  | x :: xs, y :: ys, hs, j, a, b, h1, h2 => by
    have hs' : (sameK x y && sameKs xs ys) = true := hs
    rw [Bool.and_eq_true] at hs'
    cases j with
    | zero => simp at h1 h2; subst h1; subst h2; exact hs'.1
    | succ j => exact sameKs_get hs'.2 (by simpa using h1) (by simpa using h2)
def rLtTM (K : PySem.W.Frag) : R2 := fun x y H Q => ∃ a b xs ys, x = .ref a ∧ y = .ref b ∧ SqT K H a xs ∧ SqT K H b ys ∧ sameKs xs ys = true ∧ Q (.bl (tupLt xs ys)) H
theorem op_ltTM {X : Cx} (hu : X.A.units + 64 < cLine) : OpR X (compareOp .Lt) (rLtTM X.K) := by
  intro pins s σ H x y v u Q I rx ry h
  obtain ⟨a, b, xs, ys, rfl, rfl, ha, hb, hk, q⟩ := h
  cases rx
  cases ry
  obtain ⟨its, r1, p1, _⟩ := I.tuple ha
  obtain ⟨its2, r2, p2, _⟩ := I.tuple hb
  have l1 : its.toArray.size = xs.length := by rw [List.size_toArray]; exact r1.length.symm
  have l2 : its2.toArray.size = ys.length := by rw [List.size_toArray]; exact r2.length.symm
  have get : ∀ (j : Nat) (h1 : j < its.toArray.size) (h2 : j < its2.toArray.size), ∃ x y, xs[j]? = some x ∧ ys[j]? = some y ∧ RelV x its.toArray[j] ∧ RelV y its2.toArray[j] ∧ sameK x y = true := by
    intro j h1 h2
    have g1 : j < xs.length := l1 ▸ h1
    have g2 : j < ys.length := l2 ▸ h2
    obtain ⟨u1, e1, q1⟩ := r1.get (List.getElem?_eq_getElem g1)
    obtain ⟨u2, e2, q2⟩ := r2.get (List.getElem?_eq_getElem g2)
    have f1 : its.toArray[j] = u1 := by
      have : its[j]? = some its[j] := List.getElem?_eq_getElem (by simpa using h1)
      rw [this] at e1
      simpa using Option.some.inj e1
    have f2 : its2.toArray[j] = u2 := by
      have : its2[j]? = some its2[j] := List.getElem?_eq_getElem (by simpa using h2)
      rw [this] at e2
      simpa using Option.some.inj e2
    exact ⟨xs[j], ys[j], List.getElem?_eq_getElem g1, List.getElem?_eq_getElem g2, f1 ▸ q1, f2 ▸ q2, sameKs_get hk (List.getElem?_eq_getElem g1) (List.getElem?_eq_getElem g2)⟩
  let e : Nat → Bool := fun j => match xs[j]?, ys[j]? with
    | some x, some y => decide (x = y)
    | _, _ => false
  let r : Nat → Bool := fun j => match xs[j]?, ys[j]? with
    | some x, some y => vLt x y
    | _, _ => false
  have key := Ob.RcOp.tuples_lt (A := X.A) (s := s) (e := e) (r := r) p1 p2 (by omega) (fun j h1 h2 => ?_) (fun j h1 h2 _ => ?_)
  · rw [l1, l2, lexAt_tup xs ys e r 0 hk (fun j x y h1 h2 => by rw [Nat.zero_add]; simp only [e, h1, h2]) (fun j x y h1 h2 => by rw [Nat.zero_add]; simp only [r, h1, h2])] at key
    exact key X.prog X.w X.xe _ ⟨.bl (tupLt xs ys), H, I, rfl, q⟩
  · obtain ⟨x, y, g1, g2, q1, q2, hk2⟩ := get j h1 h2
    have he : e j = decide (x = y) := by simp only [e, g1, g2]
    rw [he]
    cases x <;> cases y <;> first | cases hk2 | skip
    · obtain ⟨t1, z1⟩ := q1
      obtain ⟨t2, z2⟩ := q2
      rw [z1, z2]
      have := SeqAt.EqAt.int_int (A := X.A.in1) (s := s)
      rename_i i k
      have w1 := this i t1 k t2
      have w2 : (i == k) = decide (V.int i = V.int k) := by
        by_cases hh : i = k
        · subst hh; simp
        · rw [decide_eq_false (fun z => hh (V.int.inj z))]; exact beq_eq_false_iff_ne.mpr hh
      rw [w2] at w1
      exact w1
    · obtain ⟨t1, z1⟩ := q1
      obtain ⟨t2, z2⟩ := q2
      rw [z1, z2]
      have := SeqAt.EqAt.str_str (A := X.A.in1) (s := s)
      rename_i i k
      have w1 := this i t1 k t2
      have w2 : (i == k) = decide (V.str i = V.str k) := by
        by_cases hh : i = k
        · subst hh; simp
        · rw [decide_eq_false (fun z => hh (V.str.inj z))]; exact beq_eq_false_iff_ne.mpr hh
      rw [w2] at w1
      exact w1
  · obtain ⟨x, y, g1, g2, q1, q2, hk2⟩ := get j h1 h2
    have he : r j = vLt x y := by simp only [r, g1, g2]
    rw [he]
    cases x <;> cases y <;> first | cases hk2 | skip
    · obtain ⟨t1, z1⟩ := q1
      obtain ⟨t2, z2⟩ := q2
      rw [z1, z2]
      exact Ob.RcOp.lt_int _ _ _ _
    · obtain ⟨t1, z1⟩ := q1
      obtain ⟨t2, z2⟩ := q2
      rw [z1, z2]
      exact fun _ _ _ _ h => PyProof.Rows.lt_str h
/-! ### repr of data of None, bools, ints, texts and tuples -/
theorem call_reprD {X : Cx} (hg : X.A.guards = some []) (hu : X.A.units + 64 < cLine) :
    CallR X (.builtin "repr") (fun xs H Q => ∃ v d, xs = [v] ∧ Dp X.K H v d ∧ d.showable = true ∧ d.hasDict = false ∧ d.depth ≤ 60 ∧ d.shown.length ≤ sizeLine ∧ Q (.str d.shown) H) := by
  intro pins s σ H xs us Q I r h
  obtain ⟨v, d, rfl, hd, h1, h2, h3, h4, q⟩ := h
  cases r with
  | cons rv rn =>
    cases rn
    rename_i u
    obtain ⟨as, hr⟩ := Dp.reads I d v u hd rv
    have big : ∀ a : Addr, u = .ref a → wpAny (model X.prog X.w) X.A (call (.builtin "repr") [u]) (EP X pins σ Q) X.xe s := fun a e => by
      subst e
      exact PySem.repr_of_reads' hr h1 (fun z => by rw [h2] at z; cases z) hg (by omega) (fun _ _ e => e) (fun h' w tk k => ⟨.str d.shown, H, I.kept k, ⟨_, rfl⟩, q⟩) h4
    cases hd with
    | non =>
      cases (show u = Value.none from rv)
      exact PySem.P.repr_of_none ⟨.str _, H, I.tok _, ⟨_, rfl⟩, q⟩
    | bl b =>
      cases (show u = Value.bool b from rv)
      refine PySem.P.repr_of_bool ⟨.str _, H, I.tok _, ⟨_, rfl⟩, q⟩
    | int i =>
      obtain ⟨t, e⟩ := (show ∃ t, u = Value.int i t from rv)
      subst e
      have h1' : i.natAbs.log2 < 1920 := by simpa [PyData.showable] using h1
      exact PySem.P.repr_of_int h1' ⟨.str _, H, I.tok _, ⟨_, rfl⟩, q⟩
    | str x =>
      obtain ⟨t, e⟩ := (show ∃ t, u = Value.str x t from rv)
      subst e
      exact PySem.P.repr_of_str ⟨.str _, H, I.tok _, ⟨_, rfl⟩, q⟩ h4
    | lst hs ha => exact big _ rv
    | tup hs ha => exact big _ rv
end Sh
set_option Elab.async false
set_option linter.all false
set_option maxRecDepth 100000
set_option maxHeartbeats 2000000
namespace Sh
open PySem PySem.Spec PyProof.Rows
section
variable {prog : Program} {w : World} {A : Around} {E : Value → Shared → Prop} {s : Shared} {K : PySem.W.Frag} {x C f : Addr} {ox : Obj} {odd : Option Obj}
theorem truthy_own {Q : Bool → Shared → Prop} (X : K.In s.heap) (I : PySem.W.InstAt s.heap x ox C odd) (hs : PySem.W.findIn K (.ref C) "__bool__" = some (some (.ref f))) (hf : PySem.W.isFn K (.ref f) = true)
    (h : wpAny (model prog w) A (call (.ref f) [.ref x]) (fun r s₁ => ∃ b, r = Value.bool b ∧ Q b s₁) E s) : wpAny (model prog w) A (truthy (.ref x)) Q E s := by
  unfold truthy
  first
    | refine wpAny_bind (m := callSpecial? (.ref x) (Str.ofString "__bool__")) (PySem.W.special_fn X I hs (beq_iff_eq.mp hf) (wpAny_mono h (fun r s' hr => ?_) fun _ _ y => y))
    | refine wpAny_bind (wpAny_pure (wpAny_bind (m := callSpecial? (.ref x) (Str.ofString "__bool__")) (PySem.W.special_fn X I hs (beq_iff_eq.mp hf) (wpAny_mono h (fun r s' hr => ?_) fun _ _ y => y))))
  obtain ⟨b, rfl, hq⟩ := hr
  first
    | exact wpAny_pure hq
    | exact wpAny_bind (wpAny_pure hq)
theorem meets_bool_own : MeetsIn prog w (Builtin.«bool.__new__» ⟨[.type "bool", .ref x], []⟩) (fun A R s => K.In s.heap ∧ PySem.W.InstAt s.heap x ox C odd ∧ PySem.W.findIn K (.ref C) "__bool__" = some (some (.ref f)) ∧ PySem.W.isFn K (.ref f) = true ∧
    wpAny (model prog w) A.in1 (call (.ref f) [.ref x]) (fun r s₁ => ∃ b, r = Value.bool b ∧ R (.ok (.ret (.bool b))) s₁) (fun e s' => R (.error e) s') s) :=
  MeetsIn.of_wp fun A R s hs => by
    obtain ⟨X, I, h1, h2, h⟩ := hs
    have f1 := F.conv_sub_bool
    have key : ∀ Q : Bool → Shared → Prop, (∀ b s₁, R (.ok (.ret (.bool b))) s₁ → Q b s₁) → wpAny (model prog w) A.in1 (truthy (.ref x)) Q (fun e s' => R (.error e) s') s := fun Q hq =>
      truthy_own X I h1 h2 (wpAny_mono h (fun r s₁ ⟨b, e, k⟩ => ⟨b, e, hq b s₁ k⟩) fun _ _ z => z)
    obtain ⟨hp, g, d, tk, os⟩ := s
    repeat (any_goals (first | assumption | (with_reducible refine key _ fun b s₁ k => ?_) | wp_step))
    all_goals first | exact ⟨_, rfl, by assumption⟩ | skip
theorem call_bool_own {Q : Value → Shared → Prop} (X : K.In s.heap) (I : PySem.W.InstAt s.heap x ox C odd) (hs : PySem.W.findIn K (.ref C) "__bool__" = some (some (.ref f))) (hf : PySem.W.isFn K (.ref f) = true)
    (h : wpAny (model prog w) A.in1.in1 (call (.ref f) [.ref x]) (fun r s₁ => ∃ b, r = Value.bool b ∧ Q r s₁) E s) : wpAny (model prog w) A (call (.type "bool") [.ref x]) Q E s := by
  refine callType_newIn F.called_bool F.newNe_bool (F.typeCall_bool_1 _) (F.newCall_bool_1 _) (fun obj => F.args_object_init_2 obj _) F.entry_bool_new (meets_bool_own (K := K) (C := C) (f := f) (ox := ox) (odd := odd)) ⟨X, I, hs, hf, ?_⟩
  refine wpAny_mono h (fun r s₁ ⟨b, e, k⟩ => ⟨b, e, ?_⟩) fun _ _ z => z
  subst e
  exact ⟨rfl, k⟩
end
end Sh
namespace Sh
open PySem PySem.Spec PyProof.Rows L2
section
variable {X : Cx} {CX : CXT} {C g : Addr} {n : Nat} {sp : Sp} {E : XK}
theorem fnR_of {P : Program} {w : World} {K : PySem.W.Frag} {mg : Str → Option Value} {base : Heap} {k : Nat} {f : Addr} {fd : FuncData} {ps : List Str} (F : FnOk P w K mg base CX k f fd ps sp) (b : Binds K fd ps []) : FnR P w K mg base CX k f sp := by
  intro A outer s H us vs Q E hr e0 r h
  have hl := F.len _ _ _ _ h
  have KX : K.In s.heap := e0.mod.kin.keeps fun b o e => (e0.bs b o e).1
  have hul : (us ++ []).length = ps.length := by rw [List.append_nil, ← r.length]; exact hl
  have hb := b s us KX hul
  rw [List.append_nil] at hb
  exact F.run A outer s H ⟨us, []⟩ us vs Q E hr e0 hb r h
/-- the callee runs below the running body -/
theorem run_in {pins : List (Addr × Obj)} {σ : L2.St} {H : Hp} {s : Shared} {A : Around} {Q : VK} {us : List Value} {ws : List V} (F : FnR X.prog X.w X.K X.mg X.base CX n g sp) (hr : Room n A) (e0 : Env0 X.prog X.w X.K X.mg X.base A X.stack s H) (hx : Passes CX X E)
    (I : Inv X pins σ H s) (r : Vals ws us) (h : sp ws H Q E) : wpAny (model X.prog X.w) A (call (.ref g) us) (EP X pins σ Q) X.xe s := by
  refine wpAny_call (codeAny_mono (F A X.stack s H us ws Q E hr e0 r h) fun r s' hq => ?_)
  cases r with
  | error e => exact hx pins σ H s e s' I hq
  | ok fl =>
    cases fl with
    | ret u => exact I.after hq
    | next => exact False.elim hq
    | brk => exact False.elim hq
    | cont => exact False.elim hq
/-- bool(x), x an instance of the class at C with an own __bool__ -/
def rBoolO (C : Addr) (sp : Sp) (E : XK) : List V → Hp → VK → Prop := fun xs H Q => ∃ a dx fs, xs = [V.ref a] ∧ H a = some (.ins C dx fs) ∧ sp [.ref a] H (fun z H' => ∃ b, z = .bl b ∧ Q z H') E
theorem call_boolO (hs : PySem.W.findIn X.K (.ref C) "__bool__" = some (some (.ref g))) (hf : PySem.W.isFn X.K (.ref g) = true) (F : FnR X.prog X.w X.K X.mg X.base CX n g sp) (hr : Room (n + 2) X.A) (hx : Passes CX X E) : CallR X (.type "bool") (rBoolO C sp E) := by
  intro pins s σ H xs us Q I r h
  obtain ⟨a, dx, fs, rfl, ha, q⟩ := h
  obtain rfl := Vals.ref1 r
  obtain ⟨ox, od, J, _⟩ := StX.insC_at (C := C) I (.inr ⟨dx, fs, ha⟩)
  have hr2 : Room n X.A.in1.in1 := (show Room (n + 1) X.A.in1 from Room.in1 hr).in1
  refine call_bool_own I.kIn J hs hf (wpAny_mono (run_in (us := [.ref a]) (ws := [.ref a]) F hr2 I.env0.in1.in1 hx I (.cons rfl .nil) q) (fun v s' z => ?_) fun _ _ x => x)
  obtain ⟨z', H', I', rz, b, eb, qz⟩ := z
  subst eb
  cases (show v = Value.bool b from rz)
  exact ⟨b, rfl, .bl b, H', I', rfl, qz⟩
end
end Sh
set_option Elab.async false
set_option linter.all false
set_option maxRecDepth 100000
set_option maxHeartbeats 4000000
namespace Sh
open PySem PySem.Spec PyProof.Rows L2
open SX (S S_inj S_len S_cat)
open Bk (Rule firstAt lg bestUp used left drain pushS Wf Ov ovAt ovP ovJ ovI ovs lf over res1 res2 okOv qstep quarrel keyLt)
local macro_rules | `(tactic| walk_at "nx") => `(tactic| repeat (with_reducible first | refine Sh.gn_mk ?_ | refine Sh.nx_mk ?_ | refine Sh.st_nx ?_ | refine Sh.rt_mk ?_ | refine Sh.ct_mk ?_ | refine Sh.bk_mk ?_))
local macro_rules | `(tactic| walk_at "sq") => `(tactic| first | exact SqL.of upd_same | exact SqT.of upd_same | exact SqL.of (by assumption) | exact SqT.of (by assumption) | assumption | exact Or.inl (SqL.of (by assumption)) | exact Or.inr (SqT.of (by assumption)) | exact Or.inl (by assumption) | exact Or.inr (by assumption))
local macro_rules | `(tactic| walk_at "hp") => `(tactic| first | exact upd_same | assumption)
local macro_rules | `(tactic| walk_at "sz") => `(tactic| first | exact Nat.le_of_ble_eq_true rfl | omega)
local macro_rules | `(tactic| walk_at "sd") => `(tactic| first | omega | exact rfl | assumption | (show (0 : Int) < _; omega) | exact And.intro (by omega) (by omega) | exact Or.inl (And.intro (by omega) (by omega)) | exact Or.inr (And.intro (by omega) (by omega)) | omega | exact Sh.sz_S (by omega) | decide)
local macro_rules | `(tactic| walk_at "rd1") => `(tactic| first
  | (with_reducible first | refine Sh.gn_mk ?_ | refine Sh.nx_mk ?_ | refine Sh.st_nx ?_ | refine Sh.rt_mk ?_ | refine Sh.ct_mk ?_ | refine Sh.bk_mk ?_)
  | refine Exists.intro (α := V) _ (And.intro rfl ?_)
  | refine Exists.intro (α := Bool) _ (And.intro rfl ?_)
  | refine Exists.intro (α := Int) _ (And.intro rfl ?_)
  | refine Exists.intro (α := PySem.Str) _ (And.intro rfl ?_)
  | refine Exists.intro (α := Int) _ (Exists.intro (α := Int) _ (And.intro rfl (And.intro rfl ?_)))
  | refine Exists.intro (α := PySem.Str) _ (Exists.intro (α := PySem.Str) _ (And.intro rfl (And.intro rfl ?_)))
  | refine Exists.intro (α := Int) _ (Exists.intro (α := Int) _ (And.intro rfl ?_))
  | refine Or.inl (Exists.intro (α := Int) _ (And.intro rfl ?_))
  | refine Exists.intro _ (Exists.intro _ (Exists.intro _ (Exists.intro _ (And.intro rfl (And.intro rfl (And.intro (by walk_at "sq") (And.intro rfl ?_)))))))
  | refine Exists.intro _ (Exists.intro _ (Exists.intro _ (Exists.intro _ (And.intro rfl (And.intro rfl (And.intro (by walk_at "hp") (And.intro rfl ?_)))))))
  | refine And.intro (by walk_at "sd") ?_
  )
local macro_rules | `(tactic| walk_at "rd") => `(tactic| repeat walk_at "rd1")
local macro_rules | `(tactic| walk_at "lk") => `(tactic| first | exact rfl | (rw [lookup_putF, if_pos rfl]) | (rw [lookup_putF, if_neg (by decide +kernel)]; walk_at "lk"))

section
variable {P : Program} {w : World} {K : PySem.W.Frag} {mg : Str → Option Value} {base : Heap}
def ovTup (o : Ov) : List V := [.str (S o.1), .int (o.2.1 : Nat), .int (o.2.2.1 : Nat), .int (o.2.2.2 : Nat)]
def OvV (H : Hp) (v : V) (o : Ov) : Prop := ∃ q, v = .ref q ∧ H q = some (.tup (ovTup o))
theorem OvV.same {H H' : Hp} {v : V} {o : Ov} (s : Same H H') (h : OvV H v o) : OvV H' v o := let ⟨q, e, h⟩ := h; ⟨q, e, s _ _ h⟩
theorem OvV.mut {H : Hp} {v : V} {o : Ov} {p : Addr} {xs ys : List V} (hp : H p = some (.lst xs)) (h : OvV H v o) : OvV (upd H p (.lst ys)) v o := by
  obtain ⟨q, e, h⟩ := h
  exact ⟨q, e, by rw [upd_ne (ne_of h hp (by intro z; cases z))]; exact h⟩
def spRows (K : PySem.W.Frag) : Sp := fun vs H Q _ => ∃ (a : Addr) (xs : List V) (R : List Rule), vs = [.ref a] ∧ RulesAt K H a xs R ∧ R.length ≤ 64 ∧ (∀ r ∈ R, r.1.length ≤ 4) ∧
  ∀ (p : Addr) (ys : List V) (H' : Hp), H p = none → Same H H' → H' p = some (.lst ys) → Items OvV H' ys (ovs R) → Q (.ref p) H'
theorem c_overlap_rows (T : Txt K mg) : Cal P w K mg base CX0 1 "overlap_rows" (spRows K) := by
  refine Cal.mk0 T.d_overlap_rows sc_overlap_rows (fun vs H Q E h => ?_) (fun f cdv A outer s H vs Q E hr h => ?_)
  · obtain ⟨a, xs, R, rfl, _⟩ := h
    rfl
  · obtain ⟨a, xs, R, rfl, hR, hl, h4, k⟩ := h
    have hlx := hR.len
    refine ⟨_, (pss_cons (ps_set (i := 1) sc_overlap_rows.nd rfl (Or.inl rfl) (pe_lst pa_nil))
  (pss_cons (ps_for PassesOwn.never rfl (pi_range1 (by rfl) T.b_range (pa_cons (pe_callB call_len_seq (by rfl) T.b_len (by decide +kernel) (pa_cons (pv 0) pa_nil)) pa_nil)) (pg_name (i := 2) sc_overlap_rows.nd rfl (Or.inl rfl))
    (pss_cons (ps_set (i := 3) sc_overlap_rows.nd rfl (Or.inl rfl) (pe_ix ix_tup (pe_ix ix_tup (pv 0) (pv 2) (fun _ _ => rfl)) pe_int (fun _ _ => rfl)))
    (pss_one (ps_for PassesOwn.never rfl (pi_range1 (by rfl) T.b_range (pa_cons (pe_callB call_len_seq (by rfl) T.b_len (by decide +kernel) (pa_cons (pv 0) pa_nil)) pa_nil)) (pg_name (i := 4) sc_overlap_rows.nd rfl (Or.inl rfl))
      (pss_cons (ps_set (i := 5) sc_overlap_rows.nd rfl (Or.inl rfl) (pe_ix ix_tup (pe_ix ix_tup (pv 0) (pv 4) (fun _ _ => rfl)) pe_int (fun _ _ => rfl)))
      (pss_one (ps_for PassesOwn.never rfl (pi_range1 (by rfl) T.b_range (pa_cons (pe_callB call_len_str (by rfl) T.b_len (by decide +kernel) (pa_cons (pv 3) pa_nil)) pa_nil)) (pg_name (i := 6) sc_overlap_rows.nd rfl (Or.inl rfl))
        (pss_cons (ps_if (PW.pt (pw_and (pt_cmpR op_eq (pv 6) pe_int (nomark _)) (pw_and1 (pt_cmpR op_ge (pv 2) (pv 4) (nomark _)))))
          (pss_one ps_continue)
          pss_nil)
        (pss_cons (ps_set (i := 7) sc_overlap_rows.nd rfl (Or.inl rfl) (pe_callB (call_min2 rfl) (by rfl) T.b_min (by decide +kernel) (pa_cons (pe_op op_sub (pe_callB call_len_str (by rfl) T.b_len (by decide +kernel) (pa_cons (pv 3) pa_nil)) (pv 6)) (pa_cons (pe_callB call_len_str (by rfl) T.b_len (by decide +kernel) (pa_cons (pv 5) pa_nil)) pa_nil))))
        (pss_one (ps_if (pt_cmpR op_eq (pe_slice sl_str (pv 3) (po_some (pv 6)) (po_some (pe_op op_add (pv 6) (pv 7)))) (pe_slice sl_str (pv 5) po_none (po_some (pv 7))) (nomark _))
          (pss_one (ps_expr (pe_bm PySem.F.plainAttrs_list PySem.F.slot_list_append PySem.F.type_list_append mt_append (pv 1) (pa_cons (pe_tup (pa_cons (pe_op op_add_str (pv 3) (pe_slice sl_str (pv 5) (po_some (pv 7)) po_none)) (pa_cons (pv 2) (pa_cons (pv 6) (pa_cons (pv 4) pa_nil))))) pa_nil))))
          pss_nil)))))))))))
  (pss_one (ps_ret (pv 1))))), ?_⟩
    refine ⟨by walk_at "sz", fun p hp => ?_⟩
    have s1 : Same H (upd H p (.lst [])) := same_new hp
    refine ⟨_, rfl, a, xs, rfl, .inr (hR.same s1).sq, ?_⟩
    walk_at "rd"
    refine for_range (lo := 0) (n := ((xs.length : Int)).toNat) (fun i σ H2 => ∃ (ys : List V) (v2 v3 v4 v5 v6 v7 : Option V), σ = [some (.ref a), some (.ref p), v2, v3, v4, v5, v6, v7] ∧ Same H H2 ∧ H2 p = some (.lst ys) ∧ Items OvV H2 ys (ovI R i))
      ⟨[], _, _, _, _, _, _, rfl, s1, upd_same, Items.nil⟩ ?_ ?_
    · rintro i σ H2 hi ⟨ys, v2, v3, v4, v5, v6, v7, rfl, s2, hp2, it2⟩
      rw [Int.zero_add]
      have hi2 : i < R.length := by omega
      have hr2 : R[i]? = some R[i] := by simp [hi2]
      have hli : lf R i = R[i].1 := Bk.lf_get hr2
      obtain ⟨q, hq, sq⟩ := (hR.same s2).get hr2
      refine ⟨_, rfl, _, rfl, a, xs, _, .ref q, rfl, rfl, (hR.same s2).sq, atI_nat hq, q, _, 0, .str (S R[i].1), rfl, rfl, sq, rfl, ?_⟩
      walk_at "nx"
      refine ⟨_, rfl, a, xs, rfl, .inr (hR.same s2).sq, ?_⟩
      walk_at "rd"
      refine for_range (lo := 0) (n := ((xs.length : Int)).toNat) (fun j σ H3 => ∃ (ys : List V) (v4 v5 v6 v7 : Option V), σ = [some (.ref a), some (.ref p), some (.int (i : Nat)), some (.str (S R[i].1)), v4, v5, v6, v7] ∧ Same H H3 ∧ H3 p = some (.lst ys) ∧ Items OvV H3 ys (ovI R i ++ Bk.ovJ R i j))
        ⟨ys, _, _, _, _, rfl, s2, hp2, by simpa [ovJ] using it2⟩ ?_ ?_
      · rintro j σ H3 hj ⟨ys, v4, v5, v6, v7, rfl, s3, hp3, it3⟩
        rw [Int.zero_add]
        have hj2 : j < R.length := by omega
        have hr3 : R[j]? = some R[j] := by simp [hj2]
        have hlj : lf R j = R[j].1 := Bk.lf_get hr3
        obtain ⟨q3, hq3, sq3⟩ := (hR.same s3).get hr3
        have l4 : R[i].1.length ≤ 4 := h4 _ (List.getElem_mem hi2)
        have l4j : R[j].1.length ≤ 4 := h4 _ (List.getElem_mem hj2)
        refine ⟨_, rfl, _, rfl, a, xs, _, .ref q3, rfl, rfl, (hR.same s3).sq, atI_nat hq3, q3, _, 0, .str (S R[j].1), rfl, rfl, sq3, rfl, ?_⟩
        walk_at "nx"
        have hSl := S_len R[i].1
        have hSlj := S_len R[j].1
        walk_at "rd"
        refine for_range (lo := 0) (n := (((S R[i].1).length : Int)).toNat) (fun k σ H4 => ∃ (ys : List V) (v6 v7 : Option V), σ = [some (.ref a), some (.ref p), some (.int (i : Nat)), some (.str (S R[i].1)), some (.int (j : Nat)), some (.str (S R[j].1)), v6, v7] ∧ Same H H4 ∧ H4 p = some (.lst ys) ∧ Items OvV H4 ys (ovI R i ++ ovJ R i j ++ ovP i R[i].1 j R[j].1 k))
          ⟨ys, _, _, rfl, s3, hp3, by simpa [ovP] using it3⟩ ?_ ?_
        · rintro k4 σ H4 hk ⟨ys, v6, v7, rfl, s4, hp4, it4⟩
          rw [Int.zero_add]
          have hk2 : k4 < R[i].1.length := by omega
          have hz5 : ys.length < sizeLine := by
            have z1 := Bk.ovI_len (Bk.lf_le h4) i
            have z2 := Bk.ovJ_len R i j
            have z3 := Bk.ovP_len i R[i].1 j R[j].1 k4
            have z4 : i * (R.length * 4) ≤ 64 * (64 * 4) := Nat.mul_le_mul (by omega) (Nat.mul_le_mul (by omega) (by omega))
            have z5 : j * (lf R i).length ≤ 64 * 4 := Nat.mul_le_mul (by omega) (Bk.lf_le h4 i)
            have z6 := it4.1
            rw [List.length_append, List.length_append] at z6
            exact Nat.lt_of_le_of_lt (m := 100000) (by omega) (by decide)
          walk_at "nx"
          refine st_ifK (decide (k4 = 0 ∧ j ≤ i)) (fun Q' hQ => ?_) (fun hb => ?_) (fun hb => ?_)
          · walk_at "rd"
            refine ite2 (fun c => ?_) (fun c => ?_)
            · have c1 : k4 = 0 := by have := V.int.inj (of_decide_eq_true c); omega
              walk_at "rd"
              exact q_of hQ (decide_eq_decide.mpr (by omega))
            · have c1 : ¬ k4 = 0 := by
                intro e
                subst e
                exact c rfl
              exact q_of hQ (decide_eq_false (by omega)).symm
          · have hb' := of_decide_eq_true hb
            refine ⟨ys, _, _, rfl, s4, hp4, ?_⟩
            rw [Bk.ovP_succ, show ovAt i R[i].1 j R[j].1 k4 = none from if_pos hb']
            simpa using it4
          · have hb' := of_decide_eq_false hb
            walk_at "nx"
            have hmin : (if ((S R[j].1).length : Int) < (S R[i].1).length - (k4 : Int) then ((S R[j].1).length : Int) else (S R[i].1).length - (k4 : Int)) = ((min (R[i].1.length - k4) R[j].1.length : Nat) : Int) := by
              split <;> omega
            refine ⟨_, rfl, _, rfl, by walk_at "sd", _, rfl, _, _, rfl, rfl, _, rfl, _, rfl, by walk_at "sd", _, _, rfl, ?_⟩
            rw [hmin]
            generalize hm : min (R[i].1.length - k4) R[j].1.length = m
            walk_at "rd"
            rw [cut_mid (by omega) (by omega), cut_to (by omega)]
            rw [show ((k4 : Nat) : Int).toNat = k4 by omega, show (((k4 : Nat) : Int) + (m : Nat)).toNat - k4 = m by omega, show ((m : Nat) : Int).toNat = m by omega]
            by_cases hc : (R[i].1.drop k4).take m = R[j].1.take m
            · have ho : ovAt i R[i].1 j R[j].1 k4 = some (R[i].1 ++ R[j].1.drop m, i, k4, j) := by
                unfold ovAt over
                rw [if_neg hb', hm, if_pos hc]; rfl
              rw [show decide (V.str (S ((R[i].1.drop k4).take m)) = V.str (S (R[j].1.take m))) = true from decide_eq_true (by rw [hc])]
              refine iteT ?_
              refine ⟨_, rfl, .inl ⟨rfl, _, SqL.of hp4⟩, ?_⟩
              walk_at "rd"
              rw [cut_from (by omega), show ((m : Nat) : Int).toNat = m by omega]
              refine ⟨by rw [S_len, S_len]; exact Nat.le_trans (m := 8) (by simp; omega) (by decide), ?_⟩
              rw [S_cat]
              walk_at "rd"
              refine ⟨by walk_at "sz", fun q9 hq9 => ?_⟩
              have s5 : Same H4 (upd H4 q9 (.tup (ovTup (R[i].1 ++ R[j].1.drop m, i, k4, j)))) := same_new hq9
              refine ⟨p, _, _, rfl, rfl, s5 _ _ hp4, hz5, ?_⟩
              refine ⟨_, _, _, rfl, same_mut (s4.trans s5) hp, upd_same, ?_⟩
              rw [Bk.ovP_succ, ho, ← List.append_assoc]
              exact it4.snoc (fun x y r => (r.same s5).mut (s5 _ _ hp4)) ⟨q9, rfl, by rw [upd_ne (ne_of_none hp4 hq9).symm]; exact upd_same⟩
            · have ho : ovAt i R[i].1 j R[j].1 k4 = none := by
                unfold ovAt over
                rw [if_neg hb', hm, if_neg hc]; rfl
              rw [show decide (V.str (S ((R[i].1.drop k4).take m)) = V.str (S (R[j].1.take m))) = false from decide_eq_false (fun e => hc (S_inj (V.str.inj e)))]
              refine iteF ?_
              walk_at "rd"
              refine ⟨ys, _, _, rfl, s4, hp4, ?_⟩
              rw [Bk.ovP_succ, ho]
              simpa using it4
        · rintro σ H4 ⟨ys, v6, v7, rfl, s4, hp4, it4⟩
          walk_at "nx"
          refine ⟨ys, _, _, _, _, rfl, s4, hp4, ?_⟩
          rw [Bk.ovJ_succ, hli, hlj, ← List.append_assoc]
          rw [show (((S R[i].1).length : Int)).toNat = R[i].1.length by omega] at it4
          exact it4
      · rintro σ H3 ⟨ys, v4, v5, v6, v7, rfl, s3, hp3, it3⟩
        walk_at "nx"
        refine ⟨ys, _, _, _, _, _, _, rfl, s3, hp3, ?_⟩
        rw [Bk.ovI_succ]
        rw [show ((xs.length : Int)).toNat = R.length by omega] at it3
        exact it3
    · rintro σ H2 ⟨ys, v2, v3, v4, v5, v6, v7, rfl, s2, hp2, it2⟩
      walk_at "rd"
      rw [show ((xs.length : Int)).toNat = R.length by omega] at it2
      exact k p ys H2 hp s2 hp2 it2
end
end Sh
set_option Elab.async false
set_option linter.all false
set_option maxRecDepth 100000
set_option maxHeartbeats 4000000
namespace Sh
open PySem PySem.Spec PyProof.Rows L2
open SX (S S_inj S_len S_cat)
open Bk (Rule firstAt lg bestUp used left drain pushS Wf Ov ovAt ovP ovJ ovI ovs lf over res1 res2 okOv qstep quarrel keyLt)
local macro_rules | `(tactic| walk_at "nx") => `(tactic| repeat (with_reducible first | refine Sh.gn_mk ?_ | refine Sh.nx_mk ?_ | refine Sh.st_nx ?_ | refine Sh.rt_mk ?_ | refine Sh.ct_mk ?_ | refine Sh.bk_mk ?_))
local macro_rules | `(tactic| walk_at "sq") => `(tactic| first | exact SqL.of upd_same | exact SqT.of upd_same | exact SqL.of (by assumption) | exact SqT.of (by assumption) | assumption | exact Or.inl (SqL.of (by assumption)) | exact Or.inr (SqT.of (by assumption)) | exact Or.inl (by assumption) | exact Or.inr (by assumption))
local macro_rules | `(tactic| walk_at "hp") => `(tactic| first | exact upd_same | assumption)
local macro_rules | `(tactic| walk_at "sz") => `(tactic| first | exact Nat.le_of_ble_eq_true rfl | omega)
local macro_rules | `(tactic| walk_at "sd") => `(tactic| first | omega | exact rfl | assumption | (show (0 : Int) < _; omega) | exact And.intro (by omega) (by omega) | exact Or.inl (And.intro (by omega) (by omega)) | exact Or.inr (And.intro (by omega) (by omega)) | omega | exact Sh.sz_S (by omega) | decide)
local macro_rules | `(tactic| walk_at "rd1") => `(tactic| first
  | (with_reducible first | refine Sh.gn_mk ?_ | refine Sh.nx_mk ?_ | refine Sh.st_nx ?_ | refine Sh.rt_mk ?_ | refine Sh.ct_mk ?_ | refine Sh.bk_mk ?_)
  | refine Exists.intro (α := V) _ (And.intro rfl ?_)
  | refine Exists.intro (α := Bool) _ (And.intro rfl ?_)
  | refine Exists.intro (α := Int) _ (And.intro rfl ?_)
  | refine Exists.intro (α := PySem.Str) _ (And.intro rfl ?_)
  | refine Exists.intro (α := Int) _ (Exists.intro (α := Int) _ (And.intro rfl (And.intro rfl ?_)))
  | refine Exists.intro (α := PySem.Str) _ (Exists.intro (α := PySem.Str) _ (And.intro rfl (And.intro rfl ?_)))
  | refine Exists.intro (α := Int) _ (Exists.intro (α := Int) _ (And.intro rfl ?_))
  | refine Or.inl (Exists.intro (α := Int) _ (And.intro rfl ?_))
  | refine Exists.intro _ (Exists.intro _ (Exists.intro _ (Exists.intro _ (And.intro rfl (And.intro rfl (And.intro (by walk_at "sq") (And.intro rfl ?_)))))))
  | refine Exists.intro _ (Exists.intro _ (Exists.intro _ (Exists.intro _ (And.intro rfl (And.intro rfl (And.intro (by walk_at "hp") (And.intro rfl ?_)))))))
  | refine And.intro (by walk_at "sd") ?_
  )
local macro_rules | `(tactic| walk_at "rd") => `(tactic| repeat walk_at "rd1")
local macro_rules | `(tactic| walk_at "lk") => `(tactic| first | exact rfl | (rw [lookup_putF, if_pos rfl]) | (rw [lookup_putF, if_neg (by decide +kernel)]; walk_at "lk"))

section
variable {P : Program} {w : World} {K : PySem.W.Frag} {mg : Str → Option Value} {base : Heap}
def spBoth (K : PySem.W.Frag) : Sp := fun vs H Q _ => ∃ (a : Addr) (xs : List V) (R : List Rule) (q : Addr) (t : List Nat) (i k j : Nat) (r1 r2 : Rule), vs = [.ref a, .ref q] ∧ RulesAt K H a xs R ∧ R.length ≤ 64 ∧ (∀ r ∈ R, r.1.length ≤ 4 ∧ r.2.length ≤ 1) ∧
  H q = some (.tup (ovTup (t, i, k, j))) ∧ R[i]? = some r1 ∧ R[j]? = some r2 ∧ t.length ≤ 100 ∧
  ∀ (p : Addr) (H' : Hp), H p = none → Same H H' → H' p = some (.tup [.str (S (res1 r1 t)), .str (S (res2 r2 t k))]) → Q (.ref p) H'
theorem c_both_results (T : Txt K mg) : Cal P w K mg base CX0 1 "both_results" (spBoth K) := by
  refine Cal.mk0 T.d_both_results sc_both_results (fun vs H Q E h => ?_) (fun f cdv A outer s H vs Q E hr h => ?_)
  · obtain ⟨a, xs, R, q, t, i, k, j, r1, r2, rfl, _⟩ := h
    rfl
  · obtain ⟨a, xs, R, q, t, i, k, j, r1, r2, rfl, hR, hl, h4, hq, hi, hj, ht, kk⟩ := h
    have hlx := hR.len
    obtain ⟨q1, hx1, sq1⟩ := hR.get hi
    obtain ⟨q2, hx2, sq2⟩ := hR.get hj
    have hlt1 := h4 _ (List.mem_of_getElem? hi)
    have hlt2 := h4 _ (List.mem_of_getElem? hj)
    refine ⟨_, (pss_cons (ps_asg (pv 1) (pg_tup (by rfl) (pgs_cons (pg_name (i := 2) sc_both_results.nd rfl (Or.inl rfl)) (pgs_cons (pg_name (i := 3) sc_both_results.nd rfl (Or.inl rfl)) (pgs_cons (pg_name (i := 4) sc_both_results.nd rfl (Or.inl rfl)) (pgs_cons (pg_name (i := 5) sc_both_results.nd rfl (Or.inl rfl)) pgs_nil))))))
  (pss_cons (ps_set (i := 6) sc_both_results.nd rfl (Or.inl rfl) (pe_op op_add_str (pe_ix ix_tup (pe_ix ix_tup (pv 0) (pv 3) (fun _ _ => rfl)) pe_int (fun _ _ => rfl)) (pe_slice sl_str (pv 2) (po_some (pe_callB call_len_str (by rfl) T.b_len (by decide +kernel) (pa_cons (pe_ix ix_tup (pe_ix ix_tup (pv 0) (pv 3) (fun _ _ => rfl)) pe_int (fun _ _ => rfl)) pa_nil))) po_none)))
  (pss_cons (ps_set (i := 7) sc_both_results.nd rfl (Or.inl rfl) (pe_op op_add_str (pe_op op_add_str (pe_slice sl_str (pv 2) po_none (po_some (pv 4))) (pe_ix ix_tup (pe_ix ix_tup (pv 0) (pv 5) (fun _ _ => rfl)) pe_int (fun _ _ => rfl))) (pe_slice sl_str (pv 2) (po_some (pe_op op_add (pv 4) (pe_callB call_len_str (by rfl) T.b_len (by decide +kernel) (pa_cons (pe_ix ix_tup (pe_ix ix_tup (pv 0) (pv 5) (fun _ _ => rfl)) pe_int (fun _ _ => rfl)) pa_nil)))) po_none)))
  (pss_one (ps_ret (pe_tup (pa_cons (pv 6) (pa_cons (pv 7) pa_nil)))))))), ?_⟩
    walk_at "rd"
    refine ⟨q, _, rfl, SqT.of hq, rfl, _, _, rfl, _, _, rfl, _, _, rfl, _, _, rfl, rfl, ?_⟩
    walk_at "rd"
    refine ⟨a, xs, _, .ref q1, rfl, rfl, hR.sq, atI_nat hx1, q1, _, 1, .str (S r1.2), rfl, rfl, sq1, rfl, ?_⟩
    refine ⟨_, rfl, _, rfl, _, rfl, ?_⟩
    refine ⟨a, xs, _, .ref q1, rfl, rfl, hR.sq, atI_nat hx1, ?_⟩
    refine ⟨q1, _, 0, .str (S r1.1), rfl, rfl, sq1, rfl, ?_⟩
    refine ⟨_, rfl, sz_S (by omega), _, rfl, _, rfl, sz_S (t := t) (by omega), ?_⟩
    walk_at "nx"
    refine ⟨_, _, rfl, rfl, ?_, ?_⟩
    · rw [cut_from (by omega), S_len, S_len]
      exact Nat.le_trans (m := 101) (by simp; omega) (by decide)
    rw [cut_from (by omega), S_cat, S_len, show ((r1.1.length : Nat) : Int).toNat = r1.1.length by omega]
    walk_at "rd"
    refine ⟨sz_S (t := t) (by omega), ?_⟩
    refine ⟨_, rfl, _, rfl, ?_⟩
    refine ⟨a, xs, _, .ref q2, rfl, rfl, hR.sq, atI_nat hx2, q2, _, 1, .str (S r2.2), rfl, rfl, sq2, rfl, ?_⟩
    rw [cut_to (by omega)]
    refine ⟨_, _, rfl, rfl, ?_, ?_⟩
    · rw [S_len, S_len]
      exact Nat.le_trans (m := 101) (by simp; omega) (by decide)
    rw [S_cat]
    refine ⟨_, rfl, _, rfl, _, rfl, _, rfl, ?_⟩
    refine ⟨a, xs, _, .ref q2, rfl, rfl, hR.sq, atI_nat hx2, q2, _, 0, .str (S r2.1), rfl, rfl, sq2, rfl, ?_⟩
    refine ⟨_, rfl, sz_S (by omega), _, _, rfl, rfl, ?_⟩
    refine ⟨_, rfl, _, rfl, sz_S (t := t) (by omega), ?_⟩
    rw [cut_from (by rw [S_len]; omega)]
    refine ⟨_, _, rfl, rfl, ?_, ?_⟩
    · rw [S_len, S_len]
      exact Nat.le_trans (m := 301) (by simp; omega) (by decide)
    rw [S_cat]
    walk_at "rd"
    refine ⟨by walk_at "sz", fun p hp => ?_⟩
    refine kk p _ hp (same_new hp) ?_
    rw [upd_same, S_len]
    rw [show (((k : Nat) : Int)).toNat = k by omega, show (((k : Nat) : Int) + (r2.1.length : Nat)).toNat = k + r2.1.length by omega]
    rfl
theorem key_lt (t u : List Nat) : tupLt [.int (t.length : Nat), .str (S t)] [.int (u.length : Nat), .str (S u)] = keyLt t u := by
  unfold keyLt
  show (if V.int (t.length : Nat) = V.int (u.length : Nat) then (if V.str (S t) = V.str (S u) then false else decide ((S t).cps.toList < (S u).cps.toList)) else decide ((t.length : Int) < (u.length : Int))) = _
  by_cases h : t.length = u.length
  · rw [if_pos (by rw [h]), if_pos h]
    by_cases e : t = u
    · subst e
      rw [if_pos rfl]
      exact (decide_eq_false (fun z => List.lt_irrefl (α := Nat) t z)).symm
    · rw [if_neg (fun z => e (S_inj (V.str.inj z)))]
  · rw [if_neg (fun z => h (by have := V.int.inj z; omega)), if_neg h]
    exact decide_eq_decide.mpr (by omega)
theorem ovs_len {R : List Rule} (h4 : ∀ r ∈ R, r.1.length ≤ 4) {o : Ov} (h : o ∈ ovs R) : o.1.length ≤ 8 := by
  obtain ⟨i, r, j, q, k, t, hr, hq, hk, c, ho, rfl⟩ := Bk.mem_ovs.mp h
  unfold over at ho
  have h1 := h4 _ (List.mem_of_getElem? hr)
  have h2 := h4 _ (List.mem_of_getElem? hq)
  split at ho
  · cases ho
    simp
    omega
  · cases ho
def qlt : Option (List Nat) → List Nat → Bool
  | none, _ => true
  | some b, t => keyLt t b
theorem qstep_eq (R : List Rule) (b : Option (List Nat)) (o : Ov) : qstep R b o = if qlt b o.1 = true then (if okOv R o = true then b else some o.1) else b := by
  unfold qstep
  cases b <;> rfl
theorem qstep_or (R : List Rule) (b : Option (List Nat)) (o : Ov) : qstep R b o = b ∨ qstep R b o = some o.1 := by
  unfold qstep
  cases b <;> (repeat' split) <;> first | exact .inl rfl | exact .inr rfl
theorem qfold_mem {R : List Rule} : ∀ (l : List Ov) (b : Option (List Nat)) {u : List Nat}, l.foldl (qstep R) b = some u → b = some u ∨ ∃ o ∈ l, o.1 = u
  | [], b, u, h => .inl h
  | o :: l, b, u, h => by
    rcases qfold_mem l _ h with q | ⟨o', m, e⟩
    · rcases qstep_or R b o with z | z
      · rw [z] at q; exact .inl q
      · rw [z] at q; exact .inr ⟨o, List.mem_cons_self, Option.some.inj q⟩
    · exact .inr ⟨o', List.mem_cons_of_mem _ m, e⟩
theorem ov_inv {R : List Rule} {t : List Nat} {i k j : Nat} (h : (t, i, k, j) ∈ ovs R) : ∃ r q, R[i]? = some r ∧ R[j]? = some q := by
  obtain ⟨i', r, j', q, k', t', hr, hq, hk, c, ho, e⟩ := Bk.mem_ovs.mp h
  cases e
  exact ⟨r, q, hr, hq⟩
def spQuarrel (K : PySem.W.Frag) : Sp := fun vs H Q _ => ∃ (a p : Addr) (xs : List V) (R : List Rule), vs = [.ref a, .ref p, .int (lg R : Nat)] ∧ RulesAt K H a xs R ∧ LeftsAt H p R ∧ Wf R ∧ R.length ≤ 64 ∧ (∀ r ∈ R, r.1.length ≤ 4 ∧ r.2.length ≤ 1) ∧
  ∀ (H' : Hp), Same H H' → Q (optS (quarrel R)) H'
theorem c_quarrel_of (T : Txt K mg) : Cal P w K mg base CX0 3 "quarrel_of" (spQuarrel K) := by
  have c_overlap_rows := c_overlap_rows (P := P) (w := w) (base := base) T
  have c_both_results := c_both_results (P := P) (w := w) (base := base) T
  have c_text_key := c_text_key (P := P) (w := w) (base := base) T
  have c_left_over := c_left_over (P := P) (w := w) (base := base) T
  refine Cal.mk0 T.d_quarrel_of sc_quarrel_of (fun vs H Q E h => ?_) (fun f cdv A outer s H vs Q E hr h => ?_)
  · obtain ⟨a, p, xs, R, rfl, _⟩ := h
    rfl
  · obtain ⟨a, p, xs, R, rfl, hR, hL, hw, hl, h4, kk⟩ := h
    have h4' : ∀ r ∈ R, r.1.length ≤ 4 := fun r m => (h4 r m).1
    refine ⟨_, (pss_cons (ps_set (i := 3) sc_quarrel_of.nd rfl (Or.inl rfl) pe_non)
  (pss_cons (ps_for PassesOwn.never rfl (pi_list (pe_c c_overlap_rows hr (by decide) rfl (pa_cons (pv 0) pa_nil))) (pg_name (i := 4) sc_quarrel_of.nd rfl (Or.inl rfl))
    (pss_one (ps_if (PW.pt (pw_or (pt_cmpR op_isN (pv 3) pe_non (nomark _)) (pw_or1 (pt_cmpR (op_ltTM hr.units) (pe_c c_text_key hr (by decide) rfl (pa_cons (pe_ix ix_tup (pv 4) pe_int (fun _ _ => rfl)) pa_nil)) (pe_c c_text_key hr (by decide) rfl (pa_cons (pv 3) pa_nil)) (nomark _)))))
      (pss_cons (ps_asg (pe_c c_both_results hr (by decide) rfl (pa_cons (pv 0) (pa_cons (pv 4) pa_nil))) (pg_tup (by rfl) (pgs_cons (pg_name (i := 5) sc_quarrel_of.nd rfl (Or.inl rfl)) (pgs_cons (pg_name (i := 6) sc_quarrel_of.nd rfl (Or.inl rfl)) pgs_nil))))
      (pss_one (ps_if (pt_cmpR op_ne (pe_c c_left_over hr (by decide) rfl (pa_cons (pv 1) (pa_cons (pv 2) (pa_cons (pv 5) pa_nil)))) (pe_c c_left_over hr (by decide) rfl (pa_cons (pv 1) (pa_cons (pv 2) (pa_cons (pv 6) pa_nil)))) (nomark _))
        (pss_one (ps_set (i := 3) sc_quarrel_of.nd rfl (Or.inl rfl) (pe_ix ix_tup (pv 4) pe_int (fun _ _ => rfl))))
        pss_nil)))
      pss_nil)))
  (pss_one (ps_ret (pv 3))))), ?_⟩
    walk_at "rd"
    refine ⟨a, xs, R, rfl, hR, hl, h4', fun p1 ys H1 hp1 s1 hq1 it1 => ?_⟩
    walk_at "nx"
    refine ⟨p1, rfl, ⟨_, SqL.of hq1⟩, ?_⟩
    refine for_lstR (K := K) (a := p1) (xs := ys) (l := ovs R) (Rel := OvV) it1.1 (fun pre σ H2 => ∃ (v4 v5 v6 : Option V), σ = [some (.ref a), some (.ref p), some (.int (lg R : Nat)), some (optS (pre.foldl (qstep R) none)), v4, v5, v6] ∧ Same H1 H2)
      ⟨_, _, _, rfl, Same.refl H1⟩ (fun pre σ H2 ⟨_, _, _, _, s2⟩ => ⟨SqL.of (s2 _ _ hq1), fun i x y h1 h2 => (it1.2 i x y h1 h2).same s2⟩) ?_ ?_
    · rintro pre o post x σ H2 e hx ⟨q, rfl, hq⟩ ⟨v4, v5, v6, rfl, s2⟩
      have ho : o ∈ ovs R := by rw [e]; simp
      have s02 := s1.trans s2
      have hto' := ovs_len h4' ho
      obtain ⟨t, i, k, j⟩ := o
      have hto : t.length ≤ 8 := hto'
      walk_at "nx"
      generalize hb : pre.foldl (qstep R) none = b
      have qt : SqT K H2 q [.str (S t), .int (i : Nat), .int (k : Nat), .int (j : Nat)] := SqT.of hq
      have e2 : (pre ++ [(t, i, k, j)]).foldl (qstep R) none = qstep R b (t, i, k, j) := by rw [List.foldl_append, hb]; rfl
      rw [e2]
      refine if_KH (qlt b t) (fun H' => Same H2 H') (fun Q' hQ => ?_) (fun hb1 H3 s3 => ?_) (fun hb1 H3 s3 => ?_)
      · cases b with
        | none =>
          walk_at "rd"
          exact hQ _ (Same.refl _)
        | some u =>
          have hu8 : u.length ≤ 8 := by
            rcases qfold_mem _ _ hb with z | ⟨o, m, rfl⟩
            · cases z
            · exact ovs_len h4' (by rw [e]; exact List.mem_append_left _ m)
          walk_at "rd"
          refine ⟨t, rfl, by omega, fun p3 hp3 => ?_⟩
          have s3 : Same H2 (upd H2 p3 (.tup [.int (t.length : Nat), .str (S t)])) := same_new hp3
          walk_at "rd"
          refine ⟨u, rfl, by omega, fun p4 hp4 => ?_⟩
          have s4 := s3.trans (same_new (o := .tup [.int (u.length : Nat), .str (S u)]) hp4)
          refine ⟨p3, p4, _, _, rfl, rfl, SqT.of (same_new hp4 _ _ upd_same), SqT.of upd_same, rfl, _, rfl, ?_⟩
          exact q_of (hQ _ s4) (key_lt t u)
      · obtain ⟨r1, r2, hr1, hr2⟩ := ov_inv ho
        walk_at "nx"
        refine ⟨_, rfl, _, rfl, a, xs, R, q, t, i, k, j, r1, r2, rfl, hR.same (s02.trans s3), hl, h4, s3 _ _ hq, hr1, hr2, by omega, fun p3 H4 hp3 s4 hq3 => ?_⟩
        walk_at "nx"
        refine ⟨p3, _, rfl, SqT.of hq3, rfl, _, _, rfl, _, _, rfl, rfl, ?_⟩
        walk_at "nx"
        have s24 := s3.trans s4
        have hL4 := hL.same (s02.trans s24)
        have l1 := (h4 _ (List.mem_of_getElem? hr1)).2
        have l2 := (h4 _ (List.mem_of_getElem? hr2)).2
        have hk : okOv R (t, i, k, j) = decide (left R (res1 r1 t) = left R (res2 r2 t k)) := by
          unfold okOv
          rw [hr1, hr2]
        have hq2 : qstep R b (t, i, k, j) = if okOv R (t, i, k, j) = true then b else some t := by
          rw [qstep_eq]
          exact if_pos hb1
        refine if_KH (!okOv R (t, i, k, j)) (fun H' => Same H4 H') (fun Q' hQ => ?_) (fun hb2 H5 s5 => ?_) (fun hb2 H5 s5 => ?_)
        · walk_at "nx"
          refine ⟨_, rfl, _, rfl, _, rfl, p, R, res1 r1 t, rfl, hL4, hw, by unfold res1; simp; omega, fun H5 s5 => ?_⟩
          refine ⟨_, rfl, _, rfl, _, rfl, p, R, res2 r2 t k, rfl, hL4.same s5, hw, by unfold res2; simp; omega, fun H6 s6 => ?_⟩
          refine ⟨rfl, _, rfl, q_of (hQ _ (s5.trans s6)) ?_⟩
          rw [hk]
          by_cases ee : left R (res1 r1 t) = left R (res2 r2 t k)
          · rw [decide_eq_true ee, decide_eq_true (by rw [ee])]
          · rw [decide_eq_false ee, decide_eq_false (fun z => ee (S_inj (V.str.inj z)))]
        · have hok : okOv R (t, i, k, j) = false := by simpa using hb2
          walk_at "nx"
          refine ⟨_, rfl, q, _, _, _, rfl, rfl, SqT.of ((s24.trans s5) _ _ hq), rfl, ?_⟩
          walk_at "nx"
          rw [hq2, hok]
          exact ⟨_, _, _, rfl, s2.trans (s24.trans s5)⟩
        · have hok : okOv R (t, i, k, j) = true := by simpa using hb2
          walk_at "nx"
          rw [hq2, hok]
          exact ⟨_, _, _, rfl, s2.trans (s24.trans s5)⟩
      · walk_at "nx"
        have hq2 : qstep R b (t, i, k, j) = b := by
          rw [qstep_eq]
          exact if_neg (by show ¬ qlt b t = true; rw [hb1]; decide)
        rw [hq2]
        exact ⟨_, _, _, rfl, s2.trans s3⟩
    · rintro σ H2 ⟨v4, v5, v6, rfl, s2⟩
      walk_at "rd"
      exact kk H2 (s1.trans s2)
end
end Sh
set_option Elab.async false
set_option linter.all false
set_option maxRecDepth 100000
set_option maxHeartbeats 4000000
namespace Sh
open PySem PySem.Spec PyProof.Rows L2
open SX (S S_inj S_len S_cat)
open Bk (Rule firstAt lg bestUp used left drain pushS Wf)
/-- a comprehension over a list whose items are told by l -/
theorem lc_lstF {α : Type} {f : α → V} {l : List α} {K : PySem.W.Frag} {a : Addr} {g : TG} {tt : TT} {te : TE} {vs : List Nat} {σ : L2.St} {H1 : Hp} {D : Addr} {Qd : Hp → Prop}
    (Pv : List α → Hp → Prop) (h0 : Pv [] (upd H1 D (.lst []))) (hG : ∀ pre H, Pv pre H → SqL K H a (l.map f))
    (hs : ∀ pre y post H, l = pre ++ y :: post → Pv pre H → g (f y) (wipe σ vs) H fun σ2 H2 => wipe σ2 vs = wipe σ vs ∧ tt σ2 H2 fun b H3 =>
      if b = true then te σ2 H3 fun y' H4 => ∃ acc, H4 D = some (.lst acc) ∧ acc.length < sizeLine ∧ Pv (pre ++ [y]) (upd H4 D (.lst (acc ++ [y']))) else Pv (pre ++ [y]) H3) (hd : ∀ H, Pv l H → Qd H) :
    ∃ W : Nat → Nat → Hp → Prop, (∃ m, W 0 m (upd H1 D (.lst []))) ∧ ∀ i m H, W i m H →
      ((Itl K a).stop i H ∧ Qd H) ∨ ((Itl K a).go i H ∧ ∃ Nx : Hp → Prop, (∀ H', Nx H' → ∃ m', m' < m ∧ W (i + 1) m' H') ∧ ∀ x H', (Itl K a).yld i H x H' → g x (wipe σ vs) H' fun σ2 H2 => wipe σ2 vs = wipe σ vs ∧ tt σ2 H2 fun b H3 =>
        if b = true then te σ2 H3 fun y H4 => ∃ acc, H4 D = some (.lst acc) ∧ acc.length < sizeLine ∧ Nx (upd H4 D (.lst (acc ++ [y]))) else Nx H3) := by
  have w := walk_list (K := K) (a := a) (xs := l.map f)
  refine lc_it w (fun i H => Pv (l.take i) H) (by simpa using h0) (fun i H _ p => hG _ H p) (fun i x H H' hi p y => ?_) (fun H p => hd H (by simpa using p))
  obtain ⟨rfl, hx⟩ := y
  have hi' : i < l.length := by simpa using hi
  have hl : l[i]? = some l[i] := by simp [hi']
  obtain ⟨e1, e2⟩ := take_succ_of hl
  have hx2 : x = f l[i] := by
    rw [List.getElem?_map, hl] at hx
    exact (Option.some.inj hx).symm
  subst hx2
  have q := hs _ l[i] _ H' e2 p
  rw [← e1] at q
  exact q
local macro_rules | `(tactic| walk_at "nx") => `(tactic| repeat (with_reducible first | refine Sh.gn_mk ?_ | refine Sh.nx_mk ?_ | refine Sh.st_nx ?_ | refine Sh.rt_mk ?_ | refine Sh.ct_mk ?_ | refine Sh.bk_mk ?_))
local macro_rules | `(tactic| walk_at "sq") => `(tactic| first | exact SqL.of upd_same | exact SqT.of upd_same | exact SqL.of (by assumption) | exact SqT.of (by assumption) | assumption | exact Or.inl (SqL.of (by assumption)) | exact Or.inr (SqT.of (by assumption)) | exact Or.inl (by assumption) | exact Or.inr (by assumption))
local macro_rules | `(tactic| walk_at "hp") => `(tactic| first | exact upd_same | assumption)
local macro_rules | `(tactic| walk_at "sz") => `(tactic| first | exact Nat.le_of_ble_eq_true rfl | omega)
local macro_rules | `(tactic| walk_at "sd") => `(tactic| first | omega | exact rfl | assumption | (show (0 : Int) < _; omega) | exact And.intro (by omega) (by omega) | exact Or.inl (And.intro (by omega) (by omega)) | exact Or.inr (And.intro (by omega) (by omega)) | omega | exact Sh.sz_S (by omega) | decide)
local macro_rules | `(tactic| walk_at "rd1") => `(tactic| first
  | (with_reducible first | refine Sh.gn_mk ?_ | refine Sh.nx_mk ?_ | refine Sh.st_nx ?_ | refine Sh.rt_mk ?_ | refine Sh.ct_mk ?_ | refine Sh.bk_mk ?_)
  | refine Exists.intro (α := V) _ (And.intro rfl ?_)
  | refine Exists.intro (α := Bool) _ (And.intro rfl ?_)
  | refine Exists.intro (α := Int) _ (And.intro rfl ?_)
  | refine Exists.intro (α := PySem.Str) _ (And.intro rfl ?_)
  | refine Exists.intro (α := Int) _ (Exists.intro (α := Int) _ (And.intro rfl (And.intro rfl ?_)))
  | refine Exists.intro (α := PySem.Str) _ (Exists.intro (α := PySem.Str) _ (And.intro rfl (And.intro rfl ?_)))
  | refine Exists.intro (α := Int) _ (Exists.intro (α := Int) _ (And.intro rfl ?_))
  | refine Or.inl (Exists.intro (α := Int) _ (And.intro rfl ?_))
  | refine Exists.intro _ (Exists.intro _ (Exists.intro _ (Exists.intro _ (And.intro rfl (And.intro rfl (And.intro (by walk_at "sq") (And.intro rfl ?_)))))))
  | refine Exists.intro _ (Exists.intro _ (Exists.intro _ (Exists.intro _ (And.intro rfl (And.intro rfl (And.intro (by walk_at "hp") (And.intro rfl ?_)))))))
  | refine And.intro (by walk_at "sd") ?_
  )
local macro_rules | `(tactic| walk_at "rd") => `(tactic| repeat walk_at "rd1")
local macro_rules | `(tactic| walk_at "lk") => `(tactic| first | exact rfl | (rw [lookup_putF, if_pos rfl]) | (rw [lookup_putF, if_neg (by decide +kernel)]; walk_at "lk"))

section
variable {P : Program} {w : World} {K : PySem.W.Frag} {mg : Str → Option Value} {base : Heap}
abbrev vS (t : List Nat) : V := .str (S t)
/-- the begins of the left sides -/
def Beg (ls : List (List Nat)) (u : List Nat) : Prop := u = [] ∨ ∃ l ∈ ls, ∃ n, n < l.length ∧ u = l.take n
def spKept (K : PySem.W.Frag) : Sp := fun vs H Q _ => ∃ (p : Addr) (ls : List (List Nat)) (m : Nat) (t : List Nat), vs = [.ref p, .int (m : Nat), .str (S t)] ∧ H p = some (.lst (ls.map vS)) ∧ ls.length ≤ 64 ∧ (∀ l ∈ ls, l.length ≤ 4) ∧ m ≤ 4 ∧ t.length ≤ 100 ∧
  ∀ (u : List Nat) (H' : Hp), Beg ls u → Same H H' → Q (.str (S u)) H'
theorem c_kept_tail (T : Txt K mg) : Cal P w K mg base CX0 1 "kept_tail" (spKept K) := by
  refine Cal.mk0 T.d_kept_tail sc_kept_tail (fun vs H Q E h => ?_) (fun f cdv A outer s H vs Q E hr h => ?_)
  · obtain ⟨p, ls, m, t, rfl, _⟩ := h
    rfl
  · obtain ⟨p, ls, m, t, rfl, hp, hl, h4, hm, ht, kk⟩ := h
    have hSl := S_len t
    refine ⟨_, (pss_cons (ps_for PassesOwn.never rfl (pi_range3 (by rfl) T.b_range (pa_cons (pe_callB (call_min2 rfl) (by rfl) T.b_min (by decide +kernel) (pa_cons (pe_op op_sub (pv 1) pe_int) (pa_cons (pe_callB call_len_str (by rfl) T.b_len (by decide +kernel) (pa_cons (pv 2) pa_nil)) pa_nil))) (pa_cons pe_int (pa_cons (pe_un un_neg pe_int) pa_nil)))) (pg_name (i := 3) sc_kept_tail.nd rfl (Or.inr rfl))
    (pss_cons (ps_set (i := 4) sc_kept_tail.nd rfl (Or.inr rfl) (pe_slice sl_str (pv 2) (po_some (pe_op op_sub (pe_callB call_len_str (by rfl) T.b_len (by decide +kernel) (pa_cons (pv 2) pa_nil)) (pv 3))) po_none))
    (pss_one (ps_if (pt_val (pe_callB (cr_any rfl) (by rfl) T.b_any (by decide +kernel) (pa_cons (pe_lc (own := [("left", 5)]) (g := gName 5) (tt := tYes) rfl sc_kept_tail.nd (pi_list (pv 0)) (blkOk_by (N := ["lefts", "longest", "text", "size", "tail", "left"]) (sc := defScope s_kept_tail) (by decide +kernel)) (fun _ _ _ _ _ => (pg_name (i := 5) sc_kept_tail.nd rfl (Or.inl rfl))) (fun _ _ _ _ _ => pts_nil) (fun _ _ _ _ _ => (pe_and (pe_m1 PySem.F.slot_str_startswith PySem.F.type_str_startswith mt_startswith (pv 5) (pv 4)) (pe_one (pe_cmpR op_gt (pe_callB call_len_str (by rfl) T.b_len (by decide +kernel) (pa_cons (pv 5) pa_nil)) (pv 3) (nomark _)))))) pa_nil)))
      (pss_one (ps_ret (pv 4)))
      pss_nil))))
  (pss_one (ps_ret pe_str))), ?_⟩
    walk_at "rd"
    refine ⟨_, _, _, _, rfl, RgC.neg (by split <;> omega) (by split <;> omega) (by omega) (by omega), ?_⟩
    refine for_rangeC (n := _) (fun i σ H2 => ∃ (v3 v4 v5 : Option V), σ = [some (.ref p), some (.int (m : Nat)), some (.str (S t)), v3, v4, v5] ∧ Same H H2)
      ⟨_, _, _, rfl, Same.refl H⟩ ?_ ?_
    · rintro i σ H2 hi ⟨v3, v4, v5, rfl, s2⟩
      obtain ⟨d, hd, hd1, hd2, hd3⟩ : ∃ d : Nat, (if ((S t).length : Int) < (m : Int) - 1 then ((S t).length : Int) else (m : Int) - 1) + (i : Nat) * (-1) = (d : Int) ∧ 1 ≤ d ∧ d ≤ t.length ∧ d < m := by
        refine ⟨((if ((S t).length : Int) < (m : Int) - 1 then ((S t).length : Int) else (m : Int) - 1) + (i : Nat) * (-1)).toNat, ?_, ?_, ?_, ?_⟩ <;> split at hi <;> split <;> omega
      rw [hd]
      walk_at "nx"
      refine ⟨_, rfl, _, rfl, _, rfl, sz_S (t := t) (by omega), _, rfl, _, _, rfl, rfl, _, rfl, _, rfl, sz_S (t := t) (by omega), ?_⟩
      rw [cut_from (by omega), hSl, show ((t.length : Int) - (d : Int)).toNat = t.length - d by omega]
      generalize hu : t.drop (t.length - d) = u
      have hul : u.length = d := by rw [← hu]; simp; omega
      walk_at "nx"
      refine if_KH (ls.any fun l => u.isPrefixOf l && decide (d < l.length)) (fun H' => Same H2 H') (fun Q' hQ => ?_) (fun hb H3 s3 => ?_) (fun hb H3 s3 => ?_)
      · walk_at "nx"
        refine ⟨_, rfl, p, rfl, ⟨_, SqL.of (s2 _ _ hp)⟩, fun D hD => lc_lstF (K := K) (a := p) (f := vS) (l := ls) (fun pre H3 => H3 D = some (.lst ((pre.map fun l => (u.isPrefixOf l && decide (d < l.length))).map V.bl)) ∧ Same H2 H3)
          ⟨upd_same, same_new hD⟩ (fun pre H3 ⟨_, s3⟩ => SqL.of (s3 _ _ (s2 _ _ hp))) ?_ ?_⟩
        · rintro pre l post H3 e ⟨h3, s3⟩
          refine ⟨rfl, ty_T ?_⟩
          have hll := h4 l (by rw [e]; simp)
          have hpl : pre.length ≤ 64 := by
            have := congrArg List.length e
            simp at this
            omega
          refine ev_J (fun v H' => v = .bl (u.isPrefixOf l && decide (d < l.length)) ∧ H' = H3) (fun Q'' hQ2 => ?_) ?_
          · refine ⟨_, rfl, ⟨_, rfl⟩, _, rfl, _, _, rfl, rfl, _, rfl, ?_⟩
            rw [startswith_S]
            cases hc : u.isPrefixOf l with
            | false => exact iteF (hQ2 _ _ ⟨by rw [hc]; rfl, rfl⟩)
            | true =>
              refine iteT ⟨_, rfl, _, rfl, sz_S (t := l) (by omega), _, rfl, _, _, rfl, rfl, ?_⟩
              refine hQ2 _ _ ⟨?_, rfl⟩
              rw [S_len, hc, Bool.true_and]
              exact congrArg V.bl (decide_eq_decide.mpr (by omega))
          · rintro v H' ⟨rfl, rfl⟩
            refine ⟨_, h3, by rw [List.length_map, List.length_map]; exact Nat.lt_of_le_of_lt (m := 64) hpl (by decide), ?_, same_mut s3 hD⟩
            rw [List.map_append, List.map_append]
            exact upd_same
        · rintro H3 ⟨h3, s3⟩
          refine ⟨D, _, rfl, SqL.of h3, _, rfl, ?_⟩
          refine q_of (hQ _ s3) ?_
          rw [List.any_map]
          rfl
      · obtain ⟨l, hl1, hl2⟩ := List.any_eq_true.mp hb
        rw [Bool.and_eq_true] at hl2
        have hpre := List.prefix_iff_eq_take.mp (List.isPrefixOf_iff_prefix.mp hl2.1)
        walk_at "rd"
        exact kk u H3 (.inr ⟨l, hl1, d, of_decide_eq_true hl2.2, by rw [← hul]; exact hpre⟩) (s2.trans s3)
      · walk_at "nx"
        exact ⟨_, _, _, rfl, s2.trans s3⟩
    · rintro σ H2 ⟨v3, v4, v5, rfl, s2⟩
      walk_at "rd"
      exact kk [] H2 (.inl rfl) s2
end
end Sh
set_option Elab.async false
set_option linter.all false
set_option maxRecDepth 100000
set_option maxHeartbeats 4000000
namespace Sh
open PySem PySem.Spec PyProof.Rows L2
open SX (S S_inj S_len S_cat)
open Bk (Rule firstAt lg bestUp used left drain pushS Wf)
local macro_rules | `(tactic| walk_at "nx") => `(tactic| repeat (with_reducible first | refine Sh.gn_mk ?_ | refine Sh.nx_mk ?_ | refine Sh.st_nx ?_ | refine Sh.rt_mk ?_ | refine Sh.ct_mk ?_ | refine Sh.bk_mk ?_))
local macro_rules | `(tactic| walk_at "sq") => `(tactic| first | exact SqL.of upd_same | exact SqT.of upd_same | exact SqL.of (by assumption) | exact SqT.of (by assumption) | assumption | exact Or.inl (SqL.of (by assumption)) | exact Or.inr (SqT.of (by assumption)) | exact Or.inl (by assumption) | exact Or.inr (by assumption))
local macro_rules | `(tactic| walk_at "hp") => `(tactic| first | exact upd_same | assumption)
local macro_rules | `(tactic| walk_at "sz") => `(tactic| first | exact Nat.le_of_ble_eq_true rfl | omega)
local macro_rules | `(tactic| walk_at "sd") => `(tactic| first | omega | exact rfl | assumption | (show (0 : Int) < _; omega) | exact And.intro (by omega) (by omega) | exact Or.inl (And.intro (by omega) (by omega)) | exact Or.inr (And.intro (by omega) (by omega)) | omega | exact Sh.sz_S (by omega) | decide)
local macro_rules | `(tactic| walk_at "rd1") => `(tactic| first
  | (with_reducible first | refine Sh.gn_mk ?_ | refine Sh.nx_mk ?_ | refine Sh.st_nx ?_ | refine Sh.rt_mk ?_ | refine Sh.ct_mk ?_ | refine Sh.bk_mk ?_)
  | refine Exists.intro (α := V) _ (And.intro rfl ?_)
  | refine Exists.intro (α := Bool) _ (And.intro rfl ?_)
  | refine Exists.intro (α := Int) _ (And.intro rfl ?_)
  | refine Exists.intro (α := PySem.Str) _ (And.intro rfl ?_)
  | refine Exists.intro (α := Int) _ (Exists.intro (α := Int) _ (And.intro rfl (And.intro rfl ?_)))
  | refine Exists.intro (α := PySem.Str) _ (Exists.intro (α := PySem.Str) _ (And.intro rfl (And.intro rfl ?_)))
  | refine Exists.intro (α := Int) _ (Exists.intro (α := Int) _ (And.intro rfl ?_))
  | refine Or.inl (Exists.intro (α := Int) _ (And.intro rfl ?_))
  | refine Exists.intro _ (Exists.intro _ (Exists.intro _ (Exists.intro _ (And.intro rfl (And.intro rfl (And.intro (by walk_at "sq") (And.intro rfl ?_)))))))
  | refine Exists.intro _ (Exists.intro _ (Exists.intro _ (Exists.intro _ (And.intro rfl (And.intro rfl (And.intro (by walk_at "hp") (And.intro rfl ?_)))))))
  | refine And.intro (by walk_at "sd") ?_
  )
local macro_rules | `(tactic| walk_at "rd") => `(tactic| repeat walk_at "rd1")
local macro_rules | `(tactic| walk_at "lk") => `(tactic| first | exact rfl | (rw [lookup_putF, if_pos rfl]) | (rw [lookup_putF, if_neg (by decide +kernel)]; walk_at "lk"))

section
variable {P : Program} {w : World} {K : PySem.W.Frag} {mg : Str → Option Value} {base : Heap}
/-- the names numbered so far -/
structure NumV (ls ns : List (List Nat)) (kvs : List (Key × V)) : Prop where
  nod : ns.Nodup
  beg : ∀ u ∈ ns, Beg ls u
  len : kvs.length ≤ ns.length
  new : ∀ u, u ∉ ns → valV kvs (Sum.inr (S u)) = none
  val : ∀ u ∈ ns, ∃ i : Int, valV kvs (Sum.inr (S u)) = some (.int i)
theorem beg_len {ls ns : List (List Nat)} (h : ns.Nodup) (b : ∀ u ∈ ns, Beg ls u) (h4 : ∀ l ∈ ls, l.length ≤ 4) : ns.length ≤ 1 + ls.length * 4 := by
  have e : ∀ ls : List (List Nat), (∀ l ∈ ls, l.length ≤ 4) → (ls.flatMap fun l => (List.range l.length).map l.take).length ≤ ls.length * 4 := by
    intro ls
    induction ls with
    | nil => intro _; simp
    | cons l ls ih =>
      intro h
      rw [List.flatMap_cons, List.length_append, List.length_map, List.length_range, List.length_cons]
      have := ih fun x m => h x (List.mem_cons_of_mem _ m)
      have := h l List.mem_cons_self
      omega
  have s : ns ⊆ [] :: (ls.flatMap fun l => (List.range l.length).map l.take) := by
    intro u hu
    rcases b u hu with rfl | ⟨l, hl, n, hn, rfl⟩
    · exact List.mem_cons_self
    · exact List.mem_cons_of_mem _ (List.mem_flatMap.mpr ⟨l, hl, List.mem_map.mpr ⟨n, List.mem_range.mpr hn, rfl⟩⟩)
  have := List.Nodup.length_le_of_subset h s
  have := e ls h4
  simp only [List.length_cons] at *
  omega
theorem Beg.len {ls : List (List Nat)} (h4 : ∀ l ∈ ls, l.length ≤ 4) {u : List Nat} (h : Beg ls u) : u.length ≤ 4 := by
  rcases h with rfl | ⟨l, hl, n, hn, rfl⟩
  · simp
  · have := h4 l hl
    simp
    omega
theorem NumV.more {ls ns : List (List Nat)} {kvs : List (Key × V)} (h : NumV ls ns kvs) {u : List Nat} (b : Beg ls u) (n : u ∉ ns) (i : Int) : NumV ls (ns ++ [u]) (putK kvs (Sum.inr (S u)) (.int i)) := by
  refine ⟨?_, ?_, ?_, ?_, ?_⟩
  · rw [List.nodup_append]
    refine ⟨h.nod, by simp, fun a ha b hb => ?_⟩
    have : b = u := by simpa using hb
    subst this
    intro e
    exact n (e ▸ ha)
  · intro v hv
    rcases List.mem_append.mp hv with q | q
    · exact h.beg v q
    · have : v = u := by simpa using q
      exact this ▸ b
  · rw [putK_new _ (h.new u n)]
    have := h.len
    simp
    omega
  · intro v hv
    have h1 : v ∉ ns := fun z => hv (List.mem_append_left _ z)
    have h2 : v ≠ u := fun z => hv (by rw [z]; simp)
    rw [valV_put, if_neg (fun e => h2 (S_inj (Sum.inr.inj e)))]
    exact h.new v h1
  · intro v hv
    rw [valV_put]
    by_cases e : v = u
    · rw [if_pos (by rw [e])]
      exact ⟨i, rfl⟩
    · rw [if_neg (fun z => e (S_inj (Sum.inr.inj z)))]
      rcases List.mem_append.mp hv with q | q
      · exact h.val v q
      · exact absurd (by simpa using q) e
theorem NumV.start (ls : List (List Nat)) : NumV ls [[]] (mergeK [] [((Sum.inr (S []) : Key), .int 0)]) := by
  have e : NumV ls [] [] := ⟨List.nodup_nil, fun u h => (by cases h), Nat.le_refl _, fun u h => rfl, fun u h => (by cases h)⟩
  exact e.more (.inl rfl) (by simp) 0
theorem lg_le4 {R : List Rule} {m : Nat} (h : ∀ r ∈ R, r.1.length ≤ m) : lg R ≤ m := by
  unfold lg
  rcases Bk.foldl_max_mem (l := R.map (·.1.length)) (a := 0) with q | q
  · rw [q]; omega
  · obtain ⟨r, hr, e⟩ := List.mem_map.mp q
    rw [← e]
    exact h r hr
theorem putK_leS (c : List (Key × V)) (k : Key) (x : V) : (putK c k x).length ≤ c.length + 1 := by
  unfold putK
  split <;> simp
structure MInv (H : Hp) (pD pN pM pV : Addr) (ls ns : List (List Nat)) (kvs : List (Key × V)) (ms : List V) : Prop where
  d : H pD = some (.lst (ls.map vS))
  n : H pN = some (.lst (ns.map vS))
  m : H pM = some (.dK kvs)
  v : H pV = some (.lst ms)
theorem MInv.same {H H' : Hp} {pD pN pM pV : Addr} {ls ns : List (List Nat)} {kvs : List (Key × V)} {ms : List V} (h : MInv H pD pN pM pV ls ns kvs ms) (s : Same H H') : MInv H' pD pN pM pV ls ns kvs ms :=
  ⟨s _ _ h.d, s _ _ h.n, s _ _ h.m, s _ _ h.v⟩
def spMoves (K : PySem.W.Frag) : Sp := fun vs H Q _ => ∃ (a : Addr) (xs : List V) (R : List Rule) (sg : List Nat), vs = [.str (S sg), .ref a] ∧ RulesAt K H a xs R ∧ R.length ≤ 64 ∧ (∀ r ∈ R, r.1.length ≤ 4) ∧ sg.length ≤ 26 ∧
  ∀ (p : Addr) (H' : Hp), Same H H' → Q (.ref p) H'
theorem c_end_moves (T : Txt K mg) : Cal P w K mg base CX0 2 "end_moves" (spMoves K) := by
  have c_longest_left := c_longest_left (P := P) (w := w) (base := base) T
  have c_kept_tail := c_kept_tail (P := P) (w := w) (base := base) T
  refine Cal.mk0 T.d_end_moves sc_end_moves (fun vs H Q E h => ?_) (fun f cdv A outer s H vs Q E hr h => ?_)
  · obtain ⟨a, xs, R, sg, rfl, _⟩ := h
    rfl
  · obtain ⟨a, xs, R, sg, rfl, hR, hl, h4, hsg, kk⟩ := h
    have hu := hu_of hr
    have hSl := S_len sg
    refine ⟨_, (pss_cons (ps_setLc (i := 2) (own := [("rule", 11)]) (g := gName 11) (tt := tYes) (by rfl) sc_end_moves.nd rfl rfl (sw_true rfl rfl rfl (by decide +kernel)) (pi_tup (pv 1)) (blkOk_by (N := ["signs", "rules", "lefts", "names", "numbers", "moves", "longest", "row", "sign", "text", "tail", "rule", "left"]) (sc := defScope s_end_moves) (by decide +kernel)) (fun _ _ _ _ _ => (pg_name (i := 11) sc_end_moves.nd rfl (Or.inl rfl))) (fun _ _ _ _ _ => pts_nil) (fun _ _ _ _ _ => (pe_ix ix_tupB (pv 11) pe_int (fun _ _ => rfl))))
  (pss_cons (ps_set (i := 3) sc_end_moves.nd rfl (Or.inl rfl) (pe_lst (pa_cons pe_str pa_nil)))
  (pss_cons (ps_set (i := 4) sc_end_moves.nd rfl (Or.inl rfl) (pe_disp (pps_cons pe_str pe_int pps_nil) (by rfl) (by rfl) (fun z => by cases z) (by decide)))
  (pss_cons (ps_set (i := 5) sc_end_moves.nd rfl (Or.inl rfl) (pe_lst pa_nil))
  (pss_cons (ps_set (i := 6) sc_end_moves.nd rfl (Or.inl rfl) (pe_c c_longest_left hr (by decide) rfl (pa_cons (pv 1) pa_nil)))
  (pss_cons (ps_while PassesOwn.never (pt_cmpR op_lt (pe_callB call_len_seq (by rfl) T.b_len (by decide +kernel) (pa_cons (pv 5) pa_nil)) (pe_callB call_len_seq (by rfl) T.b_len (by decide +kernel) (pa_cons (pv 3) pa_nil)) (nomark _))
    (pss_cons (ps_set (i := 7) sc_end_moves.nd rfl (Or.inl rfl) pe_dnewK)
    (pss_cons (ps_for PassesOwn.never rfl (pi_str (pv 0)) (pg_name (i := 8) sc_end_moves.nd rfl (Or.inl rfl))
      (pss_cons (ps_set (i := 9) sc_end_moves.nd rfl (Or.inr rfl) (pe_op op_add_str (pe_ix ix_list (pv 3) (pe_callB call_len_seq (by rfl) T.b_len (by decide +kernel) (pa_cons (pv 5) pa_nil)) (fun _ _ => rfl)) (pv 8)))
      (pss_one (ps_if (pt_not (pt_val (pe_callB (cr_any rfl) (by rfl) T.b_any (by decide +kernel) (pa_cons (pe_lc (own := [("left", 12)]) (g := gName 12) (tt := tYes) rfl sc_end_moves.nd (pi_list (pv 2)) (blkOk_by (N := ["signs", "rules", "lefts", "names", "numbers", "moves", "longest", "row", "sign", "text", "tail", "rule", "left"]) (sc := defScope s_end_moves) (by decide +kernel)) (fun _ _ _ _ _ => (pg_name (i := 12) sc_end_moves.nd rfl (Or.inl rfl))) (fun _ _ _ _ _ => pts_nil) (fun _ _ _ _ _ => (pe_m1 PySem.F.slot_str_endswith PySem.F.type_str_endswith mt_endswith (pv 9) (pv 12)))) pa_nil))))
        (pss_cons (ps_set (i := 10) sc_end_moves.nd rfl (Or.inl rfl) (pe_c c_kept_tail hr (by decide) rfl (pa_cons (pv 2) (pa_cons (pv 6) (pa_cons (pv 9) pa_nil)))))
        (pss_cons (ps_if (pt_cmp (pc_dnotin hu (pv 10) (pv 4)))
          (pss_cons (ps_dput hu (pv 4) (pv 10) (pe_callB call_len_seq (by rfl) T.b_len (by decide +kernel) (pa_cons (pv 3) pa_nil)) rfl)
          (pss_one (ps_expr (pe_bm PySem.F.plainAttrs_list PySem.F.slot_list_append PySem.F.type_list_append mt_append (pv 3) (pa_cons (pv 10) pa_nil)))))
          pss_nil)
        (pss_one (ps_dput hu (pv 7) (pv 8) (pe_dget hu (pv 4) (pv 10) (fun _ _ => rfl)) rfl))))
        pss_nil))))
    (pss_one (ps_expr (pe_bm PySem.F.plainAttrs_list PySem.F.slot_list_append PySem.F.type_list_append mt_append (pv 5) (pa_cons (pv 7) pa_nil)))))))
  (pss_one (ps_ret (pv 5))))))))), ?_⟩
    walk_at "rd"
    have h4' : ∀ l ∈ R.map (·.1), l.length ≤ 4 := by
      intro l hl
      obtain ⟨r, hr, rfl⟩ := List.mem_map.mp hl
      exact h4 r hr
    refine ⟨a, rfl, ⟨_, hR.sq⟩, fun pD hpD => lc_tupR (K := K) (a := a) (xs := xs) (l := R) (Rel := fun H v r => ∃ q, v = .ref q ∧ SqT K H q (rTup r)) hR.len
      (fun pre H3 => H3 pD = some (.lst ((pre.map (·.1)).map vS)) ∧ Same H H3) ⟨upd_same, same_new hpD⟩ (fun pre H3 ⟨_, s3⟩ => ⟨(hR.same s3).sq, (hR.same s3).it⟩) ?_ ?_⟩
    · rintro pre r post x H3 e hx ⟨q, rfl, sq⟩ ⟨h3, s3⟩
      refine ⟨rfl, ty_T ?_⟩
      have hpl : pre.length ≤ 64 := by
        have := congrArg List.length e
        simp at this
        omega
      refine ⟨_, rfl, q, _, 0, .str (S r.1), rfl, rfl, sq, rfl, _, h3, by rw [List.length_map, List.length_map]; exact Nat.lt_of_le_of_lt (m := 64) hpl (by decide), ?_, same_mut s3 hpD⟩
      rw [List.map_append, List.map_append]
      exact upd_same
    · rintro H1 ⟨hD1, s1⟩
      walk_at "nx"
      refine ⟨by walk_at "sz", fun pN hpN => ?_⟩
      have hDN : pD ≠ pN := ne_of_none hD1 hpN
      have s2 := same_new (o := .lst [.str (Str.ofString "")]) hpN
      walk_at "nx"
      intro pM hpM
      have s3 := s2.trans (same_new (o := .dK []) hpM)
      refine ⟨upd_same, [((Sum.inr (S []) : Key), .int 0)], rfl, by decide, ?_⟩
      generalize hN2 : upd H1 pN (.lst [.str (Str.ofString "")]) = HN at hpM s2 s3 ⊢
      have hn2 : HN pN = some (.lst ([[]].map vS)) := by rw [← hN2]; exact upd_same
      have s4 : Same HN (upd (upd HN pM (.dK [])) pM (.dK (mergeK [] [((Sum.inr (S []) : Key), .int 0)]))) := same_mut (same_new hpM) hpM
      generalize hM2 : upd (upd HN pM (.dK [])) pM (.dK (mergeK [] [((Sum.inr (S []) : Key), .int 0)])) = HM at s4 ⊢
      have hm2 : HM pM = some (.dK (mergeK [] [((Sum.inr (S []) : Key), .int 0)])) := by rw [← hM2]; exact upd_same
      walk_at "nx"
      refine ⟨by walk_at "sz", fun pV hpV => ?_⟩
      have hn3 := s4 _ _ hn2
      have hd3 := s4 _ _ (s2 _ _ hD1)
      have hNV : pN ≠ pV := ne_of_none hn3 hpV
      have hDV : pD ≠ pV := ne_of_none hd3 hpV
      have s5 := same_new (o := .lst []) hpV
      have s05 : Same H (upd HM pV (.lst [])) := ((s1.trans s2).trans s4).trans s5
      have M0 : MInv (upd HM pV (.lst [])) pD pN pM pV (R.map (·.1)) [[]] (mergeK [] [((Sum.inr (S []) : Key), .int 0)]) [] :=
        ⟨s5 _ _ hd3, s5 _ _ hn3, s5 _ _ hm2, upd_same⟩
      have hpN0 : H pN = none := by
        cases e : H pN with
        | none => rfl
        | some o => rw [s1 _ _ e] at hpN; cases hpN
      have hpM0 : H pM = none := by
        cases e : H pM with
        | none => rfl
        | some o => rw [s2 _ _ (s1 _ _ e)] at hpM; cases hpM
      have hpV0 : H pV = none := by
        cases e : H pV with
        | none => rfl
        | some o => rw [s4 _ _ (s2 _ _ (s1 _ _ e))] at hpV; cases hpV
      generalize upd HM pV (.lst []) = H5 at s05 M0 ⊢
      walk_at "nx"
      refine ⟨_, rfl, a, xs, R, rfl, hR.same s05, hl, fun r hr => Nat.le_trans (h4 r hr) (by decide), fun H6 s6 => ?_⟩
      have hlg := lg_le4 h4
      walk_at "nx"
      refine ⟨fun m σ Hn => ∃ (ns : List (List Nat)) (kvs : List (Key × V)) (ms : List V) (v7 v8 v9 v10 v11 v12 : Option V), σ = [some (.str (S sg)), some (.ref a), some (.ref pD), some (.ref pN), some (.ref pM), some (.ref pV), some (.int (lg R : Nat)), v7, v8, v9, v10, v11, v12] ∧
        Same H Hn ∧ MInv Hn pD pN pM pV (R.map (·.1)) ns kvs ms ∧ NumV (R.map (·.1)) ns kvs ∧ 300 - ms.length ≤ m,
        ⟨300, [[]], _, [], _, _, _, _, _, _, rfl, s05.trans s6, M0.same s6, NumV.start _, by simp⟩, ?_⟩
      rintro m σ H7 ⟨ns, kvs, ms, v7, v8, v9, v10, v11, v12, rfl, s7, M, N, hm⟩
      have hns : ns.length ≤ 257 := by
        have := beg_len N.nod N.beg h4'
        rw [List.length_map] at this
        omega
      walk_at "rd"
      refine ⟨pV, ms, rfl, .inl (SqL.of M.v), _, rfl, pN, _, rfl, .inl (SqL.of M.n), _, _, rfl, rfl, ?_⟩
      rw [List.length_map]
      refine ⟨_, rfl, ?_⟩
      by_cases hc : ms.length < ns.length
      · rw [decide_eq_true (show ((ms.length : Nat) : Int) < (ns.length : Nat) by omega)]
        refine iteT ⟨_, fun _ _ h => h, ?_⟩
        walk_at "nx"
        intro pW hpW
        have hVW : pV ≠ pW := ne_of_none M.v hpW
        have hNW : pN ≠ pW := ne_of_none M.n hpW
        have hDW : pD ≠ pW := ne_of_none M.d hpW
        have hMW : pM ≠ pW := ne_of_none M.m hpW
        have s8 := same_new (o := .dK []) hpW
        have hpW0 : H pW = none := by
          cases e : H pW with
          | none => rfl
          | some o => rw [s7 _ _ e] at hpW; cases hpW
        have M8 := M.same s8
        have s78 := s7.trans s8
        have hW8 : (upd H7 pW (.dK [])) pW = some (.dK []) := upd_same
        generalize upd H7 pW (.dK []) = H8 at s78 M8 hW8 ⊢
        walk_at "rd"
        refine for_str (l := sg) (fun pre σ Hn => ∃ (ns : List (List Nat)) (kvs kw : List (Key × V)) (v8 v9 v10 v11 v12 : Option V), σ = [some (.str (S sg)), some (.ref a), some (.ref pD), some (.ref pN), some (.ref pM), some (.ref pV), some (.int (lg R : Nat)), some (.ref pW), v8, v9, v10, v11, v12] ∧
          Same H Hn ∧ MInv Hn pD pN pM pV (R.map (·.1)) ns kvs ms ∧ NumV (R.map (·.1)) ns kvs ∧ ms.length < ns.length ∧ Hn pW = some (.dK kw) ∧ kw.length ≤ pre.length)
          ⟨ns, kvs, [], _, _, _, _, _, rfl, s78, M8, N, hc, hW8, Nat.le_refl _⟩ ?_ ?_
        · rintro pre c post σ H9 e ⟨ns, kvs, kw, v8, v9, v10, v11, v12, rfl, s9, M, N, hc, hW, hkw⟩
          have hpl : pre.length + 1 ≤ sg.length := by
            have := congrArg List.length e
            simp at this
            omega
          have hns : ns.length ≤ 257 := by
            have := beg_len N.nod N.beg h4'
            rw [List.length_map] at this
            omega
          have hg : ns[ms.length]? = some ns[ms.length] := by simp [hc]
          generalize ns[ms.length] = nm at hg
          have hnm := (N.beg nm (List.mem_of_getElem? hg)).len h4'
          have hgv : (ns.map vS)[ms.length]? = some (vS nm) := by rw [List.getElem?_map, hg]; rfl
          walk_at "nx"
          refine ⟨_, rfl, _, rfl, pV, ms, rfl, .inl (SqL.of M.v), pN, _, _, vS nm, rfl, rfl, SqL.of M.n, atI_nat hgv, ?_⟩
          refine ⟨_, rfl, _, _, rfl, rfl, by rw [S_len, S_len]; exact Nat.le_trans (m := 5) (by simp; omega) (by decide), ?_⟩
          rw [S_cat]
          walk_at "nx"
          generalize hu : nm ++ [c] = tx
          have htl : tx.length ≤ 5 := by rw [← hu]; simp; omega
          refine if_KH (!((R.map (·.1)).any fun l => l.isSuffixOf tx)) (fun H' => Same H9 H') (fun Q' hQ => ?_) (fun hb H10 s10 => ?_) (fun hb H10 s10 => ?_)
          · walk_at "nx"
            refine ⟨_, rfl, pD, rfl, ⟨_, SqL.of M.d⟩, fun D hD => lc_lstF (K := K) (a := pD) (f := vS) (l := R.map (·.1)) (fun pre H3 => H3 D = some (.lst ((pre.map fun l => l.isSuffixOf tx).map V.bl)) ∧ Same H9 H3)
              ⟨upd_same, same_new hD⟩ (fun pre H3 ⟨_, s3⟩ => SqL.of (s3 _ _ M.d)) ?_ ?_⟩
            · rintro pre l post H3 e ⟨h3, s3⟩
              refine ⟨rfl, ty_T ?_⟩
              have hpl : pre.length ≤ 64 := by
                have := congrArg List.length e
                simp at this
                omega
              refine ⟨_, rfl, ⟨_, rfl⟩, _, rfl, _, _, rfl, rfl, ?_⟩
              rw [endswith_S]
              refine ⟨_, h3, by rw [List.length_map, List.length_map]; exact Nat.lt_of_le_of_lt (m := 64) hpl (by decide), ?_, same_mut s3 hD⟩
              rw [List.map_append, List.map_append]
              exact upd_same
            · rintro H3 ⟨h3, s3⟩
              refine ⟨D, _, rfl, SqL.of h3, _, rfl, ?_⟩
              refine q_of (hQ _ s3) ?_
              rw [List.any_map]
              rfl
          · walk_at "nx"
            have M10 := M.same s10
            refine ⟨_, rfl, _, rfl, _, rfl, pD, R.map (·.1), lg R, tx, rfl, M10.d, by simpa using hl, h4', hlg, by omega, fun u H11 hu11 s11 => ?_⟩
            have M11 := M10.same s11
            have s11' := s10.trans s11
            walk_at "nx"
            refine st_ifJ (fun σ Hn => ∃ (ns : List (List Nat)) (kvs : List (Key × V)) (v12 : Option V), σ = [some (.str (S sg)), some (.ref a), some (.ref pD), some (.ref pN), some (.ref pM), some (.ref pV), some (.int (lg R : Nat)), some (.ref pW), some (.str (S [c])), some (.str (S tx)), some (.str (S u)), v11, v12] ∧
              Same H Hn ∧ MInv Hn pD pN pM pV (R.map (·.1)) ns kvs ms ∧ NumV (R.map (·.1)) ns kvs ∧ ms.length < ns.length ∧ Hn pW = some (.dK kw) ∧ u ∈ ns) (fun N' hN' => ?_) ?_
            · walk_at "rd"
              refine ⟨pM, _, rfl, DGet.k (k := Sum.inr (S u)) M11.m, _, rfl, ?_⟩
              by_cases hun : u ∈ ns
              · obtain ⟨i9, hi9⟩ := N.val u hun
                rw [hi9]
                refine iteF ?_
                walk_at "nx"
                exact hN' _ _ ⟨ns, kvs, _, rfl, s9.trans s11', M11, N, hc, s11' _ _ hW, hun⟩
              · rw [N.new u hun]
                refine iteT ?_
                have hkz : kvs.length < sizeLine := Nat.lt_of_lt_of_le (m := 258) (by have := N.len; omega) (by decide)
                refine ⟨_, rfl, pN, _, rfl, .inl (SqL.of M11.n), _, rfl, _, rfl, pM, _, rfl, DPut.k (k := Sum.inr (S u)) M11.m hkz, ?_⟩
                have hMN : pM ≠ pN := ne_of M11.m M11.n (by intro z; cases z)
                have hMD : pM ≠ pD := ne_of M11.m M11.d (by intro z; cases z)
                have hMV : pM ≠ pV := ne_of M11.m M11.v (by intro z; cases z)
                walk_at "nx"
                have hn12 : ∀ o, (upd H11 pM o) pN = some (.lst (ns.map vS)) := fun o => by rw [upd_ne hMN.symm]; exact M11.n
                refine ⟨_, rfl, .inl ⟨rfl, _, SqL.of (hn12 _)⟩, _, rfl, pN, _, _, rfl, rfl, hn12 _, by rw [List.length_map]; exact Nat.lt_of_lt_of_le (m := 258) (by omega) (by decide), ?_⟩
                refine hN' _ _ ⟨ns ++ [u], _, _, rfl, same_mut (same_mut (s9.trans s11') hpM0) hpN0, ⟨?_, ?_, ?_, ?_⟩, N.more hu11 hun (((ns.map vS).length : Nat) : Int), by simp; omega, ?_, by simp⟩
                · rw [upd_ne hDN, upd_ne hMD.symm]; exact M11.d
                · rw [List.map_append]; exact upd_same
                · rw [upd_ne hMN]; exact upd_same
                · rw [upd_ne hNV.symm, upd_ne hMV.symm]; exact M11.v
                · rw [upd_ne hNW.symm, upd_ne hMW.symm]; exact s11' _ _ hW
            · rintro σ H12 ⟨ns, kvs, v12, rfl, s12, M, N, hc, hW, hun⟩
              walk_at "rd"
              obtain ⟨i9, hi9⟩ := N.val u hun
              refine ⟨pM, _, rfl, by rw [← hi9]; exact DGet.k (k := Sum.inr (S u)) M.m, _, rfl, _, rfl, pW, _, rfl, DPut.k (k := Sum.inr (S [c])) hW (Nat.lt_of_lt_of_le (m := 100) (by omega) (by decide)), ?_⟩
              refine ⟨ns, kvs, _, _, _, _, _, _, rfl, same_mut s12 hpW0, ⟨?_, ?_, ?_, ?_⟩, N, hc, upd_same, ?_⟩
              · rw [upd_ne hDW]; exact M.d
              · rw [upd_ne hNW]; exact M.n
              · rw [upd_ne hMW]; exact M.m
              · rw [upd_ne hVW]; exact M.v
              · have := putK_leS kw (Sum.inr (S [c])) (V.int i9)
                simp
                omega
          · walk_at "nx"
            exact ⟨ns, kvs, kw, _, _, _, _, _, rfl, s9.trans s10, M.same s10, N, hc, s10 _ _ hW, by simp; omega⟩
        · rintro σ H9 ⟨ns, kvs, kw, v8, v9, v10, v11, v12, rfl, s9, M, N, hc, hW, hkw⟩
          have hns : ns.length ≤ 257 := by
            have := beg_len N.nod N.beg h4'
            rw [List.length_map] at this
            omega
          walk_at "nx"
          refine ⟨_, rfl, .inl ⟨rfl, _, SqL.of M.v⟩, _, rfl, pV, ms, _, rfl, rfl, M.v, Nat.lt_of_lt_of_le (m := 257) (by omega) (by decide), ?_⟩
          refine ⟨m - 1, ?_, ns, kvs, ms ++ [.ref pW], _, _, _, _, _, _, rfl, same_mut s9 hpV0, ⟨?_, ?_, ?_, upd_same⟩, N, by simp; omega⟩
          · omega
          · rw [upd_ne hDV]; exact M.d
          · rw [upd_ne hNV]; exact M.n
          · rw [upd_ne (ne_of M.m M.v (by intro z; cases z))]; exact M.m
      · rw [decide_eq_false (show ¬ ((ms.length : Nat) : Int) < (ns.length : Nat) by omega)]
        refine iteF ?_
        walk_at "rd"
        exact kk pV H7 s7
end
end Sh
set_option Elab.async false
set_option linter.all false
set_option maxRecDepth 100000
set_option maxHeartbeats 4000000
namespace Sh
open PySem PySem.Spec PyProof.Rows L2
open SX (S S_inj S_len S_cat)
open Bk (Rule firstAt lg bestUp used left drain pushS Wf)
theorem hu65_of {k : Nat} {A : Around} (hr : Room k A) : A.units + 65 < cLine := by
  have := hr.un
  omega
/-- a rule as data -/
def rD (r : Rule) : PyData := .tuple [.str (S r.1), .str (S r.2)]
theorem rD_eqv (a b : Rule) : PyData.eqv (rD a) (rD b) = decide (a = b) := by
  show (S a.1 == S b.1 && (S a.2 == S b.2 && true)) = _
  rw [Bool.and_true, Bool.eq_iff_iff]
  simp only [Bool.and_eq_true, beq_iff_eq, decide_eq_true_eq]
  constructor
  · rintro ⟨h, k⟩
    exact Prod.ext (S_inj h) (S_inj k)
  · rintro rfl
    exact ⟨rfl, rfl⟩
def Chars (t : List Nat) : Prop := ∀ c ∈ t, c < 1114112
theorem strOk_S {t : List Nat} (h : Chars t) : PyData.strOk (S t) = true := by
  unfold PyData.strOk
  show (Array.all _ _) = true
  rw [← Array.all_toList, List.all_eq_true]
  intro c hc
  exact decide_eq_true (h c hc)
def RChars (R : List Rule) : Prop := ∀ r ∈ R, Chars r.1 ∧ Chars r.2
theorem shaped_rule {r : Rule} (h : Chars r.1 ∧ Chars r.2) : SeqAt.shaped (rD r) = true := by
  unfold SeqAt.shaped
  rw [Bool.and_eq_true]
  refine ⟨?_, decide_eq_true (show (1 : Nat) ≤ 64 by decide)⟩
  show (PyData.strOk (S r.1) && (PyData.strOk (S r.2) && true)) = true
  rw [strOk_S h.1, strOk_S h.2]; rfl
theorem lay_rules : ∀ {R : List Rule}, RChars R → PyData.canLayAll0 (R.map rD) = true ∧ PyData.depthAll (R.map rD) ≤ 1
  | [], _ => ⟨rfl, Nat.zero_le _⟩
  | r :: R, h => by
    obtain ⟨h1, h2⟩ := lay_rules (R := R) fun x m => h x (List.mem_cons_of_mem _ m)
    have h3 := h r List.mem_cons_self
    refine ⟨?_, ?_⟩
    · show ((PyData.strOk (S r.1) && (PyData.strOk (S r.2) && true)) && PyData.canLayAll0 (R.map rD)) = true
      rw [strOk_S h3.1, strOk_S h3.2, h1]; rfl
    · show max 1 (PyData.depthAll (R.map rD)) ≤ 1
      omega
theorem shaped_rules {R : List Rule} (h : RChars R) : SeqAt.shaped (.list (R.map rD)) = true := by
  obtain ⟨h1, h2⟩ := lay_rules h
  unfold SeqAt.shaped
  rw [Bool.and_eq_true]
  refine ⟨h1, decide_eq_true ?_⟩
  show PyData.depthAll (R.map rD) + 1 ≤ 64
  omega
theorem letters_lt : ∀ c ∈ letters, c < 1114112 := by decide +kernel
theorem signs_chars {sg : List Nat} (h : isSigns sg = true) : Chars sg := by
  intro c hc
  obtain ⟨i, hi, rfl⟩ := List.mem_iff_getElem.mp hc
  simp only [isSigns, Bool.and_eq_true, List.all_eq_true, List.mem_range] at h
  have := h.2 i hi
  simp only [okAt, Bool.and_eq_true, decide_eq_true_eq] at this
  have e : sg.getD i 0 = sg[i] := by
    rw [List.getD_eq_getElem?_getD, List.getElem?_eq_getElem hi]; rfl
  rw [e] at this
  exact letters_lt _ this.1
local macro_rules | `(tactic| walk_at "nx") => `(tactic| repeat (with_reducible first | refine Sh.gn_mk ?_ | refine Sh.nx_mk ?_ | refine Sh.st_nx ?_ | refine Sh.rt_mk ?_ | refine Sh.ct_mk ?_ | refine Sh.bk_mk ?_))
local macro_rules | `(tactic| walk_at "sq") => `(tactic| first | exact SqL.of upd_same | exact SqT.of upd_same | exact SqL.of (by assumption) | exact SqT.of (by assumption) | assumption | exact Or.inl (SqL.of (by assumption)) | exact Or.inr (SqT.of (by assumption)) | exact Or.inl (by assumption) | exact Or.inr (by assumption))
local macro_rules | `(tactic| walk_at "hp") => `(tactic| first | exact upd_same | assumption)
local macro_rules | `(tactic| walk_at "sz") => `(tactic| first | exact Nat.le_of_ble_eq_true rfl | omega)
local macro_rules | `(tactic| walk_at "sd") => `(tactic| first | omega | exact rfl | assumption | (show (0 : Int) < _; omega) | exact And.intro (by omega) (by omega) | exact Or.inl (And.intro (by omega) (by omega)) | exact Or.inr (And.intro (by omega) (by omega)) | omega | exact Sh.sz_S (by omega) | decide)
local macro_rules | `(tactic| walk_at "rd1") => `(tactic| first
  | (with_reducible first | refine Sh.gn_mk ?_ | refine Sh.nx_mk ?_ | refine Sh.st_nx ?_ | refine Sh.rt_mk ?_ | refine Sh.ct_mk ?_ | refine Sh.bk_mk ?_)
  | refine Exists.intro (α := V) _ (And.intro rfl ?_)
  | refine Exists.intro (α := Bool) _ (And.intro rfl ?_)
  | refine Exists.intro (α := Int) _ (And.intro rfl ?_)
  | refine Exists.intro (α := PySem.Str) _ (And.intro rfl ?_)
  | refine Exists.intro (α := Int) _ (Exists.intro (α := Int) _ (And.intro rfl (And.intro rfl ?_)))
  | refine Exists.intro (α := PySem.Str) _ (Exists.intro (α := PySem.Str) _ (And.intro rfl (And.intro rfl ?_)))
  | refine Exists.intro (α := Int) _ (Exists.intro (α := Int) _ (And.intro rfl ?_))
  | refine Or.inl (Exists.intro (α := Int) _ (And.intro rfl ?_))
  | refine Exists.intro _ (Exists.intro _ (Exists.intro _ (Exists.intro _ (And.intro rfl (And.intro rfl (And.intro (by walk_at "sq") (And.intro rfl ?_)))))))
  | refine Exists.intro _ (Exists.intro _ (Exists.intro _ (Exists.intro _ (And.intro rfl (And.intro rfl (And.intro (by walk_at "hp") (And.intro rfl ?_)))))))
  | refine And.intro (by walk_at "sd") ?_
  )
local macro_rules | `(tactic| walk_at "rd") => `(tactic| repeat walk_at "rd1")
local macro_rules | `(tactic| walk_at "lk") => `(tactic| first | exact rfl | (rw [lookup_putF, if_pos rfl]) | (rw [lookup_putF, if_neg (by decide +kernel)]; walk_at "lk"))

section
variable {P : Program} {w : World} {K : PySem.W.Frag} {mg : Str → Option Value} {base : Heap}
def RItem (K : PySem.W.Frag) (H : Hp) (v : V) (r : Rule) : Prop := ∃ q, v = .ref q ∧ SqT K H q (rTup r)
theorem RItem.same {H H' : Hp} {v : V} {r : Rule} (h : RItem K H v r) (k : Keep H H') : RItem K H' v r := let ⟨q, e, s⟩ := h; ⟨q, e, k.seq s⟩
theorem RItem.dp {H : Hp} {v : V} {r : Rule} (h : RItem K H v r) : Dp K H v (rD r) := by
  obtain ⟨q, rfl, s⟩ := h
  exact .tup s (.cons (.str _) (.cons (.str _) .nil))
theorem dpAll_rules {H : Hp} : ∀ {xs : List V} {R : List Rule}, Items (RItem K) H xs R → DpAll K H xs (R.map rD)
  | [], [], _ => .nil
  | [], _ :: _, h => by have := h.1; simp at this
  | _ :: _, [], h => by have := h.1; simp at this
  | x :: xs, r :: R, h => .cons (h.2 0 x r rfl rfl).dp (dpAll_rules (xs := xs) (R := R) ⟨by have := h.1; simpa using this, fun i x y h1 h2 => h.2 (i + 1) x y h1 h2⟩)
theorem RulesAt.items {H : Hp} {a : Addr} {xs : List V} {R : List Rule} (h : RulesAt K H a xs R) : Items (RItem K) H xs R := ⟨h.len, h.it⟩
theorem any_rules {R : List Rule} {r : Rule} : ((R.map rD).any fun z => PyData.eqv z (rD r)) = decide (r ∈ R) := by
  rw [List.any_map, Bool.eq_iff_iff]
  simp only [List.any_eq_true, Function.comp, rD_eqv, decide_eq_true_eq]
  constructor
  · rintro ⟨x, hx, rfl⟩; exact hx
  · intro h; exact ⟨r, h, rfl⟩
def SqA (K : PySem.W.Frag) (H : Hp) (a : Addr) (xs : List V) : Prop := SqL K H a xs ∨ SqT K H a xs
theorem SqA.ty {K : PySem.W.Frag} {H : Hp} {a : Addr} {xs : List V} (h : SqA K H a xs) : ∃ n, TyX K H (.ref a) (.type n) ∧ n ∈ tys ∧ (n == "tuple" || n == "list") = true := by
  rcases h with h | h
  · exact ⟨"list", ty_lst h, by decide, by decide⟩
  · exact ⟨"tuple", ty_tup h, by decide, by decide⟩
theorem SqA.ix {K : PySem.W.Frag} {H : Hp} {a : Addr} {xs : List V} {i : Int} {v : V} {Q : VK} (h : SqA K H a xs) (e : atI xs i = some v) (q : Q v H) : rIx K (.ref a) (.int i) H Q := by
  rcases h with h | h
  · exact .inl ⟨a, xs, i, v, rfl, rfl, h, e, q⟩
  · exact .inr (.inl ⟨a, xs, i, v, rfl, rfl, h, e, q⟩)
theorem SqA.keep {H H' : Hp} {a : Addr} {xs : List V} (h : SqA K H a xs) (k : Same H H') : SqA K H' a xs := by
  rcases h with h | h
  · exact .inl (k.seq h)
  · exact .inr ((Keep.same k).seq h)
theorem tNil_mk {σ : L2.St} {H : Hp} {Q : List V → Hp → Prop} (h : Q [] H) : tNil σ H Q := h
theorem tupA {K : PySem.W.Frag} {H : Hp} {q : Addr} {ys : List V} {Q : VK} (h : SqA K H q ys) (k : ∀ p H', Same H H' → SqT K H' p ys → Q (.ref p) H') : ∃ p zs, [V.ref q] = [V.ref p] ∧ ((SqL K H p zs ∧ ∀ l, H l = none → Q (.ref l) (upd H l (.tup zs))) ∨ (SqT K H p zs ∧ Q (.ref p) H)) := by
  rcases h with h | h
  · exact ⟨q, ys, rfl, .inl ⟨h, fun l hl => k l _ (same_new hl) (SqT.of upd_same)⟩⟩
  · exact ⟨q, ys, rfl, .inr ⟨h, k q H (fun _ _ e => e) h⟩⟩
/-- the wall rules stand behind -/
def spIsRule (K : PySem.W.Frag) : Sp := fun vs H Q _ => ∃ (sg : List Nat) (q : Addr) (r : Rule), vs = [.str (S sg), .ref q] ∧ SqA K H q (rTup r) ∧ RuleOk sg 4 r ∧ Q (.bl true) H
theorem c_is_rule (T : Txt K mg) : Cal P w K mg base CX0 2 "is_rule" (spIsRule K) := by
  have c_is_listed := c_is_listed (P := P) (w := w) (base := base) T
  have c_is_text := c_is_text (P := P) (w := w) (base := base) T
  refine Cal.mk0 T.d_is_rule sc_is_rule (fun vs H Q E h => ?_) (fun f cdv A outer s H vs Q E hr h => ?_)
  · obtain ⟨sg, q, r, rfl, _⟩ := h
    rfl
  · obtain ⟨sg, q, r, rfl, hq, ⟨h1, h2, h3, h4, h5, h6⟩, k⟩ := h
    refine ⟨_, (pss_cons (ps_if (PW.pt (pw_or (pt_not (pt_truth (pe_c c_is_listed hr (by decide) rfl (pa_cons (pv 1) pa_nil)) (by intro _; rfl))) (pw_or1 (pt_cmpR op_ne (pe_callB call_len_seq (by rfl) T.b_len (by decide +kernel) (pa_cons (pv 1) pa_nil)) pe_int (nomark _)))))
    (pss_one (ps_ret pe_bl))
    pss_nil)
  (pss_cons (ps_if (PW.pt (pw_or (pt_not (pt_truth (pe_c c_is_text hr (by decide) rfl (pa_cons (pv 0) (pa_cons (pe_ix ix_seq (pv 1) pe_int (fun _ _ => rfl)) (pa_cons pe_int (pa_cons (pe_gK rfl T.g_LONGEST_LEFT) pa_nil))))) (by intro _; rfl))) (pw_or1 (pt_not (pt_truth (pe_c c_is_text hr (by decide) rfl (pa_cons (pv 0) (pa_cons (pe_ix ix_seq (pv 1) pe_int (fun _ _ => rfl)) (pa_cons pe_int (pa_cons pe_int pa_nil))))) (by intro _; rfl))))))
    (pss_one (ps_ret pe_bl))
    pss_nil)
  (pss_one (ps_ret (pe_cmpR op_lt (pe_callB call_len_str (by rfl) T.b_len (by decide +kernel) (pa_cons (pe_ix ix_seq (pv 1) pe_int (fun _ _ => rfl)) pa_nil)) (pe_callB call_len_str (by rfl) T.b_len (by decide +kernel) (pa_cons (pe_ix ix_seq (pv 1) pe_int (fun _ _ => rfl)) pa_nil)) (nomark _)))))), ?_⟩
    walk_at "rd"
    obtain ⟨tn, t1, t2, t3⟩ := hq.ty
    refine ⟨_, _, rfl, t1, t2, ?_⟩
    rw [t3]
    refine ⟨true, rfl, ?_⟩
    refine iteF ?_
    walk_at "rd"
    refine ⟨q, _, rfl, hq, ?_⟩
    walk_at "rd"
    refine hq.ix (i := 0) (v := .str (S r.1)) rfl ?_
    walk_at "rd"
    have e1 : isText sg r.1 1 4 = true := by
      have c2 : (1 : Int) ≤ (r.1.length : Int) := by omega
      have c3 : (r.1.length : Int) ≤ 4 := by omega
      simp only [isText, c2, c3, decide_true, Bool.true_and, List.all_eq_true]
      exact fun c h => decide_eq_true (h3 c h)
    have e2 : isText sg r.2 0 1 = true := by
      have c2 : (0 : Int) ≤ (r.2.length : Int) := by omega
      have c3 : (r.2.length : Int) ≤ 1 := by omega
      simp only [isText, c2, c3, decide_true, Bool.true_and, List.all_eq_true]
      exact fun c h => decide_eq_true (h4 c h)
    refine .inl ⟨sg, r.1, 1, 4, rfl, by omega, ?_⟩
    rw [e1]
    refine ⟨true, rfl, ?_⟩
    refine iteF ?_
    walk_at "rd"
    refine hq.ix (i := 1) (v := .str (S r.2)) rfl ?_
    walk_at "rd"
    refine .inl ⟨sg, r.2, 0, 1, rfl, by omega, ?_⟩
    rw [e2]
    refine ⟨true, rfl, ?_⟩
    refine iteF ?_
    walk_at "rd"
    refine hq.ix (i := 1) (v := .str (S r.2)) rfl ?_
    walk_at "rd"
    refine hq.ix (i := 0) (v := .str (S r.1)) rfl ?_
    walk_at "rd"
    rw [S_len, S_len]
    show Q (.bl (decide ((r.2.length : Int) < (r.1.length : Int)))) H
    rw [decide_eq_true (by omega)]
    exact k
def BookOk (sg : List Nat) (R : List Rule) : Prop := isSigns sg = true ∧ R.length ≤ 64 ∧ (∀ r ∈ R, RuleOk sg 4 r) ∧ R.Nodup
theorem BookOk.chars {sg : List Nat} {R : List Rule} (h : BookOk sg R) : RChars R := fun r m =>
  ⟨fun c hc => signs_chars h.1 c ((h.2.2.1 r m).2.2.1 c hc), fun c hc => signs_chars h.1 c ((h.2.2.1 r m).2.2.2.1 c hc)⟩
theorem BookOk.wf {sg : List Nat} {R : List Rule} (h : BookOk sg R) : Wf R := fun r m => ⟨(h.2.2.1 r m).2.2.2.2.2, (h.2.2.1 r m).2.2.2.2.1⟩
/-- a list or a tuple of rules stands at a -/
structure RulesA (K : PySem.W.Frag) (H : Hp) (a : Addr) (xs : List V) (R : List Rule) : Prop where
  at_ : H a = some (.lst xs) ∨ SqT K H a xs
  len : xs.length = R.length
  it : ∀ (i : Nat) x r, xs[i]? = some x → R[i]? = some r → ∃ q, x = .ref q ∧ SqA K H q (rTup r)
theorem RulesA.sq {H : Hp} {a : Addr} {xs : List V} {R : List Rule} (h : RulesA K H a xs R) : SqA K H a xs := h.at_.elim (fun e => .inl (SqL.of e)) .inr
theorem RulesA.same {H H' : Hp} {a : Addr} {xs : List V} {R : List Rule} (h : RulesA K H a xs R) (k : Same H H') : RulesA K H' a xs R :=
  ⟨h.at_.imp (k _ _) (Keep.same k).seq, h.len, fun i x r h1 h2 => let ⟨q, e, s⟩ := h.it i x r h1 h2; ⟨q, e, s.keep k⟩⟩
theorem RulesA.get {H : Hp} {a : Addr} {xs : List V} {R : List Rule} (h : RulesA K H a xs R) {i : Nat} {r : Rule} (hr : R[i]? = some r) : ∃ q, xs[i]? = some (.ref q) ∧ SqA K H q (rTup r) := by
  obtain ⟨hi, _⟩ := List.getElem?_eq_some_iff.mp hr
  have hi2 : i < xs.length := by rw [h.len]; exact hi
  obtain ⟨q, e, s⟩ := h.it i xs[i] r (List.getElem?_eq_getElem hi2) hr
  exact ⟨q, by rw [List.getElem?_eq_getElem hi2, e], s⟩
theorem RulesAt.any {H : Hp} {a : Addr} {xs : List V} {R : List Rule} (h : RulesAt K H a xs R) : RulesA K H a xs R := ⟨.inr h.sq, h.len, fun i x r h1 h2 => let ⟨q, e, s⟩ := h.it i x r h1 h2; ⟨q, e, .inr s⟩⟩
def spChecked (K : PySem.W.Frag) : Sp := fun vs H Q _ => ∃ (sg : List Nat) (a : Addr) (xs : List V) (R : List Rule), vs = [.str (S sg), .ref a] ∧ RulesA K H a xs R ∧ BookOk sg R ∧
  ∀ (p : Addr) (ys : List V) (H' : Hp), Same H H' → RulesAt K H' p ys R → Q (.ref p) H'
theorem c_checked_rules (T : Txt K mg) : Cal P w K mg base CX0 3 "checked_rules" (spChecked K) := by
  have c_is_listed := c_is_listed (P := P) (w := w) (base := base) T
  have c_is_rule := c_is_rule (P := P) (w := w) (base := base) T
  refine Cal.mk0 T.d_checked_rules sc_checked_rules (fun vs H Q E h => ?_) (fun f cdv A outer s H vs Q E hr h => ?_)
  · obtain ⟨sg, a, xs, R, rfl, _⟩ := h
    rfl
  · obtain ⟨sg, a, xs, R, rfl, hR, hB, kk⟩ := h
    have hu65 := hu65_of hr
    have hch := hB.chars
    have hlx := hR.len
    obtain ⟨hsg, hl, hok, hnd⟩ := hB
    refine ⟨_, (pss_cons (ps_if (PW.pt (pw_or (pt_not (pt_truth (pe_c c_is_listed hr (by decide) rfl (pa_cons (pv 1) pa_nil)) (by intro _; rfl))) (pw_or1 (pt_cmpR op_gt (pe_callB call_len_seq (by rfl) T.b_len (by decide +kernel) (pa_cons (pv 1) pa_nil)) (pe_gK rfl T.g_MOST_RULES) (nomark _)))))
    (pss_one ps_never)
    pss_nil)
  (pss_cons (ps_set (i := 2) sc_checked_rules.nd rfl (Or.inl rfl) (pe_lst pa_nil))
  (pss_cons (ps_for PassesOwn.never rfl (pi_range1 (by rfl) T.b_range (pa_cons (pe_callB call_len_seq (by rfl) T.b_len (by decide +kernel) (pa_cons (pv 1) pa_nil)) pa_nil)) (pg_name (i := 3) sc_checked_rules.nd rfl (Or.inl rfl))
    (pss_cons (ps_if (PW.pt (pw_or (pt_not (pt_truth (pe_c c_is_rule hr (by decide) rfl (pa_cons (pv 0) (pa_cons (pe_ix ix_seq (pv 1) (pv 3) (fun _ _ => rfl)) pa_nil))) (by intro _; rfl))) (pw_or1 (pt_cmpR (op_inD hu65) (pe_callTy call_tuple_of (by rfl) T.b_tuple (by decide +kernel) (pa_cons (pe_ix ix_seq (pv 1) (pv 3) (fun _ _ => rfl)) pa_nil)) (pv 2) (by rfl)))))
      (pss_one ps_never)
      pss_nil)
    (pss_one (ps_expr (pe_bm PySem.F.plainAttrs_list PySem.F.slot_list_append PySem.F.type_list_append mt_append (pv 2) (pa_cons (pe_callTy call_tuple_of (by rfl) T.b_tuple (by decide +kernel) (pa_cons (pe_ix ix_seq (pv 1) (pv 3) (fun _ _ => rfl)) pa_nil)) pa_nil))))))
  (pss_one (ps_ret (pe_callTy call_tuple_of (by rfl) T.b_tuple (by decide +kernel) (pa_cons (pv 2) pa_nil))))))), ?_⟩
    walk_at "rd"
    obtain ⟨tn, t1, t2, t3⟩ := hR.sq.ty
    refine ⟨_, _, rfl, t1, t2, ?_⟩
    rw [t3]
    walk_at "rd"
    refine ⟨a, _, rfl, hR.sq, ?_⟩
    walk_at "rd"
    rw [show decide ((64 : Int) < (xs.length : Int)) = false from decide_eq_false (by omega)]
    refine iteF ?_
    walk_at "rd"
    intro p hp
    have s1 : Same H (upd H p (.lst [])) := same_new hp
    refine ⟨_, rfl, a, xs, rfl, (hR.same s1).sq, ?_⟩
    walk_at "rd"
    refine for_range (lo := 0) (n := ((xs.length : Int)).toNat) (fun i σ H2 => ∃ (ys : List V) (v3 : Option V), σ = [some (.str (S sg)), some (.ref a), some (.ref p), v3] ∧ Same H H2 ∧ H2 p = some (.lst ys) ∧ Items (RItem K) H2 ys (R.take i))
      ⟨[], _, rfl, s1, upd_same, Items.nil⟩ ?_ ?_
    · rintro i σ H2 hi ⟨ys, v3, rfl, s2, hp2, it2⟩
      rw [Int.zero_add]
      have hi2 : i < R.length := by omega
      have hr2 : R[i]? = some R[i] := by simp [hi2]
      obtain ⟨q, hq, sq⟩ := (hR.same s2).get hr2
      have et : R.take (i + 1) = R.take i ++ [R[i]] := by rw [List.take_succ, hr2]; rfl
      have hni : R[i] ∉ R.take i := by
        intro hm
        obtain ⟨j, hj, e⟩ := List.mem_iff_getElem.mp hm
        have hj2 : j < i := by
          rw [List.length_take] at hj
          omega
        rw [List.getElem_take] at e
        exact absurd (List.getElem_inj hnd |>.mp e) (by omega)
      have hR2 := hR.same s2
      have hci := hch _ (List.getElem_mem hi2)
      have hct : RChars (R.take i) := fun r m => hch r (List.mem_of_mem_take m)
      walk_at "nx"
      refine st_ifKH false (fun H' => Same H2 H') (fun Q' hQ => ?_) (fun hb => by cases hb) (fun _ H3 s3 => ?_)
      · refine ⟨_, rfl, _, rfl, _, rfl, hR2.sq.ix (atI_nat hq) ?_⟩
        refine ⟨sg, q, R[i], rfl, sq, hok _ (List.getElem_mem hi2), true, rfl, ?_⟩
        refine iteF ?_
        refine ⟨_, rfl, _, rfl, hR2.sq.ix (atI_nat hq) ?_⟩
        refine tNil_mk ?_
        refine ⟨q, _, rfl, sq.elim (fun sl => .inl ⟨sl, fun l hl => ?_⟩) fun st => .inr ⟨st, ?_⟩⟩
        · have s3 := same_new (o := .tup (rTup R[i])) hl
          have sq2 : SqT K (upd H2 l (.tup (rTup R[i]))) l (rTup R[i]) := SqT.of upd_same
          have it3 := it2.mono fun x y r => RItem.same r (Keep.same s3)
          refine ⟨_, rfl, rD R[i], (R.take i).map rD, RItem.dp ⟨l, rfl, sq2⟩, .lst (SqL.of (s3 _ _ hp2)) (dpAll_rules it3), shaped_rule hci, shaped_rules hct, _, rfl, ?_⟩
          rw [any_rules, decide_eq_false hni]
          exact hQ _ s3
        · have s3 : Same H2 H2 := fun _ _ e => e
          have it3 := it2.mono fun x y r => RItem.same r (Keep.same s3)
          refine ⟨_, rfl, rD R[i], (R.take i).map rD, RItem.dp ⟨q, rfl, st⟩, .lst (SqL.of (s3 _ _ hp2)) (dpAll_rules it3), shaped_rule hci, shaped_rules hct, _, rfl, ?_⟩
          rw [any_rules, decide_eq_false hni]
          exact hQ _ s3
      · have hR3 := hR2.same s3
        have hp3 := s3 _ _ hp2
        have it3 := it2.mono fun x y r => RItem.same r (Keep.same s3)
        have sq3 := sq.keep s3
        walk_at "nx"
        have hyl : ys.length < sizeLine := by
          have := it2.1
          rw [List.length_take] at this
          exact Nat.lt_of_le_of_lt (m := 64) (by omega) (by decide)
        refine ⟨_, rfl, .inl ⟨rfl, _, SqL.of hp3⟩, _, rfl, _, rfl, hR3.sq.ix (atI_nat hq) ?_⟩
        refine tNil_mk ?_
        refine ⟨q, _, rfl, sq3.elim (fun sl => .inl ⟨sl, fun l hl => ?_⟩) fun st => .inr ⟨st, ?_⟩⟩
        · have s4 := same_new (o := .tup (rTup R[i])) hl
          have sq4 : SqT K (upd H3 l (.tup (rTup R[i]))) l (rTup R[i]) := SqT.of upd_same
          refine tNil_mk ?_
          have hp4 := s4 _ _ hp3
          refine ⟨p, _, _, rfl, rfl, hp4, hyl, ?_⟩
          refine ⟨ys ++ [.ref l], _, rfl, same_mut (s2.trans (s3.trans s4)) hp, upd_same, ?_⟩
          rw [et]
          have hk : Keep (upd H3 l (.tup (rTup R[i]))) (upd (upd H3 l (.tup (rTup R[i]))) p (.lst (ys ++ [.ref l]))) := Keep.butL but_upd hp4
          exact it3.snoc (fun x y r => (r.same (Keep.same s4)).same hk) ⟨l, rfl, hk.seq sq4⟩
        · have s4 : Same H3 H3 := fun _ _ e => e
          refine tNil_mk ?_
          have hp4 := s4 _ _ hp3
          refine ⟨p, _, _, rfl, rfl, hp4, hyl, ?_⟩
          refine ⟨ys ++ [.ref q], _, rfl, same_mut (s2.trans (s3.trans s4)) hp, upd_same, ?_⟩
          rw [et]
          have hk : Keep H3 (upd H3 p (.lst (ys ++ [.ref q]))) := Keep.butL but_upd hp4
          exact it3.snoc (fun x y r => (r.same (Keep.same s4)).same hk) ⟨q, rfl, hk.seq st⟩
    · rintro σ H2 ⟨ys, v3, rfl, s2, hp2, it2⟩
      walk_at "rd"
      refine ⟨p, _, rfl, .inl ⟨SqL.of hp2, fun l hl => ?_⟩⟩
      rw [List.take_of_length_le (by omega)] at it2
      have s3 := s2.trans (same_new (o := .tup ys) hl)
      refine kk l ys _ s3 ⟨SqT.of upd_same, it2.1, fun i x r h1 h2 => ?_⟩
      exact (it2.2 i x r h1 h2).same (Keep.same (same_new hl))
end
end Sh
set_option Elab.async false
set_option linter.all false
set_option maxRecDepth 100000
set_option maxHeartbeats 2000000
namespace Sh
open PySem PySem.Spec PyProof.Rows L2
/-- a class of the text -/
structure ClassAt (K : PySem.W.Frag) (mg : Str → Option Value) (x : Str) (C : Addr) : Prop where
  cl : Cls K C
  mgC : mg x = some (.ref C)
  makes : PySem.W.makesIn K C = true
  kp : PySem.W.keepIn K (.ref C) = true
/-- a method of the class at C -/
structure MethAt (K : PySem.W.Frag) (C : Addr) (m q : Str) (st : Stmt) (ps : List Str) : Prop where
  ex : ∃ (f : Addr) (fd : FuncData), L2.Fun K m q st f fd ∧ Binds K fd ps [] ∧ PySem.W.findIn K (.ref C) m = some (some (.ref f)) ∧ PySem.W.isFn K (.ref f) = true ∧ PySem.W.fnIn K f = true
structure MetC (P : Program) (w : World) (K : PySem.W.Frag) (mg : Str → Option Value) (base : Heap) (k : Nat) (C : Addr) (m : Str) (sp : Sp) : Prop where
  ex : ∃ (f : Addr) (fd : FuncData) (ps : List Str), FnOk P w K mg base CX0 k f fd ps sp ∧ Binds K fd ps [] ∧ PySem.W.findIn K (.ref C) m = some (some (.ref f)) ∧ PySem.W.isFn K (.ref f) = true ∧ PySem.W.fnIn K f = true
section
variable {P : Program} {w : World} {K : PySem.W.Frag} {mg : Str → Option Value} {base : Heap}
theorem MetC.mk0 {m q : Str} {C : Addr} {st : Stmt} {N ps : List Str} {k : Nat} {sp : Sp} (D : MethAt K C m q st ps) (S : FnScope N ps (defScope st)) (len : ∀ vs H Q E, sp vs H Q E → vs.length = ps.length)
    (hbody : ∀ (f : Addr) (cdv : Value) (A : Around) (outer : List Env) (s : Shared) (H : Hp) (vs : List V) (Q : VK) (E : XK), Room k (A.deeper (envOfC q (defScope st) s.heap.objs.size f cdv)) → sp vs H Q E →
      ∃ t, PSs (cxOf CX0 P w K mg base N q (defScope st) f cdv A outer s H E).nox (defBody st) t ∧ t { nx := fun _ H' => Q .non H', rt := Q } (start N vs) H) : MetC P w K mg base (k + 1) C m sp := by
  obtain ⟨f, fd, F, b, i, n, o⟩ := D.ex
  exact ⟨f, fd, ps, F.ok S len (hbody f), b, i, n, o⟩
end
section
variable {X : Cx} {k j : Nat} {x m : Str} {C : Addr} {sp : Sp} {p pos : Pos} {e fe : Expr} {es : List Expr} {t : TA} {tf : TE}
/-- C(e, ..) -/
theorem pe_mkC (c : ClassAt X.K X.mg x C) (d : MetC X.prog X.w X.K X.mg X.base k C "__init__" sp) (hr : Room j X.A) (hk : k + 1 ≤ j) (hg : Gl X x) (ha : PA X (e :: es) t)
    (hdb : (x == ("__debug__" : Str)) = false := by decide) (he : starEach (e :: es) X.env = (false, eval e X.env) :: starEach es X.env := by rfl) (hpl : (backTo pos (starEach es X.env)).any (·.1) = false := by rfl) :
    PE X (.Call (.Name x p) (e :: es) [] pos) (tMake C sp [] E0 t) := by
  obtain ⟨f, fd, ps, F, b, i, n, o⟩ := d.ex
  exact pe_make ⟨c.makes, i, n, c.kp⟩ F (hr.mono hk) hg c.mgC b .nil pass0 ha hdb he hpl
/-- o(e, ..), o an instance -/
theorem pe_instC (hf : PE X fe tf) (d : MetC X.prog X.w X.K X.mg X.base k C "__call__" sp) (hr : Room j X.A) (hk : k ≤ j) (ha : PA X (e :: es) t)
    (ht : eval (.Call fe (e :: es) [] pos) X.env = (do callWith pos (← eval fe X.env) [] (backTo pos (starEach (e :: es) X.env)) (backToKw pos (keywordEach [] X.env))) := by rfl)
    (he : starEach (e :: es) X.env = (false, eval e X.env) :: starEach es X.env := by rfl) (hpl : (backTo pos (starEach es X.env)).any (·.1) = false := by rfl) : PE X (.Call fe (e :: es) [] pos) (StX.tCallO X C sp E0 tf t) := by
  obtain ⟨f, fd, ps, F, b, i, n, o⟩ := d.ex
  exact StX.pe_callO hf ⟨i, n, o⟩ (fnR_of F b) (hr.mono hk) pass0 ha ht he hpl
/-- bool(o) -/
theorem call_boolC (d : MetC X.prog X.w X.K X.mg X.base k C "__bool__" sp) (hr : Room j X.A) (hk : k + 2 ≤ j) : CallR X (.type "bool") (rBoolO C sp E0) := by
  obtain ⟨f, fd, ps, F, b, i, n, o⟩ := d.ex
  exact call_boolO i n (fnR_of F b) (hr.mono hk) pass0
end
theorem putF_le (f : Str) (v : V) : ∀ fs : List (Str × V), (putF f v fs).length ≤ fs.length + 1
  | [] => Nat.le_refl _
  | (g, x) :: r => by
    show (if g = f then (g, v) :: r else (g, x) :: putF f v r).length ≤ _
    have := putF_le f v r
    split <;> simp <;> omega
theorem Keep.butI {H H' : Hp} {a C dx : Addr} {fs : List (Str × V)} (s : But a H H') (z : H a = some (.ins C dx fs)) : Keep H H' := fun b xs h => by
  rcases h with h | ⟨o, h⟩
  · exact .inl (s _ _ (ne_of h z (by intro q; cases q)) h)
  · exact .inr ⟨o, s _ _ (ne_of h z (by intro q; cases q)) h⟩
end Sh
set_option Elab.async false
set_option linter.all false
set_option maxRecDepth 100000
set_option maxHeartbeats 2000000
namespace Sh
open PySem PySem.Spec PyProof.Rows L2
section
variable {X : Cx} {C : Addr} {k j : Nat} {sp : Sp} {a : Expr} {ta : TE} {pos : Pos}
/-- not o, o an instance of the class at C with an own __bool__ -/
def tNotI (C : Addr) (sp : Sp) (ta : TE) : TE := fun σ H Q => ta σ H fun x H1 => ∃ p dx fs, x = .ref p ∧ H1 p = some (.ins C dx fs) ∧ sp [.ref p] H1 (fun z H2 => ∃ b, z = .bl b ∧ Q (.bl (!b)) H2) E0
theorem pe_notI (d : MetC X.prog X.w X.K X.mg X.base k C "__bool__" sp) (hr : Room j X.A) (hk : k ≤ j) (ha : PE X a ta) : PE X (.UnaryOp .Not a pos) (tNotI C sp ta) := by
  obtain ⟨f, fd, ps, F, b, i, n, o⟩ := d.ex
  refine ⟨fun pins s σ H Q I h => ?_⟩
  refine UnaryOp_ (thn (ha.run pins s σ H _ I h) fun v s1 ⟨x, H1, I1, r1, p, dx, fs, ex, hH, q⟩ => ?_)
  subst ex
  obtain rfl : v = .ref p := r1
  obtain ⟨ox, od, J, _⟩ := StX.insC_at (C := C) I1 (.inr ⟨dx, fs, hH⟩)
  refine not_of (truthy_own I1.kIn J i n (wpAny_mono (run_in (us := [.ref p]) (ws := [.ref p]) (fnR_of F b) (hr.mono hk) I1.env0 pass0 I1 (.cons rfl .nil) q) (fun v s' z => ?_) fun _ _ x => x))
  obtain ⟨z', H', I', rz, c, ec, qz⟩ := z
  subst ec
  obtain rfl : v = .bool c := rz
  exact ⟨c, rfl, .bl (!c), H', I', rfl, qz⟩
end
end Sh
set_option Elab.async false
set_option linter.all false
set_option maxRecDepth 100000
set_option maxHeartbeats 2000000
namespace Sh
open PySem PySem.Spec PyProof.Rows L2
section
variable {X : Cx} {k j : Nat} {C : Addr} {sp : Sp} {pos : Pos} {e fe : Expr} {es : List Expr} {t : TA} {tf : TE}
/-- o(e, ..), o an instance with fields: a reading that does not name the frame (for comprehensions) -/
def tInst (C : Addr) (sp : Sp) (tf : TE) (t : TA) : TE := fun σ H Q => tf σ H fun y H1 => ∃ a, y = V.ref a ∧ t σ H1 fun zs H2 => (∃ dx fs, H2 a = some (.ins C dx fs)) ∧ sp (V.ref a :: zs) H2 Q E0
theorem pe_instP (hf : PE X fe tf) (d : MetC X.prog X.w X.K X.mg X.base k C "__call__" sp) (hr : Room j X.A) (hk : k ≤ j) (ha : PA X (e :: es) t)
    (h1 : eval (.Call fe (e :: es) [] pos) X.env = (do callWith pos (← eval fe X.env) [] (backTo pos (starEach (e :: es) X.env)) (backToKw pos (keywordEach [] X.env))) := by rfl)
    (h2 : starEach (e :: es) X.env = (false, eval e X.env) :: starEach es X.env := by rfl) (h3 : (backTo pos (starEach es X.env)).any (·.1) = false := by rfl) : PE X (.Call fe (e :: es) [] pos) (tInst C sp tf t) := by
  obtain ⟨f, fd, ps, F, b, i, n, o⟩ := d.ex
  constructor
  intro pins s σ H Q I h
  refine Call_ (thn (hf.run pins s σ H _ I h) ?_) h1
  rintro u s1 ⟨_, H1, I1, ry, a, rfl, q⟩
  obtain rfl : u = .ref a := ry
  refine StX.callO_with (thn (ha.run pos pins s1 σ H1 _ I1 q) ?_) h2 h3
  rintro us s2 ⟨zs, H2, I2, rz, isC, q2⟩
  obtain ⟨ox, od, J, dat⟩ := StX.insC_at (C := C) I2 (.inr isC)
  exact ⟨⟨C, ox, od, J, dat⟩, StX.run_callO ⟨i, n, o⟩ (fnR_of F b) (hr.mono hk) pass0 I2 (.inr isC) rz q2⟩
end
end Sh
set_option Elab.async false
set_option linter.all false
set_option maxRecDepth 100000
set_option maxHeartbeats 2000000
/-! sorted of tuples of ints and texts, of any length, without and with a key def -/
namespace Sh
open PySem PySem.Spec PyProof.Rows L2
/-! ### a total order -/
def cd : V → List Int
  | .int i => [0, i]
  | .str s => 1 :: s.cps.toList.map Int.ofNat
  | _ => [2]
def cLt (a b : List V) : Bool := decide (a.map cd < b.map cd)
theorem ofNat_lt (a b : List Nat) : (a.map Int.ofNat < b.map Int.ofNat) ↔ a < b := by
  induction a generalizing b with
  | nil => cases b <;> simp
  | cons x a ih =>
    cases b with
    | nil => simp
    | cons y b =>
      rw [List.map_cons, List.map_cons, List.cons_lt_cons_iff, List.cons_lt_cons_iff, ih]
      constructor
      · rintro (h | ⟨h, k⟩)
        · exact .inl (Int.ofNat_lt.mp h)
        · exact .inr ⟨Int.ofNat.inj h, k⟩
      · rintro (h | ⟨h, k⟩)
        · exact .inl (Int.ofNat_lt.mpr h)
        · exact .inr ⟨congrArg Int.ofNat h, k⟩
theorem cd_lt {x y : V} (h : sameK x y = true) : vLt x y = decide (cd x < cd y) := by
  cases x <;> cases y <;> first | cases h | skip
  · rename_i i j
    show decide (i < j) = decide ([0, i] < [0, j])
    refine decide_eq_decide.mpr ?_
    simp [List.cons_lt_cons_iff]
  · rename_i a b
    show decide (a.cps.toList < b.cps.toList) = decide ((1 : Int) :: a.cps.toList.map Int.ofNat < 1 :: b.cps.toList.map Int.ofNat)
    refine decide_eq_decide.mpr ?_
    rw [List.cons_lt_cons_iff, ofNat_lt]
    simp
theorem cd_eq {x y : V} (h : sameK x y = true) : (x = y) ↔ (cd x = cd y) := by
  cases x <;> cases y <;> first | cases h | skip
  · rename_i i j
    simp [cd]
  · rename_i a b
    refine ⟨fun e => by rw [e], fun e => ?_⟩
    have e' : a.cps.toList.map Int.ofNat = b.cps.toList.map Int.ofNat := (List.cons.inj e).2
    have inj : Function.Injective Int.ofNat := fun a b h => Int.ofNat.inj h
    have e2 : a.cps.toList = b.cps.toList := by
      have := congrArg (List.map Int.toNat) e'
      simpa [List.map_map, Function.comp_def] using this
    have e3 : a.cps = b.cps := Array.toList_inj.mp e2
    cases a; cases b
    simp only at e3
    rw [e3]
theorem tup_cLt : ∀ {a b : List V}, sameKs a b = true → tupLt a b = cLt a b
  | [], [], _ => by simp [tupLt, cLt]
  | [], _ :: _, _ => by simp [tupLt, cLt]
  | _ :: _, [], _ => by simp [tupLt, cLt]
  | x :: xs, y :: ys, h => by
    have h' : (sameK x y && sameKs xs ys) = true := h
    rw [Bool.and_eq_true] at h'
    have ih := tup_cLt h'.2
    unfold tupLt cLt
    by_cases e : x = y
    · subst e
      rw [if_pos rfl, ih]
      unfold cLt
      refine decide_eq_decide.mpr ?_
      rw [List.map_cons, List.map_cons, List.cons_lt_cons_iff]
      constructor
      · exact fun k => .inr ⟨rfl, k⟩
      · rintro (k | ⟨_, k⟩)
        · exact absurd k (List.lt_irrefl _)
        · exact k
    · rw [if_neg e, cd_lt h'.1]
      refine decide_eq_decide.mpr ?_
      rw [List.map_cons, List.map_cons, List.cons_lt_cons_iff]
      constructor
      · exact fun k => .inl k
      · rintro (k | ⟨k, _⟩)
        · exact k
        · exact absurd ((cd_eq h'.1).mpr k) e
theorem swo_cLt {α : Type} (k : α → List V) : SrtO.Swo fun u v => cLt (k u) (k v) := by
  refine ⟨fun x y h => ?_, fun x y z h1 h2 => ?_⟩
  · have a := of_decide_eq_true h
    exact decide_eq_false fun b => List.lt_irrefl _ (List.lt_trans a b)
  · have a := of_decide_eq_false h1
    have b := of_decide_eq_false h2
    refine decide_eq_false fun c => ?_
    rcases Classical.em ((k y).map cd < (k x).map cd) with q | q
    · exact a q
    · -- x ≤ y, y ≤ z, z < x
      rcases Classical.em ((k x).map cd < (k y).map cd) with p | p
      · exact b (List.lt_trans c p)
      · have e : (k x).map cd = (k y).map cd := by
          have h1 : (k x).map cd ≤ (k y).map cd := List.not_lt.mp q
          have h2 : (k y).map cd ≤ (k x).map cd := List.not_lt.mp p
          exact List.le_antisymm h1 h2
        rw [e] at c
        exact b c
/-! ### tuples in a heap -/
def TupV (h : Heap) (v : Value) (ks : List V) : Prop := ∃ (a : Addr) (o : Obj) (its : List Value) (n : Nat), v = .ref a ∧ h.get? a = some o ∧ o.cls = .type "tuple" ∧ o.data = .seq its.toArray n ∧ Vals ks its
theorem TupV.keeps {h h' : Heap} {v : Value} {ks : List V} (x : TupV h v ks) (k : ∀ b o, h.get? b = some o → o.cls = .type "tuple" → h'.get? b = some o) : TupV h' v ks := by
  obtain ⟨a, o, its, n, e, ho, hc, hd, r⟩ := x
  exact ⟨a, o, its, n, e, k _ _ ho hc, hc, hd, r⟩
inductive First : String → V → Prop
  | int (i : Int) : First "int" (.int i)
  | str (s : Str) : First "str" (.str s)
def Head (T : String) (ks : List V) : Prop := ∃ x r, ks = x :: r ∧ First T x
section
variable {prog : Program} {w : World} {A : Around} {s : Shared} {E : Value → Shared → Prop} {Q : Bool → Shared → Prop}
theorem oneLt_str' (c : Bool) {p q : Str} {t u : Tok} (h : Q (decide (p.cps.toList < q.cps.toList)) s) : wpAny (model prog w) A (oneLt' c (.str p t) (.str q u)) Q E s := by
  cases c with
  | true => exact oneLt_str h
  | false => exact PySem.W.kat_one _ _ (PyProof.Rows.lt_str (Q := PySem.W.BoolBack Q) h)
theorem lex_mixed {b fin : Bool} : ∀ {ks ms : List V} {xs ys : List Value} (i : Nat), Vals ks xs → Vals ms ys → sameKs ks ms = true → fin = decide (ks.length < ms.length) → Q (tupLt ks ms) s → PySem.W.KatLex prog w A b fin Q (xs.zip ys) i s
  | [], [], _, _, i, .nil, .nil, _, e, h => by
    subst e
    exact PySem.W.kat_nil h
  | [], y :: ms, _, _, i, .nil, .cons _ _, _, e, h => by
    refine PySem.W.kat_nil ?_
    rw [e, show decide (([] : List V).length < (y :: ms).length) = true from decide_eq_true (by simp)]
    exact h
  | x :: ks, [], _, _, i, .cons _ _, .nil, _, e, h => by
    refine PySem.W.kat_nil ?_
    rw [e, show decide ((x :: ks).length < ([] : List V).length) = false from decide_eq_false (by simp)]
    exact h
  | x :: ks, y :: ms, _, _, i, .cons rx rxs, .cons ry rys, hs, e, h => by
    have h' : (sameK x y && sameKs ks ms) = true := hs
    rw [Bool.and_eq_true] at h'
    have e' : fin = decide (ks.length < ms.length) := by
      rw [e]
      exact decide_eq_decide.mpr (by simp)
    have hq : Q (if x = y then tupLt ks ms else vLt x y) s := h
    cases x <;> cases y <;> first | cases h'.1 | skip
    · rename_i i1 i2
      obtain ⟨t1, rfl⟩ := rx
      obtain ⟨t2, rfl⟩ := ry
      refine PySem.W.kat_cons (SeqAt.EqAt.int_int i1 t1 i2 t2 prog w _ _ ?_)
      by_cases c : i1 = i2
      · subst c
        rw [if_pos rfl] at hq
        rw [beq_self_eq_true]
        exact PySem.W.kat_yes (lex_mixed (i + 1) rxs rys h'.2 e' hq)
      · rw [if_neg (fun z => c (V.int.inj z))] at hq
        rw [show (i1 == i2) = false from beq_eq_false_iff_ne.mpr c]
        exact PySem.W.kat_no (TS.oneLt_ints _ hq)
    · rename_i s1 s2
      obtain ⟨t1, rfl⟩ := rx
      obtain ⟨t2, rfl⟩ := ry
      refine PySem.W.kat_cons (SeqAt.EqAt.str_str s1 t1 s2 t2 prog w _ _ ?_)
      by_cases c : s1 = s2
      · subst c
        rw [if_pos rfl] at hq
        rw [beq_self_eq_true]
        exact PySem.W.kat_yes (lex_mixed (i + 1) rxs rys h'.2 e' hq)
      · rw [if_neg (fun z => c (V.str.inj z))] at hq
        rw [show (s1 == s2) = false from beq_eq_false_iff_ne.mpr c]
        exact PySem.W.kat_no (oneLt_str' _ hq)
theorem tup_cmp {b : Bool} {vs : List Value} {k : Value → List V} (hp : ∀ v ∈ vs, TupV s.heap v (k v)) (hs : ∀ v ∈ vs, ∀ u ∈ vs, sameKs (k v) (k u) = true) : SrtO.Cmp prog w A s (tuples' b) (fun p => p.1 ∈ vs) (SrtO.lt2 fun v u => cLt (k v) (k u)) := by
  intro p q hm hm'
  show wpAny (model prog w) A (keyLt' (tuples' b) p.1 q.1) (fun r s' => s' = s ∧ r = cLt (k p.1) (k q.1)) (fun _ _ => False) s
  rw [← tup_cLt (hs _ hm _ hm')]
  have h2 := hs _ hm _ hm'
  obtain ⟨a, o, its, n, e, ho, hc, hd, r⟩ := hp _ hm
  obtain ⟨a', o', its', n', e', ho', hc', hd', r'⟩ := hp _ hm'
  generalize k p.1 = kp at r h2 ⊢
  generalize k q.1 = kq at r' h2 ⊢
  rw [e, e']
  refine PySem.W.kat_lt ho hd ho' hd' ?_
  refine lex_mixed (Q := fun b s' => s' = s ∧ b = tupLt kp kq) 0 r r' h2 ?_ ⟨rfl, rfl⟩
  rw [List.size_toArray, List.size_toArray, r.length, r'.length]
theorem tups_first {h : Heap} {T : String} {k : Value → List V} : ∀ (vs : List Value), (∀ v ∈ vs, TupV h v (k v)) → (∀ v ∈ vs, Head T (k v)) → ∃ fs, PySem.W.KatTups h vs fs ∧ fs.length = vs.length ∧ ∀ f ∈ fs, ∃ x, First T x ∧ RelV x f
  | [], _, _ => ⟨[], PySem.W.KatTups.nil, rfl, fun f hf => by simp at hf⟩
  | v :: vs, h1, h2 => by
    obtain ⟨fs, g1, g2, g3⟩ := tups_first vs (fun u hu => h1 u (List.mem_cons_of_mem _ hu)) (fun u hu => h2 u (List.mem_cons_of_mem _ hu))
    obtain ⟨a, o, its, n, e, ho, hc, hd, r⟩ := h1 v List.mem_cons_self
    obtain ⟨x, rr, ek, fx⟩ := h2 v List.mem_cons_self
    rw [ek] at r
    cases r with
    | cons rx rest =>
      rename_i u us
      refine ⟨u :: fs, ?_, by simp [g2], fun f hf => ?_⟩
      · rw [e]
        exact PySem.W.KatTups.cons ho hc hd (by simp) g1
      · rcases List.mem_cons.mp hf with q | q
        · rw [q]; exact ⟨x, fx, rx⟩
        · exact g3 f q
theorem tup_kind {T : String} {vs : List Value} {k : Value → List V} {Q : SortKind → Shared → Prop} (h0 : 0 < vs.length) (hp : ∀ v ∈ vs, TupV s.heap v (k v)) (ht : ∀ v ∈ vs, Head T (k v)) (hq : Q (tuples' (Value.type T != Value.type "tuple")) s) : wpAny (model prog w) A (keyKind' vs.toArray) Q E s := by
  obtain ⟨fs, g1, g2, g3⟩ := tups_first vs hp ht
  refine PySem.W.kat_kind (T := .type T) g1 (by omega) (fun f hm => ?_) (by
    have : T = "int" ∨ T = "str" := by
      cases fs with
      | nil => simp at g2; omega
      | cons f fs =>
        obtain ⟨x, fx, _⟩ := g3 f List.mem_cons_self
        cases fx
        · exact .inl rfl
        · exact .inr rfl
    rcases this with rfl | rfl <;> rfl) hq
  obtain ⟨x, fx, rx⟩ := g3 f hm
  cases fx with
  | int i => obtain ⟨t, rfl⟩ := rx; exact PySem.W.Looks.of_pure rfl
  | str z => obtain ⟨t, rfl⟩ := rx; exact PySem.W.Looks.of_pure rfl
end
/-! ### rows that stand beside each other -/
theorem paired_perm {α β : Type} {R : α → β → Prop} {l l' : List α} (p : l'.Perm l) : ∀ {m : List β}, Paired R l m → ∃ m', m'.Perm m ∧ Paired R l' m' := by
  induction p with
  | nil => intro m h; exact ⟨m, List.Perm.refl _, h⟩
  | cons x _ ih =>
    intro m h
    cases h with
    | cons r t =>
      obtain ⟨m', p', h'⟩ := ih t
      exact ⟨_ :: m', p'.cons _, .cons r h'⟩
  | swap x y l =>
    intro m h
    cases h with
    | cons r t =>
      cases t with
      | cons r2 t2 => exact ⟨_, List.Perm.swap _ _ _, .cons r2 (.cons r t2)⟩
  | trans _ _ ih1 ih2 =>
    intro m h
    obtain ⟨m1, p1, h1⟩ := ih2 h
    obtain ⟨m2, p2, h2⟩ := ih1 h1
    exact ⟨m2, p2.trans p1, h2⟩
end Sh
set_option Elab.async false
set_option linter.all false
set_option maxRecDepth 100000
set_option maxHeartbeats 2000000
namespace Sh
open PySem PySem.Spec PyProof.Rows L2
theorem paired_pairwise {α β : Type} {R : α → β → Prop} {P : α → α → Prop} {P' : β → β → Prop} (h : ∀ a a' b b', R a b → R a' b' → P a a' → P' b b') : ∀ {l : List α} {m : List β}, Paired R l m → l.Pairwise P → m.Pairwise P'
  | _, _, .nil, _ => List.Pairwise.nil
  | _, _, .cons r t, p => by
    obtain ⟨p1, p2⟩ := List.pairwise_cons.mp p
    refine List.pairwise_cons.mpr ⟨fun b' hb => ?_, paired_pairwise h t p2⟩
    have key : ∀ {l : List α} {m : List β}, Paired R l m → ∀ b ∈ m, ∃ a ∈ l, R a b := by
      intro l m hp
      induction hp with
      | nil => intro b hb; cases hb
      | cons r t ih =>
        intro b hb
        rcases List.mem_cons.mp hb with e | hb
        · subst e; exact ⟨_, List.mem_cons_self, r⟩
        · obtain ⟨a, ha, hr⟩ := ih b hb
          exact ⟨a, List.mem_cons_of_mem _ ha, hr⟩
    obtain ⟨a', ha, ra⟩ := key t b' hb
    exact h _ _ _ _ r ra (p1 a' ha)
theorem paired_mem {α β : Type} {R : α → β → Prop} {l : List α} {m : List β} (h : Paired R l m) : ∀ a ∈ l, ∃ b ∈ m, R a b := by
  induction h with
  | nil => intro b hb; cases hb
  | cons r t ih =>
    intro b hb
    rcases List.mem_cons.mp hb with e | hb
    · subst e; exact ⟨_, List.mem_cons_self, r⟩
    · obtain ⟨a, ha, hr⟩ := ih b hb
      exact ⟨a, List.mem_cons_of_mem _ ha, hr⟩
theorem paired_imp {α β : Type} {R S : α → β → Prop} {l : List α} {m : List β} (h : Paired R l m) (k : ∀ a b, R a b → S a b) : Paired S l m := by
  induction h with
  | nil => exact .nil
  | cons r t ih => exact .cons (k _ _ r) ih
theorem paired_snoc {α β : Type} {R : α → β → Prop} {l : List α} {m : List β} (h : Paired R l m) {a : α} {b : β} (r : R a b) : Paired R (l ++ [a]) (m ++ [b]) := by
  induction h with
  | nil => exact .cons r .nil
  | cons r0 t ih => exact .cons r0 ih
theorem paired_at {α β : Type} {R : α → β → Prop} : ∀ {l : List α} {m : List β}, l.length = m.length → (∀ (i : Nat) a b, l[i]? = some a → m[i]? = some b → R a b) → Paired R l m
  | [], [], _, _ => .nil
  | [], _ :: _, h, _ => by simp at h
  | _ :: _, [], h, _ => by simp at h
  | a :: l, b :: m, h, k => .cons (k 0 a b rfl rfl) (paired_at (by simpa using h) fun i x y h1 h2 => k (i + 1) x y (by simpa using h1) (by simpa using h2))
theorem paired_get {α β : Type} {R : α → β → Prop} {l : List α} {m : List β} (h : Paired R l m) : l.length = m.length ∧ ∀ (i : Nat) a b, l[i]? = some a → m[i]? = some b → R a b := by
  induction h with
  | nil => exact ⟨rfl, fun i a b e => by simp at e⟩
  | cons r t ih =>
    refine ⟨by simp [ih.1], fun i a b h1 h2 => ?_⟩
    cases i with
    | zero => simp at h1 h2; subst h1; subst h2; exact r
    | succ i => exact ih.2 i a b (by simpa using h1) (by simpa using h2)
/-- what stands at a value -/
def kvH (H : Hp) : Value → List V
  | .ref q => match H q with
    | some (.tup ks) => ks
    | _ => []
  | _ => []
theorem kvH_at {H : Hp} {q : Addr} {ks : List V} (h : H q = some (.tup ks)) : kvH H (.ref q) = ks := by
  unfold kvH
  simp only [h]
/-- a tuple of y's stands at v -/
def TupAt {α : Type} (g : α → List V) (H : Hp) (v : V) (y : α) : Prop := ∃ q, v = .ref q ∧ H q = some (.tup (g y))
theorem TupAt.sm {α : Type} {g : α → List V} {H H' : Hp} {v : V} {y : α} (h : TupAt g H v y) (s : Same H H') : TupAt g H' v y := let ⟨q, e, k⟩ := h; ⟨q, e, s _ _ k⟩
section
variable {X : Cx}
theorem Inv.tupV {pins : List (Addr × Obj)} {σ : L2.St} {H : Hp} {s : Shared} (I : Inv X pins σ H s) {q : Addr} {ks : List V} (h : H q = some (.tup ks)) : TupV s.heap (.ref q) ks := by
  obtain ⟨_, its, r, o, ho, hc, n, hd⟩ := I.hok q _ h
  exact ⟨q, o, its, n, rfl, ho, hc, hd, r⟩
def rSortM (K : PySem.W.Frag) : List V → Hp → VK → Prop := fun vs H Q => ∃ (α : Type) (g : α → List V) (T : String) (a : Addr) (xs : List V) (l : List α), vs = [.ref a] ∧ SqL K H a xs ∧ Items (TupAt g) H xs l ∧ (∀ y ∈ l, Head T (g y)) ∧ (∀ y ∈ l, ∀ z ∈ l, sameKs (g y) (g z) = true) ∧
  ∀ (l' : List α) (ys : List V) (p : Addr) (H' : Hp), l'.Perm l → l'.Pairwise (fun y z => cLt (g z) (g y) = false) → H p = none → Same H H' → H' p = some (.lst ys) → Items (TupAt g) H' ys l' → Q (.ref p) H'
theorem cr_sortM : CallR X (.builtin "sorted") (rSortM X.K) := by
  intro pins s σ H vs us Q I r h
  obtain ⟨α, g, T, a, xs, l, rfl, hs, it, ht, hsk, q⟩ := h
  obtain ⟨its, rv, hl, hz⟩ := I.list hs
  obtain ⟨u, rfl, ru⟩ := vals1 r
  obtain rfl : u = Value.ref a := ru
  have pr : Paired (fun u y => ∃ q, u = Value.ref q ∧ H q = some (.tup (g y))) its l := by
    refine paired_at (by rw [← rv.length, it.1]) fun i u y h1 h2 => ?_
    obtain ⟨x, hx, q', e, hq⟩ := it.get h2
    obtain ⟨u', hu, ru⟩ := rv.get hx
    rw [hu] at h1
    cases h1
    subst e
    obtain rfl : u = Value.ref q' := ru
    exact ⟨q', rfl, hq⟩
  have hk : ∀ v ∈ its, ∃ y ∈ l, kvH H v = g y ∧ TupV s.heap v (kvH H v) := by
    intro v hv
    obtain ⟨y, hy, q', e, hq⟩ := paired_mem pr v hv
    subst e
    refine ⟨y, hy, kvH_at hq, ?_⟩
    rw [kvH_at hq]
    exact Inv.tupV I hq
  have hsame : ∀ v ∈ its, ∀ u ∈ its, sameKs (kvH H v) (kvH H u) = true := by
    intro v hv u hu
    obtain ⟨y, hy, e1, _⟩ := hk v hv
    obtain ⟨z, hz', e2, _⟩ := hk u hu
    rw [e1, e2]
    exact hsk y hy z hz'
  refine SrtO.sorted_ord (swo_cLt (kvH H)) hl.isList (by rw [← rv.length]; exact hz) (fun h2 h₁ a' ha kk => ?_) fun out h1 h2 => ?_
  · intro h' keep
    have hp' : ∀ v ∈ its, TupV h' v (kvH H v) := fun v hv => by
      obtain ⟨_, _, _, tv⟩ := hk v hv
      exact tv.keeps fun b o e _ => keep b o (kk b o e).1 (kk b o e).2
    refine ⟨tuples' (Value.type T != Value.type "tuple"), fun Q' E' hq => ?_, tup_cmp (s := { s with heap := h' }) hp' hsame⟩
    refine tup_kind (s := { s with heap := h' }) (T := T) (k := kvH H) (by omega) hp' (fun v hv => ?_) hq
    obtain ⟨y, hy, e, _⟩ := hk v hv
    rw [e]
    exact ht y hy
  · obtain ⟨l', pl, pr'⟩ := paired_perm h2.perm pr
    have h3 : ∀ u ∈ out, ∃ a, u = Value.ref a := fun u hu => by
      obtain ⟨y, _, q', e, _⟩ := paired_mem pr' u hu
      exact ⟨q', e⟩
    obtain ⟨ep, he'⟩ := PyProof.Rows.sortedAll_at s.heap its out.toArray
    have hp : H (s.heap.objs.size + 1) = none := I.hok.fresh (Nat.le_succ _)
    have hlen : (out.map backV).length ≤ sizeLine := by
      rw [List.length_map, h2.perm.length_eq, ← rv.length]
      exact hz
    refine ⟨.ref (s.heap.objs.size + 1), upd H (s.heap.objs.size + 1) (.lst (out.map backV)), I.laid (t' := s.toks) (fun _ _ => PyProof.Rows.sortedAll_old) (Nat.le_succ _) ⟨hlen, out, ep, vals_back h3, he'⟩, rfl, ?_⟩
    refine q l' _ _ _ pl ?_ hp (same_new hp) upd_same ?_
    · refine paired_pairwise (R := fun u y => ∃ q, u = Value.ref q ∧ H q = some (.tup (g y))) ?_ pr' h1
      rintro u u' y y' ⟨q1, rfl, e1⟩ ⟨q2, rfl, e2⟩ h
      have h' : cLt (kvH H (.ref q2)) (kvH H (.ref q1)) = false := h
      rw [kvH_at e1, kvH_at e2] at h'
      exact h'
    · obtain ⟨e1, e2⟩ := paired_get pr'
      refine ⟨by rw [List.length_map]; exact e1, fun i x y hx hy => ?_⟩
      rw [List.getElem?_map] at hx
      cases hu : out[i]? with
      | none => rw [hu] at hx; cases hx
      | some u =>
        rw [hu] at hx
        obtain ⟨q', rfl, hq⟩ := e2 i u y hu hy
        cases hx
        exact ⟨q', rfl, same_new hp _ _ hq⟩
end
/-! ### with a key def -/
section
variable {X : Cx} {pins : List (Addr × Obj)} {σ : L2.St} {H : Hp} {s : Shared} {a g : Addr} {n N : Nat} {sp : Sp} {α : Type} {f : α → V} {gk : α → List V} {l : List α} {vs : List Value} {T : String} {P : PySem.Fin → Shared → Prop}
theorem list_sort_keyX (I : Inv X pins σ H s) (F : FnR X.prog X.w X.K X.mg X.base CX0 n g sp) (hr : Room n X.A.in1.in1)
    (ho : s.heap.get? a = some (seqObj "list" vs.toArray N)) (fpa : FpOk X pins H a) (rv : Vals (l.map f) vs) (hz : l.length ≤ sizeLine)
    (hk : ∀ y ∈ l, ∀ H1, Same H H1 → ∀ Q' : VK, (∀ q H2, Same H1 H2 → H2 q = some (.tup (gk y)) → Q' (.ref q) H2) → sp [f y] H1 Q' E0)
    (ht : ∀ y ∈ l, Head T (gk y)) (hs : ∀ y ∈ l, ∀ z ∈ l, sameKs (gk y) (gk z) = true)
    (h : ∀ (l' : List α) (s' : Shared) (H' : Hp), l'.Perm l → l'.Pairwise (fun y z => cLt (gk z) (gk y) = false) → Inv X pins σ H' s' → Same H H' → H' a = some (.lst (l'.map f)) → P (.done (.ret .none)) s') :
    wpAny (model X.prog X.w) X.A.in1.in1 (ksk_tree a (.ref g) false) P X.xe s := by
  have hlen : vs.length = l.length := by rw [← rv.length, List.length_map]
  obtain ⟨hn, hL, hfs, hex, hcell, hpin⟩ := id fpa
  have ha : a < s.heap.objs.size := Heap.lt_size ho
  have s1 := Heap.SameBut.update s.heap a (Obj.mapSeq fun _ => (#[] : Array Value))
  obtain ⟨e1, ho1⟩ : ∃ e1, (s.heap.update a (Obj.mapSeq fun _ => (#[] : Array Value))).get? a = some (seqObj "list" #[] e1) := ⟨_, get?_update_seq ho fun _ => #[]⟩
  unfold ksk_tree
  refine wpAny_bind (listItems_at ho rfl ?_)
  refine wpAny_bind (listUpdate_at ho rfl ?_ (by rw [List.size_toArray, hlen]; exact hz) (Nat.zero_le _))
  refine wpAny_bind (seqEpoch_at ho1 rfl ?_)
  refine wpAny_bind (wpAny_newTuple ?_ (by show vs.length ≤ _; rw [hlen]; exact hz))
  refine wpAny_bind (wpAny_newList ?_ (Nat.zero_le _))
  refine wpAny_holding ?_
  have J1 : Inv X pins σ H { s with heap := s.heap.update a (Obj.mapSeq fun _ => (#[] : Array Value)), toks := s.toks } := I.turned (fun b o hb e => (s1.2 b hb).trans e) hn hL hex hcell hpin
  have z1 : (s.heap.update a (Obj.mapSeq fun _ => (#[] : Array Value))).objs.size = s.heap.objs.size := Heap.size_update _ _ _
  show wpAny _ _ (ksk_rest a (.ref g) false vs.toArray e1 (.ref (((s.heap.update a (Obj.mapSeq fun _ => (#[] : Array Value))).push (seqObj "tuple" vs.toArray 0)).objs.size))) P X.xe { s with heap := ((s.heap.update a (Obj.mapSeq fun _ => (#[] : Array Value))).push (seqObj "tuple" vs.toArray 0)).push (seqObj "list" #[] 0) }
  generalize s.heap.update a (Obj.mapSeq fun _ => (#[] : Array Value)) = h1 at J1 ho1 z1 ⊢
  have z2 : (h1.push (seqObj "tuple" vs.toArray 0)).objs.size = h1.objs.size + 1 := size_push' _ _
  have J2 : Inv X pins σ (upd H (h1.push (seqObj "tuple" vs.toArray 0)).objs.size (.lst [])) { s with heap := (h1.push (seqObj "tuple" vs.toArray 0)).push (seqObj "list" #[] 0), toks := s.toks } :=
    J1.laid (fun b o e => Heap.get?_push_of_some _ (Heap.get?_push_of_some _ e)) (by rw [z2]; exact Nat.le_succ _) ⟨Nat.zero_le _, [], 0, .nil, Heap.get?_push_size _ rfl⟩
  have hk0 : H (h1.push (seqObj "tuple" vs.toArray 0)).objs.size = none := J1.hok.fresh (by rw [z2]; exact Nat.le_succ _)
  have hne : a ≠ (h1.push (seqObj "tuple" vs.toArray 0)).objs.size := by rw [z2, z1]; exact Nat.ne_of_lt (Nat.lt_succ_of_lt ha)
  have J3 : Inv X (pins ++ [(a, seqObj "list" #[] e1)]) σ (upd H (h1.push (seqObj "tuple" vs.toArray 0)).objs.size (.lst [])) { s with heap := (h1.push (seqObj "tuple" vs.toArray 0)).push (seqObj "list" #[] 0), toks := s.toks } :=
    J2.pins_of fun p hp => (List.mem_append.mp hp).elim (fun z => J2.pin p (List.mem_append_right _ z)) fun z => by
      rw [List.mem_singleton.mp z]
      exact ⟨Heap.get?_push_of_some _ (Heap.get?_push_of_some _ ho1), by rw [upd_ne hne]; exact hn, hL, hfs, fun v e => by cases e⟩
  generalize (h1.push (seqObj "tuple" vs.toArray 0)).objs.size = kS at J2 J3 hk0 hne ⊢
  generalize hs0 : ({ s with heap := (h1.push (seqObj "tuple" vs.toArray 0)).push (seqObj "list" #[] 0) } : Shared) = s0 at J3 ⊢
  clear hs0 J2 z2 J1 z1 ho1 h1
  unfold ksk_rest
  refine wpAny_bind (wpAny_rule ?_)
  first
    | rw [List.forIn_toArray]
    | (rw [← Array.forIn_toList]; simp only [List.toList_toArray])
    | rw [← Array.forIn_toList]
  refine wpAny_bind (ksk_fold (fun i s' => ∃ H' ys, Inv X (pins ++ [(a, seqObj "list" #[] e1)]) σ H' s' ∧ Same H H' ∧ H' kS = some (.lst ys) ∧ Paired (fun v y => ∃ q, v = V.ref q ∧ H' q = some (.tup (gk y))) ys (l.take i)) vs 0 s0
    ⟨_, [], J3, same_new hk0, upd_same, .nil⟩ ?step ?done)
  case step =>
    rintro j x s' hx ⟨H', ys, J, sm, hkS, pr⟩
    simp only [Nat.zero_add] at pr ⊢
    have hj : j < vs.length := (List.getElem?_eq_some_iff.mp hx).1
    have hjl : j < l.length := by omega
    have hy : l[j]? = some l[j] := List.getElem?_eq_getElem hjl
    have hym : l[j] ∈ l := List.getElem_mem hjl
    have rx : RelV (f l[j]) x := by
      obtain ⟨u, hu, ru⟩ := rv.get (i := j) (x := f l[j]) (by rw [List.getElem?_map, hy]; rfl)
      rw [hx] at hu
      cases hu
      exact ru
    have yl : ys.length = j := by
      have := Paired.length pr
      rw [List.length_take] at this
      omega
    refine wpAny_bind (wpAny_attempt (wpAny_mono (run_in (X := X.wish fun _ _ => False) (us := [x]) (ws := [f l[j]]) (Q := fun v H2 => ∃ q, v = .ref q ∧ Same H' H2 ∧ H2 q = some (.tup (gk l[j]))) F hr (J.wish _).env0.in1.in1 pass0 (J.wish _) (.cons rx .nil)
      (hk _ hym H' sm _ fun q H2 sm2 hq => ⟨q, rfl, sm2, hq⟩)) (fun v s'' he => ?_) fun _ _ hF => hF.elim))
    obtain ⟨v', H2, J', rv', q, rfl, sm2, hq⟩ := he
    obtain rfl : v = .ref q := rv'
    have J2 := J'.unwish
    have hkS2 := sm2 _ _ hkS
    obtain ⟨hzz, its, n2, rvi, hli, hget⟩ := J2.lstM hkS2
    try dsimp only
    have s2 := Heap.SameBut.update s''.heap kS (Obj.mapSeq (·.push (Value.ref q)))
    obtain ⟨c2, hc2⟩ : ∃ c2, (s''.heap.update kS (Obj.mapSeq (·.push (Value.ref q)))).get? kS = some (seqObj "list" (its.toArray.push (Value.ref q)) c2) := ⟨_, get?_update_seq hget (·.push (Value.ref q))⟩
    refine wpAny_bind (listUpdate_at hget rfl ?_ (by rw [List.size_toArray, ← hli]; exact hzz) (by rw [Array.size_push, List.size_toArray, ← hli]; omega))
    have et : l.take (j + 1) = l.take j ++ [l[j]] := by rw [List.take_succ, hy]; rfl
    refine wpAny_pure ⟨rfl, upd H2 kS (.lst (ys ++ [.ref q])), ys ++ [.ref q], ?_, same_mut (sm.trans sm2) hk0, upd_same, ?_⟩
    · refine J2.write (t' := s''.toks) (by rw [hkS2]; trivial) (.inl rfl) (fun b u hb e => (s2.2 b hb).trans e) ⟨_, hc2⟩ ⟨by rw [List.length_append, yl]; show j + 1 ≤ _; omega, its ++ [.ref q], c2, ?_, ?_⟩
      · exact paired_snoc rvi (show RelV (.ref q) (.ref q) from rfl)
      · rw [hc2, List.push_toArray]
    · rw [et]
      have up : ∀ q0 ks, H2 q0 = some (.tup ks) → upd H2 kS (.lst (ys ++ [.ref q])) q0 = some (.tup ks) := fun q0 ks e => by
        rw [upd_ne (ne_of e hkS2 (by intro z; cases z))]
        exact e
      exact paired_snoc (paired_imp pr fun v y ⟨q0, e, hq0⟩ => ⟨q0, e, up q0 _ (sm2 _ _ hq0)⟩) ⟨q, rfl, up q _ hq⟩
  case done =>
    rintro s' ⟨H', ys, J, sm, hkS, pr⟩
    rw [show l.take (0 + vs.length) = l from List.take_of_length_le (by omega)] at pr
    obtain ⟨hzz, its, n2, rvi, hli, hget⟩ := J.lstM hkS
    have pa := J.pin (a, seqObj "list" #[] e1) (List.mem_append_right _ (List.mem_append_right _ (List.mem_singleton.mpr rfl)))
    have hH'a : H' a = none := pa.2.1
    have hga : s'.heap.get? a = some (seqObj "list" #[] e1) := pa.1
    try dsimp only
    refine wpAny_bind (listItems_at hget rfl ?_)
    have hil : its.length = l.length := by rw [← hli, Paired.length pr]
    -- the keys
    have pk : Paired (fun u y => ∃ q, u = Value.ref q ∧ H' q = some (.tup (gk y))) its l := by
      obtain ⟨e1, e2⟩ := paired_get pr
      refine paired_at hil fun i u y h1 h2 => ?_
      have hi : i < ys.length := by
        have := (List.getElem?_eq_some_iff.mp h2).1
        omega
      obtain ⟨u', hu, ru⟩ := rvi.get (List.getElem?_eq_getElem hi)
      rw [h1] at hu
      cases hu
      obtain ⟨q, e, hq⟩ := e2 i _ y (List.getElem?_eq_getElem hi) h2
      rw [e] at ru
      exact ⟨q, ru, hq⟩
    have hkk : ∀ v ∈ its, ∃ y ∈ l, kvH H' v = gk y ∧ TupV s'.heap v (kvH H' v) := by
      intro v hv
      obtain ⟨y, hy, q', e, hq⟩ := paired_mem pk v hv
      subst e
      refine ⟨y, hy, kvH_at hq, ?_⟩
      rw [kvH_at hq]
      exact Inv.tupV J hq
    have hsame : ∀ v ∈ its, ∀ u ∈ its, sameKs (kvH H' v) (kvH H' u) = true := by
      intro v hv u hu
      obtain ⟨y, hy, e1, _⟩ := hkk v hv
      obtain ⟨z, hz', e2, _⟩ := hkk u hu
      rw [e1, e2]
      exact hs y hy z hz'
    have p2 : Paired (fun (p : Value × Value) y => kvH H' p.1 = gk y ∧ RelV (f y) p.2) (its.zip vs) l := by
      obtain ⟨_, e2⟩ := paired_get pk
      refine paired_at (by rw [List.length_zip]; omega) fun i p y h1 h2 => ?_
      rw [List.getElem?_zip_eq_some] at h1
      obtain ⟨q, e, hq⟩ := e2 i _ y h1.1 h2
      obtain ⟨u, hu, ru⟩ := rv.get (i := i) (x := f y) (by rw [List.getElem?_map, h2]; rfl)
      rw [h1.2] at hu
      cases hu
      refine ⟨?_, ru⟩
      rw [e]
      exact kvH_at hq
    have tail : ∀ st : SortSt, SrtO.Srtd (SrtO.lt2 fun v u => cLt (kvH H' v) (kvH H' u)) (arrOf st).toList → (arrOf st).toList.Perm (its.zip vs) → failedOf st = none → wpAny (model X.prog X.w) X.A.in1.in1 (ksk_tail a false e1 (.ref kS) st) P X.xe s' := by
      intro st hso hpe hfl
      obtain ⟨l', pl, pr'⟩ := paired_perm hpe p2
      have hkne : a ≠ kS := fun z => by rw [← z, hH'a] at hkS; cases hkS
      have s2 := Heap.SameBut.update s'.heap kS (Obj.mapSeq fun _ => (#[] : Array Value))
      obtain ⟨c2, hc2⟩ : ∃ c2, (s'.heap.update kS (Obj.mapSeq fun _ => (#[] : Array Value))).get? kS = some (seqObj "list" #[] c2) := ⟨_, get?_update_seq hget fun _ => #[]⟩
      have hga2 : (s'.heap.update kS (Obj.mapSeq fun _ => (#[] : Array Value))).get? a = some (seqObj "list" #[] e1) := (s2.2 a hkne).trans hga
      have K1 : Inv X (pins ++ [(a, seqObj "list" #[] e1)]) σ (upd H' kS (.lst [])) { s' with heap := s'.heap.update kS (Obj.mapSeq fun _ => (#[] : Array Value)), toks := s'.toks } :=
        J.write (by rw [hkS]; trivial) (.inl rfl) (fun b u hb e => (s2.2 b hb).trans e) ⟨_, hc2⟩ ⟨Nat.zero_le _, [], c2, .nil, hc2⟩
      unfold ksk_tail
      try dsimp only
      refine wpAny_bind (listUpdate_at hget rfl ?_ (by rw [List.size_toArray, ← hli]; exact hzz) (Nat.zero_le _))
      refine wpAny_bind (wpAny_letGo ?_)
      refine wpAny_bind (seqEpoch_at hga2 rfl ?_)
      have hsz : ((arrOf st).map (·.2)).size ≤ sizeLine := by
        have := hpe.length_eq
        rw [Array.length_toList, List.length_zip] at this
        rw [Array.size_map, this]
        omega
      simp only [Bool.false_eq_true, if_false]
      refine wpAny_bind (listUpdate_at hga2 rfl ?_ (Nat.zero_le _) (by omega))
      rw [hfl]
      simp only [bne_self_eq_false, Bool.false_eq_true, if_false]
      generalize hh2 : s'.heap.update kS (Obj.mapSeq fun _ => (#[] : Array Value)) = h2 at K1 hga2 ⊢
      have s3 := Heap.SameBut.update h2 a (Obj.mapSeq fun _ => (arrOf st).map (·.2))
      obtain ⟨c3, hc3⟩ : ∃ c3, (h2.update a (Obj.mapSeq fun _ => (arrOf st).map (·.2))).get? a = some (seqObj "list" ((arrOf st).map (·.2)) c3) := ⟨_, get?_update_seq hga2 fun _ => (arrOf st).map (·.2)⟩
      have hupa : upd H' kS (.lst []) a = none := by rw [upd_ne hkne]; exact hH'a
      have hvals : Vals (l'.map f) (((arrOf st).map (·.2)).toList) := by
        rw [Array.toList_map]
        have key : ∀ {ps : List (Value × Value)} {m : List α}, Paired (fun (p : Value × Value) y => kvH H' p.1 = gk y ∧ RelV (f y) p.2) ps m → Vals (m.map f) (ps.map (·.2)) := by
          intro ps m hp
          induction hp with
          | nil => exact .nil
          | cons r t ih => exact .cons r.2 ih
        exact key pr'
      have K3 : Inv X pins σ (upd (upd H' kS (.lst [])) a (.lst (l'.map f))) { s' with heap := h2.update a (Obj.mapSeq fun _ => (arrOf st).map (·.2)), toks := s'.toks } := by
        refine Inv.take (s := { s' with heap := h2, toks := s'.toks }) (Inv.unpinned K1) (fun b ob hb e => (s3.2 b hb).trans e) ⟨hupa, hL, hfs, hex, hcell, hpin⟩ ⟨?_, _, c3, hvals, ?_⟩
        · rw [List.length_map, pl.length_eq]; exact hz
        · rw [hc3, Array.toArray_toList]
      refine wpAny_pure (h l' _ _ pl ?_ K3 ?_ upd_same)
      · refine paired_pairwise (R := fun (p : Value × Value) y => kvH H' p.1 = gk y ∧ RelV (f y) p.2) ?_ pr' hso
        rintro p p' y y' ⟨k1, _⟩ ⟨k2, _⟩ hlt
        have hlt' : cLt (kvH H' p'.1) (kvH H' p.1) = false := hlt
        rw [k1, k2] at hlt'
        exact hlt'
      · exact fun b o e => by
          rw [upd_ne (ne_of_none e hn)]
          exact same_mut sm hk0 b o e
    have hzip : (its.toArray.zip vs.toArray).toList = its.zip vs := by simp
    unfold ksk_end
    try dsimp only
    simp only [Bool.false_eq_true, if_false]
    by_cases h2 : vs.toArray.size < 2
    · rw [if_pos h2, if_pos h2]
      refine wpAny_bind (wpAny_pure ?_)
      rw [StateT.run_pure]
      refine wpAny_bind (wpAny_pure ?_)
      try dsimp only
      rw [List.size_toArray] at h2
      refine tail (SortSt.mk' general' (its.toArray.zip vs.toArray) #[] 7 none) ?_ (by show (its.toArray.zip vs.toArray).toList.Perm _; rw [hzip]) rfl
      show SrtO.Srtd _ (its.toArray.zip vs.toArray).toList
      rw [hzip]
      have hl2 : (its.zip vs).length < 2 := by rw [List.length_zip]; omega
      match its.zip vs, hl2 with
      | [], _ => exact List.Pairwise.nil
      | [v], _ => exact List.pairwise_singleton _ _
      | _ :: _ :: l, h => exact absurd h (by simp)
    · rw [if_neg h2, if_neg h2]
      rw [List.size_toArray] at h2
      refine wpAny_bind (tup_kind (T := T) (vs := its) (k := kvH H') (by omega) (fun v hv => (hkk v hv).choose_spec.2.2) (fun v hv => ?_) ?_)
      · obtain ⟨y, hy, e, _⟩ := hkk v hv
        rw [e]
        exact ht y hy
      refine wpAny_bind (wpAny_mono (SrtO.wpS_sortO (st0 := SortSt.mk' (tuples' (Value.type T != Value.type "tuple")) (its.toArray.zip vs.toArray) #[] 7 none)
        (Q := fun _ st' => SrtO.Srtd (SrtO.lt2 fun v u => cLt (kvH H' v) (kvH H' u)) (arrOf st').toList ∧ (arrOf st').toList.Perm (its.zip vs) ∧ failedOf st' = none) (SrtO.swo2 (swo_cLt (kvH H'))) (tup_cmp (s := s') (fun v hv => (hkk v hv).choose_spec.2.2) hsame) rfl
        (fun p hp => ?_) rfl rfl fun st' a1 a2 a3 => ⟨a1, ?_, a3⟩) ?_ fun _ _ e => e)
      · have hp' : p ∈ (its.toArray.zip vs.toArray).toList := hp
        rw [hzip] at hp'
        exact (List.of_mem_zip (a := p.1) (b := p.2) hp').1
      · have := a2.perm
        have e : (arrOf (SortSt.mk' (tuples' (Value.type T != Value.type "tuple")) (its.toArray.zip vs.toArray) #[] 7 none)).toList = its.zip vs := hzip
        rw [e] at this
        exact this
      · rintro ⟨⟨⟩, st'⟩ s2 ⟨rfl, hp1, hp2, hf⟩
        try dsimp only
        exact tail st' hp1 hp2 hf
end
end Sh
set_option Elab.async false
set_option linter.all false
set_option maxRecDepth 100000
set_option maxHeartbeats 2000000
namespace Sh
open PySem PySem.Spec PyProof.Rows L2
/-- a list of these, or a dict whose keys they are -/
def KSrc (K : PySem.W.Frag) (H : Hp) (v : V) (xs : List V) : Prop := ∃ a, v = .ref a ∧ (SqL K H a xs ∨ ∃ kvs : List (Key × V), Rd H a (.dK kvs) ∧ xs = kvs.map fun p => kV p.1)
def rSortK (K : PySem.W.Frag) (sp : Sp) : List V → Hp → VK → Prop := fun vs H Q => ∃ (α : Type) (f : α → V) (gk : α → List V) (T : String) (l : List α) (v : V), vs = [v] ∧ KSrc K H v (l.map f) ∧
  (∀ y ∈ l, ∀ H1, Same H H1 → ∀ Q' : VK, (∀ q H2, Same H1 H2 → H2 q = some (.tup (gk y)) → Q' (.ref q) H2) → sp [f y] H1 Q' E0) ∧
  (∀ y ∈ l, Head T (gk y)) ∧ (∀ y ∈ l, ∀ z ∈ l, sameKs (gk y) (gk z) = true) ∧
  ∀ (l' : List α) (p : Addr) (H' : Hp), l'.Perm l → l'.Pairwise (fun y z => cLt (gk z) (gk y) = false) → H p = none → Same H H' → H' p = some (.lst (l'.map f)) → Q (.ref p) H'
section
variable {X : Cx} {n : Nat} {g : Addr} {sp : Sp}
theorem cr_sortKey (F : FnR X.prog X.w X.K X.mg X.base CX0 n g sp) (hr : Room (n + 2) X.A) (hc : X.calm = true) : CallRK X (.builtin "sorted") [Str.ofString "key"] (fun vs zs H Q => zs = [.ref g] ∧ rSortK X.K sp vs H Q) := by
  intro pins s σ H vs zs us ws Q I r rz h
  obtain ⟨rfl, α, f, gk, T, l, v, rfl, ⟨a, rfl, src⟩, hk, ht, hs, q⟩ := h
  obtain ⟨w1, rfl, e1⟩ := vals1 rz
  obtain rfl : w1 = Value.ref g := e1
  obtain ⟨u, rfl, ru⟩ := vals1 r
  obtain rfl : u = Value.ref a := ru
  have hr2 : Room n X.A.in1.in1 := (show Room (n + 1) X.A.in1 from Room.in1 hr).in1
  refine call_function_entry_kw kind_sorted plain_sorted entry_sorted (ksk_s1 _ _) ?_
  unfold Builtin.«sorted»
  refine wpAny_bind (m := checkCount "sorted" 1 1 _) (wpAny_pure ?_)
  have col : ∀ R : List Value → Shared → Prop, (∀ h' tk us, (∀ b o, s.heap.get? b = some o → h'.get? b = some o) → Vals (l.map f) us → l.length ≤ sizeLine → R us { s with heap := h', toks := tk }) → wpAny (model X.prog X.w) X.A.in1 (collect (.ref a)) R X.xe s := by
    intro R hR
    rcases src with hL | ⟨kvs, hD, ek⟩
    · obtain ⟨its, rv, hl, hz⟩ := I.list hL
      refine collect_list hl.isList (hR _ s.toks its (fun b o e => ?_) rv (by rw [List.length_map] at hz; exact hz)) (by rw [← rv.length]; exact hz)
      have hlt : b < s.heap.objs.size := Heap.lt_size e
      rw [Heap.get?_update_ne _ _ _ _ (Nat.ne_of_lt hlt)]
      exact Heap.get?_push_of_some _ e
    · obtain ⟨z, lo, vs, rel, dd⟩ := dk_rd I.hok hD
      obtain ⟨ep, hat⟩ := dd.dictAt
      have hl : kvs.length = vs.length := Paired.length rel
      refine PySem.W.kdu_collect (A := X.A.in1) (PySem.W.kdl_dict (knd := mixKind X.prog X.w) (kvs := vs) (ep := ep) lo) (I.ok.hd hc) hat (by rw [← hl]; exact z) fun h' tk acc hk hacc => ?_
      have ll : l.length = kvs.length := by
        have := congrArg List.length ek
        rw [List.length_map, List.length_map] at this
        exact this
      refine hR h' tk acc.toList hk ?_ (by rw [ll]; exact z)
      rw [ek]
      have el : acc.toList.length = acc.size := by simp
      refine vals_of_at (by rw [List.length_map, el, hacc.1, hl]) fun j x w h1 h2 => ?_
      obtain ⟨k, y, hky, hi⟩ := hacc.2 j w (by rw [← Array.getElem?_toList]; exact h2)
      have e1 : (kvs.map (·.1))[j]? = some k := by
        rw [KV.keys rel, List.getElem?_map, hky] <;> rfl
      have e2 : (kvs.map fun kv => kV kv.1)[j]? = some (kV k) := by
        have e3 : (kvs.map fun kv => kV kv.1) = (kvs.map (·.1)).map kV := by rw [List.map_map] <;> rfl
        rw [e3, List.getElem?_map, e1] <;> rfl
      rw [e2] at h1
      cases h1
      exact keyIs_rel hi
  refine wpAny_bind (col _ fun h' tk us hkp rv hz => ?_)
  have hul : us.length = l.length := by rw [← rv.length, List.length_map]
  refine wpAny_bind (wpAny_newList ?_ (by rw [hul]; exact hz))
  have I1 : Inv X pins σ H { s with heap := h', toks := tk } := I.kept hkp
  have hoL : (h'.push (seqObj "list" us.toArray 0)).get? h'.objs.size = some (seqObj "list" us.toArray 0) := Heap.get?_push_size _ rfl
  have hfr : H h'.objs.size = none := I1.hok.fresh (Nat.le_refl _)
  have fp : FpOk X pins H h'.objs.size := I1.fpOk (Nat.le_refl _) hfr
  have I2 : Inv X pins σ H { s with heap := h'.push (seqObj "list" us.toArray 0), toks := tk } := I1.kept fun b o e => Heap.get?_push_of_some _ e
  show wpAny _ _ _ _ _ { s with heap := h'.push (seqObj "list" us.toArray 0), toks := tk }
  refine wpAny_bind (wpAny_holding (wpAny_call_entry_kw slot_list_sort ⟨_, hoL, rfl⟩ entry_list_sort ?body (ksk_l1 _ _)))
  case body =>
    show wpAny (model X.prog X.w) X.A.in1.in1 (Builtin.«list.sort» ⟨[.ref h'.objs.size], [(Str.ofString "key", .ref g)]⟩) _ _ _
    rw [ksk_t1]
    refine list_sort_keyX I2 F hr2 hoL fp rv hz hk ht hs fun l' s' H' pl po J sm hp => ⟨_, rfl, ?_⟩
    exact wpAny_pure ⟨_, rfl, .ref h'.objs.size, H', J, rfl, q l' _ H' pl po hfr sm hp⟩
end
section
variable {X : Cx} {k j : Nat} {x : Str} {sp : Sp} {p p2 pos kpos : Pos} {e : Expr} {t : TA}
def tSortK (K : PySem.W.Frag) (sp : Sp) (t : TA) : TE := fun σ H Q => t σ H fun vs H1 => rSortK K sp vs H1 Q
/-- sorted(e, key=f), f a def of the text -/
theorem pe_sortK (c : Cal X.prog X.w X.K X.mg X.base CX0 k x sp) (hr : Room j X.A) (hk : k + 2 ≤ j) (hc : X.calm = true) (hg : Gl X "sorted") (hm : X.mg "sorted" = none) (hgx : Gl X x) (ha : PA X [e] t)
    (hdb : (x == ("__debug__" : Str)) = false := by decide)
    (he : backTo pos (starEach [e] X.env) = (false, eval e X.env) :: backTo pos (starEach [] X.env) := by rfl) (hpl : (backTo pos (starEach [e] X.env)).any (·.1) = false := by rfl) :
    PE X (.Call (.Name "sorted" p) [e] [⟨some (Str.ofString "key"), .Name x p2, kpos⟩] pos) (tSortK X.K sp t) := by
  obtain ⟨f, fd, ps, F, hmx, kp, b⟩ := c.ex
  have P0 := pe_callBK (p := p) (pos := pos) (cr_sortKey (fnR_of F b) (hr.mono hk) hc) hg hm (by rfl) ha (pk_cons (kpos := kpos) (nm := some (Str.ofString "key")) (pe_glob (pos := p2) (v := .ref f) hgx hmx rfl hdb) pk_nil) (by decide) (by decide) he hpl
  refine ⟨fun pins s σ H Q I h => P0.run pins s σ H Q I ?_⟩
  have e9 : (fun (vs : List V) (H1 : Hp) => ([V.ref f] : List V) = [.ref f] ∧ rSortK X.K sp vs H1 Q) = fun vs H1 => rSortK X.K sp vs H1 Q := by
    funext vs H1
    exact propext ⟨fun h => h.2, fun h => ⟨rfl, h⟩⟩
  show t σ H fun vs H1 => ([V.ref f] : List V) = [.ref f] ∧ rSortK X.K sp vs H1 Q
  rw [e9]
  exact h
end
/-! ### == by an own __eq__ -/
section
variable {X : Cx} {C : Addr} {k j : Nat} {sp : Sp}
def rEqI (C : Addr) (sp : Sp) : R2 := fun x y H Q => ∃ a dx fs b dy gs, x = .ref a ∧ y = .ref b ∧ H a = some (.ins C dx fs) ∧ H b = some (.ins C dy gs) ∧ sp [.ref a, .ref b] H (fun v H' => ∃ c, v = .bl c ∧ Q v H') E0
theorem op_eqI (d : MetC X.prog X.w X.K X.mg X.base k C "__eq__" sp) (hr : Room j X.A) (hk : k ≤ j) : OpR X (compareOp .Eq) (rEqI C sp) := by
  obtain ⟨f, fd, ps, F, b, hs, hf, ho⟩ := d.ex
  intro pins s σ H x y v u Q I rx ry h
  obtain ⟨a, dx, fs, a2, dy, gs, rfl, rfl, ha, hb, q⟩ := h
  obtain rfl : v = Value.ref a := rx
  obtain rfl : u = Value.ref a2 := ry
  obtain ⟨ox, od, J, _⟩ := StX.insC_at (C := C) I (.inr ⟨dx, fs, ha⟩)
  obtain ⟨ox', od', J', _⟩ := StX.insC_at (C := C) I (.inr ⟨dy, gs, hb⟩)
  obtain ⟨m, hF⟩ := I.fr
  show wpAny (model X.prog X.w) X.A (richCompare .Eq (.ref a) (.ref a2)) (EP X pins σ Q) X.xe s
  refine PySem.W.cmp_K (op := .Eq) (tb := .ref C) (hr.mono hk).units0 hF I.ok.mod.kin J J'.type (by simp [PySem.W.notFirst]) hs hf ?_
  refine wpAny_mono (run_in (us := [.ref a, .ref a2]) (ws := [.ref a, .ref a2]) (fnR_of F b) (hr.mono hk) I.env0 pass0 I (.cons rfl (.cons rfl .nil)) q) (fun v s' z => ?_) fun _ _ x => x
  obtain ⟨z', H', I', rz, c, ec, qz⟩ := z
  subst ec
  obtain rfl : v = .bool c := rz
  exact ⟨.bl c, H', I', rfl, qz⟩
end
end Sh
set_option Elab.async false
set_option linter.all false
set_option maxRecDepth 100000
set_option maxHeartbeats 2000000
namespace Sh
open PySem PySem.Spec PyProof.Rows L2
/-! ### a property of a class of the text -/
structure PropAt (K : PySem.W.Frag) (C : Addr) (f q : Str) (st : Stmt) : Prop where
  ex : ∃ (p g : Addr) (fd : FuncData), PropOf K C f p g ∧ L2.Fun K f q st g fd ∧ Binds K fd ["self"] []
structure PropC (P : Program) (w : World) (K : PySem.W.Frag) (mg : Str → Option Value) (base : Heap) (k : Nat) (C : Addr) (f : Str) (sp : Sp) : Prop where
  ex : ∃ (p g : Addr) (fd : FuncData) (ps : List Str), PropOf K C f p g ∧ FnOk P w K mg base CX0 k g fd ps sp ∧ Binds K fd ps []
section
variable {P : Program} {w : World} {K : PySem.W.Frag} {mg : Str → Option Value} {base : Heap}
theorem PropC.mk0 {f q : Str} {C : Addr} {st : Stmt} {N : List Str} {k : Nat} {sp : Sp} (D : PropAt K C f q st) (S : FnScope N ["self"] (defScope st)) (len : ∀ vs H Q E, sp vs H Q E → vs.length = 1)
    (hbody : ∀ (f : Addr) (cdv : Value) (A : Around) (outer : List Env) (s : Shared) (H : Hp) (vs : List V) (Q : VK) (E : XK), Room k (A.deeper (envOfC q (defScope st) s.heap.objs.size f cdv)) → sp vs H Q E →
      ∃ t, PSs (cxOf CX0 P w K mg base N q (defScope st) f cdv A outer s H E).nox (defBody st) t ∧ t { nx := fun _ H' => Q .non H', rt := Q } (start N vs) H) : PropC P w K mg base (k + 1) C f sp := by
  obtain ⟨p, g, fd, hp, F, b⟩ := D.ex
  exact ⟨p, g, fd, ["self"], hp, F.ok S len (hbody g), b⟩
end
section
variable {X : Cx} {k j : Nat} {f : Str} {C : Addr} {sp : Sp} {pos : Pos} {e : Expr} {ta : TE}
/-- o.f, f a property -/
theorem pe_propC (ho : PE X e ta) (c : Cls X.K C) (d : PropC X.prog X.w X.K X.mg X.base k C f sp) (hr : Room j X.A) (hk : k + 1 ≤ j) (hab : attributeBase e f X.env (eval e X.env) = eval e X.env := by rfl) :
    PE X (.Attribute e f pos) (tProp C sp [] E0 ta) := by
  obtain ⟨p, g, fd, ps, hp, F, b⟩ := d.ex
  exact pe_prop ho c hp F (hr.mono hk) b .nil pass0 hab
end
section
variable {X : Cx} {C : Addr} {k j : Nat} {sp : Sp} {a : Expr} {ta : TE}
/-- o as a test, o an instance of the class at C with an own __bool__ -/
def tTestI (C : Addr) (sp : Sp) (ta : TE) : TT := fun σ H Q => ta σ H fun x H1 => ∃ p dx fs, x = .ref p ∧ H1 p = some (.ins C dx fs) ∧ sp [.ref p] H1 (fun z H2 => ∃ b, z = .bl b ∧ Q b H2) E0
theorem pt_inst (d : MetC X.prog X.w X.K X.mg X.base k C "__bool__" sp) (hr : Room j X.A) (hk : k ≤ j) (ha : PE X a ta) (he : ∀ whole, isTrue a X.env whole = (do let v ← whole; standAt a.pos; holding [v] (truthy v))) : PT X a (tTestI C sp ta) := by
  obtain ⟨f, fd, ps, F, b, i, n, o⟩ := d.ex
  refine ⟨fun pins s σ H Q I h => ?_⟩
  refine isTrue_plain (thn (ha.run pins s σ H _ I h) fun v s1 ⟨x, H1, I1, r1, p, dx, fs, ex, hH, q⟩ => ?_) (he _)
  subst ex
  obtain rfl : v = .ref p := r1
  obtain ⟨ox, od, J, _⟩ := StX.insC_at (C := C) I1 (.inr ⟨dx, fs, hH⟩)
  refine truthy_own I1.kIn J i n (wpAny_mono (run_in (us := [.ref p]) (ws := [.ref p]) (fnR_of F b) (hr.mono hk) I1.env0 pass0 I1 (.cons rfl .nil) q) (fun v s' z => ?_) fun _ _ x => x)
  obtain ⟨z', H', I', rz, c, ec, qz⟩ := z
  subst ec
  obtain rfl : v = .bool c := rz
  exact ⟨c, rfl, H', I', qz⟩
end
/-! ### what walks over the keys of a dict -/
theorem lc_keys {d : Addr} {o : Obj} {kvs : List (Key × V)} {g : TG} {tt : TT} {te : TE} {vs : List Nat} {σ : L2.St} {H1 : Hp} {D : Addr} {Qd : Hp → Prop}
    (Pv : List Key → Hp → Prop) (h0 : Pv [] (upd H1 D (.lst []))) (hG : ∀ pre H, Pv pre H → H d = some (.frz o (.dK kvs)))
    (hs : ∀ pre k post H, kvs.map (·.1) = pre ++ k :: post → Pv pre H → g (kV k) (wipe σ vs) H fun σ2 H2 => wipe σ2 vs = wipe σ vs ∧ tt σ2 H2 fun b H3 =>
      if b = true then te σ2 H3 fun y' H4 => ∃ acc, H4 D = some (.lst acc) ∧ acc.length < sizeLine ∧ Pv (pre ++ [k]) (upd H4 D (.lst (acc ++ [y']))) else Pv (pre ++ [k]) H3) (hd : ∀ H, Pv (kvs.map (·.1)) H → Qd H) :
    ∃ W : Nat → Nat → Hp → Prop, (∃ m, W 0 m (upd H1 D (.lst []))) ∧ ∀ i m H, W i m H →
      ((Itk d o kvs).stop i H ∧ Qd H) ∨ ((Itk d o kvs).go i H ∧ ∃ Nx : Hp → Prop, (∀ H', Nx H' → ∃ m', m' < m ∧ W (i + 1) m' H') ∧ ∀ x H', (Itk d o kvs).yld i H x H' → g x (wipe σ vs) H' fun σ2 H2 => wipe σ2 vs = wipe σ vs ∧ tt σ2 H2 fun b H3 =>
        if b = true then te σ2 H3 fun y H4 => ∃ acc, H4 D = some (.lst acc) ∧ acc.length < sizeLine ∧ Nx (upd H4 D (.lst (acc ++ [y]))) else Nx H3) := by
  have w := walk_keys (d := d) (o := o) (kvs := kvs)
  refine lc_it w (fun i H => Pv ((kvs.map (·.1)).take i) H) (by simpa using h0) (fun i H _ p => hG _ H p) (fun i x H H' hi p y => ?_) (fun H p => hd H (by rw [List.take_of_length_le (by simp)] at p; exact p))
  obtain ⟨rfl, k, v, hk, rfl⟩ := y
  have hl : (kvs.map (·.1))[i]? = some k := by rw [List.getElem?_map, hk]; rfl
  obtain ⟨e1, e2⟩ := take_succ_of hl
  have q := hs _ k _ H' e2 p
  rw [← e1] at q
  exact q
/-- a dict comprehension over a tuple whose items are told by l -/
theorem dc_tupR {α : Type} {Rel : Hp → V → α → Prop} {l : List α} {xs : List V} {K : PySem.W.Frag} {a : Addr} {g : TG} {tt : TT} {tk tv : TE} {vs : List Nat} {σ : L2.St} {H1 : Hp} {D : Addr} {Qd : Hp → Prop} (hlen : xs.length = l.length)
    (Pv : List α → Hp → Prop) (h0 : Pv [] (upd H1 D (.dK []))) (hG : ∀ pre H, Pv pre H → SqT K H a xs ∧ ∀ (i : Nat) x y, xs[i]? = some x → l[i]? = some y → Rel H x y)
    (hs : ∀ pre y post x H, l = pre ++ y :: post → xs[pre.length]? = some x → Rel H x y → Pv pre H → g x (wipe σ vs) H fun σ2 H2 => wipe σ2 vs = wipe σ vs ∧ tt σ2 H2 fun b H3 =>
      if b = true then tk σ2 H3 fun y1 H4 => tv σ2 H4 fun z H5 => ∃ kvs k, y1 = kV k ∧ H5 D = some (.dK kvs) ∧ kvs.length < sizeLine ∧ Pv (pre ++ [y]) (upd H5 D (.dK (putK kvs k z))) else Pv (pre ++ [y]) H3) (hd : ∀ H, Pv l H → Qd H) :
    ∃ W : Nat → Nat → Hp → Prop, (∃ m, W 0 m (upd H1 D (.dK []))) ∧ ∀ i m H, W i m H →
      ((Itt K a).stop i H ∧ Qd H) ∨ ((Itt K a).go i H ∧ ∃ Nx : Hp → Prop, (∀ H', Nx H' → ∃ m', m' < m ∧ W (i + 1) m' H') ∧ ∀ x H', (Itt K a).yld i H x H' → g x (wipe σ vs) H' fun σ2 H2 => wipe σ2 vs = wipe σ vs ∧ tt σ2 H2 fun b H3 =>
        if b = true then tk σ2 H3 fun y H4 => tv σ2 H4 fun z H5 => ∃ kvs k, y = kV k ∧ H5 D = some (.dK kvs) ∧ kvs.length < sizeLine ∧ Nx (upd H5 D (.dK (putK kvs k z))) else Nx H3) := by
  refine dc_tup (K := K) (a := a) (xs := xs) (fun i H => Pv (l.take i) H) (by simpa using h0) (fun i H _ p => (hG _ H p).1) (fun i x H hx p => ?_) (fun H p => hd H (by rw [hlen, List.take_length] at p; exact p))
  have hi' : i < l.length := by
    have := (List.getElem?_eq_some_iff.mp hx).1
    omega
  have hl : l[i]? = some l[i] := by simp [hi']
  obtain ⟨e1, e2⟩ := take_succ_of hl
  have q := hs _ l[i] _ x H e2 (by rw [List.length_take, Nat.min_eq_left (Nat.le_of_lt hi')]; exact hx) ((hG _ H p).2 i x l[i] hx hl) p
  rw [← e1] at q
  exact q
end Sh
set_option Elab.async false
set_option linter.all false
set_option maxRecDepth 100000
namespace Sh
open PySem PySem.Spec PyProof.Rows L2
structure TxtC (K : PySem.W.Frag) (mg : Str → Option Value) (CB : Addr) : Prop extends Txt K mg where
  k_Book : ClassAt K mg "Book" CB
  m_Book___init__ : MethAt K CB "__init__" "Book.__init__" s_Book___init__ ["self", "signs", "rules"]
  n_Book_signs : NoAttr K CB "signs"
  n_Book_rules : NoAttr K CB "rules"
  n_Book__lefts : NoAttr K CB "_lefts"
  n_Book__longest : NoAttr K CB "_longest"
  n_Book__quarrel : NoAttr K CB "_quarrel"
  n_Book__moves : NoAttr K CB "_moves"
end Sh
set_option Elab.async false
set_option linter.all false
set_option maxRecDepth 100000
set_option maxHeartbeats 4000000
namespace Sh
open PySem PySem.Spec PyProof.Rows L2
open SX (S S_inj S_len S_cat)
open Bk (Rule firstAt lg bestUp used left drain pushS Wf quarrel)
local macro_rules | `(tactic| walk_at "nx") => `(tactic| repeat (with_reducible first | refine Sh.gn_mk ?_ | refine Sh.nx_mk ?_ | refine Sh.st_nx ?_ | refine Sh.rt_mk ?_ | refine Sh.ct_mk ?_ | refine Sh.bk_mk ?_))
local macro_rules | `(tactic| walk_at "sq") => `(tactic| first | exact SqL.of upd_same | exact SqT.of upd_same | exact SqL.of (by assumption) | exact SqT.of (by assumption) | assumption | exact Or.inl (SqL.of (by assumption)) | exact Or.inr (SqT.of (by assumption)) | exact Or.inl (by assumption) | exact Or.inr (by assumption))
local macro_rules | `(tactic| walk_at "hp") => `(tactic| first | exact upd_same | assumption)
local macro_rules | `(tactic| walk_at "sz") => `(tactic| first | exact Nat.le_of_ble_eq_true rfl | omega)
local macro_rules | `(tactic| walk_at "sd") => `(tactic| first | omega | exact rfl | assumption | (show (0 : Int) < _; omega) | exact And.intro (by omega) (by omega) | exact Or.inl (And.intro (by omega) (by omega)) | exact Or.inr (And.intro (by omega) (by omega)) | omega | exact Sh.sz_S (by omega) | decide)
local macro_rules | `(tactic| walk_at "rd1") => `(tactic| first
  | (with_reducible first | refine Sh.gn_mk ?_ | refine Sh.nx_mk ?_ | refine Sh.st_nx ?_ | refine Sh.rt_mk ?_ | refine Sh.ct_mk ?_ | refine Sh.bk_mk ?_)
  | refine Exists.intro (α := V) _ (And.intro rfl ?_)
  | refine Exists.intro (α := Bool) _ (And.intro rfl ?_)
  | refine Exists.intro (α := Int) _ (And.intro rfl ?_)
  | refine Exists.intro (α := PySem.Str) _ (And.intro rfl ?_)
  | refine Exists.intro (α := Int) _ (Exists.intro (α := Int) _ (And.intro rfl (And.intro rfl ?_)))
  | refine Exists.intro (α := PySem.Str) _ (Exists.intro (α := PySem.Str) _ (And.intro rfl (And.intro rfl ?_)))
  | refine Exists.intro (α := Int) _ (Exists.intro (α := Int) _ (And.intro rfl ?_))
  | refine Or.inl (Exists.intro (α := Int) _ (And.intro rfl ?_))
  | refine Exists.intro _ (Exists.intro _ (Exists.intro _ (Exists.intro _ (And.intro rfl (And.intro rfl (And.intro (by walk_at "sq") (And.intro rfl ?_)))))))
  | refine Exists.intro _ (Exists.intro _ (Exists.intro _ (Exists.intro _ (And.intro rfl (And.intro rfl (And.intro (by walk_at "hp") (And.intro rfl ?_)))))))
  | refine And.intro (by walk_at "sd") ?_
  )
local macro_rules | `(tactic| walk_at "rd") => `(tactic| repeat walk_at "rd1")
local macro_rules | `(tactic| walk_at "lk") => `(tactic| first | exact rfl | (rw [lookup_putF, if_pos rfl]) | (rw [lookup_putF, if_neg (by decide +kernel)]; walk_at "lk"))

section
variable {P : Program} {w : World} {K : PySem.W.Frag} {mg : Str → Option Value} {base : Heap} {CB CE : Addr}
theorem LeftsAt.ins {H H' : Hp} {p a C dx : Addr} {fs : List (Str × V)} {R : List Rule} (h : LeftsAt H p R) (s : But a H H') (z : H a = some (.ins C dx fs)) : LeftsAt H' p R := by
  obtain ⟨kvs, e, k⟩ := h
  refine ⟨kvs, s _ _ (ne_of e z (by intro q; cases q)) e, fun l => ⟨(k l).1, fun j r e => ?_⟩⟩
  obtain ⟨q, e1, e2⟩ := (k l).2 j r e
  exact ⟨q, e1, s _ _ (ne_of e2 z (by intro q; cases q)) e2⟩
/-- a book of the rules R over the signs sg stands at p -/
def BookAt (K : PySem.W.Frag) (C : Addr) (H : Hp) (p : Addr) (sg : List Nat) (R : List Rule) : Prop :=
  ∃ (dx : Addr) (fs : List (Str × V)) (a : Addr) (xs : List V) (pl : Addr), H p = some (.ins C dx fs) ∧ fs.lookup ("signs" : Str) = some (.str (S sg)) ∧ fs.lookup ("rules" : Str) = some (.ref a) ∧ RulesAt K H a xs R ∧
    fs.lookup ("_lefts" : Str) = some (.ref pl) ∧ LeftsAt H pl R ∧ fs.lookup ("_longest" : Str) = some (.int (lg R : Nat)) ∧ fs.lookup ("_quarrel" : Str) = some (optS (quarrel R))
theorem BookAt.same {C : Addr} {H H' : Hp} {p : Addr} {sg : List Nat} {R : List Rule} (h : BookAt K C H p sg R) (s : Same H H') : BookAt K C H' p sg R :=
  let ⟨dx, fs, a, xs, pl, h1, h2, h3, h4, h5, h6, h7, h8⟩ := h
  ⟨dx, fs, a, xs, pl, s _ _ h1, h2, h3, h4.same s, h5, h6.same s, h7, h8⟩
theorem seqL_ins {C dx : Addr} {H H' : Hp} {p a : Addr} {fs : List (Str × V)} {xs : List V} (h : SqL K H a xs) (s : But p H H') (z : H p = some (.ins C dx fs)) : SqL K H' a xs := by
  rcases h with (h | ⟨o, h⟩) | h
  · exact .inl (.inl (s _ _ (ne_of h z (by intro q; cases q)) h))
  · exact .inl (.inr ⟨o, s _ _ (ne_of h z (by intro q; cases q)) h⟩)
  · exact .inr h
theorem RulesA.ins {C dx : Addr} {H H' : Hp} {p a : Addr} {fs : List (Str × V)} {xs : List V} {R : List Rule} (h : RulesA K H a xs R) (s : But p H H') (z : H p = some (.ins C dx fs)) : RulesA K H' a xs R :=
  ⟨h.at_.imp (fun e => s _ _ (ne_of e z (by intro q; cases q)) e) (Keep.butI s z).seq, h.len, fun i x r h1 h2 => let ⟨q, e, sq⟩ := h.it i x r h1 h2; ⟨q, e, sq.elim (fun y => .inl (seqL_ins y s z)) fun y => .inr ((Keep.butI s z).seq y)⟩⟩
def spBookInit (K : PySem.W.Frag) (C : Addr) : Sp := fun vs H Q _ => ∃ (p dx a : Addr) (sg : List Nat) (xs : List V) (R : List Rule), vs = [.ref p, .str (S sg), .ref a] ∧ H p = some (.ins C dx []) ∧ RulesA K H a xs R ∧ BookOk sg R ∧
  ∀ H' : Hp, BookAt K C H' p sg R → But p H H' → Q .non H'
theorem c_Book___init__ (T : TxtC K mg CB) : MetC P w K mg base 4 CB "__init__" (spBookInit K CB) := by
  have c_check_signs := c_check_signs (P := P) (w := w) (base := base) T.toTxt
  have c_checked_rules := c_checked_rules (P := P) (w := w) (base := base) T.toTxt
  have c_first_rules := c_first_rules (P := P) (w := w) (base := base) T.toTxt
  have c_longest_left := c_longest_left (P := P) (w := w) (base := base) T.toTxt
  have c_quarrel_of := c_quarrel_of (P := P) (w := w) (base := base) T.toTxt
  have c_end_moves := c_end_moves (P := P) (w := w) (base := base) T.toTxt
  refine MetC.mk0 T.m_Book___init__ sc_Book___init__ (fun vs H Q E h => ?_) (fun f cdv A outer s H vs Q E hr h => ?_)
  · obtain ⟨p, dx, a, sg, xs, R, rfl, _⟩ := h
    rfl
  · obtain ⟨p, dx, a, sg, xs, R, rfl, hp, hR, hB, k⟩ := h
    have hw := hB.wf
    have hl := hB.2.1
    have hsg := (signs_len hB.1).2
    refine ⟨_, (pss_cons (ps_expr (pe_c c_check_signs hr (by decide) rfl (pa_cons (pv 1) pa_nil)))
  (pss_cons (ps_fld (pv 0) (pv 1) rfl)
  (pss_cons (ps_fld (pv 0) (pe_c c_checked_rules hr (by decide) rfl (pa_cons (pv 1) (pa_cons (pv 2) pa_nil))) rfl)
  (pss_cons (ps_fld (pv 0) (pe_c c_first_rules hr (by decide) rfl (pa_cons (pe_fld (pv 0) rfl) pa_nil)) rfl)
  (pss_cons (ps_fld (pv 0) (pe_c c_longest_left hr (by decide) rfl (pa_cons (pe_fld (pv 0) rfl) pa_nil)) rfl)
  (pss_cons (ps_fld (pv 0) (pe_c c_quarrel_of hr (by decide) rfl (pa_cons (pe_fld (pv 0) rfl) (pa_cons (pe_fld (pv 0) rfl) (pa_cons (pe_fld (pv 0) rfl) pa_nil)))) rfl)
  (pss_one (ps_fld (pv 0) (pe_c c_end_moves hr (by decide) rfl (pa_cons (pv 1) (pa_cons (pe_fld (pv 0) rfl) pa_nil))) rfl)))))))), ?_⟩
    refine ⟨_, rfl, sg, rfl, hB.1, ?_⟩
    have cl := T.k_Book.cl
    refine ⟨_, rfl, _, rfl, p, CB, dx, [], rfl, hp, cl, T.n_Book_signs, by show 0 < 1000; decide, ?_⟩
    -- rules
    have b1 : But p H (upd H p (.ins CB dx (putF "signs" (.str (S sg)) []))) := but_upd
    have hp1 : (upd H p (.ins CB dx (putF "signs" (.str (S sg)) []))) p = some (.ins CB dx (putF "signs" (.str (S sg)) [])) := upd_same
    have hR1 := hR.ins b1 hp
    generalize upd H p (.ins CB dx (putF "signs" (.str (S sg)) [])) = H1 at b1 hp1 hR1 ⊢
    walk_at "nx"
    refine ⟨_, rfl, _, rfl, sg, a, xs, R, rfl, hR1, hB, fun a2 ys H2 s2 hR2 => ?_⟩
    have hp2 := s2 _ _ hp1
    generalize hf1 : putF "signs" (V.str (S sg)) [] = f1 at hp2 hp1
    have l1 : f1.length ≤ 1 := by rw [← hf1]; exact putF_le _ _ []
    have g1 : f1.lookup ("signs" : Str) = some (.str (S sg)) := by rw [← hf1]; walk_at "lk"
    refine ⟨_, rfl, p, CB, dx, f1, rfl, hp2, cl, T.n_Book_rules, by omega, ?_⟩
    have b2 : But p H (upd H2 p (.ins CB dx (putF "rules" (.ref a2) f1))) := b1.trans ((But.same s2).trans but_upd)
    have hp3 : (upd H2 p (.ins CB dx (putF "rules" (.ref a2) f1))) p = some (.ins CB dx (putF "rules" (.ref a2) f1)) := upd_same
    have hR3 := hR2.keep (Keep.butI but_upd hp2 (H' := upd H2 p (.ins CB dx (putF "rules" (.ref a2) f1))))
    generalize upd H2 p (.ins CB dx (putF "rules" (.ref a2) f1)) = H3 at b2 hp3 hR3 ⊢
    have g2 : (putF "rules" (.ref a2) f1).lookup ("rules" : Str) = some (.ref a2) := by walk_at "lk"
    have g2s : (putF "rules" (.ref a2) f1).lookup ("signs" : Str) = some (.str (S sg)) := by rw [lookup_putF, if_neg (by decide +kernel)]; exact g1
    have l2 : (putF "rules" (V.ref a2) f1).length ≤ 2 := by have := putF_le "rules" (V.ref a2) f1; omega
    generalize putF "rules" (V.ref a2) f1 = f2 at hp3 g2 g2s l2
    walk_at "nx"
    -- _lefts
    refine ⟨_, rfl, p, CB, dx, f2, _, rfl, hp3, cl, T.n_Book_rules, g2, a2, ys, R, rfl, hR3, hl, fun pl H4 hpl s4 L4 => ?_⟩
    have hp4 := s4 _ _ hp3
    refine ⟨_, rfl, p, CB, dx, f2, rfl, hp4, cl, T.n_Book__lefts, by omega, ?_⟩
    have b3 : But p H (upd H4 p (.ins CB dx (putF "_lefts" (.ref pl) f2))) := b2.trans ((But.same s4).trans but_upd)
    have hp5 : (upd H4 p (.ins CB dx (putF "_lefts" (.ref pl) f2))) p = some (.ins CB dx (putF "_lefts" (.ref pl) f2)) := upd_same
    have hR5 := (hR3.same s4).keep (Keep.butI but_upd hp4 (H' := upd H4 p (.ins CB dx (putF "_lefts" (.ref pl) f2))))
    have L5 := L4.ins (but_upd (o := .ins CB dx (putF "_lefts" (.ref pl) f2))) hp4
    generalize upd H4 p (.ins CB dx (putF "_lefts" (.ref pl) f2)) = H5 at b3 hp5 hR5 L5 ⊢
    have g3 : (putF "_lefts" (.ref pl) f2).lookup ("rules" : Str) = some (.ref a2) := by rw [lookup_putF, if_neg (by decide +kernel)]; exact g2
    have g3s : (putF "_lefts" (.ref pl) f2).lookup ("signs" : Str) = some (.str (S sg)) := by rw [lookup_putF, if_neg (by decide +kernel)]; exact g2s
    have g3l : (putF "_lefts" (.ref pl) f2).lookup ("_lefts" : Str) = some (.ref pl) := by walk_at "lk"
    have l3 : (putF "_lefts" (V.ref pl) f2).length ≤ 3 := by have := putF_le "_lefts" (V.ref pl) f2; omega
    generalize putF "_lefts" (V.ref pl) f2 = f3 at hp5 g3 g3s g3l l3
    walk_at "nx"
    -- _longest
    refine ⟨_, rfl, p, CB, dx, f3, _, rfl, hp5, cl, T.n_Book_rules, g3, a2, ys, R, rfl, hR5, hl, fun r m => Nat.le_trans (hB.2.2.1 r m).2.1 (by decide), fun H6 s6 => ?_⟩
    have hp6 := s6 _ _ hp5
    refine ⟨_, rfl, p, CB, dx, f3, rfl, hp6, cl, T.n_Book__longest, by omega, ?_⟩
    have b4 : But p H (upd H6 p (.ins CB dx (putF "_longest" (.int (lg R : Nat)) f3))) := b3.trans ((But.same s6).trans but_upd)
    have hp7 : (upd H6 p (.ins CB dx (putF "_longest" (.int (lg R : Nat)) f3))) p = some (.ins CB dx (putF "_longest" (.int (lg R : Nat)) f3)) := upd_same
    have hR7 := (hR5.same s6).keep (Keep.butI but_upd hp6 (H' := upd H6 p (.ins CB dx (putF "_longest" (.int (lg R : Nat)) f3))))
    have L7 := (L5.same s6).ins (but_upd (o := .ins CB dx (putF "_longest" (.int (lg R : Nat)) f3))) hp6
    generalize upd H6 p (.ins CB dx (putF "_longest" (.int (lg R : Nat)) f3)) = H7 at b4 hp7 hR7 L7 ⊢
    have g4 : (putF "_longest" (.int (lg R : Nat)) f3).lookup ("rules" : Str) = some (.ref a2) := by rw [lookup_putF, if_neg (by decide +kernel)]; exact g3
    have g4s : (putF "_longest" (.int (lg R : Nat)) f3).lookup ("signs" : Str) = some (.str (S sg)) := by rw [lookup_putF, if_neg (by decide +kernel)]; exact g3s
    have g4l : (putF "_longest" (.int (lg R : Nat)) f3).lookup ("_lefts" : Str) = some (.ref pl) := by rw [lookup_putF, if_neg (by decide +kernel)]; exact g3l
    have g4g : (putF "_longest" (.int (lg R : Nat)) f3).lookup ("_longest" : Str) = some (.int (lg R : Nat)) := by walk_at "lk"
    have l4 : (putF "_longest" (V.int (lg R : Nat)) f3).length ≤ 4 := by have := putF_le "_longest" (V.int (lg R : Nat)) f3; omega
    generalize putF "_longest" (V.int (lg R : Nat)) f3 = f4 at hp7 g4 g4s g4l g4g l4
    walk_at "nx"
    -- _quarrel
    have h41 : ∀ r ∈ R, r.1.length ≤ 4 ∧ r.2.length ≤ 1 := fun r m => ⟨(hB.2.2.1 r m).2.1, (hw r m).2⟩
    refine ⟨_, rfl, p, CB, dx, f4, _, rfl, hp7, cl, T.n_Book_rules, g4, _, rfl, p, CB, dx, f4, _, rfl, hp7, cl, T.n_Book__lefts, g4l, _, rfl, p, CB, dx, f4, _, rfl, hp7, cl, T.n_Book__longest, g4g, a2, pl, ys, R, rfl, hR7, L7, hw, hl, h41, fun H8 s8 => ?_⟩
    have hp8 := s8 _ _ hp7
    refine ⟨_, rfl, p, CB, dx, f4, rfl, hp8, cl, T.n_Book__quarrel, by omega, ?_⟩
    have b5 : But p H (upd H8 p (.ins CB dx (putF "_quarrel" (optS (quarrel R)) f4))) := b4.trans ((But.same s8).trans but_upd)
    have hp9 : (upd H8 p (.ins CB dx (putF "_quarrel" (optS (quarrel R)) f4))) p = some (.ins CB dx (putF "_quarrel" (optS (quarrel R)) f4)) := upd_same
    have hR9 := (hR7.same s8).keep (Keep.butI but_upd hp8 (H' := upd H8 p (.ins CB dx (putF "_quarrel" (optS (quarrel R)) f4))))
    have L9 := (L7.same s8).ins (but_upd (o := .ins CB dx (putF "_quarrel" (optS (quarrel R)) f4))) hp8
    generalize upd H8 p (.ins CB dx (putF "_quarrel" (optS (quarrel R)) f4)) = H9 at b5 hp9 hR9 L9 ⊢
    have g5 : (putF "_quarrel" (optS (quarrel R)) f4).lookup ("rules" : Str) = some (.ref a2) := by rw [lookup_putF, if_neg (by decide +kernel)]; exact g4
    have g5s : (putF "_quarrel" (optS (quarrel R)) f4).lookup ("signs" : Str) = some (.str (S sg)) := by rw [lookup_putF, if_neg (by decide +kernel)]; exact g4s
    have g5l : (putF "_quarrel" (optS (quarrel R)) f4).lookup ("_lefts" : Str) = some (.ref pl) := by rw [lookup_putF, if_neg (by decide +kernel)]; exact g4l
    have g5g : (putF "_quarrel" (optS (quarrel R)) f4).lookup ("_longest" : Str) = some (.int (lg R : Nat)) := by rw [lookup_putF, if_neg (by decide +kernel)]; exact g4g
    have g5q : (putF "_quarrel" (optS (quarrel R)) f4).lookup ("_quarrel" : Str) = some (optS (quarrel R)) := by walk_at "lk"
    have l5 : (putF "_quarrel" (optS (quarrel R)) f4).length ≤ 5 := by have := putF_le "_quarrel" (optS (quarrel R)) f4; omega
    generalize putF "_quarrel" (optS (quarrel R)) f4 = f5 at hp9 g5 g5s g5l g5g g5q l5
    walk_at "nx"
    -- _moves
    refine ⟨_, rfl, _, rfl, p, CB, dx, f5, _, rfl, hp9, cl, T.n_Book_rules, g5, a2, ys, R, sg, rfl, hR9, hl, fun r m => (h41 r m).1, by omega, fun pm H10 s10 => ?_⟩
    have hp10 := s10 _ _ hp9
    refine ⟨_, rfl, p, CB, dx, f5, rfl, hp10, cl, T.n_Book__moves, by omega, ?_⟩
    refine k _ ⟨dx, putF "_moves" (.ref pm) f5, a2, ys, pl, upd_same, ?_, ?_, (hR9.same s10).keep (Keep.butI but_upd hp10), ?_, (L9.same s10).ins but_upd hp10, ?_, ?_⟩ (b5.trans ((But.same s10).trans but_upd))
    all_goals rw [lookup_putF, if_neg (by decide +kernel)]
    all_goals assumption
end
end Sh
/-! the steps of a text, and overlaps as the law finds them; plain Lean -/
namespace Bk
def stAt (R : List Rule) (t : T) (i j : Nat) : Option (Nat × Nat) := if (t.drop i).take (lf R j).length = lf R j then some (i, j) else none
def stP (R : List Rule) (t : T) (i n : Nat) : List (Nat × Nat) := (List.range n).filterMap (stAt R t i)
def stI (R : List Rule) (t : T) (n : Nat) : List (Nat × Nat) := (List.range n).flatMap fun i => stP R t i R.length
theorem stP_succ (R : List Rule) (t : T) (i n : Nat) : stP R t i (n + 1) = stP R t i n ++ (stAt R t i n).toList := by
  unfold stP
  rw [List.range_succ, List.filterMap_append]
  cases h : stAt R t i n <;> simp [h]
theorem stI_succ (R : List Rule) (t : T) (n : Nat) : stI R t (n + 1) = stI R t n ++ stP R t n R.length := by
  unfold stI
  rw [List.range_succ, List.flatMap_append]
  simp
theorem stP_len (R : List Rule) (t : T) (i n : Nat) : (stP R t i n).length ≤ n := by
  unfold stP
  exact Nat.le_trans (List.length_filterMap_le _ _) (by simp)
theorem stI_len (R : List Rule) (t : T) (n : Nat) : (stI R t n).length ≤ n * R.length := by
  induction n with
  | zero => simp [stI]
  | succ n ih =>
    rw [stI_succ, List.length_append, Nat.succ_mul]
    have := stP_len R t n R.length
    omega
theorem mem_stI {R : List Rule} {t : T} {n i j : Nat} (hi : i < n) (hj : j < R.length) (h : (t.drop i).take (lf R j).length = lf R j) : (i, j) ∈ stI R t n := by
  unfold stI stP
  simp only [List.mem_flatMap, List.mem_range, List.mem_filterMap]
  exact ⟨i, hi, j, hj, by unfold stAt; rw [if_pos h]⟩
/-- the text that the law makes of two sides -/
def dueT (l r : T) (k : Nat) : T := l ++ r.drop (l.length - k)
theorem dueT_len {l r : T} {k : Nat} (h : k ≤ l.length) : (dueT l r k).length = max l.length (k + r.length) := by
  unfold dueT
  rw [List.length_append, List.length_drop]
  omega
theorem dueT_take {l r : T} {k : Nat} : (dueT l r k).take l.length = l := by
  unfold dueT
  simp
theorem fit_iff (d r : T) : (d ++ r.drop d.length).take r.length = r ↔ d.take (min d.length r.length) = r.take (min d.length r.length) := by
  rcases Nat.lt_or_ge r.length d.length with q | q
  · rw [List.drop_eq_nil_of_le (by omega), List.append_nil, Nat.min_eq_right (by omega), List.take_length]
  · rw [Nat.min_eq_left q, List.take_length, List.take_of_length_le (by rw [List.length_append, List.length_drop]; omega)]
    constructor
    · intro e
      have := congrArg (List.take d.length) e
      rw [List.take_left] at this
      exact this
    · intro e
      conv => lhs; rw [e]
      rw [List.length_take, Nat.min_eq_left q, List.take_append_drop]
theorem dueT_fit {l r : T} {k : Nat} (h : k ≤ l.length) : ((dueT l r k).drop k).take r.length = r ↔ (l.drop k).take (min (l.length - k) r.length) = r.take (min (l.length - k) r.length) := by
  unfold dueT
  rw [List.drop_append_of_le_length h]
  have := fit_iff (l.drop k) r
  rw [List.length_drop] at this
  exact this
theorem drop_min {n : Nat} {r : T} : r.drop (min n r.length) = r.drop n := by
  rcases Nat.lt_or_ge r.length n with q | q
  · rw [Nat.min_eq_right (by omega), List.drop_length, List.drop_eq_nil_of_le (by omega)]
  · rw [Nat.min_eq_left q]
theorem over_due {l r : T} {k : Nat} (h : k ≤ l.length) : over l r k = if ((dueT l r k).drop k).take r.length = r then some (dueT l r k) else none := by
  unfold over
  rw [drop_min]
  by_cases c : (l.drop k).take (min (l.length - k) r.length) = r.take (min (l.length - k) r.length)
  · rw [if_pos c, if_pos ((dueT_fit h).mpr c)]
    rfl
  · rw [if_neg c, if_neg (fun e => c ((dueT_fit h).mp e))]
/-- both steps stand in an overlap -/
theorem ov_steps {R : List Rule} {o : Ov} (h : o ∈ ovs R) : (0, o.2.1) ∈ stI R o.1 o.1.length ∧ (o.2.2.1, o.2.2.2) ∈ stI R o.1 o.1.length := by
  obtain ⟨i, r, j, q, k, t, hr, hq, hk, c, ho, rfl⟩ := mem_ovs.mp h
  rw [over_due (by omega)] at ho
  split at ho
  · rename_i hf
    cases ho
    have hl := dueT_len (l := r.1) (r := q.1) (k := k) (by omega)
    refine ⟨mem_stI (by show 0 < (dueT r.1 q.1 k).length; omega) (List.getElem?_eq_some_iff.mp hr).1 ?_, mem_stI (by show k < (dueT r.1 q.1 k).length; omega) (List.getElem?_eq_some_iff.mp hq).1 ?_⟩
    · rw [lf_get hr]
      exact dueT_take
    · rw [lf_get hq]
      exact hf
  · cases ho
end Bk
set_option Elab.async false
set_option linter.all false
set_option maxRecDepth 100000
set_option maxHeartbeats 4000000
namespace Sh
open PySem PySem.Spec PyProof.Rows L2
open SX (S S_inj S_len S_cat)
open Bk (Rule Wf Step Reach IsEnd stP stAt lf mem_stI)
/-! the texts below a text, plain -/
/-- made_step: the text with the right side there -/
def madeS (r : Rule) (t : List Nat) (p : Nat) : List Nat := t.take p ++ r.2 ++ t.drop (p + r.1.length)
theorem stI_mem {R : List Rule} {t : List Nat} {n i j : Nat} (h : (i, j) ∈ Bk.stI R t n) : i < n ∧ ∃ r, R[j]? = some r ∧ (t.drop i).take r.1.length = r.1 := by
  unfold Bk.stI stP at h
  simp only [List.mem_flatMap, List.mem_range, List.mem_filterMap] at h
  obtain ⟨i', hi, j', hj, e⟩ := h
  unfold stAt at e
  split at e
  · rename_i hf
    cases e
    refine ⟨hi, R[j], List.getElem?_eq_getElem hj, ?_⟩
    have : lf R j = (R[j]).1 := by unfold lf; simp [List.getD_eq_getElem?_getD, List.getElem?_eq_getElem hj]
    rw [← this]
    exact hf
  · cases e
theorem made_step {R : List Rule} {t : List Nat} {i : Nat} {r : Rule} (hr : r ∈ R) (h : (t.drop i).take r.1.length = r.1) : Step R t (madeS r t i) := by
  have e : t = t.take i ++ r.1 ++ t.drop (i + r.1.length) := by
    conv => lhs; rw [← List.take_append_drop i t, ← List.take_append_drop r.1.length (t.drop i), h, List.drop_drop]
    rw [List.append_assoc]
  have := Step.mk (t.take i) (t.drop (i + r.1.length)) r hr
  rw [← e] at this
  exact this
theorem step_made {R : List Rule} (hw : Wf R) {t u : List Nat} (s : Step R t u) : ∃ i j r, (i, j) ∈ Bk.stI R t t.length ∧ R[j]? = some r ∧ u = madeS r t i := by
  cases s with
  | mk x y r hr =>
    obtain ⟨j, hj, ej⟩ := List.mem_iff_getElem.mp hr
    have hl := (hw r hr).1
    have hlf : lf R j = r.1 := by unfold lf; simp [List.getD_eq_getElem?_getD, List.getElem?_eq_getElem hj, ej]
    refine ⟨x.length, j, r, mem_stI (by simp; omega) hj ?_, by rw [List.getElem?_eq_getElem hj, ej], ?_⟩
    · rw [hlf, List.append_assoc, List.drop_left, List.take_left]
    · unfold madeS
      rw [show (x ++ r.1 ++ y).take x.length = x by rw [List.append_assoc, List.take_left], show x.length + r.1.length = (x ++ r.1).length by simp, List.drop_left]
/-- all texts below a text -/
structure Bel (R : List Rule) (t : List Nat) (L : List (List Nat)) : Prop where
  nd : L.Nodup
  mem : ∀ u, u ∈ L ↔ Reach R t u
/-- a search for them: what was found, what waits -/
structure Srch (R : List Rule) (t : List Nat) (ls ws : List (List Nat)) (out : List Nat → Prop) : Prop where
  nd : ls.Nodup
  root : t ∈ ls
  rch : ∀ u ∈ ls, Reach R t u
  sub : ∀ u ∈ ws, u ∈ ls
  done : ∀ u ∈ ls, u ∉ ws → ¬ out u → ∀ v, Step R u v → v ∈ ls
theorem Srch.start {R : List Rule} {t : List Nat} : Srch R t [t] [t] (fun _ => False) := by
  refine ⟨by simp, by simp, fun u hu => ?_, fun u hu => hu, fun u hu n => absurd hu n⟩
  rw [List.mem_singleton] at hu
  rw [hu]
  exact .refl _
theorem Srch.fin {R : List Rule} {t : List Nat} {ls : List (List Nat)} (h : Srch R t ls [] (fun _ => False)) : Bel R t ls := by
  refine ⟨h.nd, fun u => ⟨h.rch u, fun hr => ?_⟩⟩
  have key : ∀ {a b : List Nat}, Reach R a b → a ∈ ls → b ∈ ls := by
    intro a b r
    induction r with
    | refl => exact id
    | step s _ ih => exact fun ha => ih (h.done _ ha (by simp) id _ s)
  exact key hr h.root
theorem Srch.pop {R : List Rule} {t x : List Nat} {ls ws : List (List Nat)} (h : Srch R t ls (ws ++ [x]) (fun _ => False)) : Srch R t ls ws (fun u => u = x) where
  nd := h.nd
  root := h.root
  rch := h.rch
  sub u hu := h.sub u (by simp [hu])
  done u hu n e := h.done u hu (by simp [n]; exact e) id
theorem Srch.back {R : List Rule} {t x : List Nat} {ls ws : List (List Nat)} (h : Srch R t ls ws (fun u => u = x)) (k : ∀ v, Step R x v → v ∈ ls) : Srch R t ls ws (fun _ => False) where
  nd := h.nd
  root := h.root
  rch := h.rch
  sub := h.sub
  done u hu n _ v s := by
    by_cases e : u = x
    · exact k v (e ▸ s)
    · exact h.done u hu n e v s
theorem Srch.more {R : List Rule} {t y : List Nat} {ls ws : List (List Nat)} {out : List Nat → Prop} (h : Srch R t ls ws out) (hy : y ∉ ls) (r : Reach R t y) : Srch R t (ls ++ [y]) (ws ++ [y]) out where
  nd := by
    rw [List.nodup_append]
    refine ⟨h.nd, by simp, fun a ha b hb e => ?_⟩
    rw [List.mem_singleton] at hb
    exact hy (hb ▸ e ▸ ha)
  root := by simp [h.root]
  rch u hu := by
    rcases List.mem_append.mp hu with hu | hu
    · exact h.rch u hu
    · rw [List.mem_singleton] at hu
      rw [hu]
      exact r
  sub u hu := by
    rcases List.mem_append.mp hu with hu | hu
    · exact List.mem_append_left _ (h.sub u hu)
    · exact List.mem_append_right _ hu
  done u hu n e v s := by
    simp only [List.mem_append, List.mem_singleton, not_or] at hu n
    rcases hu with hu | hu
    · exact List.mem_append_left _ (h.done u hu n.1 e v s)
    · exact absurd hu n.2
/-- pigeons -/
theorem nodup_le {α : Type} [DecidableEq α] : ∀ (l D : List α), l.Nodup → (∀ x ∈ l, x ∈ D) → l.length ≤ D.length
  | [], _, _, _ => Nat.zero_le _
  | x :: l, D, hn, hs => by
    obtain ⟨h1, h2⟩ := List.nodup_cons.mp hn
    have hx : x ∈ D := hs x List.mem_cons_self
    have ih := nodup_le l (D.erase x) h2 fun y hy => by
      have hne : y ≠ x := fun e => h1 (by rw [← e]; exact hy)
      exact (List.mem_erase_of_ne hne).2 (hs y (List.mem_cons_of_mem _ hy))
    rw [List.length_erase_of_mem hx] at ih
    have hp : 0 < D.length := List.length_pos_of_mem hx
    rw [List.length_cons]
    omega
theorem Bel.perm {R : List Rule} {t : List Nat} {L M : List (List Nat)} (h : Bel R t L) (k : Bel R t M) : L.Perm M :=
  (List.perm_ext_iff_of_nodup h.nd k.nd).mpr fun u => (h.mem u).trans (k.mem u).symm
/-! ### how many there can be -/
/-- all texts over some signs, of so many signs -/
def lvl (sg : List Nat) : Nat → List (List Nat)
  | 0 => [[]]
  | n + 1 => (lvl sg n).flatMap fun u => sg.map fun c => c :: u
theorem lvl_mem {sg : List Nat} : ∀ {u : List Nat}, (∀ c ∈ u, c ∈ sg) → u ∈ lvl sg u.length
  | [], _ => by simp [lvl]
  | c :: u, h => by
    show c :: u ∈ (lvl sg u.length).flatMap _
    exact List.mem_flatMap.mpr ⟨u, lvl_mem fun d hd => h d (List.mem_cons_of_mem _ hd), List.mem_map.mpr ⟨c, h c List.mem_cons_self, rfl⟩⟩
theorem lvl_len (sg : List Nat) : ∀ n, (lvl sg n).length = sg.length ^ n
  | 0 => rfl
  | n + 1 => by
    have : ∀ l : List (List Nat), (l.flatMap fun u => sg.map fun c => c :: u).length = l.length * sg.length := fun l => by
      induction l with
      | nil => simp
      | cons x l ih => rw [List.flatMap_cons, List.length_append, ih, List.length_map, List.length_cons, Nat.succ_mul, Nat.add_comm]
    show ((lvl sg n).flatMap fun u => sg.map fun c => c :: u).length = _
    rw [this, lvl_len sg n, Nat.pow_succ]
/-- all texts of up to so many signs -/
def upTo (sg : List Nat) (n : Nat) : List (List Nat) := (List.range (n + 1)).flatMap (lvl sg)
theorem upTo_len (sg : List Nat) (h : sg.length ≤ 3) : (upTo sg 6).length ≤ 1093 := by
  unfold upTo
  rw [List.length_flatMap, show ((fun a => (lvl sg a).length) : Nat → Nat) = fun a => sg.length ^ a from funext fun a => lvl_len sg a]
  generalize sg.length = m at h
  have : ∀ m ≤ 3, ((List.range 7).map fun a => m ^ a).sum ≤ 1093 := by decide
  exact this m h
theorem step_short {R : List Rule} (hw : Wf R) {t u : List Nat} (s : Step R t u) : u.length < t.length := by
  cases s with
  | mk x y r hr =>
    have := (hw r hr).1
    simp only [List.length_append]
    omega
theorem reach_short {R : List Rule} (hw : Wf R) {t u : List Nat} (s : Reach R t u) : u = t ∨ u.length < t.length := by
  induction s with
  | refl => exact .inl rfl
  | step s _ ih =>
    have := step_short hw s
    rcases ih with rfl | h
    · exact .inr this
    · exact .inr (by omega)
theorem few_below {R : List Rule} (hw : Wf R) {sg t : List Nat} (hsg : sg.length ≤ 3) (ht : t.length ≤ 7) (hc : ∀ {u}, Reach R t u → ∀ c ∈ u, c ∈ sg) {L : List (List Nat)} (nd : L.Nodup) (h : ∀ u ∈ L, Reach R t u) : L.length ≤ 1094 := by
  refine Nat.le_trans (nodup_le L (t :: upTo sg 6) nd fun u hu => ?_) (by rw [List.length_cons]; have := upTo_len sg hsg; omega)
  have hr := h u hu
  rcases reach_short hw hr with rfl | hl
  · exact List.mem_cons_self
  · exact List.mem_cons_of_mem _ (List.mem_flatMap.mpr ⟨u.length, List.mem_range.mpr (by omega), lvl_mem (hc hr)⟩)
def setK (ls : List (List Nat)) : List (Key × V) := ls.map fun l => ((Sum.inr (S l) : Key), V.bl true)
theorem setK_val (ls : List (List Nat)) (l : List Nat) : valV (setK ls) (Sum.inr (S l) : Key) = if l ∈ ls then some (.bl true) else none := by
  induction ls with
  | nil => rfl
  | cons x ls ih =>
    by_cases e : x = l
    · subst e
      rw [if_pos List.mem_cons_self]
      exact valV_pos (p := ((Sum.inr (S x) : Key), V.bl true)) rfl
    · have e2 : ¬ (Sum.inr (S x) : Key) = Sum.inr (S l) := fun z => e (S_inj (Sum.inr.inj z))
      have : valV (setK (x :: ls)) (Sum.inr (S l) : Key) = valV (setK ls) (Sum.inr (S l) : Key) := valV_neg (p := ((Sum.inr (S x) : Key), V.bl true)) e2
      rw [this, ih]
      by_cases m : l ∈ ls
      · rw [if_pos m, if_pos (List.mem_cons_of_mem _ m)]
      · rw [if_neg m, if_neg (fun z => (List.mem_cons.mp z).elim (fun q => e q.symm) m)]
def addL (ls : List (List Nat)) (l : List Nat) : List (List Nat) := if l ∈ ls then ls else ls ++ [l]
theorem setK_put (ls : List (List Nat)) (l : List Nat) : putK (setK ls) (Sum.inr (S l) : Key) (.bl true) = setK (addL ls l) := by
  unfold addL
  by_cases m : l ∈ ls
  · rw [if_pos m]
    unfold putK
    have h := setK_val ls l
    rw [if_pos m] at h
    rw [valV_any, h]
    rw [if_pos (show (some (V.bl true)).isSome = true from rfl)]
    unfold setK
    rw [List.map_map]
    refine List.map_congr_left fun x _ => ?_
    show (if (Sum.inr (S x) : Key) = Sum.inr (S l) then ((Sum.inr (S x) : Key), V.bl true) else ((Sum.inr (S x) : Key), V.bl true)) = _
    split <;> rfl
  · rw [if_neg m, putK_new _ (by rw [setK_val, if_neg m])]
    unfold setK
    rw [List.map_append]
    rfl
theorem same_none {H H' : Hp} {p : Addr} (s : Same H H') (h : H' p = none) : H p = none := by
  cases e : H p with
  | none => rfl
  | some o => rw [s _ _ e] at h; cases h
theorem rng_ok {n : Nat} (h : n ≤ 100000) : -2 ^ 62 ≤ (n : Int) ∧ (n : Int) < 2 ^ 62 := by omega
end Sh
set_option Elab.async false
set_option linter.all false
set_option maxRecDepth 100000
set_option maxHeartbeats 2000000
/-! The law's own call, known to be the outermost one: no repr runs around it (guards = some []), which FnOk does not tell. -/
namespace Sh
open PySem PySem.Spec PyProof.Rows L2
section
variable {P : Program} {w : World} {K : PySem.W.Frag} {mg mb : Str → Option Value}
/-- one def run at one place B: what fn_of says for every place -/
theorem run_at {base : Heap} {j : Nat} {g : Addr} {q : Str} {st : Stmt} {fd : FuncData} {N ps : List Str} {B : Around} {out : List Env} {s0 : Shared} {H0 : Hp} {ar : Args} {us : List Value} {zs : List V} {R : VK} {X0 : XK}
    (F : L2.Fun K q q st g fd) (S : FnScope N ps (defScope st)) (hl : zs.length = ps.length) (room : Room (j + 1) B) (en : Env0 P w K mg base B out s0 H0) (bi : BindsTo s0 fd ar (ps.zip us)) (rv : Vals zs us)
    (body : ∀ cdv : Value, Room j (B.deeper (envOfC q (defScope st) s0.heap.objs.size g cdv)) →
      ∃ t, PSs (cxOf CX0 P w K mg base N q (defScope st) g cdv B out s0 H0 X0).nox (defBody st) t ∧ t { nx := fun _ H' => R .non H', rt := R } (start N zs) H0) :
    codeAny (model P w) B (.call (.ref g) ar) (CR CX0 out P w H0 s0 R X0) s0 := by
  obtain ⟨oc, od, kV, doc, pm, an, cdv, ct, osl, rfl, look, code⟩ := F.ex
  have inK : K.In s0.heap := en.mod.kin.keeps fun b o z => (en.bs b o z).1
  have noL : s0.heap.NoLimit := en.mod.nolimit.keeps fun b o z => (en.bs b o z).1
  refine codeAny_call_function room.depth (inK _ _ look) rfl S.co S.gen rfl (PySem.W.codeRec_of inK code) (bi _ _ _ _ ?_)
  refine wpAny_newFunctionEnv_cells S.kind ?_ fun env same s2 at2 => ?_
  · rintro ⟨n, v⟩ mem
    exact (S.par n (List.of_mem_zip mem).1).imp id fun z => ⟨z, PySem.W.cellsFrom_some _ _ _ (.inl z)⟩
  · subst same
    refine ⟨noL.keeps at2.toInCall.keep, codeAny_func ?_⟩
    obtain ⟨t, run, val⟩ := body cdv (room.deeper _)
    have I0 := inv_start (CX := CX0) (E := X0) S room.hd en hl rv at2
    refine wpAny_mono (run.nox.run [] s2 _ H0 _ I0 val) (fun fl s3 out3 => ?_) fun e s3 z => z
    match fl, out3 with
    | .ret u, ⟨v, _, H3, J, r3, z⟩ => exact ⟨v, H3, J.os, J.bare, J.base, J.hok, r3, z⟩
    | .next, ⟨_, H3, J, z⟩ => exact ⟨.non, H3, J.os, J.bare, J.base, J.hok, rfl, z⟩
    | .brk, ⟨_, _, _, z⟩ => exact z.elim
    | .cont, ⟨_, _, _, z⟩ => exact z.elim
/-- at most the script is tracked, as an object that keeps -/
def OnlyA (a : Addr) (ls : List V) (vs : List Value) (H : Hp) : Prop := ∀ b u, H b = some u → b = a ∧ u = .frz { cls := .type "list", data := .seq vs.toArray } (.lst ls)
theorem law_in {k : Nat} {fa a : Addr} {x p1 : Str} {st : Stmt} {fd : FuncData} {N : List Str} {s1 : Shared} {vs : List Value} {zs : List Int}
    (kin : K.In s1.heap) (glob : s1.heap.Ns mainGlobals mg) (bltn : s1.heap.Ns builtinsNs mb) (bboot : ∀ y : Str, y ≠ "__name__" → mb y = bootBuiltins y) (noL : s1.heap.NoLimit) (noG : s1.gens = #[])
    (scr : s1.heap.get? a = some { cls := .type "list", data := .seq vs.toArray }) (isI : IntsAre vs zs) (small : zs.length ≤ sizeLine) (room : Room (k + 1) callerA)
    (F : L2.Fun K x x st fa fd) (S : FnScope N [p1] (defScope st)) (bi : ∀ (s : Shared) (u : Value), BindsTo s fd ⟨[u], []⟩ [(p1, u)])
    (body : ∀ (base : Heap) (H : Hp) (cdv : Value), Room k (callerA.deeper (envOfC x (defScope st) s1.heap.objs.size fa cdv)) → SqL K H a (zs.map V.int) →
      ∃ t, PSs (cxOf CX0 P w K mg base N x (defScope st) fa cdv callerA [] s1 H fun _ _ _ => False).nox (defBody st) t ∧ t { nx := fun _ _ => V.non = V.bl true, rt := fun v _ => v = .bl true } (start N [.ref a]) H) :
    codeAny (model P w) callerA (.call (.ref fa) ⟨[.ref a], []⟩) (fun r s' => r = .ok (.ret (.bool true)) ∧ OldK s1.heap s'.heap ∧ s'.os = s1.os ∧ AllBare s'.gens) s1 := by
  have isV := vals_ints isI
  have sameL := isI.length
  have main : ∀ H : Hp, OnlyA a (zs.map V.int) vs H → SqL K H a (zs.map V.int) → HOk P w H s1.heap → (K.lookup a ≠ none → H a = none) →
      codeAny (model P w) callerA (.call (.ref fa) ⟨[.ref a], []⟩) (fun r s' => r = .ok (.ret (.bool true)) ∧ OldK s1.heap s'.heap ∧ s'.os = s1.os ∧ AllBare s'.gens) s1 := by
    intro H lone sq good apart
    -- what is not the script is not tracked
    have free : ∀ {b : Addr}, b ≠ a → H b = none := fun {b} n => by
      cases z : H b with
      | none => rfl
      | some u => exact absurd (lone b u z).1 n
    have nsF : ∀ {b : Addr} {m : Str → Option Value}, s1.heap.Ns b m → (hidT s1.heap H).Ns b m := by
      rintro b m ⟨o, es, ep, z, dat, rest⟩
      refine ⟨o, es, ep, hidT_get z (free ?_), dat, rest⟩
      rintro rfl
      rw [scr] at z
      cases z
      cases (show Data.seq vs.toArray _ = Data.dict es ep from dat)
    have kinF : K.In (hidT s1.heap H) := fun b o z => by
      by_cases n : b = a
      · subst n
        exact hidT_get (kin _ _ z) (apart (by rw [z]; simp))
      · exact hidT_get (kin b o z) (free n)
    obtain ⟨mc, c1, c2⟩ := noL
    have en : Env0 P w K mg (hidT s1.heap H) callerA [] s1 H := by
      refine ⟨rfl, ⟨kinF, nsF glob, ⟨mb, nsF bltn, bboot⟩, ⟨mc, nsF c1, c2⟩⟩, fun b o z => of_hidT z, Nat.le_of_eq (hidT_size _ _), trivial, fun b z => ?_, good, .of_eq noG⟩
      cases z
    refine codeAny_mono (run_at (R := fun v _ => v = .bl true) (zs := [.ref a]) (us := [.ref a]) F S rfl room en (bi s1 (.ref a)) (.cons rfl .nil) fun cdv r => body _ H cdv r sq) fun res s2 h => ?_
    match res, h with
    | .error e, h => exact (show False from h).elim
    | .ok .next, h => exact (show False from h).elim
    | .ok .brk, h => exact (show False from h).elim
    | .ok .cont, h => exact (show False from h).elim
    | .ok (.ret u), ⟨v, H2, os, bare, un, good2, rv, ev⟩ =>
      obtain rfl : v = .bl true := ev
      obtain rfl : u = Value.bool true := rv
      refine ⟨rfl, OldK.of_keep fun b o z => ?_, os, bare⟩
      cases q : H b with
      | none => exact un.keep b o z q (fun m => by cases m) (by simp)
      | some u =>
        obtain ⟨rfl, rfl⟩ := lone b u q
        have g1 := (good _ _ q).1
        rw [z] at g1
        cases g1
        exact (good2 _ _ (un.frzs _ _ _ q)).1
  by_cases own : K.lookup a = none
  · refine main (fun b => if b = a then some (.frz { cls := .type "list", data := .seq vs.toArray } (.lst (zs.map V.int))) else none) ?_ (.inl (.inr ⟨_, if_pos rfl⟩)) ?_ fun n => absurd own n
    · intro b u z
      by_cases n : b = a
      · exact ⟨n, (Option.some.inj ((if_pos n).symm.trans z)).symm⟩
      · cases (if_neg n).symm.trans z
    · intro b u z
      by_cases n : b = a
      · subst n
        cases (if_pos rfl).symm.trans z
        exact ⟨scr, by rw [List.length_map]; exact small, vs, _, isV, scr⟩
      · cases (if_neg n).symm.trans z
  · obtain ⟨o, z⟩ := Option.ne_none_iff_exists'.mp own
    have same := kin a o z
    rw [scr] at same
    cases same
    exact main (fun _ => none) (fun _ _ z => by cases z) (.inr ⟨_, vs.toArray, _, z, rfl, rfl, rfl, by rw [List.size_toArray, sameL]; exact small, by simpa using isV⟩) (fun _ _ z => by cases z) fun _ => rfl
end
/-- the law's claim from its body, walked where no repr runs around it -/
theorem walk_law {l : PySem.W.OpenLaw} {n k : Nat} {q : Program} {loose : List Str} {XP : (Str → Option Value) → Heap → Prop} {YP : World → Heap → Prop} {d : DefRec} {K : Params → PySem.W.Frag} {x p1 : Str} {st : Stmt} {N : List Str}
    (hn : l.most = some n) (hn2 : n ≤ sizeLine) (hdf : d.params.defaults = []) (room : Room (k + 1) callerA) (S : FnScope N [p1] (defScope st))
    (hY : ∀ (w : World) (h : Heap), YP w h → (K w.params).In h)
    (F : ∀ (w : World) (mg : Str → Option Value) (fa : Addr) (h : Heap), (K w.params).In h → h.Ns mainGlobals mg → mg d.name = some (.ref fa) →
      ∃ fd : FuncData, L2.Fun (K w.params) x x st fa fd ∧ (∀ (s : Shared) (u : Value), BindsTo s fd ⟨[u], []⟩ [(p1, u)]) ∧
        ∀ (s1 : Shared) (a : Addr) (zs : List Int) (base : Heap) (H : Hp) (cdv : Value), zs.length ≤ n → (∀ z ∈ zs, Builtin.Int.intBits z ≤ 1048576) → Room k (callerA.deeper (envOfC x (defScope st) s1.heap.objs.size fa cdv)) → SqL (K w.params) H a (zs.map V.int) →
          ∃ t, PSs (cxOf CX0 l.prog w (K w.params) mg base N x (defScope st) fa cdv callerA [] s1 H fun _ _ _ => False).nox (defBody st) t ∧ t { nx := fun _ _ => V.non = V.bl true, rt := fun v _ => v = .bl true } (start N [.ref a]) H) :
    PySem.W.WalkO q loose XP YP l.row.toRowW d [] (fun f vs => PySem.call f vs) := by
  refine Att.attach_callB hn hdf fun w s0 s1 mg mb fa o pm cd doc a vs zs G Y ho hd hcd hmg hobj isI len bits noG => ?_
  have kin := hY w _ Y
  obtain ⟨fd, Fn, bi, body⟩ := F w mg fa _ kin G.T.g hmg
  exact law_in kin G.T.g G.T.b G.T.builtins G.T.nolimit noG hobj isI (Nat.le_trans len hn2) room Fn S bi fun base H cdv r sq => body s1 a zs base H cdv len bits r sq
end Sh
set_option Elab.async false
set_option linter.all false
set_option maxRecDepth 100000
namespace Sh
open PySem PySem.Spec PyProof.Rows L2
section
variable {K : PySem.W.Frag} {h : Heap} {mg : Str → Option Value}
/-- a constant that the top has written -/
theorem con_mk {x : Str} {u : Value} {v : V} (X : K.In h) (Y : h.Ns mainGlobals mg) (a : PySem.W.nsIn K mainGlobals x = some (some u)) (r : RelV v u) : ∃ u, mg x = some u ∧ RelV v u := ⟨u, PySem.W.mg_of X Y a, r⟩
/-- a def -/
theorem def_mk {x : Str} {st : Stmt} {ps : List Str} {f : Addr} {oc kv dc pm cd ct : Value} {od an : Option Addr} {sl : Array (Option Value)} (X : K.In h) (Y : h.Ns mainGlobals mg) (a : PySem.W.nsIn K mainGlobals x = some (some (.ref f)))
    (l : K.lookup f = some ⟨oc, od, .func (PySem.W.fnOf x x (defArgs st) (defBody st) (defScope st) .none kv dc pm an cd ct), sl⟩) (c : PySem.W.codeIn K cd x = true) (k : PySem.W.keepIn K (.ref f) = true)
    (b : ∀ (kV doc pm : Value) (an : Option Addr) (cdv ct : Value) (us : List Value), us.length = ps.length → bindArgs (PySem.W.fnOf x x (defArgs st) (defBody st) (defScope st) .none kV doc pm an cdv ct) ⟨us, []⟩ = pure (ps.zip us)) : DefAt K mg x st ps := by
  have F := fun_mk (st := st) l c k
  exact ⟨f, _, F, PySem.W.mg_of X Y a, F.binds b⟩
/-- a method -/
theorem meth_mk {C : Addr} {m q : Str} {st : Stmt} {ps : List Str} {f : Addr} {oc kv dc pm cd ct : Value} {od an : Option Addr} {sl : Array (Option Value)}
    (l : K.lookup f = some ⟨oc, od, .func (PySem.W.fnOf m q (defArgs st) (defBody st) (defScope st) .none kv dc pm an cd ct), sl⟩) (c : PySem.W.codeIn K cd q = true) (k : PySem.W.keepIn K (.ref f) = true)
    (i : PySem.W.findIn K (.ref C) m = some (some (.ref f))) (n : PySem.W.isFn K (.ref f) = true) (o : PySem.W.fnIn K f = true)
    (b : ∀ (kV doc pm : Value) (an : Option Addr) (cdv ct : Value) (us : List Value), us.length = ps.length → bindArgs (PySem.W.fnOf m q (defArgs st) (defBody st) (defScope st) .none kV doc pm an cdv ct) ⟨us, []⟩ = pure (ps.zip us)) : MethAt K C m q st ps := by
  have F := fun_mk (st := st) l c k
  exact ⟨f, _, F, F.binds b, i, n, o⟩
/-- the law's def -/
theorem law_mk {x p1 : Str} {st : Stmt} {fa f : Addr} {oc kv dc pm cd ct : Value} {od an : Option Addr} {sl : Array (Option Value)} (X : K.In h) (Y : h.Ns mainGlobals mg) (g : mg x = some (.ref fa)) (a : PySem.W.nsIn K mainGlobals x = some (some (.ref f)))
    (l : K.lookup f = some ⟨oc, od, .func (PySem.W.fnOf x x (defArgs st) (defBody st) (defScope st) .none kv dc pm an cd ct), sl⟩) (c : PySem.W.codeIn K cd x = true) (k : PySem.W.keepIn K (.ref f) = true)
    (b : ∀ (kV doc pm : Value) (an : Option Addr) (cdv ct : Value) (s : Shared) (u : Value), BindsTo s (PySem.W.fnOf x x (defArgs st) (defBody st) (defScope st) .none kV doc pm an cdv ct) ⟨[u], []⟩ [(p1, u)]) :
    ∃ fd : FuncData, L2.Fun K x x st fa fd ∧ ∀ (s : Shared) (u : Value), BindsTo s fd ⟨[u], []⟩ [(p1, u)] := by
  cases g.symm.trans (PySem.W.mg_of X Y a)
  exact ⟨_, fun_mk l c k, b _ _ _ _ _ _⟩
end
end Sh
set_option Elab.async false
set_option linter.all false
set_option maxRecDepth 100000
namespace Sh
open PySem PySem.Spec PyProof.Rows L2
section
variable {K : PySem.W.Frag} {h : Heap} {mg : Str → Option Value}
theorem kit_self {C : Addr} : PySem.W.kitOne K (.ref C) (.ref C) = some true := if_pos (by simp)
/-- a property -/
theorem prop_mk {C p : Addr} {m q : Str} {st : Stmt} {f : Addr} {oc kv dc pm cd ct : Value} {od an : Option Addr} {sl : Array (Option Value)} {rest : List Value}
    (l : K.lookup f = some ⟨oc, od, .func (PySem.W.fnOf m q (defArgs st) (defBody st) (defScope st) .none kv dc pm an cd ct), sl⟩) (c : PySem.W.codeIn K cd q = true) (k : PySem.W.keepIn K (.ref f) = true)
    (i : PySem.W.findIn K (.ref C) m = some (some (.ref p))) (g : PySem.W.specialIn K (.ref p) "__get__" = some (some (.builtin "property.__get__"))) (t : PySem.W.takesIn K (.ref p) = some true) (r : PySem.W.recIn K p "property" = some (.ref f :: rest))
    (b : ∀ (kV doc pm : Value) (an : Option Addr) (cdv ct : Value) (us : List Value), us.length = 1 → bindArgs (PySem.W.fnOf m q (defArgs st) (defBody st) (defScope st) .none kV doc pm an cdv ct) ⟨us, []⟩ = pure ([("self" : Str)].zip us)) : PropAt K C m q st := by
  have F := fun_mk (st := st) l c k
  exact ⟨p, f, _, ⟨i, g, t, rest, r⟩, F, F.binds b⟩
end
end Sh
set_option Elab.async false
set_option linter.all false
set_option maxRecDepth 100000
set_option maxHeartbeats 4000000
/-! an own exception's __init__ that begins with super().__init__(e), over ValueError -/
namespace Sh
open PySem PySem.Spec PyProof.Rows L2 NdefX
/-- of the class at C: its super().__init__ as seen from D is ValueError's -/
structure SupC (K : PySem.W.Frag) (C D : Addr) : Prop where
  sub : PySem.W.mroIn K C (.ref D) = some true
  sup : PySem.W.ks_superIn K C D "__init__" = some (some (.builtin "ValueError.__init__"))
  ve : PySem.W.subIn K (.ref C) (.type "ValueError") = some true
/-- the def at f, its class cell at cc (the class at D), its code's file -/
structure SupF (P : Program) (K : PySem.W.Frag) (mg : Str → Option Value) (q : Str) (st : Stmt) (ps : List Str) (D f : Addr) (fd : FuncData) : Prop where
  ex : ∃ (cc cda : Addr) (oc kv doc pm ct : Value) (od an : Option Addr) (osl : Array (Option Value)), fd = PySem.W.fnX "__init__" q (defArgs st) (defBody st) (defScope st) [("__class__", cc)] .none kv doc pm an (.ref cda) ct ∧
    K.lookup f = some ⟨oc, od, .func fd, osl⟩ ∧ PySem.W.codeIn K (.ref cda) q = true ∧
    (∃ (cl : Value) (cld : Option Addr) (csl : Array (Option Value)), K.lookup cc = some ⟨cl, cld, .cell (some (.ref D)), csl⟩) ∧
    (∃ (cl : Value) (cld : Option Addr) (vs : Array Value) (csl : Array (Option Value)) (file : Str) (tf : Tok), K.lookup cda = some ⟨cl, cld, .fields vs, csl⟩ ∧ vs[2]? = some (.str file tf) ∧ ((P.main.file : Str) == file) = true)
  top : (P.main.scope.names.lookup ("super" : Str)).isSome = false
  mgs : mg "super" = none
  hD : ∃ cd, PySem.W.clsIn K D = some cd
  op : PySem.W.nsIn K cStatics "thirdparty.any" = some none
  hp : ∃ ar : Arg, ((defArgs st).posonlyargs ++ (defArgs st).args).head? = some ar ∧ ar.arg = "self"
  hks : (defScope st).names.lookup ("super" : Str) = some .globalImplicit
section
variable {CX : CXT} {P : Program} {w : World} {K : PySem.W.Frag} {mg : Str → Option Value} {base : Heap} {N ps : List Str} {k : Nat} {f cda cc D : Addr} {q : Str} {st : Stmt} {fd : FuncData} {sp : Sp}
theorem look1 {cc c : Addr} {y : Str} (h : List.lookup y [(("__class__" : Str), cc)] = some c) : y = "__class__" ∧ c = cc := by
  by_cases e : y = "__class__"
  · subst e
    simp [List.lookup] at h
    exact ⟨rfl, h.symm⟩
  · have e' : (y == ("__class__" : Str)) = false := by simpa using e
    simp [List.lookup, e'] at h
theorem cells1 {A : Around} {outer : List Env} {s : Shared} {H : Hp} {cl : Value} {cld : Option Addr} {csl : Array (Option Value)} {v : Option Value} (e0 : Env0 P w K mg base A outer s H) (hc : K.lookup cc = some ⟨cl, cld, .cell v, csl⟩) : CellsAt [("__class__", cc)] ["__class__"] [none] s.heap H := by
  have hb := e0.bs _ _ (e0.mod.kin _ _ hc)
  refine ⟨rfl, fun y c h => ?_, fun x y c h1 h2 => (look1 h1).1.trans (look1 h2).1.symm, fun i y h => ?_⟩
  · obtain ⟨_, rfl⟩ := look1 h
    exact ⟨hb.2, v, _, hb.1, rfl⟩
  · match i, h with
    | 0, h =>
      cases h
      exact ⟨cc, by simp [List.lookup], fun v e => by cases e⟩
    | _ + 1, h => cases h
/-- the statement super().__init__(e, ..) -/
theorem sup_run {X : Cx} {σ : L2.St} {H : Hp} {s : Shared} {body : List Stmt} {q : Str} {scope : Scope} {L f cda cc D a C : Addr} {fd : FuncData} {oc : Value} {od : Option Addr} {osl : Array (Option Value)} {ar : Arg} {p0 p1 p2 p3 p4 : Pos} {e : Expr} {es : List Expr} {ta : TA} {G : Hp → Prop}
    {cl cl2 : Value} {cld cld2 : Option Addr} {csl csl2 : Array (Option Value)} {fvs : Array Value} {file : Str} {tf : Tok}
    (I : Inv X [] σ H s) (henv : X.env = PySem.W.ksEnv q scope L f (.ref cda) cc) (hk : scope.kind = .function) (hks : scope.names.lookup ("super" : Str) = some .globalImplicit) (hkc : scope.names.lookup ("__class__" : Str) = some .free) (hka : scope.names.lookup ("self" : Str) = some .local)
    (lk : X.K.lookup f = some ⟨oc, od, .func fd, osl⟩) (hp : (fd.params.posonlyargs ++ fd.params.args).head? = some ar) (har : ar.arg = "self") (hcc : X.K.lookup cc = some ⟨cl, cld, .cell (some (.ref D)), csl⟩)
    (hcda : X.K.lookup cda = some ⟨cl2, cld2, .fields fvs, csl2⟩) (hvs : fvs[2]? = some (.str file tf)) (hfile : ((X.prog.main.file : Str) == file) = true) (htop : (X.prog.main.scope.names.lookup ("super" : Str)).isSome = false) (hmg : X.mg "super" = none) (hop : PySem.W.nsIn X.K cStatics "thirdparty.any" = some none)
    (hN : X.N[0]? = some ("self" : Str)) (hσ : σ[0]? = some (some (.ref a))) {cdD : ClassData} (hD : PySem.W.clsIn X.K D = some cdD) (T : OexC X.K C) (SC : SupC X.K C D) (ea : H a = some (exo a C none)) (ha : PA X (e :: es) ta)
    (he : starEach (e :: es) X.env = (false, eval e X.env) :: starEach es X.env) (hpl : ∀ pos, (backTo pos (starEach es X.env)).any (·.1) = false)
    {pl : Sem Bool} (hev : eval (.Call (.Attribute (.Call (.Name "super" p0) [] [] p1) "__init__" p2) (e :: es) [] p3) X.env = (do
      let ov ← attributeBase (.Call (.Name "super" p0) [] [] p1) "__init__" X.env (eval (.Call (.Name "super" p0) [] [] p1) X.env)
      standAt p2.atName
      let (f, first) ← holding [ov] (getMethod ov "__init__" pl)
      callWith p3 f first (backTo p3 (starEach (e :: es) X.env)) []))
    (hq : ta σ H fun us H1 => us.length ≤ 1000 ∧ H1 a = some (exo a C none) ∧ G H1) :
    _root_.PySem.wpAt (model X.prog X.w) X.A (.func body X.env) (exec (.Expr (.Call (.Attribute (.Call (.Name "super" p0) [] [] p1) "__init__" p2) (e :: es) [] p3) p4) X.env) (fun fl s' => fl = .next ∧ ∃ H1, Inv X [] σ H1 s' ∧ G H1) X.xe s := by
  have KX := I.kIn
  refine ks_wpAt_Expr_any (ks_wpAt_MethodCall (pl := pl) ?_ hev) (by unfold interactive; rw [I.ok.kind]; rfl)
  obtain ⟨oD, hD1, hD2⟩ : ∃ oD, s.heap.get? D = some oD ∧ oD.data = .cls cdD := by
    unfold PySem.W.clsIn at hD
    split at hD
    · rename_i c d cd' sl ho
      cases hD
      exact ⟨_, KX _ _ ho, rfl⟩
    · cases hD
  have k1 : X.env.kindOf "super" = some .globalImplicit := by rw [henv]; exact hks
  have k2 : X.env.kindOf "__class__" = some .free := by rw [henv]; exact hkc
  have k3 : X.env.kindOf "self" = some .local := by rw [henv]; exact hka
  refine ks_wpAt_super_base (f := f) (cc := cda) k1 k2 (by decide) (by rw [henv]) (KX _ _ lk) rfl hp (by rw [henv]) (KX _ _ hcda) rfl hvs hfile htop ?_
  obtain ⟨mb, g1, g2⟩ := I.mod.blt
  refine PySem.W.ks_loadName_global I.ok.kind k1 (Calls.loadGlobal_builtin (by rw [I.ok.glob]; exact I.mod.glob.keeps I.bk) hmg (by rw [I.ok.blt]; exact g1.keeps I.bk) ((g2 _ (by decide)).trans (by first | boot_by_name | rfl | kernel_rfl)) ⟨rfl, ?_⟩)
  refine wpAny_loadName_free I.ok.kind k2 (by rw [henv]; simp [List.lookup]) ⟨_, KX _ _ hcc, rfl⟩ ?_
  obtain ⟨m, hn, hl⟩ := I.loc
  obtain ⟨u, ru, lo⟩ := hl 0 _ _ hN hσ (.inl (by rw [henv]; exact hka))
  obtain rfl : u = Value.ref a := ru
  have hm : m "self" = some (.ref a) := by
    rcases lo with ⟨_, hm⟩ | ⟨hk | hk, _⟩
    · exact hm
    · rw [k3] at hk; cases hk
    · rw [k3] at hk; cases hk
  rw [har]
  refine wpAny_loadName_local I.ok.kind k3 hn hm ?_
  refine ks_wpAny_isType_cls hD1 hD2 ⟨rfl, ?_⟩
  obtain ⟨t1, hx⟩ := exo_at I.hok ea
  have IA : PySem.W.InstAt s.heap a { cls := .ref C, dict := none, data := .fields #[.ref t1, .none, .none, .none, .bool false, .none] } C none := ⟨hx, rfl, rfl, trivial⟩
  obtain ⟨cdC, hcC⟩ : ∃ cd, PySem.W.clsIn X.K C = some cd := by
    obtain ⟨nm, q, N, bs, bm, sn, sub, ab, col, dd, k0, k1, k2, k3, k5, hC, hbm⟩ := T.cls
    exact ⟨_, by unfold PySem.W.clsIn; rw [hC] <;> rfl⟩
  have hsup := SC.sup
  unfold PySem.W.ks_superIn at hsup
  rw [hcC, Option.bind_some] at hsup
  have hsz : s.heap.objs.size ≤ s.heap.objs.size := Nat.le_refl _
  obtain ⟨hh, g, d, t, os⟩ := s
  refine ks_wpAny_call_super hD1 hD2 hx rfl (fun c z => by cases z) (PySem.W.looks_mroIn KX SC.sub) (fun h' hso k => ?_)
  have I1 : Inv X [] σ H ⟨h', g, d, t, os⟩ := I.kept (t' := t) k
  have X1 : X.K.In h' := I1.kIn
  have hx1 := k _ _ hx
  have IA1 : PySem.W.InstAt h' a { cls := .ref C, dict := none, data := .fields #[.ref t1, .none, .none, .none, .bool false, .none] } C none := ⟨hx1, rfl, rfl, trivial⟩
  refine PySem.W.kxs_getMethod PySem.W.kxs_ValueError hso (PySem.W.looks_opaque X1 hop) (l₀ := cdC.mro) (fun A Q E s k q => wpAny_bind ((PySem.W.looks_clsIn X1 hcC) A _ E s k (wpAny_pure q))) rfl X1 hsup (IA1.type.andThen (PySem.W.looks_subIn X1 SC.ve)) (PySem.W.ks_ne X1 IA1 hcC) (by decide) ?_
  have I2 : Inv X [] σ H ⟨h'.push (PySem.W.kxs_mw "ValueError.__init__" a), g, d, t + 1, os⟩ := I1.kept (t' := t + 1) fun b o e => Heap.get?_push_of_some _ e
  have fp : FpOk X [] H h'.objs.size := I1.fpOk (Nat.le_refl _) (I1.hok.fresh (Nat.le_refl _))
  have I3 : Inv X [(h'.objs.size, PySem.W.kxs_mw "ValueError.__init__" a)] σ H ⟨h'.push (PySem.W.kxs_mw "ValueError.__init__" a), g, d, t + 1, os⟩ := I2.pins_of fun p hp => by
    rw [List.mem_singleton.mp hp]
    exact ⟨Heap.get?_push_size _ rfl, fp.1, fp.2.1, fp.2.2.1, fun v z => by cases z⟩
  show wpAny _ _ (callWith p3 (.ref h'.objs.size) [] (backTo p3 (starEach (e :: es) X.env)) []) _ _ _
  refine PySem.W.kxs_callWith (i := "ValueError.__init__") (x := a) (by rw [he]; show (false || (backTo p3 (starEach es X.env)).any (·.1)) = false; rw [hpl]; rfl) ?_
  have hs := ha.run p3 _ _ σ H _ I3 hq
  rw [he] at hs ⊢
  refine PySem.Calls.evalArgs_plain (thn hs fun us s1 ⟨vs, H1, J, r1, hl, ea1, hG⟩ => ?_)
  have hu : s1.heap.get? h'.objs.size = some (PySem.W.kxs_mw "ValueError.__init__" a) := (J.pin _ (List.mem_append_right _ List.mem_cons_self)).1
  refine ⟨hu, ?_⟩
  show wpAny _ _ (call (.ref h'.objs.size) us) _ _ _
  obtain ⟨nm, qn, N, bs, bm, sn, sub, ab, col, dd, k0, k1', k2', k3', k5, hC, hbm⟩ := T.cls
  obtain ⟨t2, he2⟩ := exo_at J.hok ea1
  have hlen : us.length ≤ sizeLine := by
    rw [← r1.length, sizeLine_eq]
    omega
  have hC2 := J.kIn _ _ hC
  obtain ⟨hp2, gn2, dr2, tk2, os2⟩ := s1
  refine wpAny_call (codeAny_of_tree ?_)
  show wpAny _ X.A.in1 (callAny (.ref h'.objs.size) ⟨us, []⟩) _ _ _
  simp only [callAny]
  refine wpAny_bind (wpAny_load hu ?_)
  simp only [PySem.W.kxs_mw, show (Value.type "method-wrapper" == Value.type "method" || Value.type "method-wrapper" == Value.type "builtin_function_or_method" || Value.type "method-wrapper" == Value.type "method-wrapper") = true by decide, if_true]
  refine PySem.W.KFB.if_so (by decide) ?_
  refine wpAny_bind (PySem.W.check_bound_init F.excBase_ValueError.toExcCallFacts hC2 he2 rfl ?_)
  refine wpAny_bind (wpAny_pure (wpAny_pure ?_))
  refine ⟨plainId_quiet F.excBase_ValueError.init.plain _, codeAny_builtin F.excBase_ValueError.initEntry ?_⟩
  refine PySem.W.exc_init_tree (cls := .ref C) (t0 := t2) (dv := none) (c2 := .none) (c3 := .none) (b4 := .bool false) he2 hlen ?_
  intro h3 k3 e3 t3
  have J2 := J.write (t' := tk2) (x := a) (e := a) (o := exo a C none) (by rw [ea1]; exact True.intro) (.inl rfl) k3 ⟨_, e3⟩ (exo_ok e3)
  have eu : upd H1 a (exo a C none) = H1 := by
    funext b
    by_cases hb : b = a
    · rw [hb, upd_same, ea1]
    · rw [upd_ne hb]
  rw [eu] at J2
  exact ⟨trivial, H1, J2.pins_of (fun p hp => absurd hp (by simp)), hG⟩
theorem fn_sup {p0 p1 p2 p3 p4 : Pos} {es : List Expr} {e : Expr} {rest : List Stmt} (F : SupF P K mg q st ps D f fd) (S : NScope N ps ["__class__"] (defScope st))
    (hself : ps.head? = some "self") (hst : defBody st = .Expr (.Call (.Attribute (.Call (.Name "super" p0) [] [] p1) "__init__" p2) (e :: es) [] p3) p4 :: rest)
    (len : ∀ vs H Q E, sp vs H Q E → vs.length = ps.length)
    (hbody : ∀ (cc cda : Addr) (A : Around) (outer : List Env) (s : Shared) (H : Hp) (vs : List V) (Q : VK) (E : XK), Room k (A.deeper (PySem.W.ksEnv q (defScope st) s.heap.objs.size f (.ref cda) cc)) → sp vs H Q E →
      ∃ ta t pl, PA (ncx CX P w K mg base N ⟨"__init__", q, defArgs st, defBody st, defScope st, [("__class__", cc)], cda⟩ f A outer s H E) (e :: es) ta ∧ PSs (ncx CX P w K mg base N ⟨"__init__", q, defArgs st, defBody st, defScope st, [("__class__", cc)], cda⟩ f A outer s H E) rest t ∧ starEach (e :: es) (PySem.W.ksEnv q (defScope st) s.heap.objs.size f (.ref cda) cc) = (false, eval e (PySem.W.ksEnv q (defScope st) s.heap.objs.size f (.ref cda) cc)) :: starEach es (PySem.W.ksEnv q (defScope st) s.heap.objs.size f (.ref cda) cc) ∧ (∀ pos, (backTo pos (starEach es (PySem.W.ksEnv q (defScope st) s.heap.objs.size f (.ref cda) cc))).any (·.1) = false) ∧
        eval (.Call (.Attribute (.Call (.Name "super" p0) [] [] p1) "__init__" p2) (e :: es) [] p3) (PySem.W.ksEnv q (defScope st) s.heap.objs.size f (.ref cda) cc) = (do
          let ov ← attributeBase (.Call (.Name "super" p0) [] [] p1) "__init__" (PySem.W.ksEnv q (defScope st) s.heap.objs.size f (.ref cda) cc) (eval (.Call (.Name "super" p0) [] [] p1) (PySem.W.ksEnv q (defScope st) s.heap.objs.size f (.ref cda) cc))
          standAt p2.atName
          let (g0, first) ← holding [ov] (getMethod ov "__init__" pl)
          callWith p3 g0 first (backTo p3 (starEach (e :: es) (PySem.W.ksEnv q (defScope st) s.heap.objs.size f (.ref cda) cc))) []) ∧
        ∃ (a C : Addr) (ws : List V), vs = .ref a :: ws ∧ OexC K C ∧ SupC K C D ∧ H a = some (exo a C none) ∧
        ta (startF N vs [none]) H (fun us H1 => us.length ≤ 1000 ∧ H1 a = some (exo a C none) ∧ t { nx := fun _ H' => Q .non H', rt := Q } (startF N vs [none]) H1)) :
    FnOk P w K mg base CX (k + 1) f fd ps sp := by
  obtain ⟨cc, cda, oc, kv, doc, pm, ct, od, an, osl, rfl, lk, hcd, ⟨cl, cld, csl, hcc⟩, ⟨cl2, cld2, fvs, csl2, file, tf, hcda, hvs, hfile⟩⟩ := F.ex
  refine ⟨len, fun A outer s H args us vs Q E hr e0 hb r hsp => ?_⟩
  have hl := len _ _ _ _ hsp
  have KX : K.In s.heap := e0.mod.kin.keeps fun b o e => (e0.bs b o e).1
  have lim : s.heap.NoLimit := e0.mod.nolimit.keeps fun b o e => (e0.bs b o e).1
  refine ks_codeAny_call_defAt (binds := ps.zip us) (body := defBody st) hr.depth (KX _ _ lk) rfl lim (PySem.W.codeRec_of KX hcd) rfl hb S.nocell (fun ⟨n, v⟩ hy => S.par n (List.of_mem_zip hy).1) (fun h₁ hns kp => ?_) S.co S.gen S.kind
  have I0 : Inv (ncx CX P w K mg base N ⟨"__init__", q, defArgs st, defBody st, defScope st, [("__class__", cc)], cda⟩ f A outer s H E) [] (startF N vs [none]) H { s with heap := h₁, toks := s.toks + (ps.zip us).length } := inv_startN S hr.hd e0 hl r (cells1 e0 hcc) hns kp
  obtain ⟨ta, t, pl, hpa, hps, he, hpl, hev, a, C, ws, rfl, T, SC, ea, hta⟩ := hbody cc cda A outer s H vs Q E (hr.deeper _) hsp
  obtain ⟨cdD, hD⟩ := F.hD
  obtain ⟨ar, har1, har2⟩ := F.hp
  obtain ⟨ps', rfl⟩ : ∃ ps', ps = ("self" : Str) :: ps' := by
    cases ps with
    | nil => cases hself
    | cons x xs => cases hself; exact ⟨xs, rfl⟩
  have hN0 : N[0]? = some ("self" : Str) := by
    have := congrArg (fun l => l[0]?) S.pre
    simpa using this
  have key : _root_.PySem.wpAt (model P w) (A.deeper (PySem.W.ksEnv q (defScope st) s.heap.objs.size f (.ref cda) cc)) (.func (defBody st) (PySem.W.ksEnv q (defScope st) s.heap.objs.size f (.ref cda) cc)) (execs (.Expr (.Call (.Attribute (.Call (.Name "super" p0) [] [] p1) "__init__" p2) (e :: es) [] p3) p4 :: rest) (PySem.W.ksEnv q (defScope st) s.heap.objs.size f (.ref cda) cc))
      (SP (ncx CX P w K mg base N ⟨"__init__", q, defArgs st, defBody st, defScope st, [("__class__", cc)], cda⟩ f A outer s H E) [] { nx := fun _ H' => Q .non H', rt := Q })
      (ncx CX P w K mg base N ⟨"__init__", q, defArgs st, defBody st, defScope st, [("__class__", cc)], cda⟩ f A outer s H E).xe { s with heap := h₁, toks := s.toks + ((("self" : Str) :: ps').zip us).length } := by
    refine ks_wpAt_execs_cons (ks_wpAt_mono (sup_run (G := fun H1 => t { nx := fun _ H' => Q .non H', rt := Q } (startF N (.ref a :: ws) [none]) H1) I0 rfl S.kind F.hks (S.frk _ List.mem_cons_self) (S.par _ List.mem_cons_self) lk har1 har2 hcc hcda hvs hfile F.top F.mgs F.op hN0 rfl hD T SC ea hpa he hpl hev hta) (fun fl s' ⟨e1, H1, J, hG⟩ => ?_) fun _ _ z => z)
    subst e1
    exact wpAt_of_wpAny (hps.run [] s' _ H1 _ J hG)
  rw [← hst] at key
  refine ks_wpAt_mono key (fun fl s' hs => ?_) fun _ _ z => z
  have fin : ∀ {σ' : L2.St} {H' : Hp} {v : V} {u : Value}, Inv (ncx CX P w K mg base N ⟨"__init__", q, defArgs st, defBody st, defScope st, [("__class__", cc)], cda⟩ f A outer s H E) [] σ' H' s' → L2.RelV v u → Q v H' → CE outer P w H s Q u s' :=
    fun {σ' H' v u} J rv q => ⟨v, H', J.os, J.bare, J.base, J.hok, rv, q⟩
  cases fl with
  | ret u =>
    obtain ⟨v, σ', H', J, rv, q⟩ := hs
    exact fin J rv q
  | next =>
    obtain ⟨σ', H', J, q⟩ := hs
    exact fin (v := V.non) (u := Value.none) J rfl q
  | brk =>
    obtain ⟨_, _, _, q⟩ := hs
    exact False.elim q
  | cont =>
    obtain ⟨_, _, _, q⟩ := hs
    exact False.elim q
end
end Sh
set_option Elab.async false
set_option linter.all false
set_option maxRecDepth 100000
/-! own exceptions over ValueError: made, raised, told by defs that may raise -/
namespace Sh
open PySem PySem.Spec PyProof.Rows L2 NdefX
/-- an exception class of the text: its __init__ (own or an ancestor's, written in the class at D) at f -/
structure ExcAt (K : PySem.W.Frag) (mg : Str → Option Value) (x : Str) (C f D : Addr) : Prop where
  oex : OexC K C
  mgC : mg x = some (.ref C)
  iC : PySem.W.findIn K (.ref C) "__init__" = some (some (.ref f))
  tI : PySem.W.typeIn K (.ref f) = some (.type "function")
  sup : SupC K C D
  xf : XfC K C
/-- its __init__ stands in the text -/
structure XInit (P : Program) (K : PySem.W.Frag) (mg : Str → Option Value) (q : Str) (st : Stmt) (ps : List Str) (D f : Addr) : Prop where
  ex : ∃ fd, SupF P K mg q st ps D f fd ∧ Binds K fd ps []
/-- __init__(self, thing): super().__init__(..), then self.fld = thing -/
def spX1 (K : PySem.W.Frag) (D : Addr) (fld : Str) (ok : V → Prop) : Sp := fun vs H Q _ => ∃ (a C : Addr) (v : V), vs = [.ref a, v] ∧ OexC K C ∧ SupC K C D ∧ PySem.W.findIn K (.ref C) fld = some none ∧ H a = some (exo a C none) ∧ ok v ∧
  ∀ dx, H dx = none → dx ≠ a → Q .non (upd (upd H dx (exd dx [(fld, v)])) a (exo a C (some dx)))
theorem mk1 {K : PySem.W.Frag} {mg : Str → Option Value} {x fld : Str} {C f D : Addr} {ok : V → Prop} {v : V} {H1 : Hp} {Q : XK} {E : XK} (T : ExcAt K mg x C f D) (hno : PySem.W.findIn K (.ref C) fld = some none) (hv : ok v) (k : ∀ d, H1 d = none → Q (.ref C) (some d) (upd H1 d (.xd [(fld, v)]))) :
    [v].length ≤ 1000 ∧ ∀ a, H1 a = none → spX1 K D fld ok (.ref a :: ([v] ++ [])) (upd H1 a (exo a C none)) (fun u H2 => u = .non ∧ ∃ (d : Addr) (fs : List (Str × V)), H2 a = some (exo a C (some d)) ∧ H2 d = some (exd d fs) ∧ H1 d = none ∧ Q (.ref C) (some d) (upd (del H2 a) d (.xd fs))) E := by
  refine ⟨by simp, fun a ha => ⟨a, C, v, rfl, T.oex, T.sup, hno, upd_same, hv, fun dx h1 h2 => ⟨rfl, dx, [(fld, v)], upd_same, ?_, ?_, ?_⟩⟩⟩
  · rw [upd_ne h2, upd_same]
  · rw [upd_ne h2] at h1; exact h1
  · rw [upd_ne h2] at h1
    have e : upd (del (upd (upd (upd H1 a (exo a C none)) dx (exd dx [(fld, v)])) a (exo a C (some dx))) a) dx (.xd [(fld, v)]) = upd H1 dx (.xd [(fld, v)]) := by
      funext b
      by_cases hb : b = dx
      · rw [hb, upd_same, upd_same]
      · rw [upd_ne hb, upd_ne hb]
        by_cases hba : b = a
        · rw [hba, del_same, ha]
        · rw [del_ne hba, upd_ne hba, upd_ne hb, upd_ne hba]
    rw [e]
    exact k dx h1
/-- such an __init__ keeps its promise -/
structure XiOk (P : Program) (w : World) (K : PySem.W.Frag) (mg : Str → Option Value) (base : Heap) (k : Nat) (f : Addr) (sp : Sp) : Prop where
  ex : ∃ (fd : FuncData) (ps : List Str), FnOk P w K mg base CX0 k f fd ps sp ∧ Binds K fd ps []
/-! ### a def that may raise -/
section
variable {P : Program} {w : World} {K : PySem.W.Frag} {mg : Str → Option Value} {base : Heap}
theorem Cal.mkX {x : Str} {st : Stmt} {N ps : List Str} {k : Nat} {sp : Sp} (D : DefAt K mg x st ps) (S : FnScope N ps (defScope st)) (len : ∀ vs H Q E, sp vs H Q E → vs.length = ps.length)
    (hbody : ∀ (f : Addr) (cdv : Value) (A : Around) (outer : List Env) (s : Shared) (H : Hp) (vs : List V) (Q : VK) (E : XK), Room k (A.deeper (envOfC x (defScope st) s.heap.objs.size f cdv)) → sp vs H Q E →
      ∃ t, PSs (cxOf (L2.CX P w) P w K mg base N x (defScope st) f cdv A outer s H E) (defBody st) t ∧ t { nx := fun _ H' => Q .non H', rt := Q } (start N vs) H) : Cal P w K mg base (L2.CX P w) (k + 1) x sp := by
  obtain ⟨f, fd, F, m, b⟩ := D.ex
  exact ⟨f, fd, ps, F.okX S len (fun cdv A outer s H vs Q E hr h => hbody f cdv A outer s H vs Q E hr h), m, F.kp, b⟩
end
section
variable {X : Cx} {k j : Nat} {x : Str} {sp : Sp} {p pos : Pos} {e : Expr} {es : List Expr} {t : TA} {W : WX}
/-- f(e, ..), f a def that may raise; what it raises is wished by W -/
theorem pe_cX (c : Cal X.prog X.w X.K X.mg X.base (L2.CX X.prog X.w) k x sp) (hr : Room j X.A) (hk : k ≤ j) (tk : Takes X W) (hg : Gl X x) (ha : PA X (e :: es) t)
    (hdb : (x == ("__debug__" : Str)) = false := by decide) (he : starEach (e :: es) X.env = (false, eval e X.env) :: starEach es X.env := by rfl) (hpl : (backTo pos (starEach es X.env)).any (·.1) = false := by rfl) :
    PE X (.Call (.Name x p) (e :: es) [] pos) (tCallS sp (WE W) t) := by
  obtain ⟨f, fd, ps, F, hm, kp, b⟩ := c.ex
  exact pe_callS F (hr.mono hk) hg hm kp b (fun σ => passAt tk σ) ha hdb he hpl
/-- the same where it does not raise -/
theorem pe_cXn (c : Cal X.prog X.w X.K X.mg X.base (L2.CX X.prog X.w) k x sp) (hr : Room j X.A) (hk : k ≤ j) (hg : Gl X x) (ha : PA X (e :: es) t)
    (hdb : (x == ("__debug__" : Str)) = false := by decide) (he : starEach (e :: es) X.env = (false, eval e X.env) :: starEach es X.env := by rfl) (hpl : (backTo pos (starEach es X.env)).any (·.1) = false := by rfl) :
    PE X (.Call (.Name x p) (e :: es) [] pos) (tCall sp [] E0 t) := by
  obtain ⟨f, fd, ps, F, hm, kp, b⟩ := c.ex
  exact pe_call F (hr.mono hk) hg hm kp b .nil passL ha hdb he hpl
/-- raise C(e) -/
theorem ps_raiseX {C D f : Addr} {pos2 : Pos} (T : ExcAt X.K X.mg x C f D) (F : XiOk X.prog X.w X.K X.mg X.base k f sp) (hr : Room j X.A) (hk : k + 1 ≤ j) (hc : X.calm = true) (tk : Takes X W) (hg : Gl X x) (ha : PA X (e :: es) t)
    (hdb : (x == ("__debug__" : Str)) = false := by decide) (he : starEach (e :: es) X.env = (false, eval e X.env) :: starEach es X.env := by rfl) (hpl : (backTo pos (starEach es X.env)).any (·.1) = false := by rfl) :
    PS X (.Raise (some (.Call (.Name x p) (e :: es) [] pos)) none pos2) (fun _ σ H => tMkO C sp [] t σ H fun cls d H' => W cls d σ H') := by
  obtain ⟨fd, ps, F, b⟩ := F.ex
  exact ps_raise hc tk (pmk_oex (ds := []) (dvs := []) T.oex T.iC T.tI F (hr.mono hk) b .nil (fun _ _ _ _ _ _ _ z => z.elim) hg T.mgC ha hdb he hpl)
/-- repr of a text -/
theorem call_repr_str : CallR X (.builtin "repr") (fun xs H Q => ∃ z, xs = [.str z] ∧ (reprText z).length ≤ sizeLine ∧ Q (.str (reprText z)) H) := by
  intro pins s σ H xs us Q I r h
  obtain ⟨z, rfl, hz, q⟩ := h
  obtain ⟨u, rfl, t, rfl⟩ := vals1 r
  exact PySem.P.repr_of_str ⟨.str _, H, I.tok _, ⟨_, rfl⟩, q⟩ hz
end
end Sh
set_option Elab.async false
set_option linter.all false
set_option maxRecDepth 100000
set_option maxHeartbeats 2000000
/-! try with several clauses «except C as n» -/
namespace Sh
open PySem PySem.Spec PyProof.Rows L2
abbrev ClA := Value × Nat × (Addr → Value → Option Addr → TS)
def outA (D : Ends) (i : Nat) : Ends := { nx := fun σ' H' => D.nx (σ'.set i none) H', rt := D.rt, bk := fun σ' H' => D.bk (σ'.set i none) H', ct := fun σ' H' => D.ct (σ'.set i none) H' }
/-- what the clauses wish of an exception of the body -/
def wAsN (K : PySem.W.Frag) (Wo : WX) (D : Ends) : List ClA → WX
  | [] => Wo
  | p :: r => fun cls d σ H => ∃ b, PySem.W.exmOne K cls p.1 = some b ∧ (b = true → ∀ a, H a = none → p.2.2 a cls d (outA D p.2.1) (σ.set p.2.1 (some (.ref a))) H) ∧ (b = false → wAsN K Wo D r cls d σ H)
inductive HdsA (X : Cx) : List ExceptHandler → List ClA → Prop
  | nil : HdsA X [] []
  | cons {x n : Str} {c : Value} {i : Nat} {ts : Addr → Value → Option Addr → TS} {b0 : Stmt} {su : List Stmt} {np pos' : Pos} {hds : List ExceptHandler} {l : List ClA} (hi : X.N[i]? = some n) (hl : X.env.kindOf n = some .local) (hc : Names X x c)
      (hsu : ∀ (a : Addr) (oe : Obj) (cls : Value) (d : Option Addr) (pn : List (Addr × Obj)), Zc cls d oe → (∃ vs, oe.data = .fields vs) → PSs (X.suite a ((a, oe) :: pn)) (b0 :: su) (ts a cls d)) (r : HdsA X hds l) :
      HdsA X (.ExceptHandler (some (.Name x np)) (some n) (b0 :: su) pos' :: hds) ((c, i, ts) :: l)
section
variable {X : Cx} {body : List Stmt} {h0 : ExceptHandler} {hds : List ExceptHandler} {l : List ClA} {pos : Pos} {tb : WX → TS} {Wo : WX}
theorem ps_try_asN (hs : X.stack = X.env :: X.outer) (hf : X.env.frame = some X.env.locals) (hN : X.N.Nodup) (tk : Takes X Wo)
    (hb : ∀ (W : WX) (pn : List (Addr × Obj)) (xe : Value → Shared → Prop), Takes (X.tr pn xe) W → PassesOwn (model X.prog X.w) X.A X.env xe → PSs (X.tr pn xe) body (tb W))
    (hh : HdsA X (h0 :: hds) l) : PS X (.Try body (h0 :: hds) [] [] pos) (fun D σ H => tb (wAsN X.K Wo D l) D σ H) := by
  refine ⟨fun pins s σ H D I hgo => ?_⟩
  have okX := I.ok
  have frX : X.A.frames = some (X.env :: X.outer) := okX.frames.trans (congrArg some hs)
  refine wpAny_Try_except (wpAny_mono ((hb (wAsN X.K Wo D l) (X.pn ++ pins) (fun e s₁ => wpAny (model X.prog X.w) X.A (noteFrame e X.env) (fun _ s₂ => wpAny (model X.prog X.w) X.A (setFlight e none) (fun _ s₃ =>
    wpAny (model X.prog X.w) X.A (handleBy e X.env (h0 :: hds)) (SP X pins D) X.xe s₃) X.xe s₂) X.xe s₁) (fun u s' air => ?_) PassesOwn.looking).run [] s σ H D (I.toTry _) hgo) (fun fl s1 done => ?_) fun _ _ he => he)
  · obtain ⟨a, B, sI, pn0, σ1, H1, cls, d, rfl, J0, nb, up, sky, na, os, ag, wish⟩ := air
    have J : Inv X pins σ1 H1 sI := J0.ofTry okX
    show wpAny (model X.prog X.w) X.A (noteFrame (.ref a) X.env) _ _ _
    refine Sky.land Zc.steady frX hf (hs ▸ sky) fun g3 fl3 up3 => ?_
    have J3 : Inv X pins σ1 H1 { s' with heap := g3 } := J.landed nb fl3.1 (up.trans up3) os ag
    obtain ⟨oe3, vs3, at3, z3, d3⟩ := fl3.there
    have offF : a ∉ frs (X.env :: X.outer) := fun hm => by
      obtain ⟨_, o', e', isF⟩ := fl3.2.2.1.mem hm
      cases at3.symm.trans e'
      exact isF _ d3
    have offL : a ≠ X.env.locals := fun z => offF (List.mem_filterMap.mpr ⟨X.env, List.mem_cons_self, hf.trans (congrArg some z.symm)⟩)
    have offO : a ∉ X.fs := fun hm => let ⟨e, he, q⟩ := List.mem_filterMap.mp hm; offF (List.mem_filterMap.mpr ⟨e, List.mem_cons_of_mem _ he, q⟩)
    have S3 := J3.suite at3 d3 na offL offO
    have steps : ∀ {hs' : List ExceptHandler} {l' : List ClA}, HdsA X hs' l' → wAsN X.K Wo D l' cls d σ1 H1 → wpAny (model X.prog X.w) X.A (handleBy (.ref a) X.env hs') (SP X pins D) X.xe { s' with heap := g3 } := by
      intro hs' l' hk
      induction hk with
      | nil =>
        intro wo
        refine wpAny_handleBy_nil ?_
        obtain ⟨_, _, _, oe, vs, Tb, oT, ts', he, _, hd, h1, _⟩ := id fl3
        unfold PySem.passOn
        refine wpAny_bind (wpAny_field he hd h1 ?_)
        rw [if_neg (show ¬ ((Value.ref Tb == Value.none) = true) from by simp)]
        have away : wpAny (model X.prog X.w) X.A (setFlight (.ref a) X.env.frame) (fun _ s4 => wpAny (model X.prog X.w) X.A (throw (.ref a) : Sem Flow) (SP X pins D) X.xe s4) X.xe { s' with heap := g3 } := by
          rw [hf]
          exact HandSPX.setFlight_upZ fl3 fun h4 hh4 up4 => wpAny_throw (tk _ _ ⟨a, B, sI, pins, σ1, H1, cls, d, rfl, J, nb, (up.trans up3).trans up4, .inr (.inr (hs ▸ hh4)), na, os, ag, wo⟩)
        first
          | exact wpAny_bind (wpAny_pure (wpAny_bind away))
          | exact wpAny_bind away
      | @cons x n c i ts b0 su np pos' hd2 l2 hi hl hc hsu r ih =>
        intro wo
        obtain ⟨b, hb1, hy, hn⟩ := wo
        refine wpAny_handleBy_cons (codeAny_handlers_test ?_) (fun q => by cases q)
        have LTy : PySem.W.Looks (model X.prog X.w) g3 (typeOf (.ref a)) cls := fun _ _ _ s k q => wpAny_typeOf_ref (k _ _ at3) (by rw [z3.1]; exact q)
        have LMa := PySem.W.exm_one (M := model X.prog X.w) J3.kIn LTy hb1
        have named : ∀ {Q : Value → Shared → Prop} {E : Value → Shared → Prop}, Q c { s' with heap := g3 } → wpAny (model X.prog X.w) (X.A.mark (some (.ref a))) (eval (.Name x np) X.env) Q E { s' with heap := g3 } := fun {Q E} q => by
          obtain ⟨hg, hdb, hm | ⟨hm, hv, hnn⟩⟩ := hc
          · exact ld_glob (X := X.suite a ((a, oe3) :: (X.pn ++ pins))) S3 hg hm q hdb
          · exact ld_blt (X := X.suite a ((a, oe3) :: (X.pn ++ pins))) S3 hg hm hv q hnn hdb
        refine named (LMa.here ?_)
        cases b with
        | false => exact ih (hn rfl)
        | true =>
          refine codeAny_handlers_suite_as (HandSPX.lands_againZ fl3 fun g4 fl4 up4 => ?_)
          have J4 : Inv X pins σ1 H1 { s' with heap := g4 } := J.landed nb fl4.1 ((up.trans up3).trans up4) os ag
          obtain ⟨oe4, vs4, at4, z4, d4⟩ := fl4.there
          have S4 := J4.suite at4 d4 na offL offO
          refine store_ok (X := X.suite a ((a, oe4) :: (X.pn ++ pins))) (v := .ref a) S4 hN hi (.inl hl) rfl (fun s5 S5 => ?_) (.inr hl)
          refine wpAny_mono ((hsu a oe4 cls d (X.pn ++ pins) z4 ⟨_, d4⟩).run [] s5 _ H1 _ S5 (hy rfl a na)) (fun fl s6 end6 => ?_) (fun _ _ z => z.elim)
          have shut : ∀ {σ6 : L2.St} {H6 : Hp} {Q : Shared → Prop}, Inv (X.suite a ((a, oe4) :: (X.pn ++ pins))) [] σ6 H6 s6 → (∀ s7, Inv X pins (σ6.set i none) H6 s7 → Q s7) →
              wpAny (model X.prog X.w) X.A (do bindName X.env n .none; unbindBehindTheSuite X.env n pos') (fun _ s7 => Q s7) X.xe s6 := fun {σ6 H6 Q} S6 hq => gone_ok (S6.unsuite okX) hN hi hl hq
          cases fl with
          | next => exact let ⟨_, _, S6, q6⟩ := end6; shut S6 fun s7 J7 => ⟨_, _, J7, q6⟩
          | brk => exact let ⟨_, _, S6, q6⟩ := end6; shut S6 fun s7 J7 => ⟨_, _, J7, q6⟩
          | cont => exact let ⟨_, _, S6, q6⟩ := end6; shut S6 fun s7 J7 => ⟨_, _, J7, q6⟩
          | ret u => exact let ⟨_, _, _, S6, r6, q6⟩ := end6; shut S6 fun s7 J7 => ⟨_, _, _, J7, r6, q6⟩
    exact steps hh wish
  · cases fl with
    | next => exact let ⟨σ', H', J', q⟩ := done; wpAny_execs_nil ⟨σ', H', J'.ofTry okX, q⟩
    | brk => exact let ⟨σ', H', J', q⟩ := done; ⟨σ', H', J'.ofTry okX, q⟩
    | cont => exact let ⟨σ', H', J', q⟩ := done; ⟨σ', H', J'.ofTry okX, q⟩
    | ret u => exact let ⟨v, σ', H', J', r, q⟩ := done; ⟨v, σ', H', J'.ofTry okX, r, q⟩
end
end Sh
set_option Elab.async false
set_option linter.all false
set_option maxRecDepth 100000
/-! what leaves a def that raises; a try within a loop -/
namespace Sh
open PySem PySem.Spec PyProof.Rows L2
/-- an exception with one field is let out -/
def Thrown (E : XK) (H : Hp) (X : Addr) (fld : Str) (v : V) : Prop := ∀ d, H d = none → E (.ref X) (some d) (upd H d (.xd [(fld, v)]))
theorem lk1 {f : Str} {v : V} : List.lookup f [(f, v)] = some v := by simp [List.lookup]
/-- the reading of a try, as a word of its own (within a loop) -/
def tTry (tb : WX → TS) (K : PySem.W.Frag) (Wo : WX) (l : List ClA) : TS := fun D σ H => tb (wAsN K Wo D l) D σ H
theorem ps_tryT {X : Cx} {body : List Stmt} {h0 : ExceptHandler} {hds : List ExceptHandler} {l : List ClA} {pos : Pos} {tb : WX → TS} {Wo : WX} (hs : X.stack = X.env :: X.outer) (hf : X.env.frame = some X.env.locals) (hN : X.N.Nodup) (tk : Takes X Wo)
    (hb : ∀ (W : WX) (pn : List (Addr × Obj)) (xe : Value → Shared → Prop), Takes (X.tr pn xe) W → PassesOwn (model X.prog X.w) X.A X.env xe → PSs (X.tr pn xe) body (tb W))
    (hh : HdsA X (h0 :: hds) l) : PS X (.Try body (h0 :: hds) [] [] pos) (tTry tb X.K Wo l) := ps_try_asN hs hf hN tk hb hh
/-- fields of an exception with two: self.f = a, self.g = b -/
def spX2 (K : PySem.W.Frag) (D : Addr) (f g : Str) (ok : V → V → Prop) : Sp := fun vs H Q _ => ∃ (a C : Addr) (u v : V), vs = [.ref a, u, v] ∧ OexC K C ∧ SupC K C D ∧ PySem.W.findIn K (.ref C) f = some none ∧ PySem.W.findIn K (.ref C) g = some none ∧ H a = some (exo a C none) ∧ ok u v ∧
  ∀ (dx : Addr) (H' : Hp), H dx = none → dx ≠ a → H' a = some (exo a C (some dx)) → H' dx = some (exd dx [(g, v), (f, u)]) → (∀ b, b ≠ a → b ≠ dx → H' b = H b) → Q .non H'
theorem mk2 {K : PySem.W.Frag} {mg : Str → Option Value} {x f g : Str} {C fI D : Addr} {ok : V → V → Prop} {u v : V} {H1 : Hp} {Q : XK} {E : XK} (T : ExcAt K mg x C fI D) (hf : PySem.W.findIn K (.ref C) f = some none) (hg : PySem.W.findIn K (.ref C) g = some none) (hv : ok u v)
    (k : ∀ d, H1 d = none → Q (.ref C) (some d) (upd H1 d (.xd [(g, v), (f, u)]))) :
    [u, v].length ≤ 1000 ∧ ∀ a, H1 a = none → spX2 K D f g ok (.ref a :: ([u, v] ++ [])) (upd H1 a (exo a C none)) (fun z H2 => z = .non ∧ ∃ (d : Addr) (fs : List (Str × V)), H2 a = some (exo a C (some d)) ∧ H2 d = some (exd d fs) ∧ H1 d = none ∧ Q (.ref C) (some d) (upd (del H2 a) d (.xd fs))) E := by
  refine ⟨by simp, fun a ha => ⟨a, C, u, v, rfl, T.oex, T.sup, hf, hg, upd_same, hv, fun dx H' h1 h2 e1 e2 e3 => ?_⟩⟩
  rw [upd_ne h2] at h1
  refine ⟨rfl, dx, _, e1, e2, h1, ?_⟩
  have e : upd (del H' a) dx (.xd [(g, v), (f, u)]) = upd H1 dx (.xd [(g, v), (f, u)]) := by
    funext b
    by_cases hb : b = dx
    · rw [hb, upd_same, upd_same]
    · rw [upd_ne hb, upd_ne hb]
      by_cases hba : b = a
      · rw [hba, del_same, ha]
      · rw [del_ne hba, e3 b hba hb, upd_ne hba]
  rw [e]
  exact k dx h1
end Sh
set_option Elab.async false
set_option linter.all false
set_option maxRecDepth 100000
/-! isinstance of a caught error of an own class that has fields -/
namespace Sh
open PySem PySem.Spec PyProof.Rows L2
/-- isinstance(e, c): e the caught exception at a, of the class D, its fields at d -/
def rIsX (K : PySem.W.Frag) (D a : Addr) (cls : Value) (d : Option Addr) : List V → Hp → VK → Prop := fun xs H Q => cls = .ref D ∧ ∃ (c : V) (cv : Value) (b : Bool) (dd : Addr) (fs : List (Str × V)), xs = [.ref a, c] ∧ d = some dd ∧ H dd = some (.xd fs) ∧ (∀ u, RelV c u → u = cv) ∧ PySem.W.kitOne K (.ref D) cv = some b ∧ Q (.bl b) H
theorem inst_cls {K : PySem.W.Frag} {D : Addr} (h : PySem.W.hasDictIn K D = true) : (PySem.W.clsIn K D).isSome = true := by
  obtain ⟨cd, hc, _⟩ := PySem.W.any_some h
  rw [hc]; rfl
theorem call_isX {X : Cx} {a D : Addr} {cls : Value} {d : Option Addr} {oe : Obj} {pn : List (Addr × Obj)} (C : ExcC X.K D) (hz : Zc cls d oe) (hf : ∃ vs, oe.data = .fields vs) : CallR (X.suite a ((a, oe) :: pn)) (.builtin "isinstance") (rIsX X.K D a cls d) := by
  intro pins s σ H xs us Q I r h
  obtain ⟨ec, c, cv, b, dd, fs, rfl, ed, hd, hcv, e, q⟩ := h
  subst ec ed
  obtain ⟨t, rfl, rt⟩ : ∃ t, us = [Value.ref a, t] ∧ RelV c t := by
    cases r with
    | cons rx rr =>
      cases rr with
      | cons rt rr => cases rr; cases rx; exact ⟨_, rfl, rt⟩
  obtain rfl := hcv t rt
  obtain ⟨ha, _⟩ := I.pin (a, oe) (List.mem_append_left _ List.mem_cons_self)
  obtain ⟨vs, hv⟩ := hf
  obtain ⟨mA, hns, _⟩ := (show ObjOk X.prog X.w H s.heap dd (.xd fs) from I.hok dd _ hd)
  obtain ⟨od, ho, _⟩ := lookIn_ns hns
  have J : PySem.W.InstAt s.heap a oe D (some od) := ⟨ha, hz.1, by unfold PySem.W.notCls; rw [hv] <;> rfl, by rw [hz.2]; exact ho⟩
  exact PySem.W.kia_one (PySem.W.kitx_exc (inst_cls C.hd) C.hg C.hk C.hs C.ha C.hn C.ht C.hm) I.kIn J e (fun z => nomatch z) fun tk => ⟨.bl b, H, I.kept (t' := tk) fun _ _ z => z, rfl, q⟩
/-- repr in an except suite -/
theorem call_reprDs {X : Cx} {a : Addr} {pn : List (Addr × Obj)} (hg : X.A.guards = some []) (hu : X.A.units + 64 < cLine) :
    CallR (X.suite a pn) (.builtin "repr") (fun xs H Q => ∃ v d, xs = [v] ∧ Dp X.K H v d ∧ d.showable = true ∧ d.hasDict = false ∧ d.depth ≤ 60 ∧ d.shown.length ≤ sizeLine ∧ Q (.str d.shown) H) :=
  call_reprD (X := X.suite a pn) hg hu
/-- a class asked of its own heir -/
theorem kit_true {K : PySem.W.Frag} {D C : Addr} (hd : PySem.W.hasDictIn K C = true) (ty : PySem.W.typeIn K (.ref C) = some (.type "type")) (h : PySem.W.subIn K (.ref D) (.ref C) = some true) : PySem.W.kitOne K (.ref D) (.ref C) = some true := by
  unfold PySem.W.kitOne
  split
  · rfl
  · unfold PySem.W.kitCls
    dsimp only
    rw [if_pos (by rw [inst_cls hd, ty]; rfl)]
    exact h
/-- a class asked of one that it does not come from -/
theorem kit_false {K : PySem.W.Frag} {D C : Addr} (hd : PySem.W.hasDictIn K C = true) (ty : PySem.W.typeIn K (.ref C) = some (.type "type")) (hs : PySem.W.subIn K (.ref C) (.ref C) = some true) (h : PySem.W.subIn K (.ref D) (.ref C) = some false) : PySem.W.kitOne K (.ref D) (.ref C) = some false := by
  unfold PySem.W.kitOne
  split
  · rename_i z
    have e := beq_iff_eq.mp z
    cases e
    rw [hs] at h
    cases h
  · unfold PySem.W.kitCls
    dsimp only
    rw [if_pos (by rw [inst_cls hd, ty]; rfl)]
    exact h
/-- what str tells of a small number, a text, or nothing -/
inductive StrV : V → Str → Prop
  | int {i : Int} (h : i.natAbs.log2 < 1920) : StrV (.int i) (toString i)
  | str (z : Str) : StrV (.str z) z
  | non : StrV .non "None"
theorem call_str_any {X : Cx} : CallR X (.type "str") (fun xs H Q => ∃ v z, xs = [v] ∧ StrV v z ∧ Q (.str z) H) := by
  intro pins s σ H xs us Q I r h
  obtain ⟨v, z, rfl, hv, q⟩ := h
  cases hv with
  | int hi => exact call_str_int pins s σ H _ us Q I r ⟨_, rfl, hi, q⟩
  | str z => exact SkE.call_str_str pins s σ H _ us Q I r ⟨_, rfl, q⟩
  | non =>
    obtain ⟨u, rfl, ru⟩ := vals1 r
    obtain rfl : u = Value.none := ru
    exact PySem.P.str_of_none ⟨.str "None", H, I.tok _, ⟨_, rfl⟩, q⟩
end Sh
set_option Elab.async false
set_option linter.all false
set_option maxRecDepth 100000
namespace Sh
open PySem PySem.Spec PyProof.Rows L2
theorem nsc_WrongThing : NdefX.NScope ["self", "thing", "__class__"] ["self", "thing"] ["__class__"] (defScope s_WrongThing___init__) := NdefX.nscope_by (by decide +kernel)
theorem nsc_TooMany : NdefX.NScope ["self", "word", "__class__"] ["self", "word"] ["__class__"] (defScope s_TooMany___init__) := NdefX.nscope_by (by decide +kernel)
structure TxtX (P : Program) (K : PySem.W.Frag) (mg : Str → Option Value) (CB XT FT DT XM FM : Addr) : Prop extends TxtC K mg CB where
  e_BadText : ExcAt K mg "BadText" XT FT DT
  q_WrongThing : XInit P K mg "WrongThing.__init__" s_WrongThing___init__ ["self", "thing"] DT FT
  nf_BadText_thing : PySem.W.findIn K (.ref XT) "thing" = some none
  e_TooMany : ExcAt K mg "TooMany" XM FM XM
  q_TooMany : XInit P K mg "TooMany.__init__" s_TooMany___init__ ["self", "word"] XM FM
  nf_TooMany_word : PySem.W.findIn K (.ref XM) "word" = some none
  mm_BadText_BadText : PySem.W.exmOne K (.ref XT) (.ref XT) = some true
  mm_TooMany_TooMany : PySem.W.exmOne K (.ref XM) (.ref XM) = some true
end Sh
set_option Elab.async false
set_option linter.all false
set_option maxRecDepth 100000
set_option maxHeartbeats 4000000
namespace Sh
open PySem PySem.Spec PyProof.Rows L2
open SX (S S_inj S_len S_cat)
open Bk (Rule firstAt lg bestUp used left drain pushS Wf)
local macro_rules | `(tactic| walk_at "nx") => `(tactic| repeat (with_reducible first | refine Sh.gn_mk ?_ | refine Sh.nx_mk ?_ | refine Sh.st_nx ?_ | refine Sh.rt_mk ?_ | refine Sh.ct_mk ?_ | refine Sh.bk_mk ?_))
local macro_rules | `(tactic| walk_at "sq") => `(tactic| first | exact SqL.of upd_same | exact SqT.of upd_same | exact SqL.of (by assumption) | exact SqT.of (by assumption) | assumption | exact Or.inl (SqL.of (by assumption)) | exact Or.inr (SqT.of (by assumption)) | exact Or.inl (by assumption) | exact Or.inr (by assumption))
local macro_rules | `(tactic| walk_at "hp") => `(tactic| first | exact upd_same | assumption)
local macro_rules | `(tactic| walk_at "sz") => `(tactic| first | exact Nat.le_of_ble_eq_true rfl | omega)
local macro_rules | `(tactic| walk_at "sd") => `(tactic| first | omega | exact rfl | assumption | (show (0 : Int) < _; omega) | exact And.intro (by omega) (by omega) | exact Or.inl (And.intro (by omega) (by omega)) | exact Or.inr (And.intro (by omega) (by omega)) | omega | exact Sh.sz_S (by omega) | decide)
local macro_rules | `(tactic| walk_at "rd1") => `(tactic| first
  | (with_reducible first | refine Sh.gn_mk ?_ | refine Sh.nx_mk ?_ | refine Sh.st_nx ?_ | refine Sh.rt_mk ?_ | refine Sh.ct_mk ?_ | refine Sh.bk_mk ?_)
  | refine Exists.intro (α := V) _ (And.intro rfl ?_)
  | refine Exists.intro (α := Bool) _ (And.intro rfl ?_)
  | refine Exists.intro (α := Int) _ (And.intro rfl ?_)
  | refine Exists.intro (α := PySem.Str) _ (And.intro rfl ?_)
  | refine Exists.intro (α := Int) _ (Exists.intro (α := Int) _ (And.intro rfl (And.intro rfl ?_)))
  | refine Exists.intro (α := PySem.Str) _ (Exists.intro (α := PySem.Str) _ (And.intro rfl (And.intro rfl ?_)))
  | refine Exists.intro (α := Int) _ (Exists.intro (α := Int) _ (And.intro rfl ?_))
  | refine Or.inl (Exists.intro (α := Int) _ (And.intro rfl ?_))
  | refine Exists.intro _ (Exists.intro _ (Exists.intro _ (Exists.intro _ (And.intro rfl (And.intro rfl (And.intro (by walk_at "sq") (And.intro rfl ?_)))))))
  | refine Exists.intro _ (Exists.intro _ (Exists.intro _ (Exists.intro _ (And.intro rfl (And.intro rfl (And.intro (by walk_at "hp") (And.intro rfl ?_)))))))
  | refine And.intro (by walk_at "sd") ?_
  )
local macro_rules | `(tactic| walk_at "rd") => `(tactic| repeat walk_at "rd1")
local macro_rules | `(tactic| walk_at "lk") => `(tactic| first | exact rfl | (rw [lookup_putF, if_pos rfl]) | (rw [lookup_putF, if_neg (by decide +kernel)]; walk_at "lk"))

section
variable {P : Program} {w : World} {K : PySem.W.Frag} {mg : Str → Option Value} {base : Heap} {CB XT FT DT XM FM : Addr}
def okAny : V → Prop := fun _ => True
theorem x_WrongThing (T : TxtX P K mg CB XT FT DT XM FM) : XiOk P w K mg base 1 FT (spX1 K DT "thing" okAny) := by
  obtain ⟨fd, SF, b⟩ := T.q_WrongThing.ex
  refine ⟨fd, _, fn_sup SF nsc_WrongThing rfl rfl (fun vs H Q E h => ?_) (fun cc cda A outer s H vs Q E hr h => ?_), b⟩
  · obtain ⟨a, C, v, rfl, _⟩ := h
    rfl
  · obtain ⟨a, C, v, rfl, o, sc, hno, ea, _, k⟩ := h
    refine ⟨_, _, _, (pa_cons pe_str pa_nil), (pss_cons (ps_ost (pv 0) (pv 1)) pss_nil), rfl, fun _ => rfl, rfl, ?_⟩
    refine ⟨a, C, _, rfl, o, sc, ea, ?_⟩
    refine ⟨by simp, ea, _, rfl, _, rfl, a, C, rfl, o, hno, .inl ⟨ea, fun dx n1 n2 => ?_⟩⟩
    exact k dx n1 n2
def okWord : V → Prop := fun v => v = .str "text"
theorem x_TooMany (T : TxtX P K mg CB XT FT DT XM FM) : XiOk P w K mg base 1 FM (spX1 K XM "word" okWord) := by
  obtain ⟨fd, SF, b⟩ := T.q_TooMany.ex
  refine ⟨fd, _, fn_sup SF nsc_TooMany rfl rfl (fun vs H Q E h => ?_) (fun cc cda A outer s H vs Q E hr h => ?_), b⟩
  · obtain ⟨a, C, v, rfl, _⟩ := h
    rfl
  · obtain ⟨a, C, v, rfl, o, sc, hno, ea, rfl, k⟩ := h
    refine ⟨_, _, _, (pa_cons (pe_op op_add_str pe_str (pv 1)) pa_nil), (pss_cons (ps_ost (pv 0) (pv 1)) pss_nil), rfl, fun _ => rfl, rfl, ?_⟩
    refine ⟨a, C, _, rfl, o, sc, ea, ?_⟩
    refine ⟨_, rfl, _, _, rfl, rfl, by decide, ?_⟩
    refine ⟨by simp, ea, _, rfl, _, rfl, a, C, rfl, o, hno, .inl ⟨ea, fun dx n1 n2 => ?_⟩⟩
    exact k dx n1 n2
/-- a text that may be passed, or a thing that is refused -/
def spTextZ (K : PySem.W.Frag) (XT : Addr) : Sp := fun vs H Q E => ∃ (sg : List Nat) (v : V), vs = [.str (S sg), v] ∧ ((∃ t, v = .str (S t) ∧ t.length ≤ 1000000 ∧ (isText sg t 0 200 = true → Q .non H) ∧ (isText sg t 0 200 = false → Thrown E H XT "thing" v)) ∨ (NotStr K H v ∧ Thrown E H XT "thing" v))
theorem c_X_check_text (T : TxtX P K mg CB XT FT DT XM FM) : Cal P w K mg base (L2.CX P w) 3 "check_text" (spTextZ K XT) := by
  have x_WrongThing := x_WrongThing (P := P) (w := w) (base := base) T
  have c_is_text := c_is_text (P := P) (w := w) (base := base) T.toTxtC.toTxt
  refine Cal.mkX T.toTxtC.toTxt.d_check_text sc_check_text (fun vs H Q E h => ?_) (fun f cdv A outer s H vs Q E hr h => ?_)
  · obtain ⟨sg, v, rfl, _⟩ := h
    rfl
  · obtain ⟨sg, v, rfl, hb⟩ := h
    refine ⟨_, (pss_one (ps_if (pt_not (pt_truth (pe_c c_is_text hr (by decide) rfl (pa_cons (pv 0) (pa_cons (pv 1) (pa_cons pe_int (pa_cons (pe_gK rfl T.g_LONGEST_TEXT) pa_nil))))) (by intro _; rfl)))
    (pss_one (ps_raiseX T.e_BadText x_WrongThing hr (by decide) rfl (takes_of rfl rfl rfl rfl) rfl (pa_cons (pv 1) pa_nil)))
    pss_nil)), ?_⟩
    rcases hb with ⟨t, rfl, hl, k1, k2⟩ | ⟨hn, th⟩
    · walk_at "rd"
      refine .inl ⟨sg, t, 0, 200, rfl, by omega, ?_⟩
      cases e : isText sg t 0 200 with
      | true =>
        walk_at "rd"
        refine iteF ?_
        walk_at "rd"
        exact k1 e
      | false =>
        walk_at "rd"
        exact mk1 T.e_BadText T.nf_BadText_thing trivial (k2 e)
    · walk_at "rd"
      refine .inr ⟨_, _, _, _, rfl, hn, ?_⟩
      walk_at "rd"
      first | exact mk1 T.e_BadText T.nf_BadText_thing trivial th | exact (mk1 T.e_BadText T.nf_BadText_thing trivial th).2
def spMade (K : PySem.W.Frag) (C : Addr) : Sp := fun vs H Q _ => ∃ (b : Addr) (sg : List Nat) (R : List Rule) (t : List Nat) (p n : Nat) (r : Rule), vs = [.ref b, .str (S t), .int p, .int n] ∧ BookAt K C H b sg R ∧ R[n]? = some r ∧ t.length ≤ 1000 ∧ r.1.length ≤ 4 ∧ r.2.length ≤ 4 ∧ Q (.str (S (madeS r t p))) H
theorem c_made_step (T : TxtC K mg CB) : Cal P w K mg base CX0 1 "made_step" (spMade K CB) := by
  refine Cal.mk0 T.d_made_step sc_made_step (fun vs H Q E h => ?_) (fun f cdv A outer s H vs Q E hr h => ?_)
  · obtain ⟨b, sg, R, t, p, n, r, rfl, _⟩ := h
    rfl
  · obtain ⟨b, sg, R, t, p, n, r, rfl, ⟨dx, fs, a, xs, pl, hp, g1, g2, hR, g3, L, g4, g5⟩, hn, hl, h1, h2, k⟩ := h
    obtain ⟨q, hx, sq⟩ := hR.get hn
    have cl := T.k_Book.cl
    refine ⟨_, (pss_cons (ps_asg (pe_ix ix_tup (pe_fld (pv 0) rfl) (pv 3) (fun _ _ => rfl)) (pg_tup (by rfl) (pgs_cons (pg_name (i := 4) sc_made_step.nd rfl (Or.inl rfl)) (pgs_cons (pg_name (i := 5) sc_made_step.nd rfl (Or.inl rfl)) pgs_nil))))
  (pss_one (ps_ret (pe_op op_add_str (pe_op op_add_str (pe_slice sl_str (pv 1) po_none (po_some (pv 2))) (pv 5)) (pe_slice sl_str (pv 1) (po_some (pe_op op_add (pv 2) (pe_callB call_len_str (by rfl) T.b_len (by decide +kernel) (pa_cons (pv 4) pa_nil)))) po_none))))), ?_⟩
    walk_at "rd"
    refine ⟨b, CB, dx, fs, _, rfl, hp, cl, T.n_Book_rules, g2, _, rfl, ?_⟩
    refine ⟨a, xs, _, .ref q, rfl, rfl, hR.sq, atI_nat hx, ?_⟩
    refine ⟨q, _, rfl, sq, rfl, _, _, rfl, _, _, rfl, rfl, ?_⟩
    have hlim : (5000 : Nat) ≤ sizeLine := by decide
    walk_at "rd"
    rw [cut_to (by omega), S_cat]
    refine ⟨?_, ?_⟩
    · rw [S_len, S_len]
      exact Nat.le_trans (m := 2000) (by simp; omega) (by decide)
    refine ⟨_, rfl, _, rfl, _, rfl, _, rfl, sz_S (t := r.1) (by omega), ?_⟩
    refine ⟨_, _, rfl, rfl, _, rfl, ?_⟩
    refine ⟨_, rfl, sz_S (t := t) (by omega), ?_⟩
    rw [cut_from (by omega)]
    refine ⟨_, _, rfl, rfl, ?_, ?_⟩
    · rw [S_len, S_len]
      exact Nat.le_trans (m := 2000) (by simp; omega) (by decide)
    rw [S_cat, show ((p : Nat) : Int).toNat = p by omega, show ((p : Nat) + ((S r.1).length : Nat) : Int).toNat = p + r.1.length by rw [S_len]; omega]
    exact k
end
end Sh
set_option Elab.async false
set_option linter.all false
set_option maxRecDepth 100000
set_option maxHeartbeats 2000000
/-! sorted(list, key=def), the keys of any shape that can be compared (flat tuples, and a thing ahead of a tuple) -/
namespace Sh
open PySem PySem.Spec PyProof.Rows L2
structure KeyD (X : Cx) {α : Type} (gk : α → List V) (T : String) where
  At : Hp → Addr → α → Prop
  kv : Hp → Value → List V
  VV : Heap → Value → List V → Prop
  kv_at : ∀ {H q y}, At H q y → kv H (.ref q) = gk y
  same : ∀ {H H' q y}, At H q y → Same H H' → At H' q y
  wr : ∀ {H q y p xs ys}, At H q y → H p = some (.lst xs) → At (upd H p (.lst ys)) q y
  vof : ∀ {pins σ H s q y}, Inv X pins σ H s → At H q y → VV s.heap (.ref q) (gk y)
  kind : ∀ {A : Around} {s : Shared} {E : Value → Shared → Prop} {vs : List Value} {k : Value → List V} {Q : SortKind → Shared → Prop}, 0 < vs.length → (∀ v ∈ vs, VV s.heap v (k v)) → (∀ v ∈ vs, Head T (k v)) → Q (tuples' (Value.type T != Value.type "tuple")) s → wpAny (model X.prog X.w) A (keyKind' vs.toArray) Q E s
  cmp : ∀ {A : Around} {s : Shared} {b : Bool} {vs : List Value} {k : Value → List V}, A.units + 64 < cLine → (∀ v ∈ vs, VV s.heap v (k v)) → (∀ v ∈ vs, ∀ u ∈ vs, sameKs (k v) (k u) = true) → SrtO.Cmp X.prog X.w A s (tuples' b) (fun p => p.1 ∈ vs) (SrtO.lt2 fun v u => cLt (k v) (k u))
section
variable {X : Cx} {pins : List (Addr × Obj)} {σ : L2.St} {H : Hp} {s : Shared} {a g : Addr} {n N : Nat} {sp : Sp} {α : Type} {f : α → V} {gk : α → List V} {l : List α} {vs : List Value} {T : String} {P : PySem.Fin → Shared → Prop}
theorem list_sort_keyD (D : KeyD X gk T) (I : Inv X pins σ H s) (F : FnR X.prog X.w X.K X.mg X.base CX0 n g sp) (hr : Room n X.A.in1.in1)
    (ho : s.heap.get? a = some (seqObj "list" vs.toArray N)) (fpa : FpOk X pins H a) (rv : Vals (l.map f) vs) (hz : l.length ≤ sizeLine)
    (hk : ∀ y ∈ l, ∀ H1, Same H H1 → ∀ Q' : VK, (∀ q H2, Same H1 H2 → D.At H2 q y → Q' (.ref q) H2) → sp [f y] H1 Q' E0)
    (ht : ∀ y ∈ l, Head T (gk y)) (hs : ∀ y ∈ l, ∀ z ∈ l, sameKs (gk y) (gk z) = true)
    (h : ∀ (l' : List α) (s' : Shared) (H' : Hp), l'.Perm l → l'.Pairwise (fun y z => cLt (gk z) (gk y) = false) → Inv X pins σ H' s' → Same H H' → H' a = some (.lst (l'.map f)) → P (.done (.ret .none)) s') :
    wpAny (model X.prog X.w) X.A.in1.in1 (ksk_tree a (.ref g) false) P X.xe s := by
  have hlen : vs.length = l.length := by rw [← rv.length, List.length_map]
  obtain ⟨hn, hL, hfs, hex, hcell, hpin⟩ := id fpa
  have ha : a < s.heap.objs.size := Heap.lt_size ho
  have s1 := Heap.SameBut.update s.heap a (Obj.mapSeq fun _ => (#[] : Array Value))
  obtain ⟨e1, ho1⟩ : ∃ e1, (s.heap.update a (Obj.mapSeq fun _ => (#[] : Array Value))).get? a = some (seqObj "list" #[] e1) := ⟨_, get?_update_seq ho fun _ => #[]⟩
  unfold ksk_tree
  refine wpAny_bind (listItems_at ho rfl ?_)
  refine wpAny_bind (listUpdate_at ho rfl ?_ (by rw [List.size_toArray, hlen]; exact hz) (Nat.zero_le _))
  refine wpAny_bind (seqEpoch_at ho1 rfl ?_)
  refine wpAny_bind (wpAny_newTuple ?_ (by show vs.length ≤ _; rw [hlen]; exact hz))
  refine wpAny_bind (wpAny_newList ?_ (Nat.zero_le _))
  refine wpAny_holding ?_
  have J1 : Inv X pins σ H { s with heap := s.heap.update a (Obj.mapSeq fun _ => (#[] : Array Value)), toks := s.toks } := I.turned (fun b o hb e => (s1.2 b hb).trans e) hn hL hex hcell hpin
  have z1 : (s.heap.update a (Obj.mapSeq fun _ => (#[] : Array Value))).objs.size = s.heap.objs.size := Heap.size_update _ _ _
  show wpAny _ _ (ksk_rest a (.ref g) false vs.toArray e1 (.ref (((s.heap.update a (Obj.mapSeq fun _ => (#[] : Array Value))).push (seqObj "tuple" vs.toArray 0)).objs.size))) P X.xe { s with heap := ((s.heap.update a (Obj.mapSeq fun _ => (#[] : Array Value))).push (seqObj "tuple" vs.toArray 0)).push (seqObj "list" #[] 0) }
  generalize s.heap.update a (Obj.mapSeq fun _ => (#[] : Array Value)) = h1 at J1 ho1 z1 ⊢
  have z2 : (h1.push (seqObj "tuple" vs.toArray 0)).objs.size = h1.objs.size + 1 := size_push' _ _
  have J2 : Inv X pins σ (upd H (h1.push (seqObj "tuple" vs.toArray 0)).objs.size (.lst [])) { s with heap := (h1.push (seqObj "tuple" vs.toArray 0)).push (seqObj "list" #[] 0), toks := s.toks } :=
    J1.laid (fun b o e => Heap.get?_push_of_some _ (Heap.get?_push_of_some _ e)) (by rw [z2]; exact Nat.le_succ _) ⟨Nat.zero_le _, [], 0, .nil, Heap.get?_push_size _ rfl⟩
  have hk0 : H (h1.push (seqObj "tuple" vs.toArray 0)).objs.size = none := J1.hok.fresh (by rw [z2]; exact Nat.le_succ _)
  have hne : a ≠ (h1.push (seqObj "tuple" vs.toArray 0)).objs.size := by rw [z2, z1]; exact Nat.ne_of_lt (Nat.lt_succ_of_lt ha)
  have J3 : Inv X (pins ++ [(a, seqObj "list" #[] e1)]) σ (upd H (h1.push (seqObj "tuple" vs.toArray 0)).objs.size (.lst [])) { s with heap := (h1.push (seqObj "tuple" vs.toArray 0)).push (seqObj "list" #[] 0), toks := s.toks } :=
    J2.pins_of fun p hp => (List.mem_append.mp hp).elim (fun z => J2.pin p (List.mem_append_right _ z)) fun z => by
      rw [List.mem_singleton.mp z]
      exact ⟨Heap.get?_push_of_some _ (Heap.get?_push_of_some _ ho1), by rw [upd_ne hne]; exact hn, hL, hfs, fun v e => by cases e⟩
  generalize (h1.push (seqObj "tuple" vs.toArray 0)).objs.size = kS at J2 J3 hk0 hne ⊢
  generalize hs0 : ({ s with heap := (h1.push (seqObj "tuple" vs.toArray 0)).push (seqObj "list" #[] 0) } : Shared) = s0 at J3 ⊢
  clear hs0 J2 z2 J1 z1 ho1 h1
  unfold ksk_rest
  refine wpAny_bind (wpAny_rule ?_)
  first
    | rw [List.forIn_toArray]
    | (rw [← Array.forIn_toList]; simp only [List.toList_toArray])
    | rw [← Array.forIn_toList]
  refine wpAny_bind (ksk_fold (fun i s' => ∃ H' ys, Inv X (pins ++ [(a, seqObj "list" #[] e1)]) σ H' s' ∧ Same H H' ∧ H' kS = some (.lst ys) ∧ Paired (fun v y => ∃ q, v = V.ref q ∧ D.At H' q y) ys (l.take i)) vs 0 s0
    ⟨_, [], J3, same_new hk0, upd_same, .nil⟩ ?step ?done)
  case step =>
    rintro j x s' hx ⟨H', ys, J, sm, hkS, pr⟩
    simp only [Nat.zero_add] at pr ⊢
    have hj : j < vs.length := (List.getElem?_eq_some_iff.mp hx).1
    have hjl : j < l.length := by omega
    have hy : l[j]? = some l[j] := List.getElem?_eq_getElem hjl
    have hym : l[j] ∈ l := List.getElem_mem hjl
    have rx : RelV (f l[j]) x := by
      obtain ⟨u, hu, ru⟩ := rv.get (i := j) (x := f l[j]) (by rw [List.getElem?_map, hy]; rfl)
      rw [hx] at hu
      cases hu
      exact ru
    have yl : ys.length = j := by
      have := Paired.length pr
      rw [List.length_take] at this
      omega
    refine wpAny_bind (wpAny_attempt (wpAny_mono (run_in (X := X.wish fun _ _ => False) (us := [x]) (ws := [f l[j]]) (Q := fun v H2 => ∃ q, v = .ref q ∧ Same H' H2 ∧ D.At H2 q l[j]) F hr (J.wish _).env0.in1.in1 pass0 (J.wish _) (.cons rx .nil)
      (hk _ hym H' sm _ fun q H2 sm2 hq => ⟨q, rfl, sm2, hq⟩)) (fun v s'' he => ?_) fun _ _ hF => hF.elim))
    obtain ⟨v', H2, J', rv', q, rfl, sm2, hq⟩ := he
    obtain rfl : v = .ref q := rv'
    have J2 := J'.unwish
    have hkS2 := sm2 _ _ hkS
    obtain ⟨hzz, its, n2, rvi, hli, hget⟩ := J2.lstM hkS2
    try dsimp only
    have s2 := Heap.SameBut.update s''.heap kS (Obj.mapSeq (·.push (Value.ref q)))
    obtain ⟨c2, hc2⟩ : ∃ c2, (s''.heap.update kS (Obj.mapSeq (·.push (Value.ref q)))).get? kS = some (seqObj "list" (its.toArray.push (Value.ref q)) c2) := ⟨_, get?_update_seq hget (·.push (Value.ref q))⟩
    refine wpAny_bind (listUpdate_at hget rfl ?_ (by rw [List.size_toArray, ← hli]; exact hzz) (by rw [Array.size_push, List.size_toArray, ← hli]; omega))
    have et : l.take (j + 1) = l.take j ++ [l[j]] := by rw [List.take_succ, hy]; rfl
    refine wpAny_pure ⟨rfl, upd H2 kS (.lst (ys ++ [.ref q])), ys ++ [.ref q], ?_, same_mut (sm.trans sm2) hk0, upd_same, ?_⟩
    · refine J2.write (t' := s''.toks) (by rw [hkS2]; trivial) (.inl rfl) (fun b u hb e => (s2.2 b hb).trans e) ⟨_, hc2⟩ ⟨by rw [List.length_append, yl]; show j + 1 ≤ _; omega, its ++ [.ref q], c2, ?_, ?_⟩
      · exact paired_snoc rvi (show RelV (.ref q) (.ref q) from rfl)
      · rw [hc2, List.push_toArray]
    · rw [et]
      have up : ∀ q0 y, D.At H2 q0 y → D.At (upd H2 kS (.lst (ys ++ [.ref q]))) q0 y := fun q0 y e => D.wr e hkS2
      exact paired_snoc (paired_imp pr fun v y ⟨q0, e, hq0⟩ => ⟨q0, e, up q0 _ (D.same hq0 sm2)⟩) ⟨q, rfl, up q _ hq⟩
  case done =>
    rintro s' ⟨H', ys, J, sm, hkS, pr⟩
    rw [show l.take (0 + vs.length) = l from List.take_of_length_le (by omega)] at pr
    obtain ⟨hzz, its, n2, rvi, hli, hget⟩ := J.lstM hkS
    have pa := J.pin (a, seqObj "list" #[] e1) (List.mem_append_right _ (List.mem_append_right _ (List.mem_singleton.mpr rfl)))
    have hH'a : H' a = none := pa.2.1
    have hga : s'.heap.get? a = some (seqObj "list" #[] e1) := pa.1
    try dsimp only
    refine wpAny_bind (listItems_at hget rfl ?_)
    have hil : its.length = l.length := by rw [← hli, Paired.length pr]
    -- the keys
    have pk : Paired (fun u y => ∃ q, u = Value.ref q ∧ D.At H' q y) its l := by
      obtain ⟨e1, e2⟩ := paired_get pr
      refine paired_at hil fun i u y h1 h2 => ?_
      have hi : i < ys.length := by
        have := (List.getElem?_eq_some_iff.mp h2).1
        omega
      obtain ⟨u', hu, ru⟩ := rvi.get (List.getElem?_eq_getElem hi)
      rw [h1] at hu
      cases hu
      obtain ⟨q, e, hq⟩ := e2 i _ y (List.getElem?_eq_getElem hi) h2
      rw [e] at ru
      exact ⟨q, ru, hq⟩
    have hkk : ∀ v ∈ its, ∃ y ∈ l, D.kv H' v = gk y ∧ D.VV s'.heap v (D.kv H' v) := by
      intro v hv
      obtain ⟨y, hy, q', e, hq⟩ := paired_mem pk v hv
      subst e
      refine ⟨y, hy, D.kv_at hq, ?_⟩
      rw [D.kv_at hq]
      exact D.vof J hq
    have hsame : ∀ v ∈ its, ∀ u ∈ its, sameKs (D.kv H' v) (D.kv H' u) = true := by
      intro v hv u hu
      obtain ⟨y, hy, e1, _⟩ := hkk v hv
      obtain ⟨z, hz', e2, _⟩ := hkk u hu
      rw [e1, e2]
      exact hs y hy z hz'
    have p2 : Paired (fun (p : Value × Value) y => D.kv H' p.1 = gk y ∧ RelV (f y) p.2) (its.zip vs) l := by
      obtain ⟨_, e2⟩ := paired_get pk
      refine paired_at (by rw [List.length_zip]; omega) fun i p y h1 h2 => ?_
      rw [List.getElem?_zip_eq_some] at h1
      obtain ⟨q, e, hq⟩ := e2 i _ y h1.1 h2
      obtain ⟨u, hu, ru⟩ := rv.get (i := i) (x := f y) (by rw [List.getElem?_map, h2]; rfl)
      rw [h1.2] at hu
      cases hu
      refine ⟨?_, ru⟩
      rw [e]
      exact D.kv_at hq
    have tail : ∀ st : SortSt, SrtO.Srtd (SrtO.lt2 fun v u => cLt (D.kv H' v) (D.kv H' u)) (arrOf st).toList → (arrOf st).toList.Perm (its.zip vs) → failedOf st = none → wpAny (model X.prog X.w) X.A.in1.in1 (ksk_tail a false e1 (.ref kS) st) P X.xe s' := by
      intro st hso hpe hfl
      obtain ⟨l', pl, pr'⟩ := paired_perm hpe p2
      have hkne : a ≠ kS := fun z => by rw [← z, hH'a] at hkS; cases hkS
      have s2 := Heap.SameBut.update s'.heap kS (Obj.mapSeq fun _ => (#[] : Array Value))
      obtain ⟨c2, hc2⟩ : ∃ c2, (s'.heap.update kS (Obj.mapSeq fun _ => (#[] : Array Value))).get? kS = some (seqObj "list" #[] c2) := ⟨_, get?_update_seq hget fun _ => #[]⟩
      have hga2 : (s'.heap.update kS (Obj.mapSeq fun _ => (#[] : Array Value))).get? a = some (seqObj "list" #[] e1) := (s2.2 a hkne).trans hga
      have K1 : Inv X (pins ++ [(a, seqObj "list" #[] e1)]) σ (upd H' kS (.lst [])) { s' with heap := s'.heap.update kS (Obj.mapSeq fun _ => (#[] : Array Value)), toks := s'.toks } :=
        J.write (by rw [hkS]; trivial) (.inl rfl) (fun b u hb e => (s2.2 b hb).trans e) ⟨_, hc2⟩ ⟨Nat.zero_le _, [], c2, .nil, hc2⟩
      unfold ksk_tail
      try dsimp only
      refine wpAny_bind (listUpdate_at hget rfl ?_ (by rw [List.size_toArray, ← hli]; exact hzz) (Nat.zero_le _))
      refine wpAny_bind (wpAny_letGo ?_)
      refine wpAny_bind (seqEpoch_at hga2 rfl ?_)
      have hsz : ((arrOf st).map (·.2)).size ≤ sizeLine := by
        have := hpe.length_eq
        rw [Array.length_toList, List.length_zip] at this
        rw [Array.size_map, this]
        omega
      simp only [Bool.false_eq_true, if_false]
      refine wpAny_bind (listUpdate_at hga2 rfl ?_ (Nat.zero_le _) (by omega))
      rw [hfl]
      simp only [bne_self_eq_false, Bool.false_eq_true, if_false]
      generalize hh2 : s'.heap.update kS (Obj.mapSeq fun _ => (#[] : Array Value)) = h2 at K1 hga2 ⊢
      have s3 := Heap.SameBut.update h2 a (Obj.mapSeq fun _ => (arrOf st).map (·.2))
      obtain ⟨c3, hc3⟩ : ∃ c3, (h2.update a (Obj.mapSeq fun _ => (arrOf st).map (·.2))).get? a = some (seqObj "list" ((arrOf st).map (·.2)) c3) := ⟨_, get?_update_seq hga2 fun _ => (arrOf st).map (·.2)⟩
      have hupa : upd H' kS (.lst []) a = none := by rw [upd_ne hkne]; exact hH'a
      have hvals : Vals (l'.map f) (((arrOf st).map (·.2)).toList) := by
        rw [Array.toList_map]
        have key : ∀ {ps : List (Value × Value)} {m : List α}, Paired (fun (p : Value × Value) y => D.kv H' p.1 = gk y ∧ RelV (f y) p.2) ps m → Vals (m.map f) (ps.map (·.2)) := by
          intro ps m hp
          induction hp with
          | nil => exact .nil
          | cons r t ih => exact .cons r.2 ih
        exact key pr'
      have K3 : Inv X pins σ (upd (upd H' kS (.lst [])) a (.lst (l'.map f))) { s' with heap := h2.update a (Obj.mapSeq fun _ => (arrOf st).map (·.2)), toks := s'.toks } := by
        refine Inv.take (s := { s' with heap := h2, toks := s'.toks }) (Inv.unpinned K1) (fun b ob hb e => (s3.2 b hb).trans e) ⟨hupa, hL, hfs, hex, hcell, hpin⟩ ⟨?_, _, c3, hvals, ?_⟩
        · rw [List.length_map, pl.length_eq]; exact hz
        · rw [hc3, Array.toArray_toList]
      refine wpAny_pure (h l' _ _ pl ?_ K3 ?_ upd_same)
      · refine paired_pairwise (R := fun (p : Value × Value) y => D.kv H' p.1 = gk y ∧ RelV (f y) p.2) ?_ pr' hso
        rintro p p' y y' ⟨k1, _⟩ ⟨k2, _⟩ hlt
        have hlt' : cLt (D.kv H' p'.1) (D.kv H' p.1) = false := hlt
        rw [k1, k2] at hlt'
        exact hlt'
      · exact fun b o e => by
          rw [upd_ne (ne_of_none e hn)]
          exact same_mut sm hk0 b o e
    have hzip : (its.toArray.zip vs.toArray).toList = its.zip vs := by simp
    unfold ksk_end
    try dsimp only
    simp only [Bool.false_eq_true, if_false]
    by_cases h2 : vs.toArray.size < 2
    · rw [if_pos h2, if_pos h2]
      refine wpAny_bind (wpAny_pure ?_)
      rw [StateT.run_pure]
      refine wpAny_bind (wpAny_pure ?_)
      try dsimp only
      rw [List.size_toArray] at h2
      refine tail (SortSt.mk' general' (its.toArray.zip vs.toArray) #[] 7 none) ?_ (by show (its.toArray.zip vs.toArray).toList.Perm _; rw [hzip]) rfl
      show SrtO.Srtd _ (its.toArray.zip vs.toArray).toList
      rw [hzip]
      have hl2 : (its.zip vs).length < 2 := by rw [List.length_zip]; omega
      match its.zip vs, hl2 with
      | [], _ => exact List.Pairwise.nil
      | [v], _ => exact List.pairwise_singleton _ _
      | _ :: _ :: l, h => exact absurd h (by simp)
    · rw [if_neg h2, if_neg h2]
      rw [List.size_toArray] at h2
      refine wpAny_bind (D.kind (vs := its) (k := D.kv H') (by omega) (fun v hv => (hkk v hv).choose_spec.2.2) (fun v hv => ?_) ?_)
      · obtain ⟨y, hy, e, _⟩ := hkk v hv
        rw [e]
        exact ht y hy
      refine wpAny_bind (wpAny_mono (SrtO.wpS_sortO (st0 := SortSt.mk' (tuples' (Value.type T != Value.type "tuple")) (its.toArray.zip vs.toArray) #[] 7 none)
        (Q := fun _ st' => SrtO.Srtd (SrtO.lt2 fun v u => cLt (D.kv H' v) (D.kv H' u)) (arrOf st').toList ∧ (arrOf st').toList.Perm (its.zip vs) ∧ failedOf st' = none) (SrtO.swo2 (swo_cLt (D.kv H'))) (D.cmp (s := s') (Room.units hr) (fun v hv => (hkk v hv).choose_spec.2.2) hsame) rfl
        (fun p hp => ?_) rfl rfl fun st' a1 a2 a3 => ⟨a1, ?_, a3⟩) ?_ fun _ _ e => e)
      · have hp' : p ∈ (its.toArray.zip vs.toArray).toList := hp
        rw [hzip] at hp'
        exact (List.of_mem_zip (a := p.1) (b := p.2) hp').1
      · have := a2.perm
        have e : (arrOf (SortSt.mk' (tuples' (Value.type T != Value.type "tuple")) (its.toArray.zip vs.toArray) #[] 7 none)).toList = its.zip vs := hzip
        rw [e] at this
        exact this
      · rintro ⟨⟨⟩, st'⟩ s2 ⟨rfl, hp1, hp2, hf⟩
        try dsimp only
        exact tail st' hp1 hp2 hf
end
def rSortD (X : Cx) (sp : Sp) : List V → Hp → VK → Prop := fun vs H Q => ∃ (α : Type) (f : α → V) (gk : α → List V) (T : String) (D : KeyD X gk T) (l : List α) (v : V), vs = [v] ∧ KSrc X.K H v (l.map f) ∧
  (∀ y ∈ l, ∀ H1, Same H H1 → ∀ Q' : VK, (∀ q H2, Same H1 H2 → D.At H2 q y → Q' (.ref q) H2) → sp [f y] H1 Q' E0) ∧
  (∀ y ∈ l, Head T (gk y)) ∧ (∀ y ∈ l, ∀ z ∈ l, sameKs (gk y) (gk z) = true) ∧
  ∀ (l' : List α) (p : Addr) (H' : Hp), l'.Perm l → l'.Pairwise (fun y z => cLt (gk z) (gk y) = false) → H p = none → Same H H' → H' p = some (.lst (l'.map f)) → Q (.ref p) H'
section
variable {X : Cx} {n : Nat} {g : Addr} {sp : Sp}
theorem cr_sortKeyD (F : FnR X.prog X.w X.K X.mg X.base CX0 n g sp) (hr : Room (n + 2) X.A) (hc : X.calm = true) : CallRK X (.builtin "sorted") [Str.ofString "key"] (fun vs zs H Q => zs = [.ref g] ∧ rSortD X sp vs H Q) := by
  intro pins s σ H vs zs us ws Q I r rz h
  obtain ⟨rfl, α, f, gk, T, D, l, v, rfl, ⟨a, rfl, src⟩, hk, ht, hs, q⟩ := h
  obtain ⟨w1, rfl, e1⟩ := vals1 rz
  obtain rfl : w1 = Value.ref g := e1
  obtain ⟨u, rfl, ru⟩ := vals1 r
  obtain rfl : u = Value.ref a := ru
  have hr2 : Room n X.A.in1.in1 := (show Room (n + 1) X.A.in1 from Room.in1 hr).in1
  refine call_function_entry_kw kind_sorted plain_sorted entry_sorted (ksk_s1 _ _) ?_
  unfold Builtin.«sorted»
  refine wpAny_bind (m := checkCount "sorted" 1 1 _) (wpAny_pure ?_)
  have col : ∀ R : List Value → Shared → Prop, (∀ h' tk us, (∀ b o, s.heap.get? b = some o → h'.get? b = some o) → Vals (l.map f) us → l.length ≤ sizeLine → R us { s with heap := h', toks := tk }) → wpAny (model X.prog X.w) X.A.in1 (collect (.ref a)) R X.xe s := by
    intro R hR
    rcases src with hL | ⟨kvs, hD, ek⟩
    · obtain ⟨its, rv, hl, hz⟩ := I.list hL
      refine collect_list hl.isList (hR _ s.toks its (fun b o e => ?_) rv (by rw [List.length_map] at hz; exact hz)) (by rw [← rv.length]; exact hz)
      have hlt : b < s.heap.objs.size := Heap.lt_size e
      rw [Heap.get?_update_ne _ _ _ _ (Nat.ne_of_lt hlt)]
      exact Heap.get?_push_of_some _ e
    · obtain ⟨z, lo, vs, rel, dd⟩ := dk_rd I.hok hD
      obtain ⟨ep, hat⟩ := dd.dictAt
      have hl : kvs.length = vs.length := Paired.length rel
      refine PySem.W.kdu_collect (A := X.A.in1) (PySem.W.kdl_dict (knd := mixKind X.prog X.w) (kvs := vs) (ep := ep) lo) (I.ok.hd hc) hat (by rw [← hl]; exact z) fun h' tk acc hk hacc => ?_
      have ll : l.length = kvs.length := by
        have := congrArg List.length ek
        rw [List.length_map, List.length_map] at this
        exact this
      refine hR h' tk acc.toList hk ?_ (by rw [ll]; exact z)
      rw [ek]
      have el : acc.toList.length = acc.size := by simp
      refine vals_of_at (by rw [List.length_map, el, hacc.1, hl]) fun j x w h1 h2 => ?_
      obtain ⟨k, y, hky, hi⟩ := hacc.2 j w (by rw [← Array.getElem?_toList]; exact h2)
      have e1 : (kvs.map (·.1))[j]? = some k := by
        rw [KV.keys rel, List.getElem?_map, hky] <;> rfl
      have e2 : (kvs.map fun kv => kV kv.1)[j]? = some (kV k) := by
        have e3 : (kvs.map fun kv => kV kv.1) = (kvs.map (·.1)).map kV := by rw [List.map_map] <;> rfl
        rw [e3, List.getElem?_map, e1] <;> rfl
      rw [e2] at h1
      cases h1
      exact keyIs_rel hi
  refine wpAny_bind (col _ fun h' tk us hkp rv hz => ?_)
  have hul : us.length = l.length := by rw [← rv.length, List.length_map]
  refine wpAny_bind (wpAny_newList ?_ (by rw [hul]; exact hz))
  have I1 : Inv X pins σ H { s with heap := h', toks := tk } := I.kept hkp
  have hoL : (h'.push (seqObj "list" us.toArray 0)).get? h'.objs.size = some (seqObj "list" us.toArray 0) := Heap.get?_push_size _ rfl
  have hfr : H h'.objs.size = none := I1.hok.fresh (Nat.le_refl _)
  have fp : FpOk X pins H h'.objs.size := I1.fpOk (Nat.le_refl _) hfr
  have I2 : Inv X pins σ H { s with heap := h'.push (seqObj "list" us.toArray 0), toks := tk } := I1.kept fun b o e => Heap.get?_push_of_some _ e
  show wpAny _ _ _ _ _ { s with heap := h'.push (seqObj "list" us.toArray 0), toks := tk }
  refine wpAny_bind (wpAny_holding (wpAny_call_entry_kw slot_list_sort ⟨_, hoL, rfl⟩ entry_list_sort ?body (ksk_l1 _ _)))
  case body =>
    show wpAny (model X.prog X.w) X.A.in1.in1 (Builtin.«list.sort» ⟨[.ref h'.objs.size], [(Str.ofString "key", .ref g)]⟩) _ _ _
    rw [ksk_t1]
    refine list_sort_keyD D I2 F hr2 hoL fp rv hz hk ht hs fun l' s' H' pl po J sm hp => ⟨_, rfl, ?_⟩
    exact wpAny_pure ⟨_, rfl, .ref h'.objs.size, H', J, rfl, q l' _ H' pl po hfr sm hp⟩
end
section
variable {X : Cx} {k j : Nat} {x : Str} {sp : Sp} {p p2 pos kpos : Pos} {e : Expr} {t : TA}
def tSortD (X : Cx) (sp : Sp) (t : TA) : TE := fun σ H Q => t σ H fun vs H1 => rSortD X sp vs H1 Q
/-- sorted(e, key=f), f a def of the text -/
theorem pe_sortD (c : Cal X.prog X.w X.K X.mg X.base CX0 k x sp) (hr : Room j X.A) (hk : k + 2 ≤ j) (hc : X.calm = true) (hg : Gl X "sorted") (hm : X.mg "sorted" = none) (hgx : Gl X x) (ha : PA X [e] t)
    (hdb : (x == ("__debug__" : Str)) = false := by decide)
    (he : backTo pos (starEach [e] X.env) = (false, eval e X.env) :: backTo pos (starEach [] X.env) := by rfl) (hpl : (backTo pos (starEach [e] X.env)).any (·.1) = false := by rfl) :
    PE X (.Call (.Name "sorted" p) [e] [⟨some (Str.ofString "key"), .Name x p2, kpos⟩] pos) (tSortD X sp t) := by
  obtain ⟨f, fd, ps, F, hmx, kp, b⟩ := c.ex
  have P0 := pe_callBK (p := p) (pos := pos) (cr_sortKeyD (fnR_of F b) (hr.mono hk) hc) hg hm (by rfl) ha (pk_cons (kpos := kpos) (nm := some (Str.ofString "key")) (pe_glob (pos := p2) (v := .ref f) hgx hmx rfl hdb) pk_nil) (by decide) (by decide) he hpl
  refine ⟨fun pins s σ H Q I h => P0.run pins s σ H Q I ?_⟩
  have e9 : (fun (vs : List V) (H1 : Hp) => ([V.ref f] : List V) = [.ref f] ∧ rSortD X sp vs H1 Q) = fun vs H1 => rSortD X sp vs H1 Q := by
    funext vs H1
    exact propext ⟨fun h => h.2, fun h => ⟨rfl, h⟩⟩
  show t σ H fun vs H1 => ([V.ref f] : List V) = [.ref f] ∧ rSortD X sp vs H1 Q
  rw [e9]
  exact h
end
/-! ### a thing ahead of a tuple -/
def NestA {α : Type} (gk : α → List V) (H : Hp) (q : Addr) (y : α) : Prop := ∃ x ks r, gk y = x :: ks ∧ H q = some (.tup [x, .ref r]) ∧ H r = some (.tup ks)
def kvN (H : Hp) : Value → List V
  | .ref q => match H q with
    | some (.tup [x, .ref r]) => match H r with
      | some (.tup ks) => x :: ks
      | _ => []
    | _ => []
  | _ => []
theorem kvN_at {α : Type} {gk : α → List V} {H : Hp} {q : Addr} {y : α} (h : NestA gk H q y) : kvN H (.ref q) = gk y := by
  obtain ⟨x, ks, r, e, h1, h2⟩ := h
  unfold kvN
  simp only [h1, h2, e]
def NestV (h : Heap) (v : Value) (ks : List V) : Prop := ∃ (a b : Addr) (o o' : Obj) (x : V) (rs : List V) (u : Value) (its : List Value) (n m : Nat), ks = x :: rs ∧ v = .ref a ∧ h.get? a = some o ∧ o.cls = .type "tuple" ∧ o.data = .seq #[u, .ref b] n ∧ RelV x u ∧ h.get? b = some o' ∧ o'.cls = .type "tuple" ∧ o'.data = .seq its.toArray m ∧ Vals rs its
theorem nestV_of {X : Cx} {α : Type} {gk : α → List V} {pins : List (Addr × Obj)} {σ : L2.St} {H : Hp} {s : Shared} {q : Addr} {y : α} (I : Inv X pins σ H s) (h : NestA gk H q y) : NestV s.heap (.ref q) (gk y) := by
  obtain ⟨x, ks, r, e, h1, h2⟩ := h
  obtain ⟨_, its, rv, o, ho, hc, n, hd⟩ := I.hok q _ h1
  obtain ⟨_, its2, rv2, o2, ho2, hc2, n2, hd2⟩ := I.hok r _ h2
  cases rv with
  | cons r1 t1 =>
    cases t1 with
    | cons r2 t2 =>
      cases t2
      rename_i u w
      obtain rfl : w = Value.ref r := r2
      exact ⟨q, r, o, o2, x, ks, u, its2, n, n2, e, rfl, ho, hc, hd, r1, ho2, hc2, hd2, rv2⟩
def dat : V → PyData
  | .int i => .int i
  | .str s => .str s
  | _ => .none
def Plain : V → Prop
  | .int _ => True
  | .str _ => True
  | _ => False
theorem reads_dat {h : Heap} {x : V} {u : Value} (hp : Plain x) (r : RelV x u) : Reads h u (dat x) [] := by
  cases x <;> first | exact hp.elim | skip
  · obtain ⟨t, rfl⟩ := r; exact .int _ _
  · obtain ⟨t, rfl⟩ := r; exact .str _ _
theorem reads_dats {h : Heap} : ∀ {ks : List V} {us : List Value}, (∀ x ∈ ks, Plain x) → Vals ks us → ReadsAll h us (ks.map dat) []
  | [], _, _, .nil => .nil
  | x :: ks, _, hp, .cons r t => by
    have := ReadsAll.cons (reads_dat (h := h) (hp x List.mem_cons_self) r) (reads_dats (fun y m => hp y (List.mem_cons_of_mem _ m)) t)
    exact this
theorem plain_same : ∀ {x y : V}, sameK x y = true → Plain x ∧ Plain y := by
  intro x y h
  cases x <;> cases y <;> first | exact ⟨trivial, trivial⟩ | cases h
theorem alike_dat {x y : V} (h : sameK x y = true) : PySem.W.alike (dat x) (dat y) = true := by
  cases x <;> cases y <;> first | rfl | cases h
theorem eqv_dat {x y : V} (h : sameK x y = true) : PyData.eqv (dat x) (dat y) = decide (x = y) := by
  cases x <;> cases y <;> first | cases h | skip
  · rename_i i j
    show (i == j) = _
    rw [Bool.eq_iff_iff]; simp
  · rename_i i j
    show (i == j) = _
    rw [Bool.eq_iff_iff]; simp
theorem lt_dat {x y : V} (h : sameK x y = true) : PySem.W.dataLt (dat x) (dat y) = vLt x y := by
  cases x <;> cases y <;> first | cases h | skip
  · exact PySem.W.dataLt_int _ _
  · exact PySem.W.dataLt_str _ _
theorem alike_dats : ∀ {a b : List V}, sameKs a b = true → PySem.W.alikeAll (a.map dat) (b.map dat) = true
  | [], _, _ => rfl
  | _ :: _, [], _ => rfl
  | x :: xs, y :: ys, h => by
    have h' : (sameK x y && sameKs xs ys) = true := h
    rw [Bool.and_eq_true] at h'
    show (PySem.W.alike (dat x) (dat y) && PySem.W.alikeAll _ _) = true
    rw [alike_dat h'.1, alike_dats h'.2]; rfl
theorem eqv_dats : ∀ {a b : List V}, sameKs a b = true → PyData.eqvAll (a.map dat) (b.map dat) = decide (a = b)
  | [], [], _ => rfl
  | [], _ :: _, _ => rfl
  | _ :: _, [], _ => rfl
  | x :: xs, y :: ys, h => by
    have h' : (sameK x y && sameKs xs ys) = true := h
    rw [Bool.and_eq_true] at h'
    show (PyData.eqv (dat x) (dat y) && PyData.eqvAll _ _) = _
    rw [eqv_dat h'.1, eqv_dats h'.2, Bool.eq_iff_iff]
    simp
theorem toks_tup : ∀ {a b : List V}, sameKs a b = true → lexLt itemOrd (PySem.W.keyToksAll (a.map dat)) (PySem.W.keyToksAll (b.map dat)) = tupLt a b
  | [], [], _ => by rw [PyProof.Rows.lex_irrefl]; simp [tupLt]
  | [], _ :: _, _ => by
    rw [List.map_cons, PySem.W.toks_all_cons]
    simp only [List.map_nil, PySem.W.keyToksAll]
    rw [lex_diff (O := itemOrd) (by simp)]
    simp [itemLt, tupLt]
  | _ :: _, [], _ => by
    rw [List.map_cons, PySem.W.toks_all_cons]
    simp only [List.map_nil, PySem.W.keyToksAll]
    rw [lex_diff (O := itemOrd) (by simp)]
    simp [itemLt, tupLt]
  | x :: xs, y :: ys, h => by
    have h' : (sameK x y && sameKs xs ys) = true := h
    rw [Bool.and_eq_true] at h'
    rw [List.map_cons, List.map_cons]
    unfold tupLt
    by_cases e : x = y
    · rw [if_pos e, PySem.W.dataLt_all_yes (alike_dat h'.1) (by rw [eqv_dat h'.1]; exact decide_eq_true e), toks_tup h'.2]
    · rw [if_neg e, PySem.W.dataLt_all_no (alike_dat h'.1) (by rw [eqv_dat h'.1]; exact decide_eq_false e), lt_dat h'.1]
theorem tupLt_self (a : List V) : sameKs a a = true → tupLt a a = false := fun h => by
  rw [tup_cLt h]
  exact decide_eq_false (List.lt_irrefl _)
theorem toks_nest {x y : V} {a b : List V} (h : sameK x y = true) (g : sameKs a b = true) : lexLt itemOrd (PySem.W.keyToksAll [dat x, .tuple (a.map dat)]) (PySem.W.keyToksAll [dat y, .tuple (b.map dat)]) = tupLt (x :: a) (y :: b) := by
  have ga : PySem.W.alike (.tuple (a.map dat)) (.tuple (b.map dat)) = true := alike_dats g
  show _ = (if x = y then tupLt a b else vLt x y)
  by_cases e : x = y
  · rw [if_pos e, PySem.W.dataLt_all_yes (alike_dat h) (by rw [eqv_dat h]; exact decide_eq_true e)]
    by_cases e2 : a = b
    · subst e2
      rw [PyProof.Rows.lex_irrefl]
      exact (tupLt_self a g).symm
    · have : PyData.eqv (.tuple (a.map dat)) (.tuple (b.map dat)) = false := by
        show PyData.eqvAll _ _ = false
        rw [eqv_dats g]; exact decide_eq_false e2
      rw [PySem.W.dataLt_all_no ga this, PySem.W.dataLt_tuple, toks_tup g]
  · rw [if_neg e, PySem.W.dataLt_all_no (alike_dat h) (by rw [eqv_dat h]; exact decide_eq_false e), lt_dat h]
theorem dep_dats : ∀ (a : List V), PyData.depthAll (a.map dat) ≤ 1
  | [] => by decide
  | x :: a => by
    have := dep_dats a
    cases x <;> (simp only [List.map_cons, PyData.depthAll, dat, PyData.depth] at *; omega)
section
variable {prog : Program} {w : World} {A : Around} {s : Shared} {E : Value → Shared → Prop}
theorem plain_all : ∀ {l : List V}, sameKs l l = true → ∀ z ∈ l, Plain z
  | x :: xs, h, z, hz => by
    have h' : (sameK x x && sameKs xs xs) = true := h
    rw [Bool.and_eq_true] at h'
    rcases List.mem_cons.mp hz with rfl | hz
    · exact (plain_same h'.1).1
    · exact plain_all h'.2 z hz
theorem dat_not_tup (x : V) (t : List PyData) : dat x ≠ .tuple t := by
  cases x <;> intro h <;> cases h
theorem dep_dat (x : V) : PyData.depth (dat x) ≤ 1 := by
  cases x <;> (simp only [dat, PyData.depth]; first | omega | decide)
theorem nest_cmp {b : Bool} {vs : List Value} {k : Value → List V} (hu : A.units + 64 < cLine) (hp : ∀ v ∈ vs, NestV s.heap v (k v)) (hs : ∀ v ∈ vs, ∀ u ∈ vs, sameKs (k v) (k u) = true) : SrtO.Cmp prog w A s (tuples' b) (fun p => p.1 ∈ vs) (SrtO.lt2 fun v u => cLt (k v) (k u)) := by
  intro p q hm hm'
  show wpAny (model prog w) A (keyLt' (tuples' b) p.1 q.1) (fun r s' => s' = s ∧ r = cLt (k p.1) (k q.1)) (fun _ _ => False) s
  rw [← tup_cLt (hs _ hm _ hm')]
  have h2 := hs _ hm _ hm'
  have hA := hs _ hm _ hm
  have hB := hs _ hm' _ hm'
  have hpp := hp _ hm
  have hqq := hp _ hm'
  generalize k p.1 = kp at hpp h2 hA ⊢
  generalize k q.1 = kq at hqq h2 hB ⊢
  obtain ⟨a, c, o, o2, x, rs, u, its, n, m, rfl, e, ho, hc, hd, rx, ho2, hc2, hd2, rv⟩ := hpp
  obtain ⟨a', c', o', o2', x', rs', u', its', n', m', rfl, e', ho', hc', hd', rx', ho2', hc2', hd2', rv'⟩ := hqq
  have h' : (sameK x x' && sameKs rs rs') = true := h2
  rw [Bool.and_eq_true] at h'
  have pA := plain_all hA
  have pB := plain_all hB
  have r1 : ReadsAll s.heap [u, .ref c] [dat x, .tuple (rs.map dat)] [] := ReadsAll.cons (reads_dat (pA _ List.mem_cons_self) rx) (ReadsAll.cons (Reads.tuple ho2 hc2 hd2 (reads_dats (fun z hz => pA z (List.mem_cons_of_mem _ hz)) rv)) .nil)
  have r2 : ReadsAll s.heap [u', .ref c'] [dat x', .tuple (rs'.map dat)] [] := ReadsAll.cons (reads_dat (pB _ List.mem_cons_self) rx') (ReadsAll.cons (Reads.tuple ho2' hc2' hd2' (reads_dats (fun z hz => pB z (List.mem_cons_of_mem _ hz)) rv')) .nil)
  rw [e, e']
  refine PySem.W.kat_lt ho hd ho' hd' ?_
  refine PySem.W.katLex_alike (Q := fun b s' => s' = s ∧ b = tupLt (x :: rs) (x' :: rs')) [dat x, .tuple (rs.map dat)] [dat x', .tuple (rs'.map dat)] 0 _ _ _ _ r1 r2 ?_ ?_ (fun _ _ y r t ey => ?_) rfl ⟨rfl, toks_nest h'.1 h'.2⟩
  · show (PySem.W.alike (dat x) (dat x') && (PySem.W.alikeAll (rs.map dat) (rs'.map dat) && true)) = true
    rw [alike_dat h'.1, alike_dats h'.2]; rfl
  · have d1 := dep_dats rs
    have d2 := dep_dat x
    have : PyData.depthAll [dat x, .tuple (rs.map dat)] ≤ 64 := by
      simp only [PyData.depthAll, PyData.depth]
      omega
    have m1 := Nat.min_le_left (PyData.depthAll [dat x, .tuple (rs.map dat)]) (PyData.depthAll [dat x', .tuple (rs'.map dat)])
    omega
  · cases ey
    exact dat_not_tup _ _
open Classical in
theorem nest_kind {T : String} {vs : List Value} {k : Value → List V} {Q : SortKind → Shared → Prop} (h0 : 0 < vs.length) (hp : ∀ v ∈ vs, NestV s.heap v (k v)) (ht : ∀ v ∈ vs, Head T (k v)) (hq : Q (tuples' (Value.type T != Value.type "tuple")) s) : wpAny (model prog w) A (keyKind' vs.toArray) Q E s := by
  have hx : ∀ v ∈ vs, ∃ ks, TupV s.heap v ks ∧ Head T ks := by
    intro v hv
    have hpp := hp v hv
    have hh := ht v hv
    obtain ⟨a, c, o, o2, x, rs, u, its, n, m, e1, e, ho, hc, hd, rx, _⟩ := hpp
    obtain ⟨y, r, ek, fx⟩ := hh
    rw [e1] at ek
    cases ek
    exact ⟨[x, .ref c], ⟨a, o, [u, .ref c], n, e, ho, hc, hd, .cons rx (.cons rfl .nil)⟩, x, _, rfl, fx⟩
  let k' : Value → List V := fun v => if h : ∃ ks, TupV s.heap v ks ∧ Head T ks then h.choose else []
  have hk : ∀ v ∈ vs, TupV s.heap v (k' v) ∧ Head T (k' v) := by
    intro v hv
    have h := hx v hv
    show TupV s.heap v (if h : ∃ ks, TupV s.heap v ks ∧ Head T ks then h.choose else []) ∧ Head T (if h : ∃ ks, TupV s.heap v ks ∧ Head T ks then h.choose else [])
    rw [dif_pos h]
    exact h.choose_spec
  exact tup_kind (k := k') h0 (fun v hv => (hk v hv).1) (fun v hv => (hk v hv).2) hq
end
/-- keys: a thing, and a tuple of things -/
def keyN (X : Cx) {α : Type} (gk : α → List V) (T : String) : KeyD X gk T where
  At := NestA gk
  kv := kvN
  VV := NestV
  kv_at := kvN_at
  same := fun ⟨x, ks, r, e, h1, h2⟩ s => ⟨x, ks, r, e, s _ _ h1, s _ _ h2⟩
  wr := fun ⟨x, ks, r, e, h1, h2⟩ hp => ⟨x, ks, r, e, by rw [upd_ne (ne_of h1 hp (by intro z; cases z))]; exact h1, by rw [upd_ne (ne_of h2 hp (by intro z; cases z))]; exact h2⟩
  vof := nestV_of
  kind := nest_kind
  cmp := nest_cmp
end Sh
set_option Elab.async false
set_option linter.all false
set_option maxRecDepth 100000
set_option maxHeartbeats 4000000
namespace Sh
open PySem PySem.Spec PyProof.Rows L2
open SX (S S_inj S_len S_cat)
open Bk (Rule firstAt lg bestUp used left drain pushS Wf quarrel Meets Ov ovs lf stAt stP stI)
local macro_rules | `(tactic| walk_at "nx") => `(tactic| repeat (with_reducible first | refine Sh.gn_mk ?_ | refine Sh.nx_mk ?_ | refine Sh.st_nx ?_ | refine Sh.rt_mk ?_ | refine Sh.ct_mk ?_ | refine Sh.bk_mk ?_))
local macro_rules | `(tactic| walk_at "sq") => `(tactic| first | exact SqL.of upd_same | exact SqT.of upd_same | exact SqL.of (by assumption) | exact SqT.of (by assumption) | assumption | exact Or.inl (SqL.of (by assumption)) | exact Or.inr (SqT.of (by assumption)) | exact Or.inl (by assumption) | exact Or.inr (by assumption))
local macro_rules | `(tactic| walk_at "hp") => `(tactic| first | exact upd_same | assumption)
local macro_rules | `(tactic| walk_at "sz") => `(tactic| first | exact Nat.le_of_ble_eq_true rfl | omega)
local macro_rules | `(tactic| walk_at "sd") => `(tactic| first | omega | exact rfl | assumption | (show (0 : Int) < _; omega) | exact And.intro (by omega) (by omega) | exact Or.inl (And.intro (by omega) (by omega)) | exact Or.inr (And.intro (by omega) (by omega)) | omega | exact Sh.sz_S (by omega) | decide)
local macro_rules | `(tactic| walk_at "rd1") => `(tactic| first
  | (with_reducible first | refine Sh.gn_mk ?_ | refine Sh.nx_mk ?_ | refine Sh.st_nx ?_ | refine Sh.rt_mk ?_ | refine Sh.ct_mk ?_ | refine Sh.bk_mk ?_)
  | refine Exists.intro (α := V) _ (And.intro rfl ?_)
  | refine Exists.intro (α := Bool) _ (And.intro rfl ?_)
  | refine Exists.intro (α := Int) _ (And.intro rfl ?_)
  | refine Exists.intro (α := PySem.Str) _ (And.intro rfl ?_)
  | refine Exists.intro (α := Int) _ (Exists.intro (α := Int) _ (And.intro rfl (And.intro rfl ?_)))
  | refine Exists.intro (α := PySem.Str) _ (Exists.intro (α := PySem.Str) _ (And.intro rfl (And.intro rfl ?_)))
  | refine Exists.intro (α := Int) _ (Exists.intro (α := Int) _ (And.intro rfl ?_))
  | refine Or.inl (Exists.intro (α := Int) _ (And.intro rfl ?_))
  | refine Exists.intro _ (Exists.intro _ (Exists.intro _ (Exists.intro _ (And.intro rfl (And.intro rfl (And.intro (by walk_at "sq") (And.intro rfl ?_)))))))
  | refine Exists.intro _ (Exists.intro _ (Exists.intro _ (Exists.intro _ (And.intro rfl (And.intro rfl (And.intro (by walk_at "hp") (And.intro rfl ?_)))))))
  | refine And.intro (by walk_at "sd") ?_
  )
local macro_rules | `(tactic| walk_at "rd") => `(tactic| repeat walk_at "rd1")
local macro_rules | `(tactic| walk_at "lk") => `(tactic| first | exact rfl | (rw [lookup_putF, if_pos rfl]) | (rw [lookup_putF, if_neg (by decide +kernel)]; walk_at "lk"))

section
variable {P : Program} {w : World} {K : PySem.W.Frag} {mg : Str → Option Value} {base : Heap} {CB CE : Addr}
/-- a step -/
def StpV (H : Hp) (v : V) (p : Nat × Nat) : Prop := ∃ q, v = .ref q ∧ H q = some (.tup [.int (p.1 : Nat), .int (p.2 : Nat)])
theorem StpV.same {H H' : Hp} {v : V} {p : Nat × Nat} (h : StpV H v p) (s : Same H H') : StpV H' v p := let ⟨q, e, h⟩ := h; ⟨q, e, s _ _ h⟩
theorem StpV.mut {H : Hp} {v : V} {o : Nat × Nat} {p : Addr} {xs ys : List V} (hp : H p = some (.lst xs)) (h : StpV H v o) : StpV (upd H p (.lst ys)) v o := by
  obtain ⟨q, e, h⟩ := h
  exact ⟨q, e, by rw [upd_ne (ne_of h hp (by intro z; cases z))]; exact h⟩
def spAllSteps (K : PySem.W.Frag) (C : Addr) : Sp := fun vs H Q _ => ∃ (p : Addr) (sg t : List Nat) (R : List Rule), vs = [.ref p, .str (S t)] ∧ BookAt K C H p sg R ∧ R.length ≤ 64 ∧ (∀ r ∈ R, r.1.length ≤ 4) ∧ t.length ≤ 60 ∧
  ∀ (q : Addr) (xs : List V) (H' : Hp), H q = none → Same H H' → H' q = some (.lst xs) → Items StpV H' xs (stI R t t.length) → Q (.ref q) H'
theorem c_all_steps (T : TxtC K mg CB) : Cal P w K mg base CX0 1 "all_steps" (spAllSteps K CB) := by
  refine Cal.mk0 T.d_all_steps sc_all_steps (fun vs H Q E h => ?_) (fun f cdv A outer s H vs Q E hr h => ?_)
  · obtain ⟨p, sg, t, R, rfl, _⟩ := h
    rfl
  · obtain ⟨p, sg, t, R, rfl, BA, hl, h4, ht, k⟩ := h
    have cl := T.k_Book.cl
    obtain ⟨dx, fs, a, xs, pl, hp, g1, g2, hR, g3, L, g4, g5⟩ := id BA
    have hlx := hR.len
    have hSt := S_len t
    refine ⟨_, (pss_cons (ps_set (i := 2) sc_all_steps.nd rfl (Or.inl rfl) (pe_lst pa_nil))
  (pss_cons (ps_for PassesOwn.never rfl (pi_range1 (by rfl) T.b_range (pa_cons (pe_callB call_len_str (by rfl) T.b_len (by decide +kernel) (pa_cons (pv 1) pa_nil)) pa_nil)) (pg_name (i := 3) sc_all_steps.nd rfl (Or.inl rfl))
    (pss_one (ps_for PassesOwn.never rfl (pi_range1 (by rfl) T.b_range (pa_cons (pe_callB call_len_seq (by rfl) T.b_len (by decide +kernel) (pa_cons (pe_fld (pv 0) rfl) pa_nil)) pa_nil)) (pg_name (i := 4) sc_all_steps.nd rfl (Or.inl rfl))
      (pss_cons (ps_set (i := 5) sc_all_steps.nd rfl (Or.inl rfl) (pe_ix ix_tup (pe_ix ix_tup (pe_fld (pv 0) rfl) (pv 4) (fun _ _ => rfl)) pe_int (fun _ _ => rfl)))
      (pss_one (ps_if (pt_cmpR op_eq (pe_slice sl_str (pv 1) (po_some (pv 3)) (po_some (pe_op op_add (pv 3) (pe_callB call_len_str (by rfl) T.b_len (by decide +kernel) (pa_cons (pv 5) pa_nil))))) (pv 5) (nomark _))
        (pss_one (ps_expr (pe_bm PySem.F.plainAttrs_list PySem.F.slot_list_append PySem.F.type_list_append mt_append (pv 2) (pa_cons (pe_tup (pa_cons (pv 3) (pa_cons (pv 4) pa_nil))) pa_nil))))
        pss_nil))))))
  (pss_one (ps_ret (pv 2))))), ?_⟩
    refine ⟨by walk_at "sz", fun q hq => ?_⟩
    have s1 : Same H (upd H q (.lst [])) := same_new hq
    walk_at "rd"
    refine for_range (lo := 0) (n := (((S t).length : Int)).toNat) (fun i σ H2 => ∃ (ys : List V) (v3 v4 v5 : Option V), σ = [some (.ref p), some (.str (S t)), some (.ref q), v3, v4, v5] ∧ Same H H2 ∧ H2 q = some (.lst ys) ∧ Items StpV H2 ys (stI R t i))
      ⟨[], _, _, _, rfl, s1, upd_same, Items.nil⟩ ?_ ?_
    · rintro i σ H2 hi ⟨ys, v3, v4, v5, rfl, s2, hq2, it2⟩
      rw [Int.zero_add]
      have hi2 : i < t.length := by omega
      walk_at "nx"
      refine ⟨_, rfl, p, CB, dx, fs, _, rfl, s2 _ _ hp, cl, T.n_Book_rules, g2, a, xs, rfl, .inr (hR.same s2).sq, ?_⟩
      walk_at "rd"
      refine for_range (lo := 0) (n := ((xs.length : Int)).toNat) (fun j σ H3 => ∃ (ys : List V) (v4 v5 : Option V), σ = [some (.ref p), some (.str (S t)), some (.ref q), some (.int (i : Nat)), v4, v5] ∧ Same H H3 ∧ H3 q = some (.lst ys) ∧ Items StpV H3 ys (stI R t i ++ stP R t i j))
        ⟨ys, _, _, rfl, s2, hq2, by simpa [stP] using it2⟩ ?_ ?_
      · clear it2 hq2 s2 v5 v4 v3 ys
        rintro j σ H3 hj ⟨ys, v4, v5, rfl, s3, hq3, it3⟩
        rw [Int.zero_add]
        have hj2 : j < R.length := by omega
        have hr3 : R[j]? = some R[j] := by simp [hj2]
        have hlj : lf R j = R[j].1 := Bk.lf_get hr3
        have l4 : R[j].1.length ≤ 4 := h4 _ (List.getElem_mem hj2)
        obtain ⟨qr, hqr, sqr⟩ := (hR.same s3).get hr3
        have hSl := S_len R[j].1
        have hz : ys.length < sizeLine := by
          have z1 := Bk.stI_len R t i
          have z2 := Bk.stP_len R t i j
          have z3 : i * R.length ≤ 60 * 64 := Nat.mul_le_mul (by omega) hl
          have z4 := it3.1
          rw [List.length_append] at z4
          exact Nat.lt_of_le_of_lt (m := 10000) (by omega) (by decide)
        walk_at "nx"
        refine ⟨_, rfl, p, CB, dx, fs, _, rfl, s3 _ _ hp, cl, T.n_Book_rules, g2, _, rfl, a, xs, _, .ref qr, rfl, rfl, (hR.same s3).sq, atI_nat hqr, qr, _, 0, .str (S R[j].1), rfl, rfl, sqr, rfl, ?_⟩
        walk_at "nx"
        walk_at "rd"
        rw [cut_mid (by omega) (by omega), show ((i : Nat) : Int).toNat = i by omega, show ((i : Nat) + ((S R[j].1).length : Int)).toNat - i = R[j].1.length by omega]
        by_cases hc : (t.drop i).take R[j].1.length = R[j].1
        · have ho : stAt R t i j = some (i, j) := by unfold stAt; rw [hlj, if_pos hc]
          rw [show decide (V.str (S ((t.drop i).take R[j].1.length)) = V.str (S R[j].1)) = true from decide_eq_true (by rw [hc])]
          refine iteT ?_
          refine ⟨_, rfl, .inl ⟨rfl, _, SqL.of hq3⟩, ?_⟩
          walk_at "rd"
          refine ⟨by walk_at "sz", fun q9 hq9 => ?_⟩
          have s5 : Same H3 (upd H3 q9 (.tup [.int (i : Nat), .int (j : Nat)])) := same_new hq9
          refine ⟨q, _, _, rfl, rfl, s5 _ _ hq3, hz, ?_⟩
          refine ⟨_, _, _, rfl, same_mut (s3.trans s5) hq, upd_same, ?_⟩
          rw [Bk.stP_succ, ho, ← List.append_assoc]
          exact it3.snoc (fun x y r => (r.same s5).mut (s5 _ _ hq3)) ⟨q9, rfl, by rw [upd_ne (ne_of_none hq3 hq9).symm]; exact upd_same⟩
        · have ho : stAt R t i j = none := by unfold stAt; rw [hlj, if_neg hc]
          rw [show decide (V.str (S ((t.drop i).take R[j].1.length)) = V.str (S R[j].1)) = false from decide_eq_false (fun e => hc (S_inj (V.str.inj e)))]
          refine iteF ?_
          walk_at "rd"
          refine ⟨ys, _, _, rfl, s3, hq3, ?_⟩
          rw [Bk.stP_succ, ho]
          simpa using it3
      · rintro σ H3 ⟨ys, v4, v5, rfl, s3, hq3, it3⟩
        walk_at "nx"
        refine ⟨ys, _, _, _, rfl, s3, hq3, ?_⟩
        rw [Bk.stI_succ]
        rw [show ((xs.length : Int)).toNat = R.length by omega] at it3
        exact it3
    · rintro σ H2 ⟨ys, v3, v4, v5, rfl, s2, hq2, it2⟩
      walk_at "rd"
      rw [show (((S t).length : Int)).toNat = t.length by omega] at it2
      exact k q ys H2 hq s2 hq2 it2
def spSteps (K : PySem.W.Frag) (C : Addr) : Sp := fun vs H Q _ => ∃ (p : Addr) (sg t : List Nat) (R : List Rule), vs = [.ref p, .str (S t)] ∧ BookAt K C H p sg R ∧ R.length ≤ 64 ∧ (∀ r ∈ R, r.1.length ≤ 4) ∧ t.length ≤ 60 ∧ (∀ c ∈ t, c ∈ sg) ∧
  ∀ (q : Addr) (xs : List V) (H' : Hp), Same H H' → H' q = some (.tup xs) → Items StpV H' xs (stI R t t.length) → Q (.ref q) H'
end
end Sh
set_option Elab.async false
set_option linter.all false
set_option maxRecDepth 100000
set_option maxHeartbeats 3200000
/-! sets of texts: set(xs) of a list of texts, sorted(set) -/
namespace Sh
open PySem PySem.Spec PyProof.Rows L2
def txKey (e : Int × Value) : Str := match e.2 with | .str k _ => k | _ => Str.empty
def GoodX (w : World) (e : Int × Value) : Prop := ∃ k tk, e.2 = Value.str k tk ∧ e.1 = hashStr w k
/-- the set of texts at a: its members are those of l -/
def SetX (w : World) (h : Heap) (a : Addr) (l : List Str) : Prop :=
  ∃ o es ep t, h.get? a = some o ∧ o.ExactSet ∧ o.data = .set es ep t ∧ (∀ e ∈ es.toList, GoodX w e) ∧ (es.toList.map txKey).Nodup ∧ (∀ k, k ∈ l ↔ k ∈ es.toList.map txKey) ∧
    es.size < scanBound ∧ t.fits es.size = true ∧ es.size ≤ l.length ∧ Ris t.place.toList ∧ (w.params.followText "set-order" = true ∨ t.led = true)
theorem SetX.at {w : World} {h h' : Heap} {a : Addr} {l : List Str} (R : SetX w h a l) (k : ∀ o, h.get? a = some o → h'.get? a = some o) : SetX w h' a l := by
  obtain ⟨o, es, ep, t, ho, r⟩ := R
  exact ⟨o, es, ep, t, k o ho, r⟩
section
variable {P : Program} {w : World} {A : Around} {E : Value → Shared → Prop} {s : Shared} {a : Addr} {l : List Str}
theorem x_is (k : Str) (u : Tok) : (PySem.strKind P w).is k (.str k u) = true := by
  show Value.isStrOf k (.str k u) = true
  simp [Value.isStrOf]
theorem x_elems {l : List (Int × Value)} (g : ∀ e ∈ l, GoodX w e) : ElemsOf (PySem.strKind P w) l := fun e he => by
  obtain ⟨k, tk, h1, h2⟩ := g e he
  exact ⟨⟨k, by rw [h1]; exact x_is k tk, h2⟩, by rw [h1] <;> rfl⟩
theorem x_key {e : Int × Value} (g : GoodX w e) (k : Str) : (PySem.strKind P w).is k e.2 = true ↔ txKey e = k := by
  obtain ⟨k0, tk, h1, _⟩ := g
  unfold txKey
  rw [h1]
  show Value.isStrOf k (.str k0 tk) = true ↔ k0 = k
  simp [Value.isStrOf]
theorem x_mem {l : List (Int × Value)} (g : ∀ e ∈ l, GoodX w e) (k : Str) : k ∈ l.map txKey ↔ ∃ e ∈ l, (PySem.strKind P w).is k e.2 = true := by
  rw [List.mem_map]
  constructor
  · rintro ⟨e, he, q⟩
    exact ⟨e, he, (x_key (g e he) k).2 q⟩
  · rintro ⟨e, he, q⟩
    exact ⟨e, he, (x_key (g e he) k).1 q⟩
theorem x_tail {g : Bool → Sem Unit} (hg : ∀ (b : Bool) (s₁ : Shared) (Q' : Unit → Shared → Prop), Q' () s₁ → wpAny (model P w) A (g b) Q' E s₁)
    {o : Obj} {es : Array (Int × Value)} {ep : Nat} {t : SetTable} (ho : s.heap.get? a = some o) (hex : o.ExactSet) (hd : o.data = .set es ep t)
    {es1 : Array (Int × Value)} {t2 : SetTable} (g1 : ∀ e ∈ es1.toList, GoodX w e) (nd1 : (es1.toList.map txKey).Nodup) (m1 : ∀ k, k ∈ l ↔ k ∈ es1.toList.map txKey)
    (hb1 : es1.size < scanBound) (hf2 : t2.fits es1.size = true) (hn : es1.size ≤ l.length) (hr : Ris t2.place.toList) (hl : w.params.followText "set-order" = true ∨ t2.led = true) {wasDummy : Bool} {R : Option Bool → Shared → Prop}
    (hR : ∀ h', Heap.SameBut a s.heap h' → SetX w h' a l → R (some true) { s with heap := h' }) :
    wpAny (model P w) A (do
        storeSet a es1 t2
        if (!wasDummy && t2.tooFull) = true then do
            g (relayAll t2 es1 (SetTable.grown es1.size)).2.2
            storeSet a (relayAll t2 es1 (SetTable.grown es1.size)).1 (relayAll t2 es1 (SetTable.grown es1.size)).2.1
            pure (some true)
          else pure (some true)) R E s := by
  refine wpAny_bind (wpAny_storeSet_of ho hd ?_ (fits_of_scanBound hb1))
  have ho1 := store_at (es' := es1) (t' := t2) ho hd
  have sb1 := Heap.SameBut.update s.heap a (Obj.putSet es1 t2)
  split
  · have pm := relayAll_perm t2 es1 (SetTable.grown es1.size)
    have hf3 := relayAll_fits t2 es1 (SetTable.grown es1.size)
    have hr3 := relayAll_ris t2 es1 (SetTable.grown es1.size)
    have hl3 := relayAll_led t2 es1 (SetTable.grown es1.size)
    generalize relayAll t2 es1 (SetTable.grown es1.size) = Z at pm hf3 hr3 hl3 ⊢
    obtain ⟨es2, t3, gave⟩ := Z
    dsimp only at pm hf3 hr3 hl3 ⊢
    have hsz : es2.size = es1.size := by rw [← Array.length_toList, pm.length_eq, Array.length_toList]
    have hb2 : es2.size < scanBound := by rw [hsz]; exact hb1
    refine wpAny_bind (hg _ _ _ ?_)
    refine wpAny_bind (wpAny_storeSet_of ho1 rfl ?_ (fits_of_scanBound hb2))
    have ho2 := store_at (es' := es2) (t' := t3) ho1 rfl
    refine wpAny_pure (hR _ (sb1.trans (Heap.SameBut.update _ a _)) ?_)
    exact ⟨_, es2, _, t3, ho2, hex, rfl, fun e he => g1 e (pm.mem_iff.mp he), (pm.map txKey).nodup_iff.mpr nd1, fun k => (m1 k).trans (pm.map txKey).mem_iff.symm, hb2, hf3, by rw [hsz]; exact hn, hr3,
      hl.imp id fun z => by rw [hl3]; exact z⟩
  · exact wpAny_pure (hR _ sb1 ⟨_, es1, _, t2, ho1, hex, rfl, g1, nd1, m1, hb1, hf2, hn, hr, hl⟩)
theorem x_add {k : Str} {tk : Tok} {Q : Bool → Shared → Prop} (R : SetX w s.heap a l) (room : l.length + 1 < scanBound)
    (hQ : ∀ b h', Heap.SameBut a s.heap h' → SetX w h' a (l ++ [k]) → Q b { s with heap := h' }) :
    wpAny (model P w) A (setAddHashed a (.str k tk) ((PySem.strKind P w).hash k)) Q E s := by
  obtain ⟨o, es, ep, t, ho, hex, hd, g, nd, hm, hb, hf, hn, hr, hl⟩ := R
  have hkey : (PySem.strKind P w).is k (.str k tk) = true := x_is k tk
  have hsc : (Value.str k tk).scannable = true := rfl
  have hel : ElemsOf (PySem.strKind P w) es.toList := x_elems g
  unfold setAddHashed setAddHashedIn
  refine wpAny_holding (wpAny_bind (wpAny_setState_of ho hd hf ?_))
  dsimp only
  rw [byScan_of hsc hb hel]
  simp only [↓reduceIte]
  unfold setAddByScan
  refine wpAny_bind ?_
  refine wpAny_bind (wpAny_rule ?_)
  refine wpAny_bind (wpAny_setScan_of hkey ho hd hf hel ?_)
  cases hfi : List.findIdx? (fun e => (PySem.strKind P w).is k e.2) es.toList with
  | some j =>
    dsimp only
    obtain ⟨hj, pj, _⟩ := List.findIdx?_eq_some_iff_getElem.mp hfi
    have hkm : k ∈ es.toList.map txKey := (x_mem (P := P) g k).2 ⟨es.toList[j], List.getElem_mem hj, pj⟩
    refine wpAny_pure (wpAny_pure ?_)
    refine hQ false s.heap (Heap.SameBut.refl a s.heap) ⟨o, es, ep, t, ho, hex, hd, g, nd, fun i => ?_, hb, hf, by rw [List.length_append, List.length_singleton]; omega, hr, hl⟩
    rw [List.mem_append, List.mem_singleton, hm i]
    exact ⟨fun z => z.elim id (fun e => e ▸ hkm), .inl⟩
  | none =>
    dsimp only
    have hnk : k ∉ es.toList.map txKey := fun z => by
      obtain ⟨e, he, q⟩ := (x_mem (P := P) g k).1 z
      have c := List.findIdx?_eq_none_iff.mp hfi e he
      rw [q] at c
      cases c
    have hgw : ∀ (b : Bool) {s₁ : Shared} {Q' : Unit → Shared → Prop}, Q' () s₁ → wpAny (model P w) A (match b with | true => rule "set.scan.the-table-gave-way" | false => pure ()) Q' E s₁ :=
      fun b s₁ Q' q => by cases b <;> first | exact wpAny_pure q | exact wpAny_rule q
    have pm := layNew_perm t es ((PySem.strKind P w).hash k) (.str k tk)
    have hf1 := layNew_fits t es ((PySem.strKind P w).hash k) (.str k tk)
    have hr1 := layNew_ris t es ((PySem.strKind P w).hash k) (.str k tk) hr
    have hl1 := layNew_led t es ((PySem.strKind P w).hash k) (.str k tk)
    generalize layNew t es ((PySem.strKind P w).hash k) (.str k tk) = Z at pm hf1 hr1 hl1 ⊢
    obtain ⟨es1, t1, wasDummy, gave⟩ := Z
    dsimp only at pm hf1 hr1 hl1 ⊢
    rw [Array.toList_push] at pm
    have pc : es1.toList.Perm (((PySem.strKind P w).hash k, Value.str k tk) :: es.toList) := pm.trans (List.perm_append_singleton _ _)
    have pk : (es1.toList.map txKey).Perm (k :: es.toList.map txKey) := pc.map txKey
    have g1 : ∀ e ∈ es1.toList, GoodX w e := fun e he => by
      rcases List.mem_cons.mp (pc.mem_iff.mp he) with z | z
      · rw [z]; exact ⟨k, tk, rfl, rfl⟩
      · exact g e z
    have nd1 : (es1.toList.map txKey).Nodup := pk.nodup_iff.mpr (List.nodup_cons.mpr ⟨hnk, nd⟩)
    have m1 : ∀ i, i ∈ l ++ [k] ↔ i ∈ es1.toList.map txKey := fun i => by
      rw [List.mem_append, List.mem_singleton, hm i, pk.mem_iff, List.mem_cons]
      exact Or.comm
    have hsz : es1.size = es.size + 1 := by rw [← Array.length_toList, pc.length_eq, List.length_cons, Array.length_toList]
    have hn1 : es1.size ≤ (l ++ [k]).length := by rw [List.length_append, List.length_singleton]; omega
    have hb1 : es1.size < scanBound := by omega
    have hled : w.params.followText "set-order" = true ∨ t1.led = true := hl.imp id fun z => by rw [hl1]; exact z
    refine wpAny_bind (hgw _ ?_)
    split
    · refine wpAny_bind ?_
      rw [hashByValue_scannable 8 hsc]
      refine wpAny_pure ?_
      refine x_tail (l := l ++ [k]) ?_ ho hex hd g1 nd1 m1 hb1 ?_ hn1 ?_ ?_ ?_
      · intro b s₁ Q' q; cases b <;> first | exact wpAny_pure q | exact wpAny_rule q
      · first | (split <;> first | exact hf1 | exact SetTable.fits_plain_off hf1) | exact hf1
      · first | (split <;> exact hr1) | exact hr1
      · first | (split <;> exact hled) | exact hled
      · intro h' sb r; dsimp only; exact wpAny_pure (hQ true h' sb r)
    · refine wpAny_bind (wpAny_pure ?_)
      simp only [↓reduceIte]
      refine x_tail (l := l ++ [k]) ?_ ho hex hd g1 nd1 m1 hb1 hf1 hn1 hr1 hled ?_
      · intro b s₁ Q' q; cases b <;> first | exact wpAny_pure q | exact wpAny_rule q
      · intro h' sb r; dsimp only; exact wpAny_pure (hQ true h' sb r)
end

section
variable {P : Program} {w : World} {A : Around} {E : Value → Shared → Prop} {s : Shared}
theorem setX_fresh {h : Heap} {a : Addr} (ho : h.get? a = some { cls := .type "set", dict := none, data := .set #[] 0 (.fresh 0 0 (!w.params.followText "set-order")) }) : SetX w h a [] :=
  ⟨_, #[], 0, _, ho, ⟨rfl, rfl, rfl⟩, rfl, fun e he => by simp at he, List.nodup_nil, fun k => by simp, by show 0 < scanBound; unfold scanBound; omega, rfl, Nat.le_refl _, List.Pairwise.nil, by
    show _ ∨ (!w.params.followText "set-order") = true
    cases w.params.followText "set-order"
    · exact .inr rfl
    · exact .inl rfl⟩
theorem x_update {I : Addr} {fp wr : List Addr} {G : Array GenState → Array GenState → Prop} {n : Nat} {Pv : Nat → Value → Prop} {St : Nat → Shared → Prop} {R : Result → Shared → Prop}
    (W : WalksS P w A.in1 I fp wr G n Pv St) (S : Addr) (hSf : S ∉ fp) (ks : List Str) (hn : n = ks.length) (hfew : ks.length < 64) (hval : ∀ i v, Pv i v → ∃ k t, ks[i]? = some k ∧ v = .str k t)
    (h0 : Heap) (hS0 : h0.get? S = none) (hw0 : ∀ b ∈ wr, h0.get? b = none) :
    ∀ (k i : Nat) (s : Shared), n - i = k → i ≤ n → St i s → (∀ b o, h0.get? b = some o → s.heap.get? b = some o) → SetX w s.heap S (ks.take i) →
      (∀ s', Moved (S :: wr) G s s' → SetX w s'.heap S ks → (∀ b o, h0.get? b = some o → s'.heap.get? b = some o) → R (.ok (.ret .none)) s') →
      codeAny (model P w) A (.builtin "set.update.loop" ⟨[.ref S, .ref I], []⟩) R s := by
  have hSw : S ∉ wr := fun h => hSf (W.sub _ h)
  have hsub : ∀ b ∈ wr, b ∈ S :: wr := fun b hb => List.mem_cons_of_mem _ hb
  have keepM : ∀ {s s' : Shared}, Moved wr G s s' → (∀ b o, h0.get? b = some o → s.heap.get? b = some o) → ∀ b o, h0.get? b = some o → s'.heap.get? b = some o := fun hm hkp b o e =>
    hm.heap b o (fun hb => by rw [hw0 b hb] at e; cases e) (hkp b o e)
  intro k
  induction k with
  | zero =>
    intro i s hk' hi hst hkp hS hR
    have hin : i = n := by omega
    subst hin
    refine codeAny_builtin F.entry_set_update_loop ?_
    rw [Around.under_plainId F.plain_set_update_loop _]
    show wpAny _ A.in1 (pyNext (.ref I) >>= _) _ _ s
    refine wpAny_bind (W.done s _ _ hst fun s' hm => ?_)
    show wpAny _ A.in1 (ret Value.none) _ _ s'
    rw [hn, List.take_length] at hS
    exact wpAny_pure (hR s' (hm.mono hsub) (hS.at fun o e => hm.heap S o hSw e) (keepM hm hkp))
  | succ k ih =>
    intro i s hk' hi hst hkp hS hR
    have hlt : i < n := by omega
    refine codeAny_builtin F.entry_set_update_loop ?_
    rw [Around.under_plainId F.plain_set_update_loop _]
    show wpAny _ A.in1 (pyNext (.ref I) >>= _) _ _ s
    refine wpAny_bind (W.item i s _ _ hlt hst fun v s' hP hst' hm => ?_)
    obtain ⟨kk, tk, hp, rfl⟩ := hval i v hP
    have hkp' := keepM hm hkp
    have hS' : SetX w s'.heap S (ks.take i) := hS.at fun o e => hm.heap S o hSw e
    show wpAny _ A.in1 (holding [Value.str kk tk] (setAdd S (.str kk tk)) >>= _) _ _ s'
    refine wpAny_bind (wpAny_holding ?_)
    unfold setAdd
    refine wpAny_holding ?_
    refine wpAny_bind ((PySem.strKind P w).pyHash (x_is kk tk) ?_)
    refine x_add (P := P) (s := { s' with toks := s'.toks + 1 }) hS' (by rw [List.length_take]; unfold scanBound; omega) fun b h' hsb hS2 => ?_
    have hS3 : SetX w h' S (ks.take (i + 1)) := by
      rw [List.take_succ, hp]
      exact hS2
    have hkp2 : ∀ b o, h0.get? b = some o → h'.get? b = some o := fun b o e => (hsb.2 b (fun z => by rw [z, hS0] at e; cases e)).trans (hkp' b o e)
    refine wpAny_pure ⟨plainId_quiet F.plain_set_update_loop _, ih (i + 1) _ (by omega) hlt (W.frame _ s' _ _ hst' (Nat.le_add_right _ _) fun b hb o e => ?_) hkp2 hS3 fun s'' hm'' hS'' hkp'' => ?_⟩
    · rw [hsb.2 b (fun h : b = S => hSf (by rw [← h]; exact hb))]; exact e
    · refine hR s'' (Moved.trans W.gtrans ((hm.mono hsub).then_heap (Nat.le_add_right _ _) fun b o hb e => ?_) hm'') hS'' hkp''
      rw [hsb.2 b (fun h : b = S => hb (by rw [h]; exact List.mem_cons_self))]; exact e
theorem xs_at : ∀ {us : List Value} {xs : List Str}, StrsAre us xs → ∀ (i : Nat) (v : Value), us[i]? = some v → ∃ k t, xs[i]? = some k ∧ v = .str k t
  | _, _, .nil, i, v, h => by simp at h
  | _, _, .cons k t r, 0, v, h => by
    simp at h
    exact ⟨k, t, rfl, h.symm⟩
  | _, _, .cons k t r, i + 1, v, h => by
    simp at h
    obtain ⟨k2, t2, h1, h2⟩ := xs_at r i v h
    exact ⟨k2, t2, by simpa using h1, h2⟩
/-- set(xs), xs a list of texts -/
theorem call_setX {l : Addr} {items : Array Value} {ks : List Str} {Q : Value → Shared → Prop} (hh : A.handled = none) (hl : s.heap.IsList l items) (hi : StrsAre items.toList ks) (hfew : ks.length < 64)
    (h : ∀ (h' : Heap) (tk : Nat), SetX w h' s.heap.objs.size ks → (∀ b o, s.heap.get? b = some o → h'.get? b = some o) → Q (.ref s.heap.objs.size) { s with heap := h', toks := tk }) :
    wpAny (model P w) A (call (.type "set") [.ref l]) Q E s := by
  have hisz : items.size = ks.length := by
    have q := hi.length
    rw [Array.length_toList] at q
    exact q
  obtain ⟨c, tl, hmro⟩ := F.called_set.mro
  have hmade := F.called_set.made
  have hsub := F.called_set.sub
  refine wpAny_call (codeAny_of_tree ?_)
  show wpAny _ _ (callAny (.type "set") _) _ _ _
  refine wpAny_pure ⟨Code.quiet_builtin _ (by decide +kernel), codeAny_builtin F.entry_type_call ?_⟩
  rw [Around.under_plain (weight_type_call_type "set" [.ref l] []) rfl]
  have h1 := F.called_set.notType
  have h2 := F.called_set.canCreate
  have hct := F.typeCall_set_1 (.ref l)
  repeat (any_goals (first | assumption | wp_step))

  refine codeAny_mono (code_set_led1 (.ref l) (E := E) (Q₁ := fun obj s₁ => obj = .ref s.heap.objs.size ∧ s₁ = { s with heap := s.heap.push { cls := .type "set", dict := none, data := .set #[] 0 (.fresh 0 0 (!w.params.followText "set-order")) } }) ⟨rfl, rfl⟩) fun r s₁ hr => ?_
  cases r with
  | error e => exact hr
  | ok fl =>
    cases fl with
    | ret obj =>
      obtain ⟨rfl, rfl⟩ := hr
      have hS : (s.heap.push { cls := .type "set", dict := none, data := .set #[] 0 (.fresh 0 0 (!w.params.followText "set-order")) }).get? s.heap.objs.size = some { cls := .type "set", dict := none, data := .set #[] 0 (.fresh 0 0 (!w.params.followText "set-order")) } := Heap.get?_push_size _ rfl
      have hT : Shared.TypeIs { s with heap := s.heap.push { cls := .type "set", dict := none, data := .set #[] 0 (.fresh 0 0 (!w.params.followText "set-order")) } } (.ref s.heap.objs.size) "set" := ⟨_, hS, rfl⟩
      have hli := F.called_set.init.lookup
      have hbi := F.called_set.init.bind (.ref s.heap.objs.size)
      repeat (any_goals (first | assumption | wp_step))

      refine codeAny_mono (codeAny_call_builtin (R := wants (fun r s₂ => r = .none ∧ ∃ h' tk, s₂ = { s with heap := h', toks := tk } ∧ SetX w h' s.heap.objs.size ks ∧
          (∀ b o, s.heap.get? b = some o → h'.get? b = some o)) E) F.called_set.init.plain F.entry_set_init (check_set_init_1 hT ?_)) fun r₂ s₂ hr₂ => ?_
      · obtain ⟨ol, hol, hcl, nl, hdl⟩ := hl
        obtain ⟨ocls, odict, odata, oslots⟩ := ol
        simp only at hcl hdl
        subst hcl; subst hdl
        have hol' : (s.heap.push { cls := .type "set", dict := none, data := .set #[] 0 (.fresh 0 0 (!w.params.followText "set-order")) }).get? l = some { cls := .type "list", dict := odict, data := .seq items nl, slots := oslots } := Heap.get?_push_of_some _ hol
        have hsls := F.sub_list_set
        have hslf := F.sub_list_frozenset
        have hne : (Value.type "list" == Value.type "dict") = false := by decide
        have hl1 : (s.heap.push { cls := .type "set", dict := none, data := .set #[] 0 (.fresh 0 0 (!w.params.followText "set-order")) }).IsList l items := ⟨_, hol', rfl, nl, rfl⟩
        unfold Builtin.«set.__init__» noKeywords Builtin.Frozenset.updateFrom
        generalize hPI : pyIter = PI
        wp_walk
        subst hPI

        refine wpAny_pyIter_list hl1 ?_
        refine wpAny_bind (wpAny_runValue ?_)
        have hlS : l < s.heap.objs.size := Heap.lt_size hol
        have hh3 : A.in1.in1.in1.handled = none := by simp [hh]
        have hneI : l ≠ (s.heap.push { cls := .type "set", dict := none, data := .set #[] 0 (.fresh 0 0 (!w.params.followText "set-order")) }).objs.size := by
          rw [Heap.size_push]; exact Nat.ne_of_lt (Nat.lt_succ_of_lt hlS)
        have hSf : s.heap.objs.size ∉ [(s.heap.push { cls := .type "set", dict := none, data := .set #[] 0 (.fresh 0 0 (!w.params.followText "set-order")) }).objs.size, l] := by
          rw [Heap.size_push]; simp only [List.mem_cons, List.mem_singleton, List.not_mem_nil, or_false, not_or]
          exact ⟨Nat.ne_of_lt (Nat.lt_succ_self _), Nat.ne_of_gt hlS⟩
        have hval : ∀ (i : Nat) (v : Value), items[i]? = some v → ∃ k t, ks[i]? = some k ∧ v = .str k t := fun i v hv => by
          have q : items.toList[i]? = some v := by rw [Array.getElem?_toList]; exact hv
          exact xs_at hi i v q
        have none_of : ∀ b, s.heap.objs.size ≤ b → s.heap.get? b = none := fun b hb => by
          cases q : s.heap.get? b with
          | none => rfl
          | some o => exact absurd (Nat.lt_of_lt_of_le (Heap.lt_size q) hb) (Nat.lt_irrefl _)
        refine x_update ((Walks.list hh3 _ l hneI items).toS) s.heap.objs.size
          hSf ks hisz hfew hval s.heap (none_of _ (Nat.le_refl _)) (fun b hb => none_of b (by
            rw [List.mem_singleton.mp hb, Heap.size_push]
            exact Nat.le_succ _)) (items.size - 0) 0 _ (by omega) (Nat.zero_le _)
          ⟨⟨_, Heap.get?_push_size _ rfl, rfl, rfl⟩, (hl1.push _)⟩ (fun b o e => Heap.get?_push_of_some _ (Heap.get?_push_of_some _ e)) ?hS0 ?hR
        case hS0 =>
          exact setX_fresh (Heap.get?_push_of_some _ hS)
        case hR =>
          intro s' hm hS' hkp
          obtain ⟨h', g2, d', tk', os'⟩ := s'
          have eg : g2 = s.gens := hm.gens
          have ed : d' = s.drawn := hm.drawn
          have eo : os' = s.os := hm.os
          subst eg; subst ed; subst eo
          show wpAny _ _ _ _ _ _
          refine wpAny_pure ?_
          show wpAny _ _ (ret Value.none) _ _ _
          exact wpAny_pure ⟨rfl, h', tk', rfl, hS', hkp⟩

      · cases r₂ with
        | error e => exact hr₂
        | ok fl₂ =>
          cases fl₂ with
          | ret r =>
            obtain ⟨rfl, h', tk, rfl, hS', hk'⟩ := hr₂
            repeat (any_goals (first | assumption | wp_step))
            exact h _ _ hS' hk'
          | _ => exact hr₂.elim
    | _ => exact hr.elim

theorem strs_ofX : ∀ (l : List (Int × Value)), (∀ e ∈ l, GoodX w e) → StrsAre (l.map (·.2)) (l.map txKey)
  | [], _ => .nil
  | e :: l, h => by
    obtain ⟨k, tk, h1, h2⟩ := h e List.mem_cons_self
    have h3 := strs_ofX l fun u hu => h u (List.mem_cons_of_mem _ hu)
    obtain ⟨x, v⟩ := e
    cases h1
    exact .cons k tk h3
theorem strs_perm {us : List Value} {vs : List Value} (p : vs.Perm us) : ∀ {xs : List Str}, StrsAre us xs → ∃ ys, StrsAre vs ys ∧ ys.Perm xs := by
  induction p with
  | nil => intro xs h; exact ⟨xs, h, List.Perm.refl _⟩
  | cons x p ih =>
    intro xs h
    cases h with
    | cons k t r =>
      obtain ⟨ys, h1, h2⟩ := ih r
      exact ⟨k :: ys, .cons k t h1, h2.cons k⟩
  | swap x y l =>
    intro xs h
    cases h with
    | cons k t r =>
      cases r with
      | cons k2 t2 r => exact ⟨k2 :: k :: _, .cons k2 t2 (.cons k t r), List.Perm.swap k k2 _⟩
  | trans p q ih1 ih2 =>
    intro xs h
    obtain ⟨ys, h1, h2⟩ := ih2 h
    obtain ⟨zs, h3, h4⟩ := ih1 h1
    exact ⟨zs, h3, h4.trans h2⟩
theorem sorted_setX {a : Addr} {l : List Str} {Q : Value → Shared → Prop} (R : SetX w s.heap a l) (hh : A.handled = none) (h64 : l.length < 64)
    (hQ : ∀ s' p (out : Array Value) (c : Nat) (ys : List Str), (∀ b o, s.heap.get? b = some o → s'.heap.get? b = some o) → s'.gens = s.gens → s'.os = s.os → s.heap.objs.size ≤ p →
      s'.heap.get? p = some (seqObj "list" out c) → StrsAre out.toList ys → sortedS ys = true → ys.Nodup → (∀ k, k ∈ ys ↔ k ∈ l) → ys.length < 64 → Q (.ref p) s') :
    wpAny (model P w) A (call (.builtin "sorted") [.ref a]) Q E s := by
  obtain ⟨o, es, ep, t, ho, hex, hd, g, nd, hm, hb, hf, hn, hr, hl⟩ := R
  refine Calls.call_function_entry kind_sorted plain_sorted entry_sorted (args_sorted1 _) ?_
  unfold Builtin.«sorted»
  refine wpAny_bind (m := checkCount "sorted" 1 1 _) (wpAny_pure ?_)
  refine wpAny_bind (collect_set (A := A.in1) hh ⟨o, ho, hex.1, hd⟩ hf hb hr hl fun s1 vs k1 hz g1 o1 pm => ?_)
  have hvl : vs.length = es.size := by rw [pm.length_eq, List.length_map, Array.length_toList]
  obtain ⟨xs, hI, px⟩ := strs_perm pm (strs_ofX es.toList g)
  refine wpAny_bind (wpAny_newList ?_ (by rw [hvl, sizeLine_eq]; omega))
  have hoL : (s1.heap.push (seqObj "list" vs.toArray 0)).get? s1.heap.objs.size = some (seqObj "list" vs.toArray 0) := Heap.get?_push_size _ rfl
  refine wpAny_bind (wpAny_holding (wpAny_call_entry slot_list_sort ⟨_, hoL, rfl⟩ entry_list_sort (list_sort_treeK (s := { s1 with heap := s1.heap.push (seqObj "list" vs.toArray 0) }) strKind_oneLt hoL hI.keysOf (fun v₁ v₂ rest e => keyKind_strs (by rw [← e]; exact hI)) (by rw [hvl]; omega) fun st' hp hs => ⟨_, rfl, ?_⟩) (args_list_sort _)))
  obtain ⟨ys, a1, a2, a3⟩ := sorted_out_str hI hp hs
  generalize (arrOf st').map (·.2) = out at a1 ⊢
  obtain ⟨c, hc⟩ := sortedHeap_at (vs := vs) (out := out) hoL
  have pn : ys.Perm (es.toList.map txKey) := a2.trans px
  refine wpAny_pure ⟨_, rfl, hQ _ s1.heap.objs.size out c ys (fun b u e => ?_) g1 o1 hz hc a1 a3 (pn.nodup_iff.mpr nd) (fun k => by rw [pn.mem_iff, ← hm k]) ?_⟩
  · have q := k1 b u e
    have hlt := Heap.lt_size q
    show (sortedHeap (s1.heap.push (seqObj "list" vs.toArray 0)) s1.heap.objs.size vs out).get? b = some u
    rw [sortedHeap_old (Nat.ne_of_lt hlt) (by rw [size_push']; exact Nat.lt_succ_of_lt hlt)]
    exact Heap.get?_push_of_some _ q
  · rw [pn.length_eq, List.length_map, Array.length_toList]; omega
end
/-- the set of texts as a thing of the heap -/
def SetXO (w : World) (a : Addr) (l : List Str) : HO := .ext fun h => SetX w h a l
theorem setXO_new {w : World} {P : Program} {H : Hp} {h : Heap} {a : Addr} {l : List Str} (R : SetX w h a l) : ObjOk P w H h a (SetXO w a l) := by
  have ⟨o, es, ep, t, ho, r⟩ := R
  exact ⟨R, ⟨o, ho⟩, fun h1 h2 p k => SetX.at p k⟩
section
variable {X : Cx}
/-- set(xs), xs a list of texts -/
def rSetX (K : PySem.W.Frag) (w : World) : List V → Hp → VK → Prop := fun xs H Q => ∃ (l : Addr) (ks : List Str), xs = [V.ref l] ∧ SqL K H l (ks.map V.str) ∧ ks.length < 64 ∧
  ∀ a, H a = none → Q (.ref a) (upd H a (SetXO w a ks))
theorem cr_setX (hc : X.calm = true) : CallR X (.type "set") (rSetX X.K X.w) := by
  intro pins s σ H xs us Q I r h
  obtain ⟨l, ks, rfl, hl, hf, q⟩ := h
  rw [Vals.ref1 r]
  obtain ⟨its, rv, pl, hz⟩ := I.list hl
  have hn : H s.heap.objs.size = none := I.hok.fresh (Nat.le_refl _)
  refine call_setX (P := X.prog) (w := X.w) (I.ok.hd hc) pl.isList (by simpa using rv.strs) hf fun h' tk R k => ?_
  exact ⟨.ref s.heap.objs.size, upd H s.heap.objs.size (SetXO X.w s.heap.objs.size ks), I.laid (t' := tk) k (Nat.le_refl _) (setXO_new R), rfl, q _ hn⟩
/-- sorted(set) -/
def rSortX (w : World) : List V → Hp → VK → Prop := fun vs H Q => ∃ (a : Addr) (l : List Str), vs = [V.ref a] ∧ H a = some (SetXO w a l) ∧ l.length < 64 ∧
  ∀ (ys : List Str) (p : Addr), sortedS ys = true → ys.Nodup → (∀ k, k ∈ ys ↔ k ∈ l) → ys.length < 64 → H p = none → Q (.ref p) (upd H p (.lst (ys.map V.str)))
theorem cr_sortX (hc : X.calm = true) : CallR X (.builtin "sorted") (rSortX X.w) := by
  intro pins s σ H vs us Q I r h
  obtain ⟨a, l, rfl, ha, h64, q⟩ := h
  have R : SetX X.w s.heap a l := (I.hok a _ ha).1
  rw [Vals.ref1 r]
  refine sorted_setX (P := X.prog) R (I.ok.hd hc) h64 fun s' p out c ys k g o hp hg hi hs hnd hm hl => ?_
  have hlen : (ys.map V.str).length ≤ sizeLine := by rw [List.length_map, sizeLine_eq]; omega
  have hn : H p = none := I.hok.fresh hp
  have J : Inv X pins σ (upd H p (.lst (ys.map V.str))) { s with heap := s'.heap, gens := s'.gens, drawn := s'.drawn, toks := s'.toks } :=
    I.call (ch := []) (Un.laid k hp hn) (I.hok.laid k hp ⟨hlen, out.toList, c, vals_of_strs hi, hg⟩) (by rw [g]; exact I.bare) (fun _ z => nomatch z)
  have e : s' = { s with heap := s'.heap, gens := s'.gens, drawn := s'.drawn, toks := s'.toks } := by
    cases s'
    cases s
    cases o
    rfl
  rw [e]
  exact ⟨.ref p, _, J, rfl, q ys p hs hnd hm hl hn⟩
end
end Sh
set_option Elab.async false
set_option linter.all false
set_option maxRecDepth 100000
set_option maxHeartbeats 4000000
namespace Sh
open PySem PySem.Spec PyProof.Rows L2
open SX (S S_inj S_len S_cat)
open Bk (Rule left Wf Reach Step IsEnd)
local macro_rules | `(tactic| walk_at "nx") => `(tactic| repeat (with_reducible first | refine Sh.gn_mk ?_ | refine Sh.nx_mk ?_ | refine Sh.st_nx ?_ | refine Sh.rt_mk ?_ | refine Sh.ct_mk ?_ | refine Sh.bk_mk ?_))
local macro_rules | `(tactic| walk_at "sq") => `(tactic| first | exact SqL.of upd_same | exact SqT.of upd_same | exact SqL.of (by assumption) | exact SqT.of (by assumption) | assumption | exact Or.inl (SqL.of (by assumption)) | exact Or.inr (SqT.of (by assumption)) | exact Or.inl (by assumption) | exact Or.inr (by assumption))
local macro_rules | `(tactic| walk_at "hp") => `(tactic| first | exact upd_same | assumption)
local macro_rules | `(tactic| walk_at "sz") => `(tactic| first | exact Nat.le_of_ble_eq_true rfl | omega)
local macro_rules | `(tactic| walk_at "sd") => `(tactic| first | omega | exact rfl | assumption | (show (0 : Int) < _; omega) | exact And.intro (by omega) (by omega) | exact Or.inl (And.intro (by omega) (by omega)) | exact Or.inr (And.intro (by omega) (by omega)) | omega | exact Sh.sz_S (by omega) | decide)
local macro_rules | `(tactic| walk_at "rd1") => `(tactic| first
  | (with_reducible first | refine Sh.gn_mk ?_ | refine Sh.nx_mk ?_ | refine Sh.st_nx ?_ | refine Sh.rt_mk ?_ | refine Sh.ct_mk ?_ | refine Sh.bk_mk ?_)
  | refine Exists.intro (α := V) _ (And.intro rfl ?_)
  | refine Exists.intro (α := Bool) _ (And.intro rfl ?_)
  | refine Exists.intro (α := Int) _ (And.intro rfl ?_)
  | refine Exists.intro (α := PySem.Str) _ (And.intro rfl ?_)
  | refine Exists.intro (α := Int) _ (Exists.intro (α := Int) _ (And.intro rfl (And.intro rfl ?_)))
  | refine Exists.intro (α := PySem.Str) _ (Exists.intro (α := PySem.Str) _ (And.intro rfl (And.intro rfl ?_)))
  | refine Exists.intro (α := Int) _ (Exists.intro (α := Int) _ (And.intro rfl ?_))
  | refine Or.inl (Exists.intro (α := Int) _ (And.intro rfl ?_))
  | refine Exists.intro _ (Exists.intro _ (Exists.intro _ (Exists.intro _ (And.intro rfl (And.intro rfl (And.intro (by walk_at "sq") (And.intro rfl ?_)))))))
  | refine Exists.intro _ (Exists.intro _ (Exists.intro _ (Exists.intro _ (And.intro rfl (And.intro rfl (And.intro (by walk_at "hp") (And.intro rfl ?_)))))))
  | refine And.intro (by walk_at "sd") ?_
  )
local macro_rules | `(tactic| walk_at "rd") => `(tactic| repeat walk_at "rd1")
local macro_rules | `(tactic| walk_at "lk") => `(tactic| first | exact rfl | (rw [lookup_putF, if_pos rfl]) | (rw [lookup_putF, if_neg (by decide +kernel)]; walk_at "lk"))

theorem vmap_app (ls : List (List Nat)) (u : List Nat) : (ls.map fun u => V.str (S u)) ++ [V.str (S u)] = (ls ++ [u]).map fun u => V.str (S u) := by rw [List.map_append]; rfl
section
variable {P : Program} {w : World} {K : PySem.W.Frag} {mg : Str → Option Value} {base : Heap} {CB XT FT DT XM FM : Addr}
def spBelow (K : PySem.W.Frag) (C XM : Addr) : Sp := fun vs H Q E => ∃ (p : Addr) (sg t : List Nat) (R : List Rule), vs = [.ref p, .str (S t)] ∧ BookAt K C H p sg R ∧ BookOk sg R ∧ t.length ≤ 60 ∧
  (∀ L : List (List Nat), L.Nodup → (∀ u ∈ L, Reach R t u) → 2000 < L.length → ∀ H', Same H H' → Thrown E H' XM "word" (.str "text")) ∧
  ∀ (L : List (List Nat)) (q : Addr) (H' : Hp), Bel R t L → L.length ≤ 2000 → H' q = some (.lst (L.map fun u => V.str (S u))) → Same H H' → Q (.ref q) H'
theorem c_X_all_below (T : TxtX P K mg CB XT FT DT XM FM) : Cal P w K mg base (L2.CX P w) 3 "all_below" (spBelow K CB XM) := by
  have x_TooMany := x_TooMany (P := P) (w := w) (base := base) T
  have c_all_steps := c_all_steps (P := P) (w := w) (base := base) T.toTxtC
  have c_made_step := c_made_step (P := P) (w := w) (base := base) T.toTxtC
  refine Cal.mkX T.toTxtC.toTxt.d_all_below sc_all_below (fun vs H Q E h => ?_) (fun f cdv A outer s H vs Q E hr h => ?_)
  · obtain ⟨p, sg, t, R, rfl, _⟩ := h
    rfl
  · obtain ⟨p, sg, t, R, rfl, BA, hB, ht, kx, k⟩ := h
    have hu := hu_of hr
    have hw := hB.wf
    have big : (100000 : Nat) ≤ sizeLine := by decide
    refine ⟨_, (pss_cons (ps_set (i := 2) sc_all_below.nd rfl (Or.inl rfl) (pe_disp (pps_cons (pv 1) pe_bl pps_nil) (by rfl) (by rfl) (fun z => by cases z) (by decide)))
  (pss_cons (ps_set (i := 3) sc_all_below.nd rfl (Or.inl rfl) (pe_lst (pa_cons (pv 1) pa_nil)))
  (pss_cons (ps_while (passes_of rfl) (pt_truth (pv 3) (by intro _; rfl))
    (pss_cons (ps_set (i := 4) sc_all_below.nd rfl (Or.inl rfl) (pe_bm0 PySem.F.plainAttrs_list PySem.F.slot_list_pop PySem.F.type_list_pop mt_pop (pv 3)))
    (pss_one (ps_for (passes_of rfl) rfl (pi_list (pe_c c_all_steps hr (by decide) rfl (pa_cons (pv 0) (pa_cons (pv 4) pa_nil)))) (pg_tup (by rfl) (pgs_cons (pg_name (i := 5) sc_all_below.nd rfl (Or.inl rfl)) (pgs_cons (pg_name (i := 6) sc_all_below.nd rfl (Or.inl rfl)) pgs_nil)))
      (pss_cons (ps_set (i := 7) sc_all_below.nd rfl (Or.inl rfl) (pe_c c_made_step hr (by decide) rfl (pa_cons (pv 0) (pa_cons (pv 4) (pa_cons (pv 5) (pa_cons (pv 6) pa_nil))))))
      (pss_one (ps_if (pt_cmp (pc_dnotin hu (pv 7) (pv 2)))
        (pss_cons (ps_dput hu (pv 2) (pv 7) pe_bl rfl)
        (pss_cons (ps_expr (pe_bm PySem.F.plainAttrs_list PySem.F.slot_list_append PySem.F.type_list_append mt_append (pv 3) (pa_cons (pv 7) pa_nil)))
        (pss_one (ps_if (pt_cmpR op_gt (pe_callB call_lenD (by rfl) T.b_len (by decide +kernel) (pa_cons (pv 2) pa_nil)) (pe_gK rfl T.g_MOST_TEXTS) (nomark _))
          (pss_one (ps_raiseX T.e_TooMany x_TooMany hr (by decide) rfl (takes_of rfl rfl rfl rfl) rfl (pa_cons pe_str pa_nil)))
          pss_nil))))
        pss_nil)))))))
  (pss_one (ps_ret (pe_callTy (call_list_dK rfl) (by rfl) T.b_list (by decide +kernel) (pa_cons (pv 2) pa_nil))))))), ?_⟩
    intro d hd
    have s1 := same_new (o := .dK []) hd
    have e1 : (upd H d (.dK [])) d = some (.dK []) := upd_same
    refine ⟨_, rfl, e1, [((Sum.inr (S t) : Key), .bl true)], rfl, by show 1 ≤ 15; decide, ?_⟩
    have e2 : (upd (upd H d (.dK [])) d (.dK (mergeK [] [((Sum.inr (S t) : Key), .bl true)]))) d = some (.dK (setK [t])) := upd_same
    have s2 : Same H (upd (upd H d (.dK [])) d (.dK (mergeK [] [((Sum.inr (S t) : Key), .bl true)]))) := same_mut s1 hd
    generalize upd (upd H d (.dK [])) d (.dK (mergeK [] [((Sum.inr (S t) : Key), .bl true)])) = H1 at e2 s2 ⊢
    clear e1 s1
    walk_at "nx"
    refine ⟨_, rfl, ?_⟩
    refine tNil_mk ?_
    refine ⟨by walk_at "sz", fun q hq => ?_⟩
    have s3 := same_new (o := .lst [.str (S t)]) hq
    have e3 : (upd H1 q (.lst [.str (S t)])) q = some (.lst [.str (S t)]) := upd_same
    have hqd : d ≠ q := ne_of_none e2 hq
    have hq0 : H q = none := same_none s2 hq
    have e4 := s3 _ _ e2
    have s4 := s2.trans s3
    generalize upd H1 q (.lst [.str (S t)]) = H2 at e3 e4 s4 ⊢
    clear e2 s2 s3 hq
    walk_at "nx"
    refine ⟨fun m σ H' => ∃ (ls ws : List (List Nat)) (v4 v5 v6 v7 : Option V), σ = [some (.ref p), some (.str (S t)), some (.ref d), some (.ref q), v4, v5, v6, v7] ∧ m = 2 * (2001 - ls.length) + ws.length ∧ m ≤ 4001 ∧ ls.length ≤ 2000 ∧ H' d = some (.dK (setK ls)) ∧ H' q = some (.lst (ws.map fun u => V.str (S u))) ∧ Same H H' ∧ Srch R t ls ws (fun _ => False), ⟨_, [t], [t], _, _, _, _, rfl, rfl, by show 2 * (2001 - 1) + 1 ≤ 4001; decide, by show 1 ≤ 2000; decide, e4, e3, s4, Srch.start⟩, ?_⟩
    clear e3 e4 s4
    rintro m σ H3 ⟨ls, ws, v4, v5, v6, v7, rfl, rfl, hm4, hl, hd3, hq3, s3, sr⟩
    rcases List.eq_nil_or_concat ws with rfl | ⟨ws, x, rfl⟩
    · refine ⟨_, rfl, false, .inl ⟨[], SqL.of hq3, rfl⟩, ?_⟩
      refine iteF ?_
      walk_at "nx"
      refine ⟨_, rfl, ?_⟩
      refine tNil_mk ?_
      refine ⟨d, _, rfl, hd3, fun z hz => ?_⟩
      refine k ls z _ sr.fin hl ?_ (s3.trans (same_new hz))
      rw [upd_same]
      unfold setK
      rw [List.map_map]
      rfl
    · have hxl : x.length ≤ 60 := by
        have hx := sr.rch x (sr.sub x (by simp))
        rcases reach_short hw hx with rfl | h <;> omega
      have hxr : Reach R t x := sr.rch x (sr.sub x (by simp))
      rw [List.concat_eq_append] at sr hq3 hm4 ⊢
      rw [List.length_append, List.length_singleton] at hm4
      have hwl : ws.length + 1 ≤ ls.length ∨ True := .inr trivial
      refine ⟨_, rfl, true, .inl ⟨_, SqL.of hq3, by simp⟩, ?_⟩
      refine iteT ⟨_, fun _ _ h => h, ?_⟩
      refine ⟨_, rfl, ?_⟩
      refine ⟨.inl ⟨rfl, _, SqL.of hq3⟩, q, _, .str (S x), rfl, rfl, hq3, by simp, ?_⟩
      have hdl : ((ws ++ [x]).map fun u => V.str (S u)).dropLast = ws.map fun u => V.str (S u) := by simp
      rw [hdl]
      have hd4 : (upd H3 q (.lst (ws.map fun u => V.str (S u)))) d = some (.dK (setK ls)) := by rw [upd_ne hqd]; exact hd3
      have hq4 : (upd H3 q (.lst (ws.map fun u => V.str (S u)))) q = some (.lst (ws.map fun u => V.str (S u))) := upd_same
      have s4 : Same H (upd H3 q (.lst (ws.map fun u => V.str (S u)))) := same_mut s3 hq0
      generalize upd H3 q (.lst (ws.map fun u => V.str (S u))) = H4 at hd4 hq4 s4 ⊢
      have sr4 := sr.pop
      clear hd3 hq3 s3 sr hdl
      walk_at "nx"
      refine ⟨_, rfl, _, rfl, ?_⟩
      refine tNil_mk ?_
      refine ⟨p, sg, x, R, rfl, BA.same s4, hB.2.1, fun r hr => (hB.2.2.1 r hr).2.1, hxl, fun st xs H5 hst s5 h5 it5 => ?_⟩
      have s05 := s4.trans s5
      refine ⟨st, rfl, ⟨_, SqL.of h5⟩, ?_⟩
      have hd5 := s5 _ _ hd4
      have hq5 := s5 _ _ hq4
      have hstq : st ≠ q := (ne_of_none hq4 hst).symm
      have hstd : st ≠ d := (ne_of_none hd4 hst).symm
      have kpI : ∀ {H6 : Hp}, (∀ b o, b ≠ d → b ≠ q → H5 b = some o → H6 b = some o) → Items StpV H6 xs (Bk.stI R x x.length) := fun b => it5.mono fun y z ⟨c, e, hc⟩ => ⟨c, e, b _ _ (ne_of hc hd5 (by intro w; cases w)) (ne_of hc hq5 (by intro w; cases w)) hc⟩
      refine for_lstR (K := K) (a := st) (xs := xs) (l := Bk.stI R x x.length) (Rel := StpV) it5.1 (fun pre σ H6 => ∃ (ls' ws' : List (List Nat)) (v5 v6 v7 : Option V), σ = [some (.ref p), some (.str (S t)), some (.ref d), some (.ref q), some (.str (S x)), v5, v6, v7] ∧ 2 * (2001 - ls'.length) + ws'.length + 1 ≤ 2 * (2001 - ls.length) + (ws ++ [x]).length ∧ ls'.length ≤ 2000 ∧ H6 d = some (.dK (setK ls')) ∧ H6 q = some (.lst (ws'.map fun u => V.str (S u))) ∧ Same H H6 ∧ (∀ b o, b ≠ d → b ≠ q → H5 b = some o → H6 b = some o) ∧ Srch R t ls' ws' (fun u => u = x) ∧ ∀ i j r, (i, j) ∈ pre → R[j]? = some r → madeS r x i ∈ ls')
        ⟨ls, ws, _, _, _, rfl, by rw [List.length_append]; exact Nat.le_refl _, hl, hd5, hq5, s05, fun _ _ _ _ h => h, sr4, fun i j r h => by cases h⟩ (fun pre σ H6 ⟨_, _, _, _, _, _, _, _, _, _, _, kp, _⟩ => ⟨SqL.of (kp _ _ hstd hstq h5), fun i y z h1 h2 => (kpI kp).2 i y z h1 h2⟩) ?_ ?_
      · rintro pre ⟨i, j⟩ post y σ H6 est hy ⟨c, rfl, hc⟩ ⟨ls', ws', v5, v6, v7, rfl, hm, hl', hd6, hq6, s6, kp, sr6, hpre⟩
        obtain ⟨hi, r, hjr, hfit⟩ := stI_mem (R := R) (t := x) (i := i) (j := j) (by rw [est]; simp)
        have hrm := List.mem_of_getElem? hjr
        have hr4 := (hB.2.2.1 r hrm).2.1
        have hr1 := (hw r hrm).2
        have hst := made_step hrm hfit
        have hrch : Reach R t (madeS r x i) := hxr.trans (.step hst (.refl _))
        have hml : (madeS r x i).length ≤ 60 := by have := step_short hw hst; omega
        refine ⟨c, _, rfl, SqT.of hc, rfl, _, _, rfl, _, _, rfl, rfl, ?_⟩
        walk_at "nx"
        refine ⟨_, rfl, _, rfl, _, rfl, _, rfl, ?_⟩
        refine tNil_mk ?_
        refine ⟨p, sg, R, x, i, j, r, rfl, BA.same s6, hjr, by omega, hr4, by omega, ?_⟩
        generalize hy2 : madeS r x i = y at hrch hml
        walk_at "nx"
        refine if_K (decide (y ∉ ls')) (fun Q' hQ => ?_) (fun hb => ?_) (fun hb => ?_)
        · refine ⟨_, rfl, _, rfl, d, _, rfl, DGet.k (k := Sum.inr (S y)) hd6, ?_⟩
          rw [setK_val]
          refine ⟨_, rfl, ?_⟩
          rw [show (!(if y ∈ ls' then some (V.bl true) else none).isSome) = decide (y ∉ ls') by by_cases h : y ∈ ls' <;> simp [h]]
          exact hQ
        · have hnew := of_decide_eq_true hb
          walk_at "nx"
          have hlen : (setK ls').length = ls'.length := by unfold setK; rw [List.length_map]
          refine ⟨_, rfl, _, rfl, d, _, rfl, DPut.k (k := Sum.inr (S y)) hd6 (by rw [hlen]; exact Nat.lt_of_le_of_lt (m := 2000) hl' (by decide)), ?_⟩
          rw [setK_put, show addL ls' y = ls' ++ [y] from if_neg hnew]
          have hd7 : (upd H6 d (.dK (setK (ls' ++ [y])))) d = some (.dK (setK (ls' ++ [y]))) := upd_same
          have hq7 : (upd H6 d (.dK (setK (ls' ++ [y])))) q = some (.lst (ws'.map fun u => V.str (S u))) := by rw [upd_ne hqd.symm]; exact hq6
          have s7 : Same H (upd H6 d (.dK (setK (ls' ++ [y])))) := same_mut s6 hd
          have kp7 : ∀ b o, b ≠ d → b ≠ q → H5 b = some o → (upd H6 d (.dK (setK (ls' ++ [y])))) b = some o := fun b o h1 h2 h3 => by rw [upd_ne h1]; exact kp b o h1 h2 h3
          generalize upd H6 d (.dK (setK (ls' ++ [y]))) = H7 at hd7 hq7 s7 kp7 ⊢
          have sr7 := sr6.more hnew hrch
          have hwl' : ws'.length ≤ ls'.length ∨ True := .inr trivial
          walk_at "nx"
          refine ⟨_, rfl, .inl ⟨rfl, _, SqL.of hq7⟩, ?_⟩
          refine ⟨_, rfl, ?_⟩
          refine tNil_mk ?_
          refine ⟨q, _, _, rfl, rfl, hq7, by rw [List.length_map]; exact Nat.lt_of_le_of_lt (m := 5000) (by rw [List.length_append, List.length_singleton] at hm; omega) (by decide), ?_⟩
          rw [vmap_app]
          have hd8 : (upd H7 q (.lst ((ws' ++ [y]).map fun u => V.str (S u)))) d = some (.dK (setK (ls' ++ [y]))) := by rw [upd_ne hqd]; exact hd7
          have s8 : Same H (upd H7 q (.lst ((ws' ++ [y]).map fun u => V.str (S u)))) := same_mut s7 hq0
          have kp8 : ∀ b o, b ≠ d → b ≠ q → H5 b = some o → (upd H7 q (.lst ((ws' ++ [y]).map fun u => V.str (S u)))) b = some o := fun b o h1 h2 h3 => by rw [upd_ne h2]; exact kp7 b o h1 h2 h3
          have hq8 : (upd H7 q (.lst ((ws' ++ [y]).map fun u => V.str (S u)))) q = some (.lst ((ws' ++ [y]).map fun u => V.str (S u))) := upd_same
          generalize upd H7 q (.lst ((ws' ++ [y]).map fun u => V.str (S u))) = H8 at hd8 hq8 s8 kp8 ⊢
          have hln : (setK (ls' ++ [y])).length = ls'.length + 1 := by unfold setK; rw [List.length_map, List.length_append]; rfl
          walk_at "nx"
          refine if_K (decide (2000 < ls'.length + 1)) (fun Q' hQ => ?_) (fun hb2 => ?_) (fun hb2 => ?_)
          · refine ⟨_, rfl, ?_⟩
            refine tNil_mk ?_
            refine ⟨d, _, rfl, hd8, ?_⟩
            rw [hln]
            refine ⟨_, _, rfl, rfl, _, rfl, ?_⟩
            rw [show decide ((2000 : Int) < ((ls'.length + 1 : Nat) : Int)) = decide (2000 < ls'.length + 1) from decide_eq_decide.mpr (by omega)]
            exact hQ
          · have hbig := of_decide_eq_true hb2
            exact mk1 T.e_TooMany T.nf_TooMany_word rfl (kx (ls' ++ [y]) sr7.nd sr7.rch (by simp; omega) _ s8)
          · have hsm := of_decide_eq_false hb2
            walk_at "nx"
            refine ⟨ls' ++ [y], ws' ++ [y], _, _, _, rfl, by simp at hm ⊢; omega, by simp; omega, hd8, hq8, s8, kp8, sr7, fun i2 j2 r2 h1 h2 => ?_⟩
            rcases List.mem_append.mp h1 with h1 | h1
            · exact List.mem_append_left _ (hpre i2 j2 r2 h1 h2)
            · rw [List.mem_singleton] at h1
              cases h1
              rw [hjr] at h2
              cases h2
              rw [hy2]
              simp
        · have hold : y ∈ ls' := by
            by_cases h : y ∈ ls'
            · exact h
            · rw [decide_eq_true h] at hb
              cases hb
          walk_at "nx"
          refine ⟨ls', ws', _, _, _, rfl, hm, hl', hd6, hq6, s6, kp, sr6, fun i2 j2 r2 h1 h2 => ?_⟩
          rcases List.mem_append.mp h1 with h1 | h1
          · exact hpre i2 j2 r2 h1 h2
          · rw [List.mem_singleton] at h1
            cases h1
            rw [hjr] at h2
            cases h2
            rw [hy2]
            exact hold
      · rintro σ H6 ⟨ls', ws', v5, v6, v7, rfl, hm, hl', hd6, hq6, s6, kp, sr6, hpre⟩
        refine ⟨2 * (2001 - ls'.length) + ws'.length, by omega, ls', ws', _, _, _, _, rfl, rfl, by rw [List.length_append, List.length_singleton] at hm; omega, hl', hd6, hq6, s6, sr6.back fun v s => ?_⟩
        obtain ⟨i, j, r, h1, h2, rfl⟩ := step_made hw s
        exact hpre i j r h1 h2
end
end Sh
set_option Elab.async false
set_option linter.all false
set_option maxRecDepth 100000
set_option maxHeartbeats 3200000
/-! tables of sets, up to 8192 slots -/
namespace Sh
open PySem PySem.Spec PyProof.Rows L2
/-! ### the round of i -> 5 i + 1, told by bits: a number holds the bits of what was met, and the place -/
def rdStep (m s : Nat) : Nat := (((s >>> 14) ||| (1 <<< (s % 16384))) <<< 14) + ((s % 16384) * 5 + 1) % (m + 1)
def rdGo (m : Nat) : Nat → Nat → Nat
  | 0, s => s
  | n + 1, s => match rdStep m s with
    | 0 => rdGo m n 0
    | z + 1 => rdGo m n (z + 1)
def rdGo64 (m : Nat) : Nat → Nat → Nat
  | 0, s => s
  | n + 1, s => match rdGo m 64 s with
    | 0 => rdGo64 m n 0
    | z + 1 => rdGo64 m n (z + 1)
/-- the same without the haste -/
def rdIt (m : Nat) : Nat → Nat → Nat
  | 0, s => s
  | n + 1, s => rdIt m n (rdStep m s)
theorem rdGo_it (m : Nat) : ∀ n s, rdGo m n s = rdIt m n s
  | 0, _ => rfl
  | n + 1, s => by
    show (match rdStep m s with | 0 => rdGo m n 0 | z + 1 => rdGo m n (z + 1)) = rdIt m n (rdStep m s)
    rw [← rdGo_it m n (rdStep m s)]
    cases rdStep m s <;> rfl
theorem rdIt_app (m : Nat) : ∀ a b s, rdIt m b (rdIt m a s) = rdIt m (a + b) s
  | 0, b, s => by rw [Nat.zero_add]; rfl
  | a + 1, b, s => by
    rw [Nat.succ_add]
    exact rdIt_app m a b (rdStep m s)
theorem rdGo64_it (m : Nat) : ∀ n s, rdGo64 m n s = rdIt m (64 * n) s
  | 0, _ => rfl
  | n + 1, s => by
    show (match rdGo m 64 s with | 0 => rdGo64 m n 0 | z + 1 => rdGo64 m n (z + 1)) = _
    rw [show 64 * (n + 1) = 64 + 64 * n by omega, ← rdIt_app, ← rdGo64_it m n, ← rdGo_it m 64 s]
    cases rdGo m 64 s <;> rfl
theorem rdIt_last (m : Nat) (n s : Nat) : rdIt m (n + 1) s = rdStep m (rdIt m n s) := (rdIt_app m n 1 s).symm
theorem lcg_le (m : Nat) : ∀ k, lcgN m k ≤ m
  | 0 => Nat.zero_le _
  | k + 1 => Nat.le_of_lt_succ (Nat.mod_lt _ (Nat.succ_pos _))
theorem rd_met {m : Nat} (hm : m < 16384) : ∀ k, ∃ B, rdIt m k 0 = B * 16384 + lcgN m k ∧ ∀ j, B.testBit j = true → ∃ b, b < k ∧ lcgN m b = j
  | 0 => ⟨0, rfl, fun j hj => by simp at hj⟩
  | k + 1 => by
    obtain ⟨B, e, hB⟩ := rd_met hm k
    have hx := lcg_le m k
    refine ⟨B ||| (1 <<< lcgN m k), ?_, fun j hj => ?_⟩
    · rw [rdIt_last, e]
      unfold rdStep
      have h1 : (B * 16384 + lcgN m k) >>> 14 = B := by
        rw [Nat.shiftRight_eq_div_pow]
        omega
      have h2 : (B * 16384 + lcgN m k) % 16384 = lcgN m k := by omega
      rw [h1, h2, Nat.shiftLeft_eq]
      rfl
    · rw [Nat.testBit_or, Bool.or_eq_true] at hj
      rcases hj with hj | hj
      · obtain ⟨b, h1, h2⟩ := hB j hj
        exact ⟨b, by omega, h2⟩
      · rw [Nat.one_shiftLeft, Nat.testBit_two_pow] at hj
        exact ⟨k, Nat.lt_succ_self k, of_decide_eq_true hj⟩
theorem rd_all {m : Nat} (hm : m < 16384) (h : rdIt m (m + 1) 0 = (2 ^ (m + 1) - 1) * 16384) : lcgN m (m + 1) = 0 ∧ ∀ j, j ≤ m → ∃ b, b ≤ m ∧ lcgN m b = j := by
  obtain ⟨B, e, hB⟩ := rd_met hm (m + 1)
  have hx := lcg_le m (m + 1)
  rw [h] at e
  have hB2 : B = 2 ^ (m + 1) - 1 := by omega
  refine ⟨by omega, fun j hj => ?_⟩
  obtain ⟨b, h1, h2⟩ := hB j (by rw [hB2, Nat.testBit_two_pow_sub_one]; exact decide_eq_true (by omega))
  exact ⟨b, by omega, h2⟩
/-- the masks that come -/
def MkOk (m : Nat) : Prop := m = 7 ∨ m = 31 ∨ m = 127 ∨ m = 511 ∨ m = 2047 ∨ m = 8191
theorem rd7 : rdGo 7 8 0 = (2 ^ (7 + 1) - 1) * 16384 := by decide +kernel
theorem rd31 : rdGo 31 32 0 = (2 ^ (31 + 1) - 1) * 16384 := by decide +kernel
theorem rd127 : rdGo64 127 2 0 = (2 ^ (127 + 1) - 1) * 16384 := by decide +kernel
theorem rd511 : rdGo64 511 8 0 = (2 ^ (511 + 1) - 1) * 16384 := by decide +kernel
theorem rd2047 : rdGo64 2047 32 0 = (2 ^ (2047 + 1) - 1) * 16384 := by decide +kernel
theorem rd8191 : rdGo64 8191 128 0 = (2 ^ (8191 + 1) - 1) * 16384 := by decide +kernel
theorem mk_round {m : Nat} (hm : MkOk m) : lcgN m (m + 1) = 0 ∧ ∀ j, j ≤ m → ∃ b, b ≤ m ∧ lcgN m b = j := by
  rcases hm with rfl | rfl | rfl | rfl | rfl | rfl
  · exact rd_all (by decide) ((rdGo_it 7 8 0).symm.trans rd7)
  · exact rd_all (by decide) ((rdGo_it 31 32 0).symm.trans rd31)
  · exact rd_all (by decide) ((rdGo64_it 127 2 0).symm.trans rd127)
  · exact rd_all (by decide) ((rdGo64_it 511 8 0).symm.trans rd511)
  · exact rd_all (by decide) ((rdGo64_it 2047 32 0).symm.trans rd2047)
  · exact rd_all (by decide) ((rdGo64_it 8191 128 0).symm.trans rd8191)
theorem mk_odd {m : Nat} (h : MkOk m) : m % 2 = 1 := by
  rcases h with rfl | rfl | rfl | rfl | rfl | rfl <;> rfl
theorem mk_le {m : Nat} (h : MkOk m) : m ≤ 8191 := by
  rcases h with rfl | rfl | rfl | rfl | rfl | rfl <;> decide
/-- from anywhere to anywhere within a round -/
theorem mk_from {m : Nat} (hm : MkOk m) {i j : Nat} (hi : i ≤ m) (hj : j ≤ m) : ∃ k, k ≤ m ∧ lcgI m i k = j := by
  obtain ⟨r0, al⟩ := mk_round hm
  obtain ⟨a, ha, rfl⟩ := al i hi
  obtain ⟨b, hb, rfl⟩ := al j hj
  have per : ∀ k, lcgN m (m + 1 + k) = lcgN m k := fun k => by
    induction k with
    | zero => exact r0
    | succ k ih => exact congrArg (fun z => (z * 5 + 1) % (m + 1)) ih
  by_cases c : a ≤ b
  · exact ⟨b - a, by omega, by rw [lcgN_add, show a + (b - a) = b by omega]⟩
  · exact ⟨b + (m + 1) - a, by omega, by rw [lcgN_add, show a + (b + (m + 1) - a) = m + 1 + b by omega, per]⟩
/-- each slot begins a run early enough -/
theorem mk_runs {m : Nat} (hm : MkOk m) (h : Int) {j : Nat} (hj : j ≤ m) : ∃ n, n ≤ m + 12 ∧ runI m (SetTable.bits h) n = j :=
  let ⟨k, hk, e⟩ := mk_from hm (runI_le m (SetTable.bits h) 12) hj
  ⟨12 + k, by omega, (runI_tail (bits_lt h) k).trans e⟩
theorem mk_met {m : Nat} (hm : MkOk m) (h : Int) {j : Nat} (hj : j ≤ m) : ∃ k, k < 10 * SetTable.turns m ∧ way m h k = j := by
  obtain ⟨n, hn, rfl⟩ := mk_runs hm h hj
  obtain ⟨k, hk, e⟩ := run_nth m (SetTable.bits h) n
  exact ⟨k, by unfold SetTable.turns; omega, congrArg SetTable.Probe.j e⟩
theorem way_in (m : Nat) (h : Int) (k : Nat) : way m h k ≤ m := by
  have hi : SetTable.bits h % (m + 1) ≤ m := Nat.le_of_lt_succ (Nat.mod_lt _ (Nat.succ_pos _))
  have r := runEnd_bd hi
  have q := nth_in k (runAt m (SetTable.bits h % (m + 1)) (SetTable.bits h)) (show SetTable.bits h % (m + 1) + (SetTable.runEnd m (SetTable.bits h % (m + 1)) - SetTable.bits h % (m + 1)) ≤ m by omega)
  show (nth m (runAt m (SetTable.bits h % (m + 1)) (SetTable.bits h)) k).j ≤ m
  omega
/-- a table in which each thing is found again from its hash -/
structure TbOk (t : SetTable) (hs : List Int) : Prop where
  ris : Ris t.place.toList
  dm : t.dummies = #[]
  sz : t.place.size = hs.length
  ms : MkOk t.mask
  bd : ∀ x ∈ t.place.toList, x ≤ t.mask
  re : ∀ (i : Nat) (h : Int) (j : Nat), hs[i]? = some h → t.place.toList[i]? = some j → ∃ k, way t.mask h k = j ∧ ∀ c, c < k → way t.mask h c ∈ t.place.toList
section
variable {t : SetTable} {hs : List Int} (T : TbOk t hs)
include T
theorem TbOk.len : t.place.toList.length = hs.length := T.sz
/-- the first empty slot of a way -/
theorem TbOk.first (hl : hs.length ≤ t.mask) (h : Int) : ∃ K, K < 10 * SetTable.turns t.mask ∧ way t.mask h K ∉ t.place.toList ∧ ∀ c, c < K → way t.mask h c ∈ t.place.toList := by
  obtain ⟨j, hj, hn⟩ := st_missing t.place.toList (t.mask + 1) (by rw [T.len]; omega)
  obtain ⟨k, hk, rfl⟩ := mk_met T.ms h (show j ≤ t.mask by omega)
  obtain ⟨K, h1, h2, h3⟩ := st_least (p := fun k => way t.mask h k ∉ t.place.toList) k hn
  exact ⟨K, by omega, h2, fun c hc => Decidable.byContradiction (h3 c hc)⟩
/-- what has the hash stands ahead of it -/
theorem TbOk.ahead {h : Int} {K i j : Nat} (hK : way t.mask h K ∉ t.place.toList) (hi : hs[i]? = some h) (hj : t.place.toList[i]? = some j) : ∃ k, k < K ∧ way t.mask h k = j := by
  obtain ⟨k, e, hb⟩ := T.re i h j hi hj
  have hm := List.mem_of_getElem? hj
  refine ⟨k, Nat.lt_of_not_le fun c => ?_, e⟩
  by_cases d : k = K
  · exact hK (by rw [← d, e]; exact hm)
  · exact hK (hb K (by omega))
/-- one put in -/
theorem TbOk.put {h : Int} {K : Nat} (hK : way t.mask h K ∉ t.place.toList) (hb : ∀ c, c < K → way t.mask h c ∈ t.place.toList) :
    let j := way t.mask h K; let p := SetTable.below t.place j
    (t.put j).2 = p ∧ p ≤ hs.length ∧ TbOk (t.put j).1 (hs.take p ++ h :: hs.drop p) ∧ (t.put j).1.mask = t.mask ∧ (t.put j).1.led = t.led ∧ (t.put j).1.plain = t.plain ∧ (t.put j).1.fill = hs.length + 1 := by
  intro j p
  have hjm : j ≤ t.mask := way_in _ _ _
  have c1 : p ≤ t.place.toList.length := (below_cut T.ris j).1
  have ph : p ≤ hs.length := by rw [← T.len]; exact c1
  have hpp : (t.put j).1.place.toList = t.place.toList.take p ++ j :: t.place.toList.drop p := put_place t j
  have hsz : (t.put j).1.place.size = hs.length + 1 := by rw [← Array.length_toList, hpp, len_ins _ c1, T.len]
  have hdm := put_dm T.dm j
  have up : ∀ {x : Nat}, x ∈ t.place.toList → x ∈ (t.put j).1.place.toList := fun hx => by rw [hpp]; exact mem_ins.2 (.inr hx)
  refine ⟨rfl, ph, ⟨?_, hdm, by rw [len_ins _ ph]; exact hsz, T.ms, fun x hx => ?_, fun i h' j' h1 h2 => ?_⟩, rfl, rfl, rfl, ?_⟩
  · exact ris_insert T.ris fun e => hK (List.mem_of_getElem? (by rw [Array.getElem?_toList]; exact e))
  · rw [hpp] at hx
    rcases mem_ins.1 hx with rfl | z
    · exact hjm
    · exact T.bd x z
  · rw [tins_get hs ph] at h1
    rw [hpp, tins_get _ c1] at h2
    have old : ∀ i', hs[i']? = some h' → t.place.toList[i']? = some j' → ∃ k, way t.mask h' k = j' ∧ ∀ c, c < k → way t.mask h' c ∈ (t.put j).1.place.toList := fun i' a b =>
      let ⟨k, e, z⟩ := T.re i' h' j' a b
      ⟨k, e, fun c hc => up (z c hc)⟩
    show ∃ k, way t.mask h' k = j' ∧ _
    by_cases c : i < p
    · rw [if_pos c] at h1 h2
      exact old i h1 h2
    · rw [if_neg c] at h1 h2
      by_cases d : i = p
      · rw [if_pos d] at h1 h2
        cases h1
        cases h2
        exact ⟨K, rfl, fun c hc => up (hb c hc)⟩
      · rw [if_neg d] at h1 h2
        exact old (i - 1) h1 h2
  · show (t.put j).1.place.size + (t.put j).1.dummies.size = _
    rw [hsz, hdm]
    rfl
end
/-! ### a table laid anew -/
theorem mk_free {m : Nat} (hm : MkOk m) (owner : Array (Option Nat)) (h : Int) {j : Nat} (hj : j ≤ m) (hf : oAt owner j = none) :
    ∃ K, SetTable.layClean.free m owner (SetTable.turns m) (SetTable.bits h % (m + 1)) (SetTable.bits h) = some (way m h K) ∧ oAt owner (way m h K) = none ∧ ∀ c, c < K → oAt owner (way m h c) ≠ none := by
  obtain ⟨n, hn, rfl⟩ := mk_runs hm h hj
  have hw : way m h (off m (SetTable.bits h % (m + 1)) (SetTable.bits h) n) = runI m (SetTable.bits h) n := by
    show (nth m (runAt m (SetTable.bits h % (m + 1)) (SetTable.bits h)) (off m (SetTable.bits h % (m + 1)) (SetTable.bits h) n)).j = _
    rw [nth_off, itL_run]
    rfl
  obtain ⟨K, k1, k2, k3⟩ := st_least (p := fun k => oAt owner (way m h k) = none) (off m (SetTable.bits h % (m + 1)) (SetTable.bits h) n) (by show oAt owner (way m h _) = none; rw [hw]; exact hf)
  refine ⟨K, free_spec m owner (SetTable.turns m) n _ _ K (by unfold SetTable.turns; omega) k1 (fun k hk => ?_) (Option.isNone_iff_eq_none.mpr k2), k2, k3⟩
  exact Option.isNone_eq_false_iff.mpr (Option.isSome_iff_ne_none.mpr (k3 k hk))
theorem own_step {m : Nat} (hm : MkOk m) {done : List Int} {owner : Array (Option Nat)} (W : Own m done owner) (hl : done.length ≤ m) (h : Int) :
    ∃ j, SetTable.layClean.free m owner (SetTable.turns m) (SetTable.bits h % (m + 1)) (SetTable.bits h) = some j ∧ Own m (done ++ [h]) (owner.setIfInBounds j (some done.length)) := by
  obtain ⟨ps, hps, hin⟩ := W.ps
  obtain ⟨j0, h0, hn0⟩ := st_missing ps (m + 1) (by omega)
  have hj0 : oAt owner j0 = none := Decidable.byContradiction fun z => hn0 (hin j0 (by omega) z)
  obtain ⟨K, e1, e2, e3⟩ := mk_free hm owner h (show j0 ≤ m by omega) hj0
  have hjm := way_in m h K
  have hself := oAt_set_self (some done.length) (show way m h K < owner.size by rw [W.sz]; omega)
  generalize hj : way m h K = j at e1 e2 hjm hself
  have mono : ∀ {i : Nat}, oAt owner i ≠ none → oAt (owner.setIfInBounds j (some done.length)) i ≠ none := fun {i} hi => by
    by_cases c : i = j
    · subst c
      rw [hself]
      exact fun e => nomatch e
    · rw [oAt_set_ne _ c]
      exact hi
  refine ⟨j, e1, by rw [Array.size_setIfInBounds]; exact W.sz, fun i k hi e => ?_, fun k hk => ?_, j :: ps, by simp [hps], fun i hi e => ?_⟩
  · by_cases c : i = j
    · subst c
      rw [hself] at e
      cases e
      exact ⟨h, K, by simp, hj, fun c hc => mono (e3 c hc)⟩
    · rw [oAt_set_ne _ c] at e
      obtain ⟨h', K', a1, a2, a3⟩ := W.at_ i k hi e
      exact ⟨h', K', by rw [List.getElem?_append_left (List.getElem?_eq_some_iff.mp a1).1]; exact a1, a2, fun c hc => mono (a3 c hc)⟩
  · rw [List.length_append, List.length_singleton] at hk
    by_cases c : k = done.length
    · exact ⟨j, hjm, by rw [c]; exact hself⟩
    · obtain ⟨i, hi, e⟩ := W.all k (by omega)
      exact ⟨i, hi, by rw [oAt_set_ne _ (fun z => by rw [z, e2] at e; cases e)]; exact e⟩
  · by_cases c : i = j
    · rw [c]
      exact List.mem_cons_self
    · rw [oAt_set_ne _ c] at e
      exact List.mem_cons_of_mem _ (hin i hi e)
theorem own_fold {m : Nat} (hm : MkOk m) : ∀ (rest done : List Int) (owner : Array (Option Nat)), Own m done owner → done.length + rest.length ≤ m →
    ∃ owner', rest.foldl (stepF m) (some (owner, done.length)) = some (owner', (done ++ rest).length) ∧ Own m (done ++ rest) owner'
  | [], done, owner, W, _ => ⟨owner, by rw [List.append_nil]; rfl, by rw [List.append_nil]; exact W⟩
  | h :: rest, done, owner, W, hl => by
    have hl2 : done.length + (rest.length + 1) ≤ m := hl
    obtain ⟨j, e, W'⟩ := own_step hm W (by omega) h
    obtain ⟨o', f, W2⟩ := own_fold hm rest (done ++ [h]) _ W' (by simp; omega)
    rw [List.append_assoc] at f W2
    refine ⟨o', ?_, W2⟩
    rw [List.foldl_cons, stepF_some e]
    simpa using f
theorem lay_ok {m : Nat} (hm : MkOk m) {hs : Array Int} (hn : hs.size ≤ m) : ∃ owner, SetTable.layClean m hs = some owner ∧ Own m hs.toList owner := by
  obtain ⟨o, f, W⟩ := own_fold hm hs.toList [] _ (Own.init m) (by simpa using hn)
  rw [List.nil_append] at f W
  exact ⟨o, by rw [layClean_eq]; exact congrArg (Option.map (·.1)) f, W⟩
theorem relay_ok (t : SetTable) {hs : Array Int} {wanted M : Nat} (hw : SetTable.sizeAbove wanted - 1 = M) (hM : MkOk M) (hn : hs.size ≤ M) :
    ∃ t' order, t.relaid hs wanted = some (t', order) ∧ order.toList.Perm (List.range hs.size) ∧ TbOk t' (order.toList.map fun i => hs.getD i 0) ∧ t'.mask = M ∧ t'.led = t.led ∧ t'.plain = t.plain := by
  obtain ⟨owner, e, W⟩ := lay_ok hM hn
  have hr : t.relaid hs wanted = some (tabOf t M owner, ((liveOf M owner).map (·.2)).toArray) := by
    rw [relaid_eq, hw, e]
    rfl
  obtain ⟨r1, r2⟩ : Ris ((liveOf M owner).map (·.1)) ∧ ∀ x ∈ (liveOf M owner).map (·.1), x ∈ List.range (M + 1) := ris_live (fun j => owner.getD j none) (List.range (M + 1)) List.pairwise_lt_range
  have live : ∀ {j k : Nat}, (j, k) ∈ liveOf M owner ↔ j ≤ M ∧ oAt owner j = some k := mem_live W.sz
  have all2 : ∀ k, k < hs.size → k ∈ (liveOf M owner).map (·.2) := fun k hk => by
    obtain ⟨j, b1, b2⟩ := W.all k hk
    exact List.mem_map.mpr ⟨(j, k), live.2 ⟨b1, b2⟩, rfl⟩
  have hlen : (liveOf M owner).length = hs.size := by
    obtain ⟨ps, p1, p2⟩ := W.ps
    have a := nat_nodup_len _ ps (r1.imp fun h => Nat.ne_of_lt h) fun x hx => by
      obtain ⟨⟨y, k⟩, hq, rfl⟩ := List.mem_map.mp hx
      obtain ⟨b1, b2⟩ := live.1 hq
      exact p2 y b1 (by rw [b2]; exact fun z => nomatch z)
    have b := nat_nodup_len _ _ List.nodup_range fun k hk => all2 k (List.mem_range.mp hk)
    rw [List.length_map, p1] at a
    have hz : hs.toList.length = hs.size := rfl
    rw [List.length_map, List.length_range] at b
    omega
  refine ⟨_, _, hr, perm_range hs.size _ (by simpa using hlen) fun k hk => by simpa using all2 k hk, ⟨r1, rfl, ?_, hM, fun x hx => Nat.le_of_lt_succ (List.mem_range.mp (r2 x hx)), fun i h j h1 h2 => ?_⟩, rfl, rfl, rfl⟩
  · show ((liveOf M owner).map (·.1)).toArray.size = (((liveOf M owner).map (·.2)).map fun i => hs.getD i 0).length
    simp
  · have h1' : (((liveOf M owner).map (·.2)).map fun i => hs.getD i 0)[i]? = some h := h1
    have h2' : ((liveOf M owner).map (·.1))[i]? = some j := h2
    rw [List.getElem?_map] at h2'
    rw [List.getElem?_map, List.getElem?_map] at h1'
    obtain ⟨⟨y, k⟩, hq, rfl⟩ := Option.map_eq_some_iff.mp h2'
    rw [hq] at h1'
    obtain ⟨b1, b2⟩ := live.1 (List.mem_of_getElem? hq)
    obtain ⟨h0, K, a1, a2, a3⟩ := W.at_ y k b1 b2
    have eh : h = h0 := by
      have e0 : hs.getD k 0 = h0 := by rw [Array.getD_eq_getD_getElem?, ← Array.getElem?_toList, a1]; rfl
      exact (Option.some.inj h1').symm.trans e0
    subst eh
    refine ⟨K, a2, fun c hc => ?_⟩
    show way M h c ∈ (liveOf M owner).map (·.1)
    cases z : oAt owner (way M h c) with
    | none => exact absurd z (a3 c hc)
    | some k2 => exact List.mem_map.mpr ⟨(way M h c, k2), live.2 ⟨way_in _ _ _, z⟩, rfl⟩
/-- the next size -/
theorem mk_next {m n : Nat} (hm : MkOk m) (hn : n ≤ 4900) (h1 : m * 3 ≤ (n + 1) * 5) (h2 : n * 5 < m * 3) : ∃ M, SetTable.sizeAbove (SetTable.grown (n + 1)) - 1 = M ∧ MkOk M ∧ SetTable.sizeAbove (SetTable.grown (n + 1)) ≤ 8192 ∧ (n + 1) * 5 < M * 3 ∧ n + 1 ≤ m := by
  have k : ∀ a b, SetTable.sizeAbove (SetTable.grown (a + 1)) = b + 1 → n = a → ∃ M, SetTable.sizeAbove (SetTable.grown (n + 1)) - 1 = M ∧ (M = b) ∧ SetTable.sizeAbove (SetTable.grown (n + 1)) = b + 1 := fun a b e hn => ⟨b, by rw [hn, e]; rfl, rfl, by rw [hn, e]⟩
  rcases hm with rfl | rfl | rfl | rfl | rfl | rfl
  · obtain ⟨M, e1, rfl, e2⟩ := k 4 31 (by decide +kernel) (by omega)
    exact ⟨31, e1, by unfold MkOk; omega, by omega, by omega, by omega⟩
  · obtain ⟨M, e1, rfl, e2⟩ := k 18 127 (by decide +kernel) (by omega)
    exact ⟨127, e1, by unfold MkOk; omega, by omega, by omega, by omega⟩
  · obtain ⟨M, e1, rfl, e2⟩ := k 76 511 (by decide +kernel) (by omega)
    exact ⟨511, e1, by unfold MkOk; omega, by omega, by omega, by omega⟩
  · obtain ⟨M, e1, rfl, e2⟩ := k 306 2047 (by decide +kernel) (by omega)
    exact ⟨2047, e1, by unfold MkOk; omega, by omega, by omega, by omega⟩
  · obtain ⟨M, e1, rfl, e2⟩ := k 1228 8191 (by decide +kernel) (by omega)
    exact ⟨8191, e1, by unfold MkOk; omega, by omega, by omega, by omega⟩
  · omega
end Sh
set_option Elab.async false
set_option linter.all false
set_option maxRecDepth 100000
set_option maxHeartbeats 3200000
/-! sets of tuples of numbers and texts, of some thousands of things -/
namespace Sh
open PySem PySem.Spec PyProof.Rows L2
/-- the tuple at a holds these things -/
abbrev TupK (P : Program) (w : World) (h : Heap) (k : List Key) (a : Addr) : Prop := IsTupleKey (mixKind P w) h k a
abbrev hshK (P : Program) (w : World) (k : List Key) : Int := tupleKeyHash (mixKind P w) k
/-- where the search for a hash stands behind c steps -/
abbrev prb (m : Nat) (h : Int) (c : Nat) : SetTable.Probe := nth m (runAt m (SetTable.bits h % (m + 1)) (SetTable.bits h)) c
def LeafV (v : Value) : Prop := (∃ i t, v = .int i t) ∨ ∃ x t, v = .str x t
section
variable {P : Program} {w : World} {A : Around} {E : Value → Shared → Prop} {s : Shared}
theorem leaf_items {k : List Key} {vs : List Value} (h : ItemsAre (mixKind P w) k vs) : ∀ v ∈ vs, LeafV v := by
  induction h with
  | nil => intro v hv; cases hv
  | cons h1 _ ih =>
    intro v hv
    rcases List.mem_cons.mp hv with rfl | hv
    · rcases keyIs_shape h1 with ⟨i, t, _, e⟩ | ⟨x, t, _, e⟩
      · exact .inl ⟨i, t, by first | exact e | assumption⟩
      · exact .inr ⟨x, t, by first | exact e | assumption⟩
    · exact ih v hv
theorem leaf_own (n : Nat) {v : Value} (h : LeafV v) : ofAClassStatement n v = pure false ∧ ∃ b, hashByValue n v = pure b := by
  rcases h with ⟨i, t, rfl⟩ | ⟨x, t, rfl⟩
  · cases n <;> exact ⟨rfl, true, rfl⟩
  · cases n <;> exact ⟨rfl, false, rfl⟩
theorem tup_own {k : List Key} {b : Addr} {Q : Bool → Shared → Prop} (hk : TupK P w s.heap k b) (h : Q false s) : wpAny (model P w) A (ofAClassStatement 8 (.ref b)) Q E s := by
  have hT := hk.typeIs
  obtain ⟨o, items, n, ho, _, hd, hi⟩ := hk
  have hl := leaf_items hi
  unfold ofAClassStatement
  refine wpAny_bind (wpAny_typeOf hT ?_)
  simp only [show (("tuple" : String) == "tuple") = true by decide, if_true]
  refine wpAny_bind (wpAny_pure ?_)
  simp only [Bool.not_true, Bool.false_eq_true, if_false]
  refine wpAny_bind (wpAny_seqItems ho hd ?_)
  dsimp only
  refine wpAny_bind ?_
  rw [← Array.forIn_toList]
  refine wpAny_forIn_list _ (fun rest r z => r.1 = none ∧ z = s ∧ ∀ v ∈ rest, LeafV v) _ (fun v rest r z ⟨e1, e2, al⟩ => ?_) (fun r z ⟨e1, e2, _⟩ => ?_) _ _ ⟨rfl, rfl, hl⟩
  · rw [(leaf_own _ (al v List.mem_cons_self)).1]
    refine wpAny_bind (wpAny_pure ?_)
    simp only [Bool.false_eq_true, if_false]
    exact wpAny_pure ⟨rfl, e2, fun u hu => al u (List.mem_cons_of_mem _ hu)⟩
  · obtain ⟨r1, r2⟩ := r
    cases e1
    rw [e2]
    exact wpAny_pure h
theorem tup_byValue {k : List Key} {b : Addr} {Q : Bool → Shared → Prop} (hk : TupK P w s.heap k b) (h : ∀ c, Q c s) : wpAny (model P w) A (hashByValue 8 (.ref b)) Q E s := by
  have hT := hk.typeIs
  obtain ⟨o, items, n, ho, _, hd, hi⟩ := hk
  have hl := leaf_items hi
  unfold hashByValue
  refine wpAny_bind (wpAny_specialOf hT F.slot_tuple_hash.lookup ?_)
  show wpAny _ _ (seqItems? (.ref b) >>= _) _ _ s
  refine wpAny_bind (wpAny_seqItems ho hd ?_)
  refine wpAny_bind ?_
  show wpAny _ _ (forIn items _ _) _ _ s
  rw [← Array.forIn_toList]
  refine wpAny_forIn_list _ (fun rest r z => r.1 = none ∧ z = s ∧ ∀ v ∈ rest, LeafV v) _ (fun v rest r z ⟨e1, e2, al⟩ => ?_) (fun r z ⟨e1, e2, _⟩ => ?_) _ _ ⟨rfl, rfl, hl⟩
  · obtain ⟨c, hc⟩ := (leaf_own 7 (al v List.mem_cons_self)).2
    rw [hc]
    refine wpAny_bind (wpAny_pure ?_)
    cases c with
    | true =>
      simp only [Bool.not_true, Bool.false_eq_true, if_false]
      exact wpAny_pure ⟨rfl, e2, fun u hu => al u (List.mem_cons_of_mem _ hu)⟩
    | false =>
      simp only [Bool.not_false, if_true]
      refine wpAny_pure ?_
      rw [e2]
      dsimp only
      exact wpAny_pure (h false)
  · obtain ⟨r1, r2⟩ := r
    cases e1
    rw [e2]
    exact wpAny_pure (h true)
/-- comparing tuples shows nothing -/
theorem tup_unseen {k : List Key} {b : Addr} {ys : List Value} {Q : Bool → Shared → Prop} (hk : TupK P w s.heap k b) (hy : ∀ y ∈ ys, ∃ k' c, y = Value.ref c ∧ TupK P w s.heap k' c) (h : Q false s) : wpAny (model P w) A (searchCouldBeSeen (.ref b) ys) Q E s := by
  unfold searchCouldBeSeen
  refine wpAny_bind ?_
  refine wpAny_forIn_list _ (fun rest r z => r.1 = none ∧ z = s ∧ ∀ y ∈ rest, ∃ k' c, y = Value.ref c ∧ TupK P w s.heap k' c) _ (fun v rest r z ⟨e1, e2, al⟩ => ?_) (fun r z ⟨e1, e2, _⟩ => ?_) _ _ ⟨rfl, rfl, hy⟩
  · obtain ⟨k', c, rfl, hc⟩ := al v List.mem_cons_self
    have al' : ∀ y ∈ rest, ∃ k' c, y = Value.ref c ∧ TupK P w s.heap k' c := fun u hu => al u (List.mem_cons_of_mem _ hu)
    rw [e2]
    dsimp only
    split
    · exact wpAny_pure ⟨rfl, rfl, al'⟩
    · refine wpAny_bind (wpAny_eqIsQuiet_tuple hk ?_)
      simp only [Bool.not_true, Bool.false_eq_true, if_false]
      refine wpAny_bind (wpAny_eqIsQuiet_tuple hc ?_)
      simp only [Bool.not_true, Bool.false_eq_true, if_false]
      refine wpAny_bind (tup_own hk ?_)
      simp only [Bool.false_eq_true, if_false]
      refine wpAny_bind (tup_own hc ?_)
      simp only [Bool.false_eq_true, if_false]
      exact wpAny_pure ⟨rfl, rfl, al'⟩
  · obtain ⟨r1, r2⟩ := r
    cases e1
    rw [e2]
    exact wpAny_pure h
end
end Sh
set_option Elab.async false
set_option linter.all false
set_option maxRecDepth 100000
set_option maxHeartbeats 3200000
/-! looking for a tuple in a set, putting one in -/
namespace Sh
open PySem PySem.Spec PyProof.Rows L2
def rowQ (P : Program) (w : World) (L : List (Addr × List Key)) : List (Int × Value) := L.map fun p => (hshK P w p.2, Value.ref p.1)
theorem rowQ_len {P : Program} {w : World} {L : List (Addr × List Key)} {es : Array (Int × Value)} (h : es.toList = rowQ P w L) : es.size = L.length := by
  rw [← Array.length_toList, h]
  exact List.length_map _
theorem rowQ_get {P : Program} {w : World} {L : List (Addr × List Key)} {es : Array (Int × Value)} (h : es.toList = rowQ P w L) {i : Nat} {p : Addr × List Key} (hp : L[i]? = some p) : es[i]? = some (hshK P w p.2, Value.ref p.1) := by
  rw [← Array.getElem?_toList, h]
  unfold rowQ
  rw [List.getElem?_map, hp]
  rfl
/-- a set of tuples stands at a -/
structure SetQ (P : Program) (w : World) (h : Heap) (a : Addr) (L : List (Addr × List Key)) (es : Array (Int × Value)) (ep : Nat) (t : SetTable) : Prop where
  ob : ∃ o, h.get? a = some o ∧ o.ExactSet ∧ o.data = .set es ep t
  rows : es.toList = rowQ P w L
  tab : TbOk t (L.map fun p => hshK P w p.2)
  nd : (L.map (·.2)).Nodup
  tup : ∀ p ∈ L, TupK P w h p.2 p.1
  led : w.params.followText "set-order" = true ∨ t.led = true
  room : L.length * 5 < t.mask * 3
  few : L.length ≤ 4000
section
variable {P : Program} {w : World} {A : Around} {E : Value → Shared → Prop} {s : Shared} {a : Addr} {L : List (Addr × List Key)} {es : Array (Int × Value)} {ep : Nat} {t : SetTable}
theorem fits_of {t : SetTable} {n : Nat} (h1 : t.place.size = n) (h2 : t.dummies = #[]) (h3 : n ≤ t.mask) : t.fits n = true := by
  unfold SetTable.fits SetTable.fill
  rw [h2, h1]
  simpa using h3
theorem SetQ.sz (R : SetQ P w s.heap a L es ep t) : t.place.size = es.size := by
  rw [rowQ_len R.rows, R.tab.sz, List.length_map]
theorem SetQ.fits (R : SetQ P w s.heap a L es ep t) : t.fits es.size = true :=
  fits_of R.sz R.tab.dm (by rw [rowQ_len R.rows]; have := R.room; omega)
theorem SetQ.gw (R : SetQ P w s.heap a L es ep t) : t.gaveWay = false := by
  unfold SetTable.gaveWay
  rw [mk_odd R.tab.ms]
  rfl
theorem probe_mem {t : SetTable} {i j : Nat} {L : List (Addr × List Key)} {f : Addr × List Key → Int} (T : TbOk t (L.map f)) (h : t.place.toList[i]? = some j) : ∃ p, L[i]? = some p := by
  have h1 := (List.getElem?_eq_some_iff.mp h).1
  rw [T.len, List.length_map] at h1
  exact ⟨_, List.getElem?_eq_getElem h1⟩
/-- the search, from the c-th step of the way on -/
theorem srchQ (R : SetQ P w s.heap a L es ep t) {x : Addr} {k : List Key} (hx : TupK P w s.heap k x) (hu : A.units < cLine) {K : Nat} (hKf : K < 10 * SetTable.turns t.mask)
    (hK : way t.mask (hshK P w k) K ∉ t.place.toList) (hKb : ∀ c, c < K → way t.mask (hshK P w k) c ∈ t.place.toList) {Q : SetFound → Shared → Prop}
    (hin : k ∈ L.map (·.2) → Q (.there none) s) (hout : k ∉ L.map (·.2) → Q (.free (way t.mask (hshK P w k) K) false) s) :
    ∀ (f c : Nat) (stand : Option SetTable.Probe), stand.getD (t.probeStart (hshK P w k)) = prb t.mask (hshK P w k) c → c ≤ K → K - c < f →
      (∀ (i : Nat) p, L[i]? = some p → p.2 = k → ∃ c', c ≤ c' ∧ c' < K ∧ t.place.toList[i]? = some (way t.mask (hshK P w k) c')) →
      wpAny (model P w) A (setSearchFrom a (.ref x) (hshK P w k) true f stand) Q E s
  | 0, c, stand, _, _, hf, _ => absurd hf (Nat.not_lt_zero _)
  | f + 1, c, stand, hst, hc, hf, hre => by
    obtain ⟨o, ho, hex, hd⟩ := R.ob
    have hH : ∀ (i : Nat) p, L[i]? = some p → (es[i]?.map (·.1)).getD 0 = hshK P w p.2 := fun i p hp => by rw [rowQ_get R.rows hp]; rfl
    generalize hh : hshK P w k = h at *
    generalize hm : t.mask = m at *
    have two : ∀ q, nth m (prb m h c) q = prb m h (c + q) := fun q => (nth_add m c _ q).symm
    have nodum : ∀ (n : Nat) (p : SetTable.Probe), p.dummy = none → (nth m p n).dummy = none := by
      intro n
      induction n with
      | zero => exact fun p e => e
      | succ n ih => exact fun p e => ih _ (by unfold adv; split <;> exact e)
    have spec := go_spec t R.tab.ris R.tab.dm (fun i => (es[i]?.map (·.1)).getD 0) h (10 * SetTable.turns m) (K - c) (prb m h c) (nodum c _ rfl) (by omega)
    rw [hm] at spec
    have spec := spec (fun q hq => by rw [two]; exact hKb _ (by omega)) (by rw [two, Nat.add_sub_cancel' hc]; exact hK)
    have hpb : ∀ z, SetTable.probe.go t (fun i => (es[i]?.map (·.1)).getD 0) h (10 * SetTable.turns m) (prb m h c) = some z → t.probe (fun i => (es[i]?.map (·.1)).getD 0) h (stand.getD (t.probeStart h)) = some z := fun z e => by
      rw [hst]
      unfold SetTable.probe
      rw [hm]
      exact e
    rw [setSearchFrom_succ]
    refine wpAny_bind (wpAny_setState_of ho hd R.fits ?_)
    dsimp only
    rw [R.gw]
    simp only [Bool.false_eq_true, if_false]
    rcases spec with ⟨q, i, hq, hi, hhi, hno, hpr⟩ | ⟨hno, hpr⟩
    · rw [hpb _ hpr]
      rw [two] at hi ⊢
      rw [two]
      dsimp only
      obtain ⟨p, hp⟩ := probe_mem R.tab hi
      have hpm := List.mem_of_getElem? hp
      have hsl : t.slot (prb m h (c + q)).j = .live i := slot_live R.tab.ris hi
      have rest : wpAny (model P w) A (searchRest a (.ref x) h true f es t (prb m h (c + q)).j i (prb m h (c + (q + 1)))) Q E s := by
        unfold searchRest
        rw [rowQ_get R.rows hp]
        dsimp only
        refine wpAny_bind (wpAny_holding (wpAny_eqBool_tuple hu (R.tup p hpm) hx ?_))
        refine wpAny_bind (wpAny_setState_of ho hd R.fits ?_)
        dsimp only
        by_cases hkk : p.2 = k
        · rw [decide_eq_true hkk]
          exact wpAny_pure (hin (List.mem_map.mpr ⟨p, hpm, hkk⟩))
        · rw [decide_eq_false hkk]
          simp only [Bool.and_false, Bool.false_eq_true, if_false]
          rw [sameMem]
          simp only [if_true, hsl, rowQ_get R.rows hp]
          refine wpAny_bind (wpAny_isSame_ref_self (wpAny_bind (wpAny_pure ?_)))
          simp only [if_true]
          subst hm
          subst hh
          refine srchQ R hx hu hKf hK hKb hin hout f (c + (q + 1)) _ rfl (by omega) (by omega) fun i0 p0 h0 hk0 => ?_
          obtain ⟨c', a1, a2, a3⟩ := hre i0 p0 h0 hk0
          refine ⟨c', ?_, a2, a3⟩
          refine Nat.lt_of_not_le fun z => ?_
          have z : c' ≤ c + q := z
          by_cases y : c' = c + q
          · rw [y] at a3
            have e := slot_live R.tab.ris a3
            rw [show way t.mask (hshK P w k) (c + q) = (prb t.mask (hshK P w k) (c + q)).j from rfl, hsl] at e
            injection e with e
            rw [← e, hp] at h0
            cases h0
            exact hkk hk0
          · refine hno (c' - c) i0 (by omega) ?_ ?_
            · rw [two, show c + (c' - c) = c' by omega]
              exact a3
            · show (es[i0]?.map (·.1)).getD 0 = _
              rw [hH i0 p0 h0, hk0]
      by_cases hl : t.led = true
      · rw [hl]
        exact rest
      · rw [show t.led = false from by simpa using hl]
        simp only [Bool.not_false, if_true]
        refine wpAny_bind (tup_unseen hx (fun y hy => ?_) ?_)
        · obtain ⟨e, he, rfl⟩ := List.mem_map.mp hy
          have he2 : e ∈ rowQ P w L := by
            rw [← R.rows]
            have h1 : e ∈ es ∧ e.1 = h := by simpa using he
            simpa using h1.1
          obtain ⟨p2, hp2, rfl⟩ := List.mem_map.mp he2
          exact ⟨p2.2, p2.1, rfl, R.tup p2 hp2⟩
        · simp only [Bool.false_eq_true, if_false]
          exact rest
    · rw [hpb _ hpr, two, Nat.add_sub_cancel' hc]
      dsimp only
      refine wpAny_pure (hout fun hmm => ?_)
      obtain ⟨p0, h0, hk0⟩ := List.mem_map.mp hmm
      obtain ⟨i0, hi0⟩ := List.mem_iff_getElem?.mp h0
      obtain ⟨c', a1, a2, a3⟩ := hre i0 p0 hi0 hk0
      refine hno (c' - c) i0 (by omega) ?_ ?_
      · rw [two, show c + (c' - c) = c' by omega]
        exact a3
      · show (es[i0]?.map (·.1)).getD 0 = _
        rw [hH i0 p0 hi0, hk0, hh]
end
end Sh
set_option Elab.async false
set_option linter.all false
set_option maxRecDepth 100000
set_option maxHeartbeats 3200000
/-! a tuple put into a set -/
namespace Sh
open PySem PySem.Spec PyProof.Rows L2
abbrev atQ (L : List (Addr × List Key)) (i : Nat) : Addr × List Key := L[i]?.getD (0, [])
theorem atQ_all (L : List (Addr × List Key)) : (List.range L.length).map (atQ L) = L := by
  refine List.ext_getElem (by simp) fun i h1 h2 => ?_
  rw [List.getElem_map, List.getElem_range]
  unfold atQ
  rw [List.getElem?_eq_getElem h2]
  rfl
theorem order_of {P : Program} {w : World} {L : List (Addr × List Key)} {es : Array (Int × Value)} (hr : es.toList = rowQ P w L) : ∀ l : List Nat, (∀ i ∈ l, i < L.length) →
    l.filterMap (fun i => es[i]?) = rowQ P w (l.map (atQ L)) ∧ ((l.map (atQ L)).map fun p => hshK P w p.2) = l.map fun i => (es.map (·.1)).getD i 0
  | [], _ => ⟨rfl, rfl⟩
  | i :: l, h => by
    obtain ⟨e1, e2⟩ := order_of hr l fun j hj => h j (List.mem_cons_of_mem _ hj)
    have hi := List.getElem?_eq_getElem (h i List.mem_cons_self)
    have hg := rowQ_get hr hi
    have ha : atQ L i = L[i]'(h i List.mem_cons_self) := by unfold atQ; rw [hi]; rfl
    constructor
    · rw [List.filterMap_cons_some hg, e1, List.map_cons, ha]
      rfl
    · rw [List.map_cons, List.map_cons, List.map_cons, e2, ha]
      congr 1
      rw [Array.getD_eq_getD_getElem?, Array.getElem?_map, hg]
      rfl
section
variable {P : Program} {w : World} {A : Around} {E : Value → Shared → Prop} {s : Shared} {a : Addr} {L : List (Addr × List Key)} {es : Array (Int × Value)} {ep : Nat} {t : SetTable}
theorem tup_but {h h' : Heap} {k : List Key} {a b : Addr} {o : Obj} {es : Array (Int × Value)} {ep : Nat} {t : SetTable} (hb : TupK P w h k b) (ho : h.get? a = some o) (hd : o.data = .set es ep t) (hs : Heap.SameBut a h h') : TupK P w h' k b := by
  obtain ⟨ob, items, n, h1, h2, h3, h4⟩ := hb
  refine ⟨ob, items, n, ?_, h2, h3, h4⟩
  rw [hs.2 b ?_]
  · exact h1
  · rintro rfl
    rw [h1] at ho
    cases ho
    rw [h3] at hd
    cases hd
/-- the table laid anew -/
theorem relayQ {o : Obj} (ho : s.heap.get? a = some o) (hex : o.ExactSet) (hd : o.data = .set es ep t) (hr : es.toList = rowQ P w L) (hsz : t.place.size = es.size) (hdm : t.dummies = #[]) (hfl : es.size ≤ t.mask)
    (nd : (L.map (·.2)).Nodup) (tup : ∀ p ∈ L, TupK P w s.heap p.2 p.1) (ld : w.params.followText "set-order" = true ∨ t.led = true) (few : L.length ≤ 4000) {wanted M : Nat}
    (hw : SetTable.sizeAbove wanted - 1 = M) (hM : MkOk M) (hw2 : SetTable.sizeAbove wanted ≤ 8192) (hn : L.length * 5 < M * 3) {Q : Unit → Shared → Prop}
    (hQ : ∀ h' L' es' ep' t', Heap.SameBut a s.heap h' → SetQ P w h' a L' es' ep' t' → L'.Perm L → Q () { s with heap := h' }) : wpAny (model P w) A (setRelay a wanted) Q E s := by
  have hel := rowQ_len hr
  obtain ⟨t', order, e, hp, T, em, el, _⟩ := relay_ok t (hs := es.map (·.1)) hw hM (by rw [Array.size_map, hel]; omega)
  rw [Array.size_map, hel] at hp
  obtain ⟨r1, r3⟩ := order_of hr order.toList fun i hi => List.mem_range.mp (hp.mem_iff.mp hi)
  have r2 : (order.toList.map (atQ L)).Perm L := by
    have z := hp.map (atQ L)
    rwa [atQ_all] at z
  rw [← r3] at T
  have hes : (order.filterMap fun i => es[i]?).toList = rowQ P w (order.toList.map (atQ L)) := by rw [Array.toList_filterMap]; exact r1
  generalize order.toList.map (atQ L) = L2 at r2 T hes
  have hs2 : (order.filterMap fun i => es[i]?).size = es.size := by rw [rowQ_len hes, r2.length_eq, hel]
  have big : (8192 : Nat) ≤ sizeLine := by decide
  rw [setRelay_eq]
  refine wpAny_bind (wpAny_setState_of ho hd (fits_of hsz hdm hfl) ?_)
  dsimp only
  refine wp_if_neg (by omega) ?_
  try refine wpAny_bind (wpAny_pure ?_)
  rw [e]
  dsimp only
  refine wpAny_bind ?_
  refine wp_if_neg (by rw [hs2]; simp) ?_
  try refine wpAny_bind (wpAny_pure ?_)
  refine wpAny_pure ?_
  dsimp only
  refine wpAny_storeSet_of ho hd ?_ (by rw [hs2, hel]; omega)
  have sb : Heap.SameBut a s.heap (s.heap.update a (Obj.putSet (order.filterMap fun i => es[i]?) t')) := Heap.SameBut.update ..
  exact hQ _ L2 _ (ep + 1) t' sb ⟨⟨_, store_at ho hd, ⟨hex.1, hex.2.1, hex.2.2⟩, rfl⟩, hes, T, (r2.map (·.2)).nodup_iff.mpr nd, fun p hp => tup_but (tup p (r2.mem_iff.mp hp)) ho hd sb, by rw [el]; exact ld, by rw [r2.length_eq, em]; exact hn, by rw [r2.length_eq]; exact few⟩ r2
/-- a set with a tuple more, or with as many -/
def Put1 (x : Addr) (k : List Key) (L L' : List (Addr × List Key)) : Prop := (k ∈ L.map (·.2) ∧ L' = L) ∨ (k ∉ L.map (·.2) ∧ L'.Perm ((x, k) :: L))
theorem put_perm' {α : Type} (L : List α) (p : Nat) (x : α) : (L.take p ++ x :: L.drop p).Perm (x :: L) :=
  List.perm_middle.trans (by rw [List.take_append_drop])
theorem addQ (R : SetQ P w s.heap a L es ep t) {x : Addr} {k : List Key} (hx : TupK P w s.heap k x) (hu : A.units < cLine) (hfew : L.length + 1 ≤ 4000) {Q : Bool → Shared → Prop}
    (hQ : ∀ b h' L' es' ep' t', Heap.SameBut a s.heap h' → SetQ P w h' a L' es' ep' t' → Put1 x k L L' → Q b { s with heap := h' }) :
    wpAny (model P w) A (setAddHashed a (.ref x) (hshK P w k)) Q E s := by
  obtain ⟨o, ho, hex, hd⟩ := R.ob
  have hel := rowQ_len R.rows
  have hroom := R.room
  have big : (8192 : Nat) ≤ sizeLine := by decide
  obtain ⟨K, hKf, hK, hKb⟩ := R.tab.first (by rw [List.length_map]; omega) (hshK P w k)
  have hKs : K < 100000 := by
    have := mk_le R.tab.ms
    unfold SetTable.turns at hKf
    omega
  have start : ∀ (i : Nat) p, L[i]? = some p → p.2 = k → ∃ c', 0 ≤ c' ∧ c' < K ∧ t.place.toList[i]? = some (way t.mask (hshK P w k) c') := fun i p hp hk => by
    have hi : (L.map fun p => hshK P w p.2)[i]? = some (hshK P w k) := by rw [List.getElem?_map, hp, ← hk]; rfl
    have hil : i < t.place.toList.length := by
      rw [R.tab.len]
      exact (List.getElem?_eq_some_iff.mp hi).1
    obtain ⟨c, hc, e⟩ := R.tab.ahead hK hi (List.getElem?_eq_getElem hil)
    exact ⟨c, Nat.zero_le _, hc, by rw [List.getElem?_eq_getElem hil, e]⟩
  unfold setAddHashed
  refine wpAny_holding ?_
  rw [show (100000 : Nat) = 99999 + 1 from rfl, setAddHashedIn_succ]
  refine wpAny_bind (wpAny_setState_of ho hd R.fits ?_)
  dsimp only
  refine wp_if_neg (by simp [byScan, Value.scannable]) ?_
  try refine wpAny_bind (wpAny_pure ?_)
  refine wpAny_bind (srchQ R hx hu hKf hK hKb (fun hm => ?_) (fun hm => ?_) 100000 0 none rfl (Nat.zero_le _) (by omega) start)
  · exact wpAny_pure (hQ false s.heap L es ep t (Heap.SameBut.refl a s.heap) R (.inl ⟨hm, rfl⟩))
  dsimp only
  refine wpAny_bind (wpAny_setState_of ho hd R.fits ?_)
  dsimp only
  obtain ⟨q1, q2, q3, q4, q5, q6, q9⟩ := R.tab.put hK hKb
  generalize t.put (way t.mask (hshK P w k) K) = pt at q1 q3 q4 q5 q6 q9 ⊢
  obtain ⟨t1, p⟩ := pt
  dsimp only at q1 q3 q4 q5 q6 q9 ⊢
  subst q1
  have hin : (SetTable.insertAt es (SetTable.below t.place (way t.mask (hshK P w k) K)) (hshK P w k, Value.ref x)).toList = rowQ P w (L.take (SetTable.below t.place (way t.mask (hshK P w k) K)) ++ (x, k) :: L.drop (SetTable.below t.place (way t.mask (hshK P w k) K))) := by
    rw [SetTable.toList_insertAt, R.rows]
    unfold rowQ
    rw [List.map_append, List.map_cons, List.map_take, List.map_drop]
  generalize SetTable.below t.place (way t.mask (hshK P w k) K) = p at q2 q3 hin ⊢
  have pm := put_perm' L p (x, k)
  have hlen : (L.take p ++ (x, k) :: L.drop p).length = L.length + 1 := pm.length_eq
  have hhs : (L.take p ++ (x, k) :: L.drop p).map (fun p => hshK P w p.2) = (L.map fun p => hshK P w p.2).take p ++ hshK P w k :: (L.map fun p => hshK P w p.2).drop p := by
    rw [List.map_append, List.map_cons, List.map_take, List.map_drop]
  rw [← hhs] at q3
  have nd1 : ((L.take p ++ (x, k) :: L.drop p).map (·.2)).Nodup := (pm.map (·.2)).nodup_iff.mpr (List.nodup_cons.mpr ⟨hm, R.nd⟩)
  have hes := rowQ_len hin
  rw [hlen] at hes
  generalize SetTable.insertAt es p (hshK P w k, Value.ref x) = es1 at hin hes ⊢
  generalize L.take p ++ (x, k) :: L.drop p = L1 at pm hlen q3 nd1 hin
  -- whichever word the hashes leave
  have tail : ∀ t2 : SetTable, t2.place = t1.place → t2.dummies = t1.dummies → t2.mask = t1.mask → t2.led = t1.led → wpAny (model P w) A (do
      storeSet a es1 t2
      if (!false && t2.tooFull) = true then do
        setRelay a (SetTable.grown (es.size + 1))
        pure true
      else pure true) Q E s := by
    intro t2 z1 z2 z3 z4
    have q3 : TbOk t2 (L1.map fun p => hshK P w p.2) := ⟨by rw [z1]; exact q3.ris, by rw [z2]; exact q3.dm, by rw [z1]; exact q3.sz, by rw [z3]; exact q3.ms, by rw [z1, z3]; exact q3.bd, by rw [z1, z3]; exact q3.re⟩
    have hfill : t2.fill = L.length + 1 := by
      unfold SetTable.fill
      rw [z1, z2]
      rw [List.length_map] at q9
      exact q9
    refine wpAny_bind (wpAny_storeSet_of ho hd ?_ (by omega))
    have sb : Heap.SameBut a s.heap (s.heap.update a (Obj.putSet es1 t2)) := Heap.SameBut.update ..
    have ho1 := store_at (es' := es1) (t' := t2) ho hd
    generalize s.heap.update a (Obj.putSet es1 t2) = h1 at sb ho1 ⊢
    have tup1 : ∀ p ∈ L1, TupK P w h1 p.2 p.1 := fun p hp => by
      rcases List.mem_cons.mp (pm.mem_iff.mp hp) with rfl | hp
      · exact tup_but hx ho hd sb
      · exact tup_but (R.tup p hp) ho hd sb
    have ld1 : w.params.followText "set-order" = true ∨ t2.led = true := by rw [z4, q5]; exact R.led
    have hmask : t2.mask = t.mask := z3.trans q4
    by_cases hf : t2.tooFull = true
    · rw [hf]
      simp only [Bool.not_false, Bool.and_self, if_true]
      have hfull : t.mask * 3 ≤ (L.length + 1) * 5 := by
        unfold SetTable.tooFull at hf
        rw [hfill, hmask] at hf
        exact of_decide_eq_true hf
      obtain ⟨M, n1, n2, n3, n4, n5⟩ := mk_next R.tab.ms (show L.length ≤ 4900 by omega) hfull hroom
      rw [hel]
      have hsz2 : t2.place.size = es1.size := by rw [q3.sz, List.length_map, hlen, hes]
      refine wpAny_bind (relayQ (s := { s with heap := h1 }) ho1 ⟨hex.1, hex.2.1, hex.2.2⟩ rfl hin hsz2 q3.dm (by omega) nd1 tup1 ld1 (by omega) n1 n2 n3 (by omega) fun h2 L2 es2 ep2 t3 sb2 R2 pm2 => ?_)
      exact wpAny_pure (hQ true h2 L2 es2 ep2 t3 (sb.trans sb2) R2 (.inr ⟨hm, pm2.trans pm⟩))
    · rw [show t2.tooFull = false from by simpa using hf]
      simp only [Bool.and_false, Bool.false_eq_true, if_false]
      have hnot : ¬ t.mask * 3 ≤ (L.length + 1) * 5 := fun z => hf (by
        unfold SetTable.tooFull
        rw [hfill, hmask]
        exact decide_eq_true z)
      exact wpAny_pure (hQ true h1 L1 es1 (ep + 1) t2 sb ⟨⟨_, ho1, ⟨hex.1, hex.2.1, hex.2.2⟩, rfl⟩, hin, q3, nd1, tup1, ld1, by omega, by omega⟩ (.inr ⟨hm, pm⟩))
  by_cases hpl : t1.plain = true
  · refine wp_if_pos hpl (wpAny_bind (tup_byValue hx fun c => ?_))
    cases c with
    | true => exact tail t1 rfl rfl rfl rfl
    | false => exact tail { t1 with plain := false } rfl rfl rfl rfl
  · refine wp_if_neg hpl ?_
    first
      | exact tail t1 rfl rfl rfl rfl
      | exact wpAny_bind (wpAny_pure (tail t1 rfl rfl rfl rfl))
end
end Sh
set_option Elab.async false
set_option linter.all false
set_option maxRecDepth 100000
set_option maxHeartbeats 3200000
/-! a set of tuples as a tracked thing; its comprehension -/
namespace Sh
open PySem PySem.Spec PyProof.Rows L2 PpSet
/-- the set but for its tuples, which are tracked themselves -/
def SetQ0 (P : Program) (w : World) (h : Heap) (a : Addr) (L : List (Addr × List Key)) : Prop := ∃ (es : Array (Int × Value)) (ep : Nat) (t : SetTable), (∃ o, h.get? a = some o ∧ o.ExactSet ∧ o.data = .set es ep t) ∧ es.toList = rowQ P w L ∧ TbOk t (L.map fun p => hshK P w p.2) ∧ (L.map (·.2)).Nodup ∧
  (w.params.followText "set-order" = true ∨ t.led = true) ∧ L.length * 5 < t.mask * 3 ∧ L.length ≤ 4000
def SetQO (P : Program) (w : World) (a : Addr) (L : List (Addr × List Key)) : HO := .ext fun h => SetQ0 P w h a L
section
variable {P : Program} {w : World} {h : Heap} {a : Addr} {L : List (Addr × List Key)} {es : Array (Int × Value)} {ep : Nat} {t : SetTable}
theorem SetQ.bare (R : SetQ P w h a L es ep t) : SetQ0 P w h a L := ⟨es, ep, t, R.ob, R.rows, R.tab, R.nd, R.led, R.room, R.few⟩
theorem SetQ0.full (R : SetQ0 P w h a L) (ht : ∀ p ∈ L, TupK P w h p.2 p.1) : ∃ es ep t, SetQ P w h a L es ep t :=
  let ⟨es, ep, t, h1, h2, h3, h4, h5, h6, h7⟩ := R
  ⟨es, ep, t, h1, h2, h3, h4, ht, h5, h6, h7⟩
theorem setQO_ok {H : Hp} (R : SetQ0 P w h a L) : ObjOk P w H h a (SetQO P w a L) := by
  have ⟨_, _, _, ⟨o, ho, _⟩, _⟩ := R
  refine ⟨R, ⟨o, ho⟩, fun h1 h2 p k => ?_⟩
  have ⟨es, ep, t, ⟨o', ho', r⟩, q⟩ : SetQ0 P w h1 a L := p
  exact ⟨es, ep, t, ⟨o', k o' ho', r⟩, q⟩
theorem newQ (ho : h.get? a = some { cls := .type "set", dict := none, data := .set #[] 0 (.fresh 0 0 (!w.params.followText "set-order")) }) : SetQ0 P w h a [] := by
  refine ⟨#[], 0, _, ⟨_, ho, ⟨rfl, rfl, rfl⟩, rfl⟩, rfl, ⟨List.Pairwise.nil, rfl, rfl, .inl rfl, fun x hx => (by cases hx), fun i h j hi => (by simp at hi)⟩, List.nodup_nil, ?_, by show 0 * 5 < 7 * 3; decide, Nat.zero_le _⟩
  show _ ∨ (!w.params.followText "set-order") = true
  cases w.params.followText "set-order"
  · exact .inr rfl
  · exact .inl rfl
end
section
variable {X : Cx}
theorem key_items {P : Program} {w : World} : ∀ {k : List Key} {us : List Value}, Vals (k.map kV) us → ItemsAre (mixKind P w) k us
  | [], _, .nil => .nil
  | .inl i :: k, _, .cons r t => by
    obtain ⟨u, rfl⟩ := r
    exact .cons (keyIs_int i u) (key_items t)
  | .inr x :: k, _, .cons r t => by
    obtain ⟨u, rfl⟩ := r
    exact .cons (keyIs_str x u) (key_items t)
theorem tupK_of {pins : List (Addr × Obj)} {σ : L2.St} {H : Hp} {s : Shared} {b : Addr} {k : List Key} (I : Inv X pins σ H s) (h : SqT X.K H b (k.map kV)) : TupK X.prog X.w s.heap k b := by
  obtain ⟨its, r, ⟨o, ho, hc, n, hd⟩, _⟩ := I.tuple h
  exact ⟨o, its.toArray, n, ho, hc, hd, by simpa using key_items r⟩
/-- d.add(t) -/
theorem addQ_in {pins : List (Addr × Obj)} {σ : L2.St} {H : Hp} {s : Shared} {E : Value → Shared → Prop} {D b : Addr} {k : List Key} {L : List (Addr × List Key)} {Q : Value → Shared → Prop} (I : Inv X pins σ H s) (hu : X.A.units + 8 < cLine)
    (hD : H D = some (SetQO X.prog X.w D L)) (hb : SqT X.K H b (k.map kV)) (hL : ∀ p ∈ L, SqT X.K H p.1 (p.2.map kV)) (hn : L.length + 1 ≤ 4000)
    (h : ∀ s' L', Put1 b k L L' → Inv X pins σ (upd H D (SetQO X.prog X.w D L')) s' → Q .none s') : wpAny (model X.prog X.w) X.A (call (.builtin "set.add") [.ref D, .ref b]) Q E s := by
  have R0 : SetQ0 X.prog X.w s.heap D L := (I.hok D _ hD).1
  obtain ⟨es, ep, t, R⟩ := R0.full fun p hp => tupK_of I (hL p hp)
  have hk := tupK_of I hb
  obtain ⟨o, ho, hex, _⟩ := R.ob
  have hT : s.TypeIs (.ref D) "set" := ⟨o, ho, hex.1⟩
  refine wpAny_call_entry F.slot_set_add hT F.entry_set_add ?_ (F.args_set_add_2 _ _)
  unfold Builtin.«set.add» Builtin.Frozenset.oneOther
  simp only [List.isEmpty_nil, bind_assoc]
  unfold Builtin.Frozenset.addrOf setAdd
  refine wpAny_bind (wpAny_pure ?_)
  try dsimp only
  refine wpAny_bind (wpAny_pure ?_)
  try dsimp only
  refine wpAny_bind (wpAny_holding ?_)
  refine wpAny_bind (wpAny_pyHash_tuple (by first | (show X.A.units + _ < _; omega) | (simp; omega)) hk ?_)
  refine addQ (s := { s with toks := s.toks + (k.length + 1) }) R hk (by first | (show X.A.units + _ < _; omega) | (simp; omega)) hn fun bb h' L' es' ep' t' sb R' hp => ?_
  refine wpAny_pure ⟨_, rfl, h _ L' hp ?_⟩
  have he : ∃ u, h'.get? D = some u := let ⟨o, e, _⟩ := R'.ob; ⟨o, e⟩
  exact I.write (e := D) (t' := s.toks + (k.length + 1)) (by rw [hD]; trivial) (.inl rfl) (fun c u hc hu => (sb.2 c hc).trans hu) he (setQO_ok R'.bare)
end
end Sh
set_option Elab.async false
set_option linter.all false
set_option maxRecDepth 100000
set_option maxHeartbeats 3200000
/-! {t for x in xs}, t a tuple -/
namespace Sh
open PySem PySem.Spec PyProof.Rows L2 PpSet
section
variable {X : Cx}
/-- what one turn of such a comprehension asks: the thing y is put into the set at D -/
def putQ (P : Program) (w : World) (K : PySem.W.Frag) (D : Addr) (N : Hp → Prop) : VK := fun y H => ∃ (b : Addr) (k : List Key) (L : List (Addr × List Key)), y = .ref b ∧ SqT K H b (k.map kV) ∧ H D = some (SetQO P w D L) ∧ (∀ p ∈ L, SqT K H p.1 (p.2.map kV)) ∧ L.length + 1 ≤ 4000 ∧
  ∀ L', Put1 b k L L' → N (upd H D (SetQO P w D L'))
def tScQ (P : Program) (w : World) (K : PySem.W.Frag) (wi : TI) (g : TG) (te : TE) (vs : List Nat) : TE := fun σ H Q => wi σ H fun J H1 => ∀ D, H1 D = none → ∃ W : Nat → Nat → Hp → Prop, (∃ m, W 0 m (upd H1 D (SetQO P w D []))) ∧ ∀ i m H, W i m H →
  (J.stop i H ∧ Q (.ref D) H) ∨ (J.go i H ∧ ∃ N : Hp → Prop, (∀ H', N H' → ∃ m', m' < m ∧ W (i + 1) m' H') ∧ ∀ x H', J.yld i H x H' → g x (wipe σ vs) H' fun σ2 H2 => wipe σ2 vs = wipe σ vs ∧ te σ2 H2 (putQ P w K D N))
theorem pe_scQ {elt tg iter : Expr} {scope : Scope} {own' : List (PySem.Str × Nat)} {pos : Pos} {wi : TI} {g : TG} {te : TE} (hu : X.A.units + 8 < cLine) (hc : X.calm = true) (hN : X.N.Nodup) (hi : PI X tg iter wi) (ok : BlkOk X.N X.env.scope scope own')
    (hg : ∀ (s : Shared) (H : Hp) (C : Addr) (cl : List (PySem.Str × Addr)) (fp : List Addr), PG (X.blk s H scope (compEnvC scope cl C X.env) fp) tg g)
    (he : ∀ (s : Shared) (H : Hp) (C : Addr) (cl : List (PySem.Str × Addr)) (fp : List Addr), PE (X.blk s H scope (compEnvC scope cl C X.env) fp) elt te) (hs : ∀ x, foldedSetIterable iter X.env x = pure x := by intro _; rfl) :
    PE X (.SetComp elt [⟨tg, iter, [], 0⟩] scope pos) (tScQ X.prog X.w X.K wi g te (own'.map (·.2))) := by
  refine ⟨fun pins s σ H Q I h => ?_⟩
  rw [eval_SetComp]
  have free : ∀ y ∈ scope.names, y.2 = .free → ∃ c, X.env.cells.lookup y.1 = some c := fun y hy e => (ok.free y hy e).elim (fun k => I.ok.has _ (.inl k)) fun k => I.ok.has _ (.inr k)
  refine wpAny_comprehension_free (use := none) rfl hs (closure_ok free) ok.kind (fun y hy e => by rw [ok.uniq y hy, e]) (thn (hi.run pins s σ H _ I h) fun xv s1 hx => thn hx fun itv s2 h2 => ?_)
  obtain ⟨it, fp, tn, J, H2, rfl, I2, T, st2, f2, q⟩ := h2
  refine newSet_ok (newEnv_comp ?_)
  -- the set's own place, and the comprehension's frame behind it
  have fresh := I2.hok.fresh (Nat.le_refl s2.heap.objs.size)
  obtain ⟨W, ⟨m0, w0⟩, turn⟩ := q _ fresh
  generalize hD : s2.heap.objs.size = D at fresh w0 turn ⊢
  have kp3 : ∀ b o, s2.heap.get? b = some o → (s2.heap.push { cls := .type "set", dict := none, data := .set #[] 0 (.fresh 0 0 (!X.w.params.followText "set-order")) }).get? b = some o := fun b o e => Heap.get?_push_of_some _ e
  have at3 : (s2.heap.push { cls := .type "set", dict := none, data := .set #[] 0 (.fresh 0 0 (!X.w.params.followText "set-order")) }).get? D = some { cls := .type "set", dict := none, data := .set #[] 0 (.fresh 0 0 (!X.w.params.followText "set-order")) } := by rw [← hD]; exact Heap.get?_push_size _ rfl
  have sz3 : ({ s2 with heap := s2.heap.push { cls := .type "set", dict := none, data := .set #[] 0 (.fresh 0 0 (!X.w.params.followText "set-order")) } } : Shared).heap.objs.size = s2.heap.objs.size + 1 := Heap.size_push ..
  have I3 : Inv X pins σ (upd H2 D (SetQO X.prog X.w D [])) { s2 with heap := s2.heap.push { cls := .type "set", dict := none, data := .set #[] 0 (.fresh 0 0 (!X.w.params.followText "set-order")) } } := I2.laid (t' := s2.toks) kp3 (Nat.le_of_eq hD) (setQO_ok (newQ at3))
  have lt2 : ∀ b ∈ fp, b < s2.heap.objs.size := fun b hb => let ⟨o, e, _⟩ := T.obj _ _ st2 b hb; Heap.lt_size e
  have st3 : tn 0 ({ s2 with heap := s2.heap.push { cls := .type "set", dict := none, data := .set #[] 0 (.fresh 0 0 (!X.w.params.followText "set-order")) } } : Shared).heap := T.keep _ _ _ st2 fun b _ o e => kp3 b o e
  generalize ({ s2 with heap := s2.heap.push { cls := .type "set", dict := none, data := .set #[] 0 (.fresh 0 0 (!X.w.params.followText "set-order")) } } : Shared) = s3 at I3 st3 sz3 ⊢
  generalize hH3 : upd H2 D (SetQO X.prog X.w D []) = H3 at I3 w0
  have f3 : ∀ b ∈ fp, FpOk X pins H3 b := fun b hb => ⟨by
    rw [← hH3, upd_ne (show b ≠ D from by rw [← hD]; exact Nat.ne_of_lt (lt2 b hb))]
    exact (f2 b hb).1, (f2 b hb).2⟩
  have lt3 : ∀ b ∈ fp, b < s3.heap.objs.size := fun b hb => by
    rw [sz3]
    exact Nat.lt_succ_of_lt (lt2 b hb)
  have I4 := block_start I3 ok hN fun b hb => ⟨f3 b hb, lt3 b hb⟩
  have pg := hg s3 H3 s3.heap.objs.size (cellsFrom (s3.heap.objs.size + 1) scope.names (cloFrom X.env.cells scope.names [])) fp
  have pe := he s3 H3 s3.heap.objs.size (cellsFrom (s3.heap.objs.size + 1) scope.names (cloFrom X.env.cells scope.names [])) fp
  have st4 : tn 0 ({ s3 with heap := pushCells (s3.heap.push { cls := .type "dict", data := .dict #[] }) scope.names } : Shared).heap := T.keep _ _ _ st3 fun b _ o e => pushCells_keeps _ _ _ _ (Heap.get?_push_of_some _ e)
  have nfp : ∀ b ∈ fp, H3 b = none := fun b hb => (f3 b hb).1
  show codeAny _ _ (.compStart (.SetComp elt [⟨tg, iter, [], 0⟩] scope pos) 0 (.ref it) (.ref D) (compEnvC scope (cellsFrom (s3.heap.objs.size + 1) scope.names (cloFrom X.env.cells scope.names [])) s3.heap.objs.size X.env)) (compPost (model X.prog X.w) X.A X.xe none _ (.ref D) s3.heap.objs.size) { s3 with heap := pushCells (s3.heap.push { cls := .type "dict", data := .dict #[] }) scope.names }
  have cL : (compEnvC scope (cellsFrom (s3.heap.objs.size + 1) scope.names (cloFrom X.env.cells scope.names [])) s3.heap.objs.size X.env).locals = s3.heap.objs.size := rfl
  generalize compEnvC scope (cellsFrom (s3.heap.objs.size + 1) scope.names (cloFrom X.env.cells scope.names [])) s3.heap.objs.size X.env = ce at I4 pg pe cL ⊢
  generalize ({ s3 with heap := pushCells (s3.heap.push { cls := .type "dict", data := .dict #[] }) scope.names } : Shared) = s4 at I4 st4 ⊢
  generalize hY : X.blk s3 H3 scope ce fp = Y at I4 pg pe
  have Yp : Y.prog = X.prog := by rw [← hY]
  have Yw : Y.w = X.w := by rw [← hY]
  have YK : Y.K = X.K := by rw [← hY]
  have Yc : Y.calm = true := by rw [← hY]; exact hc
  have YA : Y.A = X.A := by rw [← hY]
  subst hY
  -- the iterator's own things, in the comprehension
  have own : ∀ {σ' : L2.St} {H' : Hp} {s' : Shared}, Inv (X.blk s3 H3 scope ce fp) [] σ' H' s' → (∀ b ∈ fp, H' b = none) → ∀ b ∈ fp, FpOk (X.blk s3 H3 scope ce fp) [] H' b := fun {σ' H' s'} I' hn b hb =>
    ⟨hn b hb, (I'.ok.exf b hb).1, I'.ok.exfs b hb, .inl hb, fun x c e => (I'.ok.exf b hb).2 x c e, fun p hp => absurd (show p ∈ ([] : List (Addr × Obj)) ++ [] from hp) (by simp)⟩
  refine codeAny_compStart_set ?loop (T.self X.A 0 _ _ _ st4 ?loop)
  refine compLoopS_any (fun n s' => ∃ i H', Inv (X.blk s3 H3 scope ce fp) [] (wipe σ (own'.map (·.2))) H' s' ∧ tn i s'.heap ∧ (∀ b ∈ fp, H' b = none) ∧ W i n H') (fun n s5 ⟨i, H5, I5, st5, n5, w5⟩ => ?_) m0 ⟨0, H3, I4, st4, nfp, w0⟩
  rcases turn i n H5 w5 with ⟨stop, qq⟩ | ⟨go, N, hN', step⟩
  · refine thnF (T.done (X.blk s3 H3 scope ce fp) rfl rfl rfl hc i [] s5 _ H5 (fun _ _ => False) I5 (own I5 n5) st5 stop) fun r s6 ⟨hr, I6⟩ => ?_
    subst hr
    have I7 : Inv X pins σ H5 s6 := I3.call' (ch := fp) I6.os I6.base I6.hok I6.bare fun b hb => let f := f3 b hb; ⟨f.2.2.2.1, f.2.1, f.2.2.2.2.1, f.2.2.2.2.2⟩
    have nC : H5 s3.heap.objs.size = none := cL ▸ (show H5 ce.locals = none from I6.free)
    obtain ⟨m, hn, _⟩ := I6.loc
    have hn : s6.heap.Ns s3.heap.objs.size m := cL ▸ (show s6.heap.Ns ce.locals m from hn)
    obtain ⟨g0, g1, g2, g3, g4, g5⟩ := I3.fpOk (Nat.le_refl _) nC
    exact ⟨m, hn, fun h'' sb => ⟨.ref D, H5, I7.turned (t' := s6.toks) (fun b o hb e => (sb.2 b hb).trans e) g0 g1 g3 g4 g5, rfl, qq⟩⟩
  · refine thnF (T.item (X.blk s3 H3 scope ce fp) rfl rfl rfl hc i [] s5 _ H5 (fun _ _ => False) I5 (own I5 n5) st5 go) fun r s6 ⟨u, hr, h6⟩ => ?_
    subst hr
    refine thnF h6 fun _ s7 ⟨x, H7, I7, r7, y7, st7, n7⟩ => ?_
    have P7 := I7.pinned (own I7 n7) (T.obj _ _ st7)
    refine thnF (pg.run _ s7 _ H7 x u _ P7 r7 (step x H7 y7)) fun _ s8 ⟨σ8, H8, I8, hw8, q8⟩ => ?_
    refine wpAny_pure ?_
    simp only [if_true]
    refine thnF (pe.run _ s8 σ8 H8 _ I8 q8) fun z s10 ⟨yv, H10, I10, r10, b, k, L, ey, hb, hD10, hL, hlen, nx⟩ => ?_
    subst ey
    cases (show z = Value.ref b from r10)
    refine addQ_in (X := X.blk s3 H3 scope ce fp) I10 hu hD10 hb hL hlen fun s11 L' hp I11 => ?_
    obtain ⟨m', hm, w'⟩ := hN' _ (nx L' hp)
    have pin : ∀ b ∈ fp, ∀ o, s7.heap.get? b = some o → s11.heap.get? b = some o ∧ (upd H10 D (SetQO X.prog X.w D L')) b = none := fun b hb o e =>
      let z := I11.pin (b, o) (List.mem_append_right _ (List.mem_append_right _ (mem_pinsAt hb e)))
      ⟨z.1, z.2.1⟩
    refine ⟨m', hm, i + 1, _, (I11.unpinned (pins := [])).weak (by rw [← hw8, wipe_length]) (fun j v e => ?_), T.keep _ _ _ st7 fun b hb o e => (pin b hb o e).1, fun b hb => ?_, w'⟩
    · rw [← hw8] at e
      exact (wipe_some e).1
    · obtain ⟨o, e, _⟩ := T.obj _ _ st7 b hb
      exact (pin b hb o e).2
end
end Sh
set_option Elab.async false
set_option linter.all false
set_option maxRecDepth 100000
set_option maxHeartbeats 3200000
/-! sorted of a set of tuples -/
namespace Sh
open PySem PySem.Spec PyProof.Rows L2
section
variable {P : Program} {w : World} {A : Around} {E : Value → Shared → Prop} {s : Shared} {a : Addr} {L : List (Addr × List Key)} {es : Array (Int × Value)} {ep : Nat} {t : SetTable}
theorem sorted_setQ {Q : Value → Shared → Prop} {k : Value → List V} {T : String} (R : SetQ P w s.heap a L es ep t) (hh : A.handled = none) (hk : ∀ p ∈ L, TupV s.heap (.ref p.1) (k (.ref p.1))) (hs : ∀ p ∈ L, ∀ q ∈ L, sameKs (k (.ref p.1)) (k (.ref q.1)) = true) (ht : ∀ p ∈ L, Head T (k (.ref p.1)))
    (hQ : ∀ s' p (out : List Value) (c : Nat), (∀ b o, s.heap.get? b = some o → s'.heap.get? b = some o) → s'.gens = s.gens → s'.os = s.os → s.heap.objs.size ≤ p → s'.heap.get? p = some (seqObj "list" out.toArray c) →
      out.Perm (L.map fun p => Value.ref p.1) → SrtO.Srtd (fun u v => cLt (k u) (k v)) out → Q (.ref p) s') :
    wpAny (model P w) A (call (.builtin "sorted") [.ref a]) Q E s := by
  obtain ⟨o, ho, hex, hd⟩ := R.ob
  have hel := rowQ_len R.rows
  have hfew := R.few
  have big : (8192 : Nat) ≤ sizeLine := by decide
  have hrows : es.toList.map (·.2) = L.map fun p => Value.ref p.1 := by
    rw [R.rows]
    unfold rowQ
    rw [List.map_map]
    rfl
  refine Calls.call_function_entry kind_sorted plain_sorted entry_sorted (args_sorted1 _) ?_
  unfold Builtin.«sorted»
  refine wpAny_bind (m := checkCount "sorted" 1 1 _) (wpAny_pure ?_)
  refine wpAny_bind (collect_set (A := A.in1) hh ⟨o, ho, hex.1, hd⟩ R.fits (by unfold scanBound; omega) R.tab.ris R.led fun s1 vs k1 hz g1 o1 pm => ?_)
  rw [hrows] at pm
  have hvl : vs.length = L.length := by rw [pm.length_eq, List.length_map]
  have mem : ∀ v ∈ vs, ∃ p ∈ L, v = .ref p.1 := fun v hv => by
    obtain ⟨p, hp, e⟩ := List.mem_map.mp (pm.mem_iff.mp hv)
    exact ⟨p, hp, e.symm⟩
  refine wpAny_bind (wpAny_newList ?_ (by omega))
  have hoL : (s1.heap.push (seqObj "list" vs.toArray 0)).get? s1.heap.objs.size = some (seqObj "list" vs.toArray 0) := Heap.get?_push_size _ rfl
  have kp : ∀ b u, s.heap.get? b = some u → b ≠ s1.heap.objs.size ∧ (s1.heap.push (seqObj "list" vs.toArray 0)).get? b = some u := fun b u e =>
    ⟨Nat.ne_of_lt (Heap.lt_size (k1 b u e)), Heap.get?_push_of_some _ (k1 b u e)⟩
  have able : 2 ≤ vs.length → SrtO.SortableO P w A.in1.in1 { s1 with heap := s1.heap.push (seqObj "list" vs.toArray 0) } s1.heap.objs.size vs fun u v => cLt (k u) (k v) := by
    intro h2 h' keep
    have hp' : ∀ v ∈ vs, TupV h' v (k v) := fun v hv => by
      obtain ⟨p, hp, rfl⟩ := mem v hv
      exact (hk p hp).keeps fun b u e _ => keep b u (kp b u e).1 (kp b u e).2
    refine ⟨tuples' (Value.type T != Value.type "tuple"), fun Q' E' hq => ?_, tup_cmp (s := { s1 with heap := h' }) hp' fun v hv u hu => ?_⟩
    · refine tup_kind (s := { s1 with heap := h' }) (T := T) (k := k) (by omega) hp' (fun v hv => ?_) hq
      obtain ⟨p, hp, rfl⟩ := mem v hv
      exact ht p hp
    · obtain ⟨p, hp, rfl⟩ := mem v hv
      obtain ⟨q, hq, rfl⟩ := mem u hu
      exact hs p hp q hq
  refine wpAny_bind (wpAny_holding (wpAny_call_entry slot_list_sort ⟨_, hoL, rfl⟩ entry_list_sort (SrtO.list_sort_ord (swo_cLt k) hoL (by omega) able fun out h1 h2 => ⟨_, rfl, ?_⟩) (args_list_sort _)))
  obtain ⟨c, hc⟩ := sortedHeap_at (vs := vs) (out := out.toArray) hoL
  refine wpAny_pure ⟨_, rfl, hQ _ s1.heap.objs.size out c (fun b u e => ?_) g1 o1 hz hc (h2.perm.trans pm) h1⟩
  have q := k1 b u e
  have hlt := Heap.lt_size q
  show (sortedHeap (s1.heap.push (seqObj "list" vs.toArray 0)) s1.heap.objs.size vs out.toArray).get? b = some u
  rw [sortedHeap_old (Nat.ne_of_lt hlt) (by rw [size_push']; exact Nat.lt_succ_of_lt hlt)]
  exact Heap.get?_push_of_some _ q
end
section
variable {X : Cx}
def rSortedQ (K : PySem.W.Frag) (P : Program) (w : World) : List V → Hp → VK → Prop := fun vs H Q => ∃ (a : Addr) (L : List (Addr × List Key)) (T : String), vs = [.ref a] ∧ H a = some (SetQO P w a L) ∧ (∀ p ∈ L, H p.1 = some (.tup (p.2.map kV))) ∧ (∀ p ∈ L, Head T (p.2.map kV)) ∧ (∀ p ∈ L, ∀ q ∈ L, sameKs (p.2.map kV) (q.2.map kV) = true) ∧
  ∀ (L' : List (Addr × List Key)) (p : Addr) (H' : Hp), L'.Perm L → (L'.map (·.2)).Nodup → L'.Pairwise (fun q r => cLt (r.2.map kV) (q.2.map kV) = false) → H p = none → Same H H' → H' p = some (.lst (L'.map fun q => V.ref q.1)) → Q (.ref p) H'
theorem cr_sortedQ (hc : X.calm = true) : CallR X (.builtin "sorted") (rSortedQ X.K X.prog X.w) := by
  intro pins s σ H vs us Q I r h
  obtain ⟨a, L, T, rfl, ha, hk, ht, hs, q⟩ := h
  have R0 : SetQ0 X.prog X.w s.heap a L := (I.hok a _ ha).1
  obtain ⟨es, ep, t, R⟩ := R0.full fun p hp => tupK_of I (SqT.of (hk p hp))
  rw [Vals.ref1 r]
  have hfew := R.few
  have kv : ∀ p ∈ L, kvH H (.ref p.1) = p.2.map kV := fun p hp => kvH_at (hk p hp)
  refine sorted_setQ (k := kvH H) (T := T) R (I.ok.hd hc) (fun p hp => by rw [kv p hp]; exact Inv.tupV I (hk p hp)) (fun p hp q hq => by rw [kv p hp, kv q hq]; exact hs p hp q hq) (fun p hp => by rw [kv p hp]; exact ht p hp) fun s' p out c k g o hp hg pm hsr => ?_
  have hn : H p = none := I.hok.fresh hp
  obtain ⟨L', pl, el⟩ : ∃ L' : List (Addr × List Key), L'.Perm L ∧ out = L'.map fun p => Value.ref p.1 := by
    have pr : Paired (fun (u : Value) (p : Addr × List Key) => u = .ref p.1) (L.map fun p => Value.ref p.1) L := paired_at (by simp) fun i u p h1 h2 => by
      rw [List.getElem?_map, h2] at h1
      exact (Option.some.inj h1).symm
    obtain ⟨L', p1, p2⟩ := paired_perm pm pr
    refine ⟨L', p1, List.ext_getElem? fun i => ?_⟩
    obtain ⟨e1, e2⟩ := paired_get p2
    rw [List.getElem?_map]
    by_cases hi : i < out.length
    · have h1 := List.getElem?_eq_getElem hi
      have h2 := List.getElem?_eq_getElem (show i < L'.length by omega)
      rw [h1, h2, e2 i _ _ h1 h2]
      rfl
    · rw [List.getElem?_eq_none (by omega), List.getElem?_eq_none (by omega)]
      rfl
  subst el
  have hlen : (L'.map fun q => V.ref q.1).length ≤ sizeLine := by
    have big : (8192 : Nat) ≤ sizeLine := by decide
    rw [List.length_map, pl.length_eq]
    omega
  have hv : Vals (L'.map fun q => V.ref q.1) (L'.map fun q => Value.ref q.1) := by
    clear pl hsr hg pm hlen
    induction L' with
    | nil => exact .nil
    | cons p L' ih => exact .cons rfl ih
  have J : Inv X pins σ (upd H p (.lst (L'.map fun q => V.ref q.1))) { s with heap := s'.heap, gens := s'.gens, drawn := s'.drawn, toks := s'.toks } :=
    I.call (ch := []) (Un.laid k hp hn) (I.hok.laid k hp ⟨hlen, L'.map fun q => Value.ref q.1, c, hv, hg⟩) (by rw [g]; exact I.bare) (fun _ z => nomatch z)
  have e : s' = { s with heap := s'.heap, gens := s'.gens, drawn := s'.drawn, toks := s'.toks } := by
    cases s'
    cases s
    cases o
    rfl
  rw [e]
  refine ⟨.ref p, _, J, rfl, q L' p _ pl ((pl.map (·.2)).nodup_iff.mpr R.nd) ?_ hn (same_new hn) upd_same⟩
  have hpw := List.pairwise_map.mp hsr
  refine hpw.imp_of_mem fun {x y} hx hy h => ?_
  have e1 := kv x (pl.mem_iff.mp hx)
  have e2 := kv y (pl.mem_iff.mp hy)
  rw [← e1, ← e2]
  exact h
end
end Sh
/-! what one book says of the rules of another one; plain Lean -/
namespace Bk
def AllSay (R N : List Rule) : Prop := ∀ r ∈ N, left R r.1 = left R r.2
theorem say_step {R N : List Rule} (w : Wf R) (M : Meets R) (h : AllSay R N) {a b : T} (s : Step N a b) : left R a = left R b := by
  cases s with
  | mk x y r hr => exact left_congr w M (left_congr w M rfl (h r hr)) rfl
theorem say_reach {R N : List Rule} (w : Wf R) (M : Meets R) (h : AllSay R N) {a b : T} (s : Reach N a b) : left R a = left R b := by
  induction s with
  | refl => exact rfl
  | step x _ ih => exact (say_step w M h x).trans ih
theorem say_ends {R N : List Rule} (w : Wf R) (M : Meets R) (h : AllSay R N) {t u : T} (e : left N t = left N u) : left R t = left R u := by
  rw [say_reach w M h (left_reach (R := N) t), say_reach w M h (left_reach (R := N) u), e]
/-- the end in R of the first text with the end k in N -/
def fstE (R N : List Rule) (pre : List T) (k : T) : Option T := (pre.find? fun u => decide (left N u = k)).map (left R)
def brk (R N : List Rule) (pre : List T) : Bool := pre.any fun u => decide (¬ fstE R N pre (left N u) = some (left R u))
theorem fstE_snoc (R N : List Rule) (pre : List T) (t k : T) : fstE R N (pre ++ [t]) k = match fstE R N pre k with
    | some v => some v
    | none => if left N t = k then some (left R t) else none := by
  unfold fstE
  rw [List.find?_append]
  cases h : pre.find? fun u => decide (left N u = k) with
  | some v => rfl
  | none =>
    simp only [Option.none_or, Option.map_none, List.find?_cons, List.find?_nil]
    by_cases c : left N t = k
    · simp [c]
    · simp [c]
theorem fstE_mem {R N : List Rule} {pre : List T} {u : T} (h : u ∈ pre) : ∃ v, fstE R N pre (left N u) = some v := by
  unfold fstE
  cases e : pre.find? fun z => decide (left N z = left N u) with
  | some v => exact ⟨_, rfl⟩
  | none =>
    have := List.find?_eq_none.mp e u h
    simp at this
theorem brk_snoc (R N : List Rule) (pre : List T) (t : T) : brk R N (pre ++ [t]) = (brk R N pre || decide (¬ fstE R N (pre ++ [t]) (left N t) = some (left R t))) := by
  unfold brk
  rw [List.any_append]
  congr 1
  · have key : ∀ l : List T, (∀ u ∈ l, u ∈ pre) → (l.any fun u => decide (¬ fstE R N (pre ++ [t]) (left N u) = some (left R u))) = l.any fun u => decide (¬ fstE R N pre (left N u) = some (left R u)) := by
      intro l
      induction l with
      | nil => intro _; rfl
      | cons u l ih =>
        intro h
        obtain ⟨v, hv⟩ := fstE_mem (R := R) (N := N) (h u List.mem_cons_self)
        have e : fstE R N (pre ++ [t]) (left N u) = fstE R N pre (left N u) := by rw [fstE_snoc, hv]
        rw [List.any_cons, List.any_cons, e, ih fun z hz => h z (List.mem_cons_of_mem _ hz)]
    exact key pre fun _ h => h
  · simp
theorem brk_false {R N : List Rule} (w : Wf R) (M : Meets R) (h : AllSay R N) (l : List T) : brk R N l = false := by
  unfold brk
  rw [List.any_eq_false]
  intro u hu
  obtain ⟨v, hv⟩ := fstE_mem (R := R) (N := N) hu
  have hv' := hv
  unfold fstE at hv'
  rw [Option.map_eq_some_iff] at hv'
  obtain ⟨z, hz, rfl⟩ := hv'
  have := List.find?_some hz
  rw [hv, say_ends w M h (of_decide_eq_true this)]
  simp
theorem brk_true {R N : List Rule} (w : Wf N) (M : Meets N) {l : List T} {r : Rule} (hr : r ∈ N) (hne : ¬ left R r.1 = left R r.2) (h1 : r.1 ∈ l) (h2 : r.2 ∈ l) : brk R N l = true := by
  have e : left N r.1 = left N r.2 := left_eq w M (.step (by have := Step.mk (R := N) [] [] r hr; simpa using this) (.refl _))
  obtain ⟨v, hv⟩ := fstE_mem (R := R) (N := N) h1
  unfold brk
  rw [List.any_eq_true]
  by_cases c : v = left R r.1
  · refine ⟨r.2, h2, ?_⟩
    rw [← e, hv, c]
    exact decide_eq_true fun z => hne (Option.some.inj z)
  · refine ⟨r.1, h1, ?_⟩
    rw [hv]
    exact decide_eq_true fun z => c (Option.some.inj z)
/-- all texts of n signs, of up to n signs -/
def lvl (sg : List Nat) : Nat → List T
  | 0 => [[]]
  | k + 1 => (lvl sg k).flatMap fun t => sg.map fun c => t ++ [c]
def txts (sg : List Nat) (n : Nat) : List T := (List.range (n + 1)).flatMap (lvl sg)
theorem mem_lvl {sg : List Nat} : ∀ {n : Nat} {t : T}, t ∈ lvl sg n ↔ t.length = n ∧ ∀ c ∈ t, c ∈ sg
  | 0, t => by
    simp only [lvl, List.mem_singleton]
    constructor
    · rintro rfl; simp
    · rintro ⟨h, _⟩; exact List.eq_nil_of_length_eq_zero h
  | n + 1, t => by
    simp only [lvl, List.mem_flatMap, List.mem_map]
    constructor
    · rintro ⟨u, hu, c, hc, rfl⟩
      obtain ⟨h1, h2⟩ := mem_lvl.mp hu
      refine ⟨by simp [h1], fun d hd => ?_⟩
      rcases List.mem_append.mp hd with q | q
      · exact h2 d q
      · rw [List.mem_singleton] at q; rw [q]; exact hc
    · rintro ⟨h1, h2⟩
      have hne : t ≠ [] := by
        intro e; rw [e] at h1; simp at h1
      refine ⟨t.dropLast, mem_lvl.mpr ⟨by rw [List.length_dropLast, h1]; rfl, fun c hc => h2 c (List.dropLast_subset t hc)⟩, t.getLast hne, h2 _ (List.getLast_mem hne), List.dropLast_concat_getLast hne⟩
theorem mem_txts {sg : List Nat} {n : Nat} {t : T} : t ∈ txts sg n ↔ t.length ≤ n ∧ ∀ c ∈ t, c ∈ sg := by
  unfold txts
  simp only [List.mem_flatMap, List.mem_range, mem_lvl]
  constructor
  · rintro ⟨k, hk, h1, h2⟩
    exact ⟨by omega, h2⟩
  · rintro ⟨h1, h2⟩
    exact ⟨t.length, by omega, rfl, h2⟩
theorem txts_succ (sg : List Nat) (n : Nat) : txts sg (n + 1) = txts sg n ++ lvl sg (n + 1) := by
  unfold txts
  rw [List.range_succ, List.flatMap_append]
  simp
theorem lvl_len (sg : List Nat) : ∀ n, (lvl sg n).length = sg.length ^ n
  | 0 => by simp [lvl]
  | n + 1 => by
    have : ∀ l : List T, (l.flatMap fun t => sg.map fun c => t ++ [c]).length = l.length * sg.length := by
      intro l
      induction l with
      | nil => simp
      | cons x l ih => rw [List.flatMap_cons, List.length_append, ih, List.length_map, List.length_cons, Nat.succ_mul]; omega
    rw [lvl, this, lvl_len sg n, Nat.pow_succ]
end Bk
/-! steps by place, what a search over steps finds; plain Lean -/
namespace Bk
theorem step_place {R : List Rule} (w : Wf R) {t u : T} (h : Step R t u) : ∃ r ∈ R, ∃ k, k < t.length ∧ (t.drop k).take r.1.length = r.1 ∧ u = t.take k ++ r.2 ++ t.drop (k + r.1.length) := by
  cases h with
  | mk x y r hr =>
    have := (w r hr).1
    refine ⟨r, hr, x.length, by simp; omega, ?_, ?_⟩
    · rw [List.append_assoc, List.drop_left, List.take_left]
    · have e1 : (x ++ r.1 ++ y).take x.length = x := by rw [List.append_assoc, List.take_left]
      have e2 : (x ++ r.1 ++ y).drop (x.length + r.1.length) = y := by rw [← List.length_append, List.drop_left]
      rw [e1, e2]
theorem place_step {R : List Rule} {t : T} {r : Rule} (hr : r ∈ R) {k : Nat} (h : (t.drop k).take r.1.length = r.1) : Step R t (t.take k ++ r.2 ++ t.drop (k + r.1.length)) := by
  have e : t = t.take k ++ r.1 ++ t.drop (k + r.1.length) := by
    conv => lhs; rw [← List.take_append_drop k t, ← List.take_append_drop r.1.length (t.drop k), h, List.drop_drop]
    rw [List.append_assoc]
  have s := Step.mk (R := R) (t.take k) (t.drop (k + r.1.length)) r hr
  rw [← e] at s
  exact s
/-- a set that holds the successors of all it holds but of W's -/
def ClosedBut (R : List Rule) (F W : List T) : Prop := ∀ a ∈ F, a ∉ W → ∀ b, Step R a b → b ∈ F
theorem closed_reach {R : List Rule} {F : List T} (h : ClosedBut R F []) {a b : T} (s : Reach R a b) : a ∈ F → b ∈ F := by
  induction s with
  | refl => exact id
  | step x _ ih => exact fun m => ih (h _ m (by simp) _ x)
end Bk
/-! the least book: its left sides are the least texts that are no ends; plain Lean -/
namespace Bk
theorem over_place {a b t : T} {k : Nat} (hk : k < a.length) (h : over a b k = some t) : t.take a.length = a ∧ (t.drop k).take b.length = b := by
  unfold over at h
  split at h
  case isFalse => cases h
  case isTrue c =>
    cases h
    refine ⟨by simp, ?_⟩
    rcases Nat.le_total (a.length - k) b.length with q | q
    · rw [Nat.min_eq_left q] at c ⊢
      have e1 : (a.drop k).take (a.length - k) = a.drop k := List.take_of_length_le (by simp)
      rw [e1] at c
      rw [List.drop_append_of_le_length (by omega), c, List.take_append_drop, List.take_length]
    · rw [Nat.min_eq_right q] at c ⊢
      rw [List.take_length] at c
      rw [List.drop_length, List.append_nil]
      exact c
/-- a book whose rules the first one says, and which leaves only ends of it, has the same ends -/
theorem same_left {R L : List Rule} (w : Wf R) (M : Meets R) (wL : Wf L) (he : ∀ t, IsEnd L t → IsEnd R t) (hs : AllSay R L) : (∀ t, left L t = left R t) ∧ Meets L := by
  have main : ∀ t, left L t = left R t := by
    intro t
    rw [say_reach w M hs (left_reach (R := L) t), left_of_end (he _ (left_end wL t))]
  refine ⟨main, fun r hr q hq k hk t ho => ?_⟩
  rw [main, main]
  obtain ⟨h1, h2⟩ := over_place hk ho
  have s1 : Step L t (res1 r t) := by
    have := place_step (k := 0) (t := t) hr (by simpa using h1)
    simpa [res1] using this
  have s2 : Step L t (res2 q t k) := place_step hq h2
  rw [← say_step w M hs s1, ← say_step w M hs s2]
/-- a proper piece of l is a left side -/
def Ins (R : List Rule) (l : T) : Prop := ∃ x m y, l = x ++ m ++ y ∧ m ≠ l ∧ ∃ r ∈ R, r.1 = m
/-- no end, but all its proper pieces are -/
def MinRed (R : List Rule) (l : T) : Prop := ¬ IsEnd R l ∧ ∀ x m y, l = x ++ m ++ y → m ≠ l → IsEnd R m
theorem not_end_left {R : List Rule} {r : Rule} (h : r ∈ R) : ¬ IsEnd R r.1 := by
  intro e
  exact isEnd_iff.mp e r h [] [] (by simp)
theorem not_end {R : List Rule} {t : T} (h : ¬ IsEnd R t) : ∃ r ∈ R, ∃ x y, t = x ++ r.1 ++ y := by
  rw [isEnd_iff] at h
  simp only [Classical.not_forall] at h
  obtain ⟨r, hr, x, y, e⟩ := h
  exact ⟨r, hr, x, y, Classical.not_not.mp e⟩
theorem minRed_iff {R : List Rule} {l : T} : ((∃ r ∈ R, r.1 = l) ∧ ¬ Ins R l) ↔ MinRed R l := by
  constructor
  · rintro ⟨⟨r, hr, rfl⟩, hi⟩
    refine ⟨not_end_left hr, fun x m y e hm => ?_⟩
    refine Classical.byContradiction fun he => ?_
    obtain ⟨q, hq, a, b, rfl⟩ := not_end he
    refine hi ⟨x ++ a, q.1, b ++ y, by rw [e]; simp [List.append_assoc], fun z => hm ?_, q, hq, rfl⟩
    have l1 := congrArg List.length e
    have l2 := congrArg List.length z
    simp at l1
    have : a = [] ∧ b = [] ∧ x = [] ∧ y = [] := by
      refine ⟨?_, ?_, ?_, ?_⟩ <;> (apply List.eq_nil_of_length_eq_zero; omega)
    obtain ⟨rfl, rfl, rfl, rfl⟩ := this
    simpa using z
  · rintro ⟨h1, h2⟩
    obtain ⟨r, hr, x, y, e⟩ := not_end h1
    refine ⟨⟨r, hr, ?_⟩, ?_⟩
    · refine Classical.byContradiction fun hn => not_end_left hr (h2 x r.1 y e hn)
    · rintro ⟨a, m, b, e2, hm, q, hq, rfl⟩
      exact not_end_left hq (h2 a q.1 b e2 hm)
theorem minRed_congr {R L : List Rule} (h : ∀ t, IsEnd R t ↔ IsEnd L t) {l : T} : MinRed R l ↔ MinRed L l := by
  unfold MinRed
  rw [h]
  constructor
  · rintro ⟨a, b⟩; exact ⟨a, fun x m y e hm => (h m).mp (b x m y e hm)⟩
  · rintro ⟨a, b⟩; exact ⟨a, fun x m y e hm => (h m).mpr (b x m y e hm)⟩
/-- whatever is no end has a least piece that is none -/
theorem has_min {R : List Rule} : ∀ (n : Nat) (t : T), t.length ≤ n → ¬ IsEnd R t → ∃ x m y, t = x ++ m ++ y ∧ MinRed R m
  | 0, t, h, he => by
    have : t = [] := List.eq_nil_of_length_eq_zero (by omega)
    subst this
    refine ⟨[], [], [], rfl, he, fun x m y e hm => ?_⟩
    have := congrArg List.length e
    simp at this
    have : m = [] := List.eq_nil_of_length_eq_zero (by omega)
    exact absurd this hm
  | n + 1, t, h, he => by
    by_cases c : ∃ x m y, t = x ++ m ++ y ∧ m ≠ t ∧ ¬ IsEnd R m
    · obtain ⟨x, m, y, e, hm, hn⟩ := c
      have hl : m.length < t.length := by
        rcases Nat.lt_or_ge m.length t.length with q | q
        · exact q
        · exfalso
          have l1 := congrArg List.length e
          simp at l1
          have : x = [] ∧ y = [] := by
            refine ⟨?_, ?_⟩ <;> (apply List.eq_nil_of_length_eq_zero; omega)
          obtain ⟨rfl, rfl⟩ := this
          exact hm (by simpa using e.symm)
      obtain ⟨a, k, b, e2, hk⟩ := has_min n m (by omega) hn
      exact ⟨x ++ a, k, b ++ y, by rw [e, e2]; simp [List.append_assoc], hk⟩
    · refine ⟨[], t, [], by simp, he, fun x m y e hm => ?_⟩
      exact Classical.byContradiction fun z => c ⟨x, m, y, e, hm, z⟩
/-! ### ascending lists -/
theorem keyLt_irrefl (a : T) : keyLt a a = false := by
  unfold keyLt
  rw [if_pos rfl]
  exact decide_eq_false (List.lt_irrefl a)
theorem keyLt_asymm {a b : T} (h : keyLt a b = true) : keyLt b a = false := by
  unfold keyLt at *
  by_cases e : a.length = b.length
  · rw [if_pos e, decide_eq_true_eq] at h
    rw [if_pos e.symm]
    exact decide_eq_false (fun z => List.lt_irrefl a (List.lt_trans h z))
  · rw [if_neg e, decide_eq_true_eq] at h
    rw [if_neg (Ne.symm e)]
    exact decide_eq_false (by omega)
def Asc (l : List T) : Prop := l.Pairwise fun a b => keyLt a b = true
theorem asc_uniq : ∀ {l m : List T}, Asc l → Asc m → (∀ x, x ∈ l ↔ x ∈ m) → l = m
  | [], [], _, _, _ => rfl
  | [], y :: m, _, _, h => by have := (h y).mpr List.mem_cons_self; cases this
  | x :: l, [], _, _, h => by have := (h x).mp List.mem_cons_self; cases this
  | x :: l, y :: m, h1, h2, h => by
    obtain ⟨a1, a2⟩ := List.pairwise_cons.mp h1
    obtain ⟨b1, b2⟩ := List.pairwise_cons.mp h2
    have e : x = y := by
      rcases List.mem_cons.mp ((h x).mp List.mem_cons_self) with e | hx
      · exact e
      · rcases List.mem_cons.mp ((h y).mpr List.mem_cons_self) with e | hy
        · exact e.symm
        · have z1 := b1 x hx
          have z2 := a1 y hy
          rw [keyLt_asymm z1] at z2
          cases z2
    subst e
    have hx1 : x ∉ l := fun z => by have := a1 x z; rw [keyLt_irrefl] at this; cases this
    have hx2 : x ∉ m := fun z => by have := b1 x z; rw [keyLt_irrefl] at this; cases this
    rw [asc_uniq a2 b2 fun z => ?_]
    have hz := h z
    simp only [List.mem_cons] at hz
    constructor
    · intro k
      rcases hz.mp (.inr k) with e | q
      · rw [e] at k; exact absurd k hx1
      · exact q
    · intro k
      rcases hz.mpr (.inr k) with e | q
      · rw [e] at k; exact absurd k hx2
      · exact q
/-- the left sides of the least book -/
def IsDue (R : List Rule) (ds : List T) : Prop := Asc ds ∧ ∀ l, l ∈ ds ↔ MinRed R l
theorem due_uniq {R L : List Rule} (h : ∀ t, IsEnd R t ↔ IsEnd L t) {ds es : List T} (a : IsDue R ds) (b : IsDue L es) : ds = es :=
  asc_uniq a.1 b.1 fun x => by rw [a.2, b.2, minRed_congr h]
def lrules (R : List Rule) (ds : List T) : List Rule := ds.map fun l => (l, left R l)
section
variable {R : List Rule} {ds : List T}
theorem due_left (d : IsDue R ds) {l : T} (h : l ∈ ds) : ∃ r ∈ R, r.1 = l := (minRed_iff.mpr ((d.2 l).mp h)).1
theorem due_shrink (w : Wf R) (M : Meets R) {r : Rule} (h : r ∈ R) : (left R r.1).length ≤ r.2.length := by
  have : left R r.1 = left R r.2 := left_eq w M (by
    have := Step.mk (R := R) [] [] r h
    simp at this
    exact .step this (.refl _))
  rw [this]
  exact (left_reach (R := R) r.2).len w
theorem due_wf (w : Wf R) (M : Meets R) (d : IsDue R ds) : Wf (lrules R ds) := by
  intro r hr
  obtain ⟨l, hl, rfl⟩ := List.mem_map.mp hr
  obtain ⟨q, hq, rfl⟩ := due_left d hl
  have h1 := due_shrink w M hq
  have h2 := w q hq
  exact ⟨by show (left R q.1).length < q.1.length; omega, by show (left R q.1).length ≤ 1; omega⟩
theorem due_end (w : Wf R) (d : IsDue R ds) (t : T) : IsEnd R t ↔ IsEnd (lrules R ds) t := by
  constructor
  · intro h
    rw [isEnd_iff]
    intro r hr x y e
    obtain ⟨l, hl, rfl⟩ := List.mem_map.mp hr
    obtain ⟨q, hq, rfl⟩ := due_left d hl
    exact isEnd_iff.mp h q hq x y e
  · intro h
    refine Classical.byContradiction fun hn => ?_
    obtain ⟨x, m, y, e, hm⟩ := has_min t.length t (Nat.le_refl _) hn
    exact isEnd_iff.mp h (m, left R m) (List.mem_map.mpr ⟨m, (d.2 m).mpr hm, rfl⟩) x y e
theorem due_same (w : Wf R) (M : Meets R) (d : IsDue R ds) : (∀ t, left (lrules R ds) t = left R t) ∧ Meets (lrules R ds) := by
  refine same_left w M (due_wf w M d) (fun t h => (due_end w d t).mpr h) fun r hr => ?_
  obtain ⟨l, hl, rfl⟩ := List.mem_map.mp hr
  exact (left_of_end (left_end w l)).symm
theorem lrules_nodup (h : Asc ds) : (lrules R ds).Nodup := by
  unfold lrules
  rw [List.Nodup, List.pairwise_map]
  refine h.imp fun {a b} z e => ?_
  have : a = b := congrArg Prod.fst e
  subst this
  rw [keyLt_irrefl] at z
  cases z
/-- without its rule the left side is an end -/
theorem due_needed (d : IsDue R ds) {k : Nat} {l : T} (h : ds[k]? = some l) {N : List Rule} (hN : ∀ r ∈ N, ∃ j, j ≠ k ∧ ds[j]? = some r.1) : left N l = l := by
  refine left_of_end (isEnd_iff.mpr fun r hr x y e => ?_)
  obtain ⟨j, hj, hr1⟩ := hN r hr
  have hne : r.1 ≠ l := by
    intro z
    rw [z] at hr1
    have nd : ds.Nodup := d.1.imp fun {a b} q e => by rw [e, keyLt_irrefl] at q; cases q
    obtain ⟨h1, h2⟩ := List.getElem?_eq_some_iff.mp h
    obtain ⟨h3, h4⟩ := List.getElem?_eq_some_iff.mp hr1
    exact hj ((List.getElem_inj nd).mp (h4.trans h2.symm))
  have hm := (d.2 l).mp (List.mem_of_getElem? h)
  exact ((d.2 r.1).mp (List.mem_of_getElem? hr1)).1 (hm.2 x r.1 y e hne)
end
/-- rules more that change no end -/
theorem more_same {R N : List Rule} (w : Wf R) (M : Meets R) (h1 : ∀ r ∈ R, r ∈ N) (h2 : ∀ r ∈ N, r ∈ R ∨ (left R r.1 = r.2 ∧ r.2.length < r.1.length ∧ r.2.length ≤ 1)) :
    Wf N ∧ (∀ t, IsEnd R t ↔ IsEnd N t) ∧ (∀ t, left N t = left R t) ∧ Meets N := by
  have wN : Wf N := fun r hr => by
    rcases h2 r hr with q | ⟨_, q⟩
    · exact w r q
    · exact q
  have say : AllSay R N := fun r hr => by
    rcases h2 r hr with q | ⟨q, _⟩
    · refine left_eq w M ?_
      have := Step.mk (R := R) [] [] r q
      simp at this
      exact .step this (.refl _)
    · rw [← q, left_of_end (left_end w r.1)]
  have e1 : ∀ t, IsEnd N t → IsEnd R t := fun t h => isEnd_iff.mpr fun r hr x y e => isEnd_iff.mp h r (h1 r hr) x y e
  obtain ⟨s1, s2⟩ := same_left w M wN e1 say
  refine ⟨wN, fun t => ⟨fun h => ?_, e1 t⟩, s1, s2⟩
  refine isEnd_iff.mpr fun r hr x y e => ?_
  rcases h2 r hr with q | ⟨q, ql, _⟩
  · exact isEnd_iff.mp h r q x y e
  · have hp : IsEnd R r.1 := by
      rw [e] at h
      exact h.infix
    rw [left_of_end hp] at q
    rw [q] at ql
    omega
end Bk
set_option Elab.async false
set_option linter.all false
set_option maxRecDepth 100000
/-! method calls of lists within a comprehension -/
namespace Sh
open PySem PySem.Spec PyProof.Rows L2
section
variable {X : Cx} {s : Shared} {H : Hp} {sc : Scope} {ce : Env} {fp : List Addr}
theorem mt_indexDB (hu : X.A.units + 65 < cLine) : MtR (X.blk s H sc ce fp) "list.index" (rIndexD X.K) := mt_indexD (X := X.blk s H sc ce fp) hu
theorem op_eqDB (hu : X.A.units + 64 < cLine) : OpR (X.blk s H sc ce fp) (compareOp .Eq) (rEqD X.K) := op_eqD (X := X.blk s H sc ce fp) hu
theorem op_neDB (hu : X.A.units + 64 < cLine) : OpR (X.blk s H sc ce fp) (compareOp .NotEq) (rNeD X.K) := op_neD (X := X.blk s H sc ce fp) hu
variable {o e : Expr} {es : List Expr} {to : TE} {t : TA} {name : Str} {apos cpos : Pos} {T id : String} {r : V → List V → Hp → VK → Prop}
theorem pe_bmB (pa : PlainAttrs T) (slot : Slot T name id) (hty : typeOf (.builtin id) = pure (.type "method_descriptor")) (hm : MtR (X.blk s H sc ce fp) id r) (ho : PE (X.blk s H sc ce fp) o to) (ha : PA (X.blk s H sc ce fp) (e :: es) t)
    (hbase : attributeBase o name (X.blk s H sc ce fp).env (eval o (X.blk s H sc ce fp).env) = eval o (X.blk s H sc ce fp).env := by rfl)
    (hfew : ((backTo cpos (starEach (e :: es) (X.blk s H sc ce fp).env)).all (fun x => !x.1) && (backToKw cpos (keywordEach [] (X.blk s H sc ce fp).env)).all (fun x => x.1.isSome)
      && decide ((e :: es).length + ([] : List Keyword).length + (if ([] : List Keyword).isEmpty then 0 else 1) < 30)) = true := by rfl)
    (hline : (apos.endLine == cpos.line) = true := by rfl) (hs : starEach (e :: es) (X.blk s H sc ce fp).env = (false, eval e (X.blk s H sc ce fp).env) :: starEach es (X.blk s H sc ce fp).env := by rfl) (hplain : (backTo cpos (starEach es (X.blk s H sc ce fp).env)).any (·.1) = false := by rfl) :
    PE (X.blk s H sc ce fp) (.Call (.Attribute o name apos) (e :: es) [] cpos) (tBM X.K T r to t) := pe_bm pa slot hty hm ho ha hbase hfew hline hs hplain
end
end Sh
set_option Elab.async false
set_option linter.all false
set_option maxRecDepth 100000
/-! comprehensions with two fors -/
namespace Sh
open PySem PySem.Spec PyProof.Rows L2
section
variable {K : PySem.W.Frag} {a : Addr} {xs : List V} {g g1 : TG} {tt tt1 : TT} {wi1 : TI} {te : TE} {vs vs1 : List Nat} {σ : L2.St} {D : Addr}
/-- the inner for, over a tuple -/
theorem in_tup {H4 : Hp} {Nx : Hp → Prop} (Pw : Nat → Hp → Prop) (h0 : Pw 0 H4) (hG : ∀ i H, i ≤ xs.length → Pw i H → SqT K H a xs)
    (hs : ∀ i x H, xs[i]? = some x → Pw i H → g1 x (wipe σ vs1) H fun σ3 H5 => wipe σ3 vs1 = wipe σ vs1 ∧ tt1 σ3 H5 fun b H6 =>
      if b = true then te σ3 H6 fun y H7 => ∃ acc, H7 D = some (.lst acc) ∧ acc.length < sizeLine ∧ Pw (i + 1) (upd H7 D (.lst (acc ++ [y]))) else Pw (i + 1) H6) (hd : ∀ H, Pw xs.length H → Nx H) :
    ∃ W1 : Nat → Nat → Hp → Prop, (∃ m, W1 0 m H4) ∧ ∀ j k H, W1 j k H →
      ((Itt K a).stop j H ∧ Nx H) ∨ ((Itt K a).go j H ∧ ∃ Nx1 : Hp → Prop, (∀ H', Nx1 H' → ∃ k', k' < k ∧ W1 (j + 1) k' H') ∧ ∀ x H', (Itt K a).yld j H x H' → g1 x (wipe σ vs1) H' fun σ3 H5 => wipe σ3 vs1 = wipe σ vs1 ∧ tt1 σ3 H5 fun b H6 =>
        if b = true then te σ3 H6 fun y H7 => ∃ acc, H7 D = some (.lst acc) ∧ acc.length < sizeLine ∧ Nx1 (upd H7 D (.lst (acc ++ [y]))) else Nx1 H6) := by
  have w := walk_tup (K := K) (a := a) (xs := xs)
  refine ⟨fun i m H => m = xs.length - i ∧ i ≤ xs.length ∧ Pw i H, ⟨xs.length, by simp, Nat.zero_le _, h0⟩, ?_⟩
  rintro i m H ⟨rfl, hi, p⟩
  have q := hG i H hi p
  by_cases hlt : i < xs.length
  · refine .inr ⟨w.goes i H hlt q, Pw (i + 1), fun H' p' => ⟨xs.length - (i + 1), by omega, rfl, hlt, p'⟩, fun x H' y => ?_⟩
    obtain ⟨rfl, hx⟩ := w.yields i H x H' hlt q y
    exact hs i x H' hx p
  · have e : i = xs.length := by omega
    subst e
    exact .inl ⟨w.stops H q, hd H p⟩
/-- the outer for, over a list -/
theorem lc2_lst {H1 : Hp} {Qd : Hp → Prop} (Pv : Nat → Hp → Prop) (h0 : Pv 0 (upd H1 D (.lst []))) (hG : ∀ i H, i ≤ xs.length → Pv i H → SqL K H a xs)
    (hs : ∀ i x H, xs[i]? = some x → Pv i H → g x (wipe σ vs) H fun σ2 H2 => wipe σ2 vs = wipe σ vs ∧ tt σ2 H2 fun b H3 =>
      if b = true then wi1 σ2 H3 fun J1 H4 => ∃ W1 : Nat → Nat → Hp → Prop, (∃ m, W1 0 m H4) ∧ ∀ j k H, W1 j k H →
        (J1.stop j H ∧ Pv (i + 1) H) ∨ (J1.go j H ∧ ∃ Nx1 : Hp → Prop, (∀ H', Nx1 H' → ∃ k', k' < k ∧ W1 (j + 1) k' H') ∧ ∀ x H', J1.yld j H x H' → g1 x (wipe σ2 vs1) H' fun σ3 H5 => wipe σ3 vs1 = wipe σ2 vs1 ∧ tt1 σ3 H5 fun b H6 =>
          if b = true then te σ3 H6 fun y H7 => ∃ acc, H7 D = some (.lst acc) ∧ acc.length < sizeLine ∧ Nx1 (upd H7 D (.lst (acc ++ [y]))) else Nx1 H6)
      else Pv (i + 1) H3) (hd : ∀ H, Pv xs.length H → Qd H) :
    ∃ W : Nat → Nat → Hp → Prop, (∃ m, W 0 m (upd H1 D (.lst []))) ∧ ∀ i m H, W i m H →
      ((Itl K a).stop i H ∧ Qd H) ∨ ((Itl K a).go i H ∧ ∃ Nx : Hp → Prop, (∀ H', Nx H' → ∃ m', m' < m ∧ W (i + 1) m' H') ∧ ∀ x H', (Itl K a).yld i H x H' → g x (wipe σ vs) H' fun σ2 H2 => wipe σ2 vs = wipe σ vs ∧ tt σ2 H2 fun b H3 =>
        if b = true then wi1 σ2 H3 fun J1 H4 => ∃ W1 : Nat → Nat → Hp → Prop, (∃ m, W1 0 m H4) ∧ ∀ j k H, W1 j k H →
          (J1.stop j H ∧ Nx H) ∨ (J1.go j H ∧ ∃ Nx1 : Hp → Prop, (∀ H', Nx1 H' → ∃ k', k' < k ∧ W1 (j + 1) k' H') ∧ ∀ x H', J1.yld j H x H' → g1 x (wipe σ2 vs1) H' fun σ3 H5 => wipe σ3 vs1 = wipe σ2 vs1 ∧ tt1 σ3 H5 fun b H6 =>
            if b = true then te σ3 H6 fun y H7 => ∃ acc, H7 D = some (.lst acc) ∧ acc.length < sizeLine ∧ Nx1 (upd H7 D (.lst (acc ++ [y]))) else Nx1 H6)
        else Nx H3) := by
  have w := walk_list (K := K) (a := a) (xs := xs)
  refine ⟨fun i m H => m = xs.length - i ∧ i ≤ xs.length ∧ Pv i H, ⟨xs.length, by simp, Nat.zero_le _, h0⟩, ?_⟩
  rintro i m H ⟨rfl, hi, p⟩
  have q := hG i H hi p
  by_cases hlt : i < xs.length
  · refine .inr ⟨w.goes i H hlt q, Pv (i + 1), fun H' p' => ⟨xs.length - (i + 1), by omega, rfl, hlt, p'⟩, fun x H' y => ?_⟩
    obtain ⟨rfl, hx⟩ := w.yields i H x H' hlt q y
    exact hs i x H' hx p
  · have e : i = xs.length := by omega
    subst e
    exact .inl ⟨w.stops H q, hd H p⟩
end
section
variable {X : Cx} {s : Shared} {H : Hp} {sc : Scope} {ce : Env} {fp : List Addr} {tg l : Expr} {tl : TE}
theorem op_in_kdB {d : Addr} {es : Array DictEntry} {n : Nat} (D : KDict X.K X.w d es n) : OpR (X.blk s H sc ce fp) (compareOp .In) (fun x y H Q => ∃ (z : Str) (r : Option Value), x = .str z ∧ y = .ref d ∧ PySem.W.nsIn X.K d z = some r ∧ Q (.bl r.isSome) H) := op_in_kd (X := X.blk s H sc ce fp) D
theorem pi_tupB (hl : PE (X.blk s H sc ce fp) l tl) : PI (X.blk s H sc ce fp) tg l (iTup X.K tl) := pi_tup hl
end
end Sh
set_option Elab.async false
set_option linter.all false
set_option maxRecDepth 100000
set_option maxHeartbeats 4000000
namespace Sh
open PySem PySem.Spec PyProof.Rows L2
open SX (S S_inj S_len S_cat)
open Bk (Rule left Wf Reach Step IsEnd keyLt Asc asc_uniq)
local macro_rules | `(tactic| walk_at "nx") => `(tactic| repeat (with_reducible first | refine Sh.gn_mk ?_ | refine Sh.nx_mk ?_ | refine Sh.st_nx ?_ | refine Sh.rt_mk ?_ | refine Sh.ct_mk ?_ | refine Sh.bk_mk ?_))
local macro_rules | `(tactic| walk_at "sq") => `(tactic| first | exact SqL.of upd_same | exact SqT.of upd_same | exact SqL.of (by assumption) | exact SqT.of (by assumption) | assumption | exact Or.inl (SqL.of (by assumption)) | exact Or.inr (SqT.of (by assumption)) | exact Or.inl (by assumption) | exact Or.inr (by assumption))
local macro_rules | `(tactic| walk_at "hp") => `(tactic| first | exact upd_same | assumption)
local macro_rules | `(tactic| walk_at "sz") => `(tactic| first | exact Nat.le_of_ble_eq_true rfl | omega)
local macro_rules | `(tactic| walk_at "sd") => `(tactic| first | omega | exact rfl | assumption | (show (0 : Int) < _; omega) | exact And.intro (by omega) (by omega) | exact Or.inl (And.intro (by omega) (by omega)) | exact Or.inr (And.intro (by omega) (by omega)) | omega | exact Sh.sz_S (by omega) | decide)
local macro_rules | `(tactic| walk_at "rd1") => `(tactic| first
  | (with_reducible first | refine Sh.gn_mk ?_ | refine Sh.nx_mk ?_ | refine Sh.st_nx ?_ | refine Sh.rt_mk ?_ | refine Sh.ct_mk ?_ | refine Sh.bk_mk ?_)
  | refine Exists.intro (α := V) _ (And.intro rfl ?_)
  | refine Exists.intro (α := Bool) _ (And.intro rfl ?_)
  | refine Exists.intro (α := Int) _ (And.intro rfl ?_)
  | refine Exists.intro (α := PySem.Str) _ (And.intro rfl ?_)
  | refine Exists.intro (α := Int) _ (Exists.intro (α := Int) _ (And.intro rfl (And.intro rfl ?_)))
  | refine Exists.intro (α := PySem.Str) _ (Exists.intro (α := PySem.Str) _ (And.intro rfl (And.intro rfl ?_)))
  | refine Exists.intro (α := Int) _ (Exists.intro (α := Int) _ (And.intro rfl ?_))
  | refine Or.inl (Exists.intro (α := Int) _ (And.intro rfl ?_))
  | refine Exists.intro _ (Exists.intro _ (Exists.intro _ (Exists.intro _ (And.intro rfl (And.intro rfl (And.intro (by walk_at "sq") (And.intro rfl ?_)))))))
  | refine Exists.intro _ (Exists.intro _ (Exists.intro _ (Exists.intro _ (And.intro rfl (And.intro rfl (And.intro (by walk_at "hp") (And.intro rfl ?_)))))))
  | refine And.intro (by walk_at "sd") ?_
  )
local macro_rules | `(tactic| walk_at "rd") => `(tactic| repeat walk_at "rd1")
local macro_rules | `(tactic| walk_at "lk") => `(tactic| first | exact rfl | (rw [lookup_putF, if_pos rfl]) | (rw [lookup_putF, if_neg (by decide +kernel)]; walk_at "lk"))

def gKey (l : List Nat) : List V := [.int (l.length : Nat), .str (S l)]
theorem gKey_same (a b : List Nat) : sameKs (gKey a) (gKey b) = true := rfl
theorem gKey_head (a : List Nat) : Head "int" (gKey a) := ⟨_, _, rfl, .int _⟩
theorem gKey_lt (a b : List Nat) : cLt (gKey a) (gKey b) = keyLt a b := by
  rw [← tup_cLt (gKey_same a b)]
  exact key_lt a b
theorem keyLt_tot {a b : List Nat} (h : keyLt b a = false) (n : a ≠ b) : keyLt a b = true := by
  unfold keyLt at *
  by_cases e : b.length = a.length
  · rw [if_pos e] at h
    rw [if_pos e.symm]
    have h' := of_decide_eq_false h
    refine decide_eq_true ?_
    refine Classical.byContradiction fun z => n ?_
    exact List.le_antisymm (List.not_lt.mp h') (List.not_lt.mp z)
  · rw [if_neg e] at h
    rw [if_neg (Ne.symm e)]
    have h' := of_decide_eq_false h
    exact decide_eq_true (by omega)
theorem asc_of {l : List (List Nat)} (nd : l.Nodup) (h : l.Pairwise fun y z => cLt (gKey z) (gKey y) = false) : Asc l := by
  have h2 : l.Pairwise fun y z => y ≠ z ∧ cLt (gKey z) (gKey y) = false := List.pairwise_and_iff.mpr ⟨nd, h⟩
  refine h2.imp fun {a b} ⟨n, c⟩ => ?_
  rw [gKey_lt] at c
  exact keyLt_tot c n
theorem pt_truthB {X : Cx} {s : Shared} {H : Hp} {sc : Scope} {ce : Env} {fp : List Addr} {a : Expr} {ta : TE} (ha : PE (X.blk s H sc ce fp) a ta) (he : ∀ whole, isTrue a (X.blk s H sc ce fp).env whole = (do let v ← whole; standAt a.pos; holding [v] (truthy v))) :
    PT (X.blk s H sc ce fp) a (fun σ H Q => ta σ H fun x H' => ∃ k, TruV X.K x H' k ∧ Q k H') := pt_truth ha he
theorem hu8_of {k : Nat} {A : Around} (hr : Room k A) : A.units + 8 < cLine := by
  have := hr.un
  omega
theorem lc_lstR {α : Type} {Rel : Hp → V → α → Prop} {l : List α} {xs : List V} {K : PySem.W.Frag} {a : Addr} {g : TG} {tt : TT} {te : TE} {vs : List Nat} {σ : L2.St} {H1 : Hp} {D : Addr} {Qd : Hp → Prop} (hlen : xs.length = l.length)
    (Pv : List α → Hp → Prop) (h0 : Pv [] (upd H1 D (.lst []))) (hG : ∀ pre H, Pv pre H → SqL K H a xs ∧ ∀ (i : Nat) x y, xs[i]? = some x → l[i]? = some y → Rel H x y)
    (hs : ∀ pre y post x H, l = pre ++ y :: post → xs[pre.length]? = some x → Rel H x y → Pv pre H → g x (wipe σ vs) H fun σ2 H2 => wipe σ2 vs = wipe σ vs ∧ tt σ2 H2 fun b H3 =>
      if b = true then te σ2 H3 fun y' H4 => ∃ acc, H4 D = some (.lst acc) ∧ acc.length < sizeLine ∧ Pv (pre ++ [y]) (upd H4 D (.lst (acc ++ [y']))) else Pv (pre ++ [y]) H3) (hd : ∀ H, Pv l H → Qd H) :
    ∃ W : Nat → Nat → Hp → Prop, (∃ m, W 0 m (upd H1 D (.lst []))) ∧ ∀ i m H, W i m H →
      ((Itl K a).stop i H ∧ Qd H) ∨ ((Itl K a).go i H ∧ ∃ Nx : Hp → Prop, (∀ H', Nx H' → ∃ m', m' < m ∧ W (i + 1) m' H') ∧ ∀ x H', (Itl K a).yld i H x H' → g x (wipe σ vs) H' fun σ2 H2 => wipe σ2 vs = wipe σ vs ∧ tt σ2 H2 fun b H3 =>
        if b = true then te σ2 H3 fun y H4 => ∃ acc, H4 D = some (.lst acc) ∧ acc.length < sizeLine ∧ Nx (upd H4 D (.lst (acc ++ [y]))) else Nx H3) := by
  have w := walk_list (K := K) (a := a) (xs := xs)
  refine lc_it w (fun i H => Pv (l.take i) H) (by simpa using h0) (fun i H _ p => (hG _ H p).1) (fun i x H H' hi p y => ?_) (fun H p => hd H (by simpa [hlen] using p))
  obtain ⟨rfl, hx⟩ := y
  have hi' : i < l.length := hlen ▸ hi
  have hl : l[i]? = some l[i] := by simp [hi']
  obtain ⟨e1, e2⟩ := take_succ_of hl
  have q := hs _ l[i] _ x H' e2 (by rw [List.length_take, Nat.min_eq_left (Nat.le_of_lt hi')]; exact hx) ((hG _ H' p).2 i x l[i] hx hl) p
  rw [← e1] at q
  exact q
/-- such a comprehension over a list that it leaves as it is -/
theorem scq_lstR {α : Type} {Rel : Hp → V → α → Prop} {l : List α} {xs : List V} {P : Program} {w : World} {K : PySem.W.Frag} {a : Addr} {g : TG} {te : TE} {vs : List Nat} {σ : L2.St} {H1 : Hp} {D : Addr} {Qd : Hp → Prop} (hlen : xs.length = l.length)
    (Pv : List α → Hp → Prop) (h0 : Pv [] (upd H1 D (SetQO P w D []))) (hG : ∀ pre H, Pv pre H → SqL K H a xs ∧ ∀ (i : Nat) x y, xs[i]? = some x → l[i]? = some y → Rel H x y)
    (hs : ∀ pre y post x H, l = pre ++ y :: post → xs[pre.length]? = some x → Rel H x y → Pv pre H → g x (wipe σ vs) H fun σ2 H2 => wipe σ2 vs = wipe σ vs ∧ te σ2 H2 (putQ P w K D (Pv (pre ++ [y])))) (hd : ∀ H, Pv l H → Qd H) :
    ∃ W : Nat → Nat → Hp → Prop, (∃ m, W 0 m (upd H1 D (SetQO P w D []))) ∧ ∀ i m H, W i m H →
      ((Itl K a).stop i H ∧ Qd H) ∨ ((Itl K a).go i H ∧ ∃ N : Hp → Prop, (∀ H', N H' → ∃ m', m' < m ∧ W (i + 1) m' H') ∧ ∀ x H', (Itl K a).yld i H x H' → g x (wipe σ vs) H' fun σ2 H2 => wipe σ2 vs = wipe σ vs ∧ te σ2 H2 (putQ P w K D N)) := by
  refine ⟨fun i m H => m = l.length - i ∧ i ≤ l.length ∧ Pv (l.take i) H, ⟨l.length, rfl, Nat.zero_le _, h0⟩, ?_⟩
  rintro i m H ⟨rfl, hi, p⟩
  obtain ⟨q1, q2⟩ := hG _ H p
  by_cases hlt : i < l.length
  · have hx : i < xs.length := by omega
    have el : l = l.take i ++ l[i] :: l.drop (i + 1) := by
      conv => lhs; rw [← List.take_append_drop i l, List.drop_eq_getElem_cons hlt]
    have ht : (l.take i).length = i := by rw [List.length_take]; omega
    refine .inr ⟨⟨xs, xs[i], q1, List.getElem?_eq_getElem hx⟩, Pv (l.take i ++ [l[i]]), fun H' p' => ⟨l.length - (i + 1), by omega, rfl, hlt, ?_⟩, fun x H' ⟨e, y⟩ => ?_⟩
    · rw [List.take_succ, List.getElem?_eq_getElem hlt]
      exact p'
    · subst e
      have hy := y xs q1
      exact hs (l.take i) l[i] (l.drop (i + 1)) x _ el (by rw [ht]; exact hy) (q2 i x _ hy (List.getElem?_eq_getElem hlt)) p
  · have e : i = l.length := by omega
    subst e
    rw [List.take_length] at p
    exact .inl ⟨⟨xs, q1, by omega⟩, hd H p⟩
/-- the key of a text, as a set has it -/
def kTx (u : List Nat) : List Key := [.inl (u.length : Nat), .inr (S u)]
theorem kTx_V (u : List Nat) : (kTx u).map kV = gKey u := rfl
theorem kTx_inj {u v : List Nat} (h : kTx u = kTx v) : u = v := by
  unfold kTx at h
  simp only [List.cons.injEq, Sum.inr.injEq] at h
  exact S_inj h.2.1
section
variable {P : Program} {w : World} {K : PySem.W.Frag} {mg : Str → Option Value} {base : Heap} {CB XT FT DT XM FM : Addr}
def spAsc (K : PySem.W.Frag) : Sp := fun vs H Q _ => ∃ (q : Addr) (L : List (List Nat)), vs = [.ref q] ∧ SqL K H q (L.map fun u => V.str (S u)) ∧ L.length ≤ 3000 ∧ (∀ u ∈ L, u.length ≤ 1000) ∧
  ∀ (M : List (List Nat)) (p : Addr) (H' : Hp), Asc M → (∀ u, u ∈ M ↔ u ∈ L) → M.length ≤ 4000 → H' p = some (.tup (M.map fun u => V.str (S u))) → Same H H' → Q (.ref p) H'
theorem c_ascending_texts (T : Txt K mg) : Cal P w K mg base CX0 1 "ascending_texts" (spAsc K) := by
  refine Cal.mk0 T.d_ascending_texts sc_ascending_texts (fun vs H Q E h => ?_) (fun f cdv A outer s H vs Q E hr h => ?_)
  · obtain ⟨q, L, rfl, _⟩ := h
    rfl
  · obtain ⟨q, L, rfl, hq, hl, hle, k⟩ := h
    refine ⟨_, (pss_cons (ps_set (i := 1) sc_ascending_texts.nd rfl (Or.inl rfl) (pe_callB (cr_sortedQ rfl) (by rfl) T.b_sorted (by decide +kernel) (pa_cons (pe_scQ (own' := [("text", 2)]) (g := gName 2) (hu8_of hr) rfl sc_ascending_texts.nd (pi_list (pv 0)) (blkOk_by (N := ["texts", "keys", "text", "key"]) (sc := defScope s_ascending_texts) (by decide +kernel)) (fun _ _ _ _ _ => (pg_name (i := 2) sc_ascending_texts.nd rfl (Or.inl rfl))) (fun _ _ _ _ _ => (pe_tup (pa_cons (pe_callB call_len_str (by rfl) T.b_len (by decide +kernel) (pa_cons (pv 2) pa_nil)) (pa_cons (pv 2) pa_nil))))) pa_nil)))
  (pss_one (ps_ret (pe_callTy call_tuple_of (by rfl) T.b_tuple (by decide +kernel) (pa_cons (pe_lc (own := [("key", 3)]) (g := gName 3) (tt := tYes) rfl sc_ascending_texts.nd (pi_list (pv 1)) (blkOk_by (N := ["texts", "keys", "text", "key"]) (sc := defScope s_ascending_texts) (by decide +kernel)) (fun _ _ _ _ _ => (pg_name (i := 3) sc_ascending_texts.nd rfl (Or.inl rfl))) (fun _ _ _ _ _ => pts_nil) (fun _ _ _ _ _ => (pe_ix ix_tupB (pv 3) pe_int (fun _ _ => rfl)))) pa_nil))))), ?_⟩
    have big : (8000 : Nat) ≤ sizeLine := by decide
    refine ⟨_, rfl, q, rfl, ⟨_, hq⟩, fun D hD => ?_⟩
    refine scq_lstR (K := K) (a := q) (xs := L.map fun u => V.str (S u)) (l := L) (Rel := fun _ v u => v = V.str (S u)) (by rw [List.length_map]) (fun pre H1 => ∃ L0 : List (Addr × List Key), H1 D = some (SetQO P w D L0) ∧ Same H H1 ∧ (∀ p ∈ L0, H1 p.1 = some (.tup (p.2.map kV))) ∧ (∀ p ∈ L0, ∃ u ∈ pre, p.2 = kTx u) ∧ (∀ u ∈ pre, kTx u ∈ L0.map (·.2)) ∧ L0.length ≤ pre.length)
      ⟨[], upd_same, same_new hD, fun p hp => (by cases hp), fun p hp => (by cases hp), fun u hu => (by cases hu), Nat.le_refl _⟩ (fun pre H1 ⟨_, _, s1, _⟩ => ⟨s1.seq hq, fun i x y h1 h2 => by
        rw [List.getElem?_map, h2] at h1
        exact (Option.some.inj h1).symm⟩) ?_ ?_
    · rintro pre u post x H1 el hx rfl ⟨L0, h1, s1, ht, hsub, hall, hl0⟩
      have hu := hle u (by rw [el]; simp)
      have hpl : pre.length + 1 ≤ 3000 := by
        have := congrArg List.length el
        rw [List.length_append, List.length_cons] at this
        omega
      refine ⟨rfl, ?_⟩
      refine ⟨_, rfl, ?_⟩
      refine tNil_mk ?_
      refine ⟨_, rfl, sz_S (by omega), ?_⟩
      rw [S_len]
      refine ⟨_, rfl, ?_⟩
      refine tNil_mk ?_
      refine ⟨by walk_at "sz", fun b hb => ?_⟩
      have s2 := same_new (o := .tup [.int ((u.length : Nat) : Int), .str (S u)]) hb
      have e2 : (upd H1 b (.tup [.int ((u.length : Nat) : Int), .str (S u)])) b = some (.tup ((kTx u).map kV)) := upd_same
      have hDb : b ≠ D := (ne_of_none h1 hb).symm
      generalize upd H1 b (.tup [.int ((u.length : Nat) : Int), .str (S u)]) = H2 at s2 e2 ⊢
      have ht2 : ∀ p ∈ L0, H2 p.1 = some (.tup (p.2.map kV)) := fun p hp => s2 _ _ (ht p hp)
      have hD2 := s2 _ _ h1
      have hneD : ∀ {c : Addr} {z : List V}, H2 c = some (.tup z) → c ≠ D := fun h => ne_of h hD2 (by intro w; cases w)
      refine ⟨b, kTx u, L0, rfl, SqT.of e2, hD2, fun p hp => SqT.of (ht2 p hp), by omega, fun L1 hp1 => ?_⟩
      have fin : ∀ p : Addr × List Key, H2 p.1 = some (.tup (p.2.map kV)) → (upd H2 D (SetQO P w D L1)) p.1 = some (.tup (p.2.map kV)) := fun p h => by rw [upd_ne (hneD h)]; exact h
      rcases hp1 with ⟨hm, rfl⟩ | ⟨hm, hperm⟩
      · refine ⟨L1, upd_same, same_mut (s1.trans s2) hD, fun p hp => fin p (ht2 p hp), fun p hp => ?_, fun v hv => ?_, by rw [List.length_append]; omega⟩
        · obtain ⟨v, hv, e⟩ := hsub p hp
          exact ⟨v, List.mem_append_left _ hv, e⟩
        · rcases List.mem_append.mp hv with hv | hv
          · exact hall v hv
          · rw [List.mem_singleton] at hv
            rw [hv]
            exact hm
      · have mem1 : ∀ p ∈ L1, p = (b, kTx u) ∨ p ∈ L0 := fun p hp => List.mem_cons.mp (hperm.mem_iff.mp hp)
        refine ⟨L1, upd_same, same_mut (s1.trans s2) hD, fun p hp => ?_, fun p hp => ?_, fun v hv => ?_, by rw [hperm.length_eq, List.length_append, List.length_cons, List.length_singleton]; omega⟩
        · rcases mem1 p hp with rfl | hp
          · exact fin _ e2
          · exact fin p (ht2 p hp)
        · rcases mem1 p hp with rfl | hp
          · exact ⟨u, by simp, rfl⟩
          · obtain ⟨v, hv, e⟩ := hsub p hp
            exact ⟨v, List.mem_append_left _ hv, e⟩
        · rw [(hperm.map (·.2)).mem_iff, List.map_cons]
          rcases List.mem_append.mp hv with hv | hv
          · exact List.mem_cons_of_mem _ (hall v hv)
          · rw [List.mem_singleton] at hv
            rw [hv]
            exact List.mem_cons_self
    · rintro H1 ⟨L0, h1, s1, ht, hsub, hall, hl0⟩
      refine tNil_mk ?_
      refine ⟨D, L0, "int", rfl, h1, ht, fun p hp => ?_, fun p hp r hr => ?_, fun L1 z H2 hperm hnd hpw hz s2 h2 => ?_⟩
      · obtain ⟨u, _, e⟩ := hsub p hp
        rw [e]
        exact gKey_head u
      · obtain ⟨u, _, e⟩ := hsub p hp
        obtain ⟨v, _, e'⟩ := hsub r hr
        rw [e, e']
        rfl
      obtain ⟨M, hM⟩ : ∃ M : List (List Nat), L1.map (·.2) = M.map kTx := by
        have hk : ∀ p ∈ L1, ∃ u, p.2 = kTx u := fun p hp => let ⟨u, _, e⟩ := hsub p (hperm.mem_iff.mp hp); ⟨u, e⟩
        clear hpw hnd hperm h2
        induction L1 with
        | nil => exact ⟨[], rfl⟩
        | cons p L1 ih =>
          obtain ⟨M, e⟩ := ih fun p hp => hk p (List.mem_cons_of_mem _ hp)
          obtain ⟨u, eu⟩ := hk p List.mem_cons_self
          exact ⟨u :: M, by rw [List.map_cons, List.map_cons, e, eu]⟩
      have hMl : M.length = L1.length := by have := congrArg List.length hM; simpa using this.symm
      have hMnd : M.Nodup := by
        rw [hM] at hnd
        exact List.Pairwise.of_map kTx (fun _ _ h e => h (congrArg kTx e)) hnd
      have hMem : ∀ u, u ∈ M ↔ u ∈ L := fun u => by
        have hk : kTx u ∈ L1.map (·.2) ↔ u ∈ M := by
          rw [hM, List.mem_map]
          exact ⟨fun ⟨v, hv, e⟩ => kTx_inj e ▸ hv, fun h => ⟨u, h, rfl⟩⟩
        rw [← hk, (hperm.map (·.2)).mem_iff]
        constructor
        · intro h
          obtain ⟨p, hp, e⟩ := List.mem_map.mp h
          obtain ⟨v, hv, e'⟩ := hsub p hp
          rw [e'] at e
          exact kTx_inj e ▸ hv
        · exact hall u
      have hMat : ∀ (i : Nat) p u, L1[i]? = some p → M[i]? = some u → p.2 = kTx u := fun i p u hp hu => by
        have := congrArg (fun z => z[i]?) hM
        rw [List.getElem?_map, List.getElem?_map, hp, hu] at this
        exact Option.some.inj this
      have hAsc : Asc M := by
        refine asc_of hMnd ?_
        have h3 : (L1.map (·.2)).Pairwise fun a b => cLt (b.map kV) (a.map kV) = false := List.pairwise_map.mpr hpw
        rw [hM] at h3
        exact List.pairwise_map.mp h3
      have htt : ∀ p ∈ L1, H2 p.1 = some (.tup (p.2.map kV)) := fun p hp => s2 _ _ (ht p (hperm.mem_iff.mp hp))
      have hL1 : L1.length ≤ 3000 := by rw [hperm.length_eq]; omega
      walk_at "nx"
      refine ⟨_, rfl, z, rfl, ⟨_, SqL.of h2⟩, fun D2 hD2 => lc_lstR (K := K) (a := z) (xs := L1.map fun q => V.ref q.1) (l := M) (Rel := fun H' v u => ∃ c, v = .ref c ∧ H' c = some (.tup (gKey u))) (by rw [List.length_map, hMl]) (fun pre H3 => H3 D2 = some (.lst (pre.map fun u => V.str (S u))) ∧ Same H2 H3) ⟨upd_same, same_new hD2⟩
        (fun pre H3 ⟨_, s3⟩ => ⟨SqL.of (s3 _ _ h2), fun i x u h4 h5 => ?_⟩) ?_ ?_⟩
      · rw [List.getElem?_map] at h4
        obtain ⟨p, hp, rfl⟩ := Option.map_eq_some_iff.mp h4
        refine ⟨p.1, rfl, s3 _ _ ?_⟩
        rw [htt p (List.mem_of_getElem? hp), hMat i p u hp h5]
        rfl
      · rintro pre u post x H3 eM _ ⟨c, rfl, hc⟩ ⟨h3, s3⟩
        have hpl : pre.length + 1 ≤ 3000 := by
          have := congrArg List.length eM
          rw [List.length_append, List.length_cons] at this
          omega
        refine ⟨rfl, ty_T ?_⟩
        refine ⟨_, rfl, c, _, _, _, rfl, rfl, SqT.of hc, atI_nat (j := 1) rfl, ?_⟩
        refine ⟨_, h3, by rw [List.length_map]; exact Nat.lt_of_le_of_lt (m := 3000) (by omega) (by decide), ?_, same_mut s3 hD2⟩
        rw [upd_same, List.map_append]
        rfl
      · rintro H3 ⟨h3, s3⟩
        refine tNil_mk ?_
        refine ⟨D2, _, rfl, .inl ⟨SqL.of h3, fun tp htp => ?_⟩⟩
        exact k M tp _ hAsc hMem (by omega) upd_same (s1.trans (s2.trans (s3.trans (same_new htp))))
end
end Sh
set_option Elab.async false
set_option linter.all false
set_option maxRecDepth 100000
set_option maxHeartbeats 4000000
namespace Sh
open PySem PySem.Spec PyProof.Rows L2
open SX (S S_inj S_len S_cat)
open Bk (Rule left Wf Reach Step IsEnd keyLt Asc asc_uniq)
local macro_rules | `(tactic| walk_at "nx") => `(tactic| repeat (with_reducible first | refine Sh.gn_mk ?_ | refine Sh.nx_mk ?_ | refine Sh.st_nx ?_ | refine Sh.rt_mk ?_ | refine Sh.ct_mk ?_ | refine Sh.bk_mk ?_))
local macro_rules | `(tactic| walk_at "sq") => `(tactic| first | exact SqL.of upd_same | exact SqT.of upd_same | exact SqL.of (by assumption) | exact SqT.of (by assumption) | assumption | exact Or.inl (SqL.of (by assumption)) | exact Or.inr (SqT.of (by assumption)) | exact Or.inl (by assumption) | exact Or.inr (by assumption))
local macro_rules | `(tactic| walk_at "hp") => `(tactic| first | exact upd_same | assumption)
local macro_rules | `(tactic| walk_at "sz") => `(tactic| first | exact Nat.le_of_ble_eq_true rfl | omega)
local macro_rules | `(tactic| walk_at "sd") => `(tactic| first | omega | exact rfl | assumption | (show (0 : Int) < _; omega) | exact And.intro (by omega) (by omega) | exact Or.inl (And.intro (by omega) (by omega)) | exact Or.inr (And.intro (by omega) (by omega)) | omega | exact Sh.sz_S (by omega) | decide)
local macro_rules | `(tactic| walk_at "rd1") => `(tactic| first
  | (with_reducible first | refine Sh.gn_mk ?_ | refine Sh.nx_mk ?_ | refine Sh.st_nx ?_ | refine Sh.rt_mk ?_ | refine Sh.ct_mk ?_ | refine Sh.bk_mk ?_)
  | refine Exists.intro (α := V) _ (And.intro rfl ?_)
  | refine Exists.intro (α := Bool) _ (And.intro rfl ?_)
  | refine Exists.intro (α := Int) _ (And.intro rfl ?_)
  | refine Exists.intro (α := PySem.Str) _ (And.intro rfl ?_)
  | refine Exists.intro (α := Int) _ (Exists.intro (α := Int) _ (And.intro rfl (And.intro rfl ?_)))
  | refine Exists.intro (α := PySem.Str) _ (Exists.intro (α := PySem.Str) _ (And.intro rfl (And.intro rfl ?_)))
  | refine Exists.intro (α := Int) _ (Exists.intro (α := Int) _ (And.intro rfl ?_))
  | refine Or.inl (Exists.intro (α := Int) _ (And.intro rfl ?_))
  | refine Exists.intro _ (Exists.intro _ (Exists.intro _ (Exists.intro _ (And.intro rfl (And.intro rfl (And.intro (by walk_at "sq") (And.intro rfl ?_)))))))
  | refine Exists.intro _ (Exists.intro _ (Exists.intro _ (Exists.intro _ (And.intro rfl (And.intro rfl (And.intro (by walk_at "hp") (And.intro rfl ?_)))))))
  | refine And.intro (by walk_at "sd") ?_
  )
local macro_rules | `(tactic| walk_at "rd") => `(tactic| repeat walk_at "rd1")
local macro_rules | `(tactic| walk_at "lk") => `(tactic| first | exact rfl | (rw [lookup_putF, if_pos rfl]) | (rw [lookup_putF, if_neg (by decide +kernel)]; walk_at "lk"))

theorem end_iff {R : List Rule} (hw : Wf R) {u : List Nat} : Bk.stI R u u.length = [] ↔ IsEnd R u := by
  constructor
  · intro h v s
    obtain ⟨i, j, r, h1, _⟩ := step_made hw s
    rw [h] at h1
    cases h1
  · intro h
    cases hs : Bk.stI R u u.length with
    | nil => rfl
    | cons p l =>
      obtain ⟨i, j⟩ := p
      obtain ⟨_, r, h1, h2⟩ := stI_mem (R := R) (t := u) (i := i) (j := j) (n := u.length) (by rw [hs]; simp)
      exact absurd (made_step (List.mem_of_getElem? h1) h2) (h _)
/-- what is asked of a book: a text that it may be asked, or a thing that is refused -/
def AskT (K : PySem.W.Frag) (H : Hp) (XT XM : Addr) (sg : List Nat) (R : List Rule) (v : V) (Q : List Nat → List (List Nat) → Prop) (E : XK) : Prop :=
  (∃ t, v = .str (S t) ∧ isText sg t 0 200 = true ∧ t.length ≤ 60 ∧ (∀ L : List (List Nat), L.Nodup → (∀ u ∈ L, Reach R t u) → 2000 < L.length → ∀ H', Same H H' → Thrown E H' XM "word" (.str "text")) ∧ ∀ L, Bel R t L → L.length ≤ 2000 → Q t L) ∨
  (((∃ t, v = .str (S t) ∧ t.length ≤ 1000000 ∧ isText sg t 0 200 = false) ∨ NotStr K H v) ∧ Thrown E H XT "thing" v)
section
variable {P : Program} {w : World} {K : PySem.W.Frag} {mg : Str → Option Value} {base : Heap} {CB XT FT DT XM FM : Addr}
def spShrinks (K : PySem.W.Frag) (C XT XM : Addr) : Sp := fun vs H Q E => ∃ (p : Addr) (sg : List Nat) (R : List Rule) (v : V), vs = [.ref p, v] ∧ BookAt K C H p sg R ∧ BookOk sg R ∧
  AskT K H XT XM sg R v (fun t L => ∀ (M : List (List Nat)) (q : Addr) (H' : Hp), Asc M → (∀ u, u ∈ M ↔ u ∈ L) → M.length ≤ 4000 → H' q = some (.tup (M.map fun u => V.str (S u))) → Same H H' → Q (.ref q) H') E
theorem c_X_shrinks (T : TxtX P K mg CB XT FT DT XM FM) : Cal P w K mg base (L2.CX P w) 4 "shrinks" (spShrinks K CB XT XM) := by
  have c_X_check_text := c_X_check_text (P := P) (w := w) (base := base) T
  have c_ascending_texts := c_ascending_texts (P := P) (w := w) (base := base) T.toTxtC.toTxt
  have c_X_all_below := c_X_all_below (P := P) (w := w) (base := base) T
  refine Cal.mkX T.toTxtC.toTxt.d_shrinks sc_shrinks (fun vs H Q E h => ?_) (fun f cdv A outer s H vs Q E hr h => ?_)
  · obtain ⟨p, sg, R, v, rfl, _⟩ := h
    rfl
  · obtain ⟨p, sg, R, v, rfl, BA, hB, hv⟩ := h
    have hu := hu_of hr
    have hw := hB.wf
    have cl := T.k_Book.cl
    obtain ⟨dx, fs, a, xs, pl, hp, g1, g2, hR, _⟩ := id BA
    refine ⟨_, (pss_cons (ps_expr (pe_cX c_X_check_text hr (by decide) (takes_of rfl rfl rfl rfl) rfl (pa_cons (pe_fld (pv 0) rfl) (pa_cons (pv 1) pa_nil))))
  (pss_one (ps_ret (pe_c c_ascending_texts hr (by decide) rfl (pa_cons (pe_cX c_X_all_below hr (by decide) (takes_of rfl rfl rfl rfl) rfl (pa_cons (pv 0) (pa_cons (pv 1) pa_nil))) pa_nil))))), ?_⟩
    refine ⟨_, rfl, p, CB, dx, fs, _, rfl, hp, cl, T.n_Book_signs, g1, ?_⟩
    refine ⟨_, rfl, ?_⟩
    refine tNil_mk ?_
    rcases hv with ⟨t, rfl, htx, ht, kx, k⟩ | ⟨hb, th⟩
    · refine ⟨sg, .str (S t), rfl, .inl ⟨t, rfl, by omega, fun _ => ?_, fun z => by rw [htx] at z; cases z⟩⟩
      walk_at "nx"
      refine ⟨_, rfl, _, rfl, ?_⟩
      refine tNil_mk ?_
      refine ⟨p, sg, t, R, rfl, BA, hB, ht, kx, fun L q H1 hL hl hq s1 => ?_⟩
      refine tNil_mk ?_
      refine ⟨q, L, rfl, SqL.of hq, by omega, fun u hu => ?_, fun M z H2 h1 h2 h3 h4 s2 => ?_⟩
      · rcases reach_short hw ((hL.mem u).mp hu) with rfl | h <;> omega
      · exact k L hL hl M z H2 h1 h2 h3 h4 (s1.trans s2)
    · rcases hb with ⟨t, rfl, hl, e⟩ | hn
      · exact ⟨sg, .str (S t), rfl, .inl ⟨t, rfl, hl, fun z => (by rw [e] at z; cases z), fun _ => th⟩⟩
      · exact ⟨sg, v, rfl, .inr ⟨hn, th⟩⟩
def spEnds (K : PySem.W.Frag) (C XT XM : Addr) : Sp := fun vs H Q E => ∃ (p : Addr) (sg : List Nat) (R : List Rule) (v : V), vs = [.ref p, v] ∧ BookAt K C H p sg R ∧ BookOk sg R ∧
  AskT K H XT XM sg R v (fun t L => ∀ (M : List (List Nat)) (q : Addr) (H' : Hp), Asc M → (∀ u, u ∈ M ↔ u ∈ L ∧ IsEnd R u) → M.length ≤ 4000 → H' q = some (.tup (M.map fun u => V.str (S u))) → Same H H' → Q (.ref q) H') E
theorem c_X_ends (T : TxtX P K mg CB XT FT DT XM FM) : Cal P w K mg base (L2.CX P w) 4 "ends" (spEnds K CB XT XM) := by
  have c_X_check_text := c_X_check_text (P := P) (w := w) (base := base) T
  have c_ascending_texts := c_ascending_texts (P := P) (w := w) (base := base) T.toTxtC.toTxt
  have c_X_all_below := c_X_all_below (P := P) (w := w) (base := base) T
  have c_all_steps := c_all_steps (P := P) (w := w) (base := base) T.toTxtC
  refine Cal.mkX T.toTxtC.toTxt.d_ends sc_ends (fun vs H Q E h => ?_) (fun f cdv A outer s H vs Q E hr h => ?_)
  · obtain ⟨p, sg, R, v, rfl, _⟩ := h
    rfl
  · obtain ⟨p, sg, R, v, rfl, BA, hB, hv⟩ := h
    have hu := hu_of hr
    have hw := hB.wf
    have cl := T.k_Book.cl
    obtain ⟨dx, fs, a, xs, pl, hp, g1, g2, hR, _⟩ := id BA
    refine ⟨_, (pss_cons (ps_expr (pe_cX c_X_check_text hr (by decide) (takes_of rfl rfl rfl rfl) rfl (pa_cons (pe_fld (pv 0) rfl) (pa_cons (pv 1) pa_nil))))
  (pss_one (ps_ret (pe_c c_ascending_texts hr (by decide) rfl (pa_cons (pe_lc (own := [("one", 2)]) (g := gName 2) rfl sc_ends.nd (pi_list (pe_cX c_X_all_below hr (by decide) (takes_of rfl rfl rfl rfl) rfl (pa_cons (pv 0) (pa_cons (pv 1) pa_nil)))) (blkOk_by (N := ["book", "text", "one"]) (sc := defScope s_ends) (by decide +kernel)) (fun _ _ _ _ _ => (pg_name (i := 2) sc_ends.nd rfl (Or.inl rfl))) (fun _ _ _ _ _ => (pts_one (pt_not (pt_truthB (pe_c c_all_steps hr (by decide) rfl (pa_cons (pv 0) (pa_cons (pv 2) pa_nil))) (by intro _; rfl))))) (fun _ _ _ _ _ => (pv 2))) pa_nil))))), ?_⟩
    refine ⟨_, rfl, p, CB, dx, fs, _, rfl, hp, cl, T.n_Book_signs, g1, ?_⟩
    refine ⟨_, rfl, ?_⟩
    refine tNil_mk ?_
    rcases hv with ⟨t, rfl, htx, ht, kx, k⟩ | ⟨hb, th⟩
    · refine ⟨sg, .str (S t), rfl, .inl ⟨t, rfl, by omega, fun _ => ?_, fun z => by rw [htx] at z; cases z⟩⟩
      walk_at "nx"
      refine ⟨_, rfl, _, rfl, ?_⟩
      refine tNil_mk ?_
      refine ⟨p, sg, t, R, rfl, BA, hB, ht, kx, fun L q H1 hL hl hq s1 => ?_⟩
      refine ⟨q, rfl, ⟨_, SqL.of hq⟩, fun D hD => lc_lstR (K := K) (a := q) (xs := L.map fun u => V.str (S u)) (l := L) (Rel := fun _ v u => v = V.str (S u)) (by rw [List.length_map]) (fun pre H2 => ∃ N : List (List Nat), H2 D = some (.lst (N.map fun u => V.str (S u))) ∧ (∀ u, u ∈ N ↔ u ∈ pre ∧ IsEnd R u) ∧ N.length ≤ pre.length ∧ Same H1 H2) ⟨[], upd_same, fun u => by simp, Nat.le_refl _, same_new hD⟩
        (fun pre H2 ⟨_, _, _, _, s2⟩ => ⟨SqL.of (s2 _ _ hq), fun i x u h4 h5 => by
          rw [List.getElem?_map, h5] at h4
          exact (Option.some.inj h4).symm⟩) ?_ ?_⟩
      · rintro pre u post x H2 eL _ rfl ⟨N, h2, hN, hNl, s2⟩
        have hpl : pre.length + 1 ≤ 2000 := by
          have := congrArg List.length eL
          rw [List.length_append, List.length_cons] at this
          omega
        have hul : u.length ≤ 60 := by
          rcases reach_short hw ((hL.mem u).mp (by rw [eL]; simp)) with rfl | h <;> omega
        refine ⟨rfl, ?_⟩
        refine ⟨_, rfl, _, rfl, ?_⟩
        refine tNil_mk ?_
        refine ⟨p, sg, u, R, rfl, (BA.same s1).same s2, hB.2.1, fun r hr => (hB.2.2.1 r hr).2.1, hul, fun st ys H3 hst s3 h3 it3 => ?_⟩
        have hys := it3.1
        by_cases he : Bk.stI R u u.length = []
        · rw [he] at hys
          have hys0 : ys = [] := List.length_eq_zero_iff.mp (by simpa using hys)
          refine ⟨false, .inl ⟨ys, SqL.of h3, by rw [hys0]; rfl⟩, ?_⟩
          refine iteT ?_
          refine ⟨_, rfl, _, s3 _ _ h2, by rw [List.length_map]; exact Nat.lt_of_le_of_lt (m := 2000) (by omega) (by decide), ⟨N ++ [u], ?_, fun v => ?_, by rw [List.length_append, List.length_append]; simp; omega, same_mut (s2.trans s3) hD⟩⟩
          · rw [upd_same, List.map_append]
            rfl
          · have hu := (end_iff hw).mp he
            simp only [List.mem_append, List.mem_singleton, hN]
            constructor
            · rintro (⟨h, h'⟩ | rfl)
              · exact ⟨.inl h, h'⟩
              · exact ⟨.inr rfl, hu⟩
            · rintro ⟨h | h, h'⟩
              · exact .inl ⟨h, h'⟩
              · exact .inr h
        · refine ⟨true, .inl ⟨ys, SqL.of h3, ?_⟩, ?_⟩
          · have : 0 < ys.length := by rw [hys]; exact List.length_pos_iff.mpr he
            cases ys with
            | nil => simp at this
            | cons y ys => rfl
          refine iteF ?_
          refine ⟨N, s3 _ _ h2, fun v => ?_, by rw [List.length_append]; omega, s2.trans s3⟩
          rw [hN]
          simp only [List.mem_append, List.mem_singleton]
          constructor
          · rintro ⟨h, h'⟩
            exact ⟨.inl h, h'⟩
          · rintro ⟨h | rfl, h'⟩
            · exact ⟨h, h'⟩
            · exact absurd ((end_iff hw).mpr h') he
      · rintro H2 ⟨N, h2, hN, hNl, s2⟩
        refine tNil_mk ?_
        refine ⟨D, N, rfl, SqL.of h2, by omega, fun u hu => ?_, fun M z H3 h3 h4 h5 h6 s3 => ?_⟩
        · rcases reach_short hw ((hL.mem u).mp ((hN u).mp hu).1) with rfl | h <;> omega
        · exact k L hL hl M z H3 h3 (fun u => (h4 u).trans (hN u)) h5 h6 (s1.trans (s2.trans s3))
    · rcases hb with ⟨t, rfl, hl, e⟩ | hn
      · exact ⟨sg, .str (S t), rfl, .inl ⟨t, rfl, hl, fun z => (by rw [e] at z; cases z), fun _ => th⟩⟩
      · exact ⟨sg, v, rfl, .inr ⟨hn, th⟩⟩
end
end Sh
set_option Elab.async false
set_option linter.all false
set_option maxRecDepth 100000
set_option maxHeartbeats 4000000
namespace Sh
open PySem PySem.Spec PyProof.Rows L2
open SX (S S_inj S_len S_cat)
open Bk (Rule left Wf Reach Step IsEnd keyLt Asc asc_uniq)
local macro_rules | `(tactic| walk_at "nx") => `(tactic| repeat (with_reducible first | refine Sh.gn_mk ?_ | refine Sh.nx_mk ?_ | refine Sh.st_nx ?_ | refine Sh.rt_mk ?_ | refine Sh.ct_mk ?_ | refine Sh.bk_mk ?_))
local macro_rules | `(tactic| walk_at "sq") => `(tactic| first | exact SqL.of upd_same | exact SqT.of upd_same | exact SqL.of (by assumption) | exact SqT.of (by assumption) | assumption | exact Or.inl (SqL.of (by assumption)) | exact Or.inr (SqT.of (by assumption)) | exact Or.inl (by assumption) | exact Or.inr (by assumption))
local macro_rules | `(tactic| walk_at "hp") => `(tactic| first | exact upd_same | assumption)
local macro_rules | `(tactic| walk_at "sz") => `(tactic| first | exact Nat.le_of_ble_eq_true rfl | omega)
local macro_rules | `(tactic| walk_at "sd") => `(tactic| first | omega | exact rfl | assumption | (show (0 : Int) < _; omega) | exact And.intro (by omega) (by omega) | exact Or.inl (And.intro (by omega) (by omega)) | exact Or.inr (And.intro (by omega) (by omega)) | omega | exact Sh.sz_S (by omega) | decide)
local macro_rules | `(tactic| walk_at "rd1") => `(tactic| first
  | (with_reducible first | refine Sh.gn_mk ?_ | refine Sh.nx_mk ?_ | refine Sh.st_nx ?_ | refine Sh.rt_mk ?_ | refine Sh.ct_mk ?_ | refine Sh.bk_mk ?_)
  | refine Exists.intro (α := V) _ (And.intro rfl ?_)
  | refine Exists.intro (α := Bool) _ (And.intro rfl ?_)
  | refine Exists.intro (α := Int) _ (And.intro rfl ?_)
  | refine Exists.intro (α := PySem.Str) _ (And.intro rfl ?_)
  | refine Exists.intro (α := Int) _ (Exists.intro (α := Int) _ (And.intro rfl (And.intro rfl ?_)))
  | refine Exists.intro (α := PySem.Str) _ (Exists.intro (α := PySem.Str) _ (And.intro rfl (And.intro rfl ?_)))
  | refine Exists.intro (α := Int) _ (Exists.intro (α := Int) _ (And.intro rfl ?_))
  | refine Or.inl (Exists.intro (α := Int) _ (And.intro rfl ?_))
  | refine Exists.intro _ (Exists.intro _ (Exists.intro _ (Exists.intro _ (And.intro rfl (And.intro rfl (And.intro (by walk_at "sq") (And.intro rfl ?_)))))))
  | refine Exists.intro _ (Exists.intro _ (Exists.intro _ (Exists.intro _ (And.intro rfl (And.intro rfl (And.intro (by walk_at "hp") (And.intro rfl ?_)))))))
  | refine And.intro (by walk_at "sd") ?_
  )
local macro_rules | `(tactic| walk_at "rd") => `(tactic| repeat walk_at "rd1")
local macro_rules | `(tactic| walk_at "lk") => `(tactic| first | exact rfl | (rw [lookup_putF, if_pos rfl]) | (rw [lookup_putF, if_neg (by decide +kernel)]; walk_at "lk"))

theorem made_cut (r : Rule) (t : List Nat) (p : Nat) : S (t.take p) ++ S r.2 ++ S (t.drop (p + r.1.length)) = S (madeS r t p) := by rw [S_cat, S_cat]; rfl
section
variable {P : Program} {w : World} {K : PySem.W.Frag} {mg : Str → Option Value} {base : Heap}
def spLBelow (K : PySem.W.Frag) : Sp := fun vs H Q _ => ∃ (a : Addr) (xs : List V) (R : List Rule) (t : List Nat), vs = [.ref a, .str (S t)] ∧ RulesAt K H a xs R ∧ Wf R ∧ R.length ≤ 64 ∧ (∀ r ∈ R, r.1.length ≤ 4) ∧ t.length ≤ 60 ∧
  (∀ L : List (List Nat), L.Nodup → (∀ u ∈ L, Reach R t u) → L.length ≤ 2000) ∧
  ∀ (M : List (List Nat)) (q : Addr) (H' : Hp), Asc M → (∀ u, u ∈ M ↔ Reach R t u) → M.length ≤ 2000 → H' q = some (.lst (M.map fun u => V.str (S u))) → Same H H' → Q (.ref q) H'
theorem c__law_below (T : Txt K mg) : Cal P w K mg base CX0 4 "_law_below" (spLBelow K) := by
  have c__law_key := c__law_key (P := P) (w := w) (base := base) T
  refine Cal.mk0 T.d__law_below sc__law_below (fun vs H Q E h => ?_) (fun f cdv A outer s H vs Q E hr h => ?_)
  · obtain ⟨a, xs, R, t, rfl, _⟩ := h
    rfl
  · obtain ⟨a, xs, R, t, rfl, hR, hw, hl, h4, ht, few, k⟩ := h
    have hu := hu_of hr
    have big : (100000 : Nat) ≤ sizeLine := by decide
    refine ⟨_, (pss_cons (ps_set (i := 2) sc__law_below.nd rfl (Or.inl rfl) (pe_disp (pps_cons (pv 1) pe_bl pps_nil) (by rfl) (by rfl) (fun z => by cases z) (by decide)))
  (pss_cons (ps_set (i := 3) sc__law_below.nd rfl (Or.inl rfl) (pe_lst (pa_cons (pv 1) pa_nil)))
  (pss_cons (ps_while PassesOwn.never (pt_truth (pv 3) (by intro _; rfl))
    (pss_cons (ps_set (i := 4) sc__law_below.nd rfl (Or.inl rfl) (pe_bm0 PySem.F.plainAttrs_list PySem.F.slot_list_pop PySem.F.type_list_pop mt_pop (pv 3)))
    (pss_one (ps_for PassesOwn.never rfl (pi_tup (pv 0)) (pg_tup (by rfl) (pgs_cons (pg_name (i := 5) sc__law_below.nd rfl (Or.inl rfl)) (pgs_cons (pg_name (i := 6) sc__law_below.nd rfl (Or.inl rfl)) pgs_nil)))
      (pss_one (ps_for PassesOwn.never rfl (pi_range1 (by rfl) T.b_range (pa_cons (pe_callB call_len_str (by rfl) T.b_len (by decide +kernel) (pa_cons (pv 4) pa_nil)) pa_nil)) (pg_name (i := 7) sc__law_below.nd rfl (Or.inl rfl))
        (pss_one (ps_if (pt_cmpR op_eq (pe_slice sl_str (pv 4) (po_some (pv 7)) (po_some (pe_op op_add (pv 7) (pe_callB call_len_str (by rfl) T.b_len (by decide +kernel) (pa_cons (pv 5) pa_nil))))) (pv 5) (nomark _))
          (pss_cons (ps_set (i := 8) sc__law_below.nd rfl (Or.inl rfl) (pe_op op_add_str (pe_op op_add_str (pe_slice sl_str (pv 4) po_none (po_some (pv 7))) (pv 6)) (pe_slice sl_str (pv 4) (po_some (pe_op op_add (pv 7) (pe_callB call_len_str (by rfl) T.b_len (by decide +kernel) (pa_cons (pv 5) pa_nil)))) po_none)))
          (pss_one (ps_if (pt_cmp (pc_dnotin hu (pv 8) (pv 2)))
            (pss_cons (ps_dput hu (pv 2) (pv 8) pe_bl rfl)
            (pss_one (ps_expr (pe_bm PySem.F.plainAttrs_list PySem.F.slot_list_append PySem.F.type_list_append mt_append (pv 3) (pa_cons (pv 8) pa_nil)))))
            pss_nil)))
          pss_nil))))))))
  (pss_one (ps_ret (pe_sortK c__law_key hr (by decide) rfl (by rfl) T.b_sorted (by rfl) (pa_cons (pv 2) pa_nil))))))), ?_⟩
    intro d hd
    have s1 := same_new (o := .dK []) hd
    have e1 : (upd H d (.dK [])) d = some (.dK []) := upd_same
    refine ⟨_, rfl, e1, [((Sum.inr (S t) : Key), .bl true)], rfl, by show 1 ≤ 15; decide, ?_⟩
    have e2 : (upd (upd H d (.dK [])) d (.dK (mergeK [] [((Sum.inr (S t) : Key), .bl true)]))) d = some (.dK (setK [t])) := upd_same
    have s2 : Same H (upd (upd H d (.dK [])) d (.dK (mergeK [] [((Sum.inr (S t) : Key), .bl true)]))) := same_mut s1 hd
    generalize upd (upd H d (.dK [])) d (.dK (mergeK [] [((Sum.inr (S t) : Key), .bl true)])) = H1 at e2 s2 ⊢
    clear e1 s1
    walk_at "nx"
    refine ⟨_, rfl, ?_⟩
    refine tNil_mk ?_
    refine ⟨by walk_at "sz", fun q hq => ?_⟩
    have s3 := same_new (o := .lst [.str (S t)]) hq
    have e3 : (upd H1 q (.lst [.str (S t)])) q = some (.lst [.str (S t)]) := upd_same
    have hqd : d ≠ q := ne_of_none e2 hq
    have hq0 : H q = none := same_none s2 hq
    have e4 := s3 _ _ e2
    have s4 := s2.trans s3
    generalize upd H1 q (.lst [.str (S t)]) = H2 at e3 e4 s4 ⊢
    clear e2 s2 s3 hq
    walk_at "nx"
    refine ⟨fun m σ H' => ∃ (ls ws : List (List Nat)) (v4 v5 v6 v7 v8 : Option V), σ = [some (.ref a), some (.str (S t)), some (.ref d), some (.ref q), v4, v5, v6, v7, v8] ∧ m = 2 * (2001 - ls.length) + ws.length ∧ m ≤ 4001 ∧ H' d = some (.dK (setK ls)) ∧ H' q = some (.lst (ws.map fun u => V.str (S u))) ∧ Same H H' ∧ Srch R t ls ws (fun _ => False), ⟨_, [t], [t], _, _, _, _, _, rfl, rfl, by show 2 * (2001 - 1) + 1 ≤ 4001; decide, e4, e3, s4, Srch.start⟩, ?_⟩
    clear e3 e4 s4
    rintro m σ H3 ⟨ls, ws, v4, v5, v6, v7, v8, rfl, rfl, hm4, hd3, hq3, s3, sr⟩
    rcases List.eq_nil_or_concat ws with rfl | ⟨ws, x, rfl⟩
    · refine ⟨_, rfl, false, .inl ⟨[], SqL.of hq3, rfl⟩, ?_⟩
      refine iteF ?_
      walk_at "nx"
      have hB := sr.fin
      have hfew := few ls sr.nd sr.rch
      refine ⟨_, rfl, ?_⟩
      refine tNil_mk ?_
      refine ⟨List Nat, fun u => .str (S u), gKey, "int", ls, _, rfl, ⟨d, rfl, .inr ⟨setK ls, .inl hd3, by unfold setK; rw [List.map_map]; rfl⟩⟩, fun u hu H4 s4 Q' hQ' => ?_, fun u _ => gKey_head u, fun u _ v _ => gKey_same u v, fun M z H4 hperm hpw hz s4 h4 => ?_⟩
      · have hul : u.length ≤ 60 := by rcases reach_short hw (sr.rch u hu) with rfl | h <;> omega
        refine ⟨u, rfl, by omega, fun p hp => ?_⟩
        exact hQ' p _ (same_new hp) upd_same
      · exact k M z _ (asc_of (hperm.nodup_iff.mpr sr.nd) hpw) (fun u => hperm.mem_iff.trans (hB.mem u)) (by rw [hperm.length_eq]; exact hfew) h4 (s3.trans s4)
    · have hxr : Reach R t x := sr.rch x (sr.sub x (by simp))
      have hxl : x.length ≤ 60 := by rcases reach_short hw hxr with rfl | h <;> omega
      rw [List.concat_eq_append] at sr hq3 hm4 ⊢
      rw [List.length_append, List.length_singleton] at hm4
      refine ⟨_, rfl, true, .inl ⟨_, SqL.of hq3, by simp⟩, ?_⟩
      refine iteT ⟨_, fun _ _ h => h, ?_⟩
      refine ⟨_, rfl, ?_⟩
      refine ⟨.inl ⟨rfl, _, SqL.of hq3⟩, q, _, .str (S x), rfl, rfl, hq3, by simp, ?_⟩
      have hdl : ((ws ++ [x]).map fun u => V.str (S u)).dropLast = ws.map fun u => V.str (S u) := by simp
      rw [hdl]
      have hd4 : (upd H3 q (.lst (ws.map fun u => V.str (S u)))) d = some (.dK (setK ls)) := by rw [upd_ne hqd]; exact hd3
      have hq4 : (upd H3 q (.lst (ws.map fun u => V.str (S u)))) q = some (.lst (ws.map fun u => V.str (S u))) := upd_same
      have s4 : Same H (upd H3 q (.lst (ws.map fun u => V.str (S u)))) := same_mut s3 hq0
      generalize upd H3 q (.lst (ws.map fun u => V.str (S u))) = H4 at hd4 hq4 s4 ⊢
      have sr4 := sr.pop
      clear hd3 hq3 s3 sr hdl
      walk_at "nx"
      have hRl := hR.len
      refine ⟨_, rfl, a, rfl, ⟨_, (hR.same s4).sq⟩, ?_⟩
      refine for_tupR (K := K) (a := a) (xs := xs) (l := R) (Rel := RItem K) hRl (fun pre σ H6 => ∃ (ls' ws' : List (List Nat)) (v5 v6 v7 v8 : Option V), σ = [some (.ref a), some (.str (S t)), some (.ref d), some (.ref q), some (.str (S x)), v5, v6, v7, v8] ∧ 2 * (2001 - ls'.length) + ws'.length + 1 ≤ 2 * (2001 - ls.length) + (ws ++ [x]).length ∧ H6 d = some (.dK (setK ls')) ∧ H6 q = some (.lst (ws'.map fun u => V.str (S u))) ∧ Same H H6 ∧ Srch R t ls' ws' (fun u => u = x) ∧ ∀ r ∈ pre, ∀ i, i < x.length → (x.drop i).take r.1.length = r.1 → madeS r x i ∈ ls')
        ⟨ls, ws, _, _, _, _, rfl, by rw [List.length_append]; exact Nat.le_refl _, hd4, hq4, s4, sr4, fun r h => by cases h⟩ (fun pre σ H6 ⟨_, _, _, _, _, _, _, _, _, _, s6, _⟩ => ⟨(hR.same s6).sq, (hR.same s6).it⟩) ?_ ?_
      · rintro pre r post y σ H6 er hy ⟨c, rfl, hc⟩ ⟨ls', ws', v5, v6, v7, v8, rfl, hm, hd6, hq6, s6, sr6, hpre⟩
        have hrm : r ∈ R := by rw [er]; simp
        have hr4 := h4 r hrm
        have hr1 := (hw r hrm).2
        have hrl := (hw r hrm).1
        refine ⟨c, _, rfl, hc, rfl, _, _, rfl, _, _, rfl, rfl, ?_⟩
        walk_at "nx"
        refine ⟨_, rfl, ?_⟩
        refine tNil_mk ?_
        refine ⟨_, rfl, sz_S (by omega), ?_⟩
        rw [S_len]
        refine tNil_mk ?_
        refine ⟨_, rfl, (rng_ok (n := x.length) (by omega)).1, (rng_ok (n := x.length) (by omega)).2, ?_⟩
        refine for_range (lo := 0) (n := ((x.length : Nat) : Int).toNat) (fun i σ H7 => ∃ (ls' ws' : List (List Nat)) (v7 v8 : Option V), σ = [some (.ref a), some (.str (S t)), some (.ref d), some (.ref q), some (.str (S x)), some (.str (S r.1)), some (.str (S r.2)), v7, v8] ∧ 2 * (2001 - ls'.length) + ws'.length + 1 ≤ 2 * (2001 - ls.length) + (ws ++ [x]).length ∧ H7 d = some (.dK (setK ls')) ∧ H7 q = some (.lst (ws'.map fun u => V.str (S u))) ∧ Same H H7 ∧ Srch R t ls' ws' (fun u => u = x) ∧ (∀ r ∈ pre, ∀ i, i < x.length → (x.drop i).take r.1.length = r.1 → madeS r x i ∈ ls') ∧ ∀ j, j < i → (x.drop j).take r.1.length = r.1 → madeS r x j ∈ ls')
          ⟨ls', ws', _, _, rfl, hm, hd6, hq6, s6, sr6, hpre, fun j hj => absurd hj (by omega)⟩ ?_ ?_
        · clear hm hd6 hq6 s6 sr6 hpre
          rintro i σ H7 hi ⟨ls', ws', v7, v8, rfl, hm, hd7, hq7, s7, sr7, hpre, hcur⟩
          rw [Int.zero_add]
          have hi2 : i < x.length := by omega
          walk_at "nx"
          refine if_K (decide ((x.drop i).take r.1.length = r.1)) (fun Q' hQ => ?_) (fun hb => ?_) (fun hb => ?_)
          · walk_at "rd"
            rw [S_len, cut_mid (by omega) (by omega), show ((i : Nat) : Int).toNat = i by omega, show (((i : Nat) : Int) + ((r.1.length : Nat) : Int)).toNat - i = r.1.length by omega]
            rw [show decide (V.str (S ((x.drop i).take r.1.length)) = V.str (S r.1)) = decide ((x.drop i).take r.1.length = r.1) from decide_eq_decide.mpr ⟨fun z => S_inj (V.str.inj z), fun z => by rw [z]⟩]
            exact hQ
          · have hfit := of_decide_eq_true hb
            have hst := made_step hrm hfit
            have hrch : Reach R t (madeS r x i) := hxr.trans (.step hst (.refl _))
            have hml : (madeS r x i).length ≤ 60 := by have := step_short hw hst; omega
            walk_at "rd"
            rw [cut_to (by omega), show ((i : Nat) : Int).toNat = i by omega]
            refine ⟨?_, ?_⟩
            · rw [S_len, S_len, List.length_take]
              exact Nat.le_trans (m := 1000) (by omega) (by decide)
            walk_at "rd"
            rw [cut_from (by omega), show (((i : Nat) : Int) + (((S r.1).length : Nat) : Int)).toNat = i + r.1.length by rw [S_len]; omega]
            refine ⟨?_, ?_⟩
            · rw [S_cat, S_len, S_len, List.length_append, List.length_take, List.length_drop]
              exact Nat.le_trans (m := 1000) (by omega) (by decide)
            rw [made_cut]
            generalize hy2 : madeS r x i = y at hrch hml
            walk_at "nx"
            refine if_K (decide (y ∉ ls')) (fun Q' hQ => ?_) (fun hb => ?_) (fun hb => ?_)
            · refine ⟨_, rfl, _, rfl, d, _, rfl, DGet.k (k := Sum.inr (S y)) hd7, ?_⟩
              rw [setK_val]
              refine ⟨_, rfl, ?_⟩
              rw [show (!(if y ∈ ls' then some (V.bl true) else none).isSome) = decide (y ∉ ls') by by_cases h : y ∈ ls' <;> simp [h]]
              exact hQ
            · have hnew := of_decide_eq_true hb
              walk_at "nx"
              have hfew := few ls' sr7.nd sr7.rch
              have hlen : (setK ls').length = ls'.length := by unfold setK; rw [List.length_map]
              refine ⟨_, rfl, _, rfl, d, _, rfl, DPut.k (k := Sum.inr (S y)) hd7 (by rw [hlen]; exact Nat.lt_of_le_of_lt (m := 2000) hfew (by decide)), ?_⟩
              rw [setK_put, show addL ls' y = ls' ++ [y] from if_neg hnew]
              have hd8 : (upd H7 d (.dK (setK (ls' ++ [y])))) d = some (.dK (setK (ls' ++ [y]))) := upd_same
              have hq8 : (upd H7 d (.dK (setK (ls' ++ [y])))) q = some (.lst (ws'.map fun u => V.str (S u))) := by rw [upd_ne hqd.symm]; exact hq7
              have s8 : Same H (upd H7 d (.dK (setK (ls' ++ [y])))) := same_mut s7 hd
              generalize upd H7 d (.dK (setK (ls' ++ [y]))) = H8 at hd8 hq8 s8 ⊢
              have sr8 := sr7.more hnew hrch
              have hfew8 := few (ls' ++ [y]) sr8.nd sr8.rch
              rw [List.length_append, List.length_singleton] at hfew8
              walk_at "nx"
              refine ⟨_, rfl, .inl ⟨rfl, _, SqL.of hq8⟩, ?_⟩
              refine ⟨_, rfl, ?_⟩
              refine tNil_mk ?_
              refine ⟨q, _, _, rfl, rfl, hq8, by rw [List.length_map]; exact Nat.lt_of_le_of_lt (m := 5000) (by rw [List.length_append, List.length_singleton] at hm; omega) (by decide), ?_⟩
              rw [vmap_app]
              refine ⟨ls' ++ [y], ws' ++ [y], _, _, rfl, by rw [List.length_append, List.length_append, List.length_singleton]; omega, by rw [upd_ne hqd]; exact hd8, upd_same, same_mut s8 hq0, sr8, fun r2 h2 j hj hf => List.mem_append_left _ (hpre r2 h2 j hj hf), fun j hj hf => ?_⟩
              by_cases e : j = i
              · subst e
                rw [hy2]
                simp
              · exact List.mem_append_left _ (hcur j (by omega) hf)
            · have hold : y ∈ ls' := by
                by_cases h : y ∈ ls'
                · exact h
                · rw [decide_eq_true h] at hb
                  cases hb
              walk_at "nx"
              refine ⟨ls', ws', _, _, rfl, hm, hd7, hq7, s7, sr7, hpre, fun j hj hf => ?_⟩
              by_cases e : j = i
              · subst e
                rw [hy2]
                exact hold
              · exact hcur j (by omega) hf
          · have hno := of_decide_eq_false hb
            walk_at "nx"
            refine ⟨ls', ws', _, _, rfl, hm, hd7, hq7, s7, sr7, hpre, fun j hj hf => ?_⟩
            by_cases e : j = i
            · subst e
              exact absurd hf hno
            · exact hcur j (by omega) hf
        · rintro σ H7 ⟨ls', ws', v7, v8, rfl, hm, hd7, hq7, s7, sr7, hpre, hcur⟩
          walk_at "nx"
          refine ⟨ls', ws', _, _, _, _, rfl, hm, hd7, hq7, s7, sr7, fun r2 h2 j hj hf => ?_⟩
          rcases List.mem_append.mp h2 with h2 | h2
          · exact hpre r2 h2 j hj hf
          · rw [List.mem_singleton] at h2
            subst h2
            exact hcur j (by omega) hf
      · rintro σ H6 ⟨ls', ws', v5, v6, v7, v8, rfl, hm, hd6, hq6, s6, sr6, hpre⟩
        refine ⟨2 * (2001 - ls'.length) + ws'.length, by omega, ls', ws', _, _, _, _, _, rfl, rfl, by rw [List.length_append, List.length_singleton] at hm; omega, hd6, hq6, s6, sr6.back fun v s => ?_⟩
        obtain ⟨i, j, r, h1, h2, rfl⟩ := step_made hw s
        obtain ⟨hi, r', h3, h4⟩ := stI_mem h1
        rw [h2] at h3
        cases h3
        exact hpre r (List.mem_of_getElem? h2) i hi h4
end
end Sh
set_option Elab.async false
set_option linter.all false
set_option maxRecDepth 100000
/-! how data are shown: bounds -/
namespace Sh
open PySem PySem.Spec PyProof.Rows L2
open SX (S S_inj S_len S_cat)
def Shw (d : PyData) (k m : Nat) : Prop := d.showable = true ∧ d.hasDict = false ∧ d.depth ≤ k ∧ d.shown.length ≤ m
theorem Shw.mono {d : PyData} {k m k' m' : Nat} (h : Shw d k m) (h1 : k ≤ k') (h2 : m ≤ m') : Shw d k' m' := ⟨h.1, h.2.1, Nat.le_trans h.2.2.1 h1, Nat.le_trans h.2.2.2 h2⟩
theorem Shw.non : Shw .none 0 4 := ⟨rfl, rfl, Nat.le_refl _, by decide⟩
theorem Shw.bl (b : Bool) : Shw (.bool b) 0 5 := by cases b <;> exact ⟨rfl, rfl, Nat.le_refl _, by decide⟩
theorem Shw.str {u : List Nat} (h : ∀ c ∈ u, c < 1114112) : Shw (.str (S u)) 0 (10 * u.length + 2) := by
  refine ⟨rfl, rfl, Nat.le_refl _, ?_⟩
  have := PySem.StrLaws.reprText_len (S u) (fun c hc => Nat.lt_trans (h c hc) (by decide))
  rw [S_len] at this
  exact this
theorem showAll {ds : List PyData} {k m : Nat} (h : ∀ d ∈ ds, Shw d k m) : PyData.showableAll ds = true ∧ PyData.hasDictAll ds = false ∧ PyData.depthAll ds ≤ k ∧ (((PyData.shownAll ds).map (·.length)).sum ≤ ds.length * m) ∧ (PyData.shownAll ds).length = ds.length := by
  induction ds with
  | nil => exact ⟨rfl, rfl, Nat.zero_le _, Nat.zero_le _, rfl⟩
  | cons d ds ih =>
    obtain ⟨a1, a2, a3, a4⟩ := h d List.mem_cons_self
    obtain ⟨b1, b2, b3, b4, b5⟩ := ih fun x hx => h x (List.mem_cons_of_mem _ hx)
    refine ⟨?_, ?_, ?_, ?_, ?_⟩
    · show (d.showable && PyData.showableAll ds) = true
      rw [a1, b1]; rfl
    · show (d.hasDict || PyData.hasDictAll ds) = false
      rw [a2, b2]; rfl
    · show max d.depth (PyData.depthAll ds) ≤ k
      omega
    · show d.shown.length + ((PyData.shownAll ds).map (·.length)).sum ≤ (ds.length + 1) * m
      rw [Nat.succ_mul]
      omega
    · show (PyData.shownAll ds).length + 1 = ds.length + 1
      rw [b5]
theorem Shw.tup {ds : List PyData} {k m : Nat} (h : ∀ d ∈ ds, Shw d k m) : Shw (.tuple ds) (k + 1) (ds.length * m + 2 * ds.length + 3) := by
  obtain ⟨b1, b2, b3, b4, b5⟩ := showAll h
  refine ⟨b1, b2, ?_, ?_⟩
  · show PyData.depthAll ds + 1 ≤ k + 1
    omega
  · have := PySem.tupleText_len_le (PyData.shownAll ds)
    rw [b5] at this
    show (tupleText (PyData.shownAll ds)).length ≤ _
    omega
theorem Shw.lst {ds : List PyData} {k m : Nat} (h : ∀ d ∈ ds, Shw d k m) : Shw (.list ds) (k + 1) (ds.length * m + 2 * ds.length + 3) := by
  obtain ⟨b1, b2, b3, b4, b5⟩ := showAll h
  refine ⟨b1, b2, ?_, ?_⟩
  · show PyData.depthAll ds + 1 ≤ k + 1
    omega
  · have := PySem.listText_len_le (PyData.shownAll ds)
    rw [b5] at this
    show (listText (PyData.shownAll ds)).length ≤ _
    omega
theorem Shw.ok {d : PyData} {k m : Nat} (h : Shw d k m) (h1 : k ≤ 60) (h2 : m ≤ 16777216) : d.showable = true ∧ d.hasDict = false ∧ d.depth ≤ 60 ∧ d.shown.length ≤ sizeLine := ⟨h.1, h.2.1, Nat.le_trans h.2.2.1 h1, Nat.le_trans h.2.2.2 (Nat.le_trans h2 (by decide))⟩
end Sh
set_option Elab.async false
set_option linter.all false
/-! blocks of a def's body, by their places -/
namespace Sh
open PySem PySem.Spec PyProof.Rows L2
def stBody (l : List Stmt) (n : Nat) : List Stmt := match l.drop n with
  | .For _ _ b _ _ :: _ => b
  | .While _ b _ _ :: _ => b
  | .If _ b _ _ :: _ => b
  | _ => []
def stElse (l : List Stmt) (n : Nat) : List Stmt := match l.drop n with
  | .If _ _ b _ :: _ => b
  | _ => []
end Sh
set_option Elab.async false
set_option linter.all false
set_option maxRecDepth 100000
set_option maxHeartbeats 4000000
namespace Sh
open PySem PySem.Spec PyProof.Rows L2
open SX (S S_inj S_len S_cat)
open Bk (Rule left Wf Reach Step IsEnd keyLt Asc asc_uniq)
local macro_rules | `(tactic| walk_at "nx") => `(tactic| repeat (with_reducible first | refine Sh.gn_mk ?_ | refine Sh.nx_mk ?_ | refine Sh.st_nx ?_ | refine Sh.rt_mk ?_ | refine Sh.ct_mk ?_ | refine Sh.bk_mk ?_))
local macro_rules | `(tactic| walk_at "sq") => `(tactic| first | exact SqL.of upd_same | exact SqT.of upd_same | exact SqL.of (by assumption) | exact SqT.of (by assumption) | assumption | exact Or.inl (SqL.of (by assumption)) | exact Or.inr (SqT.of (by assumption)) | exact Or.inl (by assumption) | exact Or.inr (by assumption))
local macro_rules | `(tactic| walk_at "hp") => `(tactic| first | exact upd_same | assumption)
local macro_rules | `(tactic| walk_at "sz") => `(tactic| first | exact Nat.le_of_ble_eq_true rfl | omega)
local macro_rules | `(tactic| walk_at "sd") => `(tactic| first | omega | exact rfl | assumption | (show (0 : Int) < _; omega) | exact And.intro (by omega) (by omega) | exact Or.inl (And.intro (by omega) (by omega)) | exact Or.inr (And.intro (by omega) (by omega)) | omega | exact Sh.sz_S (by omega) | decide)
local macro_rules | `(tactic| walk_at "rd1") => `(tactic| first
  | (with_reducible first | refine Sh.gn_mk ?_ | refine Sh.nx_mk ?_ | refine Sh.st_nx ?_ | refine Sh.rt_mk ?_ | refine Sh.ct_mk ?_ | refine Sh.bk_mk ?_)
  | refine Exists.intro (α := V) _ (And.intro rfl ?_)
  | refine Exists.intro (α := Bool) _ (And.intro rfl ?_)
  | refine Exists.intro (α := Int) _ (And.intro rfl ?_)
  | refine Exists.intro (α := PySem.Str) _ (And.intro rfl ?_)
  | refine Exists.intro (α := Int) _ (Exists.intro (α := Int) _ (And.intro rfl (And.intro rfl ?_)))
  | refine Exists.intro (α := PySem.Str) _ (Exists.intro (α := PySem.Str) _ (And.intro rfl (And.intro rfl ?_)))
  | refine Exists.intro (α := Int) _ (Exists.intro (α := Int) _ (And.intro rfl ?_))
  | refine Or.inl (Exists.intro (α := Int) _ (And.intro rfl ?_))
  | refine Exists.intro _ (Exists.intro _ (Exists.intro _ (Exists.intro _ (And.intro rfl (And.intro rfl (And.intro (by walk_at "sq") (And.intro rfl ?_)))))))
  | refine Exists.intro _ (Exists.intro _ (Exists.intro _ (Exists.intro _ (And.intro rfl (And.intro rfl (And.intro (by walk_at "hp") (And.intro rfl ?_)))))))
  | refine And.intro (by walk_at "sd") ?_
  )
local macro_rules | `(tactic| walk_at "rd") => `(tactic| repeat walk_at "rd1")
local macro_rules | `(tactic| walk_at "lk") => `(tactic| first | exact rfl | (rw [lookup_putF, if_pos rfl]) | (rw [lookup_putF, if_neg (by decide +kernel)]; walk_at "lk"))

theorem in_end {R : List Rule} {t : List Nat} (he : IsEnd R t) {r : Rule} (hr : r ∈ R) : (!(Builtin.Str.occurrences (S t) (S r.1) 0 (S t).length 1).isEmpty) = false := by
  rw [Bool.eq_false_iff]
  intro h
  obtain ⟨i, hi, hs⟩ := (StrLaws.found_iff _ _).mp h
  rw [S_len, S_len] at hi
  have e : (S t).cps.extract i (i + (S r.1).length) = (S r.1).cps := eq_of_beq hs
  have e2 := congrArg Array.toList e
  rw [Array.toList_extract, S_len] at e2
  have e3 : (t.drop i).take r.1.length = r.1 := by
    have e4 : (S t).cps.toList = t := rfl
    have e5 : (S r.1).cps.toList = r.1 := rfl
    rw [e4, e5, List.extract_eq_take_drop] at e2
    have e6 : i + r.1.length - i = r.1.length := by omega
    rw [e6] at e2
    exact e2
  refine Bk.isEnd_iff.mp he r hr (t.take i) (t.drop (i + r.1.length)) ?_
  have e7 : (t.drop i).take r.1.length ++ (t.drop i).drop r.1.length = t.drop i := List.take_append_drop _ _
  rw [e3, List.drop_drop] at e7
  rw [List.append_assoc, e7, List.take_append_drop]

/-- a left side stands in a text -/
def hasB (t l : List Nat) : Bool := !(Builtin.Str.occurrences (S t) (S l) 0 (S t).length 1).isEmpty
theorem hasB_end {R : List Rule} {t : List Nat} : (R.map fun r => hasB t r.1).any id = false ↔ IsEnd R t := by
  constructor
  · intro h
    refine Bk.isEnd_iff.mpr fun r hr x y e => ?_
    have h1 := (List.any_eq_false.mp h) (hasB t r.1) (List.mem_map.mpr ⟨r, hr, rfl⟩)
    refine h1 ?_
    show hasB t r.1 = true
    unfold hasB
    refine (StrLaws.found_iff _ _).mpr ⟨x.length, ?_, ?_⟩
    · rw [S_len, S_len, e]
      simp
    · refine beq_of_eq ?_
      refine Array.toList_inj.mp ?_
      rw [Array.toList_extract, S_len]
      show ((t : List Nat).extract x.length (x.length + r.1.length)) = r.1
      rw [List.extract_eq_take_drop, show x.length + r.1.length - x.length = r.1.length by omega, e, List.append_assoc, List.drop_left, List.take_left]
  · intro he
    rw [List.any_eq_false]
    intro b hb
    obtain ⟨r, hr, rfl⟩ := List.mem_map.mp hb
    show ¬ hasB t r.1 = true
    rw [show hasB t r.1 = false from in_end he hr]
    exact Bool.false_ne_true
section
variable {P : Program} {w : World} {K : PySem.W.Frag} {mg : Str → Option Value} {base : Heap}
def spLIsEnd (K : PySem.W.Frag) : Sp := fun vs H Q _ => ∃ (a : Addr) (xs : List V) (R : List Rule) (t : List Nat), vs = [.ref a, .str (S t)] ∧ RulesAt K H a xs R ∧ R.length ≤ 64 ∧ t.length ≤ 1000 ∧
  ∀ (b : Bool) (H' : Hp), (b = true ↔ IsEnd R t) → Same H H' → Q (.bl b) H'
theorem c__law_is_end (T : Txt K mg) : Cal P w K mg base CX0 1 "_law_is_end" (spLIsEnd K) := by
  refine Cal.mk0 T.d__law_is_end sc__law_is_end (fun vs H Q E h => ?_) (fun f cdv A outer s H vs Q E hr h => ?_)
  · obtain ⟨a, xs, R, t, rfl, _⟩ := h
    rfl
  · obtain ⟨a, xs, R, t, rfl, hR, hl, htl, k⟩ := h
    have hu := hu_of hr
    refine ⟨_, (pss_one (ps_ret (pe_not (pe_callB (cr_any rfl) (by rfl) T.b_any (by decide +kernel) (pa_cons (pe_lc (own := [("_law_rule_here", 2)]) (g := gName 2) (tt := tYes) rfl sc__law_is_end.nd (pi_tup (pv 0)) (blkOk_by (N := ["_law_rules", "_law_text_here", "_law_rule_here"]) (sc := defScope s__law_is_end) (by decide +kernel)) (fun _ _ _ _ _ => (pg_name (i := 2) sc__law_is_end.nd rfl (Or.inl rfl))) (fun _ _ _ _ _ => pts_nil) (fun _ _ _ _ _ => (pe_cmpR op_in_str (pe_ix ix_tupB (pv 2) pe_int (fun _ _ => rfl)) (pv 1) (by rfl)))) pa_nil))))), ?_⟩
    walk_at "rd"
    refine ⟨a, rfl, ⟨_, hR.sq⟩, fun D hD => lc_tupR (K := K) (a := a) (xs := xs) (l := R) (Rel := RItem K) hR.len (fun pre H2 => H2 D = some (.lst ((pre.map fun r => hasB t r.1).map V.bl)) ∧ Same H H2) ⟨upd_same, same_new hD⟩
      (fun pre H2 ⟨_, s2⟩ => ⟨(hR.same s2).sq, (hR.same s2).it⟩) ?_ ?_⟩
    · rintro pre r post x H2 e hx ⟨q, rfl, hq⟩ ⟨h2, s2⟩
      have hpl : pre.length + 1 ≤ 64 := by
        have := congrArg List.length e
        simp at this
        omega
      refine ⟨rfl, ty_T ?_⟩
      refine ⟨_, rfl, ⟨q, _, _, _, rfl, rfl, hq, rfl, ?_⟩⟩
      refine ⟨_, rfl, _, _, rfl, rfl, ?_⟩
      refine ⟨_, h2, ?_, ?_, same_mut s2 hD⟩
      · rw [List.length_map, List.length_map]
        exact Nat.lt_of_le_of_lt (m := 64) (by omega) (by decide)
      · rw [upd_same, List.map_append, List.map_append]
        rfl
    · rintro H2 ⟨h2, s2⟩
      refine tNil_mk ?_
      refine ⟨D, _, rfl, SqL.of h2, ?_⟩
      refine ⟨_, rfl, ?_⟩
      refine k _ _ ?_ s2
      rw [← hasB_end (R := R) (t := t)]
      cases (R.map fun r => hasB t r.1).any id <;> simp
end
end Sh
set_option Elab.async false
set_option linter.all false
set_option maxRecDepth 100000
set_option maxHeartbeats 4000000
namespace Sh
open PySem PySem.Spec PyProof.Rows L2
open SX (S S_inj S_len S_cat)
open Bk (Rule firstAt lg bestUp used left drain pushS Wf)
local macro_rules | `(tactic| walk_at "nx") => `(tactic| repeat (with_reducible first | refine Sh.gn_mk ?_ | refine Sh.nx_mk ?_ | refine Sh.st_nx ?_ | refine Sh.rt_mk ?_ | refine Sh.ct_mk ?_ | refine Sh.bk_mk ?_))
local macro_rules | `(tactic| walk_at "sq") => `(tactic| first | exact SqL.of upd_same | exact SqT.of upd_same | exact SqL.of (by assumption) | exact SqT.of (by assumption) | assumption | exact Or.inl (SqL.of (by assumption)) | exact Or.inr (SqT.of (by assumption)) | exact Or.inl (by assumption) | exact Or.inr (by assumption))
local macro_rules | `(tactic| walk_at "hp") => `(tactic| first | exact upd_same | assumption)
local macro_rules | `(tactic| walk_at "sz") => `(tactic| first | exact Nat.le_of_ble_eq_true rfl | omega)
local macro_rules | `(tactic| walk_at "sd") => `(tactic| first | omega | exact rfl | assumption | (show (0 : Int) < _; omega) | exact And.intro (by omega) (by omega) | exact Or.inl (And.intro (by omega) (by omega)) | exact Or.inr (And.intro (by omega) (by omega)) | omega | exact Sh.sz_S (by omega) | decide)
local macro_rules | `(tactic| walk_at "rd1") => `(tactic| first
  | (with_reducible first | refine Sh.gn_mk ?_ | refine Sh.nx_mk ?_ | refine Sh.st_nx ?_ | refine Sh.rt_mk ?_ | refine Sh.ct_mk ?_ | refine Sh.bk_mk ?_)
  | refine Exists.intro (α := V) _ (And.intro rfl ?_)
  | refine Exists.intro (α := Bool) _ (And.intro rfl ?_)
  | refine Exists.intro (α := Int) _ (And.intro rfl ?_)
  | refine Exists.intro (α := PySem.Str) _ (And.intro rfl ?_)
  | refine Exists.intro (α := Int) _ (Exists.intro (α := Int) _ (And.intro rfl (And.intro rfl ?_)))
  | refine Exists.intro (α := PySem.Str) _ (Exists.intro (α := PySem.Str) _ (And.intro rfl (And.intro rfl ?_)))
  | refine Exists.intro (α := Int) _ (Exists.intro (α := Int) _ (And.intro rfl ?_))
  | refine Or.inl (Exists.intro (α := Int) _ (And.intro rfl ?_))
  | refine Exists.intro _ (Exists.intro _ (Exists.intro _ (Exists.intro _ (And.intro rfl (And.intro rfl (And.intro (by walk_at "sq") (And.intro rfl ?_)))))))
  | refine Exists.intro _ (Exists.intro _ (Exists.intro _ (Exists.intro _ (And.intro rfl (And.intro rfl (And.intro (by walk_at "hp") (And.intro rfl ?_)))))))
  | refine And.intro (by walk_at "sd") ?_
  )
local macro_rules | `(tactic| walk_at "rd") => `(tactic| repeat walk_at "rd1")
local macro_rules | `(tactic| walk_at "lk") => `(tactic| first | exact rfl | (rw [lookup_putF, if_pos rfl]) | (rw [lookup_putF, if_neg (by decide +kernel)]; walk_at "lk"))

section
variable {P : Program} {w : World} {K : PySem.W.Frag} {mg : Str → Option Value} {base : Heap} {CB XR FR DI XO FO XT FT DT SE : Addr}
def spDrawn (K : PySem.W.Frag) : Sp := fun vs H Q _ => ∃ (a : Addr) (sg : List Nat), vs = [.ref a, .str (S sg)] ∧ Src H a ∧ isSigns sg = true ∧ ∀ (p : Addr) (xs : List V) (R : List Rule) (H' : Hp), RulesAt K H' p xs R → BookOk sg R → R.length ≤ 5 → Src H' a → But a H H' → Q (.ref p) H'
theorem c__law_drawn (T : Txt K mg) : Cal P w K mg base CX0 3 "_law_drawn" (spDrawn K) := by
  have c__law_rule := c__law_rule (P := P) (w := w) (base := base) T
  have c__law_pick := c__law_pick (P := P) (w := w) (base := base) T
  refine Cal.mk0 T.d__law_drawn sc__law_drawn (fun vs H Q E h => ?_) (fun f cdv A outer s H vs Q E hr h => ?_)
  · obtain ⟨a, sg, rfl, _⟩ := h
    rfl
  · obtain ⟨a, sg, rfl, hS, hsg, k⟩ := h
    have hsl := signs_len hsg
    have hu65 := hu65_of hr
    refine ⟨_, (pss_cons (ps_set (i := 2) sc__law_drawn.nd rfl (Or.inl rfl) (pe_lst pa_nil))
  (pss_cons (ps_for PassesOwn.never rfl (pi_range1 (by rfl) T.b_range (pa_cons (pe_op op_add pe_int (pe_c c__law_pick hr (by decide) rfl (pa_cons (pv 0) (pa_cons pe_int pa_nil)))) pa_nil)) (pg_name (i := 3) sc__law_drawn.nd rfl (Or.inl rfl))
    (pss_cons (ps_set (i := 4) sc__law_drawn.nd rfl (Or.inl rfl) (pe_c c__law_rule hr (by decide) rfl (pa_cons (pv 0) (pa_cons (pv 1) (pa_cons pe_int pa_nil)))))
    (pss_one (ps_if (pt_cmpR (op_notInD hu65) (pv 4) (pv 2) (by rfl))
      (pss_one (ps_expr (pe_bm PySem.F.plainAttrs_list PySem.F.slot_list_append PySem.F.type_list_append mt_append (pv 2) (pa_cons (pv 4) pa_nil))))
      pss_nil))))
  (pss_one (ps_ret (pe_callTy call_tuple_of (by rfl) T.b_tuple (by decide +kernel) (pa_cons (pv 2) pa_nil)))))), ?_⟩
    refine ⟨by walk_at "sz", fun p hp => ?_⟩
    have b0 : But a H (upd H p (.lst [])) := But.same (same_new hp)
    have hna : p ≠ a := by
      obtain ⟨d, e, c, z⟩ := hS
      exact (ne_of_none z hp).symm
    have hS0 : Src (upd H p (.lst [])) a := by
      obtain ⟨d, e, c, z⟩ := hS
      exact ⟨d, e, c, by rw [upd_ne hna.symm]; exact z⟩
    walk_at "nx"
    walk_at "rd"
    refine ⟨a, _, rfl, hS0, by omega, by omega, fun n H1 hn0 hn1 hS1 b1 => ?_⟩
    walk_at "rd"
    have hp1 : H1 p = some (.lst []) := b1 _ _ hna upd_same
    have cap : ∀ r : Rule, RuleOk sg 4 r → Chars r.1 ∧ Chars r.2 := fun r h => ⟨fun c hc => signs_chars hsg c (h.2.2.1 c hc), fun c hc => signs_chars hsg c (h.2.2.2.1 c hc)⟩
    refine for_range (lo := 0) (n := (1 + n).toNat) (fun i σ H2 => ∃ (ys : List V) (R : List Rule) (v3 v4 : Option V), σ = [some (.ref a), some (.str (S sg)), some (.ref p), v3, v4] ∧ Src H2 a ∧ But a H H2 ∧ H2 p = some (.lst ys) ∧ Items (RItem K) H2 ys R ∧ R.length ≤ i ∧ (∀ r ∈ R, RuleOk sg 4 r) ∧ R.Nodup)
      ⟨[], [], _, _, rfl, hS1, b0.trans b1, hp1, Items.nil, Nat.le_refl _, fun r h => (by cases h), List.nodup_nil⟩ ?_ ?_
    · rintro i σ H2 hi ⟨ys, R, v3, v4, rfl, hS2, b2, hp2, it2, hRi, hok, hnd⟩
      rw [Int.zero_add]
      walk_at "nx"
      refine ⟨_, rfl, _, rfl, a, sg, 3, rfl, hS2, by omega, by omega, by omega, by omega, fun r q H3 hrk hS3 b3 hq2 hq3 => ?_⟩
      have hr4 : RuleOk sg 4 r := ⟨hrk.1, Nat.le_trans hrk.2.1 (by decide), hrk.2.2⟩
      have k3 := Keep.but b3 hS2
      have hb3 := b2.trans b3
      have hp3 := b3 _ _ hna hp2
      have it3 := it2.mono fun x y h => h.same k3
      have hci := cap r hr4
      have hct : RChars R := fun x m => cap x (hok x m)
      have iq : RItem K H3 (.ref q) r := ⟨q, rfl, SqT.of hq3⟩
      have hyl : ys.length ≤ 5 := by have := it3.1; omega
      walk_at "nx"
      refine if_K (decide (r ∉ R)) (fun Q' hQ => ?_) (fun hb => ?_) (fun hb => ?_)
      · refine ⟨_, rfl, _, rfl, rD r, R.map rD, RItem.dp iq, .lst (SqL.of hp3) (dpAll_rules it3), shaped_rule hci, shaped_rules hct, _, rfl, ?_⟩
        rw [any_rules]
        exact q_of hQ (by by_cases hin : r ∈ R <;> simp [hin])
      · have hin := of_decide_eq_true hb
        walk_at "nx"
        refine ⟨_, rfl, .inl ⟨rfl, _, SqL.of hp3⟩, ?_⟩
        walk_at "rd"
        refine ⟨p, _, _, rfl, rfl, hp3, Nat.lt_of_le_of_lt (m := 5) hyl (by decide), ?_⟩
        have kk : Keep H3 (upd H3 p (.lst (ys ++ [.ref q]))) := Keep.butL but_upd hp3
        refine ⟨ys ++ [.ref q], R ++ [r], _, _, rfl, ?_, ?_, upd_same, it3.snoc (fun x y h => h.same kk) ⟨q, rfl, kk.seq (SqT.of hq3)⟩, by simp; omega, ?_, ?_⟩
        · obtain ⟨d, e, c, z⟩ := hS3
          exact ⟨d, e, c, by rw [upd_ne hna.symm]; exact z⟩
        · exact but_mut hb3 hp
        · intro x hx
          rcases List.mem_append.mp hx with z | z
          · exact hok x z
          · have : x = r := by simpa using z
            exact this ▸ hr4
        · rw [List.nodup_append]
          refine ⟨hnd, by simp, fun x hx y hy => ?_⟩
          have : y = r := by simpa using hy
          subst this
          intro e
          exact hin (e ▸ hx)
      · walk_at "nx"
        exact ⟨ys, R, _, _, rfl, hS3, hb3, hp3, it3, by omega, hok, hnd⟩
    · rintro σ H2 ⟨ys, R, v3, v4, rfl, hS2, b2, hp2, it2, hRi, hok, hnd⟩
      walk_at "rd"
      refine ⟨p, _, rfl, .inl ⟨SqL.of hp2, fun l hl => ?_⟩⟩
      have s3 := same_new (o := .tup ys) hl
      obtain ⟨d9, e9, c9, z9⟩ := hS2
      exact k l ys R _ ⟨SqT.of upd_same, it2.1, fun i x r h1 h2 => RItem.same (it2.2 i x r h1 h2) (Keep.same s3)⟩ ⟨hsg, by omega, hok, hnd⟩ (by omega) ⟨d9, e9, c9, s3 _ _ z9⟩ (b2.trans (But.same s3))
end
end Sh
set_option Elab.async false
set_option linter.all false
set_option maxRecDepth 100000
/-! x in t, items and x data of any depth, t a tuple -/
namespace Sh
open PySem PySem.Spec PyProof.Rows L2
section
variable {X : Cx}
def rInDT (K : PySem.W.Frag) (neg : Bool) : R2 := fun x y H Q => ∃ d ds, Dp K H x d ∧ Dp K H y (.tuple ds) ∧ SeqAt.shaped d = true ∧ SeqAt.shaped (.tuple ds) = true ∧ Q (.bl (if neg then !ds.any fun z => PyData.eqv z d else ds.any fun z => PyData.eqv z d)) H
theorem op_inDT (hu : X.A.units + 65 < cLine) : OpR X (compareOp .In) (rInDT X.K false) := fun pins s σ H x y v u Q I rx ry h =>
  match h with
  | ⟨d, ds, hd, he, sd, se, q⟩ => by
    obtain ⟨as, r1⟩ := Dp.reads I d x v hd rx
    obtain ⟨bs, r2⟩ := Dp.reads I (.tuple ds) y u he ry
    exact SeqAt.in_tuple_reads r2 r1 (SeqAt.canLay_of_shaped se) (SeqAt.canLay_of_shaped sd) (room_in_shaped sd hu) ⟨.bl _, H, I, rfl, q⟩
theorem op_notInDT (hu : X.A.units + 65 < cLine) : OpR X (compareOp .NotIn) (rInDT X.K true) := fun pins s σ H x y v u Q I rx ry h =>
  match h with
  | ⟨d, ds, hd, he, sd, se, q⟩ => by
    obtain ⟨as, r1⟩ := Dp.reads I d x v hd rx
    obtain ⟨bs, r2⟩ := Dp.reads I (.tuple ds) y u he ry
    exact SeqAt.notIn_tuple_reads r2 r1 (SeqAt.canLay_of_shaped se) (SeqAt.canLay_of_shaped sd) (room_in_shaped sd hu) ⟨.bl _, H, I, rfl, q⟩
end
end Sh
set_option Elab.async false
set_option linter.all false
set_option maxRecDepth 100000
/-! t[::-1], t a tuple -/
namespace Sh
open PySem PySem.Spec PyProof.Rows L2
theorem back_adjust (n : Nat) : Builtin.Slice.sliceAdjust none none (-1) (n : Int) = ((n : Int) - 1, -1) := rfl
theorem back_places (n : Nat) : Builtin.Slice.slicePlaces ((n : Int) - 1) (-1) (-1) = n := by
  unfold Builtin.Slice.slicePlaces
  rw [if_neg (by decide)]
  by_cases h : (n : Int) - 1 > -1
  · rw [if_pos h, show (-(-1) : Int) = 1 by decide, Int.ediv_one]
    omega
  · rw [if_neg h]
    omega
theorem fm_congr {α β : Type} {f g : α → Option β} : ∀ {l : List α}, (∀ x ∈ l, f x = g x) → l.filterMap f = l.filterMap g
  | [], _ => rfl
  | x :: l, h => by
    rw [List.filterMap_cons, List.filterMap_cons, h x List.mem_cons_self, fm_congr fun y hy => h y (List.mem_cons_of_mem _ hy)]
theorem back_pick (xs : Array Value) : (List.range xs.size).filterMap (fun (k : Nat) => xs[((xs.size : Int) - 1 + (k : Int) * (-1)).toNat]?) = xs.toList.reverse := by
  have e : (List.range xs.size).filterMap (fun (k : Nat) => xs[((xs.size : Int) - 1 + (k : Int) * (-1)).toNat]?) = ((List.range xs.size).map fun k => xs.size - 1 - k).filterMap (xs[·]?) := by
    rw [List.filterMap_map]
    refine fm_congr fun k hk => ?_
    have := List.mem_range.mp hk
    show xs[_]? = xs[xs.size - 1 - k]?
    congr 1
    omega
  rw [e, PySem.W.krv_range, List.filterMap_reverse, PySem.W.krv_all]
section
variable {prog : Program} {w : World} {A : Around} {E : Value → Shared → Prop} {s : Shared}
theorem getItem_tup_back {t sl : Addr} {items : Array Value} {tk : Tok} {Q : Value → Shared → Prop} (ht : IsTup s.heap t items) (hs : s.heap.IsSliceOf sl .none .none (.int (-1) tk))
    (h : Q (.ref s.heap.objs.size) { s with heap := s.heap.push { cls := .type "tuple", data := .seq items.toList.reverse.toArray } }) (hsz : items.size ≤ sizeLine) : wpAny (model prog w) A (getItem (.ref t) (.ref sl)) Q E s := by
  have hok : sizeOk (.seq items.toList.reverse.toArray) := by
    show items.toList.reverse.toArray.size ≤ sizeLine
    rw [List.size_toArray, List.length_reverse, Array.length_toList]
    exact hsz
  obtain ⟨os, hos, hcs, hds⟩ := id hs
  have tyS : s.TypeIs (.ref sl) "slice" := ⟨os, hos, hcs⟩
  unfold getItem
  try with_reducible refine wpAny_holding ?_
  first | refine wpAny_bind (wpAny_pure ?_) | skip
  refine wpAny_bind (wpAny_sequenceKey ht.typeIs (by decide) (wpAny_bind (wpAny_callSpecial?_slot (name := Str.ofString "__getitem__") ht.typeIs PyProof.Rows.slot_tuple_getitem
    (wpAny_call_entry PyProof.Rows.slot_tuple_getitem ht.typeIs entry_tuple_getitem ?_ (args_tuple_getitem _ _)))))
  show wpAny _ _ (Builtin.Tuple.tupleItemsOf (.ref t) >>= _) _ _ s
  refine wpAny_bind (tupleItemsOf_ ht (wpAny_bind (wpAny_typeOf tyS ?_)))
  rw [if_pos (by decide)]
  refine wpAny_bind ?_
  unfold Builtin.Slice.sliceApplied Builtin.Slice.sliceFields
  refine wpAny_bind (wpAny_bind (wpAny_field hos hds (x := .none) rfl (wpAny_bind (wpAny_field hos hds (x := .none) rfl (wpAny_bind (wpAny_field hos hds (x := .int (-1) tk) rfl (wpAny_pure ?_)))))))
  refine wpAny_bind (slicePart_int ?_)
  show wpAny _ _ (if ((-1 : Int) == 0) = true then _ else _) _ _ s
  rw [if_neg (by decide)]
  refine wpAny_bind (slicePart_none (wpAny_bind (slicePart_none (wpAny_bind (wpAny_pure ?_)))))
  show wpAny _ _ (pure ((items.size : Int) - 1, (-1 : Int), Builtin.Slice.slicePlaces ((items.size : Int) - 1) (-1) (-1))) _ _ s
  rw [back_places]
  refine wpAny_pure ?_
  have hno : ¬ ((((items.size : Int) - 1) == 0 && (-1 : Int) == 1 && items.size == items.size) = true) := by simp
  show wpAny _ _ (if (((items.size : Int) - 1) == 0 && (-1 : Int) == 1 && items.size == items.size) = true then _ else _) _ _ s
  rw [if_neg hno, back_pick]
  first
    | exact wpAny_bind (m := Builtin.Tuple.tupleExact _) (wpAny_newObj_type (wpAny_pure ⟨_, rfl, wpAny_pure h⟩) hok)
    | exact wpAny_bind (m := Builtin.Tuple.tupleExact _) (wpAny_newObj_type (wpAny_bind (wpAny_pure (wpAny_pure ⟨_, rfl, wpAny_pure h⟩))) hok)
    | exact wpAny_bind (wpAny_bind (m := Builtin.Tuple.tupleExact _) (wpAny_newObj_type (wpAny_pure (wpAny_pure ⟨_, rfl, wpAny_pure h⟩)) hok))
    | exact wpAny_bind (wpAny_bind (m := Builtin.Tuple.tupleExact _) (wpAny_newObj_type (wpAny_pure ⟨_, rfl, wpAny_pure h⟩) hok))
end
section
variable {X : Cx}
def tRevT (K : PySem.W.Frag) (te : TE) : TE := fun σ H Q => te σ H fun x H1 => ∃ a xs, x = .ref a ∧ SqT K H1 a xs ∧ ∀ p, H1 p = none → Q (.ref p) (upd H1 p (.tup xs.reverse))
theorem pe_revT {e : Expr} {te : TE} {k : Nat} {p1 p2 p3 pos : Pos} (he : PE X e te) : PE X (.Subscript e (.Slice none none (some (.UnaryOp .USub (.Constant (.int 1) k p1) p2)) p3) pos) (tRevT X.K te) := by
  refine ⟨fun pins s σ H Q I h => Subscript_ (thn (he.run pins s σ H _ I h) fun v s1 ⟨x, H1, I1, r1, a, xs, ex, hx, q⟩ => ?_)⟩
  subst ex
  cases r1
  have hst : PO X (some (.UnaryOp .USub (.Constant (.int 1) k p1) p2)) (tPart (tUn (rU fun i => .int (-i)) (tC (.int 1)))) := po_some (pe_un un_neg pe_int)
  refine wpAny_Slice (thn (po_none.run pins s1 σ H1 (fun o H2 => o = none ∧ H2 = H1) I1 ⟨rfl, rfl⟩) fun vl s2 ⟨l, H2, I2, pl, el, e2⟩ => thn (po_none.run pins s2 σ H2 (fun o H3 => o = none ∧ H3 = H2) I2 ⟨rfl, rfl⟩) fun vu s3 ⟨u, H3, I3, pu, eu, e3⟩ =>
    thn (hst.run pins s3 σ H3 (fun o H4 => o = some (-1) ∧ H4 = H3) I3 ⟨1, rfl, -1, rfl, rfl, rfl⟩) fun vs s4 ⟨o, H4, I4, ps, eo, e4⟩ => ?_)
  subst el e2 eu e3 eo e4
  have I5 : Inv X pins σ H4 { s4 with heap := s4.heap.push { cls := .type "slice", data := .fields #[vl, vu, vs] } } := I4.kept (t' := s4.toks) fun b ob q => Heap.get?_push_of_some _ q
  obtain ⟨its, r, ht, hz⟩ := I5.tuple hx
  have hlen := r.length
  cases pl
  cases pu
  cases ps
  show wpAny (model X.prog X.w) X.A (subscriptTail e (.Slice none none (some (.UnaryOp .USub (.Constant (.int 1) k p1) p2)) p3) (.ref a) (.ref s4.heap.objs.size)) (EP X pins σ Q) X.xe _
  refine tail_any (ops := [.ref a, .ref s4.heap.objs.size]) ht.typeIs (PyProof.Rows.slot_tuple_getitem.lookup) ?_ (by with_unfolding_all rfl)
  refine getItem_tup_back ht (Heap.IsSliceOf.new _ _ _ _) ?_ (by rw [List.size_toArray]; omega)
  refine ⟨.ref _, _, I5.laid (t' := s4.toks) (o := .tup xs.reverse) (fun b ob q => Heap.get?_push_of_some _ q) (Nat.le_refl _) ?_, rfl, q _ (I5.hok.fresh (Nat.le_refl _))⟩
  exact ⟨by rw [List.length_reverse]; exact hz, _, r.reverse, IsTup.new _ _⟩
end
end Sh
set_option Elab.async false
set_option linter.all false
set_option maxRecDepth 100000
/-! t[::-1], t a text -/
namespace Sh
open PySem PySem.Spec PyProof.Rows L2
open SX (S S_inj S_len S_cat)
def revS (z : Str) : Str := ⟨z.cps.toList.reverse.toArray⟩
theorem revS_S (t : List Nat) : revS (S t) = S t.reverse := by
  unfold revS
  rfl
theorem back_txt (z : Str) : (Builtin.Str.strSliceIndices none none (-1) z.length).filterMap (z.cps[·]?) = z.cps.toList.reverse := by
  have e : Builtin.Str.strSliceIndices none none (-1) z.length = (List.range z.cps.size).map fun k => z.cps.size - 1 - k := by
    show sliceRange ((z.length : Int) - 1) (-1) (-1) = _
    have hz : z.length = z.cps.size := rfl
    unfold sliceRange
    dsimp only
    rw [if_neg (by decide), hz]
    have hc : (if ((z.cps.size : Nat) : Int) - 1 > -1 then (((z.cps.size : Nat) : Int) - 1 - -1 - -1 - 1) / - -1 else 0).toNat = z.cps.size := by
      rw [show (- -1 : Int) = 1 by decide, Int.ediv_one]
      split <;> omega
    rw [hc]
    refine List.map_congr_left fun k hk => ?_
    have := List.mem_range.mp hk
    omega
  rw [e, PySem.W.krv_range, List.filterMap_reverse, PySem.W.krv_all]
section
variable {X : Cx}
def tRevS (te : TE) : TE := fun σ H Q => te σ H fun x H1 => ∃ z, x = .str z ∧ z.length ≤ sizeLine ∧ Q (.str (revS z)) H1
theorem pe_revS {e : Expr} {te : TE} {k : Nat} {p1 p2 p3 pos : Pos} (he : PE X e te) : PE X (.Subscript e (.Slice none none (some (.UnaryOp .USub (.Constant (.int 1) k p1) p2)) p3) pos) (tRevS te) := by
  refine ⟨fun pins s σ H Q I h => Subscript_ (thn (he.run pins s σ H _ I h) fun v s1 ⟨x, H1, I1, r1, z, ex, hzl, q⟩ => ?_)⟩
  subst ex
  obtain ⟨tz, rfl⟩ := r1
  have hst : PO X (some (.UnaryOp .USub (.Constant (.int 1) k p1) p2)) (tPart (tUn (rU fun i => .int (-i)) (tC (.int 1)))) := po_some (pe_un un_neg pe_int)
  refine wpAny_Slice (thn (po_none.run pins s1 σ H1 (fun o H2 => o = none ∧ H2 = H1) I1 ⟨rfl, rfl⟩) fun vl s2 ⟨l, H2, I2, pl, el, e2⟩ => thn (po_none.run pins s2 σ H2 (fun o H3 => o = none ∧ H3 = H2) I2 ⟨rfl, rfl⟩) fun vu s3 ⟨u, H3, I3, pu, eu, e3⟩ =>
    thn (hst.run pins s3 σ H3 (fun o H4 => o = some (-1) ∧ H4 = H3) I3 ⟨1, rfl, -1, rfl, rfl, rfl⟩) fun vs s4 ⟨o, H4, I4, ps, eo, e4⟩ => ?_)
  subst el e2 eu e3 eo e4
  have I5 : Inv X pins σ H4 { s4 with heap := s4.heap.push { cls := .type "slice", data := .fields #[vl, vu, vs] } } := I4.kept (t' := s4.toks) fun b ob q => Heap.get?_push_of_some _ q
  cases pl
  cases pu
  cases ps

  show wpAny (model X.prog X.w) X.A (subscriptTail e (.Slice none none (some (.UnaryOp .USub (.Constant (.int 1) k p1) p2)) p3) (.str z tz) (.ref s4.heap.objs.size)) (EP X pins σ Q) X.xe _
  refine tail_any (ops := [.str z tz, .ref s4.heap.objs.size]) (typeIs_str _ z tz) F.slot_str_getitem.lookup ?_ (by with_unfolding_all rfl)
  refine wpAny_getItem_str_slice (l := none) (u := none) (st := some (-1, _)) ⟨_, Heap.get?_push_size _ rfl, rfl, rfl⟩ rfl ?_
  show Made.post (Made.str ⟨((Builtin.Str.strSliceIndices none none (-1) z.length).filterMap (z.cps[·]?)).toArray⟩) _ _
  rw [back_txt]
  refine ⟨?_, ?_⟩
  · show (z.cps.toList.reverse.toArray).size ≤ sizeLine
    rw [List.size_toArray, List.length_reverse, Array.length_toList]
    exact hzl
  · exact ⟨.str (revS z), H4, I5.kept (t' := _) fun b ob q => q, ⟨_, rfl⟩, q⟩
end
end Sh
set_option Elab.async false
set_option linter.all false
set_option maxRecDepth 100000
/-! text * number -/
namespace Sh
open PySem PySem.Spec PyProof.Rows L2
open SX (S S_inj S_len S_cat)
theorem fold_rep (a : List Nat) : ∀ (m : Nat) (acc : List Nat), (List.replicate m a.toArray).foldl (· ++ ·) acc.toArray = (acc ++ (List.replicate m a).flatten).toArray
  | 0, acc => by simp
  | m + 1, acc => by
    rw [List.replicate_succ, List.foldl_cons, List.replicate_succ, List.flatten_cons, ← List.append_assoc, ← fold_rep a m (acc ++ a)]
    congr 1
    simp
theorem mul_S (t : List Nat) (k : Nat) (hk : 1 ≤ k) : Txt.mul (S t) (k : Int) = S (List.replicate k t).flatten := by
  unfold Txt.mul
  rw [if_neg (by omega)]
  by_cases h : (((k : Int) == 1) || ((S t).length == 0)) = true
  · rw [if_pos h]
    rw [Bool.or_eq_true, beq_iff_eq, beq_iff_eq, S_len] at h
    rcases h with h | h
    · have : k = 1 := by omega
      subst this
      simp
    · have : t = [] := List.eq_nil_of_length_eq_zero h
      subst this
      congr 1
      simp
  · rw [if_neg h]
    show (⟨(List.replicate ((k : Int)).toNat t.toArray).foldl (· ++ ·) ([] : List Nat).toArray⟩ : Str) = _
    rw [Int.toNat_natCast, fold_rep, List.nil_append]
def rMulT : R2 := fun x y H Q => ∃ (t : List Nat) (k : Nat), x = .str (S t) ∧ y = .int (k : Nat) ∧ 1 ≤ k ∧ k ≤ 1000 ∧ t.length ≤ 1000 ∧ Q (.str (S (List.replicate k t).flatten)) H
theorem op_mulStr {X : Cx} : OpR X (binaryOp .Mult) rMulT := by
  intro pins s σ H x y v u Q I rx ry h
  obtain ⟨t, k, rfl, rfl, h1, h2, h3, q⟩ := h
  obtain ⟨t1, rfl⟩ := rx
  obtain ⟨t2, rfl⟩ := ry
  have hlen : (S t).length = t.length := S_len t
  have hm : t.length * k ≤ 1000000 := Nat.le_trans (Nat.mul_le_mul h3 h2) (by decide)
  refine SB.mul ⟨?_, fun _ _ => ?_, fun _ _ => ?_⟩ fun t' tk => ?_
  · rw [Bool.or_eq_false_iff]
    exact ⟨decide_eq_false (by omega), decide_eq_false (by omega)⟩
  · rw [hlen]
    intro z
    have h4 : (2 ^ 63 - 1 : Int) / (k : Int) ≥ 1000 := by
      rw [ge_iff_le, Int.le_ediv_iff_mul_le (by omega)]
      omega
    omega
  · rw [hlen, Int.toNat_natCast]
    exact decide_eq_false (by have : (1000000 : Nat) ≤ sizeLine := by decide
                              omega)
  · rw [mul_S t k h1]
    exact ⟨.str _, H, I.tok _, ⟨_, rfl⟩, q⟩
end Sh
set_option Elab.async false
set_option linter.all false
set_option maxRecDepth 100000
set_option maxHeartbeats 4000000
namespace Sh
open PySem PySem.Spec PyProof.Rows L2
open SX (S S_inj S_len S_cat)
open Bk (Rule left Wf Reach Step IsEnd keyLt Asc asc_uniq)
/-! a local that holds a def that may raise -/
def HeldX (P : Program) (w : World) (K : PySem.W.Frag) (mg : Str → Option Value) (base : Heap) (k : Nat) (f : Addr) (sp : Sp) : Prop := ∃ (fd : FuncData) (ps : List Str), FnOk P w K mg base (L2.CX P w) k f fd ps sp ∧ PySem.W.keepIn K (.ref f) = true ∧ Binds K fd ps []
theorem Cal.held {P : Program} {w : World} {K : PySem.W.Frag} {mg : Str → Option Value} {base : Heap} {k : Nat} {x : Str} {sp : Sp} (c : Cal P w K mg base (L2.CX P w) k x sp) : ∃ f, HeldX P w K mg base k f sp ∧ mg x = some (.ref f) := by
  obtain ⟨f, fd, ps, F, hm, kp, b⟩ := c.ex
  exact ⟨f, ⟨fd, ps, F, kp, b⟩, hm⟩
def tCallVX (i : Nat) (f : Addr) (sp : Sp) (W : WX) (t : TA) : TE := fun σ H Q => σ[i]? = some (some (.ref f)) ∧ t σ H fun vs H1 => sp vs H1 Q (WE W σ)
section
variable {X : Cx} {k j i : Nat} {f : Addr} {sp : Sp} {x : Str} {e : Expr} {es : List Expr} {t : TA} {p pos : Pos} {W : WX}
theorem pe_callVX (h : HeldX X.prog X.w X.K X.mg X.base k f sp) (hr : Room j X.A) (hk : k ≤ j) (tk : Takes X W) (hN : X.N[i]? = some x) (hv : Vis X.env.scope x) (ha : PA X (e :: es) t)
    (hd : (x == ("__debug__" : Str)) = false := by decide) (hcd : (x == ("__classdict__" : Str)) = false := by decide)
    (he : starEach (e :: es) X.env = (false, eval e X.env) :: starEach es X.env := by rfl) (hpl : (backTo pos (starEach es X.env)).any (·.1) = false := by rfl) : PE X (.Call (.Name x p) (e :: es) [] pos) (tCallVX i f sp W t) := by
  obtain ⟨fd, ps, F, kp, b⟩ := h
  refine ⟨fun pins s σ H Q I h => ?_⟩
  obtain ⟨hs, h⟩ := h
  refine wpAny_Call_Name_kw (thn ((pe_var (pos := p) (i := i) hN hv hd hcd).run pins s σ H (fun v H1 => v = .ref f ∧ H1 = H) I ⟨.ref f, hs, rfl, rfl⟩) fun u s1 ⟨v, H1, I1, r1, ev, eH⟩ => ?_)
  subst ev
  rw [eH] at I1
  cases r1
  refine PySem.W.callWith_K (h₀ := X.base) I.ok.mod.kin kp (thn (ha.run pos pins s1 σ H _ I1 h) fun us s2 ⟨vs, H2, I2, r, q⟩ => ⟨I2.kIn, ?_⟩) he hpl
  exact run_fnS F (hr.mono hk) b (passAt tk σ) I2 r q
theorem pe_or2 {e : Expr} {t1 t2 : TE} (h1 : PE X e t1) (h2 : PE X e t2) : PE X e (fun σ H Q => t1 σ H Q ∨ t2 σ H Q) := ⟨fun pins s σ H Q I h => h.elim (h1.run pins s σ H Q I) (h2.run pins s σ H Q I)⟩
end
theorem BookAt.but {K : PySem.W.Frag} {C : Addr} {sg : List Nat} {R : List Rule} {b p : Addr} {H H' : Hp} (h : BookAt K C H b sg R) (bb : But p H H') (z : Src H p) : BookAt K C H' b sg R := by
  obtain ⟨dx, fs, a, xs, pl, h1, h2, h3, h4, h5, h6, h7, h8⟩ := h
  obtain ⟨e0, e1, e2, e3⟩ := id z
  exact ⟨dx, fs, a, xs, pl, bb _ _ (ne_of h1 e3 (by intro w; cases w)) h1, h2, h3, h4.keep (Keep.but bb z), h5, h6.but bb z, h7, h8⟩
theorem menu_facts : ∀ sg ∈ sgMenu, 1 ≤ sg.length ∧ sg.length ≤ 3 ∧ isText sg [113] 0 200 = false := by decide +kernel
theorem lit_q : V.str (Str.ofString "q") = V.str (S [113]) := rfl
section
variable {P : Program} {w : World} {K : PySem.W.Frag} {mg : Str → Option Value} {base : Heap} {CB XT FT DT XM FM : Addr}
theorem blk_odd (T : TxtX P K mg CB XT FT DT XM FM) (f : Addr) (cdv : Value) (A : Around) (outer : List Env) (s : Shared) (H : Hp) (E : XK) (hr : Room 14 (A.deeper (envOfC "law" (defScope s_law) s.heap.objs.size f cdv))) (hgd : A.guards = some []) :
    ∃ t_, PSs (cxOf CX0 P w K mg base ["_law_script", "_law_source_here", "_law_signs_here", "_law_rules", "_law_book", "_law_turn", "_law_draws", "_law_text_here", "_law_due", "_law_told", "_law_bare", "_law_less", "_law_tall", "raised", "_law_odd", "_law_asked", "_law_rule_here", "_law_one"] "law" (defScope s_law) f cdv A outer s H E).nox ((defBody s_law).drop 6) t_ ∧
    ∀ (D : Ends) (H0 : Hp) (a p q x : Addr) (sg : List Nat) (R : List Rule) (v5 v6 v7 v8 v9 v10 v11 v12 v13 v14 v15 v16 v17 : Option V), sg ∈ sgMenu → BookAt K CB H0 x sg R → BookOk sg R → Src H0 p →
      (∀ H', D.rt (.bl true) H') →
      t_ D [some (.ref a), some (.ref p), some (.str (S sg)), some (.ref q), some (.ref x), v5, v6, v7, v8, v9, v10, v11, v12, v13, v14, v15, v16, v17] H0 := by
  have c__law_source := c__law_source (P := P) (w := w) (base := base) T.toTxtC.toTxt
  have c__law_signs := c__law_signs (P := P) (w := w) (base := base) T.toTxtC.toTxt
  have c__law_drawn := c__law_drawn (P := P) (w := w) (base := base) T.toTxtC.toTxt
  have c_Book := c_Book___init__ (P := P) (w := w) (base := base) T.toTxtC
  have c__law_text := c__law_text (P := P) (w := w) (base := base) T.toTxtC.toTxt
  have c__law_below := c__law_below (P := P) (w := w) (base := base) T.toTxtC.toTxt
  have c_X_shrinks := c_X_shrinks (P := P) (w := w) (base := base) T
  have c__law_pick := c__law_pick (P := P) (w := w) (base := base) T.toTxtC.toTxt
  have c_X_ends := c_X_ends (P := P) (w := w) (base := base) T
  have c__law_is_end := c__law_is_end (P := P) (w := w) (base := base) T.toTxtC.toTxt
  obtain ⟨f_shrinks, h_shrinks, m_shrinks⟩ := c_X_shrinks.held
  obtain ⟨f_ends, h_ends, m_ends⟩ := c_X_ends.held
  have hgd : (A.deeper (envOfC "law" (defScope s_law) s.heap.objs.size f cdv)).guards = some [] := hgd
  have hu := hu_of hr
  refine ⟨_, (pss_cons (ps_set (i := 14) sc_law.nd rfl (Or.inl rfl) (pe_ix ix_list (pe_lst (pa_cons pe_str (pa_cons pe_non (pa_cons (pe_op op_mulStr (pe_ix ix_str (pv 2) pe_int (fun _ _ => rfl)) pe_int) pa_nil)))) (pe_c c__law_pick hr (by decide) rfl (pa_cons (pv 1) (pa_cons pe_int pa_nil))) (fun _ _ => rfl)))
  (pss_cons (ps_for PassesOwn.never rfl (pi_list (pe_lst (pa_cons (pe_glob (v := .ref f_shrinks) rfl m_shrinks rfl) (pa_cons (pe_glob (v := .ref f_ends) rfl m_ends rfl) pa_nil)))) (pg_name (i := 15) sc_law.nd rfl (Or.inl rfl))
    (pss_one (ps_tryT rfl rfl sc_law.nd takes0 (fun W pn xe tk po => (pss_cons (ps_expr (pe_or2 (pe_callVX (i := 15) h_shrinks hr (by decide) tk rfl (by first | exact Or.inl rfl | exact Or.inr rfl) (pa_cons (pv 4) (pa_cons (pv 14) pa_nil))) (pe_callVX (i := 15) h_ends hr (by decide) tk rfl (by first | exact Or.inl rfl | exact Or.inr rfl) (pa_cons (pv 4) (pa_cons (pv 14) pa_nil)))))
      (pss_one (ps_ret pe_bl))))
      (HdsA.cons (i := 13) rfl rfl ⟨rfl, by decide, Or.inl T.e_BadText.mgC⟩ (fun a oe cls d pn hz hf => (pss_one (ps_if (pt_cmpR op_ne (pe_xf T.e_BadText.xf T.nf_BadText_thing hz hf (pv 13)) (pv 14) (nomark _))
        (pss_one (ps_ret pe_bl))
        pss_nil)))
      HdsA.nil))))
  (pss_one (ps_ret pe_bl)))), ?_⟩
  intro D H0 a p q x sg R v5 v6 v7 v8 v9 v10 v11 v12 v13 v14 v15 v16 v17 hsg BA hB hS kD
  obtain ⟨hl1, hl3, hqt⟩ := menu_facts sg hsg
  obtain ⟨c0, sg', rfl⟩ : ∃ c l, sg = c :: l := by
    cases sg with
    | nil => simp at hl1
    | cons c l => exact ⟨c, l, rfl⟩
  have hrep : (List.replicate 201 [c0]).flatten = List.replicate 201 c0 := by
    simp
  refine ⟨_, rfl, S (c0 :: sg'), 0, c0, rfl, rfl, sz_S (by omega), atI_nat (j := 0) rfl, [c0], 201, rfl, rfl, by decide, by decide, by show 1 ≤ 1000; decide, ?_⟩
  rw [hrep]
  refine ⟨by show 3 ≤ sizeLine; decide, fun p5 hp5 => ?_⟩
  have s1 := same_new (o := .lst [.str (Str.ofString "q"), .non, .str (S (List.replicate 201 c0))]) hp5
  have e1 : (upd H0 p5 (.lst [.str (Str.ofString "q"), .non, .str (S (List.replicate 201 c0))])) p5 = some (.lst [.str (Str.ofString "q"), .non, .str (S (List.replicate 201 c0))]) := upd_same
  have n5p : p5 ≠ p := by
    obtain ⟨d, e, c, z⟩ := hS
    exact (ne_of_none z hp5).symm
  have hS1 : Src (upd H0 p5 (.lst [.str (Str.ofString "q"), .non, .str (S (List.replicate 201 c0))])) p := by
    obtain ⟨d, e, c, z⟩ := hS
    exact ⟨d, e, c, s1 _ _ z⟩
  have BA1 := BA.same s1
  generalize upd H0 p5 (.lst [.str (Str.ofString "q"), .non, .str (S (List.replicate 201 c0))]) = H1 at s1 e1 hS1 BA1 ⊢
  refine ⟨_, rfl, p, 3, rfl, hS1, by decide, by decide, fun r H2 r0 r1 hS2 b2 => ?_⟩
  obtain ⟨v, hat, hbad, hsc⟩ : ∃ v, atI [V.str (Str.ofString "q"), .non, .str (S (List.replicate 201 c0))] r = some v ∧ (∀ H, (∃ t, v = .str (S t) ∧ t.length ≤ 1000000 ∧ isText (c0 :: sg') t 0 200 = false) ∨ NotStr K H v) ∧ scal v v = true := by
    have : r = 0 ∨ r = 1 ∨ r = 2 := by omega
    rcases this with rfl | rfl | rfl
    · exact ⟨_, rfl, fun H => .inl ⟨[113], lit_q, by decide, hqt⟩, rfl⟩
    · exact ⟨_, rfl, fun H => .inr ⟨"NoneType", .base .non, by decide, by decide⟩, rfl⟩
    · exact ⟨_, rfl, fun H => .inl ⟨List.replicate 201 c0, rfl, by rw [List.length_replicate]; decide, by unfold isText; simp⟩, rfl⟩
  refine ⟨p5, _, _, _, rfl, rfl, SqL.of (b2 _ _ n5p e1), hat, ?_⟩
  have BA2 := BA1.but b2 hS1
  clear e1 s1 b2 BA1 hS1 hat
  refine ⟨by show 2 ≤ sizeLine; decide, fun q5 hq5 => ?_⟩
  have s3 := same_new (o := .lst [.ref f_shrinks, .ref f_ends]) hq5
  have e3 : (upd H2 q5 (.lst [.ref f_shrinks, .ref f_ends])) q5 = some (.lst [.ref f_shrinks, .ref f_ends]) := upd_same
  have BA3 := BA2.same s3
  generalize upd H2 q5 (.lst [.ref f_shrinks, .ref f_ends]) = H3 at e3 BA3 ⊢
  clear s3 BA2
  refine ⟨q5, rfl, ⟨_, SqL.of e3⟩, ?_⟩
  refine for_lstR (K := K) (a := q5) (xs := [.ref f_shrinks, .ref f_ends]) (l := [false, true]) (Rel := fun _ v u => v = .ref (if u then f_ends else f_shrinks)) rfl (fun pre σ H6 => ∃ (w13 w15 : Option V), σ = [some (.ref a), some (.ref p), some (.str (S (c0 :: sg'))), some (.ref q), some (.ref x), v5, v6, v7, v8, v9, v10, v11, v12, w13, some v, w15, v16, v17] ∧ Same H3 H6) ⟨_, _, rfl, Same.refl H3⟩ (fun pre σ H6 ⟨_, _, _, s6⟩ => ⟨SqL.of (s6 _ _ e3), fun i y z h1 h2 => ?_⟩) ?_ ?_
  · match i, h1, h2 with
    | 0, h1, h2 => cases h1; cases h2; rfl
    | 1, h1, h2 => cases h1; cases h2; rfl
  · rintro pre u post y σ H6 _ _ rfl ⟨w13, w15, rfl, s6⟩
    unfold tTry
    have BA6 := BA3.same s6
    have fin : ∀ (dd : Addr), H6 dd = none → Same H3 (upd H6 dd (.xd [("thing", v)])) := fun dd hdd => s6.trans (same_new hdd)
    cases u with
    | false =>
      refine .inl ⟨rfl, _, rfl, _, rfl, ?_⟩
      refine tNil_mk ?_
      refine ⟨x, c0 :: sg', R, v, rfl, BA6, hB, .inr ⟨hbad H6, fun dd hdd => ⟨true, T.mm_BadText_BadText, fun _ a0 ha0 => ?_, fun zz => (by cases zz)⟩⟩⟩
      dsimp only [outA]
      refine ⟨_, rfl, rfl, rfl, dd, _, _, rfl, upd_same, lk1, ?_⟩
      refine ⟨_, rfl, hsc, ?_⟩
      rw [decide_eq_true rfl]
      refine ⟨_, rfl, ?_⟩
      refine iteF ?_
      exact ⟨_, _, rfl, fin dd hdd⟩
    | true =>
      refine .inr ⟨rfl, _, rfl, _, rfl, ?_⟩
      refine tNil_mk ?_
      refine ⟨x, c0 :: sg', R, v, rfl, BA6, hB, .inr ⟨hbad H6, fun dd hdd => ⟨true, T.mm_BadText_BadText, fun _ a0 ha0 => ?_, fun zz => (by cases zz)⟩⟩⟩
      dsimp only [outA]
      refine ⟨_, rfl, rfl, rfl, dd, _, _, rfl, upd_same, lk1, ?_⟩
      refine ⟨_, rfl, hsc, ?_⟩
      rw [decide_eq_true rfl]
      refine ⟨_, rfl, ?_⟩
      refine iteF ?_
      exact ⟨_, _, rfl, fin dd hdd⟩
  · rintro σ H6 ⟨w13, w15, rfl, s6⟩
    exact kD _
end
end Sh
set_option Elab.async false
set_option linter.all false
namespace Sh
open PySem PySem.Spec PyProof.Rows L2
open SX (S S_inj S_len S_cat)
open Bk (Rule Wf Step Reach IsEnd)
/-! what is below a text of two signs by turns, by the rules that drop a sign -/
def R0 : List Rule := [([97], []), ([98], [])]
def alt (c d : Nat) : Nat → List Nat
  | 0 => []
  | m + 1 => c :: alt d c m
def ds (c d : Nat) : Nat → List (List Nat)
  | 0 => [[]]
  | 1 => [[], [c]]
  | m + 2 => [] :: ((ds d c (m + 1)).map (fun u => c :: u) ++ (ds c d m).map fun u => d :: u)
def dn : Nat → Nat
  | 0 => 1
  | 1 => 2
  | m + 2 => dn (m + 1) + dn m + 1
theorem ds_len : ∀ (m c d : Nat), (ds c d m).length = dn m
  | 0, _, _ => rfl
  | 1, _, _ => rfl
  | m + 2, c, d => by
    show ([] :: ((ds d c (m + 1)).map (fun u => c :: u) ++ (ds c d m).map fun u => d :: u)).length = dn (m + 1) + dn m + 1
    rw [List.length_cons, List.length_append, List.length_map, List.length_map, ds_len (m + 1) d c, ds_len m c d]
theorem ds_nodup : ∀ (m c d : Nat), c ≠ d → (ds c d m).Nodup
  | 0, _, _, _ => by simp [ds]
  | 1, _, _, _ => by simp [ds]
  | m + 2, c, d, h => by
    show ([] :: ((ds d c (m + 1)).map (fun u => c :: u) ++ (ds c d m).map fun u => d :: u)).Nodup
    rw [List.nodup_cons, List.nodup_append]
    refine ⟨fun z => ?_, ?_, ?_, fun a ha b hb e => ?_⟩
    · rcases List.mem_append.mp z with z | z
      · obtain ⟨u, _, e⟩ := List.mem_map.mp z
        cases e
      · obtain ⟨u, _, e⟩ := List.mem_map.mp z
        cases e
    · exact List.Pairwise.map _ (fun a b n e => n (List.cons.inj e).2) (ds_nodup (m + 1) d c h.symm)
    · exact List.Pairwise.map _ (fun a b n e => n (List.cons.inj e).2) (ds_nodup m c d h)
    · obtain ⟨u, _, rfl⟩ := List.mem_map.mp ha
      obtain ⟨v, _, rfl⟩ := List.mem_map.mp hb
      exact h (List.cons.inj e).1
theorem alt_mem : ∀ (m c d e : Nat), e ∈ alt c d m → e = c ∨ e = d
  | 0, _, _, _, h => by cases h
  | m + 1, c, d, e, h => by
    rcases List.mem_cons.mp h with h | h
    · exact .inl h
    · exact (alt_mem m d c e h).symm
theorem ds_iff : ∀ (m c d : Nat), c ≠ d → ∀ u, u ∈ ds c d m ↔ u.Sublist (alt c d m)
  | 0, c, d, h, u => by
    show u ∈ [[]] ↔ u.Sublist []
    rw [List.mem_singleton, List.sublist_nil]
  | 1, c, d, h, u => by
    show u ∈ [[], [c]] ↔ u.Sublist [c]
    constructor
    · intro z
      rcases List.mem_cons.mp z with rfl | z
      · exact List.nil_sublist _
      · rw [List.mem_singleton] at z
        rw [z]
        exact List.Sublist.refl _
    · intro z
      cases z with
      | cons _ z => rw [List.sublist_nil.mp z]; simp
      | cons_cons _ z => rw [List.sublist_nil.mp z]; simp
  | m + 2, c, d, h, u => by
    show u ∈ [] :: ((ds d c (m + 1)).map (fun u => c :: u) ++ (ds c d m).map fun u => d :: u) ↔ u.Sublist (c :: alt d c (m + 1))
    constructor
    · intro z
      rcases List.mem_cons.mp z with rfl | z
      · exact List.nil_sublist _
      rcases List.mem_append.mp z with z | z
      · obtain ⟨v, hv, rfl⟩ := List.mem_map.mp z
        exact ((ds_iff (m + 1) d c h.symm v).mp hv).cons_cons c
      · obtain ⟨v, hv, rfl⟩ := List.mem_map.mp z
        refine List.Sublist.cons c ?_
        show (d :: v).Sublist (d :: alt c d m)
        exact ((ds_iff m c d h v).mp hv).cons_cons d
    · intro z
      cases u with
      | nil => simp
      | cons e v =>
        refine List.mem_cons_of_mem _ (List.mem_append.mpr ?_)
        by_cases hc : e = c
        · subst hc
          exact .inl (List.mem_map.mpr ⟨v, (ds_iff (m + 1) d e h.symm v).mpr (List.cons_sublist_cons.mp z), rfl⟩)
        · have z1 : (e :: v).Sublist (alt d c (m + 1)) := by
            cases z with
            | cons _ z => exact z
            | cons_cons _ z => exact absurd rfl hc
          by_cases hd : e = d
          · subst hd
            exact .inr (List.mem_map.mpr ⟨v, (ds_iff m c e h v).mpr (List.cons_sublist_cons.mp z1), rfl⟩)
          · have := alt_mem (m + 1) d c e (z1.subset List.mem_cons_self)
            rcases this with r | r
            · exact absurd r hd
            · exact absurd r hc
theorem sub_reach {R : List Rule} {t u : List Nat} (hw : ∀ r ∈ R, r.2 = []) (s : Reach R t u) : u.Sublist t := by
  induction s with
  | refl => exact List.Sublist.refl _
  | step s _ ih =>
    refine ih.trans ?_
    cases s with
    | mk x y r hr =>
      rw [hw r hr, List.append_nil]
      exact List.Sublist.append (List.sublist_append_left _ _) (List.Sublist.refl _)
theorem reach_sub {R : List Rule} {t u : List Nat} (s : u.Sublist t) : (∀ c ∈ t, ([c], []) ∈ R) → Reach R t u := by
  induction s with
  | slnil => exact fun _ => .refl _
  | @cons l1 l2 a s ih =>
    intro h
    have := Step.mk (R := R) [] l2 ([a], []) (h a List.mem_cons_self)
    exact .step this (ih fun c hc => h c (List.mem_cons_of_mem _ hc))
  | cons_cons a s ih =>
    intro h
    have := (ih fun c hc => h c (List.mem_cons_of_mem _ hc)).ctx [a] []
    simpa using this
theorem R0_drop : ∀ r ∈ R0, r.2 = [] := by decide
theorem R0_has {m : Nat} : ∀ c ∈ alt 97 98 m, ([c], []) ∈ R0 := fun c hc => by
  rcases alt_mem m 97 98 c hc with rfl | rfl <;> decide
theorem R0_reach {m : Nat} {u : List Nat} : Reach R0 (alt 97 98 m) u ↔ u ∈ ds 97 98 m := by
  rw [ds_iff m 97 98 (by decide)]
  exact ⟨sub_reach R0_drop, fun h => reach_sub h R0_has⟩
theorem R0_few {m : Nat} {L : List (List Nat)} (nd : L.Nodup) (h : ∀ u ∈ L, Reach R0 (alt 97 98 m) u) : L.length ≤ dn m := by
  rw [← ds_len m 97 98]
  exact nodup_le L _ nd fun u hu => R0_reach.mp (h u hu)
theorem R0_many {m : Nat} {L : List (List Nat)} (h : Bel R0 (alt 97 98 m) L) : dn m ≤ L.length := by
  rw [← ds_len m 97 98]
  exact nodup_le _ L (ds_nodup m 97 98 (by decide)) fun u hu => (h.mem u).mpr (R0_reach.mpr hu)
theorem dn_14 : dn 14 ≤ 2000 := by decide +kernel
theorem dn_16 : 2000 < dn 16 := by decide +kernel
theorem R0_end {m : Nat} {u : List Nat} (h : Reach R0 (alt 97 98 m) u) (e : IsEnd R0 u) : u = [] := by
  cases u with
  | nil => rfl
  | cons c v =>
    have hc : ([c], []) ∈ R0 := R0_has c ((sub_reach R0_drop h).subset List.mem_cons_self)
    exact absurd (Step.mk (R := R0) [] v ([c], []) hc) (e _)
theorem nil_end : IsEnd R0 [] := by
  intro v s
  generalize ht : ([] : List Nat) = t at s
  cases s with
  | mk x y r hr =>
    have h1 : 1 ≤ r.1.length := (show ∀ r ∈ R0, 1 ≤ r.1.length by decide) r hr
    have := congrArg List.length ht
    simp only [List.length_append, List.length_nil] at this
    omega
theorem nil_reach {m : Nat} : Reach R0 (alt 97 98 m) [] := reach_sub (List.nil_sublist _) R0_has
/-- its ends -/
theorem R0_ends {m : Nat} {L M : List (List Nat)} (hL : Bel R0 (alt 97 98 m) L) (nd : M.Nodup) (h : ∀ u, u ∈ M ↔ u ∈ L ∧ IsEnd R0 u) : M = [[]] := by
  have h0 : [] ∈ M := (h []).mpr ⟨(hL.mem _).mpr nil_reach, nil_end⟩
  have h1 : ∀ u ∈ M, u = [] := fun u hu => R0_end ((hL.mem u).mp ((h u).mp hu).1) ((h u).mp hu).2
  match M, nd, h0, h1 with
  | [], _, h0, _ => cases h0
  | [x], _, _, h1 => rw [h1 x (by simp)]
  | x :: y :: l, nd, _, h1 =>
    rw [h1 x (by simp), h1 y (by simp)] at nd
    simp at nd
theorem asc_nodup {M : List (List Nat)} (h : Bk.Asc M) : M.Nodup := h.imp fun {a b} q e => by rw [e, Bk.keyLt_irrefl] at q; cases q
theorem rep7 : (List.replicate 7 [97, 98]).flatten = alt 97 98 14 := by decide +kernel
theorem rep8 : (List.replicate 8 [97, 98]).flatten = alt 97 98 16 := by decide +kernel
end Sh
set_option Elab.async false
set_option linter.all false
set_option maxRecDepth 100000
set_option maxHeartbeats 4000000
namespace Sh
open PySem PySem.Spec PyProof.Rows L2
open SX (S S_inj S_len S_cat)
open Bk (Rule left Wf Reach Step IsEnd keyLt Asc asc_uniq)
theorem R0_ok : BookOk [97, 98] R0 := ⟨by decide +kernel, by decide, fun r hr => by
  rcases List.mem_cons.mp hr with rfl | hr
  · exact ⟨by decide, by decide, by decide, by decide, by decide, by decide⟩
  · rw [List.mem_singleton] at hr
    rw [hr]
    exact ⟨by decide, by decide, by decide, by decide, by decide, by decide⟩, by decide⟩
theorem lit_a : V.str (Str.ofString "a") = V.str (S [97]) := rfl
theorem lit_b : V.str (Str.ofString "b") = V.str (S [98]) := rfl
theorem lit_e : V.str (Str.ofString "") = V.str (S []) := rfl
theorem lit_ab : V.str (Str.ofString "ab") = V.str (S [97, 98]) := rfl
theorem isText_alt {m : Nat} (h : m ≤ 200) : isText [97, 98] (alt 97 98 m) 0 200 = true := by
  have hl : ∀ (m c d : Nat), (alt c d m).length = m := fun m => by
    induction m with
    | zero => intro c d; rfl
    | succ m ih => intro c d; show (alt d c m).length + 1 = m + 1; rw [ih]
  unfold isText
  simp only [hl, Bool.and_eq_true, decide_eq_true_eq, List.all_eq_true]
  refine ⟨⟨by omega, by omega⟩, fun c hc => ?_⟩
  rcases alt_mem m 97 98 c hc with rfl | rfl <;> decide
section
variable {P : Program} {w : World} {K : PySem.W.Frag} {mg : Str → Option Value} {base : Heap} {CB XT FT DT XM FM : Addr}
theorem blk_tall (T : TxtX P K mg CB XT FT DT XM FM) (f : Addr) (cdv : Value) (A : Around) (outer : List Env) (s : Shared) (H : Hp) (E : XK) (hr : Room 14 (A.deeper (envOfC "law" (defScope s_law) s.heap.objs.size f cdv))) (hgd : A.guards = some []) :
    ∃ t_, PSs (cxOf CX0 P w K mg base ["_law_script", "_law_source_here", "_law_signs_here", "_law_rules", "_law_book", "_law_turn", "_law_draws", "_law_text_here", "_law_due", "_law_told", "_law_bare", "_law_less", "_law_tall", "raised", "_law_odd", "_law_asked", "_law_rule_here", "_law_one"] "law" (defScope s_law) f cdv A outer s H E).nox ((defBody s_law).drop 5) t_ ∧
    ∀ (D : Ends) (H0 : Hp) (a p q x : Addr) (sg : List Nat) (R : List Rule) (v5 v6 v7 v8 v9 v10 v11 v12 v13 v14 v15 v16 v17 : Option V), sg ∈ sgMenu → BookAt K CB H0 x sg R → BookOk sg R → Src H0 p →
      (∀ H', D.rt (.bl true) H') →
      t_ D [some (.ref a), some (.ref p), some (.str (S sg)), some (.ref q), some (.ref x), v5, v6, v7, v8, v9, v10, v11, v12, v13, v14, v15, v16, v17] H0 := by
  have c__law_source := c__law_source (P := P) (w := w) (base := base) T.toTxtC.toTxt
  have c__law_signs := c__law_signs (P := P) (w := w) (base := base) T.toTxtC.toTxt
  have c__law_drawn := c__law_drawn (P := P) (w := w) (base := base) T.toTxtC.toTxt
  have c_Book := c_Book___init__ (P := P) (w := w) (base := base) T.toTxtC
  have c__law_text := c__law_text (P := P) (w := w) (base := base) T.toTxtC.toTxt
  have c__law_below := c__law_below (P := P) (w := w) (base := base) T.toTxtC.toTxt
  have c_X_shrinks := c_X_shrinks (P := P) (w := w) (base := base) T
  have c__law_pick := c__law_pick (P := P) (w := w) (base := base) T.toTxtC.toTxt
  have c_X_ends := c_X_ends (P := P) (w := w) (base := base) T
  have c__law_is_end := c__law_is_end (P := P) (w := w) (base := base) T.toTxtC.toTxt
  obtain ⟨tb_odd, hb_odd, kb_odd⟩ := blk_odd (P := P) (w := w) (base := base) T f cdv A outer s H E hr hgd
  obtain ⟨f_shrinks, h_shrinks, m_shrinks⟩ := c_X_shrinks.held
  obtain ⟨f_ends, h_ends, m_ends⟩ := c_X_ends.held
  have hgd : (A.deeper (envOfC "law" (defScope s_law) s.heap.objs.size f cdv)).guards = some [] := hgd
  have hu := hu_of hr
  refine ⟨_, (pss_cons (ps_if (pt_cmpR op_eq (pe_c c__law_pick hr (by decide) rfl (pa_cons (pv 1) (pa_cons pe_int pa_nil))) pe_int (nomark _))
    (pss_cons (ps_set (i := 12) sc_law.nd rfl (Or.inl rfl) (pe_mkC T.k_Book c_Book hr (by decide) rfl (pa_cons pe_str (pa_cons (pe_tup (pa_cons (pe_tup (pa_cons pe_str (pa_cons pe_str pa_nil))) (pa_cons (pe_tup (pa_cons pe_str (pa_cons pe_str pa_nil))) pa_nil))) pa_nil))))
    (pss_cons (ps_if (pt_cmpR op_ne (pe_callB (call_reprD hgd hr.units) (by rfl) T.b_repr (by decide +kernel) (pa_cons (pe_cXn c_X_ends hr (by decide) rfl (pa_cons (pv 12) (pa_cons (pe_op op_mulStr pe_str pe_int) pa_nil))) pa_nil)) (pe_callB (call_reprD hgd hr.units) (by rfl) T.b_repr (by decide +kernel) (pa_cons (pe_tup (pa_cons pe_str pa_nil)) pa_nil)) (nomark _))
      (pss_one (ps_ret pe_bl))
      pss_nil)
    (pss_one (ps_tryT rfl rfl sc_law.nd takes0 (fun W pn xe tk po => (pss_cons (ps_expr (pe_cX c_X_ends hr (by decide) tk rfl (pa_cons (pv 12) (pa_cons (pe_op op_mulStr pe_str pe_int) pa_nil))))
      (pss_one (ps_ret pe_bl))))
      (HdsA.cons (i := 13) rfl rfl ⟨rfl, by decide, Or.inl T.e_TooMany.mgC⟩ (fun a oe cls d pn hz hf => (pss_one (ps_ret (pe_cmpR op_eq (pe_xf T.e_TooMany.xf T.nf_TooMany_word hz hf (pv 13)) pe_str (nomark _)))))
      HdsA.nil)))))
    pss_nil)
  hb_odd), ?_⟩
  intro D H0 a p q x sg R v5 v6 v7 v8 v9 v10 v11 v12 v13 v14 v15 v16 v17 hsg BA hB hS kD
  refine ⟨_, rfl, p, 60, rfl, hS, by decide, by decide, fun n H1 n0 n1 hS1 b1 => ?_⟩
  have BA1 := BA.but b1 hS
  refine ⟨rfl, _, rfl, ?_⟩
  by_cases hn : V.int n = V.int 0
  · rw [decide_eq_true hn]
    refine iteT ?_
    refine ⟨by show 2 ≤ sizeLine; decide, fun t1 ht1 => ?_⟩
    have s2 := same_new (o := .tup [.str (Str.ofString "a"), .str (Str.ofString "")]) ht1
    have e2 : (upd H1 t1 (.tup [.str (Str.ofString "a"), .str (Str.ofString "")])) t1 = some (.tup [.str (Str.ofString "a"), .str (Str.ofString "")]) := upd_same
    generalize upd H1 t1 (.tup [.str (Str.ofString "a"), .str (Str.ofString "")]) = H2 at s2 e2 ⊢
    refine ⟨by show 2 ≤ sizeLine; decide, fun t2 ht2 => ?_⟩
    have s3 := same_new (o := .tup [.str (Str.ofString "b"), .str (Str.ofString "")]) ht2
    have e3 : (upd H2 t2 (.tup [.str (Str.ofString "b"), .str (Str.ofString "")])) t2 = some (.tup [.str (Str.ofString "b"), .str (Str.ofString "")]) := upd_same
    generalize upd H2 t2 (.tup [.str (Str.ofString "b"), .str (Str.ofString "")]) = H3 at s3 e3 ⊢
    refine ⟨by show 2 ≤ sizeLine; decide, fun t3 ht3 => ?_⟩
    have s4 := same_new (o := .tup [.ref t1, .ref t2]) ht3
    have e4 : (upd H3 t3 (.tup [.ref t1, .ref t2])) t3 = some (.tup [.ref t1, .ref t2]) := upd_same
    generalize upd H3 t3 (.tup [.ref t1, .ref t2]) = H4 at s4 e4 ⊢
    have hRA : RulesA K H4 t3 [.ref t1, .ref t2] R0 := ⟨.inr (SqT.of e4), rfl, fun i y r h1 h2 => by
      match i, h1, h2 with
      | 0, h1, h2 => cases h1; cases h2; exact ⟨t1, rfl, .inr (SqT.of ((s3.trans s4) _ _ e2))⟩
      | 1, h1, h2 => cases h1; cases h2; exact ⟨t2, rfl, .inr (SqT.of (s4 _ _ e3))⟩⟩
    intro y dy ny ndy ney
    have s6 : Same H4 (upd (upd H4 dy (.own y)) y (.ins CB dy [])) := fun b o e => by
      rw [upd_ne (ne_of_none e ny), upd_ne (ne_of_none e ndy)]
      exact e
    refine ⟨y, dy, t3, [97, 98], _, R0, rfl, upd_same, hRA.same s6, R0_ok, fun H7 BA7 b7 => ⟨rfl, ?_⟩⟩
    clear hRA s6 b7 ney ndy ny e4 s4 ht3 e3 s3 ht2 e2 s2 ht1
    refine ⟨_, rfl, [97, 98], 7, rfl, rfl, by decide, by decide, by decide, ?_⟩
    rw [rep7]
    refine tNil_mk ?_
    refine ⟨y, [97, 98], R0, _, rfl, BA7, R0_ok, .inl ⟨_, rfl, isText_alt (by decide), by decide +kernel, fun L nd hL hb => ?_, fun L hL hl M z H8 hA hM hMl hz s8 => ?_⟩⟩
    · have := R0_few nd hL
      have := dn_14
      omega
    have hM1 := R0_ends hL (asc_nodup hA) hM
    rw [hM1] at hz
    have shw : Shw (.tuple [.str (S [])]) 1 20 := (Shw.tup (m := 2) (k := 0) fun d hd => by
      rw [List.mem_singleton] at hd
      rw [hd]
      exact Shw.str (u := []) fun c hc => by cases hc).mono (by decide) (by decide)
    have so := shw.ok (by decide) (by decide)
    refine tNil_mk ?_
    refine ⟨.ref z, .tuple [.str (S [])], rfl, .tup (SqT.of hz) (.cons (.str _) .nil), so.1, so.2.1, so.2.2.1, so.2.2.2, ?_⟩
    refine ⟨by show 1 ≤ sizeLine; decide, fun z2 hz2 => ?_⟩
    refine tNil_mk ?_
    refine ⟨.ref z2, .tuple [.str (S [])], rfl, .tup (SqT.of upd_same) (.cons (.str _) .nil), so.1, so.2.1, so.2.2.1, so.2.2.2, ?_⟩
    refine ⟨rfl, _, rfl, ?_⟩
    rw [decide_eq_true rfl]
    refine iteF ?_
    have BA9 := (BA7.same s8).same (same_new (o := .tup [.str (Str.ofString "")]) hz2)
    generalize upd H8 z2 (.tup [.str (Str.ofString "")]) = H9 at BA9 ⊢
    unfold tTry
    refine ⟨_, rfl, [97, 98], 8, rfl, rfl, by decide, by decide, by decide, ?_⟩
    rw [rep8]
    refine tNil_mk ?_
    refine ⟨y, [97, 98], R0, _, rfl, BA9, R0_ok, .inl ⟨_, rfl, isText_alt (by decide), by decide +kernel, fun L nd hL hb H10 s10 dd hdd => ⟨true, T.mm_TooMany_TooMany, fun _ a0 ha0 => ?_, fun zz => (by cases zz)⟩, fun L hL hl => ?_⟩⟩
    · dsimp only [outA]
      refine ⟨_, rfl, rfl, rfl, dd, _, _, rfl, upd_same, lk1, ?_⟩
      refine ⟨rfl, ?_⟩
      rw [decide_eq_true rfl]
      exact kD _
    · have := R0_many hL
      have := dn_16
      omega
  · rw [decide_eq_false hn]
    refine iteF ?_
    exact kb_odd D H1 a p q x sg R v5 v6 v7 v8 v9 v10 v11 v12 v13 v14 v15 v16 v17 hsg BA1 hB hS1 kD
end
end Sh
set_option Elab.async false
set_option linter.all false
set_option maxRecDepth 100000
/-! name = {k: v for ..} on one line, the name a local of the def and not of the comprehension -/
namespace L2
open PySem PySem.Spec PyProof.Rows
section
variable {X : Cx}
theorem ps_setDc {i : Nat} {y : Str} {py : Pos} {kx vx tg iter : Expr} {ifs : List Expr} {scope : Scope} {own : List (Str × Nat)} {pos spos : Pos} {wi : TI} {g : TG} {tt : TT} {tk tv : TE} (hc : X.calm = true) (hN : X.N.Nodup) (hy : X.N[i]? = some y) (hyl : X.env.scope.names.lookup y = some .local)
    (hsw : swapsWith (.DictComp kx vx [⟨tg, iter, ifs, 0⟩] scope pos) (some (.Name y py)) spos.line X.env = pure true) (hi : PI X tg iter wi) (ok : BlkOk X.N X.env.scope scope own)
    (hg : ∀ (s : Shared) (H : Hp) (C : Addr) (cl : List (Str × Addr)) (fp : List Addr), PG (X.blk s H scope (compEnvC scope cl C X.env) fp) tg g) (ht : ∀ (s : Shared) (H : Hp) (C : Addr) (cl : List (Str × Addr)) (fp : List Addr), PTs (X.blk s H scope (compEnvC scope cl C X.env) fp) ifs tt)
    (hk : ∀ (s : Shared) (H : Hp) (C : Addr) (cl : List (Str × Addr)) (fp : List Addr), PE (X.blk s H scope (compEnvC scope cl C X.env) fp) kx tk)
    (he : ∀ (s : Shared) (H : Hp) (C : Addr) (cl : List (Str × Addr)) (fp : List Addr), PE (X.blk s H scope (compEnvC scope cl C X.env) fp) vx tv) (hs : ∀ x, foldedSetIterable iter X.env x = pure x := by intro _; rfl) :
    PS X (.Assign [.Name y py] (.DictComp kx vx [⟨tg, iter, ifs, 0⟩] scope pos) spos) (tAsg (tDc wi g tt tk tv (own.map (·.2))) (gName i)) := by
  refine ⟨fun pins s σ H D I h => ?_⟩
  rw [exec_Assign_Name_used _ _ _ _ hsw]
  refine wpAny_bind (wpAny_standAt (wpAny_bind ?_))
  show wpAny _ X.A (do let _ ← comprehension (.DictComp kx vx [⟨tg, iter, ifs, 0⟩] scope pos) scope X.env (firstIterPos [⟨tg, iter, ifs, 0⟩] pos) newDict false (eval iter X.env) (some (assign (.Name y py) X.env))) _ _ s
  have h : tDc wi g tt tk tv (own.map (·.2)) σ H (fun x H1 => gName i x σ H1 D.nx) := h
  refine wpAny_bind (thn (dc_core (Qf := fun _ s' => SP X pins D .next s') hc hN I hi ok hg ht hk he hs h fun L C s' m H' I' q hn f => ?_) fun _ s' hq => wpAny_pure (wpAny_pure hq))
  show wpAny _ _ (assign (.Name y py) X.env (.ref L)) _ _ _
  refine wpAny_assign_Name (store_ok2 (v := V.ref L) I' hN hy (.inl hyl) rfl (fun s2 I2 ⟨a, sb, ha⟩ => ?_) (.inr hyl))
  obtain ⟨f0, f1, f2, f3, f4, f5⟩ := f
  have haC : C ≠ a := by
    rcases ha with z | z
    · rw [z]; exact f1
    · exact fun e => f4 y a z e.symm
  refine ⟨m, hn.sameBut sb haC, fun h3 sb3 => ?_⟩
  exact ⟨_, H', I2.turned (t' := s2.toks) (fun b o hb e => (sb3.2 b hb).trans e) f0 f1 f3 f4 f5, q⟩
/-- a tuple of targets within a comprehension -/
theorem pg_tupB {s : Shared} {H : Hp} {sc : Scope} {ce : Env} {fp : List Addr} {es : List Expr} {k : Nat} {pos : Pos} {t : TGs} {n : Nat} (hc : X.calm = true) (h : PGs (X.blk s H sc ce fp) es t)
    (hn : (assignEach es (X.blk s H sc ce fp).env).length = n := by rfl) (hst : (assignEach es (X.blk s H sc ce fp).env).findIdx? (·.1) = none := by rfl) : PG (X.blk s H sc ce fp) (.Tuple es k pos) (gTup X.K n t) := pg_tup (X := X.blk s H sc ce fp) hc h hn hst
theorem op_in_seqB {s : Shared} {H : Hp} {sc : Scope} {ce : Env} {fp : List Addr} : OpR (X.blk s H sc ce fp) (compareOp .In) (rIn X.K false) := op_in_seq (X := X.blk s H sc ce fp)
theorem sw_trueD {kx vx : Expr} {gs : List Comprehension} {scope : Scope} {pos py : Pos} {y : Str} {l : Nat} {env : Env} (hk : env.scope.kind = .function) (hy : env.scope.names.lookup y = some .local) (hl : (py.line == pos.line) = true)
    (ha : (scope.names.any fun (n, k) => n == y && (k == .local || k == .cell)) = false) : swapsWith (.DictComp kx vx gs scope pos) (some (.Name y py)) l env = pure true := by
  have ky : env.kindOf y = some .local := hy
  have hb : env.blockKind = .function := by unfold Env.blockKind; rw [hk]; rfl
  unfold swapsWith
  simp only [hb, ky, ha, Expr.pos, hl]
  rfl
end
end L2
set_option Elab.async false
set_option linter.all false
set_option maxRecDepth 100000
set_option maxHeartbeats 4000000
namespace Sh
open PySem PySem.Spec PyProof.Rows L2
open SX (S S_inj S_len S_cat)
open Bk (Rule left Wf Reach Step IsEnd keyLt Asc asc_uniq)
local macro_rules | `(tactic| walk_at "nx") => `(tactic| repeat (with_reducible first | refine Sh.gn_mk ?_ | refine Sh.nx_mk ?_ | refine Sh.st_nx ?_ | refine Sh.rt_mk ?_ | refine Sh.ct_mk ?_ | refine Sh.bk_mk ?_))
local macro_rules | `(tactic| walk_at "sq") => `(tactic| first | exact SqL.of upd_same | exact SqT.of upd_same | exact SqL.of (by assumption) | exact SqT.of (by assumption) | assumption | exact Or.inl (SqL.of (by assumption)) | exact Or.inr (SqT.of (by assumption)) | exact Or.inl (by assumption) | exact Or.inr (by assumption))
local macro_rules | `(tactic| walk_at "hp") => `(tactic| first | exact upd_same | assumption)
local macro_rules | `(tactic| walk_at "sz") => `(tactic| first | exact Nat.le_of_ble_eq_true rfl | omega)
local macro_rules | `(tactic| walk_at "sd") => `(tactic| first | omega | exact rfl | assumption | (show (0 : Int) < _; omega) | exact And.intro (by omega) (by omega) | exact Or.inl (And.intro (by omega) (by omega)) | exact Or.inr (And.intro (by omega) (by omega)) | omega | exact Sh.sz_S (by omega) | decide)
local macro_rules | `(tactic| walk_at "rd1") => `(tactic| first
  | (with_reducible first | refine Sh.gn_mk ?_ | refine Sh.nx_mk ?_ | refine Sh.st_nx ?_ | refine Sh.rt_mk ?_ | refine Sh.ct_mk ?_ | refine Sh.bk_mk ?_)
  | refine Exists.intro (α := V) _ (And.intro rfl ?_)
  | refine Exists.intro (α := Bool) _ (And.intro rfl ?_)
  | refine Exists.intro (α := Int) _ (And.intro rfl ?_)
  | refine Exists.intro (α := PySem.Str) _ (And.intro rfl ?_)
  | refine Exists.intro (α := Int) _ (Exists.intro (α := Int) _ (And.intro rfl (And.intro rfl ?_)))
  | refine Exists.intro (α := PySem.Str) _ (Exists.intro (α := PySem.Str) _ (And.intro rfl (And.intro rfl ?_)))
  | refine Exists.intro (α := Int) _ (Exists.intro (α := Int) _ (And.intro rfl ?_))
  | refine Or.inl (Exists.intro (α := Int) _ (And.intro rfl ?_))
  | refine Exists.intro _ (Exists.intro _ (Exists.intro _ (Exists.intro _ (And.intro rfl (And.intro rfl (And.intro (by walk_at "sq") (And.intro rfl ?_)))))))
  | refine Exists.intro _ (Exists.intro _ (Exists.intro _ (Exists.intro _ (And.intro rfl (And.intro rfl (And.intro (by walk_at "hp") (And.intro rfl ?_)))))))
  | refine And.intro (by walk_at "sd") ?_
  )
local macro_rules | `(tactic| walk_at "rd") => `(tactic| repeat walk_at "rd1")
local macro_rules | `(tactic| walk_at "lk") => `(tactic| first | exact rfl | (rw [lookup_putF, if_pos rfl]) | (rw [lookup_putF, if_neg (by decide +kernel)]; walk_at "lk"))

theorem But.toSame {p : Addr} {H H' : Hp} (b : But p H H') (n : H p = none) : Same H H' := fun c o e => b c o (ne_of_none e n) e
theorem lst_ne {M : List (List Nat)} {d e c : Int} : (HO.lst (M.map fun u => V.str (S u)) : HO) ≠ .lst [.int d, .int e, .int c] := by
  intro w
  have := HO.lst.inj w
  cases M with
  | nil => cases this
  | cons u M => cases (List.cons.inj this).1
theorem allT {α : Type} (l : List α) : ((l.map fun _ => true).all id) = true := by
  rw [List.all_map, List.all_eq_true]
  exact fun _ _ => rfl
theorem reach_in {sg : List Nat} {R : List Rule} (h : ∀ r ∈ R, RuleOk sg 4 r) {t u : List Nat} (s : Reach R t u) : (∀ c ∈ t, c ∈ sg) → ∀ c ∈ u, c ∈ sg := by
  induction s with
  | refl => exact id
  | step x _ ih =>
    intro ht
    refine ih ?_
    cases x with
    | mk x y r hr =>
      intro c hc
      rcases List.mem_append.mp hc with z | z
      · rcases List.mem_append.mp z with z | z
        · exact ht c (List.mem_append_left _ (List.mem_append_left _ z))
        · exact (h r hr).2.2.2.1 c z
      · exact ht c (List.mem_append_right _ z)
theorem isText_ok {sg t : List Nat} (h : t.length ≤ 200) (hc : ∀ c ∈ t, c ∈ sg) : isText sg t 0 200 = true := by
  unfold isText
  simp only [Bool.and_eq_true, decide_eq_true_eq, List.all_eq_true]
  exact ⟨⟨by omega, by omega⟩, hc⟩
theorem inV_S {M : List (List Nat)} {u : List Nat} (h : u ∈ M) : inV (.str (S u)) (M.map fun u => V.str (S u)) = true := by
  unfold inV
  rw [List.any_eq_true]
  refine ⟨_, List.mem_map.mpr ⟨u, h, rfl⟩, ?_⟩
  simp [eqV]
theorem flat_S (M : List (List Nat)) : (M.map fun u => V.str (S u)).all flatV = true := by
  rw [List.all_eq_true]
  intro v hv
  obtain ⟨u, _, rfl⟩ := List.mem_map.mp hv
  rfl
def txD (M : List (List Nat)) : List PyData := M.map fun u => PyData.str (S u)
theorem dpAll_tx {K : PySem.W.Frag} {H : Hp} : ∀ M : List (List Nat), DpAll K H (M.map fun u => V.str (S u)) (txD M)
  | [] => .nil
  | u :: M => .cons (.str _) (dpAll_tx M)
theorem shw_tx {M : List (List Nat)} (hl : M.length ≤ 4000) (h : ∀ u ∈ M, u.length ≤ 60 ∧ ∀ c ∈ u, c < 1114112) : Shw (.tuple (txD M)) 1 16777216 := by
  have := Shw.tup (ds := txD M) (k := 0) (m := 602) fun d hd => by
    obtain ⟨u, hu, rfl⟩ := List.mem_map.mp hd
    exact (Shw.str (h u hu).2).mono (Nat.le_refl _) (by have := (h u hu).1; omega)
  refine this.mono (Nat.le_refl _) ?_
  have e : (txD M).length = M.length := List.length_map _
  rw [e]
  omega
section
variable {P : Program} {w : World} {K : PySem.W.Frag} {mg : Str → Option Value} {base : Heap} {CB XT FT DT XM FM : Addr}
theorem blk_turns (T : TxtX P K mg CB XT FT DT XM FM) (f : Addr) (cdv : Value) (A : Around) (outer : List Env) (s : Shared) (H : Hp) (E : XK) (hr : Room 14 (A.deeper (envOfC "law" (defScope s_law) s.heap.objs.size f cdv))) (hgd : A.guards = some []) :
    ∃ t_, PSs (cxOf CX0 P w K mg base ["_law_script", "_law_source_here", "_law_signs_here", "_law_rules", "_law_book", "_law_turn", "_law_draws", "_law_text_here", "_law_due", "_law_told", "_law_bare", "_law_less", "_law_tall", "raised", "_law_odd", "_law_asked", "_law_rule_here", "_law_one"] "law" (defScope s_law) f cdv A outer s H E).nox ((defBody s_law).drop 4) t_ ∧
    ∀ (D : Ends) (H0 : Hp) (a p q x : Addr) (sg : List Nat) (R : List Rule) (xs : List V) (ns : List Int) (v5 v6 v7 v8 v9 v10 v11 v12 v13 v14 v15 v16 v17 : Option V), SqL K H0 a (ns.map V.int) → (∀ z ∈ ns, Builtin.Int.intBits z ≤ 1048576) → ns.length ≤ 63 →
      sg ∈ sgMenu → RulesAt K H0 q xs R → BookAt K CB H0 x sg R → BookOk sg R → Src H0 p →
      (∀ H', D.rt (.bl true) H') →
      t_ D [some (.ref a), some (.ref p), some (.str (S sg)), some (.ref q), some (.ref x), v5, v6, v7, v8, v9, v10, v11, v12, v13, v14, v15, v16, v17] H0 := by
  have c__law_source := c__law_source (P := P) (w := w) (base := base) T.toTxtC.toTxt
  have c__law_signs := c__law_signs (P := P) (w := w) (base := base) T.toTxtC.toTxt
  have c__law_drawn := c__law_drawn (P := P) (w := w) (base := base) T.toTxtC.toTxt
  have c_Book := c_Book___init__ (P := P) (w := w) (base := base) T.toTxtC
  have c__law_text := c__law_text (P := P) (w := w) (base := base) T.toTxtC.toTxt
  have c__law_below := c__law_below (P := P) (w := w) (base := base) T.toTxtC.toTxt
  have c_X_shrinks := c_X_shrinks (P := P) (w := w) (base := base) T
  have c__law_pick := c__law_pick (P := P) (w := w) (base := base) T.toTxtC.toTxt
  have c_X_ends := c_X_ends (P := P) (w := w) (base := base) T
  have c__law_is_end := c__law_is_end (P := P) (w := w) (base := base) T.toTxtC.toTxt
  obtain ⟨tb_tall, hb_tall, kb_tall⟩ := blk_tall (P := P) (w := w) (base := base) T f cdv A outer s H E hr hgd
  obtain ⟨f_shrinks, h_shrinks, m_shrinks⟩ := c_X_shrinks.held
  obtain ⟨f_ends, h_ends, m_ends⟩ := c_X_ends.held
  have hgd : (A.deeper (envOfC "law" (defScope s_law) s.heap.objs.size f cdv)).guards = some [] := hgd
  have hu := hu_of hr
  refine ⟨_, (pss_cons (ps_for PassesOwn.never rfl (pi_range1 (by rfl) T.b_range (pa_cons pe_int pa_nil)) (pg_name (i := 5) sc_law.nd rfl (Or.inl rfl))
    (pss_cons (ps_set (i := 6) sc_law.nd rfl (Or.inl rfl) (pe_c c__law_source hr (by decide) rfl (pa_cons (pv 0) (pa_cons (pe_op op_add (pv 5) pe_int) pa_nil))))
    (pss_cons (ps_set (i := 7) sc_law.nd rfl (Or.inl rfl) (pe_c c__law_text hr (by decide) rfl (pa_cons (pv 6) (pa_cons (pv 2) (pa_cons pe_int pa_nil)))))
    (pss_cons (ps_set (i := 8) sc_law.nd rfl (Or.inl rfl) (pe_c c__law_below hr (by decide) rfl (pa_cons (pv 3) (pa_cons (pv 7) pa_nil))))
    (pss_cons (ps_set (i := 9) sc_law.nd rfl (Or.inr rfl) (pe_cXn c_X_shrinks hr (by decide) rfl (pa_cons (pv 4) (pa_cons (pv 7) pa_nil))))
    (pss_cons (ps_setLc (i := 10) (own := [("_law_one", 17)]) (g := gName 17) (by rfl) sc_law.nd rfl rfl (sw_true rfl rfl rfl (by decide +kernel)) (pi_list (pv 8)) (blkOk_by (N := ["_law_script", "_law_source_here", "_law_signs_here", "_law_rules", "_law_book", "_law_turn", "_law_draws", "_law_text_here", "_law_due", "_law_told", "_law_bare", "_law_less", "_law_tall", "raised", "_law_odd", "_law_asked", "_law_rule_here", "_law_one"]) (sc := defScope s_law) (by decide +kernel)) (fun _ _ _ _ _ => (pg_name (i := 17) sc_law.nd rfl (Or.inl rfl))) (fun _ _ _ _ _ => (pts_one (pt_val (pe_c c__law_is_end hr (by decide) rfl (pa_cons (pv 3) (pa_cons (pv 17) pa_nil)))))) (fun _ _ _ _ _ => (pv 17)))
    (pss_cons (ps_if (PW.pt (pw_or (pt_cmpR op_ne (pe_callB (call_reprD hgd hr.units) (by rfl) T.b_repr (by decide +kernel) (pa_cons (pv 9) pa_nil)) (pe_callB (call_reprD hgd hr.units) (by rfl) T.b_repr (by decide +kernel) (pa_cons (pe_callTy call_tuple_of (by rfl) T.b_tuple (by decide +kernel) (pa_cons (pv 8) pa_nil)) pa_nil)) (nomark _)) (pw_or (pt_cmpR op_ne (pe_callB (call_reprD hgd hr.units) (by rfl) T.b_repr (by decide +kernel) (pa_cons (pe_cXn c_X_ends hr (by decide) rfl (pa_cons (pv 4) (pa_cons (pv 7) pa_nil))) pa_nil)) (pe_callB (call_reprD hgd hr.units) (by rfl) T.b_repr (by decide +kernel) (pa_cons (pe_callTy call_tuple_of (by rfl) T.b_tuple (by decide +kernel) (pa_cons (pv 10) pa_nil)) pa_nil)) (nomark _)) (pw_or1 (pt_not (pt_truth (pv 10) (by intro _; rfl)))))))
      (pss_one (ps_ret pe_bl))
      pss_nil)
    (pss_cons (ps_set (i := 11) sc_law.nd rfl (Or.inl rfl) (pe_ix ix_list (pv 8) (pe_c c__law_pick hr (by decide) rfl (pa_cons (pv 6) (pa_cons (pe_callB call_len_seq (by rfl) T.b_len (by decide +kernel) (pa_cons (pv 8) pa_nil)) pa_nil))) (fun _ _ => rfl)))
    (pss_one (ps_if (pt_not (pt_val (pe_callB (cr_all rfl) (by rfl) T.b_all (by decide +kernel) (pa_cons (pe_lc (own := [("_law_one", 17)]) (g := gName 17) (tt := tYes) rfl sc_law.nd (pi_tup (pe_cXn c_X_shrinks hr (by decide) rfl (pa_cons (pv 4) (pa_cons (pv 11) pa_nil)))) (blkOk_by (N := ["_law_script", "_law_source_here", "_law_signs_here", "_law_rules", "_law_book", "_law_turn", "_law_draws", "_law_text_here", "_law_due", "_law_told", "_law_bare", "_law_less", "_law_tall", "raised", "_law_odd", "_law_asked", "_law_rule_here", "_law_one"]) (sc := defScope s_law) (by decide +kernel)) (fun _ _ _ _ _ => (pg_name (i := 17) sc_law.nd rfl (Or.inl rfl))) (fun _ _ _ _ _ => pts_nil) (fun _ _ _ _ _ => (pe_cmpR op_in_seqB (pv 17) (pv 9) (by rfl)))) pa_nil))))
      (pss_one (ps_ret pe_bl))
      pss_nil))))))))))
  hb_tall), ?_⟩
  intro D H0 a p q x sg R xs ns v5 v6 v7 v8 v9 v10 v11 v12 v13 v14 v15 v16 v17 hS hbits hlen hsg hR BA hB hSp kD
  have hw := hB.wf
  obtain ⟨hs1, hs3, _⟩ := menu_facts sg hsg
  have hch := signs_chars hB.1
  refine ⟨_, rfl, by decide, by decide, ?_⟩
  refine for_range (lo := 0) (n := _) (fun i σ H8 => ∃ (v5 v6 v7 v8 v9 v10 v11 v17 : Option V), σ = [some (.ref a), some (.ref p), some (.str (S sg)), some (.ref q), some (.ref x), v5, v6, v7, v8, v9, v10, v11, v12, v13, v14, v15, v16, v17] ∧ Same H0 H8)
    ⟨_, _, _, _, _, _, _, _, rfl, Same.refl H0⟩ ?_ ?_
  · rintro i σ H8 hi ⟨v5, v6, v7, v8, v9, v10, v11, v17, rfl, s8⟩
    rw [Int.zero_add]
    have hi3 : i < 3 := hi
    have hR8 := hR.same s8
    have BA8 := BA.same s8
    walk_at "nx"
    refine ⟨_, rfl, _, rfl, _, _, rfl, rfl, ?_⟩
    refine tNil_mk ?_
    refine ⟨a, ns, (i : Nat) + 1, rfl, s8.seq hS, hbits, hlen, by omega, by omega, fun pd H9 hpd s9 hs9 => ?_⟩
    walk_at "nx"
    refine ⟨_, rfl, _, rfl, ?_⟩
    refine ⟨pd, sg, 7, rfl, hs9, by omega, by omega, by decide, by decide, fun t H10 ht hc hS10 b10 => ?_⟩
    have s810 : Same H8 H10 := ((But.same s9).trans b10).toSame hpd
    have ht7 : t.length ≤ 7 := by omega
    have few : ∀ {t : List Nat}, t.length ≤ 7 → (∀ c ∈ t, c ∈ sg) → ∀ L : List (List Nat), L.Nodup → (∀ u ∈ L, Reach R t u) → L.length ≤ 1094 := fun h1 h2 L nd h => few_below hw hs3 h1 (fun s => reach_in hB.2.2.1 s h2) nd h
    have hR10 := hR8.same s810
    have BA10 := BA8.same s810
    have ends0 := Bk.left_end hw t
    have reach0 := Bk.left_reach (R := R) t
    walk_at "nx"
    refine ⟨_, rfl, _, rfl, ?_⟩
    refine tNil_mk ?_
    refine ⟨q, xs, R, t, rfl, hR10, hw, hB.2.1, fun r hr => (hB.2.2.1 r hr).2.1, by omega, fun L nd h => by have := few ht7 hc L nd h; omega, fun M qd H11 hA hM hMl hqd s11 => ?_⟩
    have hM7 : ∀ u ∈ M, u.length ≤ 7 := fun u hu => by
      rcases reach_short hw ((hM u).mp hu) with rfl | h <;> omega
    have hMc : ∀ u ∈ M, ∀ c ∈ u, c ∈ sg := fun u hu => reach_in hB.2.2.1 ((hM u).mp hu) hc
    have hshw : ∀ N : List (List Nat), N.length ≤ 4000 → (∀ u ∈ N, u ∈ M) → Shw (.tuple (txD N)) 1 16777216 := fun N hl h => shw_tx hl fun u hu => ⟨by have := hM7 u (h u hu); omega, fun c hc => hch c (hMc u (h u hu) c hc)⟩
    walk_at "nx"
    refine ⟨_, rfl, _, rfl, ?_⟩
    refine tNil_mk ?_
    refine ⟨x, sg, R, _, rfl, BA10.same s11, hB, .inl ⟨t, rfl, isText_ok (by omega) hc, by omega, fun L nd h hb => by have := few ht7 hc L nd h; omega, fun L hL hl M2 qt H12 hA2 hM2 hM2l hqt s12 => ?_⟩⟩
    obtain rfl : M2 = M := asc_uniq hA2 hA fun u => (hM2 u).trans ((hL.mem u).trans (hM u).symm)
    clear hM2 hM2l hA2
    have hqd12 := s12 _ _ hqd
    have BA12 := (BA10.same s11).same s12
    have hR12 := (hR10.same s11).same s12
    have s1012 := s11.trans s12
    walk_at "nx"
    refine ⟨_, rfl, qd, rfl, ⟨_, SqL.of hqd12⟩, fun Dl hD => lc_lstR (K := K) (a := qd) (xs := M2.map fun u => V.str (S u)) (l := M2) (Rel := fun _ v u => v = V.str (S u)) (by rw [List.length_map]) (fun pre H2 => ∃ N : List (List Nat), H2 Dl = some (.lst (N.map fun u => V.str (S u))) ∧ (∀ u, u ∈ N ↔ u ∈ pre ∧ IsEnd R u) ∧ N.Sublist pre ∧ Same H12 H2) ⟨[], upd_same, fun u => by simp, List.Sublist.refl _, same_new hD⟩
        (fun pre H2 ⟨_, _, _, _, s2⟩ => ⟨SqL.of (s2 _ _ hqd12), fun i x u h4 h5 => by
          rw [List.getElem?_map, h5] at h4
          exact (Option.some.inj h4).symm⟩) ?_ ?_⟩
    · rintro pre u post y H2 eM _ rfl ⟨N, h2, hN, hNs, s2⟩
      have hu7 : u.length ≤ 7 := hM7 u (by rw [eM]; simp)
      have hpl : pre.length + 1 ≤ 2000 := by
        have := congrArg List.length eM
        rw [List.length_append, List.length_cons] at this
        omega
      refine ⟨rfl, ?_⟩
      refine ⟨_, rfl, _, rfl, ?_⟩
      refine tNil_mk ?_
      refine ⟨q, xs, R, u, rfl, hR12.same s2, hB.2.1, by omega, fun b H3 hb s3 => ?_⟩
      refine ⟨b, rfl, ?_⟩
      cases b with
      | true =>
        refine iteT ?_
        have he := hb.mp rfl
        refine ⟨_, rfl, _, s3 _ _ h2, by rw [List.length_map]; exact Nat.lt_of_le_of_lt (m := 2000) (by have := hNs.length_le; omega) (by decide), ⟨N ++ [u], ?_, fun v => ?_, hNs.append (List.Sublist.refl _), same_mut (s2.trans s3) hD⟩⟩
        · rw [upd_same, List.map_append]
          rfl
        · simp only [List.mem_append, List.mem_singleton, hN]
          constructor
          · rintro (⟨h, h'⟩ | rfl)
            · exact ⟨.inl h, h'⟩
            · exact ⟨.inr rfl, he⟩
          · rintro ⟨h | h, h'⟩
            · exact .inl ⟨h, h'⟩
            · exact .inr h
      | false =>
        refine iteF ?_
        refine ⟨N, s3 _ _ h2, fun v => ?_, hNs.trans (List.sublist_append_left _ _), s2.trans s3⟩
        rw [hN]
        simp only [List.mem_append, List.mem_singleton]
        constructor
        · rintro ⟨h, h'⟩
          exact ⟨.inl h, h'⟩
        · rintro ⟨h | rfl, h'⟩
          · exact ⟨h, h'⟩
          · exact absurd (hb.mpr h') Bool.false_ne_true
    rintro H13 ⟨N, hN13, hN, hNs, s13⟩
    have hAN : Asc N := hA.sublist hNs
    have hNl := hNs.length_le
    have hqd13 := s13 _ _ hqd12
    have hqt13 := s13 _ _ hqt
    have BA13 := BA12.same s13
    walk_at "nx"
    have sM := (hshw M2 (by omega) fun u h => h).ok (by decide) (by decide)
    have sN := (hshw N (by omega) fun u h => hNs.subset h).ok (by decide) (by decide)
    refine ⟨_, rfl, ?_⟩
    refine tNil_mk ?_
    refine ⟨.ref qt, .tuple (txD M2), rfl, .tup (SqT.of hqt13) (dpAll_tx M2), sM.1, sM.2.1, sM.2.2.1, sM.2.2.2, ?_⟩
    refine ⟨_, rfl, ?_⟩
    refine tNil_mk ?_
    refine ⟨qd, _, rfl, .inl ⟨SqL.of hqd13, fun l1 hl1 => ?_⟩⟩
    refine tNil_mk ?_
    refine ⟨.ref l1, .tuple (txD M2), rfl, .tup (SqT.of upd_same) (dpAll_tx M2), sM.1, sM.2.1, sM.2.2.1, sM.2.2.2, ?_⟩
    refine ⟨rfl, _, rfl, ?_⟩
    rw [decide_eq_true rfl]
    refine iteF ?_
    have s14 := same_new (o := .tup (M2.map fun u => V.str (S u))) hl1
    generalize upd H13 l1 (.tup (M2.map fun u => V.str (S u))) = H14 at s14 ⊢
    refine ⟨_, rfl, _, rfl, ?_⟩
    refine tNil_mk ?_
    refine ⟨x, sg, R, _, rfl, BA13.same s14, hB, .inl ⟨t, rfl, isText_ok (by omega) hc, by omega, fun L nd h hb => by have := few ht7 hc L nd h; omega, fun L2 hL2 hl2 M3 qe H15 hA3 hM3 hM3l hqe s15 => ?_⟩⟩
    obtain rfl : M3 = N := asc_uniq hA3 hAN fun u => (hM3 u).trans ((and_congr_left' ((hL2.mem u).trans (hM u).symm)).trans (hN u).symm)
    refine tNil_mk ?_
    refine ⟨.ref qe, .tuple (txD M3), rfl, .tup (SqT.of hqe) (dpAll_tx M3), sN.1, sN.2.1, sN.2.2.1, sN.2.2.2, ?_⟩
    have hN15 := (s14.trans s15) _ _ hN13
    refine ⟨_, rfl, ?_⟩
    refine tNil_mk ?_
    refine ⟨Dl, _, rfl, .inl ⟨SqL.of hN15, fun l2 hl2 => ?_⟩⟩
    refine tNil_mk ?_
    refine ⟨.ref l2, .tuple (txD M3), rfl, .tup (SqT.of upd_same) (dpAll_tx M3), sN.1, sN.2.1, sN.2.2.1, sN.2.2.2, ?_⟩
    refine ⟨rfl, _, rfl, ?_⟩
    rw [decide_eq_true rfl]
    refine iteF ?_
    have s16 := same_new (o := .tup (M3.map fun u => V.str (S u))) hl2
    generalize upd H15 l2 (.tup (M3.map fun u => V.str (S u))) = H16 at s16 ⊢
    have s1316 := s14.trans (s15.trans s16)
    have hmem0 : left R t ∈ M3 := (hN _).mpr ⟨(hM _).mpr reach0, ends0⟩
    refine ⟨_, rfl, true, .inl ⟨_, SqL.of (s1316 _ _ hN13), by cases M3 with | nil => cases hmem0 | cons u M => rfl⟩, ?_⟩
    refine iteF ?_
    have hqd16 := s1316 _ _ hqd13
    have hqt16 := s1316 _ _ hqt13
    have s816 := s810.trans (s1012.trans (s13.trans s1316))
    have hS16 : Src H16 pd := by
      obtain ⟨d, e, c, z⟩ := hS10
      exact ⟨d, e, c, (s1012.trans (s13.trans s1316)) _ _ z⟩
    have hMpos : 0 < M2.length := List.length_pos_of_mem (hNs.subset hmem0)
    walk_at "nx"
    refine ⟨_, rfl, _, rfl, _, rfl, ?_⟩
    refine tNil_mk ?_
    refine ⟨qd, _, rfl, .inl (SqL.of hqd16), ?_⟩
    refine tNil_mk ?_
    refine ⟨pd, _, rfl, hS16, by rw [List.length_map]; omega, by rw [List.length_map]; omega, fun r H17 r0 r1 hS17 b17 => ?_⟩
    rw [List.length_map] at r1
    obtain ⟨d16, e16, c16, z16⟩ := id hS16
    have hqd17 := b17 _ _ (ne_of hqd16 z16 lst_ne) hqd16
    have hqt17 := b17 _ _ (ne_of hqt16 z16 (by intro w; cases w)) hqt16
    have s817 : Same H8 H17 := ((But.same s816).trans b17).toSame hpd
    have BA17 := BA8.same s817
    obtain ⟨k, rfl⟩ : ∃ k : Nat, r = k := ⟨r.toNat, by omega⟩
    have hk : k < M2.length := by omega
    have hu : M2[k] ∈ M2 := List.getElem_mem hk
    have hget : (M2.map fun u => V.str (S u))[k]? = some (V.str (S M2[k])) := by rw [List.getElem?_map, List.getElem?_eq_getElem hk]; rfl
    generalize M2[k] = u at hu hget
    refine ⟨qd, _, _, _, rfl, rfl, SqL.of hqd17, atI_nat hget, ?_⟩
    have hu7 := hM7 u hu
    have huc := hMc u hu
    walk_at "nx"
    refine ⟨_, rfl, _, rfl, ?_⟩
    refine tNil_mk ?_
    refine ⟨x, sg, R, _, rfl, BA17, hB, .inl ⟨u, rfl, isText_ok (by omega) huc, by omega, fun L nd h hb => by have := few hu7 huc L nd h; omega, fun L3 hL3 hl3 M4 q4 H18 hA4 hM4 hM4l hq4 s18 => ?_⟩⟩
    have hqt18 := s18 _ _ hqt17
    refine ⟨q4, rfl, ⟨_, SqT.of hq4⟩, fun D2 hD2 => lc_tupR (K := K) (a := q4) (xs := M4.map fun u => V.str (S u)) (l := M4) (Rel := fun _ v u => v = V.str (S u)) (by rw [List.length_map]) (fun pre H2 => H2 D2 = some (.lst ((pre.map fun _ => true).map V.bl)) ∧ Same H18 H2) ⟨upd_same, same_new hD2⟩
        (fun pre H2 ⟨_, s2⟩ => ⟨SqT.of (s2 _ _ hq4), fun i x u h4 h5 => by
          rw [List.getElem?_map, h5] at h4
          exact (Option.some.inj h4).symm⟩) ?_ ?_⟩
    · rintro pre z post y H2 eM _ rfl ⟨h2, s2⟩
      have hpl : pre.length + 1 ≤ 4000 := by
        have := congrArg List.length eM
        rw [List.length_append, List.length_cons] at this
        omega
      have hzM : z ∈ M2 := (hM z).mpr (((hM u).mp hu).trans ((hL3.mem z).mp ((hM4 z).mp (by rw [eM]; simp))))
      refine ⟨rfl, ty_T ?_⟩
      refine ⟨_, rfl, _, rfl, qt, _, rfl, .inr (SqT.of (s2 _ _ hqt18)), rfl, flat_S _, ?_⟩
      rw [if_neg Bool.false_ne_true, inV_S hzM]
      refine ⟨_, h2, ?_, ?_, same_mut s2 hD2⟩
      · rw [List.length_map, List.length_map]
        exact Nat.lt_of_le_of_lt (m := 4000) (by omega) (by decide)
      · rw [upd_same, List.map_append, List.map_append]
        rfl
    · rintro H19 ⟨h19, s19⟩
      refine tNil_mk ?_
      refine ⟨D2, _, rfl, SqL.of h19, ?_⟩
      rw [allT]
      refine ⟨_, rfl, ?_⟩
      refine iteF ?_
      exact ⟨_, _, _, _, _, _, _, _, rfl, s8.trans (s817.trans (s18.trans s19))⟩
  · rintro σ H8 ⟨v5, v6, v7, v8, v9, v10, v11, v17, rfl, s8⟩
    exact kb_tall D H8 a p q x sg R v5 v6 v7 v8 v9 v10 v11 v12 v13 v14 v15 v16 v17 hsg (BA.same s8) hB (by obtain ⟨d, e, c, z⟩ := hSp; exact ⟨d, e, c, s8 _ _ z⟩) kD
end
end Sh
set_option Elab.async false
set_option linter.all false
set_option maxRecDepth 100000
set_option maxHeartbeats 4000000
namespace Sh
open PySem PySem.Spec PyProof.Rows L2
open SX (S S_inj S_len S_cat)
open Bk (Rule left Wf Reach Step IsEnd keyLt Asc asc_uniq)
local macro_rules | `(tactic| walk_at "nx") => `(tactic| repeat (with_reducible first | refine Sh.gn_mk ?_ | refine Sh.nx_mk ?_ | refine Sh.st_nx ?_ | refine Sh.rt_mk ?_ | refine Sh.ct_mk ?_ | refine Sh.bk_mk ?_))
local macro_rules | `(tactic| walk_at "sq") => `(tactic| first | exact SqL.of upd_same | exact SqT.of upd_same | exact SqL.of (by assumption) | exact SqT.of (by assumption) | assumption | exact Or.inl (SqL.of (by assumption)) | exact Or.inr (SqT.of (by assumption)) | exact Or.inl (by assumption) | exact Or.inr (by assumption))
local macro_rules | `(tactic| walk_at "hp") => `(tactic| first | exact upd_same | assumption)
local macro_rules | `(tactic| walk_at "sz") => `(tactic| first | exact Nat.le_of_ble_eq_true rfl | omega)
local macro_rules | `(tactic| walk_at "sd") => `(tactic| first | omega | exact rfl | assumption | (show (0 : Int) < _; omega) | exact And.intro (by omega) (by omega) | exact Or.inl (And.intro (by omega) (by omega)) | exact Or.inr (And.intro (by omega) (by omega)) | omega | exact Sh.sz_S (by omega) | decide)
local macro_rules | `(tactic| walk_at "rd1") => `(tactic| first
  | (with_reducible first | refine Sh.gn_mk ?_ | refine Sh.nx_mk ?_ | refine Sh.st_nx ?_ | refine Sh.rt_mk ?_ | refine Sh.ct_mk ?_ | refine Sh.bk_mk ?_)
  | refine Exists.intro (α := V) _ (And.intro rfl ?_)
  | refine Exists.intro (α := Bool) _ (And.intro rfl ?_)
  | refine Exists.intro (α := Int) _ (And.intro rfl ?_)
  | refine Exists.intro (α := PySem.Str) _ (And.intro rfl ?_)
  | refine Exists.intro (α := Int) _ (Exists.intro (α := Int) _ (And.intro rfl (And.intro rfl ?_)))
  | refine Exists.intro (α := PySem.Str) _ (Exists.intro (α := PySem.Str) _ (And.intro rfl (And.intro rfl ?_)))
  | refine Exists.intro (α := Int) _ (Exists.intro (α := Int) _ (And.intro rfl ?_))
  | refine Or.inl (Exists.intro (α := Int) _ (And.intro rfl ?_))
  | refine Exists.intro _ (Exists.intro _ (Exists.intro _ (Exists.intro _ (And.intro rfl (And.intro rfl (And.intro (by walk_at "sq") (And.intro rfl ?_)))))))
  | refine Exists.intro _ (Exists.intro _ (Exists.intro _ (Exists.intro _ (And.intro rfl (And.intro rfl (And.intro (by walk_at "hp") (And.intro rfl ?_)))))))
  | refine And.intro (by walk_at "sd") ?_
  )
local macro_rules | `(tactic| walk_at "rd") => `(tactic| repeat walk_at "rd1")
local macro_rules | `(tactic| walk_at "lk") => `(tactic| first | exact rfl | (rw [lookup_putF, if_pos rfl]) | (rw [lookup_putF, if_neg (by decide +kernel)]; walk_at "lk"))

section
variable {P : Program} {w : World} {K : PySem.W.Frag} {mg : Str → Option Value} {base : Heap} {CB XT FT DT XM FM : Addr}
theorem law_body (T : TxtX P K mg CB XT FT DT XM FM) (f : Addr) (cdv : Value) (A : Around) (outer : List Env) (s : Shared) (H : Hp) (E : XK) (hr : Room 14 (A.deeper (envOfC "law" (defScope s_law) s.heap.objs.size f cdv))) (hgd : A.guards = some [])
    (a : Addr) (ns : List Int) (hS : SqL K H a (ns.map V.int)) (hbits : ∀ z ∈ ns, Builtin.Int.intBits z ≤ 1048576) (hlen : ns.length ≤ 63) :
    ∃ t, PSs (cxOf CX0 P w K mg base ["_law_script", "_law_source_here", "_law_signs_here", "_law_rules", "_law_book", "_law_turn", "_law_draws", "_law_text_here", "_law_due", "_law_told", "_law_bare", "_law_less", "_law_tall", "raised", "_law_odd", "_law_asked", "_law_rule_here", "_law_one"] "law" (defScope s_law) f cdv A outer s H E).nox (defBody s_law) t ∧
      t { nx := fun _ _ => V.non = V.bl true, rt := fun v _ => v = .bl true } (start ["_law_script", "_law_source_here", "_law_signs_here", "_law_rules", "_law_book", "_law_turn", "_law_draws", "_law_text_here", "_law_due", "_law_told", "_law_bare", "_law_less", "_law_tall", "raised", "_law_odd", "_law_asked", "_law_rule_here", "_law_one"] [.ref a]) H := by
  have c__law_source := c__law_source (P := P) (w := w) (base := base) T.toTxtC.toTxt
  have c__law_signs := c__law_signs (P := P) (w := w) (base := base) T.toTxtC.toTxt
  have c__law_drawn := c__law_drawn (P := P) (w := w) (base := base) T.toTxtC.toTxt
  have c_Book := c_Book___init__ (P := P) (w := w) (base := base) T.toTxtC
  have c__law_text := c__law_text (P := P) (w := w) (base := base) T.toTxtC.toTxt
  have c__law_below := c__law_below (P := P) (w := w) (base := base) T.toTxtC.toTxt
  have c_X_shrinks := c_X_shrinks (P := P) (w := w) (base := base) T
  have c__law_pick := c__law_pick (P := P) (w := w) (base := base) T.toTxtC.toTxt
  have c_X_ends := c_X_ends (P := P) (w := w) (base := base) T
  have c__law_is_end := c__law_is_end (P := P) (w := w) (base := base) T.toTxtC.toTxt
  obtain ⟨tb_turns, hb_turns, kb_turns⟩ := blk_turns (P := P) (w := w) (base := base) T f cdv A outer s H E hr hgd
  have hgd : (A.deeper (envOfC "law" (defScope s_law) s.heap.objs.size f cdv)).guards = some [] := hgd
  have hu := hu_of hr
  refine ⟨_, (pss_cons (ps_set (i := 1) sc_law.nd rfl (Or.inl rfl) (pe_c c__law_source hr (by decide) rfl (pa_cons (pv 0) (pa_cons pe_int pa_nil))))
  (pss_cons (ps_set (i := 2) sc_law.nd rfl (Or.inl rfl) (pe_c c__law_signs hr (by decide) rfl (pa_cons (pv 1) pa_nil)))
  (pss_cons (ps_set (i := 3) sc_law.nd rfl (Or.inr rfl) (pe_c c__law_drawn hr (by decide) rfl (pa_cons (pv 1) (pa_cons (pv 2) pa_nil))))
  (pss_cons (ps_set (i := 4) sc_law.nd rfl (Or.inl rfl) (pe_mkC T.k_Book c_Book hr (by decide) rfl (pa_cons (pv 2) (pa_cons (pe_lc (own := [("_law_rule_here", 16)]) (g := gName 16) (tt := tYes) rfl sc_law.nd (pi_tup (pv 3)) (blkOk_by (N := ["_law_script", "_law_source_here", "_law_signs_here", "_law_rules", "_law_book", "_law_turn", "_law_draws", "_law_text_here", "_law_due", "_law_told", "_law_bare", "_law_less", "_law_tall", "raised", "_law_odd", "_law_asked", "_law_rule_here", "_law_one"]) (sc := defScope s_law) (by decide +kernel)) (fun _ _ _ _ _ => (pg_name (i := 16) sc_law.nd rfl (Or.inl rfl))) (fun _ _ _ _ _ => pts_nil) (fun _ _ _ _ _ => (pe_callTy call_list_ofB (by rfl) T.b_list (by decide +kernel) (pa_cons (pv 16) pa_nil)))) pa_nil))))
  hb_turns)))), ?_⟩
  refine ⟨_, rfl, a, ns, 0, rfl, hS, hbits, hlen, by decide, by decide, fun p H1 hp s1 hp1 => ?_⟩
  walk_at "nx"
  refine ⟨_, rfl, p, rfl, hp1, fun sg H2 hsg hp2 b2 => ?_⟩
  obtain ⟨hs1, hs3, _⟩ := menu_facts sg hsg
  have hssg : isSigns sg = true := by
    have : ∀ sg ∈ sgMenu, isSigns sg = true := by decide +kernel
    exact this sg hsg
  walk_at "nx"
  refine ⟨_, rfl, _, rfl, p, sg, rfl, hp2, hssg, fun q xs R H3 hR hB h5 hp3 b3 => ?_⟩
  have s3 : Same H H3 := ((But.same s1).trans (b2.trans b3)).toSame hp
  clear b3 hp2 b2 s1 hp1 hp
  walk_at "nx"
  refine ⟨_, rfl, ?_⟩
  refine ⟨_, rfl, q, rfl, ⟨_, hR.sq⟩, fun Dl hD => lc_tupR (K := K) (a := q) (xs := xs) (l := R) (Rel := RItem K) hR.len (fun pre H4 => ∃ ys, H4 Dl = some (.lst ys) ∧ Items (fun H v (r : Rule) => ∃ z, v = V.ref z ∧ z ≠ Dl ∧ H z = some (.lst (rTup r))) H4 ys pre ∧ Same H3 H4) ⟨[], upd_same, Items.nil, same_new hD⟩
      (fun pre H4 ⟨_, _, _, s4⟩ => ⟨(hR.same s4).sq, (hR.same s4).it⟩) ?_ ?_⟩
  · rintro pre r post y H4 eM _ ⟨z, rfl, hz⟩ ⟨ys, h4, it4, s4⟩
    have hpl : pre.length + 1 ≤ 64 := by
      have := congrArg List.length eM
      rw [List.length_append, List.length_cons] at this
      omega
    refine ⟨rfl, ty_T ?_⟩
    refine ⟨_, rfl, z, _, rfl, .inr hz, fun l hl => ?_⟩
    have nl : l ≠ Dl := (ne_of_none h4 hl).symm
    have s5 := same_new (o := .lst (rTup r)) hl
    refine ⟨ys, s5 _ _ h4, by rw [it4.1]; exact Nat.lt_of_le_of_lt (m := 64) (by omega) (by decide), ⟨ys ++ [.ref l], upd_same, it4.snoc (fun v r ⟨z, e, n, hz⟩ => ⟨z, e, n, by rw [upd_ne n]; exact s5 _ _ hz⟩) ⟨l, rfl, nl, by rw [upd_ne nl]; exact upd_same⟩, same_mut (s4.trans s5) hD⟩⟩
  rintro H4 ⟨ys, h4, it4, s4⟩
  refine tNil_mk ?_
  have hRA : RulesA K H4 Dl ys R := ⟨.inl h4, it4.1, fun i y r h1 h2 => let ⟨z, e, _, hz⟩ := it4.2 i y r h1 h2; ⟨z, e, .inl (SqL.of hz)⟩⟩
  intro x dx nx ndx nex
  have s6 : Same H4 (upd (upd H4 dx (.own x)) x (.ins CB dx [])) := fun b o e => by
    rw [upd_ne (ne_of_none e nx), upd_ne (ne_of_none e ndx)]
    exact e
  refine ⟨x, dx, Dl, sg, ys, R, rfl, upd_same, hRA.same s6, hB, fun H7 BA b7 => ⟨rfl, ?_⟩⟩
  have s47 : Same H4 H7 := Same.made nx ndx fun b o e n => b7 b o n e
  have s37 := s4.trans s47
  have hR7 := hR.same s37
  have hp7 : Src H7 p := by
    obtain ⟨d, e, c, z⟩ := hp3
    exact ⟨d, e, c, s37 _ _ z⟩
  have hS7 := (s3.trans s37).seq hS
  clear b7 s47 s6 nex ndx nx hRA it4 h4 hD
  walk_at "nx"
  exact kb_turns _ H7 a p q x sg R xs ns _ _ _ _ _ _ _ _ _ _ _ _ _ hS7 hbits hlen hsg hR7 BA hB hp7 fun H' => rfl
end
end Sh
set_option Elab.async false
set_option linter.all false
set_option maxRecDepth 100000
namespace Sh
open PySem PySem.Spec PyProof.Rows L2
section
variable {P : Program} {K : PySem.W.Frag} {h : Heap} {mg : Str → Option Value}
/-- an exception class -/
theorem exc_mk {x : Str} {C f D N : Addr} {nm q : Str} {bs bm : List Value} {sn : List Str} {sub : List Value} {ab : Bool} {col : Option Bool} {dd : Option Addr} {k0 k1 k2 k3 k5 : Option Value} (X : K.In h) (Y : h.Ns mainGlobals mg)
    (a : PySem.W.nsIn K mainGlobals x = some (some (.ref C))) (l : K.lookup C = some (excClassObj nm q C N bs bm true sn sub ab col dd k0 k1 k2 k3 k5 "ValueError.__new__")) (vb : PySem.HandSPX.refsVE bm = true)
    (sa : PySem.W.findIn K (.ref C) "__setattr__" = some (some (.builtin "object.__setattr__"))) (ga : PySem.W.findIn K (.ref C) "__getattribute__" = some (some (.builtin "BaseException.__getattribute__"))) (gg : PySem.W.findIn K (.ref C) "__getattr__" = some none)
    (ic : PySem.W.findIn K (.ref C) "__init__" = some (some (.ref f))) (ti : PySem.W.typeIn K (.ref f) = some (.type "function")) (kc : PySem.W.keepIn K (.ref C) = true) (ex : PySem.W.subIn K (.ref C) (.type "BaseException") = some true)
    (ty : PySem.W.typeIn K (.ref C) = some (.type "type")) (hd : PySem.W.hasDictIn K C = true) (su : PySem.W.mroIn K C (.ref D) = some true) (sp : PySem.W.ks_superIn K C D "__init__" = some (some (.builtin "ValueError.__init__"))) (ve : PySem.W.subIn K (.ref C) (.type "ValueError") = some true) :
    ExcAt K mg x C f D :=
  ⟨⟨⟨nm, q, N, bs, bm, sn, sub, ab, col, dd, k0, k1, k2, k3, k5, l, vb⟩, sa, ex, ty, kc⟩, PySem.W.mg_of X Y a, ic, ti, ⟨su, sp, ve⟩, ⟨ga, gg, ex, hd⟩⟩
/-- its __init__ -/
theorem xinit_mk {q : Str} {st : Stmt} {ps : List Str} {D f cc cda : Addr} {oc kv dc pm ct cl cl2 : Value} {od an cld cld2 : Option Addr} {sl csl csl2 : Array (Option Value)} {vs : Array Value} {file : Str} {tf : Tok} {cd : ClassData}
    (l : K.lookup f = some ⟨oc, od, .func (PySem.W.fnX "__init__" q (defArgs st) (defBody st) (defScope st) [("__class__", cc)] .none kv dc pm an (.ref cda) ct), sl⟩) (c : PySem.W.codeIn K (.ref cda) q = true)
    (hcc : K.lookup cc = some ⟨cl, cld, .cell (some (.ref D)), csl⟩) (hcd : K.lookup cda = some ⟨cl2, cld2, .fields vs, csl2⟩) (hvs : vs[2]? = some (.str file tf)) (hfl : ((P.main.file : Str) == file) = true) (top : (P.main.scope.names.lookup ("super" : Str)).isSome = false)
    (hD : PySem.W.clsIn K D = some cd) (op : PySem.W.nsIn K cStatics "thirdparty.any" = some none) (ms : mg "super" = none) (hp : ∃ ar : Arg, ((defArgs st).posonlyargs ++ (defArgs st).args).head? = some ar ∧ ar.arg = "self") (hks : (defScope st).names.lookup ("super" : Str) = some .globalImplicit)
    (b : ∀ (kV doc pm : Value) (an : Option Addr) (cdv ct : Value) (us : List Value), us.length = ps.length → bindArgs (PySem.W.fnX "__init__" q (defArgs st) (defBody st) (defScope st) [("__class__", cc)] .none kV doc pm an cdv ct) ⟨us, []⟩ = pure (ps.zip us)) : XInit P K mg q st ps D f :=
  ⟨_, ⟨⟨cc, cda, oc, kv, dc, pm, ct, od, an, sl, rfl, l, c, ⟨cl, cld, csl, hcc⟩, ⟨cl2, cld2, vs, csl2, file, tf, hcd, hvs, hfl⟩⟩, top, ms, ⟨cd, hD⟩, op, hp, hks⟩, Binds.all fun us hl => b kv dc pm an (.ref cda) ct us hl⟩
end
end Sh
set_option Elab.async false
set_option linter.all false
set_option maxRecDepth 100000
namespace Sh
open PySem PySem.Spec PyProof.Rows L2
theorem all_cls {K : PySem.W.Frag} {h : Heap} {mg : Str → Option Value} {CB : Addr}
    {f_Book___init__ : Addr} {od_Book___init__ an_Book___init__ : Option Addr} {sl_Book___init__ : Array (Option Value)} {oc_Book___init__ kv_Book___init__ dc_Book___init__ pm_Book___init__ cd_Book___init__ ct_Book___init__ : Value}
    (X : K.In h) (Y : h.Ns mainGlobals mg) (T0 : Txt K mg)
    (a_Book : PySem.W.nsIn K mainGlobals "Book" = some (some (.ref CB)))
    (pg_Book : PySem.W.plainGet K CB Str.empty = true) (hd_Book : PySem.W.hasDictIn K CB = true) (po_Book : PySem.W.plainOver K CB = true) (sa_Book : PySem.W.findIn K (.ref CB) "__setattr__" = some (some (.builtin "object.__setattr__")))
    (mk_Book : PySem.W.makesIn K CB = true) (kp_Book : PySem.W.keepIn K (.ref CB) = true)
    (m_Book___init__ : PySem.W.findIn K (.ref CB) "__init__" = some (some (.ref f_Book___init__))) (i_Book___init__ : PySem.W.isFn K (.ref f_Book___init__) = true) (o_Book___init__ : PySem.W.fnIn K f_Book___init__ = true)
    (l_Book___init__ : K.lookup f_Book___init__ = some ⟨oc_Book___init__, od_Book___init__, .func (PySem.W.fnOf "__init__" "Book.__init__" (defArgs s_Book___init__) (defBody s_Book___init__) (defScope s_Book___init__) .none kv_Book___init__ dc_Book___init__ pm_Book___init__ an_Book___init__ cd_Book___init__ ct_Book___init__), sl_Book___init__⟩)
    (c_Book___init__ : PySem.W.codeIn K cd_Book___init__ "Book.__init__" = true) (k_Book___init__ : PySem.W.keepIn K (.ref f_Book___init__) = true)
    (n_Book_signs : PySem.W.findIn K (.ref CB) "signs" = some none)
    (n_Book_rules : PySem.W.findIn K (.ref CB) "rules" = some none)
    (n_Book__lefts : PySem.W.findIn K (.ref CB) "_lefts" = some none)
    (n_Book__longest : PySem.W.findIn K (.ref CB) "_longest" = some none)
    (n_Book__quarrel : PySem.W.findIn K (.ref CB) "_quarrel" = some none)
    (n_Book__moves : PySem.W.findIn K (.ref CB) "_moves" = some none) :
    ∃ CB : Addr, TxtC K mg CB :=
  ⟨CB, { T0 with
    k_Book := ⟨⟨pg_Book, hd_Book, po_Book, sa_Book⟩, PySem.W.mg_of X Y a_Book, mk_Book, kp_Book⟩
    m_Book___init__ := meth_mk (ps := ["self", "signs", "rules"]) l_Book___init__ c_Book___init__ k_Book___init__ m_Book___init__ i_Book___init__ o_Book___init__ (fun _ _ _ _ _ _ us hl => match us, hl with | [_, _, _], _ => rfl)
    n_Book_signs := n_Book_signs
    n_Book_rules := n_Book_rules
    n_Book__lefts := n_Book__lefts
    n_Book__longest := n_Book__longest
    n_Book__quarrel := n_Book__quarrel
    n_Book__moves := n_Book__moves }⟩
theorem all_exc {P : Program} {K : PySem.W.Frag} {h : Heap} {mg : Str → Option Value} {CB XT FT DT XM FM : Addr}
    {N_BadText : Addr} {nm_BadText q_BadText : Str} {bs_BadText bm_BadText : List Value} {sn_BadText : List Str} {sub_BadText : List Value} {ab_BadText : Bool} {col_BadText : Option Bool} {dd_BadText : Option Addr} {k0_BadText k1_BadText k2_BadText k3_BadText k5_BadText : Option Value}
    {cc_WrongThing ca_WrongThing : Addr} {oc_WrongThing kv_WrongThing dc_WrongThing pm_WrongThing ct_WrongThing cl_WrongThing cm_WrongThing : Value} {od_WrongThing an_WrongThing ce_WrongThing cf_WrongThing : Option Addr} {sl_WrongThing cs_WrongThing ct2_WrongThing : Array (Option Value)} {fv_WrongThing : Array Value} {fi_WrongThing : Str} {tf_WrongThing : Tok} {cd_WrongThing : ClassData}
    {N_TooMany : Addr} {nm_TooMany q_TooMany : Str} {bs_TooMany bm_TooMany : List Value} {sn_TooMany : List Str} {sub_TooMany : List Value} {ab_TooMany : Bool} {col_TooMany : Option Bool} {dd_TooMany : Option Addr} {k0_TooMany k1_TooMany k2_TooMany k3_TooMany k5_TooMany : Option Value}
    {cc_TooMany ca_TooMany : Addr} {oc_TooMany kv_TooMany dc_TooMany pm_TooMany ct_TooMany cl_TooMany cm_TooMany : Value} {od_TooMany an_TooMany ce_TooMany cf_TooMany : Option Addr} {sl_TooMany cs_TooMany ct2_TooMany : Array (Option Value)} {fv_TooMany : Array Value} {fi_TooMany : Str} {tf_TooMany : Tok} {cd_TooMany : ClassData}
    (KX : K.In h) (G : h.Ns mainGlobals mg) (TC : TxtC K mg CB)
    (op : PySem.W.nsIn K cStatics "thirdparty.any" = some none)
    (a_BadText : PySem.W.nsIn K mainGlobals "BadText" = some (some (.ref XT)))
    (xl_BadText : K.lookup XT = some (excClassObj nm_BadText q_BadText XT N_BadText bs_BadText bm_BadText true sn_BadText sub_BadText ab_BadText col_BadText dd_BadText k0_BadText k1_BadText k2_BadText k3_BadText k5_BadText "ValueError.__new__"))
    (vb_BadText : PySem.HandSPX.refsVE bm_BadText = true)
    (sa_BadText : PySem.W.findIn K (.ref XT) "__setattr__" = some (some (.builtin "object.__setattr__")))
    (ga_BadText : PySem.W.findIn K (.ref XT) "__getattribute__" = some (some (.builtin "BaseException.__getattribute__")))
    (gg_BadText : PySem.W.findIn K (.ref XT) "__getattr__" = some none)
    (ic_BadText : PySem.W.findIn K (.ref XT) "__init__" = some (some (.ref FT)))
    (ti_BadText : PySem.W.typeIn K (.ref FT) = some (.type "function"))
    (kc_BadText : PySem.W.keepIn K (.ref XT) = true)
    (ex_BadText : PySem.W.subIn K (.ref XT) (.type "BaseException") = some true)
    (ty_BadText : PySem.W.typeIn K (.ref XT) = some (.type "type"))
    (hd_BadText : PySem.W.hasDictIn K XT = true)
    (l_WrongThing : K.lookup FT = some ⟨oc_WrongThing, od_WrongThing, .func (PySem.W.fnX "__init__" "WrongThing.__init__" (defArgs s_WrongThing___init__) (defBody s_WrongThing___init__) (defScope s_WrongThing___init__) [("__class__", cc_WrongThing)] .none kv_WrongThing dc_WrongThing pm_WrongThing an_WrongThing (.ref ca_WrongThing) ct_WrongThing), sl_WrongThing⟩)
    (c_WrongThing : PySem.W.codeIn K (.ref ca_WrongThing) "WrongThing.__init__" = true)
    (cl1_WrongThing : K.lookup cc_WrongThing = some ⟨cl_WrongThing, ce_WrongThing, .cell (some (.ref DT)), cs_WrongThing⟩)
    (cl2_WrongThing : K.lookup ca_WrongThing = some ⟨cm_WrongThing, cf_WrongThing, .fields fv_WrongThing, ct2_WrongThing⟩)
    (fv1_WrongThing : fv_WrongThing[2]? = some (.str fi_WrongThing tf_WrongThing))
    (fl_WrongThing : ((P.main.file : Str) == fi_WrongThing) = true)
    (cD_WrongThing : PySem.W.clsIn K DT = some cd_WrongThing)
    (top : (P.main.scope.names.lookup ("super" : Str)).isSome = false)
    (su_BadText : PySem.W.mroIn K XT (.ref DT) = some true)
    (sp_BadText : PySem.W.ks_superIn K XT DT "__init__" = some (some (.builtin "ValueError.__init__")))
    (ve_BadText : PySem.W.subIn K (.ref XT) (.type "ValueError") = some true)
    (nf_BadText_thing : PySem.W.findIn K (.ref XT) "thing" = some none)
    (a_TooMany : PySem.W.nsIn K mainGlobals "TooMany" = some (some (.ref XM)))
    (xl_TooMany : K.lookup XM = some (excClassObj nm_TooMany q_TooMany XM N_TooMany bs_TooMany bm_TooMany true sn_TooMany sub_TooMany ab_TooMany col_TooMany dd_TooMany k0_TooMany k1_TooMany k2_TooMany k3_TooMany k5_TooMany "ValueError.__new__"))
    (vb_TooMany : PySem.HandSPX.refsVE bm_TooMany = true)
    (sa_TooMany : PySem.W.findIn K (.ref XM) "__setattr__" = some (some (.builtin "object.__setattr__")))
    (ga_TooMany : PySem.W.findIn K (.ref XM) "__getattribute__" = some (some (.builtin "BaseException.__getattribute__")))
    (gg_TooMany : PySem.W.findIn K (.ref XM) "__getattr__" = some none)
    (ic_TooMany : PySem.W.findIn K (.ref XM) "__init__" = some (some (.ref FM)))
    (ti_TooMany : PySem.W.typeIn K (.ref FM) = some (.type "function"))
    (kc_TooMany : PySem.W.keepIn K (.ref XM) = true)
    (ex_TooMany : PySem.W.subIn K (.ref XM) (.type "BaseException") = some true)
    (ty_TooMany : PySem.W.typeIn K (.ref XM) = some (.type "type"))
    (hd_TooMany : PySem.W.hasDictIn K XM = true)
    (l_TooMany : K.lookup FM = some ⟨oc_TooMany, od_TooMany, .func (PySem.W.fnX "__init__" "TooMany.__init__" (defArgs s_TooMany___init__) (defBody s_TooMany___init__) (defScope s_TooMany___init__) [("__class__", cc_TooMany)] .none kv_TooMany dc_TooMany pm_TooMany an_TooMany (.ref ca_TooMany) ct_TooMany), sl_TooMany⟩)
    (c_TooMany : PySem.W.codeIn K (.ref ca_TooMany) "TooMany.__init__" = true)
    (cl1_TooMany : K.lookup cc_TooMany = some ⟨cl_TooMany, ce_TooMany, .cell (some (.ref XM)), cs_TooMany⟩)
    (cl2_TooMany : K.lookup ca_TooMany = some ⟨cm_TooMany, cf_TooMany, .fields fv_TooMany, ct2_TooMany⟩)
    (fv1_TooMany : fv_TooMany[2]? = some (.str fi_TooMany tf_TooMany))
    (fl_TooMany : ((P.main.file : Str) == fi_TooMany) = true)
    (cD_TooMany : PySem.W.clsIn K XM = some cd_TooMany)
    (su_TooMany : PySem.W.mroIn K XM (.ref XM) = some true)
    (sp_TooMany : PySem.W.ks_superIn K XM XM "__init__" = some (some (.builtin "ValueError.__init__")))
    (ve_TooMany : PySem.W.subIn K (.ref XM) (.type "ValueError") = some true)
    (nf_TooMany_word : PySem.W.findIn K (.ref XM) "word" = some none)
    (h_BadText_BadText : PySem.W.subIn K (.ref XT) (.ref XT) = some true)
    (h_TooMany_TooMany : PySem.W.subIn K (.ref XM) (.ref XM) = some true) :
    ∃ XT FT DT XM FM : Addr, TxtX P K mg CB XT FT DT XM FM :=
  ⟨XT, FT, DT, XM, FM, { TC with
    e_BadText := exc_mk KX G a_BadText xl_BadText vb_BadText sa_BadText ga_BadText gg_BadText ic_BadText ti_BadText kc_BadText ex_BadText ty_BadText hd_BadText su_BadText sp_BadText ve_BadText
    q_WrongThing := xinit_mk l_WrongThing c_WrongThing cl1_WrongThing cl2_WrongThing fv1_WrongThing fl_WrongThing top cD_WrongThing op TC.b_super ⟨_, rfl, rfl⟩ (by decide +kernel) (fun _ _ _ _ _ _ us hl => match us, hl with | [_, _], _ => rfl)
    nf_BadText_thing := nf_BadText_thing
    e_TooMany := exc_mk KX G a_TooMany xl_TooMany vb_TooMany sa_TooMany ga_TooMany gg_TooMany ic_TooMany ti_TooMany kc_TooMany ex_TooMany ty_TooMany hd_TooMany su_TooMany sp_TooMany ve_TooMany
    q_TooMany := xinit_mk l_TooMany c_TooMany cl1_TooMany cl2_TooMany fv1_TooMany fl_TooMany top cD_TooMany op TC.b_super ⟨_, rfl, rfl⟩ (by decide +kernel) (fun _ _ _ _ _ _ us hl => match us, hl with | [_, _], _ => rfl)
    nf_TooMany_word := nf_TooMany_word
    mm_BadText_BadText := PySem.W.exm_ref ex_BadText hd_BadText ty_BadText h_BadText_BadText
    mm_TooMany_TooMany := PySem.W.exm_ref ex_TooMany hd_TooMany ty_TooMany h_TooMany_TooMany }⟩
end Sh
open PySem PySem.W PyProof.Rows
set_option maxRecDepth 100000 in
set_option maxHeartbeats 0 in
theorem PySem.Challenge.cw_shrunkalike_k06_whole_all_below_holds : PySem.Challenge.rw_shrunkalike_k06_whole_all_below.Holds := by
  w_on; o_law; k_head; (case hw => w_witness2)
  k_fill
  refine Sh.walk_law (l := PySem.Challenge.rw_shrunkalike_k06_whole_all_below) (n := 63) (k := 14) (x := "law") (p1 := "_law_script") (st := Sh.s_law) (N := ["_law_script", "_law_source_here", "_law_signs_here", "_law_rules", "_law_book", "_law_turn", "_law_draws", "_law_text_here", "_law_due", "_law_told", "_law_bare", "_law_less", "_law_tall", "raised", "_law_odd", "_law_asked", "_law_rule_here", "_law_one"]) rfl (by decide) rfl ⟨rfl, by decide, by decide⟩ Sh.sc_law (fun w h Y => PySem.W.kIn_of Y) ?F
  case F =>
    intro w mg fa h KX G hmg
    have b_len : mg "len" = none := by refine' PySem.W.mg_none_of KX G ?z; (case z => k_is)
    have b_range : mg "range" = none := by refine' PySem.W.mg_none_of KX G ?z; (case z => k_is)
    have b_min : mg "min" = none := by refine' PySem.W.mg_none_of KX G ?z; (case z => k_is)
    have b_max : mg "max" = none := by refine' PySem.W.mg_none_of KX G ?z; (case z => k_is)
    have b_any : mg "any" = none := by refine' PySem.W.mg_none_of KX G ?z; (case z => k_is)
    have b_all : mg "all" = none := by refine' PySem.W.mg_none_of KX G ?z; (case z => k_is)
    have b_isinstance : mg "isinstance" = none := by refine' PySem.W.mg_none_of KX G ?z; (case z => k_is)
    have b_abs : mg "abs" = none := by refine' PySem.W.mg_none_of KX G ?z; (case z => k_is)
    have b_int : mg "int" = none := by refine' PySem.W.mg_none_of KX G ?z; (case z => k_is)
    have b_str : mg "str" = none := by refine' PySem.W.mg_none_of KX G ?z; (case z => k_is)
    have b_tuple : mg "tuple" = none := by refine' PySem.W.mg_none_of KX G ?z; (case z => k_is)
    have b_list : mg "list" = none := by refine' PySem.W.mg_none_of KX G ?z; (case z => k_is)
    have b_repr : mg "repr" = none := by refine' PySem.W.mg_none_of KX G ?z; (case z => k_is)
    have b_sorted : mg "sorted" = none := by refine' PySem.W.mg_none_of KX G ?z; (case z => k_is)
    have b_iter : mg "iter" = none := by refine' PySem.W.mg_none_of KX G ?z; (case z => k_is)
    have b_super : mg "super" = none := by refine' PySem.W.mg_none_of KX G ?z; (case z => k_is)
    have g_LETTERS : ∃ u, mg "LETTERS" = some u ∧ L2.RelV (.str "abcdefghijklmnopqrstuvwxyz") u := by refine' Sh.con_mk KX G ?a ?r; (case a => k_is); (case r => exact ⟨_, rfl⟩)
    have g_LONGEST_TEXT : ∃ u, mg "LONGEST_TEXT" = some u ∧ L2.RelV (.int 200) u := by refine' Sh.con_mk KX G ?a ?r; (case a => k_is); (case r => exact ⟨_, rfl⟩)
    have g_MOST_TEXTS : ∃ u, mg "MOST_TEXTS" = some u ∧ L2.RelV (.int 2000) u := by refine' Sh.con_mk KX G ?a ?r; (case a => k_is); (case r => exact ⟨_, rfl⟩)
    have g_MOST_RULES : ∃ u, mg "MOST_RULES" = some u ∧ L2.RelV (.int 64) u := by refine' Sh.con_mk KX G ?a ?r; (case a => k_is); (case r => exact ⟨_, rfl⟩)
    have g_LONGEST_LEFT : ∃ u, mg "LONGEST_LEFT" = some u ∧ L2.RelV (.int 4) u := by refine' Sh.con_mk KX G ?a ?r; (case a => k_is); (case r => exact ⟨_, rfl⟩)
    have d_is_listed : Sh.DefAt (L2.KOf KX) mg "is_listed" Sh.s_is_listed ["thing"] := by delta L2.KOf; refine' Sh.def_mk KX G ?a ?l ?c ?k ?b; (case a => k_is); (case l => k_is); (case c => k_is); (case k => k_is); (case b => exact fun _ _ _ _ _ _ us hl => match us, hl with | [_], _ => rfl)
    have d_is_signs : Sh.DefAt (L2.KOf KX) mg "is_signs" Sh.s_is_signs ["thing"] := by delta L2.KOf; refine' Sh.def_mk KX G ?a ?l ?c ?k ?b; (case a => k_is); (case l => k_is); (case c => k_is); (case k => k_is); (case b => exact fun _ _ _ _ _ _ us hl => match us, hl with | [_], _ => rfl)
    have d_check_signs : Sh.DefAt (L2.KOf KX) mg "check_signs" Sh.s_check_signs ["thing"] := by delta L2.KOf; refine' Sh.def_mk KX G ?a ?l ?c ?k ?b; (case a => k_is); (case l => k_is); (case c => k_is); (case k => k_is); (case b => exact fun _ _ _ _ _ _ us hl => match us, hl with | [_], _ => rfl)
    have d_is_text : Sh.DefAt (L2.KOf KX) mg "is_text" Sh.s_is_text ["signs", "thing", "low", "high"] := by delta L2.KOf; refine' Sh.def_mk KX G ?a ?l ?c ?k ?b; (case a => k_is); (case l => k_is); (case c => k_is); (case k => k_is); (case b => exact fun _ _ _ _ _ _ us hl => match us, hl with | [_, _, _, _], _ => rfl)
    have d_check_text : Sh.DefAt (L2.KOf KX) mg "check_text" Sh.s_check_text ["signs", "thing"] := by delta L2.KOf; refine' Sh.def_mk KX G ?a ?l ?c ?k ?b; (case a => k_is); (case l => k_is); (case c => k_is); (case k => k_is); (case b => exact fun _ _ _ _ _ _ us hl => match us, hl with | [_, _], _ => rfl)
    have d_text_key : Sh.DefAt (L2.KOf KX) mg "text_key" Sh.s_text_key ["text"] := by delta L2.KOf; refine' Sh.def_mk KX G ?a ?l ?c ?k ?b; (case a => k_is); (case l => k_is); (case c => k_is); (case k => k_is); (case b => exact fun _ _ _ _ _ _ us hl => match us, hl with | [_], _ => rfl)
    have d_ascending_texts : Sh.DefAt (L2.KOf KX) mg "ascending_texts" Sh.s_ascending_texts ["texts"] := by delta L2.KOf; refine' Sh.def_mk KX G ?a ?l ?c ?k ?b; (case a => k_is); (case l => k_is); (case c => k_is); (case k => k_is); (case b => exact fun _ _ _ _ _ _ us hl => match us, hl with | [_], _ => rfl)
    have d_first_rules : Sh.DefAt (L2.KOf KX) mg "first_rules" Sh.s_first_rules ["rules"] := by delta L2.KOf; refine' Sh.def_mk KX G ?a ?l ?c ?k ?b; (case a => k_is); (case l => k_is); (case c => k_is); (case k => k_is); (case b => exact fun _ _ _ _ _ _ us hl => match us, hl with | [_], _ => rfl)
    have d_longest_left : Sh.DefAt (L2.KOf KX) mg "longest_left" Sh.s_longest_left ["rules"] := by delta L2.KOf; refine' Sh.def_mk KX G ?a ?l ?c ?k ?b; (case a => k_is); (case l => k_is); (case c => k_is); (case k => k_is); (case b => exact fun _ _ _ _ _ _ us hl => match us, hl with | [_], _ => rfl)
    have d_used_at_end : Sh.DefAt (L2.KOf KX) mg "used_at_end" Sh.s_used_at_end ["lefts", "longest", "pile"] := by delta L2.KOf; refine' Sh.def_mk KX G ?a ?l ?c ?k ?b; (case a => k_is); (case l => k_is); (case c => k_is); (case k => k_is); (case b => exact fun _ _ _ _ _ _ us hl => match us, hl with | [_, _, _], _ => rfl)
    have d_left_over : Sh.DefAt (L2.KOf KX) mg "left_over" Sh.s_left_over ["lefts", "longest", "text"] := by delta L2.KOf; refine' Sh.def_mk KX G ?a ?l ?c ?k ?b; (case a => k_is); (case l => k_is); (case c => k_is); (case k => k_is); (case b => exact fun _ _ _ _ _ _ us hl => match us, hl with | [_, _, _], _ => rfl)
    have d_overlap_rows : Sh.DefAt (L2.KOf KX) mg "overlap_rows" Sh.s_overlap_rows ["rules"] := by delta L2.KOf; refine' Sh.def_mk KX G ?a ?l ?c ?k ?b; (case a => k_is); (case l => k_is); (case c => k_is); (case k => k_is); (case b => exact fun _ _ _ _ _ _ us hl => match us, hl with | [_], _ => rfl)
    have d_both_results : Sh.DefAt (L2.KOf KX) mg "both_results" Sh.s_both_results ["rules", "overlap"] := by delta L2.KOf; refine' Sh.def_mk KX G ?a ?l ?c ?k ?b; (case a => k_is); (case l => k_is); (case c => k_is); (case k => k_is); (case b => exact fun _ _ _ _ _ _ us hl => match us, hl with | [_, _], _ => rfl)
    have d_quarrel_of : Sh.DefAt (L2.KOf KX) mg "quarrel_of" Sh.s_quarrel_of ["rules", "lefts", "longest"] := by delta L2.KOf; refine' Sh.def_mk KX G ?a ?l ?c ?k ?b; (case a => k_is); (case l => k_is); (case c => k_is); (case k => k_is); (case b => exact fun _ _ _ _ _ _ us hl => match us, hl with | [_, _, _], _ => rfl)
    have d_end_moves : Sh.DefAt (L2.KOf KX) mg "end_moves" Sh.s_end_moves ["signs", "rules"] := by delta L2.KOf; refine' Sh.def_mk KX G ?a ?l ?c ?k ?b; (case a => k_is); (case l => k_is); (case c => k_is); (case k => k_is); (case b => exact fun _ _ _ _ _ _ us hl => match us, hl with | [_, _], _ => rfl)
    have d_kept_tail : Sh.DefAt (L2.KOf KX) mg "kept_tail" Sh.s_kept_tail ["lefts", "longest", "text"] := by delta L2.KOf; refine' Sh.def_mk KX G ?a ?l ?c ?k ?b; (case a => k_is); (case l => k_is); (case c => k_is); (case k => k_is); (case b => exact fun _ _ _ _ _ _ us hl => match us, hl with | [_, _, _], _ => rfl)
    have d_made_step : Sh.DefAt (L2.KOf KX) mg "made_step" Sh.s_made_step ["book", "text", "place", "number"] := by delta L2.KOf; refine' Sh.def_mk KX G ?a ?l ?c ?k ?b; (case a => k_is); (case l => k_is); (case c => k_is); (case k => k_is); (case b => exact fun _ _ _ _ _ _ us hl => match us, hl with | [_, _, _, _], _ => rfl)
    have d_all_steps : Sh.DefAt (L2.KOf KX) mg "all_steps" Sh.s_all_steps ["book", "text"] := by delta L2.KOf; refine' Sh.def_mk KX G ?a ?l ?c ?k ?b; (case a => k_is); (case l => k_is); (case c => k_is); (case k => k_is); (case b => exact fun _ _ _ _ _ _ us hl => match us, hl with | [_, _], _ => rfl)
    have d_all_below : Sh.DefAt (L2.KOf KX) mg "all_below" Sh.s_all_below ["book", "text"] := by delta L2.KOf; refine' Sh.def_mk KX G ?a ?l ?c ?k ?b; (case a => k_is); (case l => k_is); (case c => k_is); (case k => k_is); (case b => exact fun _ _ _ _ _ _ us hl => match us, hl with | [_, _], _ => rfl)
    have d_shrinks : Sh.DefAt (L2.KOf KX) mg "shrinks" Sh.s_shrinks ["book", "text"] := by delta L2.KOf; refine' Sh.def_mk KX G ?a ?l ?c ?k ?b; (case a => k_is); (case l => k_is); (case c => k_is); (case k => k_is); (case b => exact fun _ _ _ _ _ _ us hl => match us, hl with | [_, _], _ => rfl)
    have d_ends : Sh.DefAt (L2.KOf KX) mg "ends" Sh.s_ends ["book", "text"] := by delta L2.KOf; refine' Sh.def_mk KX G ?a ?l ?c ?k ?b; (case a => k_is); (case l => k_is); (case c => k_is); (case k => k_is); (case b => exact fun _ _ _ _ _ _ us hl => match us, hl with | [_, _], _ => rfl)
    have d_is_rule : Sh.DefAt (L2.KOf KX) mg "is_rule" Sh.s_is_rule ["signs", "thing"] := by delta L2.KOf; refine' Sh.def_mk KX G ?a ?l ?c ?k ?b; (case a => k_is); (case l => k_is); (case c => k_is); (case k => k_is); (case b => exact fun _ _ _ _ _ _ us hl => match us, hl with | [_, _], _ => rfl)
    have d_checked_rules : Sh.DefAt (L2.KOf KX) mg "checked_rules" Sh.s_checked_rules ["signs", "thing"] := by delta L2.KOf; refine' Sh.def_mk KX G ?a ?l ?c ?k ?b; (case a => k_is); (case l => k_is); (case c => k_is); (case k => k_is); (case b => exact fun _ _ _ _ _ _ us hl => match us, hl with | [_, _], _ => rfl)
    have d__law_source : Sh.DefAt (L2.KOf KX) mg "_law_source" Sh.s__law_source ["_law_script", "_law_place"] := by delta L2.KOf; refine' Sh.def_mk KX G ?a ?l ?c ?k ?b; (case a => k_is); (case l => k_is); (case c => k_is); (case k => k_is); (case b => exact fun _ _ _ _ _ _ us hl => match us, hl with | [_, _], _ => rfl)
    have d__law_pick : Sh.DefAt (L2.KOf KX) mg "_law_pick" Sh.s__law_pick ["_law_source_here", "_law_many"] := by delta L2.KOf; refine' Sh.def_mk KX G ?a ?l ?c ?k ?b; (case a => k_is); (case l => k_is); (case c => k_is); (case k => k_is); (case b => exact fun _ _ _ _ _ _ us hl => match us, hl with | [_, _], _ => rfl)
    have d__law_signs : Sh.DefAt (L2.KOf KX) mg "_law_signs" Sh.s__law_signs ["_law_source_here"] := by delta L2.KOf; refine' Sh.def_mk KX G ?a ?l ?c ?k ?b; (case a => k_is); (case l => k_is); (case c => k_is); (case k => k_is); (case b => exact fun _ _ _ _ _ _ us hl => match us, hl with | [_], _ => rfl)
    have d__law_text : Sh.DefAt (L2.KOf KX) mg "_law_text" Sh.s__law_text ["_law_source_here", "_law_signs_here", "_law_most"] := by delta L2.KOf; refine' Sh.def_mk KX G ?a ?l ?c ?k ?b; (case a => k_is); (case l => k_is); (case c => k_is); (case k => k_is); (case b => exact fun _ _ _ _ _ _ us hl => match us, hl with | [_, _, _], _ => rfl)
    have d__law_key : Sh.DefAt (L2.KOf KX) mg "_law_key" Sh.s__law_key ["_law_text_here"] := by delta L2.KOf; refine' Sh.def_mk KX G ?a ?l ?c ?k ?b; (case a => k_is); (case l => k_is); (case c => k_is); (case k => k_is); (case b => exact fun _ _ _ _ _ _ us hl => match us, hl with | [_], _ => rfl)
    have d__law_rule : Sh.DefAt (L2.KOf KX) mg "_law_rule" Sh.s__law_rule ["_law_source_here", "_law_signs_here", "_law_longest"] := by delta L2.KOf; refine' Sh.def_mk KX G ?a ?l ?c ?k ?b; (case a => k_is); (case l => k_is); (case c => k_is); (case k => k_is); (case b => exact fun _ _ _ _ _ _ us hl => match us, hl with | [_, _, _], _ => rfl)
    have d__law_is_end : Sh.DefAt (L2.KOf KX) mg "_law_is_end" Sh.s__law_is_end ["_law_rules", "_law_text_here"] := by delta L2.KOf; refine' Sh.def_mk KX G ?a ?l ?c ?k ?b; (case a => k_is); (case l => k_is); (case c => k_is); (case k => k_is); (case b => exact fun _ _ _ _ _ _ us hl => match us, hl with | [_, _], _ => rfl)
    have d__law_below : Sh.DefAt (L2.KOf KX) mg "_law_below" Sh.s__law_below ["_law_rules", "_law_text_here"] := by delta L2.KOf; refine' Sh.def_mk KX G ?a ?l ?c ?k ?b; (case a => k_is); (case l => k_is); (case c => k_is); (case k => k_is); (case b => exact fun _ _ _ _ _ _ us hl => match us, hl with | [_, _], _ => rfl)
    have d__law_drawn : Sh.DefAt (L2.KOf KX) mg "_law_drawn" Sh.s__law_drawn ["_law_source_here", "_law_signs_here"] := by delta L2.KOf; refine' Sh.def_mk KX G ?a ?l ?c ?k ?b; (case a => k_is); (case l => k_is); (case c => k_is); (case k => k_is); (case b => exact fun _ _ _ _ _ _ us hl => match us, hl with | [_, _], _ => rfl)
    have T0 : Sh.Txt (L2.KOf KX) mg := ⟨b_len, b_range, b_min, b_max, b_any, b_all, b_isinstance, b_abs, b_int, b_str, b_tuple, b_list, b_repr, b_sorted, b_iter, b_super, g_LETTERS, g_LONGEST_TEXT, g_MOST_TEXTS, g_MOST_RULES, g_LONGEST_LEFT, d_is_listed, d_is_signs, d_check_signs, d_is_text, d_check_text, d_text_key, d_ascending_texts, d_first_rules, d_longest_left, d_used_at_end, d_left_over, d_overlap_rows, d_both_results, d_quarrel_of, d_end_moves, d_kept_tail, d_made_step, d_all_steps, d_all_below, d_shrinks, d_ends, d_is_rule, d_checked_rules, d__law_source, d__law_pick, d__law_signs, d__law_text, d__law_key, d__law_rule, d__law_is_end, d__law_below, d__law_drawn⟩
    obtain ⟨CB, T⟩ : ∃ CB : Addr, Sh.TxtC (L2.KOf KX) mg CB := by
      delta L2.KOf at T0 ⊢; refine' Sh.all_cls KX G T0 ?a_Book ?pg_Book ?hd_Book ?po_Book ?sa_Book ?mk_Book ?kp_Book ?m_Book___init__ ?i_Book___init__ ?o_Book___init__ ?l_Book___init__ ?c_Book___init__ ?k_Book___init__ ?n_Book_signs ?n_Book_rules ?n_Book__lefts ?n_Book__longest ?n_Book__quarrel ?n_Book__moves
      (case a_Book => k_is)
      (case pg_Book => k_is)
      (case hd_Book => k_is)
      (case po_Book => k_is)
      (case sa_Book => k_is)
      (case mk_Book => k_is)
      (case kp_Book => k_is)
      (case m_Book___init__ => k_is)
      (case i_Book___init__ => k_is)
      (case o_Book___init__ => k_is)
      (case l_Book___init__ => k_is)
      (case c_Book___init__ => k_is)
      (case k_Book___init__ => k_is)
      (case n_Book_signs => k_is)
      (case n_Book_rules => k_is)
      (case n_Book__lefts => k_is)
      (case n_Book__longest => k_is)
      (case n_Book__quarrel => k_is)
      (case n_Book__moves => k_is)
    obtain ⟨XT, FT, DT, XM, FM, T⟩ : ∃ XT FT DT XM FM : Addr, Sh.TxtX (PySem.Challenge.rw_shrunkalike_k06_whole_all_below).prog (L2.KOf KX) mg CB XT FT DT XM FM := by
      delta L2.KOf at T ⊢; refine' Sh.all_exc KX G T ?op ?a_BadText ?xl_BadText ?vb_BadText ?sa_BadText ?ga_BadText ?gg_BadText ?ic_BadText ?ti_BadText ?kc_BadText ?ex_BadText ?ty_BadText ?hd_BadText ?l_WrongThing ?c_WrongThing ?cl1_WrongThing ?cl2_WrongThing ?fv1_WrongThing ?fl_WrongThing ?cD_WrongThing ?top ?su_BadText ?sp_BadText ?ve_BadText ?nf_BadText_thing ?a_TooMany ?xl_TooMany ?vb_TooMany ?sa_TooMany ?ga_TooMany ?gg_TooMany ?ic_TooMany ?ti_TooMany ?kc_TooMany ?ex_TooMany ?ty_TooMany ?hd_TooMany ?l_TooMany ?c_TooMany ?cl1_TooMany ?cl2_TooMany ?fv1_TooMany ?fl_TooMany ?cD_TooMany ?su_TooMany ?sp_TooMany ?ve_TooMany ?nf_TooMany_word ?h_BadText_BadText ?h_TooMany_TooMany
      (case op => k_is)
      (case a_BadText => k_is)
      (case xl_BadText => k_is)
      (case vb_BadText => first | rfl | decide +kernel)
      (case sa_BadText => k_is)
      (case ga_BadText => k_is)
      (case gg_BadText => k_is)
      (case ic_BadText => k_is)
      (case ti_BadText => k_is)
      (case kc_BadText => k_is)
      (case ex_BadText => k_is)
      (case ty_BadText => k_is)
      (case hd_BadText => k_is)
      (case l_WrongThing => k_is)
      (case c_WrongThing => k_is)
      (case cl1_WrongThing => k_is)
      (case cl2_WrongThing => k_is)
      (case fv1_WrongThing => rfl)
      (case fl_WrongThing => first | rfl | decide +kernel)
      (case cD_WrongThing => k_is)
      (case top => first | rfl | decide +kernel)
      (case su_BadText => k_is)
      (case sp_BadText => ks_is)
      (case ve_BadText => k_is)
      (case nf_BadText_thing => k_is)
      (case a_TooMany => k_is)
      (case xl_TooMany => k_is)
      (case vb_TooMany => first | rfl | decide +kernel)
      (case sa_TooMany => k_is)
      (case ga_TooMany => k_is)
      (case gg_TooMany => k_is)
      (case ic_TooMany => k_is)
      (case ti_TooMany => k_is)
      (case kc_TooMany => k_is)
      (case ex_TooMany => k_is)
      (case ty_TooMany => k_is)
      (case hd_TooMany => k_is)
      (case l_TooMany => k_is)
      (case c_TooMany => k_is)
      (case cl1_TooMany => k_is)
      (case cl2_TooMany => k_is)
      (case fv1_TooMany => rfl)
      (case fl_TooMany => first | rfl | decide +kernel)
      (case cD_TooMany => k_is)
      (case su_TooMany => k_is)
      (case sp_TooMany => ks_is)
      (case ve_TooMany => k_is)
      (case nf_TooMany_word => k_is)
      (case h_BadText_BadText => first | rfl | k_is)
      (case h_TooMany_TooMany => first | rfl | k_is)
    obtain ⟨fd, Fn, bi⟩ : ∃ fd : FuncData, L2.Fun (L2.KOf KX) "law" "law" Sh.s_law fa fd ∧ ∀ (s : Shared) (u : Value), BindsTo s fd ⟨[u], []⟩ [("_law_script", u)] := by
      delta L2.KOf; refine' Sh.law_mk KX G hmg ?a ?l ?c ?k ?b; (case a => k_is); (case l => k_is); (case c => k_is); (case k => k_is); (case b => exact fun _ _ _ _ _ _ s u => .of_eq rfl)
    exact ⟨fd, Fn, bi, fun s1 a zs base H cdv hl hb hr hS => Sh.law_body T fa cdv callerA [] s1 H _ hr rfl a zs hS hb hl⟩
#print axioms PySem.Challenge.cw_shrunkalike_k06_whole_all_below_holds
