import PyProof.Rows.All
import Wide.All
import OpenK.AllK
import Wide.FinOn
import KE.RegKSuper
import PySem.Challenge.RW_saidhere_k52_whole_contest
import HandS.ForMost
import HandS.TupAny
import HandS.Conv
import HandS.Deep
import HandS.IsInst
import HandS.WideBits
import HandS.RaiseMore
import PyProof.ReprRoads
import HandS.Walk
import HandS.Codes
import HandS.More
import KE.KSuper
import KE.KExcSuper
import HandS.Exc
import HandS.ExcOwn
import HandS.FStr
import HandS.ExcField
import HandS.ExcIs
import HandS.ExcCtx
import HandS.SuiteRaise
import HandS.ExcInitHot
import HandS.WordsExc
import KE.GoesRaise
import HandS.Comp
import HandS.TryMany
import HandS.EndBits
import KE.GoesEnum
import KE.GoesMore
import KE.GoesZip
import HandS.Iter
import HandS.Replace
import HandS.TryOnly
import PyProof.StrLawsRepr
import HandS.WordsDict
import KE.DataEq
import HandS.Rev
import HandS.SortRule
import PyProof.Rows.Range3
import HandS.Dict
import PyProof.ListStr
import HandS.NoneIn
import HandS.Style
set_option Elab.async false
set_option linter.all false
set_option maxRecDepth 100000
/-! words of our own: what a heap knows (B), what is changed in it (M), data read off it -/
namespace Sh
open PySem PySem.Spec PyProof.Rows L2

/-! ### data -/
mutual
inductive Rp (K : PySem.W.Frag) (H : Hp) : V → PyData → Prop
  | non : Rp K H .non .none
  | bl (b : Bool) : Rp K H (.bl b) (.bool b)
  | int (i : Int) : Rp K H (.int i) (.int i)
  | str (x : Str) : Rp K H (.str x) (.str x)
  | lst {a : Addr} {xs : List V} {ds : List PyData} : SqL K H a xs → RpAll K H xs ds → Rp K H (.ref a) (.list ds)
  | tup {a : Addr} {xs : List V} {ds : List PyData} : H a = some (.tup xs) → RpAll K H xs ds → Rp K H (.ref a) (.tuple ds)
  | emp {a : Addr} : Rd H a (.dK []) → Rp K H (.ref a) (.dict [])
inductive RpAll (K : PySem.W.Frag) (H : Hp) : List V → List PyData → Prop
  | nil : RpAll K H [] []
  | cons {v : V} {vs : List V} {d : PyData} {ds : List PyData} : Rp K H v d → RpAll K H vs ds → RpAll K H (v :: vs) (d :: ds)
end

/-- all that B knows, H knows -/
abbrev Le (B H : Hp) : Prop := L2.Same B H
theorem le_rd {B H : Hp} {a : Addr} {u : HO} (e : Le B H) (h : Rd B a u) : Rd H a u := by
  rcases h with h | ⟨o, h⟩
  · exact .inl (e _ _ h)
  · exact .inr ⟨o, e _ _ h⟩
theorem le_l {K : PySem.W.Frag} {B H : Hp} {a : Addr} {xs : List V} (e : Le B H) (h : SqL K B a xs) : SqL K H a xs := e.seq h
theorem le_t {K : PySem.W.Frag} {B H : Hp} {a : Addr} {xs : List V} (e : Le B H) (h : SqT K B a xs) : SqT K H a xs := by
  rcases h with h | h
  · exact .inl (le_rd e h)
  · exact .inr h
mutual
theorem Rp.up {K : PySem.W.Frag} {B H : Hp} (e : Le B H) {v : V} {d : PyData} (h : Rp K B v d) : Rp K H v d := by
  cases h with
  | non => exact .non
  | bl b => exact .bl b
  | int i => exact .int i
  | str x => exact .str x
  | lst h1 h2 => exact .lst (le_l e h1) (RpAll.up e h2)
  | tup h1 h2 => exact .tup (e _ _ h1) (RpAll.up e h2)
  | emp h1 => exact .emp (le_rd e h1)
theorem RpAll.up {K : PySem.W.Frag} {B H : Hp} (e : Le B H) {vs : List V} {ds : List PyData} (h : RpAll K B vs ds) : RpAll K H vs ds := by
  cases h with
  | nil => exact .nil
  | cons h1 h2 => exact .cons (Rp.up e h1) (RpAll.up e h2)
end
theorem RpAll.length {K : PySem.W.Frag} {H : Hp} : ∀ {vs : List V} {ds : List PyData}, RpAll K H vs ds → vs.length = ds.length
  | _, _, .nil => rfl
  | _, _, .cons _ t => by simp only [List.length_cons, t.length]
theorem RpAll.get {K : PySem.W.Frag} {H : Hp} : ∀ {vs : List V} {ds : List PyData} {i : Nat} {d : PyData}, RpAll K H vs ds → ds[i]? = some d → ∃ v, vs[i]? = some v ∧ Rp K H v d
  | _, _, _, _, .nil, e => by simp at e
  | _, _, 0, _, .cons h _, e => by
    have e' := Option.some.inj e
    subst e'
    exact ⟨_, rfl, h⟩
  | _, _, i + 1, _, .cons _ t, e => t.get (i := i) (by simpa using e)
theorem RpAll.getV {K : PySem.W.Frag} {H : Hp} : ∀ {vs : List V} {ds : List PyData} {i : Nat} {v : V}, RpAll K H vs ds → vs[i]? = some v → ∃ d, ds[i]? = some d ∧ Rp K H v d
  | _, _, _, _, .nil, e => by simp at e
  | _, _, 0, _, .cons h _, e => by
    have e' := Option.some.inj e
    subst e'
    exact ⟨_, rfl, h⟩
  | _, _, i + 1, _, .cons _ t, e => t.getV (i := i) (by simpa using e)
theorem RpAll.append {K : PySem.W.Frag} {H : Hp} : ∀ {vs ws : List V} {ds es : List PyData}, RpAll K H vs ds → RpAll K H ws es → RpAll K H (vs ++ ws) (ds ++ es)
  | _, _, _, _, .nil, s => s
  | _, _, _, _, .cons h t, s => .cons h (t.append s)
theorem RpAll.one {K : PySem.W.Frag} {H : Hp} {v : V} {d : PyData} (h : Rp K H v d) : RpAll K H [v] [d] := .cons h .nil
theorem RpAll.take {K : PySem.W.Frag} {H : Hp} : ∀ {vs : List V} {ds : List PyData} (n : Nat), RpAll K H vs ds → RpAll K H (vs.take n) (ds.take n)
  | _, _, 0, _ => .nil
  | _, _, _ + 1, .nil => .nil
  | _, _, n + 1, .cons h t => .cons h (t.take n)
theorem RpAll.drop {K : PySem.W.Frag} {H : Hp} : ∀ {vs : List V} {ds : List PyData} (n : Nat), RpAll K H vs ds → RpAll K H (vs.drop n) (ds.drop n)
  | _, _, 0, h => h
  | _, _, _ + 1, .nil => .nil
  | _, _, n + 1, .cons _ t => t.drop n
theorem RpAll.set {K : PySem.W.Frag} {H : Hp} {v : V} {d : PyData} (h : Rp K H v d) : ∀ {vs : List V} {ds : List PyData} (n : Nat), RpAll K H vs ds → RpAll K H (vs.set n v) (ds.set n d)
  | _, _, _, .nil => .nil
  | _, _, 0, .cons _ t => .cons h t
  | _, _, n + 1, .cons g t => .cons g (RpAll.set h n t)
theorem RpAll.map {K : PySem.W.Frag} {H : Hp} {α : Type} {f : α → V} {g : α → PyData} (h : ∀ a, Rp K H (f a) (g a)) : ∀ l : List α, RpAll K H (l.map f) (l.map g)
  | [] => .nil
  | a :: l => .cons (h a) (RpAll.map h l)
def hasD : PyData → Bool
  | .list xs => hasDs xs
  | .tuple xs => hasDs xs
  | .dict _ => true
  | _ => false
where hasDs : List PyData → Bool
  | [] => false
  | d :: ds => hasD d || hasDs ds
mutual
theorem Rp.dp {K : PySem.W.Frag} {H : Hp} {v : V} {d : PyData} (h : Rp K H v d) (n : hasD d = false) : Dp K H v d := by
  cases h with
  | non => exact .non
  | bl b => exact .bl b
  | int i => exact .int i
  | str x => exact .str x
  | lst h1 h2 => exact .lst h1 (RpAll.dp h2 (by simpa [hasD] using n))
  | tup h1 h2 => exact .tup (SqT.of h1) (RpAll.dp h2 (by simpa [hasD] using n))
  | emp h1 => simp [hasD] at n
theorem RpAll.dp {K : PySem.W.Frag} {H : Hp} {vs : List V} {ds : List PyData} (h : RpAll K H vs ds) (n : hasD.hasDs ds = false) : DpAll K H vs ds := by
  cases h with
  | nil => exact .nil
  | cons h1 h2 =>
    simp only [hasD.hasDs, Bool.or_eq_false_iff] at n
    exact .cons (Rp.dp h1 n.1) (RpAll.dp h2 n.2)
end

/-! ### the heap: what is known for good (B), what may change (M, one entry an object) -/
structure Hs (B : Hp) (M : List (Addr × HO)) (H : Hp) : Prop where
  sub : Le B H
  own : ∀ p ∈ M, H p.1 = some p.2 ∧ B p.1 = none
  nd : (M.map (·.1)).Nodup
section
variable {B B' H H' : Hp} {M M' : List (Addr × HO)} {p q : Addr} {o o' : HO} {K : PySem.W.Frag} {xs : List V}
theorem Hs.start (H : Hp) : Hs H [] H := ⟨Same.refl H, fun _ h => absurd h (by simp), by simp⟩
theorem Hs.l (h : Hs B M H) (s : SqL K B p xs) : SqL K H p xs := le_l h.sub s
theorem Hs.t (h : Hs B M H) (s : SqT K B p xs) : SqT K H p xs := le_t h.sub s
theorem Hs.at (h : Hs B M H) (m : (p, o) ∈ M) : H p = some o := (h.own _ m).1
theorem Hs.hd (h : Hs B ((p, o) :: M) H) : H p = some o := (h.own (p, o) (by simp)).1
theorem Hs.new_nil (h : Hs B M H) (n : H p = none) : B p = none := Same.free h.sub n
theorem Hs.new (h : Hs B M H) (n : H p = none) (o : HO) : Hs B ((p, o) :: M) (upd H p o) := by
  have np : ∀ q ∈ M, q.1 ≠ p := fun q hq e => by
    have := (h.own q hq).1
    rw [e, n] at this
    cases this
  refine ⟨fun a u e => ?_, fun q hq => ?_, ?_⟩
  · rw [upd_ne (ne_of_none (h.sub _ _ e) n)]
    exact h.sub _ _ e
  · rcases List.mem_cons.mp hq with rfl | hq
    · exact ⟨upd_same, h.new_nil n⟩
    · exact ⟨by rw [upd_ne (np q hq)]; exact (h.own q hq).1, (h.own q hq).2⟩
  · rw [List.map_cons, List.nodup_cons]
    refine ⟨fun hm => ?_, h.nd⟩
    obtain ⟨q, hq, e⟩ := List.mem_map.mp hm
    exact np q hq e
theorem Hs.fix (h : Hs B ((p, o) :: M) H) : Hs (upd B p o) M H ∧ Le B (upd B p o) := by
  have nb : B p = none := (h.own (p, o) (by simp)).2
  have nd := h.nd
  rw [List.map_cons, List.nodup_cons] at nd
  refine ⟨⟨fun a u e => ?_, fun q hq => ⟨(h.own q (List.mem_cons_of_mem _ hq)).1, ?_⟩, nd.2⟩, fun a u e => ?_⟩
  · by_cases hp : a = p
    · subst hp
      rw [upd_same] at e
      cases e
      exact h.hd
    · rw [upd_ne hp] at e
      exact h.sub _ _ e
  · rw [upd_ne fun e => nd.1 (List.mem_map.mpr ⟨q, hq, e⟩)]
    exact (h.own q (List.mem_cons_of_mem _ hq)).2
  · rw [upd_ne (ne_of_none e nb)]
    exact e
theorem Hs.newB (h : Hs B M H) (n : H p = none) (o : HO) : Hs (upd B p o) M (upd H p o) ∧ Le B (upd B p o) := (h.new n o).fix
theorem Hs.wr (h : Hs B ((p, o) :: M) H) (o' : HO) : Hs B ((p, o') :: M) (upd H p o') := by
  have nb : B p = none := (h.own (p, o) (by simp)).2
  have nd := h.nd
  rw [List.map_cons, List.nodup_cons] at nd
  refine ⟨fun a u e => ?_, fun q hq => ?_, by rw [List.map_cons, List.nodup_cons]; exact nd⟩
  · rw [upd_ne (ne_of_none e nb)]
    exact h.sub _ _ e
  · rcases List.mem_cons.mp hq with rfl | hq
    · exact ⟨upd_same, nb⟩
    · have := h.own q (List.mem_cons_of_mem _ hq)
      rw [upd_ne fun e => nd.1 (List.mem_map.mpr ⟨q, hq, e⟩)]
      exact this
theorem Hs.sw (h : Hs B ((p, o) :: (q, o') :: M) H) : Hs B ((q, o') :: (p, o) :: M) H := by
  refine ⟨h.sub, fun r hr => h.own r ?_, ?_⟩
  · simp only [List.mem_cons] at hr ⊢
    rcases hr with h | h | h
    · exact .inr (.inl h)
    · exact .inl h
    · exact .inr (.inr h)
  · have nd := h.nd
    simp only [List.map_cons, List.nodup_cons, List.mem_cons, not_or] at nd ⊢
    exact ⟨⟨fun e => nd.1.1 e.symm, nd.2.1⟩, nd.1.2, nd.2.2⟩
theorem Hs.perm (h : Hs B M H) (e : M.Perm M') : Hs B M' H :=
  ⟨h.sub, fun r hr => h.own r (e.mem_iff.mpr hr), (e.map (·.1)).nodup_iff.mp h.nd⟩
theorem Hs.drop (h : Hs B ((p, o) :: M) H) : Hs B M H := by
  have nd := h.nd
  rw [List.map_cons, List.nodup_cons] at nd
  exact ⟨h.sub, fun r hr => h.own r (List.mem_cons_of_mem _ hr), nd.2⟩
theorem Hs.le (h : Hs B M H) (e : Le B' B) : Hs B' M H :=
  ⟨e.trans h.sub, fun r hr => ⟨(h.own r hr).1, Same.free e (h.own r hr).2⟩, h.nd⟩
theorem Hs.ne (h : Hs B ((p, o) :: M) H) {a : Addr} {u : HO} (e : B a = some u) : a ≠ p := ne_of_none e (h.own (p, o) (by simp)).2
end
end Sh
set_option Elab.async false
set_option linter.all false
set_option maxRecDepth 100000
/-! short names of readings, and steps through them -/
namespace Sh
open PySem PySem.Spec PyProof.Rows L2

abbrev rAddI : R2 := rI0 fun i j => .int (i + j)
abbrev rSubI : R2 := rI0 fun i j => .int (i - j)
abbrev rMulI : R2 := rI CMul fun i j => .int (i * j)
abbrev rModI : R2 := rI (fun _ j => j ≠ 0) fun i j => .int (i.fmod j)
abbrev rFdvI : R2 := rI CDivN fun i j => .int (i.fdiv j)
abbrev rPowI : R2 := rI CPow fun i j => .int (i ^ j.toNat)
abbrev rShlI : R2 := rI CShl fun i j => .int (i * 2 ^ j.toNat)
abbrev rShrI : R2 := rI (fun _ j => 0 ≤ j) fun i j => .int (i / 2 ^ j.toNat)
abbrev rLtI : R2 := rI0 fun i j => .bl (decide (i < j))
abbrev rLeI : R2 := rI0 fun i j => .bl (decide (i ≤ j))
abbrev rGtI : R2 := rI0 fun i j => .bl (decide (j < i))
abbrev rGeI : R2 := rI0 fun i j => .bl (decide (j ≤ i))
abbrev rAddS : R2 := fun x y H Q => ∃ i j, x = .str i ∧ y = .str j ∧ i.length + j.length ≤ sizeLine ∧ Q (.str (i ++ j)) H
abbrev rLtS : R2 := fun x y H Q => ∃ i j, x = .str i ∧ y = .str j ∧ Q (.bl (decide (i.cps.toList < j.cps.toList))) H
abbrev rInSg : R2 := fun x y H Q => ∃ (c : Nat) (z : Str), x = .str ⟨#[c]⟩ ∧ y = .str z ∧ Q (.bl (decide (c ∈ z.cps.toList))) H
abbrev rNotInSg : R2 := fun x y H Q => ∃ (c : Nat) (z : Str), x = .str ⟨#[c]⟩ ∧ y = .str z ∧ Q (.bl (!decide (c ∈ z.cps.toList))) H
abbrev rIsNn : R2 := fun x y H Q => y = .non ∧ Q (.bl (decide (x = .non))) H
abbrev rNotNn : R2 := fun x y H Q => y = .non ∧ Q (.bl (!decide (x = .non))) H
abbrev rInKd (K : PySem.W.Frag) (d : Addr) : R2 := fun x y H Q => ∃ (z : Str) (r : Option Value), x = .str z ∧ y = .ref d ∧ PySem.W.nsIn K d z = some r ∧ Q (.bl r.isSome) H
abbrev rNotInKd (K : PySem.W.Frag) (d : Addr) : R2 := fun x y H Q => ∃ (z : Str) (r : Option Value), x = .str z ∧ y = .ref d ∧ PySem.W.nsIn K d z = some r ∧ Q (.bl (!r.isSome)) H
abbrev rCLen (K : PySem.W.Frag) : List V → Hp → VK → Prop := fun xs H Q => ∃ x n, xs = [x] ∧ LenV K x H n ∧ Q (.int n) H
abbrev rCAbs : List V → Hp → VK → Prop := fun xs H Q => ∃ i, xs = [.int i] ∧ Q (.int (if i < 0 then -i else i)) H
abbrev rCInt : List V → Hp → VK → Prop := fun xs H Q => (∃ i, xs = [.int i] ∧ Q (.int i) H) ∨ ∃ k, xs = [.bl k] ∧ Q (.int (if k then 1 else 0)) H
abbrev rCList (K : PySem.W.Frag) : List V → Hp → VK → Prop := fun xs H Q => ∃ p ys, xs = [.ref p] ∧ (SqL K H p ys ∨ SqT K H p ys) ∧ ∀ l, H l = none → Q (.ref l) (upd H l (.lst ys))
abbrev rCTup (K : PySem.W.Frag) : List V → Hp → VK → Prop := fun xs H Q => ∃ p ys, xs = [.ref p] ∧ ((SqL K H p ys ∧ ∀ l, H l = none → Q (.ref l) (upd H l (.tup ys))) ∨ (SqT K H p ys ∧ Q (.ref p) H))
abbrev rJoin (K : PySem.W.Frag) : V → List V → Hp → VK → Prop := fun x xs H Q => ∃ a p, ∃ ys : List Str, x = .str a ∧ xs = [.ref p] ∧ (SqL K H p (ys.map V.str) ∨ SqT K H p (ys.map V.str)) ∧
  (ys.map (·.length)).sum + ys.length * a.length ≤ 16777216 ∧ Q (.str (Txt.join a ys)) H
abbrev rSlQ (K : PySem.W.Frag) : V → Option Int → Option Int → Hp → VK → Prop := fun x lo hi H Q => rSlL K x lo hi H Q ∨ rSlA K x lo hi H Q
theorem sl_seq {X : Cx} : SlR X (rSlQ X.K) := SlR.or sl_list sl_tupA
abbrev tTruth (K : PySem.W.Frag) (ta : TE) : TT := fun σ H Q => ta σ H fun x H' => ∃ k, TruV K x H' k ∧ Q k H'
/-- a list or a tuple walked -/
def iSeq (K : PySem.W.Frag) (t : TE) : TI := fun σ H R => iList K t σ H R ∨ iTup K t σ H R
theorem pi_seq {X : Cx} {tg e : Expr} {t : TE} (h : PE X e t) : PI X tg e (iSeq X.K t) :=
  ⟨fun pins s σ H R I q => q.elim ((pi_list (tg := tg) h).run pins s σ H R I) ((pi_tup (tg := tg) h).run pins s σ H R I)⟩

/-- a new object o: what follows of it -/
def Nw (H : Hp) (o : HO) (Q : VK) : Prop := ∀ p, H p = none → Q (.ref p) (upd H p o)
/-! ### steps -/
section
variable {D : Ends} {σ σ' : L2.St} {H : Hp} {Q : VK} {K : PySem.W.Frag} {t u : TS} {ta tb te : TE} {tt tu : TT} {g : TG} {i j : Nat} {v x y : V} {r : R2} {a : TA}
theorem v_seq (h : t { D with nx := u D } σ H) : tSeq t u D σ H := h
theorem v_next (h : D.nx σ H) : tNext D σ H := h
theorem v_brk (h : D.bk σ H) : tBreak D σ H := h
theorem v_cont (h : D.ct σ H) : tCont D σ H := h
theorem v_asg (h : te σ H fun x H1 => g x σ H1 D.nx) : tAsg te g D σ H := h
theorem v_name {q : L2.St → Hp → Prop} (hs : σ.set i (some v) = σ') (h : q σ' H) : gName i v σ H q := by subst hs; exact h
theorem v_ret (h : te σ H D.rt) : tRet te D σ H := h
theorem v_drop (h : te σ H fun _ H1 => D.nx σ H1) : tDrop te D σ H := h
theorem v_if {w : TS} (h : tt σ H fun b H1 => if b = true then t D σ H1 else w D σ H1) : tIfS tt t w D σ H := h
theorem v_var (e : σ[i]? = some (some v)) (h : Q v H) : tVar i σ H Q := ⟨v, e, h⟩
theorem v_c (h : Q v H) : tC v σ H Q := h
theorem v_op (h : ta σ H fun x H1 => tb σ H1 fun y H2 => r x y H2 Q) : tOp r ta tb σ H Q := h
theorem v_I0 {f : Int → Int → V} {i j : Int} (h : Q (f i j) H) : rI0 f (.int i) (.int j) H Q := ⟨i, j, rfl, rfl, h⟩
theorem v_I {C : Int → Int → Prop} {f : Int → Int → V} {i j : Int} (c : C i j) (h : Q (f i j) H) : rI C f (.int i) (.int j) H Q := ⟨i, j, rfl, rfl, c, h⟩
theorem v_test {q : Bool → Hp → Prop} (h : te σ H fun x H' => ∃ k, x = .bl k ∧ q k H') : tTest te σ H q := h
theorem v_B {q : Bool → Hp → Prop} (h : te σ H fun x H1 => ∃ c, x = .bl c ∧ q c H1) : tB te σ H q := h
theorem v_bl {b : Bool} {q : Bool → Prop} (h : q b) : ∃ k, V.bl b = .bl k ∧ q k := ⟨b, rfl, h⟩
theorem v_not {q : Bool → Hp → Prop} (h : tt σ H fun c H1 => q (!c) H1) : tNot tt σ H q := h
theorem v_and {q : Bool → Hp → Prop} (h : tt σ H fun c H1 => if c = true then tu σ H1 q else q false H1) : tAnd tt tu σ H q := h
theorem v_or {q : Bool → Hp → Prop} (h : tt σ H fun c H1 => if c = true then q true H1 else tu σ H1 q) : tOr tt tu σ H q := h
theorem v_andV (h : ta σ H fun x H1 => ∃ c, x = .bl c ∧ if c = true then tb σ H1 Q else Q (.bl false) H1) : tAndV ta tb σ H Q := h
theorem v_orV (h : ta σ H fun x H1 => ∃ c, x = .bl c ∧ if c = true then Q (.bl true) H1 else tb σ H1 Q) : tOrV ta tb σ H Q := h
theorem v_notV (h : ta σ H fun x H1 => ∃ c, x = .bl c ∧ Q (.bl (!c)) H1) : tNotV ta σ H Q := h
theorem v_ife (h : tt σ H fun c H1 => if c = true then ta σ H1 Q else tb σ H1 Q) : tIf tt ta tb σ H Q := h
theorem v_nil {q : List V → Hp → Prop} (h : q [] H) : tNil σ H q := h
theorem v_cons {b : TA} {q : List V → Hp → Prop} (h : ta σ H fun x H1 => b σ H1 fun xs H2 => q (x :: xs) H2) : tCons ta b σ H q := h
theorem v_tup (h : a σ H fun xs H1 => xs.length ≤ sizeLine ∧ Nw H1 (.tup xs) Q) : tTup a σ H Q := h
theorem v_lst (h : a σ H fun xs H1 => xs.length ≤ sizeLine ∧ Nw H1 (.lst xs) Q) : tLst a σ H Q := h
theorem v_call {sp : Sp} {dvs : List V} {E : XK} (h : a σ H fun vs H1 => sp (vs ++ dvs) H1 Q E) : tCall sp dvs E a σ H Q := h
theorem v_cb {q : List V → Hp → VK → Prop} (h : a σ H fun vs H1 => q vs H1 Q) : tCB q a σ H Q := h
theorem v_int {i : Int} (h : Q (.int i) H) : rCInt [.int i] H Q := .inl ⟨i, rfl, h⟩
theorem v_abs {i : Int} (h : Q (.int (if i < 0 then -i else i)) H) : rCAbs [.int i] H Q := ⟨i, rfl, h⟩
theorem v_eq (hs : scal x y = true) (h : Q (.bl (decide (x = y))) H) : rEq x y H Q := ⟨hs, h⟩
theorem v_ne (hs : scal x y = true) (h : Q (.bl (!decide (x = y))) H) : rNe x y H Q := ⟨hs, h⟩
theorem v_lenS {z : Str} (hz : z.length ≤ sizeLine) (h : Q (.int (z.length : Nat)) H) : rCLen K [.str z] H Q := ⟨.str z, z.length, rfl, ⟨hz, rfl⟩, h⟩
theorem v_lenL {p : Addr} {xs : List V} (hx : SqL K H p xs) (h : Q (.int (xs.length : Nat)) H) : rCLen K [.ref p] H Q := ⟨.ref p, xs.length, rfl, .inl ⟨xs, hx, rfl⟩, h⟩
theorem v_lenT {p : Addr} {xs : List V} (hx : SqT K H p xs) (h : Q (.int (xs.length : Nat)) H) : rCLen K [.ref p] H Q := ⟨.ref p, xs.length, rfl, .inr ⟨xs, hx, rfl⟩, h⟩
theorem v_ixL {p : Addr} {xs : List V} {i : Int} (hx : SqL K H p xs) (ha : atI xs i = some v) (h : Q v H) : rIxL K (.ref p) (.int i) H Q := ⟨p, xs, i, v, rfl, rfl, hx, ha, h⟩
theorem v_ixT {p : Addr} {xs : List V} {i : Int} (hx : SqT K H p xs) (ha : atI xs i = some v) (h : Q v H) : rIxT K (.ref p) (.int i) H Q := ⟨p, xs, i, v, rfl, rfl, hx, ha, h⟩
theorem v_ixS {z : Str} {i : Int} {c : Nat} (hz : z.length ≤ sizeLine) (ha : atI z.cps.toList i = some c) (h : Q (.str ⟨#[c]⟩) H) : rIxS (.str z) (.int i) H Q := ⟨z, i, c, rfl, rfl, hz, ha, h⟩
theorem v_addS {a b : Str} (hz : a.length + b.length ≤ sizeLine) (h : Q (.str (a ++ b)) H) : rAddS (.str a) (.str b) H Q := ⟨a, b, rfl, rfl, hz, h⟩
theorem v_sub {to ti : TE} {s : TSet} {q : L2.St → Hp → Prop} (h : to σ H fun o H1 => ti σ H1 fun i H2 => s o i v H2 fun H3 => q σ H3) : gSub to ti s v σ H q := h
theorem v_setL {p : Addr} {xs : List V} {k : Int} {j : Nat} {q : Hp → Prop} (hx : H p = some (.lst xs)) (hk : ixN xs.length k = some j) (h : q (upd H p (.lst (xs.set j v)))) : rSetL (.ref p) (.int k) v H q := ⟨p, xs, k, j, rfl, rfl, hx, hk, h⟩
theorem v_inSg {c : Nat} {z : Str} (h : Q (.bl (decide (c ∈ z.cps.toList))) H) : rInSg (.str ⟨#[c]⟩) (.str z) H Q := ⟨c, z, rfl, rfl, h⟩
theorem v_notInSg {c : Nat} {z : Str} (h : Q (.bl (!decide (c ∈ z.cps.toList))) H) : rNotInSg (.str ⟨#[c]⟩) (.str z) H Q := ⟨c, z, rfl, rfl, h⟩
theorem v_isN (h : Q (.bl (decide (x = .non))) H) : rIsNn x .non H Q := ⟨rfl, h⟩
theorem v_notN (h : Q (.bl (!decide (x = .non))) H) : rNotNn x .non H Q := ⟨rfl, h⟩
theorem v_part {q : Option Int → Hp → Prop} (h : te σ H fun x H1 => ∃ i, x = .int i ∧ q (some i) H1) : tPart te σ H q := h
theorem v_nopart {q : Option Int → Hp → Prop} (h : q none H) : tNoPart σ H q := h
theorem v_pint {i : Int} {q : Int → Prop} (h : q i) : ∃ k, V.int i = .int k ∧ q k := ⟨i, rfl, h⟩
theorem v_setLE {p : Addr} {xs ys : List V} {k : Int} {j : Nat} {q : Hp → Prop} (hx : H p = some (.lst xs)) (hk : ixN xs.length k = some j) (he : xs.set j v = ys) (h : q (upd H p (.lst ys))) : rSetL (.ref p) (.int k) v H q := ⟨p, xs, k, j, rfl, rfl, hx, hk, by rw [he]; exact h⟩
theorem at_lit {α : Type} {xs : List α} (n : Nat) {v : α} (h : xs[n]? = some v) : atI xs (@OfNat.ofNat Int n _) = some v := atI_nat h
theorem v_modP {i j : Int} (hj : 0 < j) (h : ∀ r, 0 ≤ r → r < j → Q (.int r) H) : rModI (.int i) (.int j) H Q := ⟨i, j, rfl, rfl, by omega, h _ (Int.fmod_nonneg_of_pos _ hj) (Int.fmod_lt_of_pos _ hj)⟩
theorem v_listL {p : Addr} {xs : List V} (hx : SqL K H p xs) (h : Nw H (.lst xs) Q) : rCList K [.ref p] H Q := ⟨p, xs, rfl, .inl hx, h⟩
theorem v_listT {p : Addr} {xs : List V} (hx : SqT K H p xs) (h : Nw H (.lst xs) Q) : rCList K [.ref p] H Q := ⟨p, xs, rfl, .inr hx, h⟩
theorem v_tupleL {p : Addr} {xs : List V} (hx : SqL K H p xs) (h : Nw H (.tup xs) Q) : rCTup K [.ref p] H Q := ⟨p, xs, rfl, .inl ⟨hx, h⟩⟩
theorem v_tupleT {p : Addr} {xs : List V} (hx : SqT K H p xs) (h : Q (.ref p) H) : rCTup K [.ref p] H Q := ⟨p, xs, rfl, .inr ⟨hx, h⟩⟩
theorem v_cat {p q : Addr} {xs zs : List V} (h1 : H p = some (.lst xs)) (h2 : H q = some (.lst zs)) (hl : xs.length + zs.length ≤ sizeLine) (h : Nw H (.lst (xs ++ zs)) Q) : rCat (.ref p) (.ref q) H Q := ⟨p, q, xs, zs, rfl, rfl, h1, h2, hl, h⟩
theorem v_size {xs : List V} {c : Prop} (hl : xs.length ≤ sizeLine) (h : c) : xs.length ≤ sizeLine ∧ c := ⟨hl, h⟩
end
end Sh
set_option Elab.async false
set_option linter.all false
set_option maxRecDepth 100000
/-! new objects, loops and comprehensions over what is known and what changes -/
namespace Sh
open PySem PySem.Spec PyProof.Rows L2
section
variable {B H : Hp} {M : List (Addr × HO)} {Q : VK} {o : HO} {D : Ends} {σ : L2.St} {K : PySem.W.Frag} {g : TG} {tb u : TS} {tt : TT} {te : TE} {wi : TI} {a : TA} {J : It} {n : Nat} {G : Hp → Prop} {Y : Nat → Hp → V → Hp → Prop} {vs : List Nat}
/-- a new object that stays as it is -/
theorem v_newB (hs : Hs B M H) (h : ∀ (p : Addr) (B' H' : Hp), Le B B' → Hs B' M H' → B' p = some o → Q (.ref p) H') : Nw H o Q := fun p hp => by
  obtain ⟨h1, h2⟩ := hs.newB hp o
  exact h p _ _ h2 h1 upd_same
/-- a new object that will change -/
theorem v_newM (hs : Hs B M H) (h : ∀ (p : Addr) (H' : Hp), Hs B ((p, o) :: M) H' → Q (.ref p) H') : Nw H o Q := fun p hp => h p _ (hs.new hp o)
theorem v_slL {q : VK} {p : Addr} {xs : List V} {lo hi : Option Int} (hx : SqL K H p xs) (h : Nw H (.lst (cutV xs lo hi)) q) : rSlL K (.ref p) lo hi H q := ⟨p, xs, rfl, hx, h⟩
theorem v_slS {q : VK} {z : Str} {lo hi : Option Int} (hz : z.length ≤ sizeLine) (h : q (.str (cutS z lo hi)) H) : rSlS (.str z) lo hi H q := ⟨z, rfl, hz, h⟩
theorem v_sl {r : V → Option Int → Option Int → Hp → VK → Prop} {tl th : TO} (h : te σ H fun x H1 => tl σ H1 fun l H2 => th σ H2 fun u H3 => r x l u H3 Q) : tSl r te tl th σ H Q := h

theorem map_some {α β : Type} {f : α → β} {l : List α} {i : Nat} {x : β} (h : (l.map f)[i]? = some x) : ∃ z, l[i]? = some z ∧ x = f z := by
  rw [List.getElem?_map] at h
  cases e : l[i]? with
  | none => rw [e] at h; cases h
  | some z => rw [e] at h; exact ⟨z, rfl, (Option.some.inj h).symm⟩
theorem at_k {α : Type} {xs : List α} {z : Int} {v : α} (h0 : 0 ≤ z) (h : xs[z.toNat]? = some v) : atI xs z = some v := by
  obtain ⟨m, rfl⟩ := Int.eq_ofNat_of_zero_le h0
  exact atI_nat h
theorem sz_of {n : Nat} (h : n ≤ 1000000) : n ≤ sizeLine := Nat.le_trans h (by decide)
theorem sz_lt {n : Nat} (h : n ≤ 1000000) : n < sizeLine := Nat.lt_of_le_of_lt h (by decide)
theorem cut_all (xs : List V) : cutV xs none none = xs := by
  unfold cutV
  rw [HT.sIx_none, HT.sIx_none, List.drop_zero, Nat.sub_zero, List.take_length]
theorem cut_to (xs : List V) (k : Nat) : cutV xs none (some (k : Int)) = xs.take k := by
  unfold cutV
  rw [HT.sIx_none, HT.sIx_nat, List.drop_zero, Nat.sub_zero, List.take_eq_take_iff]
  omega
theorem cut_from (xs : List V) (k : Nat) : cutV xs (some (k : Int)) none = xs.drop k := by
  unfold cutV
  rw [HT.sIx_nat, HT.sIx_none]
  by_cases h : k ≤ xs.length
  · rw [Nat.min_eq_left h]
    exact List.take_of_length_le (by simp)
  · rw [Nat.min_eq_right (by omega), List.drop_eq_nil_of_le (Nat.le_refl _), List.drop_eq_nil_of_le (by omega), List.take_nil]
theorem cut_mid (xs : List V) (k m : Nat) : cutV xs (some (k : Int)) (some (m : Int)) = (xs.drop k).take (m - k) := by
  unfold cutV
  rw [HT.sIx_nat, HT.sIx_nat]
  by_cases h : k ≤ xs.length
  · rw [Nat.min_eq_left h, List.take_eq_take_iff, List.length_drop]
    omega
  · have e1 : min k xs.length = xs.length := by omega
    rw [e1, List.drop_eq_nil_of_le (Nat.le_refl _), List.drop_eq_nil_of_le (show xs.length ≤ k by omega), List.take_nil, List.take_nil]
/-- a statement, then the rest, with a word between them -/
theorem v_seqP (P : L2.St → Hp → Prop) {t1 t2 : TS} (h1 : ∀ N : L2.St → Hp → Prop, (∀ σ' H', P σ' H' → N σ' H') → t1 { D with nx := N } σ H) (h2 : ∀ σ' H', P σ' H' → t2 D σ' H') : tSeq t1 t2 D σ H := h1 (t2 D) h2
/-- an if whose test leaves the heap; C: what its answer tells -/
theorem v_ifC {t1 t2 : TS} (C : Bool → Prop) (ht : ∀ q : Bool → Hp → Prop, (∀ b, C b → q b H) → tt σ H q) (h1 : C true → t1 D σ H) (h2 : C false → t2 D σ H) : tIfS tt t1 t2 D σ H :=
  ht (fun b H1 => if b = true then t1 D σ H1 else t2 D σ H1) fun b hb => by
    cases b with
    | true => rw [if_pos rfl]; exact h1 hb
    | false => rw [if_neg (by decide)]; exact h2 hb
/-! ### loops -/
/-- what a loop's rest is asked, the walked thing known -/
def ForR (g : TG) (tb : TS) (D : Ends) (σ : L2.St) (J : It) (H : Hp) : Prop := ∃ W : Nat → Nat → L2.St → Hp → Prop, (∃ m, W 0 m σ H) ∧ ∀ i m σ H, W i m σ H →
      (J.stop i H ∧ D.nx σ H) ∨ (J.go i H ∧ ∃ N : L2.St → Hp → Prop, (∀ σ' H', N σ' H' → ∃ m', m' < m ∧ W (i + 1) m' σ' H') ∧ ∀ x H', J.yld i H x H' → g x σ H' fun σ2 H2 => tb { D with nx := N, ct := N, bk := D.nx } σ2 H2)
def AtL (K : PySem.W.Frag) (x : V) (H : Hp) (R : It → Hp → Prop) : Prop := ∃ a, x = .ref a ∧ (∃ xs, SqL K H a xs) ∧ R (Itl K a) H
def AtT (K : PySem.W.Frag) (x : V) (H : Hp) (R : It → Hp → Prop) : Prop := ∃ a, x = .ref a ∧ (∃ xs, SqT K H a xs) ∧ R (Itt K a) H
def AtS (x : V) (H : Hp) (R : It → Hp → Prop) : Prop := ∃ z, x = .str z ∧ R (Its z) H
def AtR1 (vs : List V) (H : Hp) (R : It → Hp → Prop) : Prop := ∃ j : Int, vs = [.int j] ∧ -(2 ^ 62) ≤ j ∧ j < 2 ^ 62 ∧ R (Itr 0 j.toNat) H
def AtR2 (vs : List V) (H : Hp) (R : It → Hp → Prop) : Prop := ∃ i j : Int, vs = [.int i, .int j] ∧ (-(2 ^ 62) ≤ i ∧ i < 2 ^ 62 ∧ -(2 ^ 62) ≤ j ∧ j < 2 ^ 62) ∧ R (Itr i (j - i).toNat) H
def IV (B : Hp) (I : Nat → L2.St → Hp → List (Addr × HO) → Prop) (i : Nat) : L2.St → Hp → Prop := fun σ H => ∃ B' M', Le B B' ∧ Hs B' M' H ∧ I i σ B' M'
theorem IV.mk {B B' H : Hp} {M' : List (Addr × HO)} {I : Nat → L2.St → Hp → List (Addr × HO) → Prop} {i : Nat} {σ : L2.St} (l : Le B B') (h : Hs B' M' H) (x : I i σ B' M') : IV B I i σ H := ⟨B', M', l, h, x⟩
theorem v_forW (w : L2.Walk J n G Y) (hs : Hs B M H) (hG : ∀ B' M' H', Le B B' → Hs B' M' H' → G H') (I : Nat → L2.St → Hp → List (Addr × HO) → Prop) (h0 : I 0 σ B M)
    (step : ∀ i x σ' B' M' H' H'', i < n → Le B B' → Hs B' M' H' → I i σ' B' M' → Y i H' x H'' → g x σ' H'' fun σ2 H2 => tb { D with nx := IV B I (i + 1), ct := IV B I (i + 1), bk := D.nx } σ2 H2)
    (done : ∀ σ' B' M' H', Le B B' → Hs B' M' H' → I n σ' B' M' → D.nx σ' H') : ForR g tb D σ J H :=
  L2.for_it w (IV B I) ⟨B, M, Same.refl B, hs, h0⟩ (fun i σ H _ ⟨B', M', l, h, _⟩ => hG B' M' H l h)
    (fun i x σ H H' hi ⟨B', M', l, h, x1⟩ y => step i x σ B' M' H H' hi l h x1 y) (fun σ H ⟨B', M', l, h, x1⟩ => done σ B' M' H l h x1)
theorem v_for (h : wi σ H fun J H1 => ForR g tb D σ J H1) : tFor wi g tb D σ H := h
theorem v_iList {R : It → Hp → Prop} (h : te σ H fun x H1 => AtL K x H1 R) : iList K te σ H R := h
theorem v_iTup {R : It → Hp → Prop} (h : te σ H fun x H1 => AtT K x H1 R) : iTup K te σ H R := h
theorem v_iStr {R : It → Hp → Prop} (h : te σ H fun v H1 => AtS v H1 R) : iStr te σ H R := h
theorem v_iR1 {R : It → Hp → Prop} (h : a σ H fun vs H1 => AtR1 vs H1 R) : iRng1 a σ H R := h
theorem v_iR2 {R : It → Hp → Prop} (h : a σ H fun vs H1 => AtR2 vs H1 R) : iRng2 a σ H R := h
theorem v_atL {p : Addr} {xs : List V} {R : It → Hp → Prop} (hx : SqL K H p xs) (h : R (Itl K p) H) : AtL K (.ref p) H R := ⟨p, rfl, ⟨xs, hx⟩, h⟩
theorem v_atT {p : Addr} {xs : List V} {R : It → Hp → Prop} (hx : SqT K H p xs) (h : R (Itt K p) H) : AtT K (.ref p) H R := ⟨p, rfl, ⟨xs, hx⟩, h⟩
theorem v_atS {z : Str} {R : It → Hp → Prop} (h : R (Its z) H) : AtS (.str z) H R := ⟨z, rfl, h⟩
theorem v_atR1 {j : Int} {R : It → Hp → Prop} (h1 : -(2 ^ 62) ≤ j ∧ j < 2 ^ 62) (h : R (Itr 0 j.toNat) H) : AtR1 [.int j] H R := ⟨j, rfl, h1.1, h1.2, h⟩
theorem v_atR2 {i j : Int} {R : It → Hp → Prop} (h1 : -(2 ^ 62) ≤ i ∧ i < 2 ^ 62 ∧ -(2 ^ 62) ≤ j ∧ j < 2 ^ 62) (h : R (Itr i (j - i).toNat) H) : AtR2 [.int i, .int j] H R := ⟨i, j, rfl, h1, h⟩
/-- over a list that is known -/
theorem v_forL {p : Addr} {xs : List V} (hx : SqL K B p xs) (hs : Hs B M H) (I : Nat → L2.St → Hp → List (Addr × HO) → Prop) (h0 : I 0 σ B M)
    (step : ∀ i x σ' B' M' H', i < xs.length → xs[i]? = some x → Le B B' → Hs B' M' H' → I i σ' B' M' → g x σ' H' fun σ2 H2 => tb { D with nx := IV B I (i + 1), ct := IV B I (i + 1), bk := D.nx } σ2 H2)
    (done : ∀ σ' B' M' H', Le B B' → Hs B' M' H' → I xs.length σ' B' M' → D.nx σ' H') :
    ForR g tb D σ (Itl K p) H :=
  v_forW L2.walk_list hs (fun B' M' H' l h => h.l (le_l l hx)) I h0 (fun i x σ' B' M' H' H'' hi l h x1 y => by obtain ⟨rfl, y⟩ := y; exact step i x σ' B' M' _ hi y l h x1) done
theorem v_forT {p : Addr} {xs : List V} (hx : SqT K B p xs) (hs : Hs B M H) (I : Nat → L2.St → Hp → List (Addr × HO) → Prop) (h0 : I 0 σ B M)
    (step : ∀ i x σ' B' M' H', i < xs.length → xs[i]? = some x → Le B B' → Hs B' M' H' → I i σ' B' M' → g x σ' H' fun σ2 H2 => tb { D with nx := IV B I (i + 1), ct := IV B I (i + 1), bk := D.nx } σ2 H2)
    (done : ∀ σ' B' M' H', Le B B' → Hs B' M' H' → I xs.length σ' B' M' → D.nx σ' H') :
    ForR g tb D σ (Itt K p) H :=
  v_forW L2.walk_tup hs (fun B' M' H' l h => h.t (le_t l hx)) I h0 (fun i x σ' B' M' H' H'' hi l h x1 y => by obtain ⟨rfl, y⟩ := y; exact step i x σ' B' M' _ hi y l h x1) done
theorem v_forS {z : Str} (hs : Hs B M H) (I : Nat → L2.St → Hp → List (Addr × HO) → Prop) (h0 : I 0 σ B M)
    (step : ∀ i c σ' B' M' H', i < z.cps.size → z.cps[i]? = some c → Le B B' → Hs B' M' H' → I i σ' B' M' → g (.str ⟨#[c]⟩) σ' H' fun σ2 H2 => tb { D with nx := IV B I (i + 1), ct := IV B I (i + 1), bk := D.nx } σ2 H2)
    (done : ∀ σ' B' M' H', Le B B' → Hs B' M' H' → I z.cps.size σ' B' M' → D.nx σ' H') :
    ForR g tb D σ (Its z) H :=
  v_forW L2.walk_str hs (fun _ _ _ _ _ => trivial) I h0 (fun i x σ' B' M' H' H'' hi l h x1 y => by obtain ⟨rfl, c, y, rfl⟩ := y; exact step i c σ' B' M' _ hi y l h x1) done
theorem v_forR {lo : Int} (hs : Hs B M H) (I : Nat → L2.St → Hp → List (Addr × HO) → Prop) (h0 : I 0 σ B M)
    (step : ∀ i σ' B' M' H', i < n → Le B B' → Hs B' M' H' → I i σ' B' M' → g (.int (lo + i)) σ' H' fun σ2 H2 => tb { D with nx := IV B I (i + 1), ct := IV B I (i + 1), bk := D.nx } σ2 H2)
    (done : ∀ σ' B' M' H', Le B B' → Hs B' M' H' → I n σ' B' M' → D.nx σ' H') :
    ForR g tb D σ (Itr lo n) H :=
  v_forW L2.walk_range hs (fun _ _ _ _ _ => trivial) I h0 (fun i x σ' B' M' H' H'' hi l h x1 y => by obtain ⟨rfl, rfl⟩ := y; exact step i σ' B' M' _ hi l h x1) done

/-! ### comprehensions: acc, what the new list at p holds -/
def LcR (g : TG) (tt : TT) (te : TE) (vs : List Nat) (σ : L2.St) (Q : VK) (J : It) (H : Hp) : Prop := ∀ D, H D = none → ∃ W : Nat → Nat → Hp → Prop, (∃ m, W 0 m (upd H D (.lst []))) ∧ ∀ i m H, W i m H →
      (J.stop i H ∧ Q (.ref D) H) ∨ (J.go i H ∧ ∃ Nx : Hp → Prop, (∀ H', Nx H' → ∃ m', m' < m ∧ W (i + 1) m' H') ∧ ∀ x H', J.yld i H x H' → g x (wipe σ vs) H' fun σ2 H2 => wipe σ2 vs = wipe σ vs ∧ tt σ2 H2 fun b H3 =>
        if b = true then te σ2 H3 fun y H4 => ∃ acc, H4 D = some (.lst acc) ∧ acc.length < sizeLine ∧ Nx (upd H4 D (.lst (acc ++ [y]))) else Nx H3)
def IP (B : Hp) (I : Nat → List V → Hp → List (Addr × HO) → Prop) (p : Addr) (i : Nat) (H : Hp) : Prop := ∃ acc B' M', acc.length ≤ i ∧ Le B B' ∧ Hs B' ((p, .lst acc) :: M') H ∧ I i acc B' M'
/-- behind a turn whose test fails -/
theorem IP.mk {B B' H : Hp} {M' : List (Addr × HO)} {I : Nat → List V → Hp → List (Addr × HO) → Prop} {p : Addr} {acc : List V} {i : Nat} (ha : acc.length ≤ i) (l : Le B B') (h : Hs B' ((p, .lst acc) :: M') H) (x : I i acc B' M') : IP B I p i H := ⟨acc, B', M', ha, l, h, x⟩
/-- the element y is to be put behind what stands at p -/
def IE (B : Hp) (I : Nat → List V → Hp → List (Addr × HO) → Prop) (p : Addr) (i : Nat) : VK := fun y H => ∃ acc, H p = some (.lst acc) ∧ acc.length < sizeLine ∧ IP B I p i (upd H p (.lst (acc ++ [y])))
theorem IE.mk {B B' H : Hp} {M' : List (Addr × HO)} {I : Nat → List V → Hp → List (Addr × HO) → Prop} {p : Addr} {acc : List V} {i n : Nat} {y : V} (ha : acc.length ≤ i) (hi : i < n) (hn : n ≤ 1000000) (l : Le B B') (h : Hs B' ((p, .lst acc) :: M') H) (x : I (i + 1) (acc ++ [y]) B' M') : IE B I p (i + 1) y H :=
  ⟨acc, h.hd, Nat.lt_of_le_of_lt (show acc.length ≤ 1000000 by omega) (by decide), acc ++ [y], B', M', by simp; omega, l, h.wr _, x⟩
theorem v_lcW (w : L2.Walk J n G Y) (hs : Hs B M H) (hG : ∀ B' M' H', Le B B' → Hs B' M' H' → G H') (I : Nat → List V → Hp → List (Addr × HO) → Prop) (h0 : I 0 [] B M)
    (step : ∀ i x p acc B' M' H' H'', i < n → acc.length ≤ i → Le B B' → Hs B' ((p, .lst acc) :: M') H' → I i acc B' M' → Y i H' x H'' → g x (wipe σ vs) H'' fun σ2 H2 => wipe σ2 vs = wipe σ vs ∧ tt σ2 H2 fun b H3 =>
      if b = true then te σ2 H3 (IE B I p (i + 1)) else IP B I p (i + 1) H3)
    (done : ∀ p acc B' M' H', acc.length ≤ n → Le B B' → Hs B' ((p, .lst acc) :: M') H' → I n acc B' M' → Q (.ref p) H') :
    LcR g tt te vs σ Q J H := by
  intro D hD
  exact L2.lc_it (n := n) w (IP B I D) ⟨[], B, M, Nat.le_refl _, Same.refl B, hs.new hD _, h0⟩
    (fun i H _ ⟨acc, B', M', _, l, h, _⟩ => hG B' _ H l h) (fun i x H H' hi ⟨acc, B', M', ha, l, h, x1⟩ y => step i x D acc B' M' H H' hi ha l h x1 y) (fun H ⟨acc, B', M', ha, l, h, x1⟩ => done D acc B' M' H ha l h x1)
theorem v_lc (h : wi σ H fun J H1 => LcR g tt te vs σ Q J H1) : tLc wi g tt te vs σ H Q := h
theorem v_lcL {p0 : Addr} {xs : List V} (hx : SqL K B p0 xs) (hs : Hs B M H) (I : Nat → List V → Hp → List (Addr × HO) → Prop) (h0 : I 0 [] B M)
    (step : ∀ i x p acc B' M' H', i < xs.length → xs[i]? = some x → acc.length ≤ i → Le B B' → Hs B' ((p, .lst acc) :: M') H' → I i acc B' M' → g x (wipe σ vs) H' fun σ2 H2 => wipe σ2 vs = wipe σ vs ∧ tt σ2 H2 fun b H3 =>
      if b = true then te σ2 H3 (IE B I p (i + 1)) else IP B I p (i + 1) H3)
    (done : ∀ p acc B' M' H', acc.length ≤ xs.length → Le B B' → Hs B' ((p, .lst acc) :: M') H' → I xs.length acc B' M' → Q (.ref p) H') :
    LcR g tt te vs σ Q (Itl K p0) H :=
  v_lcW L2.walk_list hs (fun B' M' H' l h => h.l (le_l l hx)) I h0 (fun i x p acc B' M' H' H'' hi ha l h x1 y => by obtain ⟨rfl, y⟩ := y; exact step i x p acc B' M' _ hi y ha l h x1) done
theorem v_lcT {p0 : Addr} {xs : List V} (hx : SqT K B p0 xs) (hs : Hs B M H) (I : Nat → List V → Hp → List (Addr × HO) → Prop) (h0 : I 0 [] B M)
    (step : ∀ i x p acc B' M' H', i < xs.length → xs[i]? = some x → acc.length ≤ i → Le B B' → Hs B' ((p, .lst acc) :: M') H' → I i acc B' M' → g x (wipe σ vs) H' fun σ2 H2 => wipe σ2 vs = wipe σ vs ∧ tt σ2 H2 fun b H3 =>
      if b = true then te σ2 H3 (IE B I p (i + 1)) else IP B I p (i + 1) H3)
    (done : ∀ p acc B' M' H', acc.length ≤ xs.length → Le B B' → Hs B' ((p, .lst acc) :: M') H' → I xs.length acc B' M' → Q (.ref p) H') :
    LcR g tt te vs σ Q (Itt K p0) H :=
  v_lcW L2.walk_tup hs (fun B' M' H' l h => h.t (le_t l hx)) I h0 (fun i x p acc B' M' H' H'' hi ha l h x1 y => by obtain ⟨rfl, y⟩ := y; exact step i x p acc B' M' _ hi y ha l h x1) done
theorem v_lcS {z : Str} (hs : Hs B M H) (I : Nat → List V → Hp → List (Addr × HO) → Prop) (h0 : I 0 [] B M)
    (step : ∀ i c p acc B' M' H', i < z.cps.size → z.cps[i]? = some c → acc.length ≤ i → Le B B' → Hs B' ((p, .lst acc) :: M') H' → I i acc B' M' → g (.str ⟨#[c]⟩) (wipe σ vs) H' fun σ2 H2 => wipe σ2 vs = wipe σ vs ∧ tt σ2 H2 fun b H3 =>
      if b = true then te σ2 H3 (IE B I p (i + 1)) else IP B I p (i + 1) H3)
    (done : ∀ p acc B' M' H', acc.length ≤ z.cps.size → Le B B' → Hs B' ((p, .lst acc) :: M') H' → I z.cps.size acc B' M' → Q (.ref p) H') :
    LcR g tt te vs σ Q (Its z) H :=
  v_lcW L2.walk_str hs (fun _ _ _ _ _ => trivial) I h0 (fun i x p acc B' M' H' H'' hi ha l h x1 y => by obtain ⟨rfl, c, y, rfl⟩ := y; exact step i c p acc B' M' _ hi y ha l h x1) done
theorem v_lcR {lo : Int} (hs : Hs B M H) (I : Nat → List V → Hp → List (Addr × HO) → Prop) (h0 : I 0 [] B M)
    (step : ∀ i p acc B' M' H', i < n → acc.length ≤ i → Le B B' → Hs B' ((p, .lst acc) :: M') H' → I i acc B' M' → g (.int (lo + i)) (wipe σ vs) H' fun σ2 H2 => wipe σ2 vs = wipe σ vs ∧ tt σ2 H2 fun b H3 =>
      if b = true then te σ2 H3 (IE B I p (i + 1)) else IP B I p (i + 1) H3)
    (done : ∀ p acc B' M' H', acc.length ≤ n → Le B B' → Hs B' ((p, .lst acc) :: M') H' → I n acc B' M' → Q (.ref p) H') :
    LcR g tt te vs σ Q (Itr lo n) H :=
  v_lcW L2.walk_range hs (fun _ _ _ _ _ => trivial) I h0 (fun i x p acc B' M' H' H'' hi ha l h x1 y => by obtain ⟨rfl, rfl⟩ := y; exact step i p acc B' M' _ hi ha l h x1) done
theorem v_yes {q : Bool → Hp → Prop} (h : q true H) : tYes σ H q := h
/-- a while: the measure m is of what the invariant tells -/
def NW (B : Hp) (I : Nat → L2.St → Hp → List (Addr × HO) → Prop) (m : Nat) : L2.St → Hp → Prop := fun σ H => ∃ m', m' < m ∧ IV B I m' σ H
theorem v_turn {I : Nat → L2.St → Hp → List (Addr × HO) → Prop} {m : Nat} (h : tb { D with nx := NW B I m, ct := NW B I m, bk := D.nx } σ H) :
    ∃ N : L2.St → Hp → Prop, (∀ σ' H', N σ' H' → ∃ m', m' < m ∧ IV B I m' σ' H') ∧ tb { D with nx := N, ct := N, bk := D.nx } σ H := ⟨NW B I m, fun _ _ h => h, h⟩
theorem v_while {c : TT} (I : Nat → L2.St → Hp → List (Addr × HO) → Prop) (hs : Hs B M H) (m0 : Nat) (h0 : I m0 σ B M)
    (step : ∀ m σ' B' M' H', Le B B' → Hs B' M' H' → I m σ' B' M' → c σ' H' fun b H1 => if b = true then ∃ N : L2.St → Hp → Prop, (∀ σ' H', N σ' H' → ∃ m', m' < m ∧ IV B I m' σ' H') ∧ tb { D with nx := N, ct := N, bk := D.nx } σ' H1 else D.nx σ' H1) : tWhile c tb D σ H :=
  ⟨IV B I, ⟨m0, B, M, Same.refl B, hs, h0⟩, fun m σ' H' ⟨B', M', l, h, x⟩ => step m σ' B' M' H' l h x⟩
end
end Sh
set_option Elab.async false
set_option linter.all false
set_option maxRecDepth 100000
/-! isinstance of data -/
namespace Sh
open PySem PySem.Spec PyProof.Rows L2
def tyN : PyData → String
  | .none => "NoneType"
  | .bool _ => "bool"
  | .int _ => "int"
  | .str _ => "str"
  | .list _ => "list"
  | .tuple _ => "tuple"
  | .dict _ => "dict"
section
variable {B H : Hp} {M : List (Addr × HO)} {Q : VK} {K : PySem.W.Frag} {v : V} {d : PyData}
theorem rp_ty (h : Rp K H v d) : TyX K H v (.type (tyN d)) := by
  cases h with
  | non => exact .base .non
  | bl b => exact .base (.bl b)
  | int i => exact .base (.int i)
  | str x => exact .base (.str x)
  | lst h _ =>
    rcases h with (h | ⟨o, h⟩) | ⟨o, _, _, h, c, _⟩
    · exact .base (.lst h)
    · exact .base (.frz h)
    · exact .kList h c
  | tup h _ => exact .base (.tup h)
  | emp h =>
    rcases h with h | ⟨o, h⟩
    · exact .base (.dK h)
    · exact .fDict h
def isLT : PyData → Bool
  | .list _ => true
  | .tuple _ => true
  | _ => false
def isStr : PyData → Bool
  | .str _ => true
  | _ => false
def isBool : PyData → Bool
  | .bool _ => true
  | _ => false
def isIntB : PyData → Bool
  | .int _ => true
  | .bool _ => true
  | _ => false
theorem kB (a b : String) (r : Bool) (h : kitB a b = some r) : PySem.W.kitOne K (.type a) (.type b) = some r := kit_ty h
theorem kit_str (d : PyData) : PySem.W.kitOne K (.type (tyN d)) (.type "str") = some (isStr d) := by
  cases d <;> (dsimp only [tyN, isStr, isBool, isIntB]; exact kB _ _ _ (by decide +kernel))
theorem kit_bool (d : PyData) : PySem.W.kitOne K (.type (tyN d)) (.type "bool") = some (isBool d) := by
  cases d <;> (dsimp only [tyN, isStr, isBool, isIntB]; exact kB _ _ _ (by decide +kernel))
theorem kit_int (d : PyData) : PySem.W.kitOne K (.type (tyN d)) (.type "int") = some (isIntB d) := by
  cases d <;> (dsimp only [tyN, isStr, isBool, isIntB]; exact kB _ _ _ (by decide +kernel))
theorem kit_LT (d : PyData) : PySem.W.kitAny K (.type (tyN d)) [.type "tuple", .type "list"] = some (isLT d) := by
  have tup : PySem.W.kitOne K (.type (tyN d)) (.type "tuple") = some (match d with | .tuple _ => true | _ => false) := by
    cases d <;> (dsimp only [tyN, isStr, isBool, isIntB]; exact kB _ _ _ (by decide +kernel))
  have lst : PySem.W.kitOne K (.type (tyN d)) (.type "list") = some (match d with | .list _ => true | _ => false) := by
    cases d <;> (dsimp only [tyN, isStr, isBool, isIntB]; exact kB _ _ _ (by decide +kernel))
  unfold PySem.W.kitAny PySem.W.kitAny PySem.W.kitAny
  rw [tup, lst]
  cases d <;> rfl
theorem v_isiS (hr : Rp K H v d) (h : Q (.bl (isStr d)) H) : rIsi K [v, .ty "str"] H Q := ⟨v, .ty "str", _, .type "str", _, rfl, .ty _, rp_ty hr, kit_str d, h⟩
theorem v_isiB (hr : Rp K H v d) (h : Q (.bl (isBool d)) H) : rIsi K [v, .ty "bool"] H Q := ⟨v, .ty "bool", _, .type "bool", _, rfl, .ty _, rp_ty hr, kit_bool d, h⟩
theorem v_isiI (hr : Rp K H v d) (h : Q (.bl (isIntB d)) H) : rIsi K [v, .ty "int"] H Q := ⟨v, .ty "int", _, .type "int", _, rfl, .ty _, rp_ty hr, kit_int d, h⟩
theorem v_isiT {tp : Addr} (ht : H tp = some (.tup [.ty "tuple", .ty "list"])) (hr : Rp K H v d) (h : Q (.bl (isLT d)) H) : rIsiT K [v, .ref tp] H Q :=
  ⟨v, tp, [.ty "tuple", .ty "list"], _, [.type "tuple", .type "list"], _, rfl, ht, .cons (.ty _) (.cons (.ty _) .nil), rp_ty hr, kit_LT d, h⟩
theorem Hs.r (h : Hs B M H) (s : Rp K B v d) : Rp K H v d := s.up h.sub
end
/-! ### texts -/
open SX (S)
theorem S_size (l : List Nat) : (S l).cps.size = l.length := by simp [S]
theorem S_length (l : List Nat) : (S l).length = l.length := SX.S_len l
theorem S_tl (l : List Nat) : (S l).cps.toList = l := rfl
theorem S_get (l : List Nat) (i : Nat) : (S l).cps[i]? = l[i]? := by simp [S]
theorem S_one (c : Nat) : (⟨#[c]⟩ : Str) = S [c] := rfl
theorem joinL_nil : ∀ ys : List (List Nat), TL.joinL [] ys = ys.flatten
  | [] => rfl
  | [p] => by simp [TL.joinL]
  | p :: q :: r => by
    show p ++ ([] ++ TL.joinL [] (q :: r)) = _
    rw [joinL_nil (q :: r)]
    rfl
theorem join_signs (l : List Nat) : Txt.join (S []) (l.map fun c => S [c]) = S l := by
  have e : (l.map fun c => S [c]) = (l.map fun c => [c]).map S := by rw [List.map_map]; rfl
  rw [e, SX.join_S, joinL_nil]
  congr 1
  induction l with
  | nil => rfl
  | cons x l ih =>
    rw [List.map_cons, List.flatten_cons, ih (by rw [List.map_map]; rfl)]
    rfl
theorem v_join {K : PySem.W.Frag} {Q : VK} {H : Hp} {p : Addr} {l : List Nat} (h : SqL K H p (l.map fun c => V.str (S [c]))) (hl : l.length ≤ 1000000) (q : Q (.str (S l)) H) : rJoin K (.str (S [])) [.ref p] H Q := by
  refine ⟨S [], p, l.map fun c => S [c], rfl, rfl, .inl ?_, ?_, ?_⟩
  · rw [List.map_map]
    exact h
  · rw [List.map_map, List.length_map, S_length]
    have e : ∀ m : List Nat, (m.map ((fun x : Str => x.length) ∘ fun c => S [c])).sum = m.length := by
      intro m
      induction m with
      | nil => rfl
      | cons x m ih =>
        rw [List.map_cons, List.sum_cons, ih]
        show (S [x]).length + m.length = m.length + 1
        rw [S_length]
        simp
        omega
    rw [e]
    simp
    omega
  · rw [join_signs]
    exact q

/-! ### methods, dicts -/
section
variable {B H : Hp} {M : List (Addr × HO)} {Q : VK} {K : PySem.W.Frag} {v x y : V} {σ : L2.St} {D : Ends} {ta tb tc to te td ty tv : TE} {a : TA} {r : V → List V → Hp → VK → Prop} {r1 r2 : R2}
def M1r (r : V → List V → Hp → VK → Prop) (te : TE) (σ : L2.St) (x : V) (H : Hp) (Q : VK) : Prop := (∃ a, x = .str a) ∧ te σ H fun y H2 => r x [y] H2 Q
theorem v_m1 (h : to σ H fun x H1 => M1r r te σ x H1 Q) : tM1 r to te σ H Q := h
theorem v_m1S {z : Str} (h : te σ H fun y H2 => r (.str z) [y] H2 Q) : M1r r te σ (.str z) H Q := ⟨⟨z, rfl⟩, h⟩
def BMr (K : PySem.W.Frag) (T : String) (r : V → List V → Hp → VK → Prop) (a : TA) (σ : L2.St) (x : V) (H : Hp) (Q : VK) : Prop := tyV K T x H ∧ a σ H fun xs H2 => r x xs H2 Q
theorem v_bm {T : String} (h : to σ H fun x H1 => BMr K T r a σ x H1 Q) : tBM K T r to a σ H Q := h
theorem v_bm0 {T : String} (h : to σ H fun x H1 => tyV K T x H1 ∧ r x [] H1 Q) : tBM0 K T r to σ H Q := h
theorem v_bmL {p : Addr} {xs : List V} (hx : H p = some (.lst xs)) (h : a σ H fun ys H2 => r (.ref p) ys H2 Q) : BMr K "list" r a σ (.ref p) H Q := ⟨.inl ⟨rfl, _, SqL.of hx⟩, h⟩
theorem v_append {l : Addr} {xs : List V} (hx : H l = some (.lst xs)) (hl : xs.length ≤ 1000000) (h : Q .non (upd H l (.lst (xs ++ [y])))) : rAppend (.ref l) [y] H Q := ⟨l, xs, y, rfl, rfl, hx, sz_lt hl, h⟩
theorem v_pop {l : Addr} {xs : List V} (hx : H l = some (.lst (xs ++ [y]))) (h : Q y (upd H l (.lst xs))) : tyV K "list" (.ref l) H ∧ rPop (.ref l) [] H Q := ⟨.inl ⟨rfl, _, SqL.of hx⟩, l, xs ++ [y], y, rfl, rfl, hx, by simp, by simpa using h⟩
theorem v_dnewK (h : Nw H (.dK []) Q) : tDNewK σ H Q := h
theorem v_dnewT (h : Nw H (.dT []) Q) : tDNewT σ H Q := h
def DgR (x y : V) (H : Hp) (Q : VK) : Prop := ∃ a v, x = .ref a ∧ DGet H a y (some v) ∧ Q v H
def DiR (y x : V) (H : Hp) (Q : VK) : Prop := ∃ a o, x = .ref a ∧ DGet H a y o ∧ Q (.bl o.isSome) H
def DnR (y x : V) (H : Hp) (Q : VK) : Prop := ∃ a o, x = .ref a ∧ DGet H a y o ∧ Q (.bl (!o.isSome)) H
def DpR (v x y : V) (H : Hp) (q : Hp → Prop) : Prop := ∃ a H4, x = .ref a ∧ DPut H a y v H4 ∧ q H4
theorem v_dget (h : td σ H fun x H1 => ty σ H1 fun y H2 => DgR x y H2 Q) : tDGet td ty σ H Q := h
theorem v_din (h : ty σ H fun y H1 => td σ H1 fun x H2 => DiR y x H2 Q) : tDIn ty td σ H Q := h
theorem v_dnotin (h : ty σ H fun y H1 => td σ H1 fun x H2 => DnR y x H2 Q) : tDNotIn ty td σ H Q := h
theorem v_dput (h : tv σ H fun v H1 => td σ H1 fun x H2 => ty σ H2 fun y H3 => DpR v x y H3 (D.nx σ)) : sDPut td ty tv D σ H := h
theorem v_dgetI {d : Addr} {kvs : List (Key × V)} {k : Int} (e : H d = some (.dK kvs)) (hv : valV kvs (.inl k) = some v) (h : Q v H) : DgR (.ref d) (.int k) H Q := ⟨d, v, rfl, hv ▸ DGet.k (k := .inl k) e, h⟩
theorem v_dgetS {d : Addr} {kvs : List (Key × V)} {k : Str} (e : H d = some (.dK kvs)) (hv : valV kvs (.inr k) = some v) (h : Q v H) : DgR (.ref d) (.str k) H Q := ⟨d, v, rfl, hv ▸ DGet.k (k := .inr k) e, h⟩
theorem v_dgetT {d b : Addr} {kvs : List (List Key × V)} {k : List Key} (e : H d = some (.dT kvs)) (eb : H b = some (.tup (k.map kV))) (hv : valV kvs k = some v) (h : Q v H) : DgR (.ref d) (.ref b) H Q := ⟨d, v, rfl, hv ▸ DGet.t (k := k) e eb, h⟩
theorem v_dinI {d : Addr} {kvs : List (Key × V)} {k : Int} (e : H d = some (.dK kvs)) (h : Q (.bl (valV kvs (.inl k)).isSome) H) : DiR (.int k) (.ref d) H Q := ⟨d, _, rfl, DGet.k (k := .inl k) e, h⟩
theorem v_dinT {d b : Addr} {kvs : List (List Key × V)} {k : List Key} (e : H d = some (.dT kvs)) (eb : H b = some (.tup (k.map kV))) (h : Q (.bl (valV kvs k).isSome) H) : DiR (.ref b) (.ref d) H Q := ⟨d, _, rfl, DGet.t (k := k) e eb, h⟩
theorem v_dninI {d : Addr} {kvs : List (Key × V)} {k : Int} (e : H d = some (.dK kvs)) (h : Q (.bl (!(valV kvs (.inl k)).isSome)) H) : DnR (.int k) (.ref d) H Q := ⟨d, _, rfl, DGet.k (k := .inl k) e, h⟩
theorem v_dninT {d b : Addr} {kvs : List (List Key × V)} {k : List Key} (e : H d = some (.dT kvs)) (eb : H b = some (.tup (k.map kV))) (h : Q (.bl (!(valV kvs k).isSome)) H) : DnR (.ref b) (.ref d) H Q := ⟨d, _, rfl, DGet.t (k := k) e eb, h⟩
theorem v_dputI {d : Addr} {kvs : List (Key × V)} {k : Int} {q : Hp → Prop} (e : H d = some (.dK kvs)) (hl : kvs.length ≤ 1000000) (h : q (upd H d (.dK (putK kvs (.inl k) v)))) : DpR v (.ref d) (.int k) H q := ⟨d, _, rfl, DPut.k (k := .inl k) e (sz_lt hl), h⟩
theorem v_dputS {d : Addr} {kvs : List (Key × V)} {k : Str} {q : Hp → Prop} (e : H d = some (.dK kvs)) (hl : kvs.length ≤ 1000000) (h : q (upd H d (.dK (putK kvs (.inr k) v)))) : DpR v (.ref d) (.str k) H q := ⟨d, _, rfl, DPut.k (k := .inr k) e (sz_lt hl), h⟩
theorem v_dputT {d b : Addr} {kvs : List (List Key × V)} {k : List Key} {q : Hp → Prop} (e : H d = some (.dT kvs)) (eb : H b = some (.tup (k.map kV))) (hl : kvs.length ≤ 1000000) (h : q (upd H d (.dT (putK kvs k v)))) : DpR v (.ref d) (.ref b) H q := ⟨d, _, rfl, DPut.t (k := k) e eb (sz_lt hl), h⟩
theorem v_chain (h : ta σ H fun x H1 => tb σ H1 fun y H2 => r1 x y H2 fun z H3 => ∃ k, z = .bl k ∧ (if k = true then tc σ H3 fun w' H4 => r2 y w' H4 Q else Q (.bl false) H3)) : tChain r1 r2 ta tb tc σ H Q := h
theorem v_un {f : V → Hp → VK → Prop} (h : ta σ H fun x H1 => f x H1 Q) : tUn f ta σ H Q := h
theorem v_neg {i : Int} {f : Int → V} (h : Q (f i) H) : rU f (.int i) H Q := ⟨i, rfl, h⟩
end

/-! ### get of a written dict -/
def tKGet (K : PySem.W.Frag) (d : Addr) (td ty : TE) : TE := fun σ H Q => td σ H fun x H1 => x = .ref d ∧ ty σ H1 fun y H2 => ∃ (z : Str) (r : Option Value) (v0 : V), y = .str z ∧ PySem.W.nsIn K d z = some r ∧ RelV v0 (r.getD .none) ∧ Q v0 H2
theorem pe_kdget {X : Cx} {o e : Expr} {apos cpos : Pos} {td ty : TE} {d : Addr} {es : Array DictEntry} {n : Nat} (D : KDict X.K X.w d es n) (ho : PE X o td) (he : PE X e ty) (m : M1 X o "get" apos e cpos := by exact ⟨rfl, rfl, rfl, rfl⟩) :
    PE X (.Call (.Attribute o "get" apos) [e] [] cpos) (tKGet X.K d td ty) := by
  refine ⟨fun pins s σ H Q I h => ?_⟩
  refine wpAny_Call_method m.base m.few m.line PySem.F.plainAttrs_dict PySem.F.slot_dict_get PySem.F.type_dict_get (thn (ho.run pins s σ H _ I h) fun u s1 hh => ?_)
  obtain ⟨x, H1, I1, rx, ex, q1⟩ := hh
  subst ex
  obtain rfl : u = Value.ref d := rx
  refine ⟨kd_type D I1, fun b q => ?_, ?_⟩
  · cases q
    exact ⟨_, I1.kIn d _ D.at_, rfl⟩
  rw [m.trees]
  refine Calls.callWith_builtin rfl (Calls.evalArgs_plain (Calls.spliced_cons (thn (he.run pins s1 σ H1 _ I1 q1) fun iv s2 hh => ?_)))
  obtain ⟨y, H2, I2, ry, z, r, v0, ey, en, rv, q2⟩ := hh
  refine Calls.spliced_nil ?_
  subst ey
  obtain ⟨t, rfl⟩ := ry
  refine call_meetsIn PySem.F.slot_dict_get (kd_type D I2) PySem.F.entry_dict_get (PySem.F.args_dict_get_2 _ _) (meets_dict_get (PySem.strKind X.prog X.w) d (PySem.strKind_is X.prog X.w z t) D.low) ⟨_, PySem.W.mapOf_K (prog := X.prog) I2.kIn D.at_ D.lit, ?_⟩
  refine ⟨v0, H2, I2.tok _, ?_, q2⟩
  rw [PySem.W.find_K D.at_ en]
  exact rv
end Sh
set_option Elab.async false
set_option linter.all false
set_option maxRecDepth 100000
/-! parts of tense sheets, as plain data -/
namespace Sh
open PySem PySem.Spec PyProof.Rows L2
open SX (S)
inductive U1 where | not | next | prev
  deriving DecidableEq
inductive U2 where | and | or | untl | sinc
  deriving DecidableEq
def U1.nm : U1 → Str | .not => "not" | .next => "next" | .prev => "prev"
def U2.nm : U2 → Str | .and => "and" | .or => "or" | .untl => "until" | .sinc => "since"
inductive Part where
  | c (b : Bool) | letter (a : Nat) | un (u : U1) (i : Nat) | bin (u : U2) (i j : Nat)
  deriving DecidableEq
def cnm (b : Bool) : Str := if b = true then "yes" else "no"
/-- what a part holds -/
def Part.keys : Part → List Key
  | .c b => [.inr (cnm b)]
  | .letter a => [.inr "letter", .inr (S [a])]
  | .un u i => [.inr u.nm, .inl (i : Int)]
  | .bin u i j => [.inr u.nm, .inl (i : Int), .inl (j : Int)]
def Part.vals (p : Part) : List V := p.keys.map kV
def toD : V → PyData
  | .bl b => .bool b
  | .int i => .int i
  | .str x => .str x
  | _ => .none
def kD : Key → PyData
  | .inl i => .int i
  | .inr x => .str x
def Part.dat (p : Part) : List PyData := p.keys.map kD
def mkD (l : Bool) (ds : List PyData) : PyData := if l = true then .list ds else .tuple ds
def partD (l : Bool) (p : Part) : PyData := mkD l p.dat
def sheetD (lo li : Bool) (ps : List Part) : PyData := mkD lo (ps.map (partD li))
section
variable {K : PySem.W.Frag} {B H : Hp} {v : V} {d : PyData}
theorem rp_kV (k : Key) : Rp K B (kV k) (kD k) := by
  cases k with
  | inl i => exact .int i
  | inr x => exact .str x
theorem rp_kVs (ks : List Key) : RpAll K B (ks.map kV) (ks.map kD) := RpAll.map rp_kV ks
theorem rp_kD {k : Key} (h : Rp K B v (kD k)) : v = kV k := by
  cases k with
  | inl i => cases h; rfl
  | inr x => cases h; rfl
theorem rp_kDs : ∀ {ks : List Key} {vs : List V}, RpAll K B vs (ks.map kD) → vs = ks.map kV
  | [], _, h => by cases h; rfl
  | k :: ks, _, h => by
    cases h with
    | cons h1 h2 => rw [rp_kD h1, rp_kDs h2]; rfl
/-- a list, a tuple -/
def SqX (K : PySem.W.Frag) (H : Hp) (l : Bool) (a : Addr) (xs : List V) : Prop := if l = true then SqL K H a xs else H a = some (.tup xs)
theorem SqX.up {l : Bool} {a : Addr} {xs : List V} (e : Le B H) (h : SqX K B l a xs) : SqX K H l a xs := by
  cases l with
  | true => exact le_l e h
  | false => exact e _ _ h
theorem rp_mk {l : Bool} {ds : List PyData} (h : Rp K B v (mkD l ds)) : ∃ a xs, v = .ref a ∧ SqX K B l a xs ∧ RpAll K B xs ds := by
  cases l with
  | true => cases h with | lst h1 h2 => exact ⟨_, _, rfl, h1, h2⟩
  | false => cases h with | tup h1 h2 => exact ⟨_, _, rfl, h1, h2⟩
theorem mk_rp {l : Bool} {a : Addr} {xs : List V} {ds : List PyData} (h : SqX K B l a xs) (r : RpAll K B xs ds) : Rp K B (.ref a) (mkD l ds) := by
  cases l with
  | true => exact .lst h r
  | false => exact .tup h r
theorem rp_part {l : Bool} {p : Part} (h : Rp K B v (partD l p)) : ∃ a, v = .ref a ∧ SqX K B l a p.vals := by
  obtain ⟨a, xs, rfl, h1, h2⟩ := rp_mk h
  have e := rp_kDs h2
  subst e
  exact ⟨a, rfl, h1⟩
theorem part_rp {l : Bool} {p : Part} {a : Addr} (h : SqX K B l a p.vals) : Rp K B (.ref a) (partD l p) := mk_rp h (rp_kVs _)
end
/-- the k-th part refers to parts ahead, its letter is one of al -/
def Part.ok (al : List Nat) (k : Nat) : Part → Prop
  | .c _ => True
  | .letter a => a ∈ al
  | .un _ i => i < k
  | .bin _ i j => i < k ∧ j < k
def WF (al : List Nat) (ps : List Part) : Prop := ∀ (k : Nat) (p : Part), ps[k]? = some p → p.ok al k
theorem WF.nil (al : List Nat) : WF al [] := fun k p h => by simp at h
theorem WF.snoc {al : List Nat} {ps : List Part} {p : Part} (h : WF al ps) (hp : p.ok al ps.length) : WF al (ps ++ [p]) := fun k q e => by
  by_cases hk : k < ps.length
  · rw [List.getElem?_append_left hk] at e
    exact h k q e
  · rw [List.getElem?_append_right (by omega)] at e
    have : k - ps.length = 0 := by
      by_cases z : k - ps.length = 0
      · exact z
      · rw [List.getElem?_eq_none (by simp; omega)] at e
        cases e
    rw [this] at e
    have e' := Option.some.inj e
    subst e'
    have : k = ps.length := by omega
    rw [this]
    exact hp
section
variable {B H : Hp} {M : List (Addr × HO)} {Q : VK} {y : V}
theorem v_appM {l : Addr} {xs : List V} (hs : Hs B ((l, .lst xs) :: M) H) (hl : xs.length ≤ 1000000) (h : ∀ H', Hs B ((l, .lst (xs ++ [y])) :: M) H' → Q .non H') : rAppend (.ref l) [y] H Q := v_append hs.hd hl (h _ (hs.wr _))
theorem v_appM2 {l q : Addr} {o : HO} {xs : List V} (hs : Hs B ((q, o) :: (l, .lst xs) :: M) H) (hl : xs.length ≤ 1000000) (h : ∀ H', Hs B ((q, o) :: (l, .lst (xs ++ [y])) :: M) H' → Q .non H') : rAppend (.ref l) [y] H Q := v_append hs.sw.hd hl (h _ (hs.sw.wr _).sw)
end

theorem iteF' {c : Bool} {A B : Prop} (hc : c = false) (h : B) : if c = true then A else B := by subst hc; exact iteF h
theorem iteT' {c : Bool} {A B : Prop} (hc : c = true) (h : A) : if c = true then A else B := by subst hc; exact iteT h
/-! ### reading -/
section
variable {K : PySem.W.Frag} {B B' H H' : Hp} {M M' : List (Addr × HO)} {Q : VK} {v : V} {a : Addr} {xs : List V} {l : Bool}
theorem v_ixX {i : Int} (hx : SqX K H l a xs) (ha : atI xs i = some v) (h : Q v H) : rIx K (.ref a) (.int i) H Q := by
  cases l with
  | true => exact .inl (v_ixL hx ha h)
  | false => exact .inr (.inl (v_ixT (SqT.of hx) ha h))
theorem Hs.x (h : Hs B M H) (s : SqX K B l a xs) : SqX K H l a xs := s.up h.sub
/-- a list that is known, or one that is being made -/
def Rdl (K : PySem.W.Frag) (B : Hp) (M : List (Addr × HO)) (a : Addr) (xs : List V) : Prop := SqL K B a xs ∨ (a, HO.lst xs) ∈ M
theorem Rdl.sq (r : Rdl K B M a xs) (e : Le B B') (s : ∀ x ∈ M, x ∈ M') (h : Hs B' M' H) : SqL K H a xs := by
  rcases r with r | r
  · exact h.l (le_l e r)
  · exact SqL.of (h.at (s _ r))
def AtX (K : PySem.W.Frag) (x : V) (H : Hp) (R : It → Hp → Prop) : Prop := AtL K x H R ∨ AtT K x H R
end
/-! ### where a part holds, by the definition -/
def lineAt (ls : List (List Bool)) (i k : Nat) : Bool := (ls.getD i []).getD k false
def holds (p : Part) (ls : List (List Bool)) (r : List Nat) (k : Nat) : Bool := match p with
  | .c b => b
  | .letter a => decide (r.getD k 0 = a)
  | .un .not i => !lineAt ls i k
  | .un .next i => decide (k + 1 < r.length) && lineAt ls i (k + 1)
  | .un .prev i => decide (0 < k) && lineAt ls i (k - 1)
  | .bin .and i j => lineAt ls i k && lineAt ls j k
  | .bin .or i j => lineAt ls i k || lineAt ls j k
  | .bin .untl i j => ((List.range (r.length - (k + 1))).map fun m => lineAt ls j (k + 1 + m) && (((ls.getD i []).drop (k + 1)).take (k + 1 + m - (k + 1))).all id).any id
  | .bin .sinc i j => ((List.range k).map fun m => lineAt ls j m && (((ls.getD i []).drop (m + 1)).take (k - (m + 1))).all id).any id
def linesD (ls : List (List Bool)) : List PyData := ls.map fun l => .list (l.map .bool)
theorem rp_bools {K : PySem.W.Frag} {B : Hp} : ∀ {bs : List Bool} {xs : List V}, RpAll K B xs (bs.map PyData.bool) → xs = bs.map V.bl
  | [], _, h => by cases h; rfl
  | b :: bs, _, h => by
    cases h with
    | cons h1 h2 =>
      cases h1
      rw [rp_bools h2]
      rfl
theorem bools_rp {K : PySem.W.Frag} {B : Hp} (bs : List Bool) : RpAll K B (bs.map V.bl) (bs.map PyData.bool) := RpAll.map (fun b => .bl b) bs
theorem rp_line {K : PySem.W.Frag} {B : Hp} {xs : List V} {ls : List (List Bool)} (h : RpAll K B xs (linesD ls)) {i : Nat} (hi : i < ls.length) : ∃ a, xs[i]? = some (.ref a) ∧ SqL K B a ((ls.getD i []).map V.bl) := by
  obtain ⟨v, e, hv⟩ := h.get (i := i) (d := .list ((ls.getD i []).map .bool)) (by
    unfold linesD
    rw [List.getElem?_map, List.getElem?_eq_getElem hi, List.getD_eq_getElem?_getD, List.getElem?_eq_getElem hi]
    rfl)
  cases hv with
  | lst h1 h2 =>
    rw [rp_bools h2] at h1
    exact ⟨_, e, h1⟩
theorem bl_at {bs : List Bool} {k : Nat} (hk : k < bs.length) : (bs.map V.bl)[k]? = some (.bl (bs.getD k false)) := by
  rw [List.getElem?_map, List.getElem?_eq_getElem hk, List.getD_eq_getElem?_getD, List.getElem?_eq_getElem hk]
  rfl

section
variable {K : PySem.W.Frag} {B B' H H' : Hp} {M M' : List (Addr × HO)} {D : Ends} {σ : L2.St} {g : TG} {tb : TS} {p : Addr} {xs : List V} {l : Bool} {i : Nat} {Q : VK} {tt : TT} {te : TE} {vs : List Nat}
theorem v_forX (e : σ[i]? = some (some (.ref p))) (hx : SqX K B l p xs) (hs : Hs B M H) (I : Nat → L2.St → Hp → List (Addr × HO) → Prop) (h0 : I 0 σ B M)
    (step : ∀ i x σ' B' M' H', i < xs.length → xs[i]? = some x → Le B B' → Hs B' M' H' → I i σ' B' M' → g x σ' H' fun σ2 H2 => tb { D with nx := IV B I (i + 1), ct := IV B I (i + 1), bk := D.nx } σ2 H2)
    (done : ∀ σ' B' M' H', Le B B' → Hs B' M' H' → I xs.length σ' B' M' → D.nx σ' H') : tFor (iSeq K (tVar i)) g tb D σ H := by
  cases l with
  | true => exact Or.inl ⟨_, e, v_atL (hs.l hx) (v_forL hx hs I h0 step done)⟩
  | false => exact Or.inr ⟨_, e, v_atT (hs.t (SqT.of hx)) (v_forT (SqT.of hx) hs I h0 step done)⟩
theorem v_lcX (e : σ[i]? = some (some (.ref p))) (hx : SqX K B l p xs) (hs : Hs B M H) (I : Nat → List V → Hp → List (Addr × HO) → Prop) (h0 : I 0 [] B M)
    (step : ∀ i x p acc B' M' H', i < xs.length → xs[i]? = some x → acc.length ≤ i → Le B B' → Hs B' ((p, .lst acc) :: M') H' → I i acc B' M' → g x (wipe σ vs) H' fun σ2 H2 => wipe σ2 vs = wipe σ vs ∧ tt σ2 H2 fun b H3 =>
      if b = true then te σ2 H3 (IE B I p (i + 1)) else IP B I p (i + 1) H3)
    (done : ∀ p acc B' M' H', acc.length ≤ xs.length → Le B B' → Hs B' ((p, .lst acc) :: M') H' → I xs.length acc B' M' → Q (.ref p) H') : tLc (iSeq K (tVar i)) g tt te vs σ H Q := by
  cases l with
  | true => exact Or.inl ⟨_, e, v_atL (hs.l hx) (v_lcL hx hs I h0 step done)⟩
  | false => exact Or.inr ⟨_, e, v_atT (hs.t (SqT.of hx)) (v_lcT (SqT.of hx) hs I h0 step done)⟩
end
/-- the lines of the parts -/
def lineOf (r : List Nat) (ls : List (List Bool)) (p : Part) : List Bool := (List.range r.length).map (holds p ls r)
def linesOf (r : List Nat) (ps : List Part) : List (List Bool) := ps.foldl (fun ls p => ls ++ [lineOf r ls p]) []
theorem linesOf_snoc (r : List Nat) (ps : List Part) (p : Part) : linesOf r (ps ++ [p]) = linesOf r ps ++ [lineOf r (linesOf r ps) p] := by
  unfold linesOf
  rw [List.foldl_append]
  rfl
theorem foldl_len (r : List Nat) : ∀ (ps : List Part) (ls : List (List Bool)), (ps.foldl (fun ls p => ls ++ [lineOf r ls p]) ls).length = ls.length + ps.length
  | [], ls => rfl
  | p :: ps, ls => by
    rw [List.foldl_cons, foldl_len r ps]
    simp
    omega
theorem linesOf_len (r : List Nat) (ps : List Part) : (linesOf r ps).length = ps.length := by
  unfold linesOf
  rw [foldl_len]
  simp
theorem foldl_each (r : List Nat) : ∀ (ps : List Part) (ls : List (List Bool)), (∀ l ∈ ls, l.length = r.length) → ∀ l ∈ ps.foldl (fun ls p => ls ++ [lineOf r ls p]) ls, l.length = r.length
  | [], ls, h => h
  | p :: ps, ls, h => foldl_each r ps _ fun l hl => by
    rcases List.mem_append.mp hl with hl | hl
    · exact h l hl
    · rw [List.mem_singleton.mp hl]
      simp [lineOf]
theorem linesOf_each (r : List Nat) (ps : List Part) : ∀ l ∈ linesOf r ps, l.length = r.length := foldl_each r ps [] (by simp)
end Sh
set_option Elab.async false
set_option linter.all false
set_option maxRecDepth 100000
namespace Sh
open PySem PySem.Spec PyProof.Rows L2
open SX (S)
section
variable {B H : Hp} {M : List (Addr × HO)} {Q : VK} {K : PySem.W.Frag} {v : V} {d : PyData} {σ : L2.St}
theorem v_slAB {p : Addr} {xs : List V} {lo hi : Option Int} (hs : Hs B M H) (hx : B p = some (.tup xs)) (h : ∀ (p' : Addr) (B' H' : Hp), Le B B' → Hs B' M H' → B' p' = some (.tup (cutV xs lo hi)) → Q (.ref p') H') : rSlA K (.ref p) lo hi H Q := by
  refine ⟨p, xs, rfl, hs.t (SqT.of hx), fun hw => ?_, fun _ => v_newB hs fun p' B' H' l h' e => h p' B' H' l h' e⟩
  refine h p B H (Same.refl B) hs ?_
  have e : cutV xs lo hi = xs := by
    unfold cutV
    rw [hw.1, hw.2, List.drop_zero, Nat.sub_zero, List.take_length]
  rw [e]
  exact hx
theorem v_catAB {a b : Addr} {xs ys : List V} (hs : Hs B M H) (hx : B a = some (.tup xs)) (hy : B b = some (.tup ys)) (hl : xs.length + ys.length ≤ sizeLine) (h : ∀ (p' : Addr) (B' H' : Hp), Le B B' → Hs B' M H' → B' p' = some (.tup (xs ++ ys)) → Q (.ref p') H') : rCatA K (.ref a) (.ref b) H Q := by
  refine ⟨a, b, xs, ys, rfl, rfl, hs.t (SqT.of hx), hs.t (SqT.of hy), hl, fun e => ?_, fun _ e => ?_, fun _ _ => v_newB hs fun p' B' H' l h' e => h p' B' H' l h' e⟩
  · subst e
    exact h b B H (Same.refl B) hs hy
  · subst e
    rw [List.append_nil] at h
    exact h a B H (Same.refl B) hs hx
theorem v_tupLB {p : Addr} {xs : List V} (hs : Hs B M H) (hx : SqL K H p xs) (h : ∀ (p' : Addr) (B' H' : Hp), Le B B' → Hs B' M H' → B' p' = some (.tup xs) → Q (.ref p') H') : rCTup K [.ref p] H Q :=
  v_tupleL hx (v_newB hs fun p' B' H' l h' e => h p' B' H' l h' e)
/-- one of two readings -/
def tAlt (t1 t2 : TE) : TE := fun σ H Q => t1 σ H Q ∨ t2 σ H Q
theorem pe_alt {X : Cx} {e : Expr} {t1 t2 : TE} (h1 : PE X e t1) (h2 : PE X e t2) : PE X e (tAlt t1 t2) :=
  ⟨fun pins s σ H Q I q => q.elim (h1.run pins s σ H Q I) (h2.run pins s σ H Q I)⟩
theorem v_all {bs : List Bool} {p : Addr} (hx : SqL K H p (bs.map V.bl)) (h : Q (.bl (bs.all id)) H) : rAll K [.ref p] H Q := ⟨p, bs, rfl, hx, h⟩
theorem v_any {bs : List Bool} {p : Addr} (hx : SqL K H p (bs.map V.bl)) (h : Q (.bl (bs.any id)) H) : rAny K [.ref p] H Q := ⟨p, bs, rfl, hx, h⟩
theorem v_lenX {l : Bool} {p : Addr} {xs : List V} (hx : SqX K H l p xs) (h : Q (.int (xs.length : Nat)) H) : rCLen K [.ref p] H Q := by
  cases l with
  | true => exact v_lenL hx h
  | false => exact v_lenT (SqT.of hx) h
theorem Hs.trx {l : Bool} {p : Addr} {xs : List V} (h : Hs B M H) (s : SqX K B l p xs) : SqX K H l p xs := s.up h.sub
end
end Sh
namespace Sh
open PySem PySem.Spec PyProof.Rows L2
/-- the i-th thing that may change, changed -/
theorem Hs.wrI {B H : Hp} {M : List (Addr × HO)} {p : Addr} {o o' : HO} (h : Hs B M H) (i : Nat) (e : M[i]? = some (p, o)) : Hs B (M.set i (p, o')) (upd H p o') := by
  obtain ⟨hi, e1⟩ := List.getElem?_eq_some_iff.mp e
  have es : M = M.take i ++ (p, o) :: M.drop (i + 1) := by rw [← e1, List.getElem_cons_drop, List.take_append_drop]
  have es2 : M.set i (p, o') = M.take i ++ (p, o') :: M.drop (i + 1) := List.set_eq_take_append_cons_drop.trans (if_pos hi)
  rw [es] at h
  rw [es2]
  exact ((h.perm List.perm_middle).wr o').perm List.perm_middle.symm
theorem Hs.atI {B H : Hp} {M : List (Addr × HO)} {p : Addr} {o : HO} (h : Hs B M H) (i : Nat) (e : M[i]? = some (p, o)) : H p = some o := h.at (List.mem_of_getElem? e)
theorem Hs.pick {B H : Hp} {M M' : List (Addr × HO)} (h : Hs B M H) (s : M'.Sublist M) : Hs B M' H := ⟨h.sub, fun p hp => h.own p (s.subset hp), (s.map (·.1)).nodup h.nd⟩
section
variable {B H : Hp} {M : List (Addr × HO)} {Q : VK} {y v : V} {K : PySem.W.Frag}
theorem v_appI {l : Addr} {xs : List V} (hs : Hs B M H) (i : Nat) (e : M[i]? = some (l, .lst xs)) (hl : xs.length ≤ 1000000) (h : ∀ H', Hs B (M.set i (l, .lst (xs ++ [y]))) H' → Q .non H') : rAppend (.ref l) [y] H Q := v_append (hs.atI i e) hl (h _ (hs.wrI i e))
theorem v_popI {l : Addr} {xs : List V} (hs : Hs B M H) (i : Nat) (e : M[i]? = some (l, .lst (xs ++ [y]))) (h : ∀ H', Hs B (M.set i (l, .lst xs)) H' → Q y H') : tyV K "list" (.ref l) H ∧ rPop (.ref l) [] H Q := v_pop (hs.atI i e) (h _ (hs.wrI i e))
theorem v_dputII {d : Addr} {kvs : List (Key × V)} {k : Int} {q : Hp → Prop} (hs : Hs B M H) (i : Nat) (e : M[i]? = some (d, .dK kvs)) (hl : kvs.length ≤ 1000000) (h : ∀ H', Hs B (M.set i (d, .dK (putK kvs (.inl k) v))) H' → q H') : DpR v (.ref d) (.int k) H q := v_dputI (hs.atI i e) hl (h _ (hs.wrI i e))
theorem v_dputSI {d : Addr} {kvs : List (Key × V)} {k : Str} {q : Hp → Prop} (hs : Hs B M H) (i : Nat) (e : M[i]? = some (d, .dK kvs)) (hl : kvs.length ≤ 1000000) (h : ∀ H', Hs B (M.set i (d, .dK (putK kvs (.inr k) v))) H' → q H') : DpR v (.ref d) (.str k) H q := v_dputS (hs.atI i e) hl (h _ (hs.wrI i e))
theorem v_dputTI {d b : Addr} {kvs : List (List Key × V)} {k : List Key} {q : Hp → Prop} (hs : Hs B M H) (i : Nat) (e : M[i]? = some (d, .dT kvs)) (eb : B b = some (.tup (k.map kV))) (hl : kvs.length ≤ 1000000) (h : ∀ H', Hs B (M.set i (d, .dT (putK kvs k v))) H' → q H') : DpR v (.ref d) (.ref b) H q := v_dputT (hs.atI i e) (hs.sub _ _ eb) hl (h _ (hs.wrI i e))
end
end Sh
set_option Elab.async false
set_option linter.all false
set_option maxRecDepth 100000
set_option maxHeartbeats 2000000
/-! an own exception over ValueError whose __init__ says super().__init__(text); self.field = field -/
namespace PySem
namespace OwnX
open PySem.W PySem.Calls PyProof.Rows PySem.HandSPX
/-! ### the text of __init__ -/
def iA (f : Str) (p1 p2 : Pos) : Arguments := { posonlyargs := [], args := [{ arg := "self", annotation := none, pos := p1 }, { arg := f, annotation := none, pos := p2 }], vararg := none, kwonlyargs := [], kw_defaults := [], kwarg := none, defaults := [] }
def iB (f : Str) (te : Expr) (q1 q2 q3 q4 q5 q6 q7 q8 q9 : Pos) : List Stmt :=
  [.Expr (.Call (.Attribute (.Call (.Name "super" q1) [] [] q2) "__init__" q3) [te] [] q4) q5, .Assign [.Attribute (.Name "self" q6) f q7] (.Name f q8) q9]
def iS (f : Str) : Scope := { kind := .function, names := [(PySem.Str.ofString "self", .local), (f, .local), (PySem.Str.ofString "__class__", .free), (PySem.Str.ofString "super", .globalImplicit)], isGenerator := false, isCoroutine := false, more := [] }
/-- the text that super().__init__ takes can be told, the field's value good -/
def TextEv (te : Expr) (f : Str) (good : Value → Prop) : Prop := ∀ (prog : Program) (w : World) (A : Around) (E : Value → Shared → Prop) (s : Shared) (env : Env) (m : Str → Option Value) (v : Value) (Q : Value → Shared → Prop),
  env.scope.kind = .function → env.kindOf f = some .local → s.heap.Ns env.locals m → m f = some v → good v → (∀ u tk, Q u { s with toks := tk }) → wpAny (model prog w) A (eval te env) Q E s
theorem text_const {z : Str} {k : Nat} {p : Pos} (f : Str) : TextEv (.Constant (.str z) k p) f fun _ => True := fun _ _ _ _ _ _ _ _ _ _ _ _ _ _ q => wpAny_Constant_str (q _ _)
def goodI (v : Value) : Prop := ∃ i t, v = .int i t ∧ i.natAbs.log2 < 1920
def goodS (v : Value) : Prop := ∃ y t, v = .str y t ∧ y.length ≤ 1000
theorem text_int {a b : Str} {k1 k2 : Nat} {p1 p2 p3 p4 p5 : Pos} {f : Str} (ha : a.length ≤ 1000) (hb : b.length ≤ 1000) (hd : (f == ("__debug__" : Str)) = false) :
    TextEv (.JoinedStr [.Constant (.str a) k1 p1, .FormattedValue (.Name f p2) (-1) none p3, .Constant (.str b) k2 p4] p5) f goodI := by
  intro prog w A E s env m v Q hk hl hn hm ⟨i, t, ev, hi⟩ q
  subst ev
  refine wpAny_JoinedStr ?_
  show Joins _ _ _ [eval _ env, eval _ env, eval _ env] _ _ _
  refine wpAny_Constant_str ⟨_, _, rfl, ?_, wpAny_FormattedValue_plain (wpAny_Name (wpAny_loadName_local hk hl hn hm (wpAny_formatField_int hi ⟨_, _, rfl, ?_, wpAny_Constant_str ⟨_, _, rfl, ?_, ?_, q _ _⟩⟩)) hd)⟩
  all_goals have z := int_text_length_le (k := 1920) (by decide) hi
  all_goals rw [sizeLine_eq]
  all_goals try rw [ofString_length]
  all_goals simp only [Str.length_append, ofString_length, show Str.empty.length = 0 from rfl]
  all_goals omega
theorem text_str {a : Str} {k1 : Nat} {p1 p2 p3 p5 : Pos} {f : Str} (ha : a.length ≤ 1000) (hd : (f == ("__debug__" : Str)) = false) :
    TextEv (.JoinedStr [.Constant (.str a) k1 p1, .FormattedValue (.Name f p2) (-1) none p3] p5) f goodS := by
  intro prog w A E s env m v Q hk hl hn hm ⟨y, t, ev, hi⟩ q
  subst ev
  refine wpAny_JoinedStr ?_
  show Joins _ _ _ [eval _ env, eval _ env] _ _ _
  refine wpAny_Constant_str ⟨_, _, rfl, ?_, wpAny_FormattedValue_plain (wpAny_Name (wpAny_loadName_local hk hl hn hm (wpAny_formatField_str ⟨_, _, rfl, ?_, ?_, q _ _⟩ ⟨_, _, rfl, ?_, ?_, q _ _⟩ ?_)) hd)⟩
  all_goals rw [sizeLine_eq]
  all_goals try simp only [Str.length_append, show Str.empty.length = 0 from rfl]
  all_goals omega
theorem init_run {prog : Program} {w : World} {A : Around} {E : Value → Shared → Prop} {h : Heap} {g : Array GenState} {d : Drawn} {t : Nat} {os : OsState} {nm q : Str} {C N u e t0 : Addr} {bs bm : List Value} {hdct : Bool} {sn : List Str} {sub : List Value} {ab : Bool} {col : Option Bool} {dd : Option Addr} {k0 k1 k2 k3 k5 : Option Value} {rest : List Value} {Q : Value → Shared → Prop}
    (hC : h.get? C = some (excClassObj nm q C N bs bm hdct sn sub ab col dd k0 k1 k2 k3 k5 "ValueError.__new__")) (he : h.get? e = some (HandSPX.excO C t0)) (hu : h.get? u = some (kxs_mw "ValueError.__init__" e)) (hrest : rest.length ≤ sizeLine)
    (hq : ∀ h' t1, (∀ b o, b ≠ e → h.get? b = some o → h'.get? b = some o) → h'.get? e = some (HandSPX.excO C t1) → Q .none ⟨h', g, d, t, os⟩) :
    wpAny (model prog w) A (call (.ref u) rest) Q E ⟨h, g, d, t, os⟩ := by
  refine wpAny_call (codeAny_of_tree ?_)
  show wpAny _ A.in1 (callAny (.ref u) ⟨rest, []⟩) _ _ _
  simp only [callAny]
  refine wpAny_bind (wpAny_load hu ?_)
  simp only [kxs_mw, show (Value.type "method-wrapper" == Value.type "method" || Value.type "method-wrapper" == Value.type "builtin_function_or_method" || Value.type "method-wrapper" == Value.type "method-wrapper") = true by decide, if_true]
  refine KFB.if_so (by decide) ?_
  refine wpAny_bind (check_bound_init F.excBase_ValueError.toExcCallFacts hC he rfl ?_)
  refine wpAny_bind (wpAny_pure (wpAny_pure ?_))
  refine ⟨plainId_quiet F.excBase_ValueError.init.plain _, codeAny_builtin F.excBase_ValueError.initEntry ?_⟩
  exact exc_init_tree (cls := .ref C) (t0 := t0) (dv := none) (c2 := .none) (c3 := .none) (b4 := .bool false) he hrest fun h' k e' _ => hq h' _ k e'
/-- the call's text is walked plainly -/
def CallEv (te : Expr) (q1 q2 q3 q4 : Pos) : Prop := ∀ env : Env, starEach [te] env = (false, eval te env) :: starEach [] env ∧ ∃ pl, eval (.Call (.Attribute (.Call (.Name "super" q1) [] [] q2) "__init__" q3) [te] [] q4) env = (do
      let ov ← attributeBase (.Call (.Name "super" q1) [] [] q2) "__init__" env (eval (.Call (.Name "super" q1) [] [] q2) env)
      standAt q3.atName
      let (f, first) ← holding [ov] (getMethod ov "__init__" pl)
      callWith q4 f first (backTo q4 (starEach [te] env)) [])
example : CallEv (.Constant (.str "an argument does not have the form that is asked for") 0 ⟨7, 25, 7, 79⟩) ⟨7, 8, 7, 13⟩ ⟨7, 8, 7, 15⟩ ⟨7, 8, 7, 24⟩ ⟨7, 8, 7, 80⟩ := fun _ => ⟨rfl, _, rfl⟩
/-- what the written part says of the class C, its __init__ at fI (written in the class D, cell cc, code cda), the field f -/
structure OExc (prog : Program) (K : Frag) (C : Addr) (f : Str) (good : Value → Prop) : Prop where
  cls : ∃ nm q N bs bm sn sub ab col dd k0 k1 k2 k3 k5, K.lookup C = some (excClassObj nm q C N bs bm true sn sub ab col dd k0 k1 k2 k3 k5 "ValueError.__new__") ∧ refsVE bm = true
  sa : findIn K (.ref C) "__setattr__" = some (some (.builtin "object.__setattr__"))
  ga : findIn K (.ref C) "__getattribute__" = some (some (.builtin "BaseException.__getattribute__"))
  gg : findIn K (.ref C) "__getattr__" = some none
  noN : findIn K (.ref C) f = some none
  kC : keepIn K (.ref C) = true
  exC : subIn K (.ref C) (.type "BaseException") = some true
  exV : subIn K (.ref C) (.type "ValueError") = some true
  tyC : typeIn K (.ref C) = some (.type "type")
  hdC : hasDictIn K C = true
  opq : nsIn K cStatics "thirdparty.any" = some none
  own : ∃ D fI cc cda : Addr, findIn K (.ref C) "__init__" = some (some (.ref fI)) ∧ typeIn K (.ref fI) = some (.type "function") ∧ (∃ cdD, clsIn K D = some cdD) ∧ mroIn K C (.ref D) = some true ∧ ks_superIn K C D "__init__" = some (some (.builtin "ValueError.__init__")) ∧
    (∃ cl cld csl, K.lookup cc = some ⟨cl, cld, .cell (some (.ref D)), csl⟩) ∧ (∃ ccl cdd vs ccs file tf, K.lookup cda = some ⟨ccl, cdd, .fields vs, ccs⟩ ∧ vs[2]? = some (.str file tf) ∧ ((prog.main.file : Str) == file) = true) ∧
    ∃ (qual : Str) (oc : Value) (od : Option Addr) (doc pm : Value) (an : Option Addr) (ct : Value) (osl : Array (Option Value)) (te : Expr) (p1 p2 q1 q2 q3 q4 q5 q6 q7 q8 q9 : Pos),
      K.lookup fI = some ⟨oc, od, .func (ksFn "__init__" qual (iA f p1 p2) (iB f te q1 q2 q3 q4 q5 q6 q7 q8 q9) (iS f) .none .none doc pm an (.ref cda) ct cc), osl⟩ ∧ codeIn K (.ref cda) qual = true ∧ TextEv te f good ∧
      CallEv te q1 q2 q3 q4
  fS : (f == ("self" : Str)) = false
  fC : (f == ("__class__" : Str)) = false
  fU : (f == ("super" : Str)) = false
  fD : (f == ("__debug__" : Str)) = false
  bd : ∀ (s : Shared) (qual : Str) (body : List Stmt) (doc pm cdv ct : Value) (an : Option Addr) (cc : Addr) (p1 p2 : Pos) (a v : Value), BindsTo s (ksFn "__init__" qual (iA f p1 p2) body (iS f) .none .none doc pm an cdv ct cc) ⟨[a, v], []⟩ [("self", a), (f, v)]
  top : (prog.main.scope.names.lookup ("super" : Str)).isSome = false
/-- what __init__ leaves of a fresh exception at x -/
structure InitEnd (h h' : Heap) (x C dx t1 : Addr) (f : Str) (v : Value) : Prop where
  keep : ∀ b o, b ≠ x → h.get? b = some o → h'.get? b = some o
  obj : h'.get? x = some { cls := .ref C, dict := some dx, data := .fields #[.ref t1, .none, .none, .none, .bool false, .none] }
  dbig : h.objs.size ≤ dx
  dne : dx ≠ x
  ns : h'.Ns1 dx (fun y => if y = f then some v else none)
structure OwnMade (h h' : Heap) (e C d : Addr) (f : Str) (v : Value) : Prop where
  keep : ∀ b o, h.get? b = some o → h'.get? b = some o
  new : h.objs.size ≤ e
  obj : ∃ oe vs, h'.get? e = some oe ∧ oe.cls = .ref C ∧ oe.dict = some d ∧ oe.data = .fields vs ∧ vs[1]? = some .none
  dbig : h.objs.size ≤ d
  dne : d ≠ e
  ns : h'.Ns1 d (fun y => if y = f then some v else none)
section
variable {prog : Program} {w : World} {A : Around} {E : Value → Shared → Prop} {R : Result → Shared → Prop} {s : Shared} {K : Frag} {mg mb : Str → Option Value} {C : Addr} {f : Str} {good : Value → Prop}
theorem own_init (T : OExc prog K C f good) {x t0 fI : Addr} {v : Value} (hfI : findIn K (.ref C) "__init__" = some (some (.ref fI))) (X : K.In s.heap) (G : s.heap.Ns mainGlobals mg) (gs : mg "super" = none) (B : s.heap.Ns builtinsNs mb) (bs : mb "super" = some (.type "super")) (hlim : s.heap.NoLimit) (hx : s.heap.get? x = some (excO C t0))
    (hnx : K.lookup x = none) (hroom : A.depth < recursionLimit) (gv : good v) (hq : ∀ h' tk dx t1, InitEnd s.heap h' x C dx t1 f v → R (.ok (.ret .none)) { s with heap := h', toks := tk }) :
    codeAny (model prog w) A (.call (.ref fI) ⟨[.ref x, v], []⟩) R s := by
  obtain ⟨D, fI', cc, cda, hi, _, ⟨cdD, hD⟩, hm, hsup, ⟨cl, cld, csl, hcell⟩, ⟨ccl, cdd, cvs, ccs, file, tf, hcode, hvs, hfile⟩, qual, oc, od, doc, pm, an, ct, osl, te, p1, p2, q1, q2, q3, q4, q5, q6, q7, q8, q9, ho, hcd, htx, hst⟩ := T.own
  obtain rfl : fI = fI' := by
    have e := hfI.symm.trans hi
    injection e with e
    injection e with e
    injection e
  obtain ⟨nm, q, N, bss, bm, sn, sub, ab, col, dd, k0, k1, k2, k3, k5, hC, hbm⟩ := T.cls
  have hcl : clsIn K C = some { name := nm, bases := bss, mro := .ref C :: bm, ns := N, qualname := q, hasDict := true, slotNames := sn, subclasses := sub, abstract := ab, collection := col, hasDel := false } := by unfold clsIn; rw [hC] <;> rfl
  have fS := T.fS
  have fC := T.fC
  have fU := T.fU
  have kf : (iS f).names.lookup f = some .local := by simp [iS, List.lookup, fS]
  have kc : (iS f).names.lookup ("__class__" : Str) = some .free := by
    have e1 : ((PySem.Str.ofString "__class__") == f) = false := by rw [Bool.beq_comm] <;> exact fC
    simp [iS, List.lookup, e1]
    rfl
  have ku : (iS f).names.lookup ("super" : Str) = some .globalImplicit := by
    have e1 : ((PySem.Str.ofString "super") == f) = false := by rw [Bool.beq_comm] <;> exact fU
    simp [iS, List.lookup, e1]
    rfl
  have fS' : (("self" : Str) == f) = false := by rw [Bool.beq_comm] <;> exact fS
  refine ks_codeAny_call_defAt (fd := ksFn "__init__" qual (iA f p1 p2) (iB f te q1 q2 q3 q4 q5 q6 q7 q8 q9) (iS f) .none .none doc pm an (.ref cda) ct cc) (body := iB f te q1 q2 q3 q4 q5 q6 q7 q8 q9) (binds := [("self", .ref x), (f, v)]) hroom (X _ _ ho) rfl hlim (codeRec_of X hcd) rfl
    (T.bd _ _ _ _ _ _ _ _ _ _ _ _ _) (by intro y hy; simp only [iS, List.mem_cons, List.not_mem_nil, or_false] at hy; rcases hy with rfl | rfl | rfl | rfl <;> exact fun e => by cases e) ?_ (fun h₁ hns k => ?_) rfl rfl rfl
  · intro y hy
    simp only [List.mem_cons, List.not_mem_nil, or_false] at hy
    rcases hy with rfl | rfl
    · rfl
    · exact kf
  have X₁ : K.In h₁ := X.keeps k
  have hx₁ := k _ _ hx
  obtain ⟨oD, hD1, hD2⟩ : ∃ oD, h₁.get? D = some oD ∧ oD.data = .cls cdD := by
    unfold clsIn at hD
    split at hD
    · rename_i c d cd' sl ho
      cases hD
      exact ⟨_, X₁ _ _ ho, rfl⟩
    · cases hD
  have I : InstAt h₁ x (excO C t0) C none := ⟨hx₁, rfl, rfl, trivial⟩
  have mv : (fun y => [(("self" : Str), Value.ref x), (f, v)].reverse.lookup y) f = some v := by simp [List.lookup]
  have ms : (fun y => [(("self" : Str), Value.ref x), (f, v)].reverse.lookup y) "self" = some (Value.ref x) := by simp [List.lookup, fS']
  show wpAt _ _ _ (execs (iB f te q1 q2 q3 q4 q5 q6 q7 q8 q9) (ksEnv qual (iS f) s.heap.objs.size fI (.ref cda) cc)) _ _ _
  unfold iB
  refine ks_wpAt_execs_cons (ks_wpAt_Expr_any ?_)
  obtain ⟨hst, pl, hev⟩ := hst (ksEnv qual (iS f) s.heap.objs.size fI (.ref cda) cc)
  refine ks_wpAt_MethodCall (pl := pl) ?_ hev
  refine ks_wpAt_super_base (env := ksEnv qual (iS f) s.heap.objs.size fI (.ref cda) cc) ku kc rfl rfl (X₁ _ _ ho) rfl rfl rfl (X₁ _ _ hcode) rfl hvs hfile T.top ?_
  · refine ks_loadName_global rfl ku (loadGlobal_builtin (env := ksEnv qual (iS f) s.heap.objs.size fI (.ref cda) cc) (G.keeps k) gs (B.keeps k) bs ⟨rfl, ?_⟩)
    refine wpAny_loadName_free rfl kc rfl ⟨_, X₁ _ _ hcell, rfl⟩ ?_
    refine wpAny_loadName_local rfl (show (iS f).names.lookup ("self" : Str) = some .local from rfl) hns ms ?_
    refine ks_wpAny_isType_cls hD1 hD2 ⟨rfl, ?_⟩
    refine ks_wpAny_call_super hD1 hD2 hx₁ rfl (fun c e => by cases e) (looks_mroIn X₁ hm) (fun h₂ e₂ k₂ => ?_)
    have X₂ : K.In h₂ := X₁.keeps k₂
    have I₂ : InstAt h₂ x (excO C t0) C none := ⟨k₂ _ _ hx₁, rfl, rfl, trivial⟩
    have hsup' := hsup
    unfold ks_superIn at hsup'
    rw [hcl] at hsup'
    refine kxs_getMethod kxs_ValueError e₂ (looks_opaque X₂ T.opq) (l₀ := .ref C :: bm) ?_ rfl X₂ hsup' (I₂.type.andThen (looks_subIn X₂ T.exV)) (ks_ne X₂ I₂ hcl) rfl ?_
    · exact fun A Q E s k q => wpAny_bind ((looks_clsIn X₂ hcl) A _ E s k (wpAny_pure q))
    have k₃ : ∀ b o, s.heap.get? b = some o → (h₂.push (kxs_mw "ValueError.__init__" x)).get? b = some o := fun b o e => Heap.get?_push_of_some _ (k₂ _ _ (k _ _ e))
    have X₃ : K.In (h₂.push (kxs_mw "ValueError.__init__" x)) := X.keeps k₃
    have hn₃ : (h₂.push (kxs_mw "ValueError.__init__" x)).Ns s.heap.objs.size (fun y => [(("self" : Str), Value.ref x), (f, v)].reverse.lookup y) := by
      obtain ⟨oL, es, ep, hL, r⟩ := hns
      exact ⟨oL, es, ep, Heap.get?_push_of_some _ (k₂ _ _ hL), r⟩
    have hu₃ : (h₂.push (kxs_mw "ValueError.__init__" x)).get? h₂.objs.size = some (kxs_mw "ValueError.__init__" x) := Heap.get?_push_at rfl rfl
    show wpAny _ _ (callWith _ (.ref h₂.objs.size) [] (backTo q4 (starEach [te] _)) []) _ _ _
    rw [hst]
    refine kxs_callWith (i := "ValueError.__init__") (x := x) rfl (evalArgs_plain (spliced_cons (htx prog w _ _ _ _ _ v _ rfl kf hn₃ mv gv fun u tk => spliced_nil ⟨hu₃, ?_⟩)))
    refine init_run (C := C) (X₃ _ _ hC) (k₃ _ _ hx) hu₃ (by show 1 ≤ sizeLine; rw [sizeLine_eq]; omega) fun h₄ t1 k₄ hx₄ => ?_
    have xL : s.heap.objs.size ≠ x := Nat.ne_of_gt (Heap.lt_size hx)
    have X₄ : K.In h₄ := fun a o e => k₄ a o (fun z => by rw [z, hnx] at e; cases e) (X₃ a o e)
    have hn₄ : h₄.Ns s.heap.objs.size (fun y => [(("self" : Str), Value.ref x), (f, v)].reverse.lookup y) := by
      obtain ⟨oL, es, ep, hL, r⟩ := hn₃
      exact ⟨oL, es, ep, k₄ _ _ xL hL, r⟩
    refine wpAt_of_wpAny ?_
    show wpAny _ _ (execs _ _) _ _ _
    refine wpAny_execs_cons (plainObj_wpAny_Assign_Attribute ?_)
    refine wpAny_Name (wpAny_loadName_local rfl kf hn₄ mv ?_) T.fD
    refine wpAny_Name (wpAny_loadName_local rfl (show (iS f).names.lookup ("self" : Str) = some .local from rfl) hn₄ ms ?_) (by decide)
    refine set_plain X₄ (ox := excO C t1) (od := none) ⟨hx₄, rfl, rfl, trivial⟩ T.sa ?_
    refine exc_osa X₄ hx₄ hcl (show refsVE (.ref C :: bm) = true from hbm) rfl T.noN (fun h₅ tk₅ dx k₅ dn dne hx₅ hn₅ => ?_)
    show wpAny _ _ (execs _ _) _ _ _
    have z : s.heap.objs.size < h₄.objs.size := by
      obtain ⟨oL, es, ep, hL, r⟩ := hn₄
      exact Heap.lt_size hL
    exact wpAny_execs_nil (hq h₅ tk₅ dx t1 ⟨fun b o hb e => k₅ b o hb (k₄ b o hb (k₃ b o e)), hx₅, Nat.le_of_lt (Nat.lt_of_lt_of_le z dn), dne, hn₅⟩)
theorem own_made (T : OExc prog K C f good) {v : Value} (X : K.In s.heap) (G : s.heap.Ns mainGlobals mg) (gs : mg "super" = none) (B : s.heap.Ns builtinsNs mb) (bs : mb "super" = some (.type "super")) (hlim : s.heap.NoLimit) (hroom : A.depth + 1 < recursionLimit) (gv : good v)
    (hq : ∀ h' tk e d, OwnMade s.heap h' e C d f v → (∃ t1 : Addr, h'.get? e = some { cls := .ref C, dict := some d, data := .fields #[.ref t1, .none, .none, .none, .bool false, .none] }) → R (.ok (.ret (.ref e))) { s with heap := h', toks := tk }) :
    codeAny (model prog w) A (.call (.ref C) ⟨[v], []⟩) R s := by
  obtain ⟨nm, q, N, bss, bm, sn, sub, ab, col, dd, k0, k1, k2, k3, k5, hC, hbm⟩ := T.cls
  obtain ⟨D, fI, cc, cda, hi, hti, _⟩ := T.own
  obtain ⟨hp, g, dr, tk, os⟩ := s
  have k : ∀ b o, hp.get? b = some o → ((hp.push (kdv_tup [v])).push (excO C hp.objs.size)).get? b = some o := fun b o e => Heap.get?_push_of_some _ (Heap.get?_push_of_some _ e)
  have hget : ((hp.push (kdv_tup [v])).push (excO C hp.objs.size)).get? (hp.objs.size + 1) = some (excO C hp.objs.size) := by heap_get
  have hnx : K.lookup (hp.objs.size + 1) = none := by
    cases e : K.lookup (hp.objs.size + 1) with
    | none => rfl
    | some o =>
      have z : hp.get? (hp.objs.size + 1) = some o := X _ _ e
      exact absurd (Nat.lt_of_succ_lt (Heap.lt_size z)) (Nat.lt_irrefl _)
  refine call_own F.excBase_ValueError (fun X => refsVE_contains X bm hbm) (X _ _ hC) (looks_findIn X hi) (fun self => bind_fn X self hti) (by show 1 ≤ sizeLine; rw [sizeLine_eq]; omega) ?_
  refine own_init (s := ⟨(hp.push (kdv_tup [v])).push (excO C hp.objs.size), g, dr, tk, os⟩) T hi (X.keeps k) (G.keeps k) gs (B.keeps k) bs (hlim.keeps k) hget hnx ?_ gv fun h' tk' dx t1 ⟨k', hx, dn, dne, hns⟩ => ?_
  · show A.depth + 1 < recursionLimit
    exact hroom
  · have old : ∀ b o, hp.get? b = some o → h'.get? b = some o := fun b o e => k' b o (Nat.ne_of_lt (Nat.lt_succ_of_lt (Heap.lt_size e))) (k b o e)
    have z : hp.objs.size + 1 + 1 ≤ dx := by
      first
        | (simpa only [Heap.size_push] using dn)
        | exact dn
        | (have q := dn; rw [Heap.size_push, Heap.size_push] at q; exact q)
    exact ⟨rfl, hq h' tk' (hp.objs.size + 1) dx ⟨old, Nat.le_succ _, ⟨_, _, hx, rfl, rfl, rfl, rfl⟩, Nat.le_trans (Nat.le_trans (Nat.le_succ _) (Nat.le_succ _)) z, dne, hns⟩ ⟨t1, hx⟩⟩
end
end OwnX
end PySem
namespace Sh
open PySem PySem.Spec PyProof.Rows L2
theorem relO_one {v : V} {v' : Value} {f0 : Str} (r : RelV v v') (f : Str) : RelO (List.lookup f [(f0, v)]) (if f = f0 then some v' else none) := by
  by_cases hw : f = f0
  · subst hw
    rw [if_pos rfl]
    have q : List.lookup f [(f, v)] = some v := by simp [List.lookup]
    rw [q]
    exact r
  · rw [if_neg hw]
    have qw : (f == f0) = false := by simpa using hw
    have q2 : List.lookup f [(f0, v)] = none := by simp [List.lookup, qw]
    rw [q2]
    trivial
section
variable {X : Cx} {C : Addr} {f : Str} {good : Value → Prop} {gv : V → Prop}
/-- C(e) -/
def tMkX (C : Addr) (f : Str) (gv : V → Prop) (ta : TA) : L2.St → Hp → XK → Prop := fun σ H Q => ta σ H fun vs H1 => ∃ v, vs = [v] ∧ gv v ∧ ∀ d, H1 d = none → Q (.ref C) (some d) (upd H1 d (.xd [(f, v)]))
theorem pmk_x {x : Str} {a : Expr} {ta : TA} {p pos : Pos} (T : OwnX.OExc X.prog X.K C f good) (gC : X.mg x = some (.ref C)) (gs : X.mg "super" = none) (hgv : ∀ v u, gv v → RelV v u → good u) (hr : X.A.depth + 1 < recursionLimit) (ha : PA X [a] ta) (hg : Gl X x)
    (hdb : (x == ("__debug__" : Str)) = false := by decide)
    (he : starEach (a :: []) X.env = (false, eval a X.env) :: starEach [] X.env := by rfl) (hpl : (backTo pos (starEach [] X.env)).any (·.1) = false := by rfl) :
    L2N.PMk X (.Call (.Name x p) [a] [] pos) (tMkX C f gv ta) := by
  intro pins s σ H Q I h
  refine wpAny_Call_Name_kw (ld_glob I hg gC ?_ hdb)
  refine PySem.W.callWith_K (h₀ := X.base) I.ok.mod.kin T.kC (thn (ha.run pos pins s σ H _ I h) fun us s1 hh => ?_) he hpl
  obtain ⟨vs, H1, I1, r1, v, ev, gvv, q1⟩ := hh
  subst ev
  refine ⟨I1.kIn, ?_⟩
  cases r1 with
  | cons rv rn =>
    rename_i v' us'
    cases rn
    show wpAny _ _ (call (.ref C) [v']) _ _ _
    have hlim := I1.nolimit
    obtain ⟨mb, hb1, hb2⟩ := I1.mod.blt
    have hG := I1.mod.glob.keeps I1.bk
    have hB := hb1.keeps I1.bk
    obtain ⟨hp, g, dr, tk, os⟩ := s1
    refine wpAny_call (OwnX.own_made T I1.kIn hG gs hB ((hb2 "super" (by decide)).trans (by decide +kernel)) hlim hr (hgv _ _ gvv rv) fun h' tk' e d M M5 => ?_)
    show L2N.MkP X pins σ Q (.ref e) ⟨h', g, dr, tk', os⟩
    obtain ⟨t1, hoe⟩ := M5
    have hns := M.ns
    obtain ⟨G', g1, g2⟩ := restrict h' fun b => decide (b ≠ e)
    have gk : ∀ b, b ≠ e → G'.get? b = h'.get? b := fun b hb => g1 b (decide_eq_true hb)
    have ge : G'.get? e = none := g2 e (by simp)
    have old : ∀ b o, hp.get? b = some o → G'.get? b = some o := fun b o q => (gk b (Nat.ne_of_lt (Nat.lt_of_lt_of_le (Heap.lt_size q) M.new))).trans (M.keep b o q)
    have ob : ObjOk X.prog X.w (upd H1 d (.xd [(f, v)])) G' d (.xd [(f, v)]) :=
      ⟨_, hns.at (fun o q => (gk d M.dne).trans q), fun f' => relO_one rv f'⟩
    have J : Inv X pins σ (upd H1 d (.xd [(f, v)])) ⟨G', g, dr, tk', os⟩ := I1.laid (t' := tk') old M.dbig ob
    refine ⟨e, _, _, ⟨G', g, dr, tk', os⟩, _, .ref C, some d, rfl, J, fun b o q => ?_, ge, hoe, ⟨rfl, rfl, fun vs e => by cases e; rfl⟩, rfl, rfl, ?_, rfl, I1.bare, raises_own T.exC T.tyC, q1 d (I1.hok.fresh M.dbig)⟩
    · by_cases hb : b = e
      · have q' : G'.get? b = some o := q
        rw [hb, ge] at q'; cases q'
      · exact (gk b hb).symm.trans q
    · rw [upd_ne (Ne.symm M.dne)]
      exact I1.hok.fresh M.new
theorem pmk_z {X : Cx} {e : Expr} {t : L2.St → Hp → XK → Prop} (h : L2N.PMk X e t) : L2.PMk X e t := fun pins s σ H Q I q =>
  wpAny_mono (h pins s σ H Q I q) (fun u s1 ⟨a, oe, vs, sI, H', cls, d, eu, J, k, hne, ha, hz, r⟩ => ⟨a, oe, vs, sI, H', cls, d, eu, J, k, hne, ha, hz.zc, r⟩) fun _ _ z => z
/-- raise C(e) -/
def tRaiseX (C : Addr) (f : Str) (gv : V → Prop) (W : WX) (ta : TA) : TS := fun _ σ H => tMkX C f gv ta σ H fun cls d H' => W cls d σ H'
theorem ps_raiseN {x : Str} {a : Expr} {ta : TA} {W : WX} {p pos pos2 : Pos} (hc : X.calm = true) (T : OwnX.OExc X.prog X.K C f good) (gC : X.mg x = some (.ref C)) (gs : X.mg "super" = none) (hgv : ∀ v u, gv v → RelV v u → good u) (hr : X.A.depth + 1 < recursionLimit) (tk : L2N.Takes X W) (ha : PA X [a] ta) (hg : Gl X x)
    (hdb : (x == ("__debug__" : Str)) = false := by decide)
    (he : starEach (a :: []) X.env = (false, eval a X.env) :: starEach [] X.env := by rfl) (hpl : (backTo pos (starEach [] X.env)).any (·.1) = false := by rfl) :
    PS X (.Raise (some (.Call (.Name x p) [a] [] pos)) none pos2) (tRaiseX C f gv W ta) := L2N.ps_raise hc tk (pmk_x T gC gs hgv hr ha hg hdb he hpl)
theorem ps_raiseZ {x : Str} {a : Expr} {ta : TA} {W : WX} {p pos pos2 : Pos} (hc : X.calm = true) (T : OwnX.OExc X.prog X.K C f good) (gC : X.mg x = some (.ref C)) (gs : X.mg "super" = none) (hgv : ∀ v u, gv v → RelV v u → good u) (hr : X.A.depth + 1 < recursionLimit) (tk : L2.Takes X W) (ha : PA X [a] ta) (hg : Gl X x)
    (hdb : (x == ("__debug__" : Str)) = false := by decide)
    (he : starEach (a :: []) X.env = (false, eval a X.env) :: starEach [] X.env := by rfl) (hpl : (backTo pos (starEach [] X.env)).any (·.1) = false := by rfl) :
    PS X (.Raise (some (.Call (.Name x p) [a] [] pos)) none pos2) (tRaiseX C f gv W ta) := L2.ps_raise hc tk (pmk_z (pmk_x T gC gs hgv hr ha hg hdb he hpl))
/-- in an except suite -/
theorem ps_raiseS {x : Str} {a : Expr} {ta : TA} {W : WX} {p pos pos2 : Pos} (hc : L2H.HotC X) (T : OwnX.OExc X.prog X.K C f good) (gC : X.mg x = some (.ref C)) (gs : X.mg "super" = none) (hgv : ∀ v u, gv v → RelV v u → good u) (hr : X.A.depth + 1 < recursionLimit) (tk : L2.Takes X W) (ha : PA X [a] ta) (hg : Gl X x)
    (hdb : (x == ("__debug__" : Str)) = false := by decide)
    (he : starEach (a :: []) X.env = (false, eval a X.env) :: starEach [] X.env := by rfl) (hpl : (backTo pos (starEach [] X.env)).any (·.1) = false := by rfl) :
    PS X (.Raise (some (.Call (.Name x p) [a] [] pos)) none pos2) (tRaiseX C f gv W ta) := L2H.ps_raiseH hc tk (pmk_x T gC gs hgv hr ha hg hdb he hpl)
end
theorem okN_of {P : Program} {w : World} {K : PySem.W.Frag} {mg : Str → Option Value} {base : Heap} {x qual : Str} {st : Stmt} {f : Addr} {fd : FuncData} {N ps : List Str} {k : Nat} {sp : Sp} (F : Fun K x qual st f fd) (S : FnScope N ps (defScope st)) (len : ∀ vs H Q E, sp vs H Q E → vs.length = ps.length)
    (hbody : ∀ (cdv : Value) (A : Around) (outer : List Env) (s : Shared) (H : Hp) (vs : List V) (Q : VK) (E : XK), Room k (A.deeper (envOfC qual (defScope st) s.heap.objs.size f cdv)) → sp vs H Q E →
      ∃ t, PSs (cxOf (L2N.CX P w) P w K mg base N qual (defScope st) f cdv A outer s H E) (defBody st) t ∧ t { nx := fun _ H' => Q .non H', rt := Q } (start N vs) H) : FnOk P w K mg base (L2N.CX P w) (k + 1) f fd ps sp := by
  obtain ⟨oc, od, kV, doc, pm, an, cdv, ct, osl, rfl, lk, hcd⟩ := F.ex
  exact fn_of lk hcd S len fun A outer s H vs Q E hr hsp => hbody cdv A outer s H vs Q E hr hsp
end Sh
set_option Elab.async false
set_option linter.all false
set_option maxRecDepth 100000
set_option maxHeartbeats 4000000
/-! a comprehension whose element may raise -/
namespace Sh
open PySem PySem.Spec PyProof.Rows L2
section
variable {X : Cx} {pins : List (Addr × Obj)} {σ : L2.St} {H : Hp} {s s' : Shared} {E : XK}
/-- what a call has let out flies over our frames; s without it is a state of ours -/
theorem call_fly (I : Inv X pins σ H s) {u : Value} (c : L2.CX X.prog X.w X.stack H s E u s') : ∃ (a : Addr) (B : Heap) (sI : Shared) (H' : Hp) (cls : Value) (d : Option Addr), u = .ref a ∧ Inv X pins σ H' sI ∧ (∀ b o, sI.heap.get? b = some o → b ∉ frs X.stack → B.get? b = some o) ∧
    (∀ b o, sI.heap.get? b = some o → s'.heap.get? b = some o) ∧ HandSPX.FlyingZ B X.stack a (Zc cls d) s'.heap ∧ H' a = none ∧ s'.os = sI.os ∧ AllBare s'.gens ∧ E cls d H' := by
  obtain ⟨a, B, H', cls, d, eu, fl, hok, ub, na, eos, bare, w⟩ := c
  let keepB : Addr → Bool := fun b => decide (b ∈ frs X.stack) || (B.get? b).isSome
  obtain ⟨G, yes, no⟩ := restrict s'.heap keepB
  have inB : ∀ b o, B.get? b = some o → G.get? b = some o := fun b o e => (yes b (by show (_ || _) = true; rw [e, Option.isSome_some, Bool.or_true])).trans (fl.1 b o e)
  have inF : ∀ b, b ∈ frs X.stack → G.get? b = s'.heap.get? b := fun b hb => yes b (by show (_ || _) = true; rw [decide_eq_true hb, Bool.true_or])
  have out : ∀ b o, G.get? b = some o → s'.heap.get? b = some o ∧ keepB b = true := fun b o e => by
    by_cases q : keepB b = true
    · exact ⟨(yes b q).symm.trans e, q⟩
    · rw [no b (Bool.eq_false_iff.mpr q)] at e
      cases e
  have un : Un (frs X.stack) [] H H' s.heap G := by
    refine ⟨fun b o e n hb _ => inB b o (ub.keep b o e n hb), fun b o e n hb _ => ?_, fun b o e n _ => ub.free b o e n, fun b o e _ => ?_, ub.tups, ub.frzs, ub.tbls⟩
    · obtain ⟨sl, q⟩ := ub.slot b o e hb
      exact ⟨sl, (inF b hb).trans q⟩
    · by_cases hb : b ∈ frs X.stack
      · obtain ⟨sl, q⟩ := ub.slot b o e hb
        exact ⟨_, (inF b hb).trans q⟩
      · obtain ⟨o', q⟩ := ub.there b o e hb
        exact ⟨o', inB b o' q⟩
  refine ⟨a, B, { s with heap := G, gens := s'.gens, drawn := s'.drawn, toks := s'.toks }, H', cls, d, eu, I.call (ch := []) un (hok.kept inB) bare (fun _ z => nomatch z), fun b o e hb => ?_, fun b o e => (out b o e).1, fl, na, eos, bare, w⟩
  obtain ⟨e1, e2⟩ := out b o e
  have e3 : (B.get? b).isSome = true := by
    have e4 : (decide (b ∈ frs X.stack) || (B.get? b).isSome) = true := e2
    rwa [decide_eq_false hb, Bool.false_or] at e4
  obtain ⟨o', q⟩ := Option.isSome_iff_exists.mp e3
  rw [q, ← e1, fl.1 b o' q]
/-- without one object that isn't ours -/
theorem funFrames_cut {h B G : Heap} (k : ∀ b o, G.get? b = some o → B.get? b = some o) : ∀ {l : List Env}, h.FunFrames B l → h.FunFrames G l
  | [], _ => trivial
  | env :: rest, ⟨a, ⟨L, o, e1, e2, e3⟩, r⟩ => by
    have e4 : G.get? L = none := by
      cases q : G.get? L with
      | none => rfl
      | some o' =>
        rw [k _ _ q] at e2
        cases e2
    exact ⟨a, ⟨L, o, e1, e4, e3⟩, funFrames_cut k r⟩
/-- an exception out of the element of a comprehension -/
theorem comp_fail {scope : Scope} {cl : List (Str × Addr)} {fp : List Addr} {pins8 : List (Addr × Obj)} {σ8 : L2.St} {H3 H8 : Hp} {s3 s8 : Shared} {xe : Value → Shared → Prop} {u : Value} (I3 : Inv X pins σ H3 s3)
    (f3 : ∀ b ∈ fp, FpOk X pins H3 b ∧ b < s3.heap.objs.size) (hs : X.stack = X.env :: X.outer) (hf : X.env.frame = some X.env.locals) (tk : L2.Takes X fun cls d _ H => E cls d H)
    (I8 : Inv ((X.blk s3 H3 scope (compEnvC scope cl s3.heap.objs.size X.env) fp).wish xe) pins8 σ8 H8 s8) (c : L2.CX X.prog X.w X.stack H8 s8 E u s') :
    notedBy (model X.prog X.w) X.A (compEnvC scope cl s3.heap.objs.size X.env) (CompFails (model X.prog X.w) X.A X.xe (compEnvC scope cl s3.heap.objs.size X.env)) u s' := by
  obtain ⟨a, B, sI, H', cls, d, rfl, I9, nb, up, fl, na, eos, bare, w⟩ := call_fly I8 c
  have J9 : Inv X pins σ H' sI := I3.call' (ch := fp) I9.os I9.base I9.hok I9.bare fun b hb => ⟨(f3 b hb).1.2.2.2.1, (f3 b hb).1.2.1, (f3 b hb).1.2.2.2.2.1, (f3 b hb).1.2.2.2.2.2⟩
  have nC : H' s3.heap.objs.size = none := I9.free
  obtain ⟨f0, f1, f2, f4, f5, f6⟩ := I3.fpOk (Nat.le_refl _) nC
  have hfr : X.A.frames = some (X.env :: X.outer) := by rw [I3.ok.frames, hs]
  have hst : X.stack = ((X.blk s3 H3 scope (compEnvC scope cl s3.heap.objs.size X.env) fp).wish xe).stack := rfl
  have fl : HandSPX.FlyingZ B (X.env :: X.outer) a (Zc cls d) s'.heap := by rw [← hs]; exact fl
  obtain ⟨m9, hn9, _⟩ := I9.loc
  have hn9 : sI.heap.Ns s3.heap.objs.size m9 := hn9
  have CF : s3.heap.objs.size ∉ frs X.stack := fun z => by
    rcases List.mem_cons.mp (I3.stkSub _ z) with q | q
    · exact f1 q
    · exact f2 q
  -- the ground without the block
  obtain ⟨G, yes, no⟩ := restrict B fun b => decide (b ≠ s3.heap.objs.size)
  have GB : ∀ b o, G.get? b = some o → B.get? b = some o ∧ b ≠ s3.heap.objs.size := fun b o e => by
    by_cases q : b = s3.heap.objs.size
    · rw [no b (decide_eq_false fun z => z q)] at e
      cases e
    · exact ⟨(yes b (decide_eq_true q)).symm.trans e, q⟩
  have GN : ∀ b, B.get? b = none → G.get? b = none := fun b e => by
    cases q : G.get? b with
    | none => rfl
    | some o =>
      rw [(GB b o q).1] at e
      cases e
  have flG : HandSPX.FlyingZ G (X.env :: X.outer) a (Zc cls d) s'.heap := by
    obtain ⟨k1, k2, k3, oe, vs, T, oT, ts, e1, e2, e3, e4, e5, e6⟩ := fl
    exact ⟨fun b o e => k1 b o (GB b o e).1, GN _ k2, funFrames_cut (fun b o e => (GB b o e).1) k3, oe, vs, T, oT, ts, e1, e2, e3, e4, GN _ e5, e6⟩
  show wpAny (model X.prog X.w) X.A (noteFrame (.ref a) (compEnvC scope cl s3.heap.objs.size X.env)) _ _ s'
  rw [noteFrame_env _ (show (compEnvC scope cl s3.heap.objs.size X.env).frame = X.env.frame from rfl)]
  refine HandSPX.looks_onZ Zc.steady hfr hf flG fun h1 hd1 up1 => ?_
  have hn1 : h1.Ns s3.heap.objs.size m9 := by
    obtain ⟨oL, es, ep, g1, g2, g3⟩ := hn9
    obtain ⟨sl, q⟩ := up1 _ _ (up _ _ g1) fun vs z => by rw [g2] at z; cases z
    exact ⟨_, es, ep, q, g2, g3⟩
  refine ⟨m9, hn1, fun h2 m2 hn2 sb => ?_⟩
  obtain ⟨b1, b2, b3, oe, vs, T, oT, ts, e1, e2, e3, e4, e5, e6, e7, e8, e9⟩ := hd1
  have notC : ∀ b o vs, h1.get? b = some o → o.data = .fields vs → b ≠ s3.heap.objs.size := fun b o vs g1 g2 z => by
    obtain ⟨oL, es, ep, q1, q2, _⟩ := hn1
    rw [z, q1] at g1
    cases g1
    rw [g2] at q2
    cases q2
  have t2 : HandSPX.TracedZ h2 G a (Zc cls d) (rawInt X.env.locals) := ⟨oe, vs, T, oT, ts, (sb.2 a (notC _ _ _ e1 e3)).trans e1, e2, e3, e4, e5, e6, (sb.2 T (notC _ _ _ e7 e8)).trans e7, e8, e9⟩
  have st2 : G.StaysIn h2 := fun b o e => (sb.2 b (GB b o e).2).trans (b1 b o e)
  have fr2 : h2.FunFrames G (X.env :: X.outer) := Heap.FunFrames.sameBut sb hn2 b3
  unfold PySem.passOn
  refine wpAny_bind (wpAny_field t2.choose_spec.choose_spec.choose_spec.choose_spec.choose_spec.1 t2.choose_spec.choose_spec.choose_spec.choose_spec.choose_spec.2.2.1 t2.choose_spec.choose_spec.choose_spec.choose_spec.choose_spec.2.2.2.1 ?_)
  rw [if_neg (show ¬ ((Value.ref _ == Value.none) = true) from by simp)]
  refine wpAny_bind (HandSPX.setFlight_anyZ st2 fr2 t2 fun h3 j1 j2 j3 j4 => wpAny_throw ?_)
  -- the state without the exception, without the block
  obtain ⟨G9, yes9, no9⟩ := restrict sI.heap fun b => decide (b ≠ s3.heap.objs.size)
  have G9s : ∀ b o, G9.get? b = some o → sI.heap.get? b = some o ∧ b ≠ s3.heap.objs.size := fun b o e => by
    by_cases q : b = s3.heap.objs.size
    · rw [no9 b (decide_eq_false fun z => z q)] at e
      cases e
    · exact ⟨(yes9 b (decide_eq_true q)).symm.trans e, q⟩
  have K9 := J9.turned (t' := sI.toks) (h' := G9) (it := s3.heap.objs.size) (fun b o hb e => (yes9 b (decide_eq_true hb)).trans e) f0 f1 f4 f5 f6
  refine tk _ _ ⟨a, G, { sI with heap := G9 }, pins, σ, H', cls, d, rfl, K9, fun b o e hb => ?_, fun b o e hnf => ?_, .inr (.inr ?_), na, eos, bare, w⟩
  · obtain ⟨q1, q2⟩ := G9s b o e
    exact (yes b (decide_eq_true q2)).trans (nb b o q1 hb)
  · obtain ⟨q1, q2⟩ := G9s b o e
    obtain ⟨sl, q3⟩ := up1 b o (up b o q1) hnf
    obtain ⟨sl2, q4⟩ := j4 b _ ((sb.2 b q2).trans q3) hnf
    exact ⟨sl2, q4⟩
  · rw [hs]
    refine ⟨j1, GN _ fl.2.1, j2, ?_⟩
    have ef : (compEnvC scope cl s3.heap.objs.size X.env).frame = some X.env.locals := hf
    rw [ef] at j3
    exact j3
/-- what the element may let out is told to what stands around -/
def Lets (X : Cx) (Y : Cx) (E : XK) : Prop := ∀ (pins : List (Addr × Obj)) (σ : L2.St) (H : Hp) (s : Shared) (e : Value) (s' : Shared), Inv Y pins σ H s → L2.CX X.prog X.w X.stack H s E e s' → Y.xe e s'
theorem lc_coreX {Q : VK} {elt tg iter : Expr} {ifs : List Expr} {scope : Scope} {own : List (Str × Nat)} {pos pos' : Pos} {wi : TI} {g : TG} {tt : TT} {te : TE} {use : Option (Value → Sem Unit)} {Qf : Value → Shared → Prop}
    (hc : X.calm = true) (hN : X.N.Nodup) (I : Inv X pins σ H s) (hi : PI X tg iter wi) (ok : BlkOk X.N X.env.scope scope own) (hst : X.stack = X.env :: X.outer) (hfr : X.env.frame = some X.env.locals) (tk : L2.Takes X fun cls d _ H => E cls d H)
    (hg : ∀ (s : Shared) (H : Hp) (C : Addr) (cl : List (Str × Addr)) (fp : List Addr), PG (X.blk s H scope (compEnvC scope cl C X.env) fp) tg g) (ht : ∀ (s : Shared) (H : Hp) (C : Addr) (cl : List (Str × Addr)) (fp : List Addr), PTs (X.blk s H scope (compEnvC scope cl C X.env) fp) ifs tt)
    (he : ∀ (s : Shared) (H : Hp) (C : Addr) (cl : List (Str × Addr)) (fp : List Addr) (xe : Value → Shared → Prop), Lets X ((X.blk s H scope (compEnvC scope cl C X.env) fp).wish xe) E → PE ((X.blk s H scope (compEnvC scope cl C X.env) fp).wish xe) elt te)
    (hs : ∀ x, foldedSetIterable iter X.env x = pure x) (h : tLc wi g tt te (own.map (·.2)) σ H Q)
    (hRR : ∀ D (cl : List (Str × Addr)) C s' m H', Inv X pins σ H' s' → Q (.ref D) H' → s'.heap.Ns C m → FpOk X pins H' C → compEnds (model X.prog X.w) X.A X.xe use Qf (.ref D) (compEnvC scope cl C X.env) (.ok .next) s') :
    wpAny (model X.prog X.w) X.A (comprehension (.ListComp elt [⟨tg, iter, ifs, 0⟩] scope pos) scope X.env pos' (newList []) false (eval iter X.env) use) Qf X.xe s := by
  have frees : ∀ y ∈ scope.names, y.2 = .free → ∃ c, X.env.cells.lookup y.1 = some c := fun y hy e => (ok.free y hy e).elim (fun k => I.ok.has _ (.inl k)) fun k => I.ok.has _ (.inr k)
  refine comprehension_at (use := use) rfl hs (closure_ok frees) ok.kind (fun y hy e => (ok.uniq y hy).trans (by rw [e])) (thn (hi.run pins s σ H _ I h) fun xv s1 hx => thn hx fun itv s2 h2 => ?_)
  obtain ⟨it, fp, tn, J, H2, rfl, I2, T, st2, f2, q⟩ := h2
  refine wpAny_newObj_type (newEnv_comp ?_) (by show 0 ≤ sizeLine; decide)
  generalize hD : s2.heap.objs.size = D
  have hDn : H2 D = none := I2.hok.fresh (Nat.le_of_eq hD)
  obtain ⟨W, ⟨m0, w0⟩, turn⟩ := q D hDn
  generalize hs3 : ({ s2 with heap := s2.heap.push { cls := .type "list", data := .seq ([] : List Value).toArray } } : Shared) = s3
  have e3 : s3.heap = s2.heap.push { cls := .type "list", data := .seq ([] : List Value).toArray } := by rw [← hs3]
  have I3 : Inv X pins σ (upd H2 D (.lst [])) s3 := by
    rw [← hs3]
    refine I2.laid (t' := s2.toks) (fun b o z => Heap.get?_push_of_some _ z) (Nat.le_of_eq hD) ⟨Nat.zero_le _, [], 0, .nil, ?_⟩
    rw [← hD]
    exact Heap.get?_push_size _ rfl
  have f3 : ∀ b ∈ fp, FpOk X pins (upd H2 D (.lst [])) b ∧ b < s3.heap.objs.size := fun b hb => by
    obtain ⟨o, z, _⟩ := T.obj _ _ st2 b hb
    have lt := Heap.lt_size z
    refine ⟨⟨?_, (f2 b hb).2⟩, by rw [e3, Heap.size_push]; exact Nat.lt_succ_of_lt lt⟩
    rw [upd_ne (show b ≠ D from fun y => by rw [y, ← hD] at lt; exact Nat.lt_irrefl _ lt)]
    exact (f2 b hb).1
  have I4 := block_start I3 ok hN f3
  generalize hcl : cellsFrom (s3.heap.objs.size + 1) scope.names (cloFrom X.env.cells scope.names []) = cl at I4
  show codeAny _ _ (.compStart (.ListComp elt [⟨tg, iter, ifs, 0⟩] scope pos) 0 (.ref it) (.ref D) (compEnvC scope cl s3.heap.objs.size X.env))
    (compEnds (model X.prog X.w) X.A X.xe use Qf (.ref D) (compEnvC scope cl s3.heap.objs.size X.env)) { s3 with heap := pushCells (s3.heap.push { cls := .type "dict", data := .dict #[] }) scope.names }
  have pg := hg s3 (upd H2 D (.lst [])) s3.heap.objs.size cl fp
  have pt := ht s3 (upd H2 D (.lst [])) s3.heap.objs.size cl fp
  have pe := he s3 (upd H2 D (.lst [])) s3.heap.objs.size cl fp (notedBy (model X.prog X.w) X.A (compEnvC scope cl s3.heap.objs.size X.env) (CompFails (model X.prog X.w) X.A X.xe (compEnvC scope cl s3.heap.objs.size X.env)))
    (fun pins8 σ8 H8 s8 u s' I8 c => comp_fail I3 f3 hst hfr tk I8 c)
  have nfp : ∀ b ∈ fp, (upd H2 D (.lst [])) b = none := fun b hb => (f3 b hb).1.1
  generalize hH3 : upd H2 D (.lst []) = H3 at I3 I4 pg pt pe w0 nfp f3
  generalize hs4 : ({ s3 with heap := pushCells (s3.heap.push { cls := .type "dict", data := .dict #[] }) scope.names } : Shared) = s4 at I4 ⊢
  have st4 : tn 0 s4.heap := T.keep _ _ _ st2 fun b _ o z => by
    rw [← hs4]
    refine pushCells_keeps _ _ _ _ (Heap.get?_push_of_some _ ?_)
    rw [e3]
    exact Heap.get?_push_of_some _ z
  generalize hce : compEnvC scope cl s3.heap.objs.size X.env = ce at I4 pg pt pe ⊢
  have cL : ce.locals = s3.heap.objs.size := by subst hce; rfl
  have stat : ∀ {σ' : L2.St} {H' : Hp} {s' : Shared}, Inv (X.blk s3 H3 scope ce fp) [] σ' H' s' → (∀ b ∈ fp, H' b = none) → ∀ b ∈ fp, FpOk (X.blk s3 H3 scope ce fp) [] H' b := fun {σ' H' s'} I' hn b hb =>
    ⟨hn b hb, (I'.ok.exf b hb).1, I'.ok.exfs b hb, .inl hb, fun x c z => (I'.ok.exf b hb).2 x c z, fun p hp => nomatch (show p ∈ ([] : List (Addr × Obj)) from hp)⟩
  have loop : codeAny (model X.prog X.w) X.A (.compLoop (.ListComp elt [⟨tg, iter, ifs, 0⟩] scope pos) 0 (.ref it) (.ref D) ce) (compEnds (model X.prog X.w) X.A X.xe use Qf (.ref D) ce) s4 := by
    refine compLoop_any (fun n s' => ∃ i H', Inv (X.blk s3 H3 scope ce fp) [] (wipe σ (own.map (·.2))) H' s' ∧ tn i s'.heap ∧ (∀ b ∈ fp, H' b = none) ∧ W i n H') ?_ m0 ⟨0, H3, I4, st4, nfp, w0⟩
    rintro n s5 ⟨i, H5, I5, st5, n5, w5⟩
    have errs : (notedBy (model X.prog X.w) X.A ce fun e s' => compEnds (model X.prog X.w) X.A X.xe use Qf (.ref D) ce (.error e) s') = notedBy (model X.prog X.w) X.A ce (CompFails (model X.prog X.w) X.A X.xe ce) := by
      cases use <;> rfl
    rw [errs]
    rcases turn i n H5 w5 with ⟨stop, qq⟩ | ⟨go, Nx, hNx, step⟩
    · refine thnF (T.done (X.blk s3 H3 scope ce fp) rfl rfl rfl hc i [] s5 _ H5 (fun _ _ => False) I5 (stat I5 n5) st5 stop) fun r s6 ⟨hr, I6⟩ => ?_
      subst hr
      have I7 : Inv X pins σ H5 s6 := I3.call' (ch := fp) I6.os I6.base I6.hok I6.bare fun b hb =>
        let z := (f3 b hb).1
        ⟨z.2.2.2.1, z.2.1, z.2.2.2.2.1, z.2.2.2.2.2⟩
      have nC : H5 s3.heap.objs.size = none := by
        rw [← cL]
        exact I6.free
      obtain ⟨m, hn, _⟩ := I6.loc
      have hn : s6.heap.Ns s3.heap.objs.size m := by
        rw [← cL]
        exact hn
      show compEnds (model X.prog X.w) X.A X.xe use Qf (.ref D) ce (.ok .next) s6
      rw [← hce]
      exact hRR D cl s3.heap.objs.size s6 m H5 I7 qq hn (I3.fpOk (Nat.le_refl _) nC)
    · refine thnF (T.item (X.blk s3 H3 scope ce fp) rfl rfl rfl hc i [] s5 _ H5 (fun _ _ => False) I5 (stat I5 n5) st5 go) fun r s6 ⟨u, hr, h6⟩ => ?_
      subst hr
      refine thnF h6 fun _ s7 ⟨x, H7, I7, r7, y7, st7, n7⟩ => ?_
      have P7 := I7.pinned (stat I7 n7) (T.obj _ _ st7)
      refine thnF (pg.run _ s7 _ H7 x u _ P7 r7 (step x H7 y7)) fun _ s8 ⟨σ8, H8, I8, hw8, q8⟩ => ?_
      refine thnF (pt.run _ s8 σ8 H8 _ I8 q8) fun b s9 ⟨H9, I9, q9⟩ => ?_
      have fin : ∀ {s' : Shared} {H' : Hp}, Inv (X.blk s3 H3 scope ce fp) ([] ++ pinsAt fp s7.heap) σ8 H' s' → Nx H' → ∃ m, m < n ∧ ∃ i H', Inv (X.blk s3 H3 scope ce fp) [] (wipe σ (own.map (·.2))) H' s' ∧ tn i s'.heap ∧ (∀ b ∈ fp, H' b = none) ∧ W i m H' := fun {s' H'} I' nx => by
        obtain ⟨m', hm, w'⟩ := hNx H' nx
        have pin' : ∀ b ∈ fp, ∀ o, s7.heap.get? b = some o → s'.heap.get? b = some o ∧ H' b = none := fun b hb o z =>
          let y := I'.pin (b, o) (List.mem_append_right _ (List.mem_append_right _ (mem_pinsAt hb z)))
          ⟨y.1, y.2.1⟩
        refine ⟨m', hm, i + 1, H', (I'.unpinned (pins := [])).weak (by rw [← hw8, wipe_length]) (fun j v z => ?_), T.keep _ _ _ st7 fun b hb o z => (pin' b hb o z).1, fun b hb => ?_, w'⟩
        · rw [← hw8] at z
          exact (wipe_some z).1
        · obtain ⟨o, z, _⟩ := T.obj _ _ st7 b hb
          exact (pin' b hb o z).2
      cases b with
      | false =>
        simp only [Bool.false_eq_true, if_false] at q9 ⊢
        exact fin I9 q9
      | true =>
        simp only [if_true] at q9 ⊢
        refine thn (pe.run _ s9 σ8 H9 _ (I9.wish _) q9) fun z s10 ⟨yv, H10, I10, r10, acc, hD10, hz10, nx⟩ => ?_
        exact app_ok (X := X.blk s3 H3 scope ce fp) I10.unwish hD10 hz10 r10 fun s11 I11 => fin I11 nx
  exact codeAny_compStart_list loop (T.self X.A 0 _ _ _ st4 loop)
/-- name = [..] on one line, the name a local, the element raising -/
theorem ps_setLcX {i : Nat} {y : Str} {py : Pos} {elt tg iter : Expr} {ifs : List Expr} {scope : Scope} {own : List (Str × Nat)} {pos spos : Pos} {wi : TI} {g : TG} {tt : TT} {te : TE} (hst : X.stack = X.env :: X.outer) (hfr : X.env.frame = some X.env.locals) (tk : L2.Takes X fun cls d _ H => E cls d H)
    (hc : X.calm = true) (hN : X.N.Nodup) (hy : X.N[i]? = some y) (hyl : X.env.scope.names.lookup y = some .local)
    (hsw : swapsWith (.ListComp elt [⟨tg, iter, ifs, 0⟩] scope pos) (some (.Name y py)) spos.line X.env = pure true) (hi : PI X tg iter wi) (ok : BlkOk X.N X.env.scope scope own)
    (hg : ∀ (s : Shared) (H : Hp) (C : Addr) (cl : List (Str × Addr)) (fp : List Addr), PG (X.blk s H scope (compEnvC scope cl C X.env) fp) tg g) (ht : ∀ (s : Shared) (H : Hp) (C : Addr) (cl : List (Str × Addr)) (fp : List Addr), PTs (X.blk s H scope (compEnvC scope cl C X.env) fp) ifs tt)
    (he : ∀ (s : Shared) (H : Hp) (C : Addr) (cl : List (Str × Addr)) (fp : List Addr) (xe : Value → Shared → Prop), Lets X ((X.blk s H scope (compEnvC scope cl C X.env) fp).wish xe) E → PE ((X.blk s H scope (compEnvC scope cl C X.env) fp).wish xe) elt te)
    (hs : ∀ x, foldedSetIterable iter X.env x = pure x := by intro _; rfl) :
    PS X (.Assign [.Name y py] (.ListComp elt [⟨tg, iter, ifs, 0⟩] scope pos) spos) (tAsg (tLc wi g tt te (own.map (·.2))) (gName i)) := by
  refine ⟨fun pins s σ H D I h => ?_⟩
  rw [exec_Assign_Name_used _ _ _ _ hsw]
  refine wpAny_bind (wpAny_standAt (wpAny_bind ?_))
  show wpAny _ X.A (do let _ ← comprehension (.ListComp elt [⟨tg, iter, ifs, 0⟩] scope pos) scope X.env (firstIterPos [⟨tg, iter, ifs, 0⟩] pos) (newList []) false (eval iter X.env) (some (assign (.Name y py) X.env))) _ _ s
  have h : tLc wi g tt te (own.map (·.2)) σ H (fun x H1 => gName i x σ H1 D.nx) := h
  refine wpAny_bind (thn (lc_coreX (Qf := fun _ s' => SP X pins D .next s') hc hN I hi ok hst hfr tk hg ht he hs h fun L cl C s' m H' I' q hn f => ?_) fun _ s' hq => wpAny_pure (wpAny_pure hq))
  show wpAny _ _ (assign (.Name y py) X.env (.ref L)) _ _ _
  refine wpAny_assign_Name (store_ok2 (v := V.ref L) I' hN hy (.inl hyl) rfl (fun s2 I2 ⟨a, sb, ha⟩ => ?_) (.inr hyl))
  obtain ⟨f0, f1, f2, f3, f4, f5⟩ := f
  have haC : C ≠ a := by
    rcases ha with z | z
    · rw [z]
      exact f1
    · exact fun e => f4 y a z e.symm
  refine ⟨m, hn.sameBut sb haC, fun h3 sb3 => ?_⟩
  exact ⟨_, H', I2.turned (t' := s2.toks) (fun b o hb e => (sb3.2 b hb).trans e) f0 f1 f3 f4 f5, q⟩
end
end Sh
set_option Elab.async false
set_option linter.all false
set_option maxRecDepth 100000
set_option maxHeartbeats 4000000
/-! isinstance of a caught own error that bears a dict -/
namespace Sh
open PySem PySem.Spec PyProof.Rows L2 PySem.W PySem.Calls
section
variable {prog : Program} {w : World} {Ar : Around} {Er : Value → Shared → Prop} {st : Shared} {KK : Frag} {xa cl : Addr} {xo : Obj}
theorem cls_of {odd : Option Obj} {R : Option Value → Shared → Prop} (C : L2.ExcC KK cl) (X : KK.In st.heap) (I : PySem.W.InstAt st.heap xa xo cl odd) (q : R (some (.ref cl)) { st with toks := st.toks + 1 }) : wpAny (model prog w) Ar (getAttr? (.ref xa) "__class__") R Er st := by
  have fd : findObj KK cl odd "__class__" = some (.bind (.builtin "getset_descriptor.__get__") (.builtin "object.__class__")) := by
    obtain ⟨cd, hcd, _⟩ := any_some C.hd
    unfold findObj
    rw [hcd, Option.bind_some, C.ha, Option.bind_some]
    simp [C.hn, C.ht]
  obtain ⟨hh, gg, dd, tt, oo⟩ := st
  have a0 := I.type (M := model prog w)
  have a1 := looks_findIn (M := model prog w) X C.hg
  have a2 := looks_findIn (M := model prog w) X C.hk
  have a3 := looks_find (M := model prog w) X I fd
  have a4 : Looks (model prog w) hh (isInstance (.ref xa) (.type "BaseException")) true := a0.andThen (looks_subIn X C.hs)
  have b1 : (onTheHeap (Value.ref cl) && Value.builtin "BaseException.__getattribute__" == Value.builtin "object.__getattribute__") = false := (congrArg (_ && ·) (show (Value.builtin "BaseException.__getattribute__" == Value.builtin "object.__getattribute__") = false by decide +kernel)).trans (Bool.and_false _)
  unfold getAttr? getAttrBy? getAttrBy
  refine wpAny_bind (wpAny_mkText (wpAny_bind (wpAny_attempt (wpAny_holding (wpAny_bind (a0.at (wpAny_bind (a1.at ?_))))))))
  show wpAny _ _ (if (onTheHeap (Value.ref cl) && Value.builtin "BaseException.__getattribute__" == Value.builtin "object.__getattribute__") = true then _ else _) _ _ _
  rw [b1, if_neg Bool.false_ne_true]; unfold getAttrByItsOwn hookBefore
  refine wpAny_bind ?_
  rw [if_pos (show onTheHeap (Value.ref cl) = true from rfl)]
  refine a2.at (wpAny_bind (wpAny_attempt (wpAny_holding ?_)))
  unfold callGetattribute
  rw [show (false && onTheHeap (Value.builtin "BaseException.__getattribute__")) = false from rfl, if_neg Bool.false_ne_true]; unfold boundAndCalled
  rw [PySem.F.excAttr_ValueError.ga.bind (.ref xa)]
  refine wpAny_bind (wpAny_pure ?_)
  show wpAny _ _ (call (.builtin "BaseException.__getattribute__") [.ref xa, .str "__class__" tt]) _ _ _
  refine wpAny_call (codeAny_call_builtin PySem.F.excAttr_ValueError.ga.plain PySem.F.entry_bexc_ga (@check_slot (model prog w) _ _ ⟨hh, gg, dd, tt + 1, oo⟩ "BaseException.__getattribute__" "BaseException" "__getattribute__" (.ref xa) [.str "__class__" tt] [] _ (by decide +kernel) (by decide +kernel) a4 (PySem.F.args_bexc_ga (.ref xa) (.str "__class__" tt)) ?_))
  unfold Builtin.«object.__getattribute__»
  refine wpAny_bind (wpAny_of_eq (a := ((Value.ref xa : Value), [Value.str "__class__" tt])) (by first | rfl | (simp only [slotArgs]; rfl)) (wpAny_bind (wpAny_pure (wpAny_bind (a0.at (wpAny_bind (a3.at ?_)))))))
  show wpAny _ _ (holding [Value.builtin "object.__class__"] (call (.builtin "getset_descriptor.__get__") [.builtin "object.__class__", .ref xa, .ref cl]) >>= ret) _ _ _
  refine wpAny_bind (wpAny_holding (wpAny_call (class_get (s := ⟨hh, gg, dd, tt + 1, oo⟩) (ox := xo) (od := odd) X I C.hm (wpAny_pure ?_))))
  show wpAny _ _ (handedOut (.ref cl)) _ _ _
  rw [handedOut_of (v := .ref cl) rfl]
  first
    | exact wpAny_pure (wpAny_pure q)
    | exact wpAny_pure q
    | exact wpAny_pure (wpAny_bind (wpAny_pure (wpAny_pure q)))
theorem kitx_excD (C : L2.ExcC KK cl) : KitX KK (.ref xa) (.ref cl) (fun h => ∃ odd, PySem.W.InstAt h xa xo cl odd) := by
  obtain ⟨cd, hcd, _⟩ := any_some C.hd
  have hob : ∃ o, KK.lookup cl = some o ∧ o.data = .cls cd := by
    unfold clsIn at hcd
    split at hcd
    · rename_i a b c d ho
      cases hcd
      exact ⟨_, ho, rfl⟩
    · cases hcd
  obtain ⟨oc, ho, hd⟩ := hob
  refine ⟨fun _ _ _ ⟨_, I⟩ => I.type, fun _ h X _ Aa Qq Ee s k q => ?_, fun h tp dd its n sl X htp => Bool.eq_false_iff.mpr fun e => ?_, fun X ⟨_, I⟩ k => cls_of C X I k⟩
  · unfold isType loadHead
    refine wpAny_bind (wpAny_loadPart (k _ _ (X _ _ ho)) ?_)
    rw [hd]
    exact wpAny_pure q
  · obtain rfl : cl = tp := Value.ref.inj (beq_iff_eq.mp e)
    rw [X _ _ ho] at htp
    cases htp
    cases hd
end
/-- isinstance(e, c), e the own error that the suite holds, its class cls, its dict d -/
def rIsD (K : PySem.W.Frag) (a : Addr) (cls : Value) (d : Option Addr) : List V → Hp → VK → Prop := fun xs H Q => ∃ (c : V) (cv : Value) (D dd : Addr) (fs : List (Str × V)) (b : Bool), xs = [.ref a, c] ∧ (∀ u, RelV c u → u = cv) ∧ cls = .ref D ∧ d = some dd ∧ ExcC K D ∧ H dd = some (.xd fs) ∧ PySem.W.kitOne K (.ref D) cv = some b ∧ Q (.bl b) H
theorem call_isD {X : Cx} {a : Addr} {cls : Value} {d : Option Addr} {oe : Obj} {pn : List (Addr × Obj)} (hz : Zc cls d oe) (hf : ∃ vs, oe.data = .fields vs) : CallR (X.suite a ((a, oe) :: pn)) (.builtin "isinstance") (rIsD X.K a cls d) := by
  intro pins s σ H xs us Q I r h
  obtain ⟨c, cv, D, dd, fs, b, rfl, hcv, ec, ed, C, hdd, e, q⟩ := h
  subst ec ed
  cases r with
  | cons rx rr =>
    cases rr with
    | cons rt rr =>
      cases rr
      cases rx
      obtain rfl := hcv _ rt
      have hget := (I.pin (a, oe) (List.mem_append.mpr (.inl List.mem_cons_self))).1
      obtain ⟨vs, hv⟩ := hf
      obtain ⟨mA, hns, _⟩ := (show ObjOk X.prog X.w H s.heap dd (.xd fs) from I.hok dd _ hdd)
      obtain ⟨od, ho, _⟩ := lookIn_ns hns
      have J : ∃ odd, PySem.W.InstAt s.heap a oe D odd := ⟨some od, hget, hz.1, by unfold PySem.W.notCls; rw [hv] <;> rfl, by rw [hz.2]; exact ho⟩
      exact kia_one (kitx_excD C) I.kIn J e (fun z => nomatch z) fun tk => ⟨.bl b, H, I.kept (t' := tk) fun _ _ z => z, rfl, q⟩
end Sh
set_option Elab.async false
set_option linter.all false
set_option maxRecDepth 100000
set_option maxHeartbeats 2000000
/-! several except clauses, some with a name -/
namespace L2
open PySem PySem.Spec PyProof.Rows
abbrev Cl := Value × Option Nat × (Addr → Value → Option Addr → TS)
/-- the ends of a suite whose slot is emptied behind it -/
def EndsN (i : Nat) (D : Ends) : Ends := { nx := fun σ' H' => D.nx (σ'.set i none) H', rt := D.rt, bk := fun σ' H' => D.bk (σ'.set i none) H', ct := fun σ' H' => D.ct (σ'.set i none) H' }
def inSuite (o : Option Nat) (ts : TS) (a : Addr) : TS := fun D σ H => match o with
  | none => ts D σ H
  | some i => ts (EndsN i D) (σ.set i (some (.ref a))) H
def wManyA (K : PySem.W.Frag) (Wout : WX) (D : Ends) : List Cl → WX
  | [] => Wout
  | (c, o, ts) :: r => fun cls d σ H => ∃ b, PySem.W.exmOne K cls c = some b ∧ (b = true → ∀ a, H a = none → inSuite o (ts a cls d) a D σ H) ∧ (b = false → wManyA K Wout D r cls d σ H)
inductive HdsA (X : Cx) : List ExceptHandler → List Cl → Prop
  | nil : HdsA X [] []
  | cons {x n : Str} {i : Nat} {c : Value} {ts : Addr → Value → Option Addr → TS} {b₀ : Stmt} {suite : List Stmt} {np pos' : Pos} {hds : List ExceptHandler} {l : List Cl} (hN : X.N.Nodup) (hi : X.N[i]? = some n) (hln : X.env.kindOf n = some .local) (hc : Names X x c)
      (hsu : ∀ (a : Addr) (oe : Obj) (cls : Value) (d : Option Addr) (pn : List (Addr × Obj)), Zc cls d oe → (∃ vs, oe.data = .fields vs) → PSs (X.suite a ((a, oe) :: pn)) (b₀ :: suite) (ts a cls d)) (r : HdsA X hds l) :
      HdsA X (.ExceptHandler (some (.Name x np)) (some n) (b₀ :: suite) pos' :: hds) ((c, some i, ts) :: l)
section
variable {X : Cx} {body : List Stmt} {h₀ : ExceptHandler} {hds : List ExceptHandler} {l : List Cl} {pos : Pos} {tb : WX → TS} {Wout : WX}
theorem ps_try_manyAs (hs : X.stack = X.env :: X.outer) (hf : X.env.frame = some X.env.locals) (tk : Takes X Wout)
    (hb : ∀ (W : WX) (pn : List (Addr × Obj)) (xe : Value → Shared → Prop), Takes (X.tr pn xe) W → PassesOwn (model X.prog X.w) X.A X.env xe → PSs (X.tr pn xe) body (tb W))
    (hh : HdsA X (h₀ :: hds) l) : PS X (.Try body (h₀ :: hds) [] [] pos) (fun D σ H => tb (wManyA X.K Wout D l) D σ H) := by
  refine ⟨fun pins s σ H D I h => ?_⟩
  have ok := I.ok
  have hfr : X.A.frames = some (X.env :: X.outer) := by rw [ok.frames, hs]
  refine wpAny_Try_except ?_
  refine wpAny_mono ((hb (wManyA X.K Wout D l) (X.pn ++ pins) (fun e s₁ => wpAny (model X.prog X.w) X.A (noteFrame e X.env) (fun _ s₂ => wpAny (model X.prog X.w) X.A (setFlight e none) (fun _ s₃ =>
    wpAny (model X.prog X.w) X.A (handleBy e X.env (h₀ :: hds)) (SP X pins D) X.xe s₃) X.xe s₂) X.xe s₁) (fun u s' xx => ?_) PassesOwn.looking).run [] s σ H D (I.toTry _) h) (fun f s1 hsp => ?_) (fun e s1 he => he)
  · obtain ⟨a, B, sI, pins', σ', H', cls, d, rfl, J', nb, up, sky, na, os, ag, w⟩ := xx
    have J : Inv X pins σ' H' sI := J'.ofTry ok
    have sky' : Sky B (X.env :: X.outer) a (Zc cls d) X.env.locals s'.heap := by rw [← hs]; exact sky
    show wpAny (model X.prog X.w) X.A (noteFrame (.ref a) X.env) _ _ _
    refine Sky.land Zc.steady hfr hf sky' fun h3 fl3 up3 => ?_
    have J3 : Inv X pins σ' H' { s' with heap := h3 } := J.landed nb fl3.1 (up.trans up3) os ag
    obtain ⟨oe3, vs3, he3, hz3, hd3⟩ := fl3.there
    have notFr : ∀ {h : Heap} {o : Obj} {vs : Array Value}, h.FunFrames B (X.env :: X.outer) → h.get? a = some o → o.data = .fields vs → a ∉ frs (X.env :: X.outer) := fun {h o vs} ff e dd hm => by
      obtain ⟨_, o', e', hnf⟩ := ff.mem hm
      rw [e] at e'; cases e'
      exact hnf _ dd
    have nfr := notFr fl3.2.2.1 he3 hd3
    have nL : a ≠ X.env.locals := fun z => nfr (List.mem_filterMap.mpr ⟨X.env, List.mem_cons_self, by rw [hf, z]⟩)
    have nF : a ∉ X.fs := fun hm => by
      obtain ⟨e, he, q⟩ := List.mem_filterMap.mp hm
      exact nfr (List.mem_filterMap.mpr ⟨e, List.mem_cons_of_mem _ he, q⟩)
    have S3 := J3.suite he3 hd3 na nL nF
    have go : ∀ {hds' : List ExceptHandler} {l' : List Cl}, HdsA X hds' l' → wManyA X.K Wout D l' cls d σ' H' →
        wpAny (model X.prog X.w) X.A (handleBy (.ref a) X.env hds') (SP X pins D) X.xe { s' with heap := h3 } := by
      intro hds' l' hk
      induction hk with
      | nil =>
        intro w
        refine wpAny_handleBy_nil ?_
        obtain ⟨k1, k2, k3, oe, vs, T, oT, ts', he, hz, hd, h1, hr⟩ := id fl3
        unfold PySem.passOn
        refine wpAny_bind (wpAny_field he hd h1 ?_)
        rw [if_neg (show ¬ ((Value.ref T == Value.none) = true) from by simp)]
        have fin : wpAny (model X.prog X.w) X.A (setFlight (.ref a) X.env.frame) (fun _ s4 => wpAny (model X.prog X.w) X.A (throw (.ref a) : Sem Flow) (SP X pins D) X.xe s4) X.xe { s' with heap := h3 } := by
          rw [hf]
          refine HandSPX.setFlight_upZ fl3 fun h4 hh4 up4 => wpAny_throw (tk _ _ ?_)
          exact ⟨a, B, sI, pins, σ', H', cls, d, rfl, J, nb, (up.trans up3).trans up4, .inr (.inr (by rw [hs]; exact hh4)), na, os, ag, w⟩
        first
          | exact wpAny_bind (wpAny_pure (wpAny_bind fin))
          | exact wpAny_bind fin
      | @cons x n i c ts b₀ suite np pos' hds2 l2 hN hi hln hc hsu r ih =>
        intro w
        obtain ⟨b, hb1, hyes, hno⟩ := w
        have hloc : Loc X.env.scope n := .inl hln
        refine wpAny_handleBy_cons (codeAny_handlers_test ?_) (by intro q; cases q)
        have LT : PySem.W.Looks (model X.prog X.w) h3 (typeOf (.ref a)) cls := fun A Q E s k q => wpAny_typeOf_ref (k _ _ he3) (by rw [hz3.1]; exact q)
        have LM := PySem.W.exm_one (M := model X.prog X.w) (J3.kIn) LT hb1
        have test : ∀ {Q : Value → Shared → Prop} {E : Value → Shared → Prop}, Q c { s' with heap := h3 } → wpAny (model X.prog X.w) (X.A.mark (some (.ref a))) (eval (.Name x np) X.env) Q E { s' with heap := h3 } := fun {Q E} q => by
          obtain ⟨hg, hdbg, hm | ⟨hm, hv, hnn⟩⟩ := hc
          · exact ld_glob (X := X.suite a ((a, oe3) :: (X.pn ++ pins))) S3 hg hm q hdbg
          · exact ld_blt (X := X.suite a ((a, oe3) :: (X.pn ++ pins))) S3 hg hm hv q hnn hdbg
        refine test (LM.here ?_)
        cases b with
        | true =>
          refine codeAny_handlers_suite_as ?_
          refine HandSPX.lands_againZ fl3 fun h4 fl4 up4 => ?_
          have J4 : Inv X pins σ' H' { s' with heap := h4 } := J.landed nb fl4.1 ((up.trans up3).trans up4) os ag
          obtain ⟨oe4, vs4, he4, hz4, hd4⟩ := fl4.there
          have S4 := J4.suite he4 hd4 na nL nF
          refine store_ok (X := X.suite a ((a, oe4) :: (X.pn ++ pins))) (v := .ref a) S4 hN hi hloc rfl (fun s5 S5 => ?_) (.inr hln)
          refine wpAny_mono ((hsu a oe4 cls d (X.pn ++ pins) hz4 ⟨_, hd4⟩).run [] s5 _ H' _ S5 (hyes rfl a na)) (fun f s6 hsp => ?_) (fun _ _ z => False.elim z)
          have end_ : ∀ {σ6 : St} {H6 : Hp} {Q : Shared → Prop}, Inv (X.suite a ((a, oe4) :: (X.pn ++ pins))) [] σ6 H6 s6 → (∀ s7, Inv X pins (σ6.set i none) H6 s7 → Q s7) →
              wpAny (model X.prog X.w) X.A (do bindName X.env n .none; unbindBehindTheSuite X.env n pos') (fun _ s7 => Q s7) X.xe s6 := fun {σ6 H6 Q} S6 hq => gone_ok (S6.unsuite ok) hN hi hln hq
          cases f with
          | next =>
            obtain ⟨σ6, H6, S6, q6⟩ := hsp
            exact end_ S6 fun s7 J7 => ⟨_, _, J7, q6⟩
          | brk =>
            obtain ⟨σ6, H6, S6, q6⟩ := hsp
            exact end_ S6 fun s7 J7 => ⟨_, _, J7, q6⟩
          | cont =>
            obtain ⟨σ6, H6, S6, q6⟩ := hsp
            exact end_ S6 fun s7 J7 => ⟨_, _, J7, q6⟩
          | ret u =>
            obtain ⟨v6, σ6, H6, S6, r6, q6⟩ := hsp
            exact end_ S6 fun s7 J7 => ⟨_, _, _, J7, r6, q6⟩
        | false =>
          show wpAny _ X.A (handleBy (.ref a) X.env hds2) _ _ _
          exact ih (hno rfl)
    exact go hh w
  · cases f with
    | next =>
      obtain ⟨σ', H', J', q⟩ := hsp
      exact wpAny_execs_nil ⟨σ', H', J'.ofTry ok, q⟩
    | brk =>
      obtain ⟨σ', H', J', q⟩ := hsp
      exact ⟨σ', H', J'.ofTry ok, q⟩
    | cont =>
      obtain ⟨σ', H', J', q⟩ := hsp
      exact ⟨σ', H', J'.ofTry ok, q⟩
    | ret u =>
      obtain ⟨v, σ', H', J', r, q⟩ := hsp
      exact ⟨v, σ', H', J'.ofTry ok, r, q⟩
end
end L2
set_option Elab.async false
set_option linter.all false
set_option maxRecDepth 100000
set_option maxHeartbeats 4000000
/-! defs that show data: no repr is running around them (the guards are known to be none) -/
namespace Sh
open PySem PySem.Spec PyProof.Rows L2
/-- what flies with its context told may fly without -/
theorem toZ {P : Program} {w : World} {K : PySem.W.Frag} {mg : Str → Option Value} {base : Heap} {k : Nat} {f : Addr} {fd : FuncData} {ps : List Str} {sp : Sp} (F : FnOk P w K mg base (L2N.CX P w) k f fd ps sp) : FnOk P w K mg base (L2.CX P w) k f fd ps sp :=
  ⟨F.len, fun A outer s H args us vs Q E hr e0 hb r h => codeAny_mono (F.run A outer s H args us vs Q E hr e0 hb r h) fun r s' hq => by
    cases r with
    | ok fl =>
      cases fl with
      | ret u => exact hq
      | next => exact hq.elim
      | brk => exact hq.elim
      | cont => exact hq.elim
    | error e =>
      obtain ⟨a, B, H', cls, d, eu, fl, r⟩ := hq
      exact ⟨a, B, H', cls, d, eu, L2H.flyingZ_imp (fun _ z => z.zc) fl, r⟩⟩
/-- what a def promises where no repr runs -/
structure FnG (P : Program) (w : World) (K : PySem.W.Frag) (mg : Str → Option Value) (base : Heap) (CX : CXT) (k : Nat) (f : Addr) (fd : FuncData) (ps : List Str) (sp : Sp) : Prop where
  len : ∀ vs H Q E, sp vs H Q E → vs.length = ps.length
  run : ∀ (A : Around) (outer : List Env) (s : Shared) (H : Hp) (args : Args) (us : List Value) (vs : List V) (Q : VK) (E : XK), A.guards = some [] → Room k A → Env0 P w K mg base A outer s H → BindsTo s fd args (ps.zip us) → Vals vs us → sp vs H Q E →
    codeAny (model P w) A (.call (.ref f) args) (CR CX outer P w H s Q E) s
theorem okG_of {P : Program} {w : World} {K : PySem.W.Frag} {mg : Str → Option Value} {base : Heap} {x qual : Str} {st : Stmt} {f : Addr} {fd : FuncData} {N ps : List Str} {k : Nat} {sp : Sp} (F : Fun K x qual st f fd) (S : FnScope N ps (defScope st)) (len : ∀ vs H Q E, sp vs H Q E → vs.length = ps.length)
    (hbody : ∀ (cdv : Value) (A : Around) (outer : List Env) (s : Shared) (H : Hp) (vs : List V) (Q : VK) (E : XK), A.guards = some [] → Room k (A.deeper (envOfC qual (defScope st) s.heap.objs.size f cdv)) → sp vs H Q E →
      ∃ t, PSs (cxOf CX0 P w K mg base N qual (defScope st) f cdv A outer s H E) (defBody st) t ∧ t { nx := fun _ H' => Q .non H', rt := Q } (start N vs) H) : FnG P w K mg base CX0 (k + 1) f fd ps sp := by
  obtain ⟨oc, od, kV, doc, pm, an, cdv, ct, osl, rfl, lk, hcd⟩ := F.ex
  refine ⟨len, fun A outer s H args us vs Q E hgd hr e0 hb r hsp => ?_⟩
  have ofB := fun b o (e : base.get? b = some o) => (e0.bs b o e).1
  have X0 : K.In s.heap := e0.mod.kin.keeps ofB
  have kinds : ∀ y ∈ ps.zip us, (defScope st).names.lookup y.1 = some .local ∨ ((defScope st).names.lookup y.1 = some .cell ∧ ((cellsFrom (s.heap.objs.size + 1) (defScope st).names []).lookup y.1).isSome = true) := fun y hy =>
    (S.par y.1 (List.of_mem_zip (a := y.1) (b := y.2) hy).1).elim Or.inl fun q => Or.inr ⟨q, PySem.W.cellsFrom_some _ _ _ (.inl q)⟩
  refine codeAny_call_function hr.depth (X0 _ _ lk) rfl S.co S.gen rfl (PySem.W.codeRec_of X0 hcd) (hb _ _ _ _ (wpAny_newFunctionEnv_cells S.kind kinds fun env he s1 x => ?_))
  subst he
  refine ⟨(e0.mod.nolimit.keeps ofB).keeps x.toInCall.keep, codeAny_func ?_⟩
  obtain ⟨t, ht, hq⟩ := hbody cdv A outer s H vs Q E hgd (hr.deeper _) hsp
  have I := inv_start (CX := CX0) (K := K) (mg := mg) (base := base) (E := E) S hr.hd e0 (len _ _ _ _ hsp) r x
  refine wpAny_mono (ht.run [] s1 (start N vs) H _ I hq) (fun fl s' hs => ?_) fun _ _ z => z
  have fin : ∀ {σ' : L2.St} {H' : Hp} {v : V} {u : Value}, Inv (cxOf CX0 P w K mg base N qual (defScope st) f cdv A outer s H E) [] σ' H' s' → RelV v u → Q v H' → CE outer P w H s Q u s' := fun J rv q => ⟨_, _, J.os, J.bare, J.base, J.hok, rv, q⟩
  cases fl with
  | ret u =>
    obtain ⟨v, _, _, J, rv, q⟩ := hs
    exact fin J rv q
  | next =>
    obtain ⟨_, _, J, q⟩ := hs
    exact fin (v := V.non) (u := Value.none) J rfl q
  | brk => exact hs.choose_spec.choose_spec.2.elim
  | cont => exact hs.choose_spec.choose_spec.2.elim
section
variable {X : Cx} {k : Nat} {f : Addr} {fd : FuncData} {ps : List Str} {sp : Sp} {E : XK} {x : Str} {p pos : Pos} {e : Expr} {es : List Expr} {t : TA}
theorem pe_callG (F : FnG X.prog X.w X.K X.mg X.base CX0 k f fd ps sp) (hgd : X.A.guards = some []) (hr : Room k X.A) (hg : Gl X x) (hm : X.mg x = some (.ref f)) (hk : PySem.W.keepIn X.K (.ref f) = true) (hb : Binds X.K fd ps [])
    (ha : PA X (e :: es) t) (hdb : (x == ("__debug__" : Str)) = false := by decide) (he : starEach (e :: es) X.env = (false, eval e X.env) :: starEach es X.env := by rfl) (hpl : (backTo pos (starEach es X.env)).any (·.1) = false := by rfl) :
    PE X (.Call (.Name x p) (e :: es) [] pos) (tCall sp [] E t) := by
  refine ⟨fun pins s σ H Q I h => wpAny_Call_Name_kw (ld_glob I hg hm ?_ hdb)⟩
  refine PySem.W.callWith_K (h₀ := X.base) I.ok.mod.kin hk (thn (ha.run pos pins s σ H _ I h) fun us s1 ⟨vs, H1, I1, r, q⟩ => ⟨I1.kIn, ?_⟩) he hpl
  have q : sp (vs ++ []) H1 Q E := q
  rw [List.append_nil] at q
  have hl : us.length = ps.length := by rw [← r.length]; exact F.len _ _ _ _ q
  have b := hb s1 us I1.kIn (by rw [List.append_nil]; exact hl)
  rw [List.append_nil] at b
  refine wpAny_call (codeAny_mono (F.run X.A X.stack s1 H1 ⟨us, []⟩ us vs Q E hgd hr I1.env0 b r q) fun r s' hq => ?_)
  rcases r with e | (_ | _ | _ | u) <;> first | exact hq.elim | exact I1.after hq
/-- repr of data without dicts -/
def rRepr (K : PySem.W.Frag) : List V → Hp → VK → Prop := fun xs H Q => ∃ (v : V) (d : PyData), xs = [v] ∧ Dp K H v d ∧ d.showable = true ∧ d.hasDict = false ∧ d.depth ≤ 60 ∧ d.shown.length ≤ sizeLine ∧ Q (.str d.shown) H
theorem cr_repr (hgd : X.A.guards = some []) (hu : X.A.units + 70 < cLine) : CallR X (.builtin "repr") (rRepr X.K) := by
  intro pins s σ H vs us Q I r h
  obtain ⟨v, d, rfl, hd, hs, hn, hdp, hz, q⟩ := h
  cases r with
  | cons rv rn =>
    rename_i u us'
    cases rn
    obtain ⟨as, rd⟩ := Dp.reads I d v u hd rv
    cases d with
    | list ds =>
      cases hd
      cases rv
      exact repr_of_reads' rd hs (PyData.noDict_hsm hn) hgd (by omega) (fun _ _ e => e) (fun h' u tk k => ⟨.str _, H, I.kept (t' := tk) k, ⟨_, rfl⟩, q⟩) hz
    | tuple ds =>
      cases hd
      cases rv
      exact repr_of_reads' rd hs (PyData.noDict_hsm hn) hgd (by omega) (fun _ _ e => e) (fun h' u tk k => ⟨.str _, H, I.kept (t' := tk) k, ⟨_, rfl⟩, q⟩) hz
    | int i =>
      cases hd
      obtain ⟨t, rfl⟩ := rv
      have hi : i.natAbs.log2 < 1920 := by simpa [PyData.showable] using hs
      exact PySem.P.repr_of_int hi ⟨.str (toString i), H, I.tok _, ⟨_, rfl⟩, by have q' := q; unfold PyData.shown at q'; exact q'⟩
    | str x =>
      cases hd
      obtain ⟨t, rfl⟩ := rv
      have hz' : (reprText x).length ≤ sizeLine := by have z := hz; unfold PyData.shown at z; exact z
      exact PySem.P.repr_of_str ⟨.str (reprText x), H, I.tok _, ⟨_, rfl⟩, by have q' := q; unfold PyData.shown at q'; exact q'⟩ hz'
    | none =>
      cases hd
      cases rv
      exact PySem.P.repr_of_none ⟨.str "None", H, I.tok _, ⟨_, rfl⟩, by have q' := q; unfold PyData.shown at q'; exact q'⟩
    | bool b =>
      cases hd
      cases rv
      exact PySem.P.repr_of_bool ⟨.str (if b then "True" else "False"), H, I.tok _, ⟨_, by cases b <;> rfl⟩, by have q' := q; unfold PyData.shown at q'; cases b <;> exact q'⟩
    | dict x => simp [PyData.hasDict] at hn
end
/-! ### the law's own end -/
theorem call_top {P : Program} {w : World} {K : PySem.W.Frag} {mg mb : Str → Option Value} {k : Nat} {fa a : Addr} {fd : FuncData} {x : Str} {sp : Sp} {s₁ : Shared} {vs : List Value} {ns : List Int} (KX : K.In s₁.heap) (hns : s₁.heap.Ns mainGlobals mg) (hb : s₁.heap.Ns builtinsNs mb)
    (hbb : ∀ x : Str, x ≠ "__name__" → mb x = bootBuiltins x) (hlim : s₁.heap.NoLimit) (hg : s₁.gens = #[]) (ha : s₁.heap.get? a = some { cls := .type "list", data := .seq vs.toArray }) (hi : IntsAre vs ns) (hl : ns.length ≤ sizeLine) (hgd : callerA.guards = some []) (hr : Room k callerA)
    (F : ∀ base : Heap, K.In base → base.Ns mainGlobals mg → FnG P w K mg base CX0 k fa fd [x] sp) (hbind : ∀ (s : Shared) (u : Value), BindsTo s fd ⟨[u], []⟩ [(x, u)]) (hsp : ∀ H : Hp, Only H → SqL K H a (ns.map V.int) → sp [.ref a] H (fun v _ => v = .bl true) fun _ _ _ => False) :
    codeAny (model P w) callerA (.call (.ref fa) ⟨[.ref a], []⟩) (fun r s' => r = .ok (.ret (.bool true)) ∧ OldK s₁.heap s'.heap ∧ s'.os = s₁.os ∧ AllBare s'.gens) s₁ := by
  have rv := vals_ints hi
  have main : ∀ H : Hp, Only H → SqL K H a (ns.map V.int) → HOk P w H s₁.heap → (∀ b u, H b = some u → b = a ∧ K.lookup a = none) →
      codeAny (model P w) callerA (.call (.ref fa) ⟨[.ref a], []⟩) (fun r s' => r = .ok (.ret (.bool true)) ∧ OldK s₁.heap s'.heap ∧ s'.os = s₁.os ∧ AllBare s'.gens) s₁ := by
    intro H hO hS hok hA
    have ns' : ∀ {b : Addr} {m : Str → Option Value}, s₁.heap.Ns b m → (hidT s₁.heap H).Ns b m := fun {b m} ⟨o, es, ep, e, d, r⟩ => by
      have nb : H b = none := by
        cases q : H b with
        | none => rfl
        | some u =>
          obtain ⟨rfl, _⟩ := hA b u q
          rw [ha] at e
          cases e
          cases d
      exact ⟨o, es, ep, hidT_get e nb, d, r⟩
    have Kb : K.In (hidT s₁.heap H) := fun b o e => by
      have nb : H b = none := by
        cases q : H b with
        | none => rfl
        | some u =>
          obtain ⟨rfl, z⟩ := hA b u q
          rw [z] at e
          cases e
      exact hidT_get (KX b o e) nb
    obtain ⟨mc, l1, l2⟩ := hlim
    have e0 : Env0 P w K mg (hidT s₁.heap H) callerA [] s₁ H := ⟨rfl, ⟨Kb, ns' hns, ⟨mb, ns' hb, hbb⟩, ⟨mc, ns' l1, l2⟩⟩, fun b o e => of_hidT e, Nat.le_of_eq (hidT_size _ _), trivial, (fun b hb => nomatch (show b ∈ ([] : List Addr) from hb)), hok, .of_eq hg⟩
    refine codeAny_mono ((F _ Kb (ns' hns)).run callerA [] s₁ H ⟨[.ref a], []⟩ [.ref a] [.ref a] _ _ hgd hr e0 (hbind s₁ (.ref a)) (.cons rfl .nil) (hsp H hO hS)) fun r s' h => ?_
    rcases r with e | (_ | _ | _ | u)
    · exact h.elim
    · exact h.elim
    · exact h.elim
    · exact h.elim
    · obtain ⟨v, H', os, bare, un, hok', r', q⟩ := h
      have q' : v = .bl true := q
      subst q'
      obtain rfl : u = Value.bool true := r'
      refine ⟨rfl, OldK.of_keep fun b o e => ?_, os, bare⟩
      rcases hO b with z | ⟨ob, xs, z⟩
      · exact un.keep b o e z (fun y => nomatch (show b ∈ ([] : List Addr) from y)) (fun y => nomatch y)
      · obtain ⟨e1, _⟩ := hok b _ z
        obtain ⟨e2, _⟩ := hok' b _ (un.frzs b ob _ z)
        rw [e2, ← e1, e]
  cases hk : K.lookup a with
  | some o =>
    obtain rfl : o = { cls := .type "list", data := .seq vs.toArray } := Option.some.inj ((KX a o hk).symm.trans ha)
    exact main (fun _ => none) (fun _ => .inl rfl) (.inr ⟨_, vs.toArray, _, hk, rfl, rfl, rfl, by rw [List.size_toArray, hi.length]; exact hl, rv⟩) (fun b u z => nomatch z) fun b u z => nomatch z
  | none =>
    have up : ∀ b u, (if b = a then some (HO.frz { cls := .type "list", data := .seq vs.toArray } (.lst (ns.map V.int))) else none) = some u → b = a ∧ u = .frz { cls := .type "list", data := .seq vs.toArray } (.lst (ns.map V.int)) := fun b u z => by
      by_cases hb : b = a
      · rw [if_pos hb] at z
        exact ⟨hb, (Option.some.inj z).symm⟩
      · rw [if_neg hb] at z
        cases z
    refine main (fun b => if b = a then some (.frz { cls := .type "list", data := .seq vs.toArray } (.lst (ns.map V.int))) else none) (fun b => ?_) (.inl (.inr ⟨_, if_pos rfl⟩)) (fun b u z => ?_) fun b u z => ⟨(up b u z).1, hk⟩
    · by_cases hb : b = a
      · exact .inr ⟨_, _, if_pos hb⟩
      · exact .inl (if_neg hb)
    · obtain ⟨rfl, rfl⟩ := up b u z
      exact ⟨ha, by rw [List.length_map]; exact hl, vs, _, rv, ha⟩
theorem walk_ofG {l : PySem.W.OpenLaw} {n k : Nat} {q : Program} {loose : List Str} {XP : (Str → Option Value) → Heap → Prop} {YP : World → Heap → Prop} {d : DefRec} {K : Params → PySem.W.Frag} {sp : World → Sp} {x : Str} (hn : l.most = some n) (hn2 : n ≤ sizeLine) (hdf : d.params.defaults = [])
    (hgd : callerA.guards = some []) (hr : Room k callerA) (hY : ∀ (w : World) (h : Heap), YP w h → (K w.params).In h)
    (F : ∀ (w : World) (mg : Str → Option Value) (fa : Addr) (h : Heap), (K w.params).In h → h.Ns mainGlobals mg → mg d.name = some (.ref fa) → ∃ fd : FuncData, (∀ (s : Shared) (u : Value), BindsTo s fd ⟨[u], []⟩ [(x, u)]) ∧
      ∀ base : Heap, (K w.params).In base → base.Ns mainGlobals mg → FnG l.prog w (K w.params) mg base CX0 k fa fd [x] (sp w))
    (hsp : ∀ (w : World) (H : Hp) (a : Addr) (ns : List Int), ns.length ≤ n → (∀ z ∈ ns, Builtin.Int.intBits z ≤ 1048576) → Only H → SqL (K w.params) H a (ns.map V.int) → sp w [.ref a] H (fun v _ => v = .bl true) fun _ _ _ => False) :
    PySem.W.WalkO q loose XP YP l.row.toRowW d [] (fun f vs => PySem.call f vs) := by
  refine Att.attach_callB hn hdf fun w s₀ s₁ mg mb fa o pm cd doc a vs ns G Y ho hd hcd hmg hobj hints hlen hbits hg => ?_
  obtain ⟨fd, hb, hF⟩ := F w mg fa _ (hY w _ Y) G.T.g hmg
  exact call_top (hY w _ Y) G.T.g G.T.b G.T.builtins G.T.nolimit hg hobj hints (Nat.le_trans hlen hn2) hgd hr hF hb fun H hO hS => hsp w H a ns hlen hbits hO hS
example : callerA.guards = some [] := rfl
end Sh
set_option Elab.async false
set_option linter.all false
set_option maxRecDepth 100000
set_option maxHeartbeats 4000000
/-! iterators that hand out pairs: enumerate over a list or a tuple, zip of a text and a list -/
namespace Sh
open PySem PySem.Spec PyProof.Rows L2
/-- n pairs; G: what stands while they are walked -/
def ItP (G : Hp → Prop) (n : Nat) (xs ys : Nat → Option V) : It :=
  ⟨fun i H => i < n ∧ G H, fun i H v H' => ∃ T x y, v = .ref T ∧ H T = none ∧ H' = upd H T (.tup [x, y]) ∧ xs i = some x ∧ ys i = some y, fun i H => i = n ∧ G H⟩
theorem walk_pairs {G : Hp → Prop} {n : Nat} {xs ys : Nat → Option V} : L2.Walk (ItP G n xs ys) n G (YPair xs ys) := ⟨fun _ _ hi g => ⟨hi, g⟩, fun _ g => ⟨rfl, g⟩, fun _ _ _ _ _ _ y => y⟩
theorem turn_of {P : Program} {w : World} {K : PySem.W.Frag} {elts : List Expr} {kk : Nat} {tpos : Pos} {G : Hp → Prop} {n : Nat} {xs ys : Nat → Option V} {fp : List Addr} {e : Addr} {tn : Nat → Heap → Prop} (mem : e ∈ fp) (obj : ∀ i h, tn i h → ∀ b ∈ fp, ∃ o, h.get? b = some o ∧ ∀ v, o.data ≠ .cell v)
    (keep : ∀ i h h', tn i h → (∀ b ∈ fp, ∀ o, h.get? b = some o → h'.get? b = some o) → tn i h')
    (self : ∀ (A : Around) (i : Nat) (s : Shared) (Q : Value → Shared → Prop) (E : Value → Shared → Prop), tn i s.heap → Q (.ref e) s → wpAny (model P w) A (pyIter (.ref e)) Q E s)
    (W : ∀ (X : Cx), X.prog = P → X.w = w → X.K = K → X.calm = true → ∀ (i : Nat) (pins : List (Addr × Obj)) (s : Shared) (σ : L2.St) (H : Hp), Inv X pins σ H s → (∀ b ∈ fp, FpOk X pins H b) → tn i s.heap → G H → i ≤ n → ∃ (fw wr : List Addr) (Pt : Nat → Array Value → Prop) (St : Nat → Heap → Prop) (Mid : Nat → Addr → Heap → Prop),
      WalksT P w X.A e fw wr n Pt St Mid ∧ St i s.heap ∧ (∀ b ∈ wr, b ∈ fp) ∧ (∀ vals, i < n → Pt i vals → ∃ x y u v, vals = #[u, v] ∧ RelV x u ∧ RelV y v ∧ xs i = some x ∧ ys i = some y) ∧ ∀ h', St (i + 1) h' → tn (i + 1) h') :
    Turn P w K (.Tuple elts kk tpos) (ItP G n xs ys) fp e tn where
  mem := mem
  obj := obj
  keep := keep
  self := self
  item := by
    intro X hP hw hK hc i pins s σ H E I hf st hg
    obtain ⟨hi, hG⟩ := hg
    obtain ⟨fw, wr, Pt, St, Mid, Wk, hS, hwr, hv, hnx⟩ := W X hP hw hK hc i pins s σ H I hf st hG (Nat.le_of_lt hi)
    refine Wk.item i s _ E hi hS fun T vals h' tk hp hT hIs hM hk => ⟨_, rfl, ?_⟩
    refine Wk.go elts kk tpos i T { s with heap := h', toks := tk } _ _ hM fun h'' hS' hk2 => ?_
    obtain ⟨x, y, u, v, rfl, rx, ry, ex, ey⟩ := hv vals hi hp
    have lt : ∀ b ∈ fp, b < s.heap.objs.size := fun b hb => by
      obtain ⟨o, z, _⟩ := obj i _ st b hb
      exact Heap.lt_size z
    obtain ⟨o, o1, o2, m, o3⟩ := hIs
    have oT : h''.get? T = some o := hk2 T o (Wk.apart i T h' hM) o1
    have nT : H T = none := I.hok.fresh hT
    have new : ObjOk X.prog X.w (upd H T (.tup [x, y])) h'' T (.tup [x, y]) := ⟨by show 2 ≤ sizeLine; decide, [u, v], .cons rx (.cons ry .nil), ⟨o, oT, o2, m, o3⟩⟩
    have J : Inv X pins σ (upd H T (.tup [x, y])) { s with heap := h'', toks := tk } := I.turnedNew (ch := fp) (fun b o hb z => hk2 b o (fun q => hb (hwr b q)) (hk b o (fun q => hb (hwr b q)) z)) hf hT new
    refine ⟨.ref T, _, J, rfl, ⟨T, x, y, rfl, nT, rfl, ex, ey⟩, hnx h'' hS', fun b hb => ?_⟩
    rw [upd_ne (Nat.ne_of_lt (Nat.lt_of_lt_of_le (lt b hb) hT))]
    exact (hf b hb).1
  done := by
    intro X hP hw hK hc i pins s σ H E I hf st hg
    obtain ⟨rfl, hG⟩ := hg
    obtain ⟨fw, wr, Pt, St, Mid, Wk, hS, hwr, _⟩ := W X hP hw hK hc i pins s σ H I hf st hG (Nat.le_refl _)
    exact Wk.done s _ E hS fun h' tk hk => ⟨rfl, I.turnedL (ch := fp) (fun b o hb z => hk b o (fun q => hb (hwr b q)) z) hf⟩
theorem rv_back {xs : List V} {us : List Value} {i : Nat} {u : Value} (r : Vals xs us) (h : us[i]? = some u) : ∃ x, xs[i]? = some x ∧ RelV x u := by
  have hl := r.length
  have hi : i < xs.length := by
    have := (List.getElem?_eq_some_iff.mp h).1
    omega
  obtain ⟨u', e, ru⟩ := r.get (List.getElem?_eq_getElem hi)
  rw [h] at e
  cases e
  exact ⟨_, List.getElem?_eq_getElem hi, ru⟩
/-! ### enumerate -/
abbrev enumXs (i : Nat) : Option V := some (.int (i : Int))
def iEnumQ (K : PySem.W.Frag) (ta : TA) : TI := fun σ H R => ta σ H fun vs H1 => ∃ a xs, vs = [.ref a] ∧ ((SqL K H1 a xs ∧ R (ItP (fun H => SqL K H a xs) xs.length enumXs (fun i => xs[i]?)) H1) ∨ (SqT K H1 a xs ∧ R (ItP (fun H => SqT K H a xs) xs.length enumXs (fun i => xs[i]?)) H1))
theorem turn_enumL {P : Program} {w : World} {K : PySem.W.Frag} {elts : List Expr} {kk : Nat} {tpos : Pos} {a e it : Addr} {xs : List V} (h1 : e ≠ it) (h2 : a ≠ it) (h3 : e ≠ a) :
    Turn P w K (.Tuple elts kk tpos) (ItP (fun H => SqL K H a xs) xs.length enumXs (fun i => xs[i]?)) [e, it] e (fun i h => (∃ old, IsEnum h e it (0 + ((i : Nat) : Int)) old) ∧ h.IsListIter it a i) := by
  refine turn_of (by simp) (fun i h st b hb => ?_) (fun i h h' st k => ?_) (fun A i s Q E st q => ?_) fun X hP hw hK hc i pins s σ H I hf st hG hi => ?_
  · obtain ⟨⟨old, g1⟩, o, g2, _, g3⟩ := st
    rcases List.mem_cons.mp hb with rfl | hb
    · exact ⟨_, g1, fun v q => nomatch q⟩
    · rw [List.mem_singleton.mp hb]
      exact ⟨o, g2, fun v q => by rw [g3] at q; cases q⟩
  · obtain ⟨⟨old, g1⟩, o, g2, g3⟩ := st
    exact ⟨⟨old, k e (by simp) _ g1⟩, o, k it (by simp) _ g2, g3⟩
  · obtain ⟨⟨old, g1⟩, _⟩ := st
    exact wpAny_pyIter_enum g1 q
  · subst hP hw hK
    obtain ⟨its, rv, p, hz⟩ := I.list hG
    have hl : its.toArray.size = xs.length := by rw [List.size_toArray]; exact rv.length.symm
    have D := Draws.list (prog := X.prog) (w := X.w) (A := X.A.in1) (show X.A.in1.handled = none from I.ok.hd hc) it a h2 its.toArray
    rw [hl] at D
    refine ⟨_, _, _, _, _, WalksT.enumFrom 0 D e h1 (by simp [h1, h3]) (by simp), ⟨st.1, st.2, p.isList⟩, fun b hb => hb, fun vals hi hp => ?_, fun h' hs => ⟨hs.1, hs.2.1⟩⟩
    obtain ⟨t, u, hu, rfl⟩ := hp
    obtain ⟨x, ex, rx⟩ := rv_back rv (show its[i]? = some u by simpa using hu)
    exact ⟨.int (i : Int), x, _, u, rfl, ⟨t, by rw [show (0 : Int) + (i : Int) = (i : Int) by omega]⟩, rx, rfl, ex⟩
theorem turn_enumT {P : Program} {w : World} {K : PySem.W.Frag} {elts : List Expr} {kk : Nat} {tpos : Pos} {a e it : Addr} {xs : List V} (h1 : e ≠ it) (h2 : a ≠ it) (h3 : e ≠ a) :
    Turn P w K (.Tuple elts kk tpos) (ItP (fun H => SqT K H a xs) xs.length enumXs (fun i => xs[i]?)) [e, it] e (fun i h => (∃ old, IsEnum h e it (0 + ((i : Nat) : Int)) old) ∧ h.IsTupleIter it a i) := by
  refine turn_of (by simp) (fun i h st b hb => ?_) (fun i h h' st k => ?_) (fun A i s Q E st q => ?_) fun X hP hw hK hc i pins s σ H I hf st hG hi => ?_
  · obtain ⟨⟨old, g1⟩, o, g2, _, g3⟩ := st
    rcases List.mem_cons.mp hb with rfl | hb
    · exact ⟨_, g1, fun v q => nomatch q⟩
    · rw [List.mem_singleton.mp hb]
      exact ⟨o, g2, fun v q => by rw [g3] at q; cases q⟩
  · obtain ⟨⟨old, g1⟩, o, g2, g3⟩ := st
    exact ⟨⟨old, k e (by simp) _ g1⟩, o, k it (by simp) _ g2, g3⟩
  · obtain ⟨⟨old, g1⟩, _⟩ := st
    exact wpAny_pyIter_enum g1 q
  · subst hP hw hK
    obtain ⟨its, rv, p, hz⟩ := I.tuple hG
    have hl : its.toArray.size = xs.length := by rw [List.size_toArray]; exact rv.length.symm
    have D := Draws.tuple (prog := X.prog) (w := X.w) (A := X.A.in1) (show X.A.in1.handled = none from I.ok.hd hc) it a h2 its.toArray
    rw [hl] at D
    refine ⟨_, _, _, _, _, WalksT.enumFrom 0 D e h1 (by simp [h1, h3]) (by simp), ⟨st.1, st.2, p⟩, fun b hb => hb, fun vals hi hp => ?_, fun h' hs => ⟨hs.1, hs.2.1⟩⟩
    obtain ⟨t, u, hu, rfl⟩ := hp
    obtain ⟨x, ex, rx⟩ := rv_back rv (show its[i]? = some u by simpa using hu)
    exact ⟨.int (i : Int), x, _, u, rfl, ⟨t, by rw [show (0 : Int) + (i : Int) = (i : Int) by omega]⟩, rx, rfl, ex⟩
theorem enum_one {v : Value} {o : Obj} {G : Heap → Prop} (B : Begins v o G) : Meets (Builtin.«enumerate.__new__» ⟨[.type "enumerate", v], []⟩) (fun _ R s => G s.heap ∧ R (.ok (.ret (.ref (s.heap.push o).objs.size)))
    { s with heap := (s.heap.push o).push { cls := .type "enumerate", data := .fields #[.none, .bool false, .ref s.heap.objs.size, rawInt 0, .none, .none] } }) :=
  .of_wp fun prog w A R s hh => by
    obtain ⟨hp, g, d, tk, os⟩ := s
    obtain ⟨g1, h⟩ := hh
    have hsub := sub_enumerate
    have itr : ∀ {A' : Around} {E : Value → Shared → Prop} {Q : Value → Shared → Prop}, Q (.ref hp.objs.size) ⟨hp.push o, g, d, tk, os⟩ → wpAny (model prog w) A' (pyIter v) Q E ⟨hp, g, d, tk, os⟩ := fun q => B.iter prog w _ _ ⟨hp, g, d, tk, os⟩ _ g1 q
    wp_walk using itr
    refine wpAny_stack_any fun st => wpAny_pure ?_
    split
    · rename_i c _ _ _ _ _
      cases (c == Value.type "enumerate") <;> (wp_walk using itr; exact ⟨_, rfl, h⟩)
    · wp_walk using itr
      exact ⟨_, rfl, h⟩
section
variable {prog : Program} {w : World} {A : Around} {E : Value → Shared → Prop} {s : Shared}
theorem enum_call {v : Value} {o : Obj} {G : Heap → Prop} {Q : Value → Shared → Prop} (B : Begins v o G) (g1 : G s.heap)
    (h : ∀ h', IsEnum h' (s.heap.objs.size + 1) s.heap.objs.size 0 .none → h'.get? s.heap.objs.size = some o → (∀ b o, s.heap.get? b = some o → h'.get? b = some o) → Q (.ref (s.heap.objs.size + 1)) { s with heap := h' }) :
    wpAny (model prog w) A (call (.type "enumerate") [v]) Q E s := by
  refine callType_new F.called_enumerate (by decide) (F.typeCall_enumerate_1 _) (F.newCall_enumerate_1 _) (fun obj => F.args_object_init_2 obj _) F.entry_enumerate_new (enum_one B) ⟨g1, ?_⟩
  have hz : (s.heap.push o).objs.size = s.heap.objs.size + 1 := Heap.size_push ..
  show _ ∧ _
  rw [hz]
  have he : ((s.heap.push o).push { cls := .type "enumerate", data := .fields #[.none, .bool false, .ref s.heap.objs.size, rawInt 0, .none, .none] }).get? (s.heap.objs.size + 1) = some { cls := .type "enumerate", data := .fields #[.none, .bool false, .ref s.heap.objs.size, rawInt 0, .none, .none] } := by
    rw [← hz]
    exact Heap.get?_push_size _ rfl
  exact ⟨⟨_, he, rfl⟩, h _ he (Heap.get?_push_of_some _ (Heap.get?_push_size _ B.free)) fun b o x => Heap.get?_push_of_some _ (Heap.get?_push_of_some _ x)⟩
end
theorem pi_enumQ {X : Cx} {e : Expr} {ta : TA} {p pos tpos : Pos} {elts : List Expr} {kk : Nat} (hg : Gl X "enumerate") (hm : X.mg "enumerate" = none) (ha : PA X [e] ta) (hs : starEach [e] X.env = [(false, eval e X.env)] := by rfl) :
    PI X (.Tuple elts kk tpos) (.Call (.Name "enumerate" p) [e] [] pos) (iEnumQ X.K ta) := by
  refine ⟨fun pins s σ H R I h => Call_ (ld_blt I hg hm boot_enumerate (PyProof.Rows.callWith_type1 (thn (ha.run pos pins s σ H _ I h) fun us s1 ⟨vs, H1, I1, r1, q1⟩ => ?_) hs rfl))⟩
  obtain ⟨a, xs, rfl, q1⟩ := q1
  cases r1 with
  | cons r rr =>
    cases rr
    cases r
    have fresh : ∀ b ∈ [s1.heap.objs.size + 1, s1.heap.objs.size], FpOk X pins H1 b := fun b hb => by
      have hle : s1.heap.objs.size ≤ b := by
        rcases List.mem_cons.mp hb with rfl | hb
        · exact Nat.le_succ _
        · rw [List.mem_singleton.mp hb]
          exact Nat.le_refl _
      exact I1.fpOk hle (I1.hok.fresh hle)
    rcases q1 with ⟨hq, q⟩ | ⟨hq, q⟩
    · obtain ⟨its, rv, p', _⟩ := I1.list hq
      have la : a < s1.heap.objs.size := p'.lt
      refine enum_call (begins_list a its.toArray) p'.isList fun h' he ho hk => wpAny_pyIter_enum he ⟨_, _, _, _, H1, rfl, I1.kept (t' := s1.toks) hk, turn_enumL (Nat.succ_ne_self _) (Nat.ne_of_lt la) (Nat.ne_of_gt (Nat.lt_succ_of_lt la)), ⟨⟨.none, ?_⟩, _, ho, rfl, rfl⟩, fresh, q⟩
      exact he
    · obtain ⟨its, rv, p', _⟩ := I1.tuple hq
      obtain ⟨ot, hot, _⟩ := id p'
      have la : a < s1.heap.objs.size := Heap.lt_size hot
      refine enum_call (begins_tuple a its.toArray) p' fun h' he ho hk => wpAny_pyIter_enum he ⟨_, _, _, _, H1, rfl, I1.kept (t' := s1.toks) hk, turn_enumT (Nat.succ_ne_self _) (Nat.ne_of_lt la) (Nat.ne_of_gt (Nat.lt_succ_of_lt la)), ⟨⟨.none, ?_⟩, _, ho, rfl, rfl⟩, fresh, q⟩
      exact he
/-! ### zip of a text and a list -/
abbrev zipXs (z : Str) (i : Nat) : Option V := z.cps[i]?.map fun c => V.str ⟨#[c]⟩
def iZipS (K : PySem.W.Frag) (ta : TA) : TI := fun σ H R => ta σ H fun vs H1 => ∃ (z : Str) (b : Addr) (ys : List V), vs = [.str z, .ref b] ∧ SqL K H1 b ys ∧ R (ItP (fun H => SqL K H b ys) (min z.cps.size ys.length) (zipXs z) (fun i => ys[i]?)) H1
theorem turn_zipS {P : Program} {w : World} {K : PySem.W.Frag} {elts : List Expr} {kk : Nat} {tpos : Pos} {b I0 : Addr} {x : Str} {t : Tok} {ys : List V} (hb : b < I0) :
    Turn P w K (.Tuple elts kk tpos) (ItP (fun H => SqL K H b ys) (min x.cps.size ys.length) (zipXs x) (fun i => ys[i]?)) [I0 + 4, I0 + 2, I0 + 3, I0, I0 + 1] (I0 + 4)
      (fun i h => IsZip h (I0 + 4) (I0 + 2) (I0 + 3) .none ∧ IsTupOf2 h (I0 + 2) (.ref I0) (.ref (I0 + 1)) ∧ (∃ a1 a2, IsTupOf2 h (I0 + 3) a1 a2) ∧ h.IsStrIter I0 (strIterType x) x t i ∧ h.IsListIter (I0 + 1) b i) := by
  refine turn_of (by simp) (fun i h st c hc => ?_) (fun i h h' st k => ?_) (fun A i s Q E st q => ?_) fun X hP hw hK hc i pins s σ H I hf st hG hi => ?_
  · obtain ⟨g1, g2, ⟨a1, a2, g3⟩, g4, o5, g5, _, g6⟩ := st
    simp only [List.mem_cons, List.not_mem_nil, or_false] at hc
    rcases hc with rfl | rfl | rfl | rfl | rfl
    · exact ⟨_, g1, fun v q => nomatch q⟩
    · exact ⟨_, g2, fun v q => nomatch q⟩
    · exact ⟨_, g3, fun v q => nomatch q⟩
    · unfold Heap.IsStrIter at g4
      obtain ⟨o4, g4, _, g7⟩ := g4
      exact ⟨o4, g4, fun v q => by rw [g7] at q; cases q⟩
    · exact ⟨o5, g5, fun v q => by rw [g6] at q; cases q⟩
  · obtain ⟨g1, g2, ⟨a1, a2, g3⟩, g4, o5, g5, g6⟩ := st
    unfold Heap.IsStrIter at g4 ⊢
    obtain ⟨o4, g4, g7⟩ := g4
    exact ⟨k _ (by simp) _ g1, k _ (by simp) _ g2, ⟨a1, a2, k _ (by simp) _ g3⟩, ⟨o4, k _ (by simp) _ g4, g7⟩, o5, k _ (by simp) _ g5, g6⟩
  · exact wpAny_pyIter_zip st.1 q
  · subst hP hw hK
    obtain ⟨its, rv, p, hz⟩ := I.list hG
    have hl : its.toArray.size = ys.length := by rw [List.size_toArray]; exact rv.length.symm
    have hh : X.A.in1.handled = none := I.ok.hd hc
    have D1 := Draws.text (prog := X.prog) (w := X.w) (A := X.A.in1) hh I0 x t
    have D2 := Draws.list (prog := X.prog) (w := X.w) (A := X.A.in1) hh (I0 + 1) b (Nat.ne_of_lt (Nat.lt_succ_of_lt hb)) its.toArray
    rw [hl] at D2
    have S : ZipSep2 (I0 + 4) (I0 + 2) (I0 + 3) I0 (I0 + 1) [I0] [I0 + 1, b] := by
      have gt : ∀ {m k : Nat}, k < m → (I0 + m : Nat) ≠ I0 + k := fun h z => absurd (Nat.add_left_cancel z) (Nat.ne_of_gt h)
      have nb : ∀ m : Nat, (I0 + m : Nat) ≠ b := fun m z => absurd (show I0 ≤ b from z ▸ Nat.le_add_right I0 m) (Nat.not_le_of_lt hb)
      have n2 : ∀ {c : Nat}, c ≠ I0 + 1 → c ≠ b → (c : Addr) ∉ ([I0 + 1, b] : List Addr) := fun h1 h2 z => by
        rcases List.mem_cons.mp z with z | z
        · exact h1 z
        · exact h2 (List.mem_singleton.mp z)
      have n1 : ∀ {m : Nat}, 0 < m → (I0 + m : Addr) ∉ ([I0] : List Addr) := fun h z => gt h (List.mem_singleton.mp z)
      exact ⟨fun z => gt (by decide) z.symm, fun z => gt (by decide) z.symm, fun z => gt (by decide) z.symm, gt (k := 0) (by decide), by simp, n1 (by decide), n1 (by decide), gt (by decide), by simp, n2 (gt (by decide)) (nb 4), n2 (gt (by decide)) (nb 3), n2 (fun z => gt (m := 1) (k := 0) (by decide) z.symm) (nb 0), n1 (by decide)⟩
    refine ⟨_, _, _, _, _, WalksT.zipD2 S D1 D2, ⟨st.1, st.2.1, st.2.2.1, st.2.2.2.1, st.2.2.2.2, p.isList⟩, fun c hc => ?_, fun vals hi hp => ?_, fun h' hs => ⟨hs.1, hs.2.1, hs.2.2.1, hs.2.2.2.1, hs.2.2.2.2.1⟩⟩
    · simp only [List.mem_cons, List.not_mem_nil, or_false] at hc ⊢
      rcases hc with h | h | h | h <;> simp [h]
    · obtain ⟨u1, u2, ⟨c, tc, hc1, rfl⟩, hu, rfl⟩ := hp
      obtain ⟨y, ey, ry⟩ := rv_back rv (show its[i]? = some u2 by simpa using hu)
      exact ⟨.str ⟨#[c]⟩, y, _, u2, rfl, ⟨tc, rfl⟩, ry, by show x.cps[i]?.map _ = _; rw [hc1]; rfl, ey⟩
theorem pi_zipS {X : Cx} {e e2 : Expr} {ta : TA} {p pos tpos : Pos} {elts : List Expr} {kk : Nat} (hg : Gl X "zip") (hm : X.mg "zip" = none) (ha : PA X [e, e2] ta)
    (hs : starEach [e, e2] X.env = (false, eval e X.env) :: starEach [e2] X.env := by rfl) (hpl : (backTo pos (starEach [e2] X.env)).any (·.1) = false := by rfl) :
    PI X (.Tuple elts kk tpos) (.Call (.Name "zip" p) [e, e2] [] pos) (iZipS X.K ta) := by
  refine ⟨fun pins s σ H R I h => Call_ (ld_blt I hg hm PyProof.Rows.boot_zip (PyProof.Rows.callWith_type1 (thn (ha.run pos pins s σ H _ I h) fun us s1 ⟨vs, H1, I1, r1, q1⟩ => ?_) hs hpl))⟩
  obtain ⟨z, b, ys, rfl, hq, q⟩ := q1
  cases r1 with
  | cons r rr =>
    cases rr with
    | cons r' rr =>
      cases rr
      cases r'
      obtain ⟨t, rfl⟩ := r
      obtain ⟨its, rv, p', _⟩ := I1.list hq
      have lb : b < s1.heap.objs.size := p'.lt
      refine zip_begins2 (begins_text z t) (begins_list b its.toArray) trivial p'.isList fun h' g1 g2 g3 g4 g5 g6 hk => wpAny_pyIter_zip g1 ⟨_, _, _, _, H1, rfl, I1.kept (t' := s1.toks) hk, turn_zipS (t := t) lb, ⟨g1, g2, ⟨_, _, g3⟩, ?_, _, g5, rfl, rfl⟩, fun c hc => ?_, q⟩
      · unfold Heap.IsStrIter
        exact ⟨_, g4, rfl, rfl⟩
      · have hle : s1.heap.objs.size ≤ c := by
          simp only [List.mem_cons, List.not_mem_nil, or_false] at hc
          rcases hc with h | h | h | h | h <;> (rw [h]; first | exact Nat.le_refl _ | exact Nat.le_add_right _ _)
        exact I1.fpOk hle (I1.hok.fresh hle)
end Sh
set_option Elab.async false
set_option linter.all false
set_option maxRecDepth 100000
namespace Sh
open PySem PySem.Spec PyProof.Rows L2
def gvA : V → Prop := fun _ => True
def gvI : V → Prop := fun v => ∃ i : Int, v = .int i ∧ i.natAbs ≤ 1000000
def gvS : V → Prop := fun v => ∃ z : Str, v = .str z ∧ z.length ≤ 1000
theorem gvA_ok : ∀ (v : V) (u : Value), gvA v → RelV v u → (fun _ : Value => True) u := fun _ _ _ _ => trivial
theorem gvI_ok : ∀ (v : V) (u : Value), gvI v → RelV v u → OwnX.goodI u := by
  rintro v u ⟨i, rfl, hi⟩ r
  obtain ⟨t, rfl⟩ := r
  refine ⟨i, t, rfl, ?_⟩
  by_cases h0 : i.natAbs = 0
  · rw [h0]
    decide
  · have := (Nat.log2_lt h0).mpr (Nat.lt_of_le_of_lt hi (show 1000000 < 2 ^ 20 by decide))
    omega
theorem gvS_ok : ∀ (v : V) (u : Value), gvS v → RelV v u → OwnX.goodS u := by
  rintro v u ⟨z, rfl, hz⟩ r
  obtain ⟨t, rfl⟩ := r
  exact ⟨z, t, rfl, hz⟩
theorem depth_of {k : Nat} {A : Around} (r : Room k A) : A.depth + 1 < recursionLimit := by have := r.dp; omega
theorem depth_mark {k : Nat} {A : Around} {hd : Option Value} (r : Room k A) : (A.mark hd).depth + 1 < recursionLimit := by
  have := r.dp
  show A.depth + 1 < recursionLimit
  omega
/-- an error leaves: C its class, f its field, v the field's value -/
def Thr (B : Hp) (M : List (Addr × HO)) (E : XK) (C : Addr) (f : Str) (v : V) : Prop := ∀ (d : Addr) (B' H' : Hp), Le B B' → Hs B' M H' → B' d = some (.xd [(f, v)]) → E (.ref C) (some d) H'
theorem v_raise {B H : Hp} {M : List (Addr × HO)} {σ : L2.St} {D : Ends} {C : Addr} {f : Str} {gv : V → Prop} {ta : TA} {E : XK} {v : V} (hs : Hs B M H) (g : gv v) (h : Thr B M E C f v) (ha : ∀ q : List V → Hp → Prop, q [v] H → ta σ H q) : tRaiseX C f gv (fun cls d _ H => E cls d H) ta D σ H := by
  refine ha (fun vs H1 => ∃ v, vs = [v] ∧ gv v ∧ ∀ d, H1 d = none → E (.ref C) (some d) (upd H1 d (.xd [(f, v)]))) ⟨v, rfl, g, fun d hd => ?_⟩
  obtain ⟨h1, h2⟩ := hs.newB hd (.xd [(f, v)])
  exact h d _ _ h2 h1 upd_same
theorem Thr.le {B B' : Hp} {M : List (Addr × HO)} {E : XK} {C : Addr} {f : Str} {v : V} (h : Thr B M E C f v) (l : Le B B') : Thr B' M E C f v := fun d B2 H2 l2 h2 e => h d B2 H2 (l.trans l2) h2 e
/-! ### steps over pairs -/
section
variable {K : PySem.W.Frag} {B H : Hp} {M : List (Addr × HO)} {D : Ends} {σ : L2.St} {g : TG} {tb : TS} {tt : TT} {te : TE} {vs : List Nat} {Q : VK} {a : TA}
def AtQ (K : PySem.W.Frag) (vs : List V) (H : Hp) (R : It → Hp → Prop) : Prop := ∃ a xs, vs = [.ref a] ∧ ((SqL K H a xs ∧ R (ItP (fun H => SqL K H a xs) xs.length enumXs (fun i => xs[i]?)) H) ∨ (SqT K H a xs ∧ R (ItP (fun H => SqT K H a xs) xs.length enumXs (fun i => xs[i]?)) H))
theorem v_enumQ {R : It → Hp → Prop} (h : a σ H fun vs H1 => AtQ K vs H1 R) : iEnumQ K a σ H R := h
def AtZ (K : PySem.W.Frag) (vs : List V) (H : Hp) (R : It → Hp → Prop) : Prop := ∃ (z : Str) (b : Addr) (ys : List V), vs = [.str z, .ref b] ∧ SqL K H b ys ∧ R (ItP (fun H => SqL K H b ys) (min z.cps.size ys.length) (zipXs z) (fun i => ys[i]?)) H
theorem v_zipS {R : It → Hp → Prop} (h : a σ H fun vs H1 => AtZ K vs H1 R) : iZipS K a σ H R := h
/-- pairs walked: the pair is at T -/
theorem v_forP {G : Hp → Prop} {n : Nat} {xs ys : Nat → Option V} (hs : Hs B M H) (hG : ∀ B' M' H', Le B B' → Hs B' M' H' → G H') (I : Nat → L2.St → Hp → List (Addr × HO) → Prop) (h0 : I 0 σ B M)
    (step : ∀ i T x y σ' B' M' H', i < n → xs i = some x → ys i = some y → Le B B' → B' T = some (.tup [x, y]) → Hs B' M' H' → (∃ B2, Le B B2 ∧ Le B2 B' ∧ I i σ' B2 M') → g (.ref T) σ' H' fun σ2 H2 => tb { D with nx := IV B I (i + 1), ct := IV B I (i + 1), bk := D.nx } σ2 H2)
    (done : ∀ σ' B' M' H', Le B B' → Hs B' M' H' → I n σ' B' M' → D.nx σ' H') : ForR g tb D σ (ItP G n xs ys) H :=
  v_forW walk_pairs hs hG I h0 (fun i v σ' B' M' H' H'' hi l h x1 y => by
    obtain ⟨T, x, y, rfl, nT, rfl, ex, ey⟩ := y
    obtain ⟨h1, h2⟩ := h.newB nT (.tup [x, y])
    exact step i T x y σ' _ M' _ hi ex ey (l.trans h2) upd_same h1 ⟨B', l, h2, x1⟩) done
theorem v_lcP {G : Hp → Prop} {n : Nat} {xs ys : Nat → Option V} (hs : Hs B M H) (hG : ∀ B' M' H', Le B B' → Hs B' M' H' → G H') (I : Nat → List V → Hp → List (Addr × HO) → Prop) (h0 : I 0 [] B M)
    (step : ∀ i T x y p acc B' M' H', i < n → xs i = some x → ys i = some y → acc.length ≤ i → Le B B' → B' T = some (.tup [x, y]) → Hs B' ((p, .lst acc) :: M') H' → (∃ B2, Le B B2 ∧ Le B2 B' ∧ I i acc B2 M') → g (.ref T) (wipe σ vs) H' fun σ2 H2 => wipe σ2 vs = wipe σ vs ∧ tt σ2 H2 fun b H3 =>
      if b = true then te σ2 H3 (IE B I p (i + 1)) else IP B I p (i + 1) H3)
    (done : ∀ p acc B' M' H', acc.length ≤ n → Le B B' → Hs B' ((p, .lst acc) :: M') H' → I n acc B' M' → Q (.ref p) H') : LcR g tt te vs σ Q (ItP G n xs ys) H :=
  v_lcW walk_pairs hs hG I h0 (fun i v p acc B' M' H' H'' hi ha l h x1 y => by
    obtain ⟨T, x, y, rfl, nT, rfl, ex, ey⟩ := y
    obtain ⟨h1, h2⟩ := h.newB nT (.tup [x, y])
    exact step i T x y p acc _ M' _ hi ex ey ha (l.trans h2) upd_same h1 ⟨B', l, h2, x1⟩) done
/-- a, b = a pair -/
theorem v_gTup2 {i j : Nat} {T : Addr} {x y : V} {q : L2.St → Hp → Prop} (e : SqT K H T [x, y]) (h : gName i x σ H fun σ1 H1 => gName j y σ1 H1 q) : gTup K 2 (gCons (gName i) (gCons (gName j) gNil)) (.ref T) σ H q := ⟨T, [x, y], rfl, e, rfl, x, [y], rfl, show gName i x σ H _ from (h : gName i x σ H fun σ1 H1 => gName j y σ1 H1 q) |> fun z => show (gCons (gName j) gNil [y] (σ.set i (some x)) H q) from ⟨y, [], rfl, show gName j y (σ.set i (some x)) H _ from ⟨rfl, z⟩⟩⟩
end
/-! ### text * int -/
def rRepS : R2 := fun x y H Q => ∃ (z : Str) (n : Int), x = .str z ∧ y = .int n ∧ MulOk z n ∧ Q (.str (Txt.mul z n)) H
theorem op_repS {X : Cx} : OpR X (binaryOp .Mult) rRepS := by
  intro pins s σ H x y v u Q I rx ry h
  obtain ⟨z, n, rfl, rfl, ok, q⟩ := h
  obtain ⟨t, rfl⟩ := rx
  obtain ⟨t2, rfl⟩ := ry
  exact PySem.SB.mul ok fun t' k => ⟨.str (Txt.mul z n), H, I.tok _, ⟨_, rfl⟩, q⟩
/-! ### try -/
def tTryOnly (K : PySem.W.Frag) (c : Value) (tb : WX → TS) (ts : Addr → Value → Option Addr → TS) (Wout : WX) : TS := fun D σ H => tb (wOnly K c ts Wout D) D σ H
def tTryAs (K : PySem.W.Frag) (c : Value) (i : Nat) (tb : WX → TS) (ts : Addr → Value → Option Addr → TS) (Wout : WX) : TS := fun D σ H => tb (wAs K c i ts Wout D) D σ H
theorem takes_none {X : Cx} : L2.Takes X (fun _ _ _ _ => False) := fun _ _ ⟨_, _, _, _, _, _, _, _, _, _, _, _, _, _, _, _, w⟩ => w.elim
theorem xf_of {P : Program} {K : PySem.W.Frag} {C : Addr} {f : Str} {good : Value → Prop} (x : OwnX.OExc P K C f good) : XfC K C := ⟨x.ga, x.gg, x.exC, x.hdC⟩
theorem room70 {k : Nat} {A : Around} (r : Room k A) : A.units + 70 < cLine := by have := r.un; omega
theorem room70m {k : Nat} {A : Around} {hd : Option Value} (r : Room k A) : (A.mark hd).units + 70 < cLine := by
  have := r.un
  show A.units + 70 < cLine
  omega
/-- data that repr shows -/
structure ShowOk (d : PyData) : Prop where
  nd : hasD d = false
  show_ : d.showable = true
  dict : d.hasDict = false
  deep : d.depth ≤ 60
  len : d.shown.length ≤ sizeLine
theorem v_repr {K : PySem.W.Frag} {B H : Hp} {M : List (Addr × HO)} {v : V} {d : PyData} {Q : VK} (hs : Hs B M H) (h : Rp K B v d) (o : ShowOk d) (q : Q (.str d.shown) H) : rRepr K [v] H Q := ⟨v, d, rfl, (hs.r h).dp o.nd, o.show_, o.dict, o.deep, o.len, q⟩
end Sh
set_option Elab.async false
set_option linter.all false
set_option maxRecDepth 100000
/-! sheets as trees; each tree told once -/
namespace Sh
open PySem PySem.Spec PyProof.Rows L2
open SX (S)
abbrev intV (i : Nat) : V := V.int (i : Int)
def Part.refs : Part → List Nat
  | .un _ i => [i]
  | .bin _ i j => [i, j]
  | _ => []
def Part.mapR (f : Nat → Nat) : Part → Part
  | .un u i => .un u (f i)
  | .bin u i j => .bin u (f i) (f j)
  | p => p
def Part.nm : Part → Str
  | .c b => cnm b
  | .letter _ => "letter"
  | .un u _ => u.nm
  | .bin u _ _ => u.nm
def Part.isRef : Part → Bool
  | .un _ _ => true
  | .bin _ _ _ => true
  | _ => false
inductive Tr where
  | c (b : Bool) | letter (a : Nat) | un (u : U1) (t : Tr) | bin (u : U2) (t s : Tr)
def putP (L : List Part) (p : Part) : List Part × Nat := if p ∈ L then (L, L.idxOf p) else (L ++ [p], L.length)
def ins : Tr → List Part → List Part × Nat
  | .c b, L => putP L (.c b)
  | .letter a, L => putP L (.letter a)
  | .un u t, L => putP (ins t L).1 (.un u (ins t L).2)
  | .bin u t s, L => putP (ins s (ins t L).1).1 (.bin u (ins t L).2 (ins s (ins t L).1).2)
def Loc (L : List Part) : Tr → Nat → Prop
  | .c b, k => L[k]? = some (.c b)
  | .letter a, k => L[k]? = some (.letter a)
  | .un u t, k => ∃ i, Loc L t i ∧ L[k]? = some (.un u i)
  | .bin u t s, k => ∃ i j, Loc L t i ∧ Loc L s j ∧ L[k]? = some (.bin u i j)
theorem putP_pre (L : List Part) (p : Part) : ∃ ys, (putP L p).1 = L ++ ys := by
  unfold putP
  split
  · exact ⟨[], by simp⟩
  · exact ⟨[p], rfl⟩
theorem idx_get {L : List Part} {p : Part} (h : p ∈ L) : L[L.idxOf p]? = some p := by
  have hl := List.idxOf_lt_length_of_mem h
  rw [List.getElem?_eq_getElem hl, List.getElem_idxOf hl]
theorem putP_get (L : List Part) (p : Part) : (putP L p).1[(putP L p).2]? = some p := by
  unfold putP
  split
  · rename_i h
    exact idx_get h
  · simp
theorem nd_snoc {α : Type} {L : List α} {p : α} (h : L.Nodup) (hp : p ∉ L) : (L ++ [p]).Nodup := by
  rw [List.nodup_append]
  refine ⟨h, by simp, fun a ha b hb e => ?_⟩
  rw [List.mem_singleton] at hb
  subst hb
  subst e
  exact hp ha
theorem putP_nd {L : List Part} (p : Part) (h : L.Nodup) : (putP L p).1.Nodup := by
  unfold putP
  split
  · exact h
  · rename_i n
    exact nd_snoc h n
theorem nd_get {α : Type} {L : List α} (h : L.Nodup) {i j : Nat} {p : α} (hi : L[i]? = some p) (hj : L[j]? = some p) : i = j := by
  obtain ⟨h1, e1⟩ := List.getElem?_eq_some_iff.mp hi
  obtain ⟨h2, e2⟩ := List.getElem?_eq_some_iff.mp hj
  rw [List.nodup_iff_pairwise_ne, List.pairwise_iff_getElem] at h
  rcases Nat.lt_trichotomy i j with c | c | c
  · exact absurd (e1.trans e2.symm) (h i j h1 h2 c)
  · exact c
  · exact absurd (e2.trans e1.symm) (h j i h2 h1 c)
theorem putP_old {L : List Part} {p : Part} {k : Nat} (h : L.Nodup) (e : L[k]? = some p) : putP L p = (L, k) := by
  have m : p ∈ L := List.mem_of_getElem? e
  unfold putP
  rw [if_pos m, nd_get h (idx_get m) e]
theorem Loc.mono {L : List Part} (ys : List Part) : ∀ {t : Tr} {k : Nat}, Loc L t k → Loc (L ++ ys) t k := by
  have g : ∀ {k : Nat} {p : Part}, L[k]? = some p → (L ++ ys)[k]? = some p := fun {k p} e => by
    have hl := (List.getElem?_eq_some_iff.mp e).1
    rw [List.getElem?_append_left hl]
    exact e
  intro t
  induction t with
  | c b => intro k h; exact g h
  | letter a => intro k h; exact g h
  | un u t ih => rintro k ⟨i, h1, h2⟩; exact ⟨i, ih h1, g h2⟩
  | bin u t s ih1 ih2 => rintro k ⟨i, j, h1, h2, h3⟩; exact ⟨i, j, ih1 h1, ih2 h2, g h3⟩
theorem ins_pre : ∀ (t : Tr) (L : List Part), ∃ ys, (ins t L).1 = L ++ ys
  | .c b, L => putP_pre L _
  | .letter a, L => putP_pre L _
  | .un u t, L => by
    obtain ⟨ys, e⟩ := ins_pre t L
    obtain ⟨zs, e2⟩ := putP_pre (ins t L).1 (.un u (ins t L).2)
    refine ⟨ys ++ zs, ?_⟩
    rw [ins, e2, e, List.append_assoc]
  | .bin u t s, L => by
    obtain ⟨ys, e⟩ := ins_pre t L
    obtain ⟨xs, e1⟩ := ins_pre s (ins t L).1
    obtain ⟨zs, e2⟩ := putP_pre (ins s (ins t L).1).1 (.bin u (ins t L).2 (ins s (ins t L).1).2)
    refine ⟨ys ++ (xs ++ zs), ?_⟩
    rw [ins, e2, e1, e, List.append_assoc, List.append_assoc]
theorem Loc.ins {L : List Part} {t : Tr} {k : Nat} (h : Loc L t k) (s : Tr) : Loc (ins s L).1 t k := by
  obtain ⟨ys, e⟩ := ins_pre s L
  rw [e]
  exact h.mono ys
theorem Loc.put {L : List Part} {t : Tr} {k : Nat} (h : Loc L t k) (p : Part) : Loc (putP L p).1 t k := by
  obtain ⟨ys, e⟩ := putP_pre L p
  rw [e]
  exact h.mono ys
theorem ins_loc : ∀ (t : Tr) (L : List Part), Loc (ins t L).1 t (ins t L).2
  | .c b, L => putP_get L _
  | .letter a, L => putP_get L _
  | .un u t, L => ⟨(Sh.ins t L).2, (ins_loc t L).put _, putP_get _ _⟩
  | .bin u t s, L => ⟨(Sh.ins t L).2, (Sh.ins s (Sh.ins t L).1).2, ((ins_loc t L).ins s).put _, (ins_loc s _).put _, putP_get _ _⟩
theorem ins_nd : ∀ (t : Tr) {L : List Part}, L.Nodup → (ins t L).1.Nodup
  | .c b, L, h => putP_nd _ h
  | .letter a, L, h => putP_nd _ h
  | .un u t, L, h => putP_nd _ (ins_nd t h)
  | .bin u t s, L, h => putP_nd _ (ins_nd s (ins_nd t h))
theorem ins_old {L : List Part} (hn : L.Nodup) : ∀ {t : Tr} {k : Nat}, Loc L t k → ins t L = (L, k)
  | .c b, k, h => putP_old hn h
  | .letter a, k, h => putP_old hn h
  | .un u t, k, ⟨i, h1, h2⟩ => by rw [ins, ins_old hn h1]; exact putP_old hn h2
  | .bin u t s, k, ⟨i, j, h1, h2, h3⟩ => by rw [ins, ins_old hn h1, ins_old hn h2]; exact putP_old hn h3
theorem Loc.inj {L : List Part} : ∀ {t s : Tr} {k : Nat}, Loc L t k → Loc L s k → t = s := by
  intro t
  induction t with
  | c b =>
    intro s k h1 h2
    cases s with
    | c b2 => have e := h1.symm.trans h2; injection e with e; injection e with e; rw [e]
    | letter a => have e := h1.symm.trans h2; injection e with e; cases e
    | un u t => obtain ⟨i, _, h2⟩ := h2; have e := h1.symm.trans h2; injection e with e; cases e
    | bin u t s => obtain ⟨i, j, _, _, h2⟩ := h2; have e := h1.symm.trans h2; injection e with e; cases e
  | letter a =>
    intro s k h1 h2
    cases s with
    | c b2 => have e := h1.symm.trans h2; injection e with e; cases e
    | letter a => have e := h1.symm.trans h2; injection e with e; injection e with e; rw [e]
    | un u t => obtain ⟨i, _, h2⟩ := h2; have e := h1.symm.trans h2; injection e with e; cases e
    | bin u t s => obtain ⟨i, j, _, _, h2⟩ := h2; have e := h1.symm.trans h2; injection e with e; cases e
  | un u t ih =>
    rintro s k ⟨i, hi, h1⟩ h2
    cases s with
    | c b2 => have e := h1.symm.trans h2; injection e with e; cases e
    | letter a => have e := h1.symm.trans h2; injection e with e; cases e
    | un u2 t2 =>
      obtain ⟨i2, hi2, h2⟩ := h2
      have e := h1.symm.trans h2
      injection e with e
      injection e with e1 e2
      subst e1 e2
      rw [ih hi hi2]
    | bin u t s => obtain ⟨i, j, _, _, h2⟩ := h2; have e := h1.symm.trans h2; injection e with e; cases e
  | bin u t1 t2 ih1 ih2 =>
    rintro s k ⟨i, j, hi, hj, h1⟩ h2
    cases s with
    | c b2 => have e := h1.symm.trans h2; injection e with e; cases e
    | letter a => have e := h1.symm.trans h2; injection e with e; cases e
    | un u2 t2 => obtain ⟨i2, hi2, h2⟩ := h2; have e := h1.symm.trans h2; injection e with e; cases e
    | bin u t s =>
      obtain ⟨i2, j2, hi2, hj2, h2⟩ := h2
      have e := h1.symm.trans h2
      injection e with e
      injection e with e1 e2 e3
      subst e1 e2 e3
      rw [ih1 hi hi2, ih2 hj hj2]
theorem Loc.get {L : List Part} {t : Tr} {k : Nat} (h : Loc L t k) : k < L.length := by
  cases t with
  | c b => exact (List.getElem?_eq_some_iff.mp h).1
  | letter a => exact (List.getElem?_eq_some_iff.mp h).1
  | un u t => obtain ⟨_, _, h⟩ := h; exact (List.getElem?_eq_some_iff.mp h).1
  | bin u t s => obtain ⟨_, _, _, _, h⟩ := h; exact (List.getElem?_eq_some_iff.mp h).1
/-! ### sheets -/
def node (ts : List Tr) : Part → Tr
  | .c b => .c b
  | .letter a => .letter a
  | .un u i => .un u (ts.getD i (.c true))
  | .bin u i j => .bin u (ts.getD i (.c true)) (ts.getD j (.c true))
def treesOf (ps : List Part) : List Tr := ps.foldl (fun ts p => ts ++ [node ts p]) []
abbrev treeAt (ps : List Part) (i : Nat) : Tr := (treesOf ps).getD i (.c true)
theorem treesOf_snoc (ps : List Part) (p : Part) : treesOf (ps ++ [p]) = treesOf ps ++ [node (treesOf ps) p] := by
  unfold treesOf
  rw [List.foldl_append]
  rfl
theorem snoc_ind {α : Type} {P : List α → Prop} (h0 : P []) (h1 : ∀ l x, P l → P (l ++ [x])) (l : List α) : P l := by
  have : ∀ n (l : List α), l.length = n → P l := by
    intro n
    induction n with
    | zero => intro l hl; rw [List.length_eq_zero_iff.mp hl]; exact h0
    | succ n ih =>
      intro l hl
      have hne : l ≠ [] := by intro e; rw [e] at hl; cases hl
      rw [← List.dropLast_concat_getLast hne]
      exact h1 _ _ (ih _ (by rw [List.length_dropLast, hl]; rfl))
  exact this _ l rfl
theorem treesOf_len (ps : List Part) : (treesOf ps).length = ps.length := by
  refine snoc_ind (P := fun ps => (treesOf ps).length = ps.length) rfl (fun l x ih => ?_) ps
  rw [treesOf_snoc, List.length_append, List.length_append, ih]
  rfl
theorem treesOf_app (ps qs : List Part) : ∃ ts, treesOf (ps ++ qs) = treesOf ps ++ ts := by
  refine snoc_ind (P := fun qs => ∃ ts, treesOf (ps ++ qs) = treesOf ps ++ ts) ⟨[], by simp⟩ (fun l x ih => ?_) qs
  obtain ⟨ts, e⟩ := ih
  refine ⟨ts ++ [node (treesOf (ps ++ l)) x], ?_⟩
  rw [← List.append_assoc, treesOf_snoc, e, List.append_assoc]
theorem treeAt_app {ps : List Part} (qs : List Part) {i : Nat} (h : i < ps.length) : treeAt (ps ++ qs) i = treeAt ps i := by
  obtain ⟨ts, e⟩ := treesOf_app ps qs
  unfold treeAt
  rw [e, List.getD_eq_getElem?_getD, List.getElem?_append_left (by rw [treesOf_len]; exact h), ← List.getD_eq_getElem?_getD]
/-- references are to parts ahead -/
def Refd (n : Nat) (p : Part) : Prop := ∀ i ∈ Part.refs p, i < n
def WR (ps : List Part) : Prop := ∀ (k : Nat) (p : Part), ps[k]? = some p → Refd k p
theorem node_eq {ts us : List Tr} {n : Nat} {p : Part} (h : ∀ i, i < n → ts.getD i (.c true) = us.getD i (.c true)) (hp : Refd n p) : node ts p = node us p := by
  cases p with
  | c b => rfl
  | letter a => rfl
  | un u i => rw [node, node, h i (hp i (by simp [Part.refs]))]
  | bin u i j => rw [node, node, h i (hp i (by simp [Part.refs])), h j (hp j (by simp [Part.refs]))]
theorem treeAt_get {ps : List Part} (wf : WR ps) {k : Nat} {p : Part} (e : ps[k]? = some p) : treeAt ps k = node (treesOf ps) p := by
  obtain ⟨hk, ek⟩ := List.getElem?_eq_some_iff.mp e
  have e1 : ps = (ps.take k ++ [p]) ++ ps.drop (k + 1) := by
    rw [List.append_assoc, List.singleton_append, ← ek, List.getElem_cons_drop, List.take_append_drop]
  have hlt : (ps.take k).length = k := by rw [List.length_take]; omega
  have e2 : treeAt ps k = node (treesOf (ps.take k)) p := by
    have e4 : treeAt ps k = treeAt (ps.take k ++ [p]) k := by
      have := treeAt_app (ps := ps.take k ++ [p]) (ps.drop (k + 1)) (i := k) (by rw [List.length_append, hlt]; exact Nat.lt_succ_self k)
      rw [← e1] at this
      exact this
    rw [e4]
    unfold treeAt
    rw [treesOf_snoc, List.getD_eq_getElem?_getD, List.getElem?_append_right (by rw [treesOf_len, hlt]; exact Nat.le_refl _), treesOf_len, hlt, Nat.sub_self]
    rfl
  rw [e2]
  refine node_eq (n := k) (fun i hi => ?_) (wf k p e)
  have e3 : treeAt ps i = treeAt (ps.take k) i := by
    have := treeAt_app (ps := ps.take k) (ps.drop k) (i := i) (by rw [hlt]; exact hi)
    rw [List.take_append_drop] at this
    exact this
  exact e3.symm
/-! ### numbers and places as the program keeps them -/
def numOf (nums : List (Nat × Nat)) (i : Nat) : Option Nat := (nums.find? fun p => decide (p.1 = i)).map (·.2)
def numsK (nums : List (Nat × Nat)) : List (Key × V) := nums.map fun p => (.inl (p.1 : Int), intV p.2)
theorem numsK_val (i : Nat) : ∀ nums : List (Nat × Nat), valV (numsK nums) (.inl (i : Int)) = (numOf nums i).map intV
  | [] => rfl
  | p :: nums => by
    unfold numsK numOf
    rw [List.map_cons, List.find?_cons]
    by_cases h : p.1 = i
    · rw [valV_pos (by rw [h]), decide_eq_true h]
      rfl
    · rw [valV_neg (by intro e; injection e with e; omega), decide_eq_false h]
      exact numsK_val i nums
theorem numsK_put {nums : List (Nat × Nat)} {i : Nat} (k : Nat) (h : numOf nums i = none) : putK (numsK nums) (.inl (i : Int)) (intV k) = numsK (nums ++ [(i, k)]) := by
  rw [putK_new _ (by rw [numsK_val, h]; rfl)]
  unfold numsK
  rw [List.map_append]
  rfl
theorem numOf_mem {nums : List (Nat × Nat)} {i k : Nat} (h : numOf nums i = some k) : (i, k) ∈ nums := by
  unfold numOf at h
  cases e : nums.find? fun p => decide (p.1 = i) with
  | none => rw [e] at h; cases h
  | some q =>
    rw [e] at h
    have h1 := List.find?_some e
    have h2 := List.mem_of_find?_eq_some e
    injection h with h
    rw [← of_decide_eq_true h1, ← h]
    exact h2
theorem numOf_none {nums : List (Nat × Nat)} {i : Nat} (h : numOf nums i = none) : i ∉ nums.map (·.1) := by
  unfold numOf at h
  rw [Option.map_eq_none_iff, List.find?_eq_none] at h
  intro hm
  obtain ⟨q, hq, e⟩ := List.mem_map.mp hm
  exact h q hq (decide_eq_true e)
theorem none_numOf {nums : List (Nat × Nat)} {i : Nat} (h : i ∉ nums.map (·.1)) : numOf nums i = none := by
  unfold numOf
  rw [Option.map_eq_none_iff, List.find?_eq_none]
  intro q hq e
  exact h (List.mem_map.mpr ⟨q, hq, of_decide_eq_true e⟩)
theorem U1.nm_inj : ∀ {u v : U1}, u.nm = v.nm → u = v := by
  intro u v
  cases u <;> cases v <;> first | exact fun _ => rfl | exact fun h => absurd h (by decide +kernel)
theorem U2.nm_inj : ∀ {u v : U2}, u.nm = v.nm → u = v := by
  intro u v
  cases u <;> cases v <;> first | exact fun _ => rfl | exact fun h => absurd h (by decide +kernel)
theorem keys_inj {p q : Part} (h : p.keys = q.keys) : p = q := by
  have cnI : ∀ {a b : Bool}, cnm a = cnm b → a = b := by
    intro a b
    cases a <;> cases b <;> first | exact fun _ => rfl | exact fun h => absurd h (by decide +kernel)
  have n1 : ∀ u : U1, ("letter" : Str) ≠ u.nm := by intro u; cases u <;> decide +kernel
  cases p with
  | c a =>
    cases q with
    | c b => simp only [Part.keys, List.cons.injEq, Sum.inr.injEq, and_true] at h; rw [cnI h]
    | letter b => simp [Part.keys] at h
    | un u i => simp [Part.keys] at h
    | bin u i j => simp [Part.keys] at h
  | letter a =>
    cases q with
    | c b => simp [Part.keys] at h
    | letter b =>
      simp only [Part.keys, List.cons.injEq, Sum.inr.injEq, and_true, true_and] at h
      have := SX.S_inj h
      simp only [List.cons.injEq, and_true] at this
      rw [this]
    | un u i => simp [Part.keys] at h
    | bin u i j => simp [Part.keys] at h
  | un u i =>
    cases q with
    | c b => simp [Part.keys] at h
    | letter b => simp [Part.keys] at h
    | un v j =>
      simp only [Part.keys, List.cons.injEq, Sum.inr.injEq, Sum.inl.injEq, and_true] at h
      rw [U1.nm_inj h.1, show i = j by omega]
    | bin v j k => simp [Part.keys] at h
  | bin u i j =>
    cases q with
    | c b => simp [Part.keys] at h
    | letter b => simp [Part.keys] at h
    | un v k => simp [Part.keys] at h
    | bin v k m =>
      simp only [Part.keys, List.cons.injEq, Sum.inr.injEq, Sum.inl.injEq, and_true] at h
      rw [U2.nm_inj h.1, show i = k by omega, show j = m by omega]
def placesF (n : Nat) : List Part → List (List Key × V)
  | [] => []
  | p :: L => (p.keys, intV n) :: placesF (n + 1) L
theorem placesF_app : ∀ (n : Nat) (L : List Part) (p : Part), placesF n (L ++ [p]) = placesF n L ++ [(p.keys, intV (n + L.length))]
  | n, [], p => rfl
  | n, q :: L, p => by
    rw [List.cons_append, placesF, placesF, placesF_app (n + 1) L p, List.cons_append, List.length_cons]
    congr 5
    omega
theorem placesF_val : ∀ (n : Nat) (L : List Part) (p : Part), valV (placesF n L) p.keys = if p ∈ L then some (intV (n + L.idxOf p)) else none
  | n, [], p => by simp [placesF, valV_nil]
  | n, q :: L, p => by
    unfold placesF
    by_cases h : q = p
    · subst h
      rw [valV_pos rfl, if_pos (by simp), List.idxOf_cons_self]
      rfl
    · rw [valV_neg (fun e => h (keys_inj e)), placesF_val (n + 1) L p]
      have hp : ¬ p = q := fun e => h e.symm
      by_cases m : p ∈ L
      · rw [if_pos m, if_pos (List.mem_cons_of_mem _ m), show (q :: L).idxOf p = L.idxOf p + 1 by rw [List.idxOf_cons, show (q == p) = false from beq_false_of_ne h]; rfl]
        congr 2
        omega
      · rw [if_neg m, if_neg (by simp [hp, m])]
abbrev placesOf (L : List Part) : List (List Key × V) := placesF 0 L
theorem placesOf_val (L : List Part) (p : Part) : valV (placesOf L) p.keys = if p ∈ L then some (intV (L.idxOf p)) else none := by
  rw [placesF_val, Nat.zero_add]
theorem placesOf_put {L : List Part} {p : Part} (h : p ∉ L) : putK (placesOf L) p.keys (intV L.length) = placesOf (L ++ [p]) := by
  rw [putK_new _ (by rw [placesOf_val, if_neg h]), show placesOf (L ++ [p]) = _ from placesF_app 0 L p, Nat.zero_add]
theorem placesF_len : ∀ (n : Nat) (L : List Part), (placesF n L).length = L.length
  | _, [] => rfl
  | n, _ :: L => by rw [placesF, List.length_cons, List.length_cons, placesF_len]
/-- different numbers below n -/
theorem nd_len : ∀ {n : Nat} {l : List Nat}, l.Nodup → (∀ x ∈ l, x < n) → l.length ≤ n
  | 0, l, _, h => by
    cases l with
    | nil => exact Nat.le_refl _
    | cons x l => exact absurd (h x (by simp)) (by omega)
  | n + 1, l, hd, h => by
    have h1 := nd_len (n := n) (l := l.erase n) (hd.erase n) (fun x hx => by
      have := (List.Nodup.mem_erase_iff hd).mp hx
      have := h x this.2
      omega)
    rw [List.length_erase] at h1
    split at h1
    · omega
    · omega
end Sh
set_option Elab.async false
set_option linter.all false
set_option maxRecDepth 100000
/-! the pile's loop in plain words -/
namespace Sh
open PySem PySem.Spec PyProof.Rows L2
open SX (S)
structure TI (ps : List Part) (last : Nat) (nums : List (Nat × Nat)) (L : List Part) (st : List Nat) : Prop where
  nd : L.Nodup
  loc : ∀ q ∈ nums, Loc L (treeAt ps q.1) q.2
  knd : (nums.map (·.1)).Nodup
  kle : ∀ q ∈ nums, q.1 ≤ last
  lt : st.Pairwise (· < ·)
  le : ∀ x ∈ st, x ≤ last
  new : ∀ x ∈ st, numOf nums x = none
  fold : st.foldl (fun L x => (ins (treeAt ps x) L).1) L = (ins (treeAt ps last) []).1
  len : L.length ≤ nums.length
def TI.top (st : List Nat) : Nat := match st with
  | [] => 0
  | x :: _ => x + 1
def TI.mea (last : Nat) (nums : List (Nat × Nat)) (st : List Nat) : Nat := (last + 1 - nums.length) * (last + 1) + TI.top st
theorem TI.start (ps : List Part) (last : Nat) : TI ps last [] [] [last] :=
  ⟨by simp, by simp, by simp, by simp, by simp, by simp, by intro x _; rfl, rfl, by simp⟩
section
variable {ps : List Part} {last x : Nat} {nums : List (Nat × Nat)} {L : List Part} {st : List Nat}
theorem TI.num {i k : Nat} (h : TI ps last nums L st) (e : numOf nums i = some k) : Loc L (treeAt ps i) k := h.loc _ (numOf_mem e)
theorem TI.push (h : TI ps last nums L (x :: st)) (wf : WR ps) {p : Part} (e : ps[x]? = some p) {y : Nat} {ys : List Nat} (hf : (Part.refs p).filter (fun i => (numOf nums i).isNone) = y :: ys) :
    TI ps last nums L (y :: x :: st) ∧ TI.mea last nums (y :: x :: st) < TI.mea last nums (x :: st) := by
  have hy : y ∈ (Part.refs p).filter (fun i => (numOf nums i).isNone) := by rw [hf]; simp
  rw [List.mem_filter, Option.isNone_iff_eq_none] at hy
  have hyx : y < x := wf x p e y hy.1
  refine ⟨⟨h.nd, h.loc, h.knd, h.kle, ?_, ?_, ?_, ?_, h.len⟩, ?_⟩
  · rw [List.pairwise_cons]
    refine ⟨fun z hz => ?_, h.lt⟩
    rcases List.mem_cons.mp hz with rfl | hz
    · exact hyx
    · exact Nat.lt_trans hyx ((List.pairwise_cons.mp h.lt).1 z hz)
  · intro z hz
    rcases List.mem_cons.mp hz with rfl | hz
    · exact Nat.le_trans (Nat.le_of_lt hyx) (h.le x (by simp))
    · exact h.le z hz
  · intro z hz
    rcases List.mem_cons.mp hz with rfl | hz
    · exact hy.2
    · exact h.new z hz
  · rw [← h.fold, List.foldl_cons, List.foldl_cons, List.foldl_cons]
    congr 1
    have ex := treeAt_get wf e
    rw [ex]
    have ndi := ins_nd (treeAt ps y) h.nd
    have o1 := ins_old ndi (ins_loc (treeAt ps y) L)
    cases p with
    | c b => simp [Part.refs] at hf
    | letter a => simp [Part.refs] at hf
    | un u i =>
      have ey : y = i := by simpa [Part.refs] using hy.1
      subst ey
      show (putP (ins (treeAt ps y) (ins (treeAt ps y) L).1).1 (.un u (ins (treeAt ps y) (ins (treeAt ps y) L).1).2)).1 = (putP (ins (treeAt ps y) L).1 (.un u (ins (treeAt ps y) L).2)).1
      rw [o1]
    | bin u i j =>
      show (ins (.bin u (treeAt ps i) (treeAt ps j)) (ins (treeAt ps y) L).1).1 = (ins (.bin u (treeAt ps i) (treeAt ps j)) L).1
      rw [ins, ins]
      by_cases ci : numOf nums i = none
      · have ey : y = i := by
          rw [Part.refs, List.filter_cons_of_pos (by rw [ci]; rfl)] at hf
          injection hf with h1 _
          exact h1.symm
        subst ey
        rw [o1]
      · obtain ⟨k, ek⟩ := Option.ne_none_iff_exists'.mp ci
        have ey : y = j := by
          rw [Part.refs, List.filter_cons_of_neg (by rw [ek]; exact Bool.false_ne_true), List.filter_cons] at hf
          split at hf
          · injection hf with h1 _
            exact h1.symm
          · cases hf
        subst ey
        have li := h.num ek
        rw [ins_old ndi (li.ins (treeAt ps y)), ins_old h.nd li, o1]
  · unfold TI.mea TI.top
    dsimp only
    omega
/-- the new number of a reference -/
abbrev newN (nums : List (Nat × Nat)) (i : Nat) : Nat := (numOf nums i).getD 0
theorem TI.all (hf : (Part.refs p).filter (fun i => (numOf nums i).isNone) = []) {i : Nat} (hi : i ∈ Part.refs p) : numOf nums i = some (newN nums i) := by
  rw [List.filter_eq_nil_iff] at hf
  have := hf i hi
  unfold newN
  cases e : numOf nums i with
  | none => rw [e] at this; exact absurd rfl this
  | some k => rfl
theorem TI.put (h : TI ps last nums L (x :: st)) (wf : WR ps) {p : Part} (e : ps[x]? = some p) (hf : (Part.refs p).filter (fun i => (numOf nums i).isNone) = []) :
    TI ps last (nums ++ [(x, (putP L (Part.mapR (newN nums) p)).2)]) (putP L (Part.mapR (newN nums) p)).1 st ∧ TI.mea last (nums ++ [(x, (putP L (Part.mapR (newN nums) p)).2)]) st < TI.mea last nums (x :: st) := by
  have ei : ins (treeAt ps x) L = putP L (Part.mapR (newN nums) p) := by
    rw [treeAt_get wf e]
    cases p with
    | c b => rfl
    | letter a => rfl
    | un u i =>
      show putP (ins (treeAt ps i) L).1 (.un u (ins (treeAt ps i) L).2) = putP L (.un u (newN nums i))
      rw [ins_old h.nd (h.num (TI.all hf (i := i) (by simp [Part.refs])))]
    | bin u i j =>
      show ins (.bin u (treeAt ps i) (treeAt ps j)) L = putP L (.bin u (newN nums i) (newN nums j))
      rw [ins, ins_old h.nd (h.num (TI.all hf (i := i) (by simp [Part.refs]))), ins_old h.nd (h.num (TI.all hf (i := j) (by simp [Part.refs])))]
  rw [← ei]
  have hx := h.new x (by simp)
  have hn := numOf_none hx
  have lt := List.pairwise_cons.mp h.lt
  have knd : ((nums ++ [(x, (ins (treeAt ps x) L).2)]).map (·.1)).Nodup := by rw [List.map_append]; exact nd_snoc h.knd hn
  have kle : ∀ q ∈ nums ++ [(x, (ins (treeAt ps x) L).2)], q.1 ≤ last := by
    intro q hq
    rcases List.mem_append.mp hq with hq | hq
    · exact h.kle q hq
    · rw [List.mem_singleton.mp hq]
      exact h.le x (by simp)
  have nl : (nums ++ [(x, (ins (treeAt ps x) L).2)]).length ≤ last + 1 := by
    rw [← List.length_map (f := (·.1))]
    refine nd_len knd fun z hz => ?_
    obtain ⟨q, hq, rfl⟩ := List.mem_map.mp hz
    exact Nat.lt_succ_of_le (kle q hq)
  refine ⟨⟨ins_nd _ h.nd, ?_, knd, kle, lt.2, fun z hz => h.le z (List.mem_cons_of_mem _ hz), ?_, ?_, ?_⟩, ?_⟩
  · intro q hq
    rcases List.mem_append.mp hq with hq | hq
    · exact (h.loc q hq).ins _
    · rw [List.mem_singleton.mp hq]
      exact ins_loc _ _
  · intro z hz
    refine none_numOf fun hm => ?_
    rw [List.map_append] at hm
    rcases List.mem_append.mp hm with hm | hm
    · exact numOf_none (h.new z (List.mem_cons_of_mem _ hz)) hm
    · have ez : z = x := by simpa using hm
      have := lt.1 z hz
      omega
  · rw [← h.fold, List.foldl_cons]
  · rw [ei, List.length_append]
    have := h.len
    unfold putP
    split <;> simp <;> omega
  · have hle : ∀ y ∈ st, y ≤ last := fun y hy => h.le y (List.mem_cons_of_mem _ hy)
    unfold TI.mea
    rw [List.length_append] at nl ⊢
    have t1 : TI.top st ≤ last + 1 := by
      cases st with
      | nil => exact Nat.zero_le _
      | cons y st => exact Nat.succ_le_succ (hle y (by simp))
    have e1 : last + 1 - nums.length = (last + 1 - (nums.length + [(x, (ins (treeAt ps x) L).2)].length)) + 1 := by simp at nl ⊢; omega
    rw [e1, Nat.succ_mul]
    show _ + TI.top st < _ + (x + 1)
    omega
theorem TI.done (h : TI ps last nums L []) : L = (ins (treeAt ps last) []).1 := h.fold
theorem TI.nums_len (h : TI ps last nums L st) : nums.length ≤ last + 1 := by
  rw [← List.length_map (f := (·.1))]
  refine nd_len h.knd fun z hz => ?_
  obtain ⟨q, hq, rfl⟩ := List.mem_map.mp hz
  exact Nat.lt_succ_of_le (h.kle q hq)
theorem TI.st_len (h : TI ps last nums L st) : st.length ≤ last + 1 :=
  nd_len (h.lt.imp fun h => Nat.ne_of_lt h) fun z hz => Nat.lt_succ_of_le (h.le z hz)
end
end Sh
set_option Elab.async false
set_option linter.all false
set_option maxRecDepth 100000
/-! sheets put into one another, as trees -/
namespace Sh
open PySem PySem.Spec PyProof.Rows L2
open SX (S)
def substT (f : Nat → Tr) : Tr → Tr
  | .c b => .c b
  | .letter a => f a
  | .un u t => .un u (substT f t)
  | .bin u t s => .bin u (substT f t) (substT f s)
def rootT (ps : List Part) : Tr := treeAt ps (ps.length - 1)
def shiftP (b : Nat) (g : List Part) : List Part := g.map (Part.mapR fun k => b + k)
theorem node_mapR {us ts : List Tr} {f : Nat → Nat} {p : Part} (h : ∀ i ∈ Part.refs p, us.getD (f i) (.c true) = ts.getD i (.c true)) : node us (Part.mapR f p) = node ts p := by
  cases p with
  | c b => rfl
  | letter a => rfl
  | un u i => rw [Part.mapR, node, node, h i (by simp [Part.refs])]
  | bin u i j => rw [Part.mapR, node, node, h i (by simp [Part.refs]), h j (by simp [Part.refs])]
theorem refs_mapR (f : Nat → Nat) (p : Part) : Part.refs (Part.mapR f p) = (Part.refs p).map f := by cases p <;> rfl
theorem WR.app {P Q : List Part} (h1 : WR P) (h2 : ∀ (k : Nat) (p : Part), Q[k]? = some p → Refd (P.length + k) p) : WR (P ++ Q) := fun k p e => by
  by_cases hk : k < P.length
  · rw [List.getElem?_append_left hk] at e
    exact h1 k p e
  · rw [List.getElem?_append_right (by omega)] at e
    have := h2 _ p e
    rwa [show P.length + (k - P.length) = k by omega] at this
theorem WR.shift {P g : List Part} (h1 : WR P) (h2 : WR g) : WR (P ++ shiftP P.length g) := h1.app fun k p e => by
  unfold shiftP at e
  rw [List.getElem?_map] at e
  cases e2 : g[k]? with
  | none => rw [e2] at e; cases e
  | some q =>
    rw [e2] at e
    cases e
    intro i hi
    rw [refs_mapR] at hi
    obtain ⟨j, hj, rfl⟩ := List.mem_map.mp hi
    have := h2 k q e2 j hj
    omega
theorem treeAt_shift {P g : List Part} (h1 : WR P) (h2 : WR g) : ∀ k, k < g.length → treeAt (P ++ shiftP P.length g) (P.length + k) = treeAt g k := by
  intro k
  induction k using Nat.strongRecOn with
  | ind k ih =>
    intro hk
    obtain ⟨p, e⟩ : ∃ p, g[k]? = some p := ⟨_, List.getElem?_eq_getElem hk⟩
    have e2 : (P ++ shiftP P.length g)[P.length + k]? = some (Part.mapR (fun k => P.length + k) p) := by
      rw [List.getElem?_append_right (by omega), Nat.add_sub_cancel_left]
      unfold shiftP
      rw [List.getElem?_map, e]
      rfl
    rw [treeAt_get (h1.shift h2) e2, treeAt_get h2 e]
    exact node_mapR fun i hi => ih i (h2 k p e i hi) (Nat.lt_trans (h2 k p e i hi) hk)
theorem WF.wr {al : List Nat} {ps : List Part} (h : WF al ps) : WR ps := fun k p e i hi => by
  have := h k p e
  cases p with
  | c b => simp [Part.refs] at hi
  | letter a => simp [Part.refs] at hi
  | un u j =>
    obtain rfl : i = j := by simpa [Part.refs] using hi
    exact this
  | bin u j m =>
    have h : i = j ∨ i = m := by simpa [Part.refs] using hi
    rcases h with rfl | rfl
    · exact this.1
    · exact this.2
/-! ### the given sheets, one behind the other -/
def joinP (gs : List (List Part)) : List Part := gs.foldl (fun P g => P ++ shiftP P.length g) []
theorem joinP_snoc (gs : List (List Part)) (g : List Part) : joinP (gs ++ [g]) = joinP gs ++ shiftP (joinP gs).length g := by
  unfold joinP
  rw [List.foldl_append]
  rfl
theorem shiftP_len (b : Nat) (g : List Part) : (shiftP b g).length = g.length := List.length_map ..
theorem joinP_wr {gs : List (List Part)} (h : ∀ g ∈ gs, WR g) : WR (joinP gs) := by
  refine snoc_ind (P := fun gs => (∀ g ∈ gs, WR g) → WR (joinP gs)) (fun _ k p e => by simp [joinP] at e) (fun l x ih h => ?_) gs h
  rw [joinP_snoc]
  exact (ih fun g hg => h g (by simp [hg])).shift (h x (by simp))
theorem joinP_len {gs : List (List Part)} {m : Nat} (h : ∀ g ∈ gs, g.length ≤ m) : (joinP gs).length ≤ gs.length * m := by
  refine snoc_ind (P := fun gs => (∀ g ∈ gs, g.length ≤ m) → (joinP gs).length ≤ gs.length * m) (fun _ => by simp [joinP]) (fun l x ih h => ?_) gs h
  have h1 := ih fun g hg => h g (by simp [hg])
  have h2 := h x (by simp)
  rw [joinP_snoc, List.length_append, shiftP_len, List.length_append, List.length_singleton, Nat.succ_mul]
  omega
/-- where the root of the i-th given sheet stands -/
def lastAt (gs : List (List Part)) (i : Nat) : Nat := (joinP (gs.take (i + 1))).length - 1
theorem joinP_pre (gs : List (List Part)) (i : Nat) : ∃ ys, joinP gs = joinP (gs.take i) ++ ys := by
  have e : gs = gs.take i ++ gs.drop i := (List.take_append_drop i gs).symm
  have : ∀ (l m : List (List Part)), ∃ ys, joinP (l ++ m) = joinP l ++ ys := by
    intro l m
    refine snoc_ind (P := fun m => ∃ ys, joinP (l ++ m) = joinP l ++ ys) ⟨[], by simp⟩ (fun m x ih => ?_) m
    obtain ⟨ys, e⟩ := ih
    rw [← List.append_assoc, joinP_snoc, e, List.append_assoc]
    exact ⟨_, rfl⟩
  obtain ⟨ys, e2⟩ := this (gs.take i) (gs.drop i)
  rw [← e] at e2
  exact ⟨ys, e2⟩
theorem lastAt_tree {gs : List (List Part)} (h : ∀ g ∈ gs, WR g) (hn : ∀ g ∈ gs, 1 ≤ g.length) {i : Nat} {g : List Part} (e : gs[i]? = some g) : lastAt gs i < (joinP gs).length ∧ treeAt (joinP gs) (lastAt gs i) = rootT g := by
  have hi := (List.getElem?_eq_some_iff.mp e).1
  have et : gs.take (i + 1) = gs.take i ++ [g] := by rw [List.take_add_one, e]; rfl
  have hm := List.mem_of_getElem? e
  have hg := hn g hm
  obtain ⟨ys, ep⟩ := joinP_pre gs (i + 1)
  have el : lastAt gs i = (joinP (gs.take i)).length + (g.length - 1) := by
    unfold lastAt
    rw [et, joinP_snoc, List.length_append, shiftP_len]
    omega
  have lt : lastAt gs i < (joinP (gs.take (i + 1))).length := by
    rw [el, et, joinP_snoc, List.length_append, shiftP_len]
    omega
  refine ⟨by rw [ep, List.length_append]; omega, ?_⟩
  rw [ep, treeAt_app _ lt, el, et, joinP_snoc]
  exact treeAt_shift (joinP_wr fun g hg => h g (List.mem_of_mem_take hg)) (h g hm) _ (by omega)
/-! ### the outer sheet put behind them -/
structure KI (kept : List Part) (f : Nat → Tr) (Q : List Part) (N : List Nat) : Prop where
  wr : WR Q
  at_ : ∀ (j n : Nat), N[j]? = some n → n < Q.length ∧ treeAt Q n = substT f (treeAt kept j)
theorem getN {N : List Nat} {i : Nat} (h : i < N.length) : N[i]? = some (N.getD i 0) := by rw [List.getD_eq_getElem?_getD, List.getElem?_eq_getElem h]; rfl
theorem KI.letter {kept Q : List Part} {N : List Nat} {f : Nat → Tr} (h : KI kept f Q N) (wk : WR kept) {a n : Nat} (e : kept[N.length]? = some (.letter a)) (hn : n < Q.length) (ht : treeAt Q n = f a) : KI kept f Q (N ++ [n]) := by
  refine ⟨h.wr, fun j m ej => ?_⟩
  by_cases hj : j < N.length
  · rw [List.getElem?_append_left hj] at ej
    exact h.at_ j m ej
  · have hj2 := (List.getElem?_eq_some_iff.mp ej).1
    rw [List.length_append, List.length_singleton] at hj2
    obtain rfl : j = N.length := by omega
    rw [List.getElem?_append_right (Nat.le_refl _), Nat.sub_self] at ej
    cases ej
    refine ⟨hn, ?_⟩
    rw [ht, treeAt_get wk e]
    rfl
theorem KI.part {kept Q : List Part} {N : List Nat} {f : Nat → Tr} (h : KI kept f Q N) (wk : WR kept) {p : Part} (e : kept[N.length]? = some p) (hp : ∀ a, p ≠ .letter a) : KI kept f (Q ++ [Part.mapR (fun i => N.getD i 0) p]) (N ++ [Q.length]) := by
  have rf := wk _ p e
  have wr : WR (Q ++ [Part.mapR (fun i => N.getD i 0) p]) := h.wr.app fun k q ek => by
    have hk := (List.getElem?_eq_some_iff.mp ek).1
    rw [List.length_singleton] at hk
    obtain rfl : k = 0 := by omega
    cases ek
    intro i hi
    rw [refs_mapR] at hi
    obtain ⟨j, hj, rfl⟩ := List.mem_map.mp hi
    exact (h.at_ j _ (getN (rf j hj))).1
  refine ⟨wr, fun j m ej => ?_⟩
  by_cases hj : j < N.length
  · rw [List.getElem?_append_left hj] at ej
    obtain ⟨h1, h2⟩ := h.at_ j m ej
    exact ⟨by rw [List.length_append]; omega, by rw [treeAt_app _ h1]; exact h2⟩
  · have hj2 := (List.getElem?_eq_some_iff.mp ej).1
    rw [List.length_append, List.length_singleton] at hj2
    obtain rfl : j = N.length := by omega
    rw [List.getElem?_append_right (Nat.le_refl _), Nat.sub_self] at ej
    cases ej
    refine ⟨by rw [List.length_append]; exact Nat.lt_succ_self _, ?_⟩
    rw [treeAt_get wr (p := Part.mapR (fun i => N.getD i 0) p) (by rw [List.getElem?_append_right (Nat.le_refl _), Nat.sub_self]; rfl), treeAt_get wk e]
    have kid : ∀ i ∈ Part.refs p, (treesOf (Q ++ [Part.mapR (fun i => N.getD i 0) p])).getD (N.getD i 0) (.c true) = substT f ((treesOf kept).getD i (.c true)) := fun i hi => by
      obtain ⟨h1, h2⟩ := h.at_ i _ (getN (rf i hi))
      exact (treeAt_app _ h1).trans h2
    generalize treesOf (Q ++ [Part.mapR (fun i => N.getD i 0) p]) = us at kid ⊢
    cases p with
    | c b => rfl
    | letter a => exact absurd rfl (hp a)
    | un u i => rw [Part.mapR, node, node, substT, kid i (by simp [Part.refs])]
    | bin u i j => rw [Part.mapR, node, node, substT, kid i (by simp [Part.refs]), kid j (by simp [Part.refs])]
end Sh
set_option Elab.async false
set_option linter.all false
set_option maxRecDepth 100000
/-! sheets as data: equality, repr -/
namespace Sh
open PySem PySem.Spec PyProof.Rows L2
open SX (S)
theorem eqv_kD (a b : Key) : PyData.eqv (kD a) (kD b) = decide (a = b) := by
  cases a with
  | inl i =>
    cases b with
    | inl j =>
      show PyData.eqv (.int i) (.int j) = _
      unfold PyData.eqv
      by_cases h : i = j
      · subst h; simp
      · simp [h]
    | inr y => show PyData.eqv (.int i) (.str y) = _; unfold PyData.eqv; simp
  | inr x =>
    cases b with
    | inl j => show PyData.eqv (.str x) (.int j) = _; unfold PyData.eqv; simp
    | inr y =>
      show PyData.eqv (.str x) (.str y) = _
      unfold PyData.eqv
      by_cases h : x = y
      · subst h; simp
      · simp [h]
theorem eqv_kDs : ∀ as bs : List Key, PyData.eqvAll (as.map kD) (bs.map kD) = decide (as = bs)
  | [], [] => rfl
  | [], b :: bs => rfl
  | a :: as, [] => rfl
  | a :: as, b :: bs => by
    show (PyData.eqv (kD a) (kD b) && PyData.eqvAll (as.map kD) (bs.map kD)) = _
    rw [eqv_kD, eqv_kDs as bs]
    by_cases h1 : a = b
    · subst h1
      by_cases h2 : as = bs
      · subst h2; simp
      · simp [h2]
    · simp [h1]
theorem part_eqv (l : Bool) (p q : Part) : PyData.eqv (partD l p) (partD l q) = decide (p = q) := by
  have e : PyData.eqv (partD l p) (partD l q) = PyData.eqvAll (p.keys.map kD) (q.keys.map kD) := by
    cases l
    · show PyData.eqv (.tuple (p.keys.map kD)) (.tuple (q.keys.map kD)) = _
      unfold PyData.eqv
      rfl
    · show PyData.eqv (.list (p.keys.map kD)) (.list (q.keys.map kD)) = _
      unfold PyData.eqv
      rfl
  rw [e, eqv_kDs]
  by_cases h : p = q
  · subst h; simp
  · rw [decide_eq_false h, decide_eq_false fun z => h (keys_inj z)]
theorem part_any (l : Bool) (L : List Part) (p : Part) : ((L.map (partD l)).any fun z => PyData.eqv z (partD l p)) = decide (p ∈ L) := by
  rw [List.any_map]
  have e : ((fun z => PyData.eqv z (partD l p)) ∘ partD l) = fun q => decide (q = p) := funext fun q => part_eqv l q p
  rw [e]
  by_cases h : p ∈ L
  · rw [decide_eq_true h, List.any_eq_true]
    exact ⟨p, h, decide_eq_true rfl⟩
  · rw [decide_eq_false h, List.any_eq_false]
    intro q hq z
    exact h (of_decide_eq_true z ▸ hq)
/-! ### shapes -/
def smallK : Key → Prop
  | .inl i => i.natAbs ≤ 1000000
  | .inr x => x.length ≤ 20 ∧ ∀ c ∈ x.cps.toList, c < 1000
def Part.small : Part → Prop
  | .c _ => True
  | .letter a => a < 1000
  | .un _ i => i ≤ 1000000
  | .bin _ i j => i ≤ 1000000 ∧ j ≤ 1000000
theorem small_nm (p : Part) : smallK (.inr (Part.nm p)) := by
  have all : ∀ z ∈ [("yes" : Str), "no", "letter", "not", "next", "prev", "and", "or", "until", "since"], z.length ≤ 20 ∧ ∀ c ∈ z.cps.toList, c < 1000 := by decide +kernel
  cases p with
  | c b => cases b <;> exact all _ (by simp [Part.nm, cnm])
  | letter a => exact all _ (by simp [Part.nm])
  | un u i => cases u <;> exact all _ (by simp [Part.nm, U1.nm])
  | bin u i j => cases u <;> exact all _ (by simp [Part.nm, U2.nm])
theorem small_keys {p : Part} (h : p.small) : ∀ k ∈ p.keys, smallK k := by
  have hd := small_nm p
  intro k hk
  cases p with
  | c b =>
    obtain rfl : k = .inr (cnm b) := by simpa [Part.keys] using hk
    exact hd
  | letter a =>
    have h2 : k = .inr "letter" ∨ k = .inr (S [a]) := by simpa [Part.keys] using hk
    rcases h2 with rfl | rfl
    · exact hd
    · refine ⟨by rw [S_length]; show 1 ≤ 20; decide, fun c hc => ?_⟩
      obtain rfl : c = a := by simpa using hc
      exact h
  | un u i =>
    have h2 : k = .inr u.nm ∨ k = .inl (i : Int) := by simpa [Part.keys] using hk
    rcases h2 with rfl | rfl
    · exact hd
    · have : i ≤ 1000000 := h
      show (i : Int).natAbs ≤ 1000000
      omega
  | bin u i j =>
    have h2 : k = .inr u.nm ∨ k = .inl (i : Int) ∨ k = .inl (j : Int) := by simpa [Part.keys] using hk
    rcases h2 with rfl | rfl | rfl
    · exact hd
    · have : i ≤ 1000000 := h.1
      show (i : Int).natAbs ≤ 1000000
      omega
    · have : j ≤ 1000000 := h.2
      show (j : Int).natAbs ≤ 1000000
      omega
theorem natAbs_log {i : Int} (h : i.natAbs ≤ 1000000) : i.natAbs.log2 < 20 := by
  by_cases h0 : i.natAbs = 0
  · rw [h0]; decide
  · exact (Nat.log2_lt h0).mpr (Nat.lt_of_le_of_lt h (show 1000000 < 2 ^ 20 by decide))
structure Fine (d : PyData) (m n : Nat) : Prop where
  nd : hasD d = false
  show_ : d.showable = true
  dict : d.hasDict = false
  lay : d.canLay0 = true
  deep : d.depth ≤ m
  len : d.shown.length ≤ n
theorem Fine.ok {d : PyData} {m n : Nat} (f : Fine d m n) (hm : m ≤ 60) (hn : n ≤ 16000000) : ShowOk d := ⟨f.nd, f.show_, f.dict, Nat.le_trans f.deep hm, Nat.le_trans f.len (Nat.le_trans hn (by rw [sizeLine_eq]; decide))⟩
theorem Fine.shaped {d : PyData} {m n : Nat} (f : Fine d m n) (hm : m ≤ 60) : SeqAt.shaped d = true := by
  unfold SeqAt.shaped
  rw [f.lay, decide_eq_true (Nat.le_trans f.deep (by omega))]
  rfl
theorem fine_kD {k : Key} (h : smallK k) : Fine (kD k) 0 202 := by
  cases k with
  | inl i =>
    have hl := natAbs_log h
    refine ⟨rfl, ?_, ?_, ?_, ?_, ?_⟩
    · show PyData.showable (.int i) = true
      simp only [PyData.showable]
      exact decide_eq_true (by omega)
    · show PyData.hasDict (.int i) = false
      simp only [PyData.hasDict]
    · show PyData.canLay0 (.int i) = true
      simp only [PyData.canLay0]
    · show PyData.depth (.int i) ≤ 0
      simp only [PyData.depth]
      exact Nat.le_refl _
    · show (PyData.shown (.int i)).length ≤ 202
      unfold PyData.shown
      rw [PySem.ofString_length]
      have := int_text_length_le (k := 20) (by decide) hl
      omega
  | inr x =>
    obtain ⟨h1, h2⟩ := h
    refine ⟨rfl, ?_, ?_, ?_, ?_, ?_⟩
    · show PyData.showable (.str x) = true
      simp only [PyData.showable]
    · show PyData.hasDict (.str x) = false
      simp only [PyData.hasDict]
    · show PyData.canLay0 (.str x) = true
      simp only [PyData.canLay0]
      unfold PyData.strOk
      rw [← Array.all_toList, List.all_eq_true]
      intro c hc
      exact decide_eq_true (Nat.lt_trans (h2 c hc) (by decide))
    · show PyData.depth (.str x) ≤ 0
      simp only [PyData.depth]
      exact Nat.le_refl _
    · show (PyData.shown (.str x)).length ≤ 202
      unfold PyData.shown
      have := StrLaws.reprText_len x fun c hc => Nat.lt_trans (h2 c hc) (by decide)
      omega
theorem piled_le {ts : List Str} {n : Nat} (h : ∀ t ∈ ts, t.length ≤ n) : piled ts ≤ ts.length * (n + 2) := by
  induction ts with
  | nil => exact Nat.zero_le _
  | cons t ts ih =>
    rw [piled_cons, List.length_cons, Nat.succ_mul]
    have h1 := h t (by simp)
    have h2 := ih fun t ht => h t (by simp [ht])
    omega
theorem tupleText_le {ts : List Str} {n : Nat} (h : ∀ t ∈ ts, t.length ≤ n) : (tupleText ts).length ≤ ts.length * (n + 2) + 3 := by
  have e : (tupleText ts).length = 1 + (Str.join ", " ts).length + (if ts.length == 1 then 2 else 1) := by
    unfold tupleText
    rw [Str.length_append, Str.length_append]
    cases ts.length == 1 <;> rfl
  have e2 : (Str.join ", " ts).length ≤ piled ts := by
    by_cases hn : ts = []
    · subst hn
      exact Nat.le_refl _
    · have := join_length_add ts hn
      omega
  have := piled_le h
  rw [e]
  split <;> omega
theorem textFrom_le {n : Nat} : ∀ (ts : List Str) (k : Nat) (acc : Str), (∀ t ∈ ts, t.length ≤ n) → (textFrom k acc ts).length ≤ acc.length + ts.length * (n + 2)
  | [], _, acc, _ => by show acc.length ≤ _; simp
  | t :: ts, k, acc, h => by
    have ih := textFrom_le ts (k + 1) (acc ++ (if k > 0 then ", " else "" : String) ++ t) fun t ht => h t (by simp [ht])
    have h1 := h t (by simp)
    have e : (acc ++ (if k > 0 then ", " else "" : String) ++ t : Str).length ≤ acc.length + 2 + t.length := by
      rw [Str.length_append, Str.length_append]
      have : ((if k > 0 then ", " else "" : String) : Str).length ≤ 2 := by split <;> decide +kernel
      omega
    rw [List.length_cons, Nat.succ_mul]
    show (textFrom (k + 1) (acc ++ (if k > 0 then ", " else "" : String) ++ t) ts).length ≤ _
    omega
theorem listText_le {ts : List Str} {n : Nat} (h : ∀ t ∈ ts, t.length ≤ n) : (listText ts).length ≤ ts.length * (n + 2) + 3 := by
  unfold listText
  rw [Str.length_append]
  have := textFrom_le ts 0 "[" h
  have e1 : ("[" : Str).length = 1 := by decide +kernel
  have e2 : ("]" : Str).length = 1 := by decide +kernel
  omega
theorem fine_all {ds : List PyData} {m n : Nat} (h : ∀ d ∈ ds, Fine d m n) : hasD.hasDs ds = false ∧ PyData.showableAll ds = true ∧ PyData.hasDictAll ds = false ∧ PyData.canLayAll0 ds = true ∧ PyData.depthAll ds ≤ m ∧ (∀ t ∈ PyData.shownAll ds, t.length ≤ n) ∧ (PyData.shownAll ds).length = ds.length := by
  induction ds with
  | nil => exact ⟨rfl, by simp only [PyData.showableAll], by simp only [PyData.hasDictAll], by simp only [PyData.canLayAll0], by simp only [PyData.depthAll]; exact Nat.zero_le _, fun t ht => by simp [PyData.shownAll] at ht, by simp [PyData.shownAll]⟩
  | cons d ds ih =>
    obtain ⟨i1, i2, i3, i4, i5, i6, i7⟩ := ih fun d hd => h d (by simp [hd])
    have f := h d (by simp)
    refine ⟨by show (hasD d || hasD.hasDs ds) = false; rw [f.nd, i1]; rfl, by simp only [PyData.showableAll]; rw [f.show_, i2]; rfl, by simp only [PyData.hasDictAll]; rw [f.dict, i3]; rfl, by simp only [PyData.canLayAll0]; rw [f.lay, i4]; rfl, ?_, ?_, ?_⟩
    · simp only [PyData.depthAll]
      exact Nat.max_le.mpr ⟨f.deep, i5⟩
    · intro t ht
      simp only [PyData.shownAll, List.mem_cons] at ht
      rcases ht with rfl | ht
      · exact f.len
      · exact i6 t ht
    · simp only [PyData.shownAll, List.length_cons, i7]
theorem fine_mk {l : Bool} {ds : List PyData} {m n : Nat} (h : ∀ d ∈ ds, Fine d m n) : Fine (mkD l ds) (m + 1) (ds.length * (n + 2) + 3) := by
  obtain ⟨i1, i2, i3, i4, i5, i6, i7⟩ := fine_all h
  cases l with
  | true =>
    refine ⟨i1, ?_, ?_, ?_, ?_, ?_⟩
    · show PyData.showable (.list ds) = true
      simp only [PyData.showable, i2]
    · show PyData.hasDict (.list ds) = false
      simp only [PyData.hasDict, i3]
    · show PyData.canLay0 (.list ds) = true
      simp only [PyData.canLay0, i4]
    · show PyData.depth (.list ds) ≤ m + 1
      simp only [PyData.depth]
      omega
    · show (PyData.shown (.list ds)).length ≤ _
      simp only [PyData.shown]
      rw [← i7]
      exact listText_le i6
  | false =>
    refine ⟨i1, ?_, ?_, ?_, ?_, ?_⟩
    · show PyData.showable (.tuple ds) = true
      simp only [PyData.showable, i2]
    · show PyData.hasDict (.tuple ds) = false
      simp only [PyData.hasDict, i3]
    · show PyData.canLay0 (.tuple ds) = true
      simp only [PyData.canLay0, i4]
    · show PyData.depth (.tuple ds) ≤ m + 1
      simp only [PyData.depth]
      omega
    · show (PyData.shown (.tuple ds)).length ≤ _
      simp only [PyData.shown]
      rw [← i7]
      exact tupleText_le i6
theorem fine_part {l : Bool} {p : Part} (h : p.small) : Fine (partD l p) 1 700 := by
  have f : Fine (mkD l (p.keys.map kD)) 1 ((p.keys.map kD).length * (202 + 2) + 3) := fine_mk fun d hd => by
    obtain ⟨k, hk, rfl⟩ := List.mem_map.mp hd
    exact fine_kD (small_keys h k hk)
  have hl : (p.keys.map kD).length ≤ 3 := by cases p <;> simp [Part.keys]
  exact ⟨f.nd, f.show_, f.dict, f.lay, f.deep, Nat.le_trans f.len (by omega)⟩
theorem fine_sheet {l li : Bool} {ps : List Part} (h : ∀ p ∈ ps, p.small) : Fine (sheetD l li ps) 2 (ps.length * 702 + 3) := by
  have f : Fine (mkD l (ps.map (partD li))) 2 ((ps.map (partD li)).length * (700 + 2) + 3) := fine_mk fun d hd => by
    obtain ⟨p, hp, rfl⟩ := List.mem_map.mp hd
    exact fine_part (h p hp)
  rw [List.length_map] at f
  exact f
end Sh
set_option Elab.async false
set_option linter.all false
set_option maxRecDepth 100000
/-! == and != of data without dicts, whatever the signs of their texts -/
namespace Sh
open PySem PySem.Spec PyProof.Rows L2
open SX (S)
mutual
theorem plain_of : ∀ d : PyData, hasD d = false → d.plain = true
  | .none, _ => rfl
  | .bool _, _ => rfl
  | .int _, _ => rfl
  | .str _, _ => rfl
  | .list xs, h => by
    show PyData.plainAll xs = true
    exact plain_ofs xs h
  | .tuple xs, h => by
    show PyData.plainAll xs = true
    exact plain_ofs xs h
  | .dict _, h => nomatch h
theorem plain_ofs : ∀ xs : List PyData, hasD.hasDs xs = false → PyData.plainAll xs = true
  | [], _ => rfl
  | x :: xs, h => by
    have h' : (hasD x || hasD.hasDs xs) = false := h
    rw [Bool.or_eq_false_iff] at h'
    show (PyData.plain x && PyData.plainAll xs) = true
    rw [plain_of x h'.1, plain_ofs xs h'.2]
    rfl
end
def rEqP (K : PySem.W.Frag) : R2 := fun x y H Q => ∃ d e, Dp K H x d ∧ Dp K H y e ∧ d.plain = true ∧ e.plain = true ∧ min d.depth e.depth ≤ 64 ∧ Q (.bl (PyData.eqv d e)) H
def rNeP (K : PySem.W.Frag) : R2 := fun x y H Q => ∃ d e, Dp K H x d ∧ Dp K H y e ∧ d.plain = true ∧ e.plain = true ∧ min d.depth e.depth ≤ 64 ∧ Q (.bl (!PyData.eqv d e)) H
theorem op_eqP {X : Cx} (hu : X.A.units + 64 < cLine) : OpR X (compareOp .Eq) (rEqP X.K) := by
  intro pins s σ H x y v u Q I rx ry h
  obtain ⟨d, e, hd, he, pd, pe, hm, q⟩ := h
  obtain ⟨as, r1⟩ := Dp.reads I d x v hd rx
  obtain ⟨bs, r2⟩ := Dp.reads I e y u he ry
  exact SeqAt.eq_plain r1 r2 pd pe (by omega) ⟨.bl _, H, I, rfl, q⟩
theorem op_neP {X : Cx} (hu : X.A.units + 64 < cLine) : OpR X (compareOp .NotEq) (rNeP X.K) := by
  intro pins s σ H x y v u Q I rx ry h
  obtain ⟨d, e, hd, he, pd, pe, hm, q⟩ := h
  obtain ⟨as, r1⟩ := Dp.reads I d x v hd rx
  obtain ⟨bs, r2⟩ := Dp.reads I e y u he ry
  exact SeqAt.ne_plain r1 r2 pd pe (by omega) ⟨.bl _, H, I, rfl, q⟩
section
variable {B H : Hp} {M : List (Addr × HO)} {Q : VK} {K : PySem.W.Frag} {x y : V} {d e : PyData}
theorem v_eqP (hs : Hs B M H) (hx : Rp K B x d) (hy : Rp K B y d) (n : hasD d = false) (hd : d.depth ≤ 64) (q : Q (.bl true) H) : rEqP K x y H Q :=
  ⟨d, d, (hs.r hx).dp n, (hs.r hy).dp n, plain_of d n, plain_of d n, by rw [Nat.min_self]; exact hd, by rw [SeqAt.eqv_refl_plain d (plain_of d n)]; exact q⟩
theorem v_neP (hs : Hs B M H) (hx : Rp K B x d) (hy : Rp K B y d) (n : hasD d = false) (hd : d.depth ≤ 64) (q : Q (.bl false) H) : rNeP K x y H Q :=
  ⟨d, d, (hs.r hx).dp n, (hs.r hy).dp n, plain_of d n, plain_of d n, by rw [Nat.min_self]; exact hd, by rw [SeqAt.eqv_refl_plain d (plain_of d n)]; exact q⟩
end
theorem okG0_of {P : Program} {w : World} {K : PySem.W.Frag} {mg : Str → Option Value} {base : Heap} {x qual : Str} {st : Stmt} {f : Addr} {fd : FuncData} {N ps : List Str} {k : Nat} {sp : Sp} (F : Fun K x qual st f fd) (S : FnScope N ps (defScope st)) (len : ∀ vs H Q E, sp vs H Q E → vs.length = ps.length)
    (hbody : ∀ (cdv : Value) (A : Around) (outer : List Env) (s : Shared) (H : Hp) (vs : List V) (Q : VK) (E : XK), A.guards = some [] → Room k (A.deeper (envOfC qual (defScope st) s.heap.objs.size f cdv)) → sp vs H Q E →
      ∃ t, PSs (cxOf CX0 P w K mg base N qual (defScope st) f cdv A outer s H E).nox (defBody st) t ∧ t { nx := fun _ H' => Q .non H', rt := Q } (start N vs) H) : FnG P w K mg base CX0 (k + 1) f fd ps sp :=
  okG_of F S len fun cdv A outer s H vs Q E hgd hr hsp => by
    obtain ⟨t, h, q⟩ := hbody cdv A outer s H vs Q E hgd hr hsp
    exact ⟨t, h.nox, q⟩
theorem two_depth (a b : Str) : (PyData.tuple [.str a, .str b]).depth ≤ 64 := by
  simp only [PyData.depth, PyData.depthAll]
  decide
end Sh
set_option Elab.async false
set_option linter.all false
set_option maxRecDepth 100000
set_option maxHeartbeats 2000000
/-! list(reversed(xs)), list(range(a, b, -1)) -/
namespace RT
open PySem PySem.Spec PyProof.Rows L2
section
variable {prog : Program} {w : World} {A : Around} {E : Value → Shared → Prop} {s : Shared}
theorem rev_extend {R : Result → Shared → Prop} {S it l : Addr} {items : Array Value} (hh : A.handled = none) (hit : s.heap.IsRevIter it l ((items.size : Int) - 1)) (hl : s.heap.IsList l items) (hne : l ≠ it) (hSi : S ≠ it) (hSl : S ≠ l) (hn : items.size ≤ sizeLine) (c₀ : Nat)
    (hS : s.heap.get? S = some { cls := .type "list", data := .seq #[] c₀ })
    (hR : ∀ h' tk acc' c', (∀ b o, b ≠ S → b ≠ it → s.heap.get? b = some o → h'.get? b = some o) → h'.get? S = some { cls := .type "list", dict := none, data := .seq acc' c', slots := #[] } → ItemsOf (fun i v => items[items.size - 1 - i]? = some v) acc' items.size → R (.ok (.ret .none)) { s with heap := h', toks := tk }) :
    wpAny (model prog w) A.in1 (Builtin.List.listExtendWith (.ref S) (.ref it) .none)
      (fun fin s' => match fin with | .done f => R (.ok f) s' | .again c' => c'.quiet = true ∧ codeAny (model prog w) A c' R s') (fun e s' => R (.error e) s') s := by
  have hSf : S ∉ [it, l] := by simp only [List.mem_cons, List.not_mem_nil, or_false, not_or]; exact ⟨hSi, hSl⟩
  have W := (Walks.listRev (prog := prog) (w := w) (A := A.in1) hh it l hne items).toS
  have hT : s.TypeIs (.ref it) "list_reverseiterator" := hit.typeIs
  have h1 : Builtin.List.listSameRef (.ref S) (.ref it) = false := by simp [Builtin.List.listSameRef, hSi]
  unfold Builtin.List.listExtendWith
  refine wpAny_bind (wpAny_typeOf hT ?_)
  rw [if_neg (by rw [h1]; decide)]
  refine wpAny_bind (wpAny_pyIter_revIter hit ?_)
  refine wpAny_bind (wpAny_holding ?_)
  unfold Builtin.List.listLengthHint
  refine wpAny_bind (wpAny_specialOf hT nolen_lri ?_)
  show wpAny _ A.in1 (specialOf (Value.ref it) (Str.ofString "__length_hint__") >>= _) _ _ _
  refine wpAny_bind (wpAny_specialOf hT hint_lri ?_)
  generalize hid : ("list_reverseiterator.__length_hint__" : String) = id0
  wp_delta
  rw [show splitId id0 = some ("list_reverseiterator", "__length_hint__") from by subst hid; decide +kernel]
  subst hid
  refine wpAny_bind (wpAny_isInstance (b := true) hT (by rw [isSubtype_type]; kernel_rfl) ?_)
  refine wpAny_pure ?_
  rw [if_neg (by decide)]
  have e0 : ((items.size : Nat) : Int) - 1 - ((0 : Nat) : Int) = (items.size : Int) - 1 := by omega
  refine wpAny_pure ⟨plainId_quiet F.plain_extend_loop _, codeAny_extend_loopS W hn _ hSf _ items.size 0 _ #[] c₀ rfl (Nat.zero_le _) ⟨Nat.zero_le _, by rw [e0]; exact hit, hl⟩ hS (ItemsOf.nil _) fun s' acc' c' hm hS' hacc => ?_⟩
  rw [Moved.eq_with hm]
  refine hR s'.heap s'.toks acc' c' (fun b o hb hi e => hm.heap b o (fun hmem => ?_) e) hS' hacc
  rcases List.mem_cons.mp hmem with e' | hmem
  · exact hb e'
  · exact hi (List.mem_singleton.mp hmem)
theorem rev_init {R : Result → Shared → Prop} {S it l : Addr} {items : Array Value} (hh : A.handled = none) (hit : s.heap.IsRevIter it l ((items.size : Int) - 1)) (hl : s.heap.IsList l items) (hne : l ≠ it) (hSi : S ≠ it) (hSl : S ≠ l) (hn : items.size ≤ sizeLine)
    (hS : s.heap.get? S = some { cls := .type "list", data := .seq #[] })
    (hR : ∀ h' tk acc' c', (∀ b o, b ≠ S → b ≠ it → s.heap.get? b = some o → h'.get? b = some o) → h'.get? S = some { cls := .type "list", dict := none, data := .seq acc' c', slots := #[] } → ItemsOf (fun i v => items[items.size - 1 - i]? = some v) acc' items.size → R (.ok (.ret .none)) { s with heap := h', toks := tk }) :
    wpAny (model prog w) A.in1 (Builtin.«list.__init__» ⟨[.ref S, .ref it], []⟩)
      (fun fin s' => match fin with | .done f => R (.ok f) s' | .again c' => c'.quiet = true ∧ codeAny (model prog w) A c' R s') (fun e s' => R (.error e) s') s := by
  show wpAny _ _ (do let old ← Builtin.List.listItems (.ref S); Builtin.List.listUpdate (.ref S) (fun _ => #[]); letGo old.toList.reverse; Builtin.List.listExtendWith (.ref S) (.ref it) .none) _ _ s
  refine wpAny_bind ?_
  unfold Builtin.List.listItems
  refine wpAny_bind (wpAny_seqItems hS rfl (wpAny_pure ?_))
  show wpAny _ _ (updateSeq S (fun _ => #[]) >>= fun _ => letGo (#[] : Array Value).toList.reverse >>= fun _ => Builtin.List.listExtendWith (.ref S) (.ref it) .none) _ _ s
  refine wpAny_bind (wpAny_updateSeq hS rfl ?_)
  have hS₂ := Heap.get?_update_self (Obj.mapSeq (fun _ => (#[] : Array Value))) hS rfl
  have oth : ∀ b o, b ≠ S → s.heap.get? b = some o → (s.heap.update S (Obj.mapSeq (fun _ => (#[] : Array Value)))).get? b = some o :=
    fun b o hb e => (Heap.get?_update_other _ _ (Ne.symm hb)).trans e
  refine wpAny_bind (wpAny_letGo ?_)
  refine rev_extend hh (hit.at fun o e => oth it o hSi.symm e) (hl.at fun o e => oth l o hSl.symm e) hne hSi hSl hn _ hS₂ fun h' tk acc' c' hk hS' hacc => ?_
  exact hR h' tk acc' c' (fun b o hb hi e => hk b o hb hi (oth b o hb e)) hS' hacc
theorem call_list_rev {it l : Addr} {items : Array Value} {Q : Value → Shared → Prop} (hh : A.handled = none) (hit : s.heap.IsRevIter it l ((items.size : Int) - 1)) (hl : s.heap.IsList l items) (hne : l ≠ it) (hn : items.size ≤ sizeLine)
    (hQ : ∀ h' tk acc' c', (∀ b o, b ≠ it → s.heap.get? b = some o → h'.get? b = some o) → h'.get? s.heap.objs.size = some { cls := .type "list", dict := none, data := .seq acc' c', slots := #[] } → ItemsOf (fun i v => items[items.size - 1 - i]? = some v) acc' items.size → Q (.ref s.heap.objs.size) { s with heap := h', toks := tk }) :
    wpAny (model prog w) A (call (.type "list") [.ref it]) Q E s := by
  refine callType_codes (Q₁ := fun obj s₁ => obj = .ref s.heap.objs.size ∧ s₁ = { s with heap := s.heap.push { cls := .type "list", data := .seq #[] } }) F.called_list (F.typeCall_list_1 _) F.entry_list_init
    (code_list_new _ ⟨rfl, rfl⟩) fun obj s₁ h₁ => ?_
  obtain ⟨rfl, rfl⟩ := h₁
  have hS : (s.heap.push { cls := .type "list", data := .seq #[] }).get? s.heap.objs.size = some { cls := .type "list", data := .seq #[] } := Heap.get?_push_size _ rfl
  have l1 : it < s.heap.objs.size := by obtain ⟨o, e, _⟩ := id hit; exact Heap.lt_size e
  have l2 : l < s.heap.objs.size := by obtain ⟨o, e, _⟩ := id hl; exact Heap.lt_size e
  refine ⟨⟨_, hS, rfl⟩, F.args_list_init_2 _ _, rev_init (A := A.in1) hh (hit.at fun o e => Heap.get?_push_of_some _ e) (hl.push _) hne (Nat.ne_of_gt l1) (Nat.ne_of_gt l2) hn hS fun h' tk acc' c' hk hS' hacc => ?_⟩
  exact ⟨rfl, hQ h' tk acc' c' (fun b o hi e => hk b o (Nat.ne_of_lt (Heap.lt_size e)) hi (Heap.get?_push_of_some _ e)) hS' hacc⟩
end
/-- list(reversed(x)), x a list: a new list -/
def tLstRev (K : PySem.W.Frag) (te : TE) : TE := fun σ H Q => te σ H fun v H1 => ∃ (a : Addr) (xs : List V), v = .ref a ∧ SqL K H1 a xs ∧ ∀ q, H1 q = none → Q (.ref q) (upd H1 q (.lst xs.reverse))
section
variable {X : Cx}
theorem pe_lstRev {e : Expr} {te : TE} {p p2 pos pos2 : Pos} (hc : X.calm = true) (hg : Gl X "list") (hm : X.mg "list" = none) (hg2 : Gl X "reversed") (hm2 : X.mg "reversed" = none) (he : PE X e te)
    (hs : starEach [e] X.env = (false, eval e X.env) :: starEach [] X.env := by rfl)
    (hs2 : starEach [.Call (.Name "reversed" p2) [e] [] pos2] X.env = (false, eval (.Call (.Name "reversed" p2) [e] [] pos2) X.env) :: starEach [] X.env := by rfl) :
    PE X (.Call (.Name "list" p) [.Call (.Name "reversed" p2) [e] [] pos2] [] pos) (tLstRev X.K te) := by
  refine ⟨fun pins s σ H Q I h => ?_⟩
  refine Call_ (ld_blt I hg hm boot_list (PyProof.Rows.callWith_type1 (args_cons (Call_ (ld_blt I hg2 hm2 PyProof.Rows.boot_reversed (PyProof.Rows.callWith_type1 (args_cons (thn (he.run pins s σ H _ I h) fun u s1 ⟨v, H1, I1, r1, q1⟩ => args_nil ?_) hs) hs rfl))) hs2) hs2 rfl))
  obtain ⟨a, xs, ev, hq, q⟩ := q1
  subst ev
  obtain rfl : u = Value.ref a := r1
  obtain ⟨its, rv, p', hz⟩ := I1.list hq
  refine call_reversed_list p'.isList (args_nil ?_)
  have k0 : ∀ b o, s1.heap.get? b = some o → (s1.heap.push (revObj a ((its.toArray.size : Int) - 1))).get? b = some o := fun b o e => Heap.get?_push_of_some _ e
  have I2 : Inv X pins σ H1 { s1 with heap := s1.heap.push (revObj a ((its.toArray.size : Int) - 1)) } := I1.kept (t' := s1.toks) k0
  obtain ⟨f0, f1, f2, f3, f4, f5⟩ := I1.fpOk (H' := H1) (b := s1.heap.objs.size) (Nat.le_refl _) (I1.hok.fresh (Nat.le_refl _))
  have hl := p'.isList
  obtain ⟨ol, hol, _⟩ := id hl
  have hne : a ≠ s1.heap.objs.size := Nat.ne_of_lt (Heap.lt_size hol)
  have hn : its.toArray.size ≤ sizeLine := by rw [List.size_toArray, ← rv.length]; exact hz
  have hsz : (s1.heap.push (revObj a ((its.toArray.size : Int) - 1))).objs.size = s1.heap.objs.size + 1 := Heap.size_push ..
  refine call_list_rev (s := { s1 with heap := s1.heap.push (revObj a ((its.toArray.size : Int) - 1)) }) (I1.ok.hd hc) ⟨_, Heap.get?_push_size _ rfl, rfl, rfl⟩ (hl.push _) hne hn fun h' tk acc c' hk hS' hi => ?_
  have fr : H1 (s1.heap.push (revObj a ((its.toArray.size : Int) - 1))).objs.size = none := I2.hok.fresh (Nat.le_refl _)
  have I3 : Inv X pins σ (upd H1 (s1.heap.push (revObj a ((its.toArray.size : Int) - 1))).objs.size (.lst xs.reverse)) { s1 with heap := h', toks := tk } := I2.turnedNew (t' := tk) (ch := [s1.heap.objs.size]) (fun b o hb e => hk b o (fun z => hb (by rw [z]; exact List.mem_singleton.mpr rfl)) e)
    (fun b hb => by obtain rfl := List.mem_singleton.mp hb; exact ⟨f0, f1, f2, f3, f4, f5⟩) (Nat.le_refl _) ⟨by rw [List.length_reverse]; exact hz, acc.toList, c', vals_rev rv hi, by rw [Array.toArray_toList]; exact hS'⟩
  exact ⟨.ref (s1.heap.push (revObj a ((its.toArray.size : Int) - 1))).objs.size, upd H1 (s1.heap.push (revObj a ((its.toArray.size : Int) - 1))).objs.size (.lst xs.reverse), I3, rfl, q _ fr⟩
/-- list(range(a, b, c)) -/
def tLstRg3 (ta : TA) : TE := fun σ H Q => ta σ H fun vs H1 => ∃ (i j c : Int) (n : Nat), vs = [.int i, .int j, .int c] ∧ RgC i j c n ∧ n ≤ 2 ^ 24 ∧ ∀ q, H1 q = none → Q (.ref q) (upd H1 q (.lst ((List.range n).map fun k : Nat => V.int (i + (k : Int) * c))))
theorem vals_rg3 {a c : Int} {n : Nat} {acc : Array Value} (h : ItemsOf (fun i v => ∃ t, v = .int (a + i * c) t) acc n) : Vals ((List.range n).map fun k : Nat => V.int (a + (k : Int) * c)) acc.toList := by
  have e : acc.toList.length = n := by rw [Array.length_toList]; exact h.1
  rw [← e]
  refine vals_of_get acc.toList _ fun j u hj => ?_
  obtain ⟨t, rfl⟩ := h.2 j u (by rw [← hj, Array.getElem?_toList])
  exact ⟨t, rfl⟩
theorem pe_lstRg3 {a b c : Expr} {ta : TA} {p p2 pos pos2 : Pos} (hcm : X.calm = true) (hg : Gl X "list") (hm : X.mg "list" = none) (hg2 : Gl X "range") (hm2 : X.mg "range" = none) (ha : PA X [a, b, c] ta)
    (hs : starEach [a, b, c] X.env = (false, eval a X.env) :: starEach [b, c] X.env := by rfl) (hpl : (backTo pos2 (starEach [b, c] X.env)).any (·.1) = false := by rfl)
    (hs2 : starEach [.Call (.Name "range" p2) [a, b, c] [] pos2] X.env = (false, eval (.Call (.Name "range" p2) [a, b, c] [] pos2) X.env) :: starEach [] X.env := by rfl) :
    PE X (.Call (.Name "list" p) [.Call (.Name "range" p2) [a, b, c] [] pos2] [] pos) (tLstRg3 ta) := by
  refine ⟨fun pins s σ H Q I h => ?_⟩
  refine Call_ (ld_blt I hg hm boot_list (PyProof.Rows.callWith_type1 (args_cons (Call_ (ld_blt I hg2 hm2 boot_range (PyProof.Rows.callWith_type1 (thn (ha.run pos2 pins s σ H _ I h) fun us s1 ⟨vs, H1, I1, r1, q1⟩ => ?_) hs hpl))) hs2) hs2 rfl))
  obtain ⟨i, j, k, n, e, ⟨c0, c1, c2, c3⟩, hn, q⟩ := q1
  subst e
  cases r1 with
  | cons r rr =>
    cases rr with
    | cons r' rr =>
      cases rr with
      | cons r'' rr =>
        cases rr
        obtain ⟨t, rfl⟩ := r
        obtain ⟨t', rfl⟩ := r'
        obtain ⟨t'', rfl⟩ := r''
        refine call_range_3 c0 (args_nil ?_) (.inl (PyProof.noPylong_small c1))
        have I2 : Inv X pins σ H1 { s1 with heap := s1.heap.push { cls := .type "range", data := .fields #[.int i t, .int j t', .int k t''] } } := I1.kept (t' := s1.toks) fun b o e => Heap.get?_push_of_some _ e
        refine call_list_range (s := { s1 with heap := s1.heap.push { cls := .type "range", data := .fields #[.int i t, .int j t', .int k t''] } }) (n := n) (I2.ok.hd hcm) (IsRange.new ..) c2 c3 hn fun h' tk acc c' hk e' hi => ?_
        refine ⟨.ref _, upd H1 _ (.lst ((List.range n).map fun k' : Nat => V.int (i + (k' : Int) * k))), I2.laid hk (Nat.le_refl _) (show ObjOk X.prog X.w _ _ _ (.lst _) from ⟨?_, acc.toList, c', vals_rg3 hi, ?_⟩), rfl, q _ (I2.hok.fresh (Nat.le_refl _))⟩
        · rw [List.length_map, List.length_range, sizeLine_eq]; omega
        · rw [Array.toArray_toList]; exact e'
end
end RT
set_option Elab.async false
set_option linter.all false
set_option maxRecDepth 100000
set_option maxHeartbeats 2000000
/-! instances of own classes: made, read, stored, their methods called, also where they may raise -/
namespace Sh
open PySem PySem.Spec PyProof.Rows L2
/-- nothing leaves -/
theorem passZ {X : Cx} : Passes (L2.CX X.prog X.w) X E0 := fun _ _ _ _ _ _ _ h => by
  obtain ⟨_, _, _, _, _, _, _, _, _, _, _, _, e⟩ := h
  exact e.elim
theorem passNZ {X : Cx} : Passes (L2N.CX X.prog X.w) X E0 := fun _ _ _ _ _ _ _ h => by
  obtain ⟨_, _, _, _, _, _, _, _, _, _, _, _, e⟩ := h
  exact e.elim
section
variable {X : Cx} {CX : CXT} {k : Nat} {f C : Addr} {fd : FuncData} {ps : List Str} {sp : Sp} {E : L2.St → XK} {x m : Str} {p pos apos : Pos} {e o : Expr} {es : List Expr} {ta : TE} {t : TA}
def tMethT (C : Addr) (m : Str) (sp : Sp) (E : L2.St → XK) (ta : TE) (t : TA) : TE := fun σ H Q => ta σ H fun x H1 => ∃ a dx fs, x = .ref a ∧ H1 a = some (.ins C dx fs) ∧ fs.lookup m = none ∧ t σ H1 fun vs H2 => sp (x :: vs) H2 Q (E σ)
theorem pe_methT {pl : Sem Bool} (he : PE X o ta) (c : Cls X.K C) (hm : Meth X.K C m f) (F : FnOk X.prog X.w X.K X.mg X.base CX k f fd ps sp) (hr : Room k X.A) (hb : Binds X.K fd ps []) (hx : ∀ σ, PassesAt CX X σ (E σ)) (ha : PA X (e :: es) t)
    (hst : starEach (e :: es) X.env = (false, eval e X.env) :: starEach es X.env := by rfl) (hpl : (backTo pos (starEach es X.env)).any (·.1) = false := by rfl)
    (ht : eval (.Call (.Attribute o m apos) (e :: es) [] pos) X.env = (do
      let ov ← eval o X.env
      standAt apos.atName
      let (f, first) ← holding [ov] (getMethod ov m pl)
      callWith pos f first (backTo pos (starEach (e :: es) X.env)) (backToKw pos (keywordEach [] X.env))) := by rfl) :
    PE X (.Call (.Attribute o m apos) (e :: es) [] pos) (tMethT C m sp E ta t) := by
  refine ⟨fun pins s σ H Q I h => ?_⟩
  refine PySem.W.methodCall_KW (pl := pl) (thn (he.run pins s σ H _ I h) fun u s1 ⟨x, H1, I1, rx, a, dx, fs, ex, ea, l, q⟩ => ?_) ht
  subst ex
  obtain rfl : u = Value.ref a := rx
  refine getmeth_ok I1 ea c hm l ?_
  refine PySem.W.callWith_K (first := [.ref a]) (h₀ := X.base) I.ok.mod.kin hm.kp (thn (ha.run pos pins s1 σ H1 _ I1 q) fun us s2 ⟨vs, H2, I2, r, q2⟩ => ⟨I2.kIn, ?_⟩) hst hpl
  exact run_fnS (us := .ref a :: us) (vs := .ref a :: vs) F hr hb (hx σ) I2 (.cons rfl r) q2
theorem run_makeT {pins : List (Addr × Obj)} {σ : L2.St} {H : Hp} {s : Shared} {Q : VK} {us : List Value} {vs : List V} (M : Mk X.K C f) (F : FnOk X.prog X.w X.K X.mg X.base CX k f fd ps sp) (hr : Room (k + 1) X.A) (hb : Binds X.K fd ps [])
    (hx : PassesAt CX X σ (E σ)) (I : Inv X pins σ H s) (r : Vals vs us)
    (h : ∀ x dx, H x = none → H dx = none → dx ≠ x → sp (.ref x :: vs) (upd (upd H dx (.own x)) x (.ins C dx [])) (fun v H2 => v = .non ∧ Q (.ref x) H2) (E σ)) :
    wpAny (model X.prog X.w) X.A (call (.ref C) us) (EP X pins σ Q) X.xe s := by
  have hq := h (s.heap.objs.size + 1) s.heap.objs.size (I.hok.fresh (Nat.le_succ _)) (I.hok.fresh (Nat.le_refl _)) (Nat.ne_of_lt (Nat.lt_succ_self _))
  have I2 := Inv.made (C := C) I
  have r2 : Vals (V.ref (s.heap.objs.size + 1) :: vs) (Value.ref (s.heap.objs.size + 1) :: us) := .cons rfl r
  have hl : (Value.ref (s.heap.objs.size + 1) :: us).length = ps.length := by
    have e := r2.length
    rw [F.len _ _ _ _ hq] at e
    exact e.symm
  have b := hb _ (Value.ref (s.heap.objs.size + 1) :: us) I2.kIn (by rw [List.append_nil]; exact hl)
  rw [List.append_nil] at b
  refine wpAny_call (make_map (f := f) I.kIn M.makes M.init (beq_iff_eq.mp M.fn) (codeAny_mono (F.run _ X.stack _ _ ⟨Value.ref (s.heap.objs.size + 1) :: us, []⟩ (Value.ref (s.heap.objs.size + 1) :: us) _ _ (E σ) (hr.make C us [])
    (I2.env0.make C us []) b r2 hq) fun r s' hq' => ?_))
  cases r with
  | error e => exact hx pins _ _ e s' I2 hq'
  | ok fl =>
    cases fl with
    | ret u =>
      obtain ⟨v, H', I3, rv, ev, q3⟩ := I2.after hq'
      subst ev
      exact ⟨rv, ⟨V.ref (s.heap.objs.size + 1), H', I3, rfl, q3⟩⟩
    | next => exact False.elim hq'
    | brk => exact False.elim hq'
    | cont => exact False.elim hq'
def tMakeT (C : Addr) (sp : Sp) (E : L2.St → XK) (t : TA) : TE := fun σ H Q => t σ H fun vs H1 => ∀ x dx, H1 x = none → H1 dx = none → dx ≠ x →
  sp (.ref x :: vs) (upd (upd H1 dx (.own x)) x (.ins C dx [])) (fun v H2 => v = .non ∧ Q (.ref x) H2) (E σ)
theorem pe_makeT (M : Mk X.K C f) (F : FnOk X.prog X.w X.K X.mg X.base CX k f fd ps sp) (hr : Room (k + 1) X.A) (hg : Gl X x) (hm : X.mg x = some (.ref C)) (hb : Binds X.K fd ps []) (hx : ∀ σ, PassesAt CX X σ (E σ))
    (ha : PA X (e :: es) t) (hdb : (x == ("__debug__" : Str)) = false := by decide) (he : starEach (e :: es) X.env = (false, eval e X.env) :: starEach es X.env := by rfl) (hpl : (backTo pos (starEach es X.env)).any (·.1) = false := by rfl) :
    PE X (.Call (.Name x p) (e :: es) [] pos) (tMakeT C sp E t) := by
  refine ⟨fun pins s σ H Q I h => ?_⟩
  refine wpAny_Call_Name_kw (ld_glob I hg hm ?_ hdb)
  refine PySem.W.callWith_K (h₀ := X.base) I.ok.mod.kin M.kp (thn (ha.run pos pins s σ H _ I h) fun us s1 ⟨vs, H1, I1, r, q⟩ => ⟨I1.kIn, ?_⟩) he hpl
  exact run_makeT M F hr hb (hx σ) I1 r q
end
/-! ### reading -/
def Fld (K : PySem.W.Frag) (f : Str) (x : V) (H : Hp) (Q : VK) : Prop := ∃ a C dx fs v, x = .ref a ∧ H a = some (.ins C dx fs) ∧ Cls K C ∧ NoAttr K C f ∧ fs.lookup f = some v ∧ Q v H
def SFl (K : PySem.W.Frag) (f : Str) (y x : V) (H : Hp) (q : Hp → Prop) : Prop := ∃ a C dx fs, x = .ref a ∧ H a = some (.ins C dx fs) ∧ Cls K C ∧ NoAttr K C f ∧ fs.length < 1000 ∧ q (upd H a (.ins C dx (putF f y fs)))
def Mth (C : Addr) (m : Str) (x : V) (H : Hp) (q : Hp → Prop) : Prop := ∃ a dx fs, x = .ref a ∧ H a = some (.ins C dx fs) ∧ fs.lookup m = none ∧ q H
section
variable {K : PySem.W.Frag} {B H : Hp} {M : List (Addr × HO)} {D : Ends} {σ : L2.St} {Q : VK} {ta tv : TE} {t : TA} {f m : Str} {C a dx : Addr} {fs : List (Str × V)} {v : V} {sp : Sp} {E : XK} {ES : L2.St → XK} {dvs : List V}
theorem v_fld (h : ta σ H fun x H1 => Fld K f x H1 Q) : tFld K ta f σ H Q := h
theorem v_fldI (e : H a = some (.ins C dx fs)) (c : Cls K C) (n : NoAttr K C f) (l : fs.lookup f = some v) (q : Q v H) : Fld K f (.ref a) H Q := ⟨a, C, dx, fs, v, rfl, e, c, n, l, q⟩
theorem v_sfld (h : tv σ H fun y H1 => ta σ H1 fun x H2 => SFl K f y x H2 (D.nx σ)) : sFld K ta tv f D σ H := h
theorem v_sfldI {q : Hp → Prop} (hs : Hs B M H) (i : Nat) (e : M[i]? = some (a, .ins C dx fs)) (c : Cls K C) (n : NoAttr K C f) (l : fs.length ≤ 900) (h : ∀ H', Hs B (M.set i (a, .ins C dx (putF f v fs))) H' → q H') : SFl K f v (.ref a) H q :=
  ⟨a, C, dx, fs, rfl, hs.atI i e, c, n, by omega, h _ (hs.wrI i e)⟩
theorem v_meth (h : ta σ H fun x H1 => Mth C m x H1 fun H1 => t σ H1 fun vs H2 => sp (x :: (vs ++ dvs)) H2 Q E) : tMeth C m sp dvs E ta t σ H Q :=
  show ta σ H _ from h
theorem v_methT (h : ta σ H fun x H1 => Mth C m x H1 fun H1 => t σ H1 fun vs H2 => sp (x :: vs) H2 Q (ES σ)) : tMethT C m sp ES ta t σ H Q := show ta σ H _ from h
theorem v_mthI {q : Hp → Prop} (e : H a = some (.ins C dx fs)) (l : fs.lookup m = none) (h : q H) : Mth C m (.ref a) H q := ⟨a, dx, fs, rfl, e, l, h⟩
def Mak (C : Addr) (sp : Sp) (vs : List V) (E : XK) (H : Hp) (Q : VK) : Prop := ∀ x dx, H x = none → H dx = none → dx ≠ x → sp (.ref x :: vs) (upd (upd H dx (.own x)) x (.ins C dx [])) (fun v H2 => v = .non ∧ Q (.ref x) H2) E
theorem v_make (h : t σ H fun vs H1 => Mak C sp (vs ++ dvs) E H1 Q) : tMake C sp dvs E t σ H Q := h
theorem v_makeT (h : t σ H fun vs H1 => Mak C sp vs (ES σ) H1 Q) : tMakeT C sp ES t σ H Q := h
theorem v_mak {vs : List V} (hs : Hs B M H) (h : ∀ (x dx : Addr) (H' : Hp), Hs B ((x, .ins C dx []) :: (dx, .own x) :: M) H' → sp (.ref x :: vs) H' (fun v H2 => v = .non ∧ Q (.ref x) H2) E) : Mak C sp vs E H Q := fun x dx hx hdx ne => by
  have h1 := hs.new hdx (.own x)
  exact h x dx _ (h1.new (by rw [upd_ne ne.symm]; exact hx) _)
end
/-! ### several except clauses -/
def tTryMany (K : PySem.W.Frag) (tb : WX → TS) (l : List Cl) (Wout : WX) : TS := fun D σ H => tb (wManyA K Wout D l) D σ H
/-! ### isinstance of a caught own error, a built-in class -/
theorem kitT {K : PySem.W.Frag} {C : Addr} {T : String} {b : Bool} (h1 : PySem.W.kitMeta T = true) (h2 : PySem.W.subIn K (.ref C) (.type T) = some b) : PySem.W.kitOne K (.ref C) (.type T) = some b := by
  show (if (Value.ref C == Value.type T) = true then some true else if PySem.W.kitMeta T = true then PySem.W.subIn K (.ref C) (.type T) else none) = some b
  rw [show (Value.ref C == Value.type T) = false from beq_false_of_ne (fun z => nomatch z), if_neg (by decide), if_pos h1]
  exact h2
theorem v_isDT {K : PySem.W.Frag} {a : Addr} {cls : Value} {d : Option Addr} {H : Hp} {Q : VK} {D dd : Addr} {fs : List (Str × V)} {T : String} {b : Bool} (ec : cls = .ref D) (ed : d = some dd) (C0 : ExcC K D) (hd : H dd = some (.xd fs)) (k : PySem.W.kitOne K (.ref D) (.type T) = some b) (q : Q (.bl b) H) : rIsD K a cls d [.ref a, .ty T] H Q :=
  ⟨.ty T, .type T, D, dd, fs, b, rfl, fun _ r => r, ec, ed, C0, hd, k, q⟩
/-! ### sorted pairs -/
section
variable {K : PySem.W.Frag} {B H : Hp} {M : List (Addr × HO)} {Q : VK} {σ : L2.St} {te : TE}
/-- a list of pairs of ints, in order -/
theorem v_sortP {p : Addr} {xs : List V} (k : V → Int × Int) (hs : Hs B M H) (hx : SqL K H p xs) (hk : ∀ x ∈ xs, ∃ t, x = V.ref t ∧ B t = some (.tup [.int (k x).1, .int (k x).2]))
    (q : ∀ (ys : List V) (p' : Addr) (B' H' : Hp), SrtO.Srtd (ltP k) ys → SrtO.Stb (ltP k) ys xs → Le B B' → Hs B' M H' → B' p' = some (.lst ys) → Q (.ref p') H') : rSortedPO K [.ref p] H Q :=
  ⟨p, xs, k, rfl, hx, fun x m => let ⟨t, e, ht⟩ := hk x m; ⟨t, e, hs.sub _ _ ht⟩, fun ys p' h1 h2 hp => by
    obtain ⟨g1, g2⟩ := hs.newB hp (.lst ys)
    exact q ys p' _ _ h1 h2 g2 g1 upd_same⟩
/-! ### list(range(..)), list(reversed(..)) -/
theorem v_lstRev {q : V → Hp → VK → Prop} (h : te σ H fun v H1 => ∃ (a : Addr) (xs : List V), v = .ref a ∧ SqL K H1 a xs ∧ Nw H1 (.lst xs.reverse) Q) : RT.tLstRev K te σ H Q := h
end
end Sh
set_option Elab.async false
set_option linter.all false
set_option maxRecDepth 100000
set_option maxHeartbeats 2000000
/-! enumerate over a text; two fors in a comprehension; d.get of a dict with tuple keys -/
namespace Sh
open PySem PySem.Spec PyProof.Rows L2
def iEnumS (ta : TA) : L2.TI := fun σ H R => ta σ H fun vs H1 => ∃ (z : Str), vs = [.str z] ∧ R (ItP (fun _ => True) z.cps.size enumXs (zipXs z)) H1
theorem turn_enumS {P : Program} {w : World} {K : PySem.W.Frag} {elts : List Expr} {kk : Nat} {tpos : Pos} {e it : Addr} {x : Str} {t : Tok} (h1 : e ≠ it) :
    Turn P w K (.Tuple elts kk tpos) (ItP (fun _ => True) x.cps.size enumXs (zipXs x)) [e, it] e (fun i h => (∃ old, IsEnum h e it (0 + ((i : Nat) : Int)) old) ∧ h.IsStrIter it (strIterType x) x t i) := by
  refine turn_of (by simp) (fun i h st b hb => ?_) (fun i h h' st k => ?_) (fun A i s Q E st q => ?_) fun X hP hw hK hc i pins s σ H I hf st hG hi => ?_
  · obtain ⟨⟨old, g1⟩, g4⟩ := st
    unfold Heap.IsStrIter at g4
    obtain ⟨o4, g4, _, g7⟩ := g4
    rcases List.mem_cons.mp hb with rfl | hb
    · exact ⟨_, g1, fun v q => nomatch q⟩
    · rw [List.mem_singleton.mp hb]
      exact ⟨o4, g4, fun v q => by rw [g7] at q; cases q⟩
  · obtain ⟨⟨old, g1⟩, g4⟩ := st
    unfold Heap.IsStrIter at g4 ⊢
    obtain ⟨o4, g4, g7⟩ := g4
    exact ⟨⟨old, k e (by simp) _ g1⟩, o4, k it (by simp) _ g4, g7⟩
  · obtain ⟨⟨old, g1⟩, _⟩ := st
    exact wpAny_pyIter_enum g1 q
  · subst hP hw hK
    have D := Draws.text (prog := X.prog) (w := X.w) (A := X.A.in1) (show X.A.in1.handled = none from I.ok.hd hc) it x t
    refine ⟨_, _, _, _, _, WalksT.enumFrom 0 D e h1 (by simp [h1]) (by simp), ⟨st.1, st.2⟩, fun b hb => hb, fun vals hi hp => ?_, fun h' hs => ⟨hs.1, hs.2⟩⟩
    obtain ⟨t2, u, ⟨c, tc, hc1, rfl⟩, rfl⟩ := hp
    exact ⟨.int (i : Int), .str ⟨#[c]⟩, _, _, rfl, ⟨t2, by rw [show (0 : Int) + (i : Int) = (i : Int) by omega]⟩, ⟨tc, rfl⟩, rfl, by show x.cps[i]?.map _ = _; rw [hc1]; rfl⟩
theorem pi_enumS {X : Cx} {e : Expr} {ta : TA} {p pos tpos : Pos} {elts : List Expr} {kk : Nat} (hg : Gl X "enumerate") (hm : X.mg "enumerate" = none) (ha : PA X [e] ta) (hs : starEach [e] X.env = [(false, eval e X.env)] := by rfl) :
    PI X (.Tuple elts kk tpos) (.Call (.Name "enumerate" p) [e] [] pos) (iEnumS ta) := by
  refine ⟨fun pins s σ H R I h => Call_ (ld_blt I hg hm boot_enumerate (PyProof.Rows.callWith_type1 (thn (ha.run pos pins s σ H _ I h) fun us s1 ⟨vs, H1, I1, r1, q1⟩ => ?_) hs rfl))⟩
  obtain ⟨z, rfl, q⟩ := q1
  cases r1 with
  | cons r rr =>
    cases rr
    obtain ⟨t, rfl⟩ := r
    have fresh : ∀ b ∈ [s1.heap.objs.size + 1, s1.heap.objs.size], FpOk X pins H1 b := fun b hb => by
      have hle : s1.heap.objs.size ≤ b := by
        rcases List.mem_cons.mp hb with rfl | hb
        · exact Nat.le_succ _
        · rw [List.mem_singleton.mp hb]
          exact Nat.le_refl _
      exact I1.fpOk hle (I1.hok.fresh hle)
    refine enum_call (begins_text z t) trivial fun h' he ho hk => wpAny_pyIter_enum he ⟨_, _, _, _, H1, rfl, I1.kept (t' := s1.toks) hk, turn_enumS (t := t) (Nat.succ_ne_self _), ⟨⟨.none, ?_⟩, ?_⟩, fresh, q⟩
    · exact he
    · unfold Heap.IsStrIter
      exact ⟨_, ho, rfl, rfl⟩
def AtE (vs : List V) (H : Hp) (R : It → Hp → Prop) : Prop := ∃ z : Str, vs = [.str z] ∧ R (ItP (fun _ => True) z.cps.size enumXs (zipXs z)) H
theorem v_enumS {σ : L2.St} {H : Hp} {a : TA} {R : It → Hp → Prop} (h : a σ H fun vs H1 => AtE vs H1 R) : iEnumS a σ H R := h
end Sh
set_option Elab.async false
set_option linter.all false
set_option maxRecDepth 100000
set_option maxHeartbeats 2000000
namespace Sh
open PySem PySem.Spec PyProof.Rows L2
/-! ### two fors -/
section
variable {B H : Hp} {M : List (Addr × HO)} {Q : VK} {σ : L2.St} {g g1 : TG} {tt tt1 : TT} {te : TE} {wi wi1 : L2.TI} {vs vs1 : List Nat} {J J1 : It} {n : Nat} {G : Hp → Prop} {Y : Nat → Hp → V → Hp → Prop} {p : Addr}
def IQ (B : Hp) (I : Nat → List V → Hp → List (Addr × HO) → Prop) (p : Addr) (i : Nat) (H : Hp) : Prop := ∃ acc B' M', Le B B' ∧ Hs B' ((p, .lst acc) :: M') H ∧ I i acc B' M'
theorem IQ.mk {B' : Hp} {M' : List (Addr × HO)} {I : Nat → List V → Hp → List (Addr × HO) → Prop} {acc : List V} {i : Nat} (l : Le B B') (h : Hs B' ((p, .lst acc) :: M') H) (x : I i acc B' M') : IQ B I p i H := ⟨acc, B', M', l, h, x⟩
def IF (B : Hp) (I : Nat → List V → Hp → List (Addr × HO) → Prop) (p : Addr) (i : Nat) : VK := fun y H => ∃ acc, H p = some (.lst acc) ∧ acc.length < sizeLine ∧ IQ B I p i (upd H p (.lst (acc ++ [y])))
theorem IF.mk {B' : Hp} {M' : List (Addr × HO)} {I : Nat → List V → Hp → List (Addr × HO) → Prop} {acc : List V} {i : Nat} {y : V} (ha : acc.length ≤ 1000000) (l : Le B B') (h : Hs B' ((p, .lst acc) :: M') H) (x : I (i + 1) (acc ++ [y]) B' M') : IF B I p (i + 1) y H :=
  ⟨acc, h.hd, sz_lt ha, acc ++ [y], B', M', l, h.wr _, x⟩
/-- the inner for -/
def InR (g1 : TG) (tt1 : TT) (te : TE) (vs1 : List Nat) (σ2 : L2.St) (p : Addr) (Nx : Hp → Prop) (J1 : It) (H4 : Hp) : Prop := ∃ W1 : Nat → Nat → Hp → Prop, (∃ m, W1 0 m H4) ∧ ∀ j k H, W1 j k H →
      (J1.stop j H ∧ Nx H) ∨ (J1.go j H ∧ ∃ Nx1 : Hp → Prop, (∀ H', Nx1 H' → ∃ k', k' < k ∧ W1 (j + 1) k' H') ∧ ∀ x H', J1.yld j H x H' → g1 x (wipe σ2 vs1) H' fun σ3 H5 => wipe σ3 vs1 = wipe σ2 vs1 ∧ tt1 σ3 H5 fun b H6 =>
        if b = true then te σ3 H6 fun y H7 => ∃ acc, H7 p = some (.lst acc) ∧ acc.length < sizeLine ∧ Nx1 (upd H7 p (.lst (acc ++ [y]))) else Nx1 H6)
theorem v_inW {Nx : Hp → Prop} {acc0 : List V} (w : L2.Walk J1 n G Y) (hs : Hs B ((p, .lst acc0) :: M) H) (hG : ∀ B' M' H', Le B B' → Hs B' M' H' → G H') (I : Nat → List V → Hp → List (Addr × HO) → Prop) (h0 : I 0 acc0 B M)
    (step : ∀ j x acc B' M' H' H'', j < n → Le B B' → Hs B' ((p, .lst acc) :: M') H' → I j acc B' M' → Y j H' x H'' → g1 x (wipe σ vs1) H'' fun σ3 H5 => wipe σ3 vs1 = wipe σ vs1 ∧ tt1 σ3 H5 fun b H6 => if b = true then te σ3 H6 (IF B I p (j + 1)) else IQ B I p (j + 1) H6)
    (done : ∀ acc B' M' H', Le B B' → Hs B' ((p, .lst acc) :: M') H' → I n acc B' M' → Nx H') : InR g1 tt1 te vs1 σ p Nx J1 H := by
  refine ⟨fun j m H => m = n - j ∧ j ≤ n ∧ IQ B I p j H, ⟨n, by simp, Nat.zero_le _, acc0, B, M, Same.refl B, hs, h0⟩, ?_⟩
  rintro j m H ⟨rfl, hj, acc, B', M', l, h, x1⟩
  have q := hG B' _ H l h
  by_cases hlt : j < n
  · exact .inr ⟨w.goes j H hlt q, IQ B I p (j + 1), fun H' p' => ⟨n - (j + 1), by omega, rfl, hlt, p'⟩, fun x H' y => step j x acc B' M' H H' hlt l h x1 (w.yields j H x H' hlt q y)⟩
  · have e : j = n := by omega
    subst e
    exact .inl ⟨w.stops H q, done acc B' M' H l h x1⟩
def Lc2R (g : TG) (tt : TT) (wi1 : L2.TI) (g1 : TG) (tt1 : TT) (te : TE) (vs vs1 : List Nat) (σ : L2.St) (Q : VK) (J : It) (H1 : Hp) : Prop := ∀ D, H1 D = none → ∃ W : Nat → Nat → Hp → Prop, (∃ m, W 0 m (upd H1 D (.lst []))) ∧ ∀ i m H, W i m H →
  (J.stop i H ∧ Q (.ref D) H) ∨ (J.go i H ∧ ∃ Nx : Hp → Prop, (∀ H', Nx H' → ∃ m', m' < m ∧ W (i + 1) m' H') ∧ ∀ x H', J.yld i H x H' → g x (wipe σ vs) H' fun σ2 H2 => wipe σ2 vs = wipe σ vs ∧ tt σ2 H2 fun b H3 =>
    if b = true then wi1 σ2 H3 fun J1 H4 => InR g1 tt1 te vs1 σ2 D Nx J1 H4 else Nx H3)
theorem v_lc2 (h : wi σ H fun J H1 => Lc2R g tt wi1 g1 tt1 te vs vs1 σ Q J H1) : tLc2 wi g tt wi1 g1 tt1 te vs vs1 σ H Q := h
theorem v_lc2W (w : L2.Walk J n G Y) (hs : Hs B M H) (hG : ∀ B' M' H', Le B B' → Hs B' M' H' → G H') (I : Nat → List V → Hp → List (Addr × HO) → Prop) (h0 : I 0 [] B M)
    (step : ∀ i x p acc B' M' H' H'', i < n → Le B B' → Hs B' ((p, .lst acc) :: M') H' → I i acc B' M' → Y i H' x H'' → g x (wipe σ vs) H'' fun σ2 H2 => wipe σ2 vs = wipe σ vs ∧ tt σ2 H2 fun b H3 =>
      if b = true then wi1 σ2 H3 fun J1 H4 => InR g1 tt1 te vs1 σ2 p (IQ B I p (i + 1)) J1 H4 else IQ B I p (i + 1) H3)
    (done : ∀ p acc B' M' H', Le B B' → Hs B' ((p, .lst acc) :: M') H' → I n acc B' M' → Q (.ref p) H') : Lc2R g tt wi1 g1 tt1 te vs vs1 σ Q J H := by
  intro D hD
  refine ⟨fun i m H => m = n - i ∧ i ≤ n ∧ IQ B I D i H, ⟨n, by simp, Nat.zero_le _, [], B, M, Same.refl B, hs.new hD _, h0⟩, ?_⟩
  rintro i m H ⟨rfl, hi, acc, B', M', l, h, x1⟩
  have q := hG B' _ H l h
  by_cases hlt : i < n
  · exact .inr ⟨w.goes i H hlt q, IQ B I D (i + 1), fun H' p' => ⟨n - (i + 1), by omega, rfl, hlt, p'⟩, fun x H' y => step i x D acc B' M' H H' hlt l h x1 (w.yields i H x H' hlt q y)⟩
  · have e : i = n := by omega
    subst e
    exact .inl ⟨w.stops H q, done D acc B' M' H l h x1⟩
/-! ### d.get(k, x) -/
variable {td ty tx : TE}
def DgO (x : V) (H : Hp) (q : Addr → Prop) : Prop := ∃ a, x = .ref a ∧ IsD H a ∧ q a
def DgT (a : Addr) (y z : V) (H : Hp) (Q : VK) : Prop := ∃ o, DGet H a y o ∧ Q (o.getD z) H
theorem v_dget2 (h : td σ H fun x H1 => DgO x H1 fun a => ty σ H1 fun y H2 => tx σ H2 fun z H3 => DgT a y z H3 Q) : tDGet2 td ty tx σ H Q := h
theorem v_dgoT {a : Addr} {kvs : List (List Key × V)} {q : Addr → Prop} (e : H a = some (.dT kvs)) (h : q a) : DgO (.ref a) H q := ⟨a, rfl, .inr ⟨kvs, .inl e⟩, h⟩
theorem v_dgT {a b : Addr} {kvs : List (List Key × V)} {k : List Key} {z : V} (e : H a = some (.dT kvs)) (eb : H b = some (.tup (k.map kV))) (q : Q ((valV kvs k).getD z) H) : DgT a (.ref b) z H Q := ⟨_, DGet.t e eb, q⟩
end
end Sh
set_option Elab.async false
set_option linter.all false
set_option maxRecDepth 100000
set_option maxHeartbeats 2000000
namespace Sh
open PySem PySem.Spec PyProof.Rows L2
open SX (S)
/-- list(a text) -/
def rLstS : List V → Hp → VK → Prop := fun xs H Q => ∃ z : Str, xs = [.str z] ∧ z.cps.size ≤ 1000000 ∧ ∀ p, H p = none → Q (.ref p) (upd H p (.lst (z.cps.toList.map fun c => V.str ⟨#[c]⟩)))
theorem cr_lstS {X : Cx} (hc : X.calm = true) : CallR X (.type "list") rLstS := by
  intro pins s σ H xs us Q I r h
  obtain ⟨z, rfl, hz, q⟩ := h
  obtain ⟨u, rfl, ru⟩ := vals1 r
  obtain ⟨t, rfl⟩ := ru
  have hz2 : z.cps.size ≤ sizeLine := sz_of hz
  refine call_list_str (I.ok.hd hc) z t (fun h' tk acc c' hk e' hi => ?_) hz2
  have hv : Vals (z.cps.toList.map fun c => V.str ⟨#[c]⟩) acc.toList := by
    refine vals_of_at ?_ fun j x u h1 h2 => ?_
    · rw [List.length_map, Array.length_toList, Array.length_toList, hi.1]
    · obtain ⟨c, tc, hc1, rfl⟩ := hi.2 j u (by rw [← h2, Array.getElem?_toList])
      rw [List.getElem?_map, Array.getElem?_toList, hc1] at h1
      cases h1
      exact ⟨tc, rfl⟩
  refine ⟨.ref s.heap.objs.size, upd H s.heap.objs.size (.lst (z.cps.toList.map fun c => V.str ⟨#[c]⟩)), I.laid hk (Nat.le_refl _) (show ObjOk X.prog X.w _ _ _ (.lst _) from ⟨?_, acc.toList, c', hv, ?_⟩), rfl, q _ (I.hok.fresh (Nat.le_refl _))⟩
  · rw [List.length_map, Array.length_toList]; exact hz2
  · rw [Array.toArray_toList]; exact e'
theorem v_lstS {l : List Nat} {H : Hp} {Q : VK} (hl : l.length ≤ 1000000) (q : Nw H (.lst (l.map fun c => V.str (S [c]))) Q) : rLstS [.str (S l)] H Q := ⟨S l, rfl, by rw [S_size]; exact hl, q⟩
/-- (a, b) = a tuple or a list -/
def gAlt (g1 g2 : TG) : TG := fun v σ H q => g1 v σ H q ∨ g2 v σ H q
theorem pg_alt {X : Cx} {e : Expr} {g1 g2 : TG} (h1 : PG X e g1) (h2 : PG X e g2) : PG X e (gAlt g1 g2) :=
  ⟨fun pins s σ H v u Q I r q => q.elim (h1.run pins s σ H v u Q I r) (h2.run pins s σ H v u Q I r)⟩
section
variable {K : PySem.W.Frag} {H : Hp} {σ : L2.St} {Q : VK}
theorem v_gTupT {i j : Nat} {T : Addr} {x y : V} {q : L2.St → Hp → Prop} (e : SqT K H T [x, y]) (h : gName i x σ H fun σ1 H1 => gName j y σ1 H1 q) : gAlt (gTup K 2 (gCons (gName i) (gCons (gName j) gNil))) (gUnl K 2 (gCons (gName i) (gCons (gName j) gNil))) (.ref T) σ H q := .inl (v_gTup2 e h)
theorem v_gTupL {i j : Nat} {T : Addr} {x y : V} {q : L2.St → Hp → Prop} (e : SqL K H T [x, y]) (h : gName i x σ H fun σ1 H1 => gName j y σ1 H1 q) : gAlt (gTup K 2 (gCons (gName i) (gCons (gName j) gNil))) (gUnl K 2 (gCons (gName i) (gCons (gName j) gNil))) (.ref T) σ H q :=
  .inr ⟨T, [x, y], rfl, e, rfl, x, [y], rfl, show gName i x σ H _ from (h : gName i x σ H fun σ1 H1 => gName j y σ1 H1 q) |> fun z => show (gCons (gName j) gNil [y] (σ.set i (some x)) H q) from ⟨y, [], rfl, show gName j y (σ.set i (some x)) H _ from ⟨rfl, z⟩⟩⟩
theorem v_isB {a b : Bool} (q : Q (.bl (decide (a = b))) H) : rIsB (.bl a) (.bl b) H Q := ⟨a, b, rfl, rfl, q⟩
theorem v_notB {a b : Bool} (q : Q (.bl (!decide (a = b))) H) : rNotB (.bl a) (.bl b) H Q := ⟨a, b, rfl, rfl, q⟩
/-- a text times a number -/
theorem v_repS {z : Str} {n : Int} (h : MulOk z n) (q : Q (.str (Txt.mul z n)) H) : rRepS (.str z) (.int n) H Q := ⟨z, n, rfl, rfl, h, q⟩
end
end Sh
set_option Elab.async false
set_option linter.all false
set_option maxRecDepth 100000
set_option maxHeartbeats 0
namespace K52
open PySem PySem.Spec PyProof.Rows L2 Sh
def topS (i : Nat) : Stmt := PySem.Challenge.pw_saidhere_k52_whole_contest.main.body.getD i (.Pass ⟨0, 0, 0, 0⟩)
def clsBody : Stmt → Nat → Stmt
  | .ClassDef (body := b) .., j => b.getD j (.Pass ⟨0, 0, 0, 0⟩)
  | s, _ => s
/-! is_integer: slots 0 thing, 1 low, 2 high -/
abbrev s_p_is_integer : Stmt := topS 11
abbrev n_p_is_integer : List Str := ["thing", "low", "high"]
theorem sc_p_is_integer : FnScope n_p_is_integer ["thing", "low", "high"] (defScope s_p_is_integer) := ⟨rfl, rfl, rfl, by decide +kernel, rfl, by decide +kernel, by decide +kernel⟩
/-! is_listed: slots 0 thing -/
abbrev s_p_is_listed : Stmt := topS 12
abbrev n_p_is_listed : List Str := ["thing"]
theorem sc_p_is_listed : FnScope n_p_is_listed ["thing"] (defScope s_p_is_listed) := ⟨rfl, rfl, rfl, by decide +kernel, rfl, by decide +kernel, by decide +kernel⟩
/-! is_alphabet: slots 0 thing, 1 letter, 2 k -/
abbrev s_p_is_alphabet : Stmt := topS 13
abbrev n_p_is_alphabet : List Str := ["thing", "letter", "k"]
theorem sc_p_is_alphabet : FnScope n_p_is_alphabet ["thing"] (defScope s_p_is_alphabet) := ⟨rfl, rfl, rfl, by decide +kernel, rfl, by decide +kernel, by decide +kernel⟩
/-! check_alphabet: slots 0 thing -/
abbrev s_p_check_alphabet : Stmt := topS 14
abbrev n_p_check_alphabet : List Str := ["thing"]
theorem sc_p_check_alphabet : FnScope n_p_check_alphabet ["thing"] (defScope s_p_check_alphabet) := ⟨rfl, rfl, rfl, by decide +kernel, rfl, by decide +kernel, by decide +kernel⟩
/-! check_row: slots 0 alphabet, 1 thing, 2 at, 3 letter -/
abbrev s_p_check_row : Stmt := topS 15
abbrev n_p_check_row : List Str := ["alphabet", "thing", "at", "letter"]
theorem sc_p_check_row : FnScope n_p_check_row ["alphabet", "thing"] (defScope s_p_check_row) := ⟨rfl, rfl, rfl, by decide +kernel, rfl, by decide +kernel, by decide +kernel⟩
/-! check_place: slots 0 row, 1 thing -/
abbrev s_p_check_place : Stmt := topS 16
abbrev n_p_check_place : List Str := ["row", "thing"]
theorem sc_p_check_place : FnScope n_p_check_place ["row", "thing"] (defScope s_p_check_place) := ⟨rfl, rfl, rfl, by decide +kernel, rfl, by decide +kernel, by decide +kernel⟩
/-! check_contest: slots 0 alphabet, 1 row, 2 other, 3 one -/
abbrev s_p_check_contest : Stmt := topS 19
abbrev n_p_check_contest : List Str := ["alphabet", "row", "other", "one"]
theorem sc_p_check_contest : FnScope n_p_check_contest ["alphabet", "row", "other"] (defScope s_p_check_contest) := ⟨rfl, rfl, rfl, by decide +kernel, rfl, by decide +kernel, by decide +kernel⟩
/-! exchanged_table: slots 0 near, 1 width, 2 line, 3 m -/
abbrev s_p_exchanged_table : Stmt := topS 20
abbrev n_p_exchanged_table : List Str := ["near", "width", "line", "m"]
theorem sc_p_exchanged_table : FnScope n_p_exchanged_table ["near", "width"] (defScope s_p_exchanged_table) := ⟨rfl, rfl, rfl, by decide +kernel, rfl, by decide +kernel, by decide +kernel⟩
/-! places_beyond: slots 0 place, 1 size, 2 word -/
abbrev s_p_places_beyond : Stmt := topS 21
abbrev n_p_places_beyond : List Str := ["place", "size", "word"]
theorem sc_p_places_beyond : FnScope n_p_places_beyond ["place", "size", "word"] (defScope s_p_places_beyond) := ⟨rfl, rfl, rfl, by decide +kernel, rfl, by decide +kernel, by decide +kernel⟩
/-! barred_places: slots 0 line, 1 covered, 2 others, 3 told, 4 place -/
abbrev s_p_barred_places : Stmt := topS 22
abbrev n_p_barred_places : List Str := ["line", "covered", "others", "told", "place"]
theorem sc_p_barred_places : FnScope n_p_barred_places ["line", "covered", "others"] (defScope s_p_barred_places) := ⟨rfl, rfl, rfl, by decide +kernel, rfl, by decide +kernel, by decide +kernel⟩
/-! unanswered: slots 0 near, 1 ones, 2 others, 3 covered, 4 at, 5 one, 6 barred, 7 bar, 8 place -/
abbrev s_p_unanswered : Stmt := topS 23
abbrev n_p_unanswered : List Str := ["near", "ones", "others", "covered", "at", "one", "barred", "bar", "place"]
theorem sc_p_unanswered : FnScope n_p_unanswered ["near", "ones", "others"] (defScope s_p_unanswered) := ⟨rfl, rfl, rfl, by decide +kernel, rfl, by decide +kernel, by decide +kernel⟩
/-! lost_move: slots 0 near, 1 back, 2 k, 3 m, 4 word, 5 ones, 6 others, 7 found -/
abbrev s_p_lost_move : Stmt := topS 24
abbrev n_p_lost_move : List Str := ["near", "back", "k", "m", "word", "ones", "others", "found"]
theorem sc_p_lost_move : FnScope n_p_lost_move ["near", "back", "k", "m"] (defScope s_p_lost_move) := ⟨rfl, rfl, rfl, by decide +kernel, rfl, by decide +kernel, by decide +kernel⟩
/-! next_table: slots 0 near, 1 back, 2 m, 3 k, 4 line -/
abbrev s_p_next_table : Stmt := topS 25
abbrev n_p_next_table : List Str := ["near", "back", "m", "k", "line"]
theorem sc_p_next_table : FnScope n_p_next_table ["near", "back"] (defScope s_p_next_table) := ⟨rfl, rfl, rfl, by decide +kernel, rfl, by decide +kernel, by decide +kernel⟩
/-! level_tables: slots 0 row, 1 other, 2 near, 3 two, 4 one, 5 told, 6 going, 7 back, 8 later -/
abbrev s_p_level_tables : Stmt := topS 26
abbrev n_p_level_tables : List Str := ["row", "other", "near", "two", "one", "told", "going", "back", "later"]
theorem sc_p_level_tables : FnScope n_p_level_tables ["row", "other"] (defScope s_p_level_tables) := ⟨rfl, rfl, rfl, by decide +kernel, rfl, by decide +kernel, by decide +kernel⟩
/-! listed_level: slots 0 near, 1 k, 2 line, 3 m, 4 one -/
abbrev s_p_listed_level : Stmt := topS 27
abbrev n_p_listed_level : List Str := ["near", "k", "line", "m", "one"]
theorem sc_p_listed_level : FnScope n_p_listed_level ["near"] (defScope s_p_listed_level) := ⟨rfl, rfl, rfl, by decide +kernel, rfl, by decide +kernel, by decide +kernel⟩
/-! table_height: slots 0 tables, 1 k, 2 m, 3 height, 4 near, 5 back -/
abbrev s_p_table_height : Stmt := topS 28
abbrev n_p_table_height : List Str := ["tables", "k", "m", "height", "near", "back"]
theorem sc_p_table_height : FnScope n_p_table_height ["tables", "k", "m"] (defScope s_p_table_height) := ⟨rfl, rfl, rfl, by decide +kernel, rfl, by decide +kernel, by decide +kernel⟩
/-! Contest.__init__: slots 0 self, 1 alphabet, 2 row, 3 other, 4 near, 5 back -/
abbrev s_m_Contest_init : Stmt := clsBody (topS 29) 0
abbrev n_m_Contest_init : List Str := ["self", "alphabet", "row", "other", "near", "back"]
theorem sc_m_Contest_init : FnScope n_m_Contest_init ["self", "alphabet", "row", "other"] (defScope s_m_Contest_init) := ⟨rfl, rfl, rfl, by decide +kernel, rfl, by decide +kernel, by decide +kernel⟩
/-! Contest.parting_height: slots 0 self, 1 k, 2 m -/
abbrev s_m_Contest_parting_height : Stmt := clsBody (topS 29) 1
abbrev n_m_Contest_parting_height : List Str := ["self", "k", "m"]
theorem sc_m_Contest_parting_height : FnScope n_m_Contest_parting_height ["self", "k", "m"] (defScope s_m_Contest_parting_height) := ⟨rfl, rfl, rfl, by decide +kernel, rfl, by decide +kernel, by decide +kernel⟩
/-! table_of_level: slots 0 row, 1 other, 2 level, 3 near, 4 two, 5 one, 6 item, 7 k, 8 m -/
abbrev s_p_table_of_level : Stmt := topS 30
abbrev n_p_table_of_level : List Str := ["row", "other", "level", "near", "two", "one", "item", "k", "m"]
theorem sc_p_table_of_level : FnScope n_p_table_of_level ["row", "other", "level"] (defScope s_p_table_of_level) := ⟨rfl, rfl, rfl, by decide +kernel, rfl, by decide +kernel, by decide +kernel⟩
/-! is_answered: slots 0 near, 1 ahead, 2 width, 3 back, 4 k, 5 line, 6 m, 7 one -/
abbrev s_p_is_answered : Stmt := topS 31
abbrev n_p_is_answered : List Str := ["near", "ahead", "width", "back", "k", "line", "m", "one"]
theorem sc_p_is_answered : FnScope n_p_is_answered ["near", "ahead", "width"] (defScope s_p_is_answered) := ⟨rfl, rfl, rfl, by decide +kernel, rfl, by decide +kernel, by decide +kernel⟩
/-! judge_levels: slots 0 alphabet, 1 row, 2 other, 3 levels, 4 ahead, 5 level, 6 near -/
abbrev s_p_judge_levels : Stmt := topS 32
abbrev n_p_judge_levels : List Str := ["alphabet", "row", "other", "levels", "ahead", "level", "near"]
theorem sc_p_judge_levels : FnScope n_p_judge_levels ["alphabet", "row", "other", "levels"] (defScope s_p_judge_levels) := ⟨rfl, rfl, rfl, by decide +kernel, rfl, by decide +kernel, by decide +kernel⟩
/-! _law_source: slots 0 _law_script, 1 _law_place, 2 _law_cell, 3 _law_seed, 4 _law_one, 5 _law_number -/
abbrev s_source : Stmt := topS 34
abbrev n_source : List Str := ["_law_script", "_law_place", "_law_cell", "_law_seed", "_law_one", "_law_number"]
theorem sc_source : FnScope n_source ["_law_script", "_law_place"] (defScope s_source) := ⟨rfl, rfl, rfl, by decide +kernel, rfl, by decide +kernel, by decide +kernel⟩
/-! _law_pick: slots 0 _law_source_here, 1 _law_many, 2 _law_digit, 3 _law_mixed -/
abbrev s_pick : Stmt := topS 35
abbrev n_pick : List Str := ["_law_source_here", "_law_many", "_law_digit", "_law_mixed"]
theorem sc_pick : FnScope n_pick ["_law_source_here", "_law_many"] (defScope s_pick) := ⟨rfl, rfl, rfl, by decide +kernel, rfl, by decide +kernel, by decide +kernel⟩
/-! _law_alphabet: slots 0 _law_source_here, 1 _law_menu -/
abbrev s_alphabet : Stmt := topS 36
abbrev n_alphabet : List Str := ["_law_source_here", "_law_menu"]
theorem sc_alphabet : FnScope n_alphabet ["_law_source_here"] (defScope s_alphabet) := ⟨rfl, rfl, rfl, by decide +kernel, rfl, by decide +kernel, by decide +kernel⟩
/-! _law_word: slots 0 _law_source_here, 1 _law_alphabet_here, 2 _law_most, 3 _law_size, 4 _law_k -/
abbrev s_word : Stmt := topS 37
abbrev n_word : List Str := ["_law_source_here", "_law_alphabet_here", "_law_most", "_law_size", "_law_k"]
theorem sc_word : FnScope n_word ["_law_source_here", "_law_alphabet_here", "_law_most"] (defScope s_word) := ⟨rfl, rfl, rfl, by decide +kernel, rfl, by decide +kernel, by decide +kernel⟩
/-! _law_is_number: slots 0 _law_thing, 1 _law_low, 2 _law_high -/
abbrev s_is_number : Stmt := topS 38
abbrev n_is_number : List Str := ["_law_thing", "_law_low", "_law_high"]
theorem sc_is_number : FnScope n_is_number ["_law_thing", "_law_low", "_law_high"] (defScope s_is_number) := ⟨rfl, rfl, rfl, by decide +kernel, rfl, by decide +kernel, by decide +kernel⟩
/-! _law_second: slots 0 _law_source_here, 1 _law_alphabet_here, 2 _law_row, 3 _law_way, 4 _law_at, 5 _law_letter -/
abbrev s_second : Stmt := topS 39
abbrev n_second : List Str := ["_law_source_here", "_law_alphabet_here", "_law_row", "_law_way", "_law_at", "_law_letter"]
theorem sc_second : FnScope n_second ["_law_source_here", "_law_alphabet_here", "_law_row"] (defScope s_second) := ⟨rfl, rfl, rfl, by decide +kernel, rfl, by decide +kernel, by decide +kernel⟩
/-! _law_two_rows: slots 0 _law_source_here, 1 _law_alphabet_here, 2 _law_sizes, 3 _law_size, 4 _law_row, 5 _law_k, 6 _law_way, 7 _law_base -/
abbrev s_two_rows : Stmt := topS 40
abbrev n_two_rows : List Str := ["_law_source_here", "_law_alphabet_here", "_law_sizes", "_law_size", "_law_row", "_law_k", "_law_way", "_law_base"]
theorem sc_two_rows : FnScope n_two_rows ["_law_source_here", "_law_alphabet_here"] (defScope s_two_rows) := ⟨rfl, rfl, rfl, by decide +kernel, rfl, by decide +kernel, by decide +kernel⟩
/-! _law_same: slots 0 _law_row, 1 _law_other, 2 _law_told, 3 _law_k, 4 _law_m -/
abbrev s_same : Stmt := topS 41
abbrev n_same : List Str := ["_law_row", "_law_other", "_law_told", "_law_k", "_law_m"]
theorem sc_same : FnScope n_same ["_law_row", "_law_other"] (defScope s_same) := ⟨rfl, rfl, rfl, by decide +kernel, rfl, by decide +kernel, by decide +kernel⟩
/-! _law_beyond: slots 0 _law_place, 1 _law_size, 2 _law_later, 3 _law_one -/
abbrev s_beyond : Stmt := topS 42
abbrev n_beyond : List Str := ["_law_place", "_law_size", "_law_later", "_law_one"]
theorem sc_beyond : FnScope n_beyond ["_law_place", "_law_size", "_law_later"] (defScope s_beyond) := ⟨rfl, rfl, rfl, by decide +kernel, rfl, by decide +kernel, by decide +kernel⟩
/-! _law_answered: slots 0 _law_near, 1 _law_ones, 2 _law_others, 3 _law_kept_here, 4 _law_one, 5 _law_found, 6 _law_place -/
abbrev s_answered : Stmt := topS 43
abbrev n_answered : List Str := ["_law_near", "_law_ones", "_law_others", "_law_kept_here", "_law_one", "_law_found", "_law_place"]
theorem sc_answered : FnScope n_answered ["_law_near", "_law_ones", "_law_others"] (defScope s_answered) := ⟨rfl, rfl, rfl, by decide +kernel, rfl, by decide +kernel, by decide +kernel⟩
/-! _law_below: slots 0 _law_row, 1 _law_other, 2 _law_level, 3 _law_pairs, 4 _law_near, 5 _law_back, 6 _law_pair, 7 _law_told, 8 _law_stays, 9 _law_later, 10 _law_ones, 11 _law_others -/
abbrev s_below : Stmt := topS 44
abbrev n_below : List Str := ["_law_row", "_law_other", "_law_level", "_law_pairs", "_law_near", "_law_back", "_law_pair", "_law_told", "_law_stays", "_law_later", "_law_ones", "_law_others"]
theorem sc_below : FnScope n_below ["_law_row", "_law_other", "_law_level", "_law_pairs"] (defScope s_below) := ⟨rfl, rfl, rfl, by decide +kernel, rfl, by decide +kernel, by decide +kernel⟩
/-! _law_levels: slots 0 _law_row, 1 _law_other, 2 _law_level, 3 _law_told, 4 _law_turn, 5 _law_later -/
abbrev s_levels : Stmt := topS 45
abbrev n_levels : List Str := ["_law_row", "_law_other", "_law_level", "_law_told", "_law_turn", "_law_later"]
theorem sc_levels : FnScope n_levels ["_law_row", "_law_other"] (defScope s_levels) := ⟨rfl, rfl, rfl, by decide +kernel, rfl, by decide +kernel, by decide +kernel⟩
/-! _law_wrong_ask: slots 0 _law_source_here, 1 _law_alphabet_here, 2 _law_row, 3 _law_other, 4 _law_strange, 5 _law_one, 6 _law_sign, 7 _law_at, 8 _law_to, 9 _law_first, 10 _law_second_here, 11 _law_size, 12 _law_stretched, 13 _law_things, 14 _law_thing, 15 _law_wrong, 16 _law_menu -/
abbrev s_wrong_ask : Stmt := topS 46
abbrev n_wrong_ask : List Str := ["_law_source_here", "_law_alphabet_here", "_law_row", "_law_other", "_law_strange", "_law_one", "_law_sign", "_law_at", "_law_to", "_law_first", "_law_second_here", "_law_size", "_law_stretched", "_law_things", "_law_thing", "_law_wrong", "_law_menu"]
theorem sc_wrong_ask : FnScope n_wrong_ask ["_law_source_here", "_law_alphabet_here", "_law_row", "_law_other"] (defScope s_wrong_ask) := ⟨rfl, rfl, rfl, by decide +kernel, rfl, by decide +kernel, by decide +kernel⟩
/-! _law_refused: slots 0 _law_alphabet_here, 1 _law_row, 2 _law_other, 3 raised -/
abbrev s_refused : Stmt := topS 47
abbrev n_refused : List Str := ["_law_alphabet_here", "_law_row", "_law_other", "raised"]
theorem sc_refused : FnScope n_refused ["_law_alphabet_here", "_law_row", "_law_other"] (defScope s_refused) := ⟨rfl, rfl, rfl, by decide +kernel, rfl, by decide +kernel, by decide +kernel⟩
/-! _law_is_levels: slots 0 _law_thing, 1 _law_full, 2 _law_number, 3 _law_level, 4 _law_at, 5 _law_pair -/
abbrev s_is_levels : Stmt := topS 48
abbrev n_is_levels : List Str := ["_law_thing", "_law_full", "_law_number", "_law_level", "_law_at", "_law_pair"]
theorem sc_is_levels : FnScope n_is_levels ["_law_thing", "_law_full"] (defScope s_is_levels) := ⟨rfl, rfl, rfl, by decide +kernel, rfl, by decide +kernel, by decide +kernel⟩
/-! _law_is_contest: slots 0 _law_contest, 1 _law_alphabet_here, 2 _law_row, 3 _law_other, 4 _law_full -/
abbrev s_is_contest : Stmt := topS 49
abbrev n_is_contest : List Str := ["_law_contest", "_law_alphabet_here", "_law_row", "_law_other", "_law_full"]
theorem sc_is_contest : FnScope n_is_contest ["_law_contest", "_law_alphabet_here", "_law_row", "_law_other", "_law_full"] (defScope s_is_contest) := ⟨rfl, rfl, rfl, by decide +kernel, rfl, by decide +kernel, by decide +kernel⟩
/-! _law_kept: slots 0 _law_full, 1 _law_told, 2 _law_level, 3 _law_pair -/
abbrev s_kept : Stmt := topS 50
abbrev n_kept : List Str := ["_law_full", "_law_told", "_law_level", "_law_pair"]
theorem sc_kept : FnScope n_kept ["_law_full"] (defScope s_kept) := ⟨rfl, rfl, rfl, by decide +kernel, rfl, by decide +kernel, by decide +kernel⟩
/-! _law_height_right: slots 0 _law_contest, 1 _law_k, 2 _law_m, 3 _law_kept_here, 4 _law_many, 5 _law_due, 6 _law_told -/
abbrev s_height_right : Stmt := topS 51
abbrev n_height_right : List Str := ["_law_contest", "_law_k", "_law_m", "_law_kept_here", "_law_many", "_law_due", "_law_told"]
theorem sc_height_right : FnScope n_height_right ["_law_contest", "_law_k", "_law_m", "_law_kept_here", "_law_many"] (defScope s_height_right) := ⟨rfl, rfl, rfl, by decide +kernel, rfl, by decide +kernel, by decide +kernel⟩
/-! _law_place_refused: slots 0 _law_contest, 1 _law_k, 2 _law_m, 3 raised -/
abbrev s_place_refused : Stmt := topS 52
abbrev n_place_refused : List Str := ["_law_contest", "_law_k", "_law_m", "raised"]
theorem sc_place_refused : FnScope n_place_refused ["_law_contest", "_law_k", "_law_m"] (defScope s_place_refused) := ⟨rfl, rfl, rfl, by decide +kernel, rfl, by decide +kernel, by decide +kernel⟩
/-! _law_places_refused: slots 0 _law_source_here, 1 _law_contest, 2 _law_row, 3 _law_other, 4 _law_things, 5 _law_thing, 6 _law_more, 7 _law_another -/
abbrev s_places_refused : Stmt := topS 53
abbrev n_places_refused : List Str := ["_law_source_here", "_law_contest", "_law_row", "_law_other", "_law_things", "_law_thing", "_law_more", "_law_another"]
theorem sc_places_refused : FnScope n_places_refused ["_law_source_here", "_law_contest", "_law_row", "_law_other"] (defScope s_places_refused) := ⟨rfl, rfl, rfl, by decide +kernel, rfl, by decide +kernel, by decide +kernel⟩
/-! _law_moved: slots 0 _law_way, 1 _law_alphabet_here, 2 _law_row, 3 _law_other, 4 _law_full, 5 _law_pair, 6 _law_level, 7 _law_ends, 8 _law_one, 9 _law_letter, 10 _law_two -/
abbrev s_moved : Stmt := topS 54
abbrev n_moved : List Str := ["_law_way", "_law_alphabet_here", "_law_row", "_law_other", "_law_full", "_law_pair", "_law_level", "_law_ends", "_law_one", "_law_letter", "_law_two"]
theorem sc_moved : FnScope n_moved ["_law_way", "_law_alphabet_here", "_law_row", "_law_other", "_law_full"] (defScope s_moved) := ⟨rfl, rfl, rfl, by decide +kernel, rfl, by decide +kernel, by decide +kernel⟩
/-! _law_one_more: slots 0 _law_source_here, 1 _law_alphabet_here, 2 _law_row, 3 _law_other, 4 _law_full, 5 _law_last, 6 _law_pair, 7 _law_more, 8 _law_table, 9 _law_level -/
abbrev s_one_more : Stmt := topS 55
abbrev n_one_more : List Str := ["_law_source_here", "_law_alphabet_here", "_law_row", "_law_other", "_law_full", "_law_last", "_law_pair", "_law_more", "_law_table", "_law_level"]
theorem sc_one_more : FnScope n_one_more ["_law_source_here", "_law_alphabet_here", "_law_row", "_law_other", "_law_full"] (defScope s_one_more) := ⟨rfl, rfl, rfl, by decide +kernel, rfl, by decide +kernel, by decide +kernel⟩
/-! _law_ends_well: slots 0 _law_row, 1 _law_other, 2 _law_full, 3 _law_k -/
abbrev s_ends_well : Stmt := topS 56
abbrev n_ends_well : List Str := ["_law_row", "_law_other", "_law_full", "_law_k"]
theorem sc_ends_well : FnScope n_ends_well ["_law_row", "_law_other", "_law_full"] (defScope s_ends_well) := ⟨rfl, rfl, rfl, by decide +kernel, rfl, by decide +kernel, by decide +kernel⟩
/-! law: slots 0 _law_script, 1 _law_source_here, 2 _law_alphabet_here, 3 _law_row, 4 _law_other, 5 _law_full, 6 _law_contest, 7 _law_letters, 8 _law_first, 9 _law_second_here, 10 _law_levels_here, 11 _law_beside, 12 _law_kept_here, 13 _law_known, 14 _law_k, 15 _law_m, 16 _law_moved_here, 17 _law_made, 18 _law_turn, 19 _law_wrong -/
abbrev s_law : Stmt := topS 57
abbrev n_law : List Str := ["_law_script", "_law_source_here", "_law_alphabet_here", "_law_row", "_law_other", "_law_full", "_law_contest", "_law_letters", "_law_first", "_law_second_here", "_law_levels_here", "_law_beside", "_law_kept_here", "_law_known", "_law_k", "_law_m", "_law_moved_here", "_law_made", "_law_turn", "_law_wrong"]
theorem sc_law : FnScope n_law ["_law_script"] (defScope s_law) := ⟨rfl, rfl, rfl, by decide +kernel, rfl, by decide +kernel, by decide +kernel⟩

/-- what the top has left -/
structure Txt (K : PySem.W.Frag) (mg : Str → Option Value) (w : World) where
  a_p_is_integer : Addr
  fd_p_is_integer : FuncData
  F_p_is_integer : Fun K "is_integer" "is_integer" s_p_is_integer a_p_is_integer fd_p_is_integer
  g_p_is_integer : mg "is_integer" = some (.ref a_p_is_integer)
  b_p_is_integer : Binds K fd_p_is_integer ["thing", "low", "high"] []
  a_p_is_listed : Addr
  fd_p_is_listed : FuncData
  F_p_is_listed : Fun K "is_listed" "is_listed" s_p_is_listed a_p_is_listed fd_p_is_listed
  g_p_is_listed : mg "is_listed" = some (.ref a_p_is_listed)
  b_p_is_listed : Binds K fd_p_is_listed ["thing"] []
  a_p_is_alphabet : Addr
  fd_p_is_alphabet : FuncData
  F_p_is_alphabet : Fun K "is_alphabet" "is_alphabet" s_p_is_alphabet a_p_is_alphabet fd_p_is_alphabet
  g_p_is_alphabet : mg "is_alphabet" = some (.ref a_p_is_alphabet)
  b_p_is_alphabet : Binds K fd_p_is_alphabet ["thing"] []
  a_p_check_alphabet : Addr
  fd_p_check_alphabet : FuncData
  F_p_check_alphabet : Fun K "check_alphabet" "check_alphabet" s_p_check_alphabet a_p_check_alphabet fd_p_check_alphabet
  g_p_check_alphabet : mg "check_alphabet" = some (.ref a_p_check_alphabet)
  b_p_check_alphabet : Binds K fd_p_check_alphabet ["thing"] []
  a_p_check_row : Addr
  fd_p_check_row : FuncData
  F_p_check_row : Fun K "check_row" "check_row" s_p_check_row a_p_check_row fd_p_check_row
  g_p_check_row : mg "check_row" = some (.ref a_p_check_row)
  b_p_check_row : Binds K fd_p_check_row ["alphabet", "thing"] []
  a_p_check_place : Addr
  fd_p_check_place : FuncData
  F_p_check_place : Fun K "check_place" "check_place" s_p_check_place a_p_check_place fd_p_check_place
  g_p_check_place : mg "check_place" = some (.ref a_p_check_place)
  b_p_check_place : Binds K fd_p_check_place ["row", "thing"] []
  a_p_check_contest : Addr
  fd_p_check_contest : FuncData
  F_p_check_contest : Fun K "check_contest" "check_contest" s_p_check_contest a_p_check_contest fd_p_check_contest
  g_p_check_contest : mg "check_contest" = some (.ref a_p_check_contest)
  b_p_check_contest : Binds K fd_p_check_contest ["alphabet", "row", "other"] []
  a_p_exchanged_table : Addr
  fd_p_exchanged_table : FuncData
  F_p_exchanged_table : Fun K "exchanged_table" "exchanged_table" s_p_exchanged_table a_p_exchanged_table fd_p_exchanged_table
  g_p_exchanged_table : mg "exchanged_table" = some (.ref a_p_exchanged_table)
  b_p_exchanged_table : Binds K fd_p_exchanged_table ["near", "width"] []
  a_p_places_beyond : Addr
  fd_p_places_beyond : FuncData
  F_p_places_beyond : Fun K "places_beyond" "places_beyond" s_p_places_beyond a_p_places_beyond fd_p_places_beyond
  g_p_places_beyond : mg "places_beyond" = some (.ref a_p_places_beyond)
  b_p_places_beyond : Binds K fd_p_places_beyond ["place", "size", "word"] []
  a_p_barred_places : Addr
  fd_p_barred_places : FuncData
  F_p_barred_places : Fun K "barred_places" "barred_places" s_p_barred_places a_p_barred_places fd_p_barred_places
  g_p_barred_places : mg "barred_places" = some (.ref a_p_barred_places)
  b_p_barred_places : Binds K fd_p_barred_places ["line", "covered", "others"] []
  a_p_unanswered : Addr
  fd_p_unanswered : FuncData
  F_p_unanswered : Fun K "unanswered" "unanswered" s_p_unanswered a_p_unanswered fd_p_unanswered
  g_p_unanswered : mg "unanswered" = some (.ref a_p_unanswered)
  b_p_unanswered : Binds K fd_p_unanswered ["near", "ones", "others"] []
  a_p_lost_move : Addr
  fd_p_lost_move : FuncData
  F_p_lost_move : Fun K "lost_move" "lost_move" s_p_lost_move a_p_lost_move fd_p_lost_move
  g_p_lost_move : mg "lost_move" = some (.ref a_p_lost_move)
  b_p_lost_move : Binds K fd_p_lost_move ["near", "back", "k", "m"] []
  a_p_next_table : Addr
  fd_p_next_table : FuncData
  F_p_next_table : Fun K "next_table" "next_table" s_p_next_table a_p_next_table fd_p_next_table
  g_p_next_table : mg "next_table" = some (.ref a_p_next_table)
  b_p_next_table : Binds K fd_p_next_table ["near", "back"] []
  a_p_level_tables : Addr
  fd_p_level_tables : FuncData
  F_p_level_tables : Fun K "level_tables" "level_tables" s_p_level_tables a_p_level_tables fd_p_level_tables
  g_p_level_tables : mg "level_tables" = some (.ref a_p_level_tables)
  b_p_level_tables : Binds K fd_p_level_tables ["row", "other"] []
  a_p_listed_level : Addr
  fd_p_listed_level : FuncData
  F_p_listed_level : Fun K "listed_level" "listed_level" s_p_listed_level a_p_listed_level fd_p_listed_level
  g_p_listed_level : mg "listed_level" = some (.ref a_p_listed_level)
  b_p_listed_level : Binds K fd_p_listed_level ["near"] []
  a_p_table_height : Addr
  fd_p_table_height : FuncData
  F_p_table_height : Fun K "table_height" "table_height" s_p_table_height a_p_table_height fd_p_table_height
  g_p_table_height : mg "table_height" = some (.ref a_p_table_height)
  b_p_table_height : Binds K fd_p_table_height ["tables", "k", "m"] []
  a_m_Contest_init : Addr
  fd_m_Contest_init : FuncData
  F_m_Contest_init : Fun K "__init__" "Contest.__init__" s_m_Contest_init a_m_Contest_init fd_m_Contest_init
  b_m_Contest_init : Binds K fd_m_Contest_init ["self", "alphabet", "row", "other"] []
  a_m_Contest_parting_height : Addr
  fd_m_Contest_parting_height : FuncData
  F_m_Contest_parting_height : Fun K "parting_height" "Contest.parting_height" s_m_Contest_parting_height a_m_Contest_parting_height fd_m_Contest_parting_height
  b_m_Contest_parting_height : Binds K fd_m_Contest_parting_height ["self", "k", "m"] []
  a_p_table_of_level : Addr
  fd_p_table_of_level : FuncData
  F_p_table_of_level : Fun K "table_of_level" "table_of_level" s_p_table_of_level a_p_table_of_level fd_p_table_of_level
  g_p_table_of_level : mg "table_of_level" = some (.ref a_p_table_of_level)
  b_p_table_of_level : Binds K fd_p_table_of_level ["row", "other", "level"] []
  a_p_is_answered : Addr
  fd_p_is_answered : FuncData
  F_p_is_answered : Fun K "is_answered" "is_answered" s_p_is_answered a_p_is_answered fd_p_is_answered
  g_p_is_answered : mg "is_answered" = some (.ref a_p_is_answered)
  b_p_is_answered : Binds K fd_p_is_answered ["near", "ahead", "width"] []
  a_p_judge_levels : Addr
  fd_p_judge_levels : FuncData
  F_p_judge_levels : Fun K "judge_levels" "judge_levels" s_p_judge_levels a_p_judge_levels fd_p_judge_levels
  g_p_judge_levels : mg "judge_levels" = some (.ref a_p_judge_levels)
  b_p_judge_levels : Binds K fd_p_judge_levels ["alphabet", "row", "other", "levels"] []
  a_source : Addr
  fd_source : FuncData
  F_source : Fun K "_law_source" "_law_source" s_source a_source fd_source
  g_source : mg "_law_source" = some (.ref a_source)
  b_source : Binds K fd_source ["_law_script", "_law_place"] []
  a_pick : Addr
  fd_pick : FuncData
  F_pick : Fun K "_law_pick" "_law_pick" s_pick a_pick fd_pick
  g_pick : mg "_law_pick" = some (.ref a_pick)
  b_pick : Binds K fd_pick ["_law_source_here", "_law_many"] []
  a_alphabet : Addr
  fd_alphabet : FuncData
  F_alphabet : Fun K "_law_alphabet" "_law_alphabet" s_alphabet a_alphabet fd_alphabet
  g_alphabet : mg "_law_alphabet" = some (.ref a_alphabet)
  b_alphabet : Binds K fd_alphabet ["_law_source_here"] []
  a_word : Addr
  fd_word : FuncData
  F_word : Fun K "_law_word" "_law_word" s_word a_word fd_word
  g_word : mg "_law_word" = some (.ref a_word)
  b_word : Binds K fd_word ["_law_source_here", "_law_alphabet_here", "_law_most"] []
  a_is_number : Addr
  fd_is_number : FuncData
  F_is_number : Fun K "_law_is_number" "_law_is_number" s_is_number a_is_number fd_is_number
  g_is_number : mg "_law_is_number" = some (.ref a_is_number)
  b_is_number : Binds K fd_is_number ["_law_thing", "_law_low", "_law_high"] []
  a_second : Addr
  fd_second : FuncData
  F_second : Fun K "_law_second" "_law_second" s_second a_second fd_second
  g_second : mg "_law_second" = some (.ref a_second)
  b_second : Binds K fd_second ["_law_source_here", "_law_alphabet_here", "_law_row"] []
  a_two_rows : Addr
  fd_two_rows : FuncData
  F_two_rows : Fun K "_law_two_rows" "_law_two_rows" s_two_rows a_two_rows fd_two_rows
  g_two_rows : mg "_law_two_rows" = some (.ref a_two_rows)
  b_two_rows : Binds K fd_two_rows ["_law_source_here", "_law_alphabet_here"] []
  a_same : Addr
  fd_same : FuncData
  F_same : Fun K "_law_same" "_law_same" s_same a_same fd_same
  g_same : mg "_law_same" = some (.ref a_same)
  b_same : Binds K fd_same ["_law_row", "_law_other"] []
  a_beyond : Addr
  fd_beyond : FuncData
  F_beyond : Fun K "_law_beyond" "_law_beyond" s_beyond a_beyond fd_beyond
  g_beyond : mg "_law_beyond" = some (.ref a_beyond)
  b_beyond : Binds K fd_beyond ["_law_place", "_law_size", "_law_later"] []
  a_answered : Addr
  fd_answered : FuncData
  F_answered : Fun K "_law_answered" "_law_answered" s_answered a_answered fd_answered
  g_answered : mg "_law_answered" = some (.ref a_answered)
  b_answered : Binds K fd_answered ["_law_near", "_law_ones", "_law_others"] []
  a_below : Addr
  fd_below : FuncData
  F_below : Fun K "_law_below" "_law_below" s_below a_below fd_below
  g_below : mg "_law_below" = some (.ref a_below)
  b_below : Binds K fd_below ["_law_row", "_law_other", "_law_level", "_law_pairs"] []
  a_levels : Addr
  fd_levels : FuncData
  F_levels : Fun K "_law_levels" "_law_levels" s_levels a_levels fd_levels
  g_levels : mg "_law_levels" = some (.ref a_levels)
  b_levels : Binds K fd_levels ["_law_row", "_law_other"] []
  a_wrong_ask : Addr
  fd_wrong_ask : FuncData
  F_wrong_ask : Fun K "_law_wrong_ask" "_law_wrong_ask" s_wrong_ask a_wrong_ask fd_wrong_ask
  g_wrong_ask : mg "_law_wrong_ask" = some (.ref a_wrong_ask)
  b_wrong_ask : Binds K fd_wrong_ask ["_law_source_here", "_law_alphabet_here", "_law_row", "_law_other"] []
  a_refused : Addr
  fd_refused : FuncData
  F_refused : Fun K "_law_refused" "_law_refused" s_refused a_refused fd_refused
  g_refused : mg "_law_refused" = some (.ref a_refused)
  b_refused : Binds K fd_refused ["_law_alphabet_here", "_law_row", "_law_other"] []
  a_is_levels : Addr
  fd_is_levels : FuncData
  F_is_levels : Fun K "_law_is_levels" "_law_is_levels" s_is_levels a_is_levels fd_is_levels
  g_is_levels : mg "_law_is_levels" = some (.ref a_is_levels)
  b_is_levels : Binds K fd_is_levels ["_law_thing", "_law_full"] []
  a_is_contest : Addr
  fd_is_contest : FuncData
  F_is_contest : Fun K "_law_is_contest" "_law_is_contest" s_is_contest a_is_contest fd_is_contest
  g_is_contest : mg "_law_is_contest" = some (.ref a_is_contest)
  b_is_contest : Binds K fd_is_contest ["_law_contest", "_law_alphabet_here", "_law_row", "_law_other", "_law_full"] []
  a_kept : Addr
  fd_kept : FuncData
  F_kept : Fun K "_law_kept" "_law_kept" s_kept a_kept fd_kept
  g_kept : mg "_law_kept" = some (.ref a_kept)
  b_kept : Binds K fd_kept ["_law_full"] []
  a_height_right : Addr
  fd_height_right : FuncData
  F_height_right : Fun K "_law_height_right" "_law_height_right" s_height_right a_height_right fd_height_right
  g_height_right : mg "_law_height_right" = some (.ref a_height_right)
  b_height_right : Binds K fd_height_right ["_law_contest", "_law_k", "_law_m", "_law_kept_here", "_law_many"] []
  a_place_refused : Addr
  fd_place_refused : FuncData
  F_place_refused : Fun K "_law_place_refused" "_law_place_refused" s_place_refused a_place_refused fd_place_refused
  g_place_refused : mg "_law_place_refused" = some (.ref a_place_refused)
  b_place_refused : Binds K fd_place_refused ["_law_contest", "_law_k", "_law_m"] []
  a_places_refused : Addr
  fd_places_refused : FuncData
  F_places_refused : Fun K "_law_places_refused" "_law_places_refused" s_places_refused a_places_refused fd_places_refused
  g_places_refused : mg "_law_places_refused" = some (.ref a_places_refused)
  b_places_refused : Binds K fd_places_refused ["_law_source_here", "_law_contest", "_law_row", "_law_other"] []
  a_moved : Addr
  fd_moved : FuncData
  F_moved : Fun K "_law_moved" "_law_moved" s_moved a_moved fd_moved
  g_moved : mg "_law_moved" = some (.ref a_moved)
  b_moved : Binds K fd_moved ["_law_way", "_law_alphabet_here", "_law_row", "_law_other", "_law_full"] []
  a_one_more : Addr
  fd_one_more : FuncData
  F_one_more : Fun K "_law_one_more" "_law_one_more" s_one_more a_one_more fd_one_more
  g_one_more : mg "_law_one_more" = some (.ref a_one_more)
  b_one_more : Binds K fd_one_more ["_law_source_here", "_law_alphabet_here", "_law_row", "_law_other", "_law_full"] []
  a_ends_well : Addr
  fd_ends_well : FuncData
  F_ends_well : Fun K "_law_ends_well" "_law_ends_well" s_ends_well a_ends_well fd_ends_well
  g_ends_well : mg "_law_ends_well" = some (.ref a_ends_well)
  b_ends_well : Binds K fd_ends_well ["_law_row", "_law_other", "_law_full"] []
  a_law : Addr
  fd_law : FuncData
  F_law : Fun K "law" "law" s_law a_law fd_law
  g_law : mg "law" = some (.ref a_law)
  b_law : Binds K fd_law ["_law_script"] []
  free_len : mg "len" = none
  free_range : mg "range" = none
  free_int : mg "int" = none
  free_str : mg "str" = none
  free_bool : mg "bool" = none
  free_list : mg "list" = none
  free_tuple : mg "tuple" = none
  free_isinstance : mg "isinstance" = none
  free_abs : mg "abs" = none
  free_all : mg "all" = none
  free_any : mg "any" = none
  free_repr : mg "repr" = none
  free_enumerate : mg "enumerate" = none
  free_super : mg "super" = none
  free_reversed : mg "reversed" = none
  free_sorted : mg "sorted" = none
  free_ValueError : mg "ValueError" = none
  t_LETTERS : Tok
  c_LETTERS : mg "LETTERS" = some (.str "abcdefgh" t_LETTERS)
  t_LONGEST : Tok
  c_LONGEST : mg "LONGEST" = some (.int 200 t_LONGEST)
  t_LC : Tok
  c_LC : mg "LONGEST_CONTEST" = some (.int 12 t_LC)
  a_Contest : Addr
  g_Contest : mg "Contest" = some (.ref a_Contest)
  cls_Contest : Cls K a_Contest
  mk_Contest : Mk K a_Contest a_m_Contest_init
  me_Contest_parting_height : Meth K a_Contest "parting_height" a_m_Contest_parting_height
  no_Contest_alphabet : NoAttr K a_Contest "alphabet"
  no_Contest_row : NoAttr K a_Contest "row"
  no_Contest_other : NoAttr K a_Contest "other"
  no_Contest_tables : NoAttr K a_Contest "tables"
  no_Contest_levels : NoAttr K a_Contest "levels"
  a_SaidError : Addr
  g_SaidError : mg "SaidError" = some (.ref a_SaidError)
  a_WrongThing : Addr
  g_WrongThing : mg "WrongThing" = some (.ref a_WrongThing)
  a_BadAlphabet : Addr
  g_BadAlphabet : mg "BadAlphabet" = some (.ref a_BadAlphabet)
  a_BadPlace : Addr
  g_BadPlace : mg "BadPlace" = some (.ref a_BadPlace)
  a_BadRow : Addr
  g_BadRow : mg "BadRow" = some (.ref a_BadRow)
  a_TooLong : Addr
  g_TooLong : mg "TooLong" = some (.ref a_TooLong)
/-- the own errors, as the program has them -/
structure TxtX {K : PySem.W.Frag} {mg : Str → Option Value} {w : World} (T : Txt K mg w) (P : Program) : Prop where
  x_BadAlphabet : OwnX.OExc P K T.a_BadAlphabet "thing" (fun _ => True)
  c_BadAlphabet : ExcC K T.a_BadAlphabet
  x_BadPlace : OwnX.OExc P K T.a_BadPlace "thing" (fun _ => True)
  c_BadPlace : ExcC K T.a_BadPlace
  x_BadRow : OwnX.OExc P K T.a_BadRow "at" OwnX.goodI
  c_BadRow : ExcC K T.a_BadRow
  x_TooLong : OwnX.OExc P K T.a_TooLong "number" (fun _ => True)
  c_TooLong : ExcC K T.a_TooLong
  exm : ∀ p ∈ [(T.a_BadAlphabet, T.a_BadAlphabet, true), (T.a_BadRow, T.a_BadAlphabet, false), (T.a_BadRow, T.a_BadRow, true), (T.a_TooLong, T.a_BadAlphabet, false), (T.a_TooLong, T.a_BadRow, false), (T.a_TooLong, T.a_TooLong, true), (T.a_BadPlace, T.a_BadPlace, true)], PySem.W.exmOne K (.ref p.1) (.ref p.2.1) = some p.2.2
  kits : ∀ p ∈ [(T.a_BadAlphabet, T.a_WrongThing, true), (T.a_BadAlphabet, T.a_SaidError, true), (T.a_BadRow, T.a_SaidError, true), (T.a_BadRow, T.a_WrongThing, false), (T.a_TooLong, T.a_SaidError, true), (T.a_TooLong, T.a_WrongThing, false), (T.a_BadPlace, T.a_WrongThing, true), (T.a_BadPlace, T.a_SaidError, true)], PySem.W.kitOne K (.ref p.1) (.ref p.2.1) = some p.2.2
  kitV : ∀ p ∈ [T.a_BadAlphabet], PySem.W.kitOne K (.ref p) (.type "ValueError") = some true
end K52
set_option Elab.async false
set_option linter.all false
set_option maxRecDepth 100000
set_option maxHeartbeats 4000000
namespace K52
open PySem PySem.Spec PyProof.Rows L2 Sh
open SX (S)
local macro_rules | `(tactic| walk_at "v1") => `(tactic| first
  | with_reducible refine v_seq ?_ | with_reducible refine v_asg ?_ | ((with_reducible refine' v_name ?e ?_); (case e => exact rfl)) | with_reducible refine v_ret ?_ | with_reducible refine v_drop ?_ | with_reducible refine v_next ?_
  | with_reducible refine v_if ?_ | with_reducible refine v_op ?_ | with_reducible refine v_c ?_ | ((with_reducible refine' v_var ?e ?_); (case e => exact rfl))
  | with_reducible refine v_I0 ?_ | with_reducible refine v_test ?_ | with_reducible refine v_B ?_ | with_reducible refine v_bl ?_ | with_reducible refine v_not ?_ | with_reducible refine v_and ?_ | with_reducible refine v_or ?_
  | with_reducible refine v_andV ?_ | with_reducible refine v_orV ?_ | with_reducible refine v_notV ?_ | with_reducible refine v_ife ?_
  | with_reducible refine v_nil ?_ | with_reducible refine v_cons ?_ | with_reducible refine v_tup ?_ | with_reducible refine v_lst ?_ | with_reducible refine v_call ?_ | with_reducible refine v_cb ?_ | with_reducible refine v_int ?_ | with_reducible refine v_abs ?_
  | ((with_reducible refine' v_eq ?e ?_); (case e => exact rfl)) | ((with_reducible refine' v_ne ?e ?_); (case e => exact rfl)) | with_reducible refine v_sub ?_ | with_reducible refine v_isN ?_ | with_reducible refine v_notN ?_
  | with_reducible refine v_part ?_ | with_reducible refine v_nopart ?_ | with_reducible refine v_pint ?_ | with_reducible refine v_inSg ?_ | with_reducible refine v_notInSg ?_
  | ((with_reducible refine' v_ixL ?l ?a ?_); (case l => assumption); (case a => exact at_lit _ rfl)) | ((with_reducible refine' v_ixT ?l ?a ?_); (case l => assumption); (case a => exact at_lit _ rfl))
  | ((with_reducible refine v_I ?c ?_); (case c => (first | omega | (unfold CMul; omega) | (unfold CDivN; omega) | (unfold CPow; omega))))
  | with_reducible refine v_for ?_ | with_reducible refine v_iList ?_ | with_reducible refine v_iTup ?_ | with_reducible refine v_iStr ?_ | with_reducible refine v_iR1 ?_ | with_reducible refine v_iR2 ?_ | with_reducible refine v_atS ?_ | with_reducible refine v_sl ?_ | with_reducible refine v_lc ?_ | with_reducible refine v_yes ?_
  | with_reducible refine v_m1 ?_ | with_reducible refine v_m1S ?_ | with_reducible refine v_bm ?_ | with_reducible refine v_bm0 ?_ | with_reducible refine v_dnewK ?_ | with_reducible refine v_dnewT ?_ | with_reducible refine v_dget ?_ | with_reducible refine v_din ?_ | with_reducible refine v_dnotin ?_ | with_reducible refine v_dput ?_ | with_reducible refine v_chain ?_ | with_reducible refine v_un ?_ | with_reducible refine v_neg ?_
  | with_reducible refine v_brk ?_ | with_reducible refine v_cont ?_
  | with_reducible refine v_fld ?_ | with_reducible refine v_sfld ?_ | with_reducible refine v_meth ?_ | with_reducible refine v_methT ?_ | with_reducible refine v_make ?_ | with_reducible refine v_makeT ?_ | with_reducible refine v_dget2 ?_ | with_reducible refine v_enumS ?_ | with_reducible refine v_enumQ ?_ | with_reducible refine v_lc2 ?_ | with_reducible refine v_isB ?_ | with_reducible refine v_notB ?_)
local macro_rules | `(tactic| walk_at "v") => `(tactic| repeat (walk_at "v1"))
local macro_rules | `(tactic| walk_at "vm") => `(tactic| repeat (first | ((with_reducible refine v_modP ?c ?_); (case c => omega); (intro _ _ _)) | walk_at "v1"))
local macro_rules | `(tactic| walk_at "iv") => `(tactic| (try dsimp only; refine IV.mk (by assumption) (by assumption) ?_))
local macro_rules | `(tactic| walk_at "n") => `(tactic| dsimp only [List.set_cons_zero, List.set_cons_succ])
/-! ### is_integer -/
def isIntIn (lo hi : Int) : PyData → Bool
  | .int i => decide (lo ≤ i) && decide (i ≤ hi)
  | _ => false
def sp_p_is_integer (K : PySem.W.Frag) : Sp := fun vs H Q _ => ∃ (v : V) (d : PyData) (lo hi : Int), vs = [v, .int lo, .int hi] ∧ Rp K H v d ∧ Q (.bl (isIntIn lo hi d)) H
def t_p_is_integer (K : PySem.W.Frag) : TS := (tRet (tAndV (tCB (rIsi K) (tCons (tVar 0) (tCons (tC (.ty "int")) tNil))) (tAndV (tNotV (tCB (rIsi K) (tCons (tVar 0) (tCons (tC (.ty "bool")) tNil)))) (tChain rLeI rLeI (tVar 1) (tVar 0) (tVar 2)))))
theorem pure_p_is_integer {K : PySem.W.Frag} (vs : List V) (H : Hp) (Q : VK) (E : XK) (h : sp_p_is_integer K vs H Q E) : t_p_is_integer K { nx := fun _ H' => Q .non H', rt := Q } (start n_p_is_integer vs) H := by
  obtain ⟨v, d, lo, hi, rfl, hv, q⟩ := h
  show t_p_is_integer K _ [some v, some (V.int lo), some (V.int hi)] H
  unfold t_p_is_integer
  walk_at "v"
  refine v_isiI hv ?_
  walk_at "v"
  cases d with
  | int i =>
    cases hv
    refine iteT' rfl ?_
    walk_at "v"
    refine v_isiB (.int i) ?_
    walk_at "v"
    refine iteT' rfl ?_
    walk_at "v"
    refine ite2 (fun c0 => ?_) (fun c0 => ?_)
    · walk_at "v"
      have e : isIntIn lo hi (.int i) = decide (i ≤ hi) := by
        show (decide (lo ≤ i) && decide (i ≤ hi)) = _
        rw [c0, Bool.true_and]
      rw [← e]
      exact q
    · have e : isIntIn lo hi (.int i) = false := by
        show (decide (lo ≤ i) && decide (i ≤ hi)) = _
        rw [Bool.eq_false_iff.mpr c0, Bool.false_and]
      rw [← e]
      exact q
  | bool b =>
    refine iteT' rfl ?_
    walk_at "v"
    refine v_isiB hv ?_
    walk_at "v"
    exact iteF' rfl q
  | none => exact iteF' rfl q
  | str x => exact iteF' rfl q
  | list x => exact iteF' rfl q
  | tuple x => exact iteF' rfl q
  | dict x => exact iteF' rfl q
/-! ### is_listed -/
def sp_p_is_listed (K : PySem.W.Frag) : Sp := fun vs H Q _ => ∃ (B : Hp) (M : List (Addr × HO)) (v : V) (d : PyData), vs = [v] ∧ Hs B M H ∧ Rp K B v d ∧ ∀ (B' H' : Hp), Le B B' → Hs B' M H' → Q (.bl (isLT d)) H'
def t_p_is_listed (K : PySem.W.Frag) : TS := (tRet (tCB (rIsiT K) (tCons (tVar 0) (tCons (tTup (tCons (tC (.ty "tuple")) (tCons (tC (.ty "list")) tNil))) tNil))))
theorem pure_p_is_listed {K : PySem.W.Frag} (vs : List V) (H : Hp) (Q : VK) (E : XK) (h : sp_p_is_listed K vs H Q E) : t_p_is_listed K { nx := fun _ H' => Q .non H', rt := Q } (start n_p_is_listed vs) H := by
  obtain ⟨B, M, v, d, rfl, hs, hv, q⟩ := h
  show t_p_is_listed K _ [some v] H
  unfold t_p_is_listed
  walk_at "v"
  refine v_size (by show 2 ≤ sizeLine; decide) (v_newB hs fun t B1 H1 l1 hs1 e1 => ?_)
  walk_at "v"
  refine v_isiT (hs1.sub _ _ e1) (hs1.r (hv.up l1)) ?_
  exact q _ _ l1 hs1
section
variable {P : Program} {w : World} {K : PySem.W.Frag} {mg : Str → Option Value} {base : Heap}
theorem ok_p_is_integer (T : Txt K mg w) : FnOk P w K mg base CX0 1 T.a_p_is_integer T.fd_p_is_integer ["thing", "low", "high"] (sp_p_is_integer K) := by
  refine T.F_p_is_integer.ok sc_p_is_integer (fun vs H Q E h => ?_) (fun cdv A outer s H vs Q E hr h => ⟨t_p_is_integer K, ?_, pure_p_is_integer vs H Q E h⟩)
  · obtain ⟨v, d, lo, hi, rfl, _⟩ := h
    rfl
  · exact (pss_one (ps_ret (pe_and (pe_callB call_isi (by rfl) (T.free_isinstance) PyProof.Rows.boot_isinstance (pa_cons (pv 0) (pa_cons (pe_bltn (by rfl) (T.free_int) (by decide +kernel) rfl) pa_nil))) (pe_and (pe_not (pe_callB call_isi (by rfl) (T.free_isinstance) PyProof.Rows.boot_isinstance (pa_cons (pv 0) (pa_cons (pe_bltn (by rfl) (T.free_bool) (by decide +kernel) rfl) pa_nil)))) (pe_one (pe_chain op_le op_le (pv 1) (pv 0) (pv 2)))))))
theorem ok_p_is_listed (T : Txt K mg w) : FnOk P w K mg base CX0 1 T.a_p_is_listed T.fd_p_is_listed ["thing"] (sp_p_is_listed K) := by
  refine T.F_p_is_listed.ok sc_p_is_listed (fun vs H Q E h => ?_) (fun cdv A outer s H vs Q E hr h => ⟨t_p_is_listed K, ?_, pure_p_is_listed vs H Q E h⟩)
  · obtain ⟨B, M, v, d, rfl, _⟩ := h
    rfl
  · exact (pss_one (ps_ret (pe_callB call_isiT (by rfl) (T.free_isinstance) PyProof.Rows.boot_isinstance (pa_cons (pv 0) (pa_cons (pe_tup (pa_cons (pe_bltn (by rfl) (T.free_tuple) (by decide +kernel) rfl) (pa_cons (pe_bltn (by rfl) (T.free_list) (by decide +kernel) rfl) pa_nil))) pa_nil)))))
end
end K52
set_option Elab.async false
set_option linter.all false
set_option maxRecDepth 100000
set_option maxHeartbeats 4000000
namespace K52
open PySem PySem.Spec PyProof.Rows L2 Sh
open SX (S)
local macro_rules | `(tactic| walk_at "v1") => `(tactic| first
  | with_reducible refine v_seq ?_ | with_reducible refine v_asg ?_ | ((with_reducible refine' v_name ?e ?_); (case e => exact rfl)) | with_reducible refine v_ret ?_ | with_reducible refine v_drop ?_ | with_reducible refine v_next ?_
  | with_reducible refine v_if ?_ | with_reducible refine v_op ?_ | with_reducible refine v_c ?_ | ((with_reducible refine' v_var ?e ?_); (case e => exact rfl))
  | with_reducible refine v_I0 ?_ | with_reducible refine v_test ?_ | with_reducible refine v_B ?_ | with_reducible refine v_bl ?_ | with_reducible refine v_not ?_ | with_reducible refine v_and ?_ | with_reducible refine v_or ?_
  | with_reducible refine v_andV ?_ | with_reducible refine v_orV ?_ | with_reducible refine v_notV ?_ | with_reducible refine v_ife ?_
  | with_reducible refine v_nil ?_ | with_reducible refine v_cons ?_ | with_reducible refine v_tup ?_ | with_reducible refine v_lst ?_ | with_reducible refine v_call ?_ | with_reducible refine v_cb ?_ | with_reducible refine v_int ?_ | with_reducible refine v_abs ?_
  | ((with_reducible refine' v_eq ?e ?_); (case e => exact rfl)) | ((with_reducible refine' v_ne ?e ?_); (case e => exact rfl)) | with_reducible refine v_sub ?_ | with_reducible refine v_isN ?_ | with_reducible refine v_notN ?_
  | with_reducible refine v_part ?_ | with_reducible refine v_nopart ?_ | with_reducible refine v_pint ?_ | with_reducible refine v_inSg ?_ | with_reducible refine v_notInSg ?_
  | ((with_reducible refine' v_ixL ?l ?a ?_); (case l => assumption); (case a => exact at_lit _ rfl)) | ((with_reducible refine' v_ixT ?l ?a ?_); (case l => assumption); (case a => exact at_lit _ rfl))
  | ((with_reducible refine v_I ?c ?_); (case c => (first | omega | (unfold CMul; omega) | (unfold CDivN; omega) | (unfold CPow; omega))))
  | with_reducible refine v_for ?_ | with_reducible refine v_iList ?_ | with_reducible refine v_iTup ?_ | with_reducible refine v_iStr ?_ | with_reducible refine v_iR1 ?_ | with_reducible refine v_iR2 ?_ | with_reducible refine v_atS ?_ | with_reducible refine v_sl ?_ | with_reducible refine v_lc ?_ | with_reducible refine v_yes ?_
  | with_reducible refine v_m1 ?_ | with_reducible refine v_m1S ?_ | with_reducible refine v_bm ?_ | with_reducible refine v_bm0 ?_ | with_reducible refine v_dnewK ?_ | with_reducible refine v_dnewT ?_ | with_reducible refine v_dget ?_ | with_reducible refine v_din ?_ | with_reducible refine v_dnotin ?_ | with_reducible refine v_dput ?_ | with_reducible refine v_chain ?_ | with_reducible refine v_un ?_ | with_reducible refine v_neg ?_
  | with_reducible refine v_brk ?_ | with_reducible refine v_cont ?_
  | with_reducible refine v_fld ?_ | with_reducible refine v_sfld ?_ | with_reducible refine v_meth ?_ | with_reducible refine v_methT ?_ | with_reducible refine v_make ?_ | with_reducible refine v_makeT ?_ | with_reducible refine v_dget2 ?_ | with_reducible refine v_enumS ?_ | with_reducible refine v_enumQ ?_ | with_reducible refine v_lc2 ?_ | with_reducible refine v_isB ?_ | with_reducible refine v_notB ?_)
local macro_rules | `(tactic| walk_at "v") => `(tactic| repeat (walk_at "v1"))
local macro_rules | `(tactic| walk_at "vm") => `(tactic| repeat (first | ((with_reducible refine v_modP ?c ?_); (case c => omega); (intro _ _ _)) | walk_at "v1"))
local macro_rules | `(tactic| walk_at "iv") => `(tactic| (try dsimp only; refine IV.mk (by assumption) (by assumption) ?_))
local macro_rules | `(tactic| walk_at "n") => `(tactic| dsimp only [List.set_cons_zero, List.set_cons_succ])
/-! ### is_alphabet -/
def lettersL : List Nat := [97, 98, 99, 100, 101, 102, 103, 104]
theorem letters_eq : (("abcdefgh" : Str)) = S lettersL := by decide +kernel
def isAlphaD : PyData → Bool
  | .str z => (decide (1 ≤ z.cps.toList.length) && decide (z.cps.toList.length ≤ 8)) && ((z.cps.toList.map fun c => decide (c ∈ lettersL)).all id &&
      ((List.range (z.cps.toList.length - 1)).map fun k => decide ([z.cps.toList.getD k 0] < [z.cps.toList.getD (k + 1) 0])).all id)
  | _ => false
def sp_p_is_alphabet (K : PySem.W.Frag) : Sp := fun vs H Q _ => ∃ (B : Hp) (M : List (Addr × HO)) (v : V) (d : PyData), vs = [v] ∧ Hs B M H ∧ Rp K B v d ∧ (∀ z, d = .str z → z.length ≤ 1000000) ∧ ∀ (B' H' : Hp), Le B B' → Hs B' M H' → Q (.bl (isAlphaD d)) H'
def t_p_is_alphabet (K : PySem.W.Frag) : TS := (tSeq (tIfS (tOr (tNot (tB (tCB (rIsi K) (tCons (tVar 0) (tCons (tC (.ty "str")) tNil))))) (tNot (tTest (tChain rLeI rLeI (tC (.int 1)) (tCB (rCLen K) (tCons (tVar 0) tNil)) (tCB (rCLen K) (tCons (tC (.str "abcdefgh")) tNil)))))) (tRet (tC (.bl false))) tNext)
    (tSeq (tIfS (tNot (tB (tCB (rAll K) (tCons (tLc (iStr (tVar 0)) (gName 1) tYes (tOp rInSg (tVar 1) (tC (.str "abcdefgh"))) [1]) tNil)))) (tRet (tC (.bl false))) tNext)
    (tRet (tCB (rAll K) (tCons (tLc (iRng1 (tCons (tOp rSubI (tCB (rCLen K) (tCons (tVar 0) tNil)) (tC (.int 1))) tNil)) (gName 2) tYes (tOp rLtS (tOp rIxS (tVar 0) (tVar 2)) (tOp rIxS (tVar 0) (tOp rAddI (tVar 2) (tC (.int 1))))) [2]) tNil)))))
theorem pure_p_is_alphabet {K : PySem.W.Frag} (vs : List V) (H : Hp) (Q : VK) (E : XK) (h : sp_p_is_alphabet K vs H Q E) : t_p_is_alphabet K { nx := fun _ H' => Q .non H', rt := Q } (start n_p_is_alphabet vs) H := by
  obtain ⟨B, M, v, d, rfl, hs, hv, hz, q⟩ := h
  show t_p_is_alphabet K _ [some v, none, none] H
  unfold t_p_is_alphabet
  walk_at "v"
  refine v_isiS (hs.r hv) ?_
  walk_at "v"
  cases d with
  | str z0 =>
    obtain ⟨l, rfl⟩ : ∃ l, z0 = S l := ⟨z0.cps.toList, (SX.S_tl z0).symm⟩
    cases hv
    have hz0 := hz _ rfl
    rw [S_length] at hz0
    refine iteF' rfl ?_
    walk_at "v"
    refine v_lenS (by rw [S_length]; exact sz_of hz0) ?_
    rw [S_length]
    walk_at "v"
    have eD : isAlphaD (.str (S l)) = ((decide (1 ≤ l.length) && decide (l.length ≤ 8)) && ((l.map fun c => decide (c ∈ lettersL)).all id && ((List.range (l.length - 1)).map fun k => decide ([l.getD k 0] < [l.getD (k + 1) 0])).all id)) := rfl
    have e1 : decide ((1 : Int) ≤ (l.length : Nat)) = decide (1 ≤ l.length) := decide_eq_decide.mpr (by omega)
    rw [e1]
    refine ite2 (fun c0 => ?_) (fun c0 => ?_)
    · have c1 := of_decide_eq_true c0
      walk_at "v"
      refine v_lenS (z := "abcdefgh") (by decide) ?_
      walk_at "v"
      have e2 : decide ((l.length : Int) ≤ ((("abcdefgh" : Str).length : Nat) : Int)) = decide (l.length ≤ 8) := decide_eq_decide.mpr (by rw [show ("abcdefgh" : Str).length = 8 from by decide +kernel]; omega)
      rw [e2]
      by_cases c2 : l.length ≤ 8
      · rw [decide_eq_true c2]
        refine iteF' rfl ?_
        walk_at "v"
        refine v_lcS hs (fun i acc B' M' => M' = M ∧ acc = ((l.take i).map fun c => decide (c ∈ lettersL)).map V.bl) ⟨rfl, rfl⟩ ?_ ?_
        · rintro i c p acc B1 M' H1 hi hc ha l1 h1 ⟨rfl, rfl⟩
          rw [S_get] at hc
          walk_at "v"
          refine ⟨rfl, ?_⟩
          walk_at "v"
          refine iteT ?_
          walk_at "v"
          refine IE.mk ha hi (by rw [S_size]; omega) l1 h1 ⟨rfl, ?_⟩
          rw [List.take_add_one, hc, List.map_append, List.map_append, letters_eq]
          rfl
        · rintro p acc B1 M' H1 ha l1 h1 ⟨rfl, rfl⟩
          walk_at "v"
          refine ⟨p, _, rfl, SqL.of h1.hd, ?_⟩
          rw [S_size, List.take_length]
          have h2 := h1.drop
          walk_at "v"
          by_cases c3 : (l.map fun c => decide (c ∈ lettersL)).all id = true
          · rw [c3]
            refine iteF' rfl ?_
            walk_at "v"
            refine v_lenS (by rw [S_length]; exact sz_of hz0) ?_
            rw [S_length]
            walk_at "v"
            refine v_atR1 (by omega) ?_
            refine v_lcR h2 (fun i acc B' M2 => M2 = M' ∧ acc = ((List.range i).map fun k => decide ([l.getD k 0] < [l.getD (k + 1) 0])).map V.bl) ⟨rfl, rfl⟩ ?_ ?_
            · rintro i p acc B2 M' H2 hi ha l2 h2 ⟨rfl, rfl⟩
              have hi2 : i + 1 < l.length := by omega
              walk_at "v"
              refine ⟨rfl, ?_⟩
              walk_at "v"
              refine iteT ?_
              walk_at "v"
              refine v_ixS (c := l.getD i 0) (by rw [S_length]; exact sz_of hz0) (at_k (by omega) ?_) ?_
              · rw [show (0 + (i : Int)).toNat = i by omega]
                show l[i]? = _
                rw [List.getD_eq_getElem?_getD, List.getElem?_eq_getElem (by omega)]
                rfl
              walk_at "v"
              refine v_ixS (c := l.getD (i + 1) 0) (by rw [S_length]; exact sz_of hz0) (at_k (by omega) ?_) ?_
              · rw [show (0 + (i : Int) + 1).toNat = i + 1 by omega]
                show l[i + 1]? = _
                rw [List.getD_eq_getElem?_getD, List.getElem?_eq_getElem hi2]
                rfl
              refine ⟨_, _, rfl, rfl, ?_⟩
              refine IE.mk ha hi (by omega) l2 h2 ⟨rfl, ?_⟩
              rw [List.range_succ, List.map_append, List.map_append]
              rfl
            · rintro p acc B2 M' H2 ha l2 h2 ⟨rfl, rfl⟩
              walk_at "v"
              refine ⟨p, _, rfl, SqL.of h2.hd, ?_⟩
              rw [show ((l.length : Int) - 1).toNat = l.length - 1 by omega]
              rw [c0, decide_eq_true c2, c3, Bool.true_and, Bool.true_and, Bool.true_and] at eD
              rw [← eD]
              exact q _ _ (l1.trans l2) h2.drop
          · rw [Bool.eq_false_iff.mpr c3]
            refine iteT' rfl ?_
            walk_at "v"
            rw [c0, decide_eq_true c2, Bool.eq_false_iff.mpr c3] at eD
            rw [show (false : Bool) = isAlphaD (.str (S l)) by rw [eD]; rfl]
            exact q _ _ l1 h2
      · rw [decide_eq_false c2]
        refine iteT' rfl ?_
        walk_at "v"
        rw [c0, decide_eq_false c2] at eD
        rw [show (false : Bool) = isAlphaD (.str (S l)) by rw [eD]; rfl]
        exact q _ _ (Same.refl B) hs
    · walk_at "v"
      refine iteT' rfl ?_
      walk_at "v"
      rw [Bool.eq_false_iff.mpr c0] at eD
      rw [show (false : Bool) = isAlphaD (.str (S l)) by rw [eD]; rfl]
      exact q _ _ (Same.refl B) hs
  | bool b => exact iteT' rfl (iteT (q _ _ (Same.refl B) hs))
  | none => exact iteT' rfl (iteT (q _ _ (Same.refl B) hs))
  | int x => exact iteT' rfl (iteT (q _ _ (Same.refl B) hs))
  | list x => exact iteT' rfl (iteT (q _ _ (Same.refl B) hs))
  | tuple x => exact iteT' rfl (iteT (q _ _ (Same.refl B) hs))
  | dict x => exact iteT' rfl (iteT (q _ _ (Same.refl B) hs))
section
variable {P : Program} {w : World} {K : PySem.W.Frag} {mg : Str → Option Value} {base : Heap}
theorem ok_p_is_alphabet (T : Txt K mg w) : FnOk P w K mg base CX0 1 T.a_p_is_alphabet T.fd_p_is_alphabet ["thing"] (sp_p_is_alphabet K) := by
  refine T.F_p_is_alphabet.ok sc_p_is_alphabet (fun vs H Q E h => ?_) (fun cdv A outer s H vs Q E hr h => ⟨t_p_is_alphabet K, ?_, pure_p_is_alphabet vs H Q E h⟩)
  · obtain ⟨B, M, v, d, rfl, _⟩ := h
    rfl
  · exact (pss_cons (ps_if (PW.pt (pw_or (pt_not (pt_val (pe_callB call_isi (by rfl) (T.free_isinstance) PyProof.Rows.boot_isinstance (pa_cons (pv 0) (pa_cons (pe_bltn (by rfl) (T.free_str) (by decide +kernel) rfl) pa_nil))))) (pw_or1 (pt_not (pt_chain op_le op_le pe_int (pe_callB call_len (by rfl) (T.free_len) (by decide +kernel) (pa_cons (pv 0) pa_nil)) (pe_callB call_len (by rfl) (T.free_len) (by decide +kernel) (pa_cons (pe_glob rfl T.c_LETTERS ⟨_, rfl⟩) pa_nil))))))) (pss_one (ps_ret pe_bl)) pss_nil)
      (pss_cons (ps_if (pt_not (pt_val (pe_callB (cr_all rfl) (by rfl) (T.free_all) (by decide +kernel) (pa_cons (pe_lc (own := [("letter", 1)]) (g := (gName 1)) (tt := tYes) rfl sc_p_is_alphabet.nd (pi_str (pv 0)) (blkOk_by (own := [("letter", 1)]) (N := n_p_is_alphabet) (sc := defScope s_p_is_alphabet) (by decide +kernel)) (fun _ _ _ _ _ => (pg_name (i := 1) sc_p_is_alphabet.nd rfl (Or.inl rfl))) (fun _ _ _ _ _ => pts_nil) (fun _ _ _ _ _ => (pe_cmpR op_in_sign (pv 1) (pe_glob rfl T.c_LETTERS ⟨_, rfl⟩) (by rfl)))) pa_nil)))) (pss_one (ps_ret pe_bl)) pss_nil)
      (pss_one (ps_ret (pe_callB (cr_all rfl) (by rfl) (T.free_all) (by decide +kernel) (pa_cons (pe_lc (own := [("k", 2)]) (g := (gName 2)) (tt := tYes) rfl sc_p_is_alphabet.nd (pi_range1 (by rfl) (T.free_range) (pa_cons (pe_op op_sub (pe_callB call_len (by rfl) (T.free_len) (by decide +kernel) (pa_cons (pv 0) pa_nil)) pe_int) pa_nil)) (blkOk_by (own := [("k", 2)]) (N := n_p_is_alphabet) (sc := defScope s_p_is_alphabet) (by decide +kernel)) (fun _ _ _ _ _ => (pg_name (i := 2) sc_p_is_alphabet.nd rfl (Or.inl rfl))) (fun _ _ _ _ _ => pts_nil) (fun _ _ _ _ _ => (pe_cmpR op_lt_str (pe_ix ix_str (pv 0) (pv 2) (fun _ _ => rfl)) (pe_ix ix_str (pv 0) (pe_op op_add (pv 2) pe_int) (fun _ _ => rfl)) (nomark _)))) pa_nil))))))
end
end K52
set_option Elab.async false
set_option linter.all false
set_option maxRecDepth 100000
set_option maxHeartbeats 4000000
namespace K52
open PySem PySem.Spec PyProof.Rows L2 Sh
open SX (S)
local macro_rules | `(tactic| walk_at "v1") => `(tactic| first
  | with_reducible refine v_seq ?_ | with_reducible refine v_asg ?_ | ((with_reducible refine' v_name ?e ?_); (case e => exact rfl)) | with_reducible refine v_ret ?_ | with_reducible refine v_drop ?_ | with_reducible refine v_next ?_
  | with_reducible refine v_if ?_ | with_reducible refine v_op ?_ | with_reducible refine v_c ?_ | ((with_reducible refine' v_var ?e ?_); (case e => exact rfl))
  | with_reducible refine v_I0 ?_ | with_reducible refine v_test ?_ | with_reducible refine v_B ?_ | with_reducible refine v_bl ?_ | with_reducible refine v_not ?_ | with_reducible refine v_and ?_ | with_reducible refine v_or ?_
  | with_reducible refine v_andV ?_ | with_reducible refine v_orV ?_ | with_reducible refine v_notV ?_ | with_reducible refine v_ife ?_
  | with_reducible refine v_nil ?_ | with_reducible refine v_cons ?_ | with_reducible refine v_tup ?_ | with_reducible refine v_lst ?_ | with_reducible refine v_call ?_ | with_reducible refine v_cb ?_ | with_reducible refine v_int ?_ | with_reducible refine v_abs ?_
  | ((with_reducible refine' v_eq ?e ?_); (case e => exact rfl)) | ((with_reducible refine' v_ne ?e ?_); (case e => exact rfl)) | with_reducible refine v_sub ?_ | with_reducible refine v_isN ?_ | with_reducible refine v_notN ?_
  | with_reducible refine v_part ?_ | with_reducible refine v_nopart ?_ | with_reducible refine v_pint ?_ | with_reducible refine v_inSg ?_ | with_reducible refine v_notInSg ?_
  | ((with_reducible refine' v_ixL ?l ?a ?_); (case l => assumption); (case a => exact at_lit _ rfl)) | ((with_reducible refine' v_ixT ?l ?a ?_); (case l => assumption); (case a => exact at_lit _ rfl))
  | ((with_reducible refine v_I ?c ?_); (case c => (first | omega | (unfold CMul; omega) | (unfold CDivN; omega) | (unfold CPow; omega))))
  | with_reducible refine v_for ?_ | with_reducible refine v_iList ?_ | with_reducible refine v_iTup ?_ | with_reducible refine v_iStr ?_ | with_reducible refine v_iR1 ?_ | with_reducible refine v_iR2 ?_ | with_reducible refine v_atS ?_ | with_reducible refine v_sl ?_ | with_reducible refine v_lc ?_ | with_reducible refine v_yes ?_
  | with_reducible refine v_m1 ?_ | with_reducible refine v_m1S ?_ | with_reducible refine v_bm ?_ | with_reducible refine v_bm0 ?_ | with_reducible refine v_dnewK ?_ | with_reducible refine v_dnewT ?_ | with_reducible refine v_dget ?_ | with_reducible refine v_din ?_ | with_reducible refine v_dnotin ?_ | with_reducible refine v_dput ?_ | with_reducible refine v_chain ?_ | with_reducible refine v_un ?_ | with_reducible refine v_neg ?_
  | with_reducible refine v_brk ?_ | with_reducible refine v_cont ?_
  | with_reducible refine v_fld ?_ | with_reducible refine v_sfld ?_ | with_reducible refine v_meth ?_ | with_reducible refine v_methT ?_ | with_reducible refine v_make ?_ | with_reducible refine v_makeT ?_ | with_reducible refine v_dget2 ?_ | with_reducible refine v_enumS ?_ | with_reducible refine v_enumQ ?_ | with_reducible refine v_lc2 ?_ | with_reducible refine v_isB ?_ | with_reducible refine v_notB ?_)
local macro_rules | `(tactic| walk_at "v") => `(tactic| repeat (walk_at "v1"))
local macro_rules | `(tactic| walk_at "vm") => `(tactic| repeat (first | ((with_reducible refine v_modP ?c ?_); (case c => omega); (intro _ _ _)) | walk_at "v1"))
local macro_rules | `(tactic| walk_at "iv") => `(tactic| (try dsimp only; refine IV.mk (by assumption) (by assumption) ?_))
local macro_rules | `(tactic| walk_at "n") => `(tactic| dsimp only [List.set_cons_zero, List.set_cons_succ])
/-- a thing is a row over al -/
def RowOk (al : List Nat) (d : PyData) : Prop := ∃ r : List Nat, d = .str (S r) ∧ r.length ≤ 200 ∧ ∀ c ∈ r, c ∈ al
/-- it is none: n is told -/
def RowBad (al : List Nat) (d : PyData) (n : Int) : Prop := ((∀ z, d ≠ .str z) ∧ n = -1) ∨ (∃ z, d = .str z ∧ 200 < z.length ∧ n = -1) ∨
  ∃ (r : List Nat) (i c : Nat), d = .str (S r) ∧ r.length ≤ 200 ∧ r[i]? = some c ∧ c ∉ al ∧ (∀ (j c : Nat), j < i → r[j]? = some c → c ∈ al) ∧ n = (i : Int)
theorem RowBad.not {al : List Nat} {d : PyData} {n : Int} (h : RowBad al d n) (g : RowOk al d) : False := by
  obtain ⟨r, rfl, r200, hr⟩ := g
  rcases h with ⟨h, _⟩ | ⟨z, e, h, _⟩ | ⟨r', i, c, e, h1, h2, h3, h4, _⟩
  · exact h _ rfl
  · cases e
    rw [S_length] at h
    omega
  · have e2 : r = r' := SX.S_inj (PyData.str.inj e)
    subst e2
    exact h3 (hr c (List.mem_of_getElem? h2))
theorem RowBad.uniq {al : List Nat} {d : PyData} {n m : Int} (h : RowBad al d n) (g : RowBad al d m) : n = m := by
  rcases h with ⟨h, rfl⟩ | ⟨z, rfl, h, rfl⟩ | ⟨r, i, c, rfl, h1, h2, h3, h4, rfl⟩ <;> rcases g with ⟨g, rfl⟩ | ⟨y, e, g, rfl⟩ | ⟨r', j, c', e, g1, g2, g3, g4, rfl⟩
  · rfl
  · rfl
  · exact absurd e (h _)
  · rfl
  · rfl
  · cases e
    rw [S_length] at h
    omega
  · exact absurd rfl (g _)
  · cases e
    rw [S_length] at g
    omega
  · have e2 : r = r' := SX.S_inj (PyData.str.inj e)
    subst e2
    rcases Nat.lt_trichotomy i j with c1 | c1 | c1
    · exact absurd (g4 i c c1 h2) h3
    · rw [c1]
    · exact absurd (h4 j c' c1 g2) g3
inductive COut where
  | alpha | row (n : Int) | long (n : Nat) | ok
def CheckD (da dr dq : PyData) : COut → Prop
  | .alpha => isAlphaD da = false
  | .row n => ∃ al, da = .str (S al) ∧ isAlphaD da = true ∧ (RowBad al dr n ∨ (RowOk al dr ∧ RowBad al dq n))
  | .long n => ∃ al r o, da = .str (S al) ∧ isAlphaD da = true ∧ dr = .str (S r) ∧ dq = .str (S o) ∧ RowOk al dr ∧ RowOk al dq ∧ ((12 < r.length ∧ n = r.length) ∨ (r.length ≤ 12 ∧ 12 < o.length ∧ n = o.length))
  | .ok => ∃ al r o, da = .str (S al) ∧ isAlphaD da = true ∧ dr = .str (S r) ∧ dq = .str (S o) ∧ RowOk al dr ∧ RowOk al dq ∧ r.length ≤ 12 ∧ o.length ≤ 12
section
variable {P : Program} {w : World} {K : PySem.W.Frag} {mg : Str → Option Value} {base : Heap}
/-! ### check_alphabet -/
def sp_p_check_alphabet (T : Txt K mg w) : Sp := fun vs H Q E => ∃ (B : Hp) (M : List (Addr × HO)) (v : V) (d : PyData), vs = [v] ∧ Hs B M H ∧ Rp K B v d ∧ (∀ z, d = .str z → z.length ≤ 1000000) ∧
  (isAlphaD d = true → ∀ (B' H' : Hp), Le B B' → Hs B' M H' → Q .non H') ∧ (isAlphaD d = false → Thr B M E T.a_BadAlphabet "thing" v)
def t_p_check_alphabet (T : Txt K mg w) (E : XK) : TS := (tIfS (tNot (tB (tCall (sp_p_is_alphabet K) [] E0 (tCons (tVar 0) tNil)))) (tRaiseX T.a_BadAlphabet "thing" gvA (fun cls d _ H => E cls d H) (tCons (tVar 0) tNil)) tNext)
theorem pure_p_check_alphabet (T : Txt K mg w) (vs : List V) (H : Hp) (Q : VK) (E : XK) (h : sp_p_check_alphabet T vs H Q E) : t_p_check_alphabet T E { nx := fun _ H' => Q .non H', rt := Q } (start n_p_check_alphabet vs) H := by
  obtain ⟨B, M, v, d, rfl, hs, hv, hz, q, x⟩ := h
  show t_p_check_alphabet T E _ [some v] H
  unfold t_p_check_alphabet
  walk_at "v"
  refine ⟨B, M, v, d, rfl, hs, hv, hz, fun B1 H1 l1 hs1 => ?_⟩
  walk_at "v"
  cases c0 : isAlphaD d with
  | true =>
    refine iteF' rfl ?_
    walk_at "v"
    exact q c0 B1 H1 l1 hs1
  | false =>
    refine iteT' rfl ?_
    exact v_raise hs1 trivial ((x c0).le l1) fun q h => ⟨_, rfl, h⟩
/-! ### check_row -/
def sp_p_check_row (T : Txt K mg w) : Sp := fun vs H Q E => ∃ (B : Hp) (M : List (Addr × HO)) (v : V) (al : List Nat) (d : PyData), vs = [.str (S al), v] ∧ Hs B M H ∧ Rp K B v d ∧ (∀ z, d = .str z → z.length ≤ 1000000) ∧
  (RowOk al d → ∀ (B' H' : Hp), Le B B' → Hs B' M H' → Q .non H') ∧ (∀ n, RowBad al d n → Thr B M E T.a_BadRow "at" (.int n))
def t_p_check_row (T : Txt K mg w) (E : XK) : TS := (tSeq (tIfS (tOr (tNot (tB (tCB (rIsi K) (tCons (tVar 1) (tCons (tC (.ty "str")) tNil))))) (tTest (tOp rGtI (tCB (rCLen K) (tCons (tVar 1) tNil)) (tC (.int 200))))) (tRaiseX T.a_BadRow "at" gvI (fun cls d _ H => E cls d H) (tCons (tUn (rU fun i => .int (-i)) (tC (.int 1))) tNil)) tNext)
    (tFor (iEnumS (tCons (tVar 1) tNil)) (gTup K 2 (gCons (gName 2) (gCons (gName 3) gNil))) (tIfS (tTest (tOp rNotInSg (tVar 3) (tVar 0))) (tRaiseX T.a_BadRow "at" gvI (fun cls d _ H => E cls d H) (tCons (tVar 2) tNil)) tNext)))
theorem pure_p_check_row (T : Txt K mg w) (vs : List V) (H : Hp) (Q : VK) (E : XK) (h : sp_p_check_row T vs H Q E) : t_p_check_row T E { nx := fun _ H' => Q .non H', rt := Q } (start n_p_check_row vs) H := by
  obtain ⟨B, M, v, al, d, rfl, hs, hv, hz, q, x⟩ := h
  show t_p_check_row T E _ [some (V.str (S al)), some v, none, none] H
  unfold t_p_check_row
  have m1 : (-1 : Int).natAbs ≤ 1000000 := by decide
  walk_at "v"
  refine v_isiS (hs.r hv) ?_
  walk_at "v"
  cases d with
  | str z =>
    obtain ⟨r, rfl⟩ : ∃ r, z = S r := ⟨z.cps.toList, (SX.S_tl z).symm⟩
    cases hv
    have hz1 := hz _ rfl
    rw [S_length] at hz1
    refine iteF' rfl ?_
    walk_at "v"
    refine v_lenS (sz_of (by rw [S_length]; exact hz1)) ?_
    walk_at "v"
    rw [S_length]
    refine ite2 (fun c0 => ?_) (fun c0 => ?_)
    · have c1 := of_decide_eq_true c0
      exact v_raise hs ⟨-1, rfl, m1⟩ (x _ (.inr (.inl ⟨_, rfl, by rw [S_length]; omega, rfl⟩))) fun q h => by walk_at "v"; exact h
    · have c1 : r.length ≤ 200 := by
        have : ¬ ((200 : Int) < (r.length : Nat)) := fun z => c0 (decide_eq_true z)
        omega
      walk_at "v"
      refine ⟨S r, rfl, v_forP hs (fun _ _ _ _ _ => trivial) (fun i σ' B' M' => M' = M ∧ (∀ (j c : Nat), j < i → r[j]? = some c → c ∈ al) ∧ ∃ y2 y3 : Option V, σ' = [some (V.str (S al)), some (V.str (S r)), y2, y3]) ⟨rfl, fun j c hj => absurd hj (Nat.not_lt_zero j), none, none, rfl⟩ ?_ ?_⟩
      · rintro i Tt x1 y σ' B' M' H' hi ex ey l eT hs' ⟨B2, -, -, rfl, hall, y2, y3, rfl⟩
        obtain rfl := Option.some.inj ex
        obtain ⟨c, hc, rfl⟩ : ∃ c, r[i]? = some c ∧ y = .str (S [c]) := by
          cases e : r[i]? with
          | none =>
            rw [show zipXs (S r) i = none by show (S r).cps[i]?.map _ = none; rw [S_get, e]; rfl] at ey
            cases ey
          | some c =>
            rw [show zipXs (S r) i = some (.str (S [c])) by show (S r).cps[i]?.map _ = _; rw [S_get, e]; rfl] at ey
            exact ⟨c, rfl, (Option.some.inj ey).symm⟩
        refine v_gTup2 (hs'.t (SqT.of eT)) ?_
        walk_at "v"
        refine ite2 (fun c2 => ?_) (fun c2 => ?_)
        · have hn : c ∉ al := by
            intro hm
            rw [decide_eq_true (show c ∈ (S al).cps.toList from hm)] at c2
            cases c2
          exact v_raise hs' ⟨(i : Int), rfl, by have := (List.getElem?_eq_some_iff.mp hc).1; omega⟩ ((x _ (.inr (.inr ⟨r, i, c, rfl, c1, hc, hn, hall, rfl⟩))).le l) fun q h => by walk_at "v"; exact h
        · have hm : c ∈ al := by
            by_cases hm : c ∈ al
            · exact hm
            · exact absurd (by rw [decide_eq_false (show ¬ c ∈ (S al).cps.toList from hm)]; rfl) c2
          walk_at "v"
          walk_at "iv"
          refine ⟨rfl, fun j c' hj e' => ?_, _, _, rfl⟩
          by_cases hji : j = i
          · subst hji
            rw [hc] at e'
            cases e'
            exact hm
          · exact hall j c' (by omega) e'
      · rintro σ' B' M' H' l hs' ⟨rfl, hall, y2, y3, rfl⟩
        refine q ⟨r, rfl, c1, fun c hc => ?_⟩ B' H' l hs'
        obtain ⟨j, e⟩ := List.getElem?_of_mem hc
        exact hall j c (by rw [S_size]; exact (List.getElem?_eq_some_iff.mp e).1) e
  | bool b =>
    refine iteT' rfl ?_
    walk_at "v"
    refine iteT' rfl ?_
    exact v_raise hs ⟨-1, rfl, m1⟩ (x _ (.inl ⟨fun z h => (nomatch h), rfl⟩)) fun q h => by walk_at "v"; exact h
  | none =>
    refine iteT' rfl ?_
    walk_at "v"
    refine iteT' rfl ?_
    exact v_raise hs ⟨-1, rfl, m1⟩ (x _ (.inl ⟨fun z h => (nomatch h), rfl⟩)) fun q h => by walk_at "v"; exact h
  | int i =>
    refine iteT' rfl ?_
    walk_at "v"
    refine iteT' rfl ?_
    exact v_raise hs ⟨-1, rfl, m1⟩ (x _ (.inl ⟨fun z h => (nomatch h), rfl⟩)) fun q h => by walk_at "v"; exact h
  | list i =>
    refine iteT' rfl ?_
    walk_at "v"
    refine iteT' rfl ?_
    exact v_raise hs ⟨-1, rfl, m1⟩ (x _ (.inl ⟨fun z h => (nomatch h), rfl⟩)) fun q h => by walk_at "v"; exact h
  | tuple i =>
    refine iteT' rfl ?_
    walk_at "v"
    refine iteT' rfl ?_
    exact v_raise hs ⟨-1, rfl, m1⟩ (x _ (.inl ⟨fun z h => (nomatch h), rfl⟩)) fun q h => by walk_at "v"; exact h
  | dict i =>
    refine iteT' rfl ?_
    walk_at "v"
    refine iteT' rfl ?_
    exact v_raise hs ⟨-1, rfl, m1⟩ (x _ (.inl ⟨fun z h => (nomatch h), rfl⟩)) fun q h => by walk_at "v"; exact h
/-! ### check_place -/
def sp_p_check_place (T : Txt K mg w) : Sp := fun vs H Q E => ∃ (B : Hp) (M : List (Addr × HO)) (v : V) (r : List Nat) (d : PyData), vs = [.str (S r), v] ∧ Hs B M H ∧ Rp K B v d ∧ r.length ≤ 1000 ∧
  (isIntIn 0 ((r.length : Nat) - 1) d = true → ∀ (B' H' : Hp), Le B B' → Hs B' M H' → Q .non H') ∧ (isIntIn 0 ((r.length : Nat) - 1) d = false → Thr B M E T.a_BadPlace "thing" v)
def t_p_check_place (T : Txt K mg w) (E : XK) : TS := (tIfS (tNot (tB (tCall (sp_p_is_integer K) [] E0 (tCons (tVar 1) (tCons (tC (.int 0)) (tCons (tOp rSubI (tCB (rCLen K) (tCons (tVar 0) tNil)) (tC (.int 1))) tNil)))))) (tRaiseX T.a_BadPlace "thing" gvA (fun cls d _ H => E cls d H) (tCons (tVar 1) tNil)) tNext)
theorem pure_p_check_place (T : Txt K mg w) (vs : List V) (H : Hp) (Q : VK) (E : XK) (h : sp_p_check_place T vs H Q E) : t_p_check_place T E { nx := fun _ H' => Q .non H', rt := Q } (start n_p_check_place vs) H := by
  obtain ⟨B, M, v, r, d, rfl, hs, hv, hr, q, x⟩ := h
  show t_p_check_place T E _ [some (V.str (S r)), some v] H
  unfold t_p_check_place
  walk_at "v"
  refine v_lenS (sz_of (by rw [S_length]; omega)) ?_
  walk_at "v"
  refine ⟨v, d, 0, ((r.length : Nat) : Int) - 1, by rw [S_length]; rfl, hs.r hv, ?_⟩
  walk_at "v"
  cases c0 : isIntIn 0 (((r.length : Nat) : Int) - 1) d with
  | true =>
    refine iteF' rfl ?_
    walk_at "v"
    exact q c0 B H (Same.refl _) hs
  | false =>
    refine iteT' rfl ?_
    exact v_raise hs trivial (x c0) fun q h => ⟨_, rfl, h⟩
/-! ### check_contest -/
def CThr (T : Txt K mg w) (B : Hp) (M : List (Addr × HO)) (E : XK) (va : V) : COut → Prop
  | .alpha => Thr B M E T.a_BadAlphabet "thing" va
  | .row n => Thr B M E T.a_BadRow "at" (.int n)
  | .long n => Thr B M E T.a_TooLong "number" (.int (n : Int))
  | .ok => False
def sp_p_check_contest (T : Txt K mg w) : Sp := fun vs H Q E => ∃ (B : Hp) (M : List (Addr × HO)) (va vr vo : V) (da dr dq : PyData) (o : COut), vs = [va, vr, vo] ∧ Hs B M H ∧ Rp K B va da ∧ Rp K B vr dr ∧ Rp K B vo dq ∧ (∀ z, da = .str z → z.length ≤ 1000000) ∧ (∀ z, dr = .str z → z.length ≤ 1000000) ∧ (∀ z, dq = .str z → z.length ≤ 1000000) ∧
  CheckD da dr dq o ∧ (o = .ok → ∀ (B' H' : Hp), Le B B' → Hs B' M H' → Q .non H') ∧ (o ≠ .ok → CThr T B M E va o)
def t_p_check_contest (T : Txt K mg w) (E : XK) : TS := (tSeq (tDrop (tCall (sp_p_check_alphabet T) [] E (tCons (tVar 0) tNil)))
    (tSeq (tDrop (tCall (sp_p_check_row T) [] E (tCons (tVar 0) (tCons (tVar 1) tNil))))
    (tSeq (tDrop (tCall (sp_p_check_row T) [] E (tCons (tVar 0) (tCons (tVar 2) tNil))))
    (tFor (iTup K (tTup (tCons (tVar 1) (tCons (tVar 2) tNil)))) (gName 3) (tIfS (tTest (tOp rGtI (tCB (rCLen K) (tCons (tVar 3) tNil)) (tC (.int 12)))) (tRaiseX T.a_TooLong "number" gvA (fun cls d _ H => E cls d H) (tCons (tCB (rCLen K) (tCons (tVar 3) tNil)) tNil)) tNext)))))
theorem pure_p_check_contest (T : Txt K mg w) (vs : List V) (H : Hp) (Q : VK) (E : XK) (h : sp_p_check_contest T vs H Q E) : t_p_check_contest T E { nx := fun _ H' => Q .non H', rt := Q } (start n_p_check_contest vs) H := by
  obtain ⟨B, M, va, vr, vo, da, dr, dq, o, rfl, hs, hva, hvr, hvo, za, zr, zo, ck, q, x⟩ := h
  show t_p_check_contest T E _ [some va, some vr, some vo, none] H
  unfold t_p_check_contest
  walk_at "v"
  have al_of : o ≠ .alpha → ∃ al, da = .str (S al) ∧ isAlphaD da = true := fun h => by
    cases o with
    | alpha => exact absurd rfl h
    | row n => obtain ⟨al, e1, e2, _⟩ := ck; exact ⟨al, e1, e2⟩
    | long n => obtain ⟨al, r, o, e1, e2, _⟩ := ck; exact ⟨al, e1, e2⟩
    | ok => obtain ⟨al, r, o, e1, e2, _⟩ := ck; exact ⟨al, e1, e2⟩
  refine ⟨B, M, va, da, rfl, hs, hva, za, fun hA B1 H1 l1 h1 => ?_, fun hA => ?_⟩
  rotate_left
  · cases o with
    | alpha => exact x (fun z => nomatch z)
    | row n => obtain ⟨al, e1, e2⟩ := al_of (fun z => nomatch z); rw [e2] at hA; cases hA
    | long n => obtain ⟨al, e1, e2⟩ := al_of (fun z => nomatch z); rw [e2] at hA; cases hA
    | ok => obtain ⟨al, e1, e2⟩ := al_of (fun z => nomatch z); rw [e2] at hA; cases hA
  have hno : o ≠ .alpha := by
    rintro rfl
    rw [show isAlphaD da = false from ck] at hA
    cases hA
  obtain ⟨al, rfl, -⟩ := al_of hno
  cases hva
  walk_at "v"
  refine ⟨B1, M, vr, al, dr, rfl, h1, hvr.up l1, zr, fun hR B2 H2 l2 h2 => ?_, fun n hB => ?_⟩
  rotate_left
  · have hb : o = .row n := by
      cases o with
      | alpha => exact absurd rfl hno
      | row m =>
        obtain ⟨al', e, _, h2 | ⟨h2, _⟩⟩ := ck
        · rw [← SX.S_inj (PyData.str.inj e)] at h2
          rw [hB.uniq h2]
        · rw [← SX.S_inj (PyData.str.inj e)] at h2
          exact (hB.not h2).elim
      | long m =>
        obtain ⟨al', r, o, e, _, _, _, h2, _⟩ := ck
        rw [← SX.S_inj (PyData.str.inj e)] at h2
        exact (hB.not h2).elim
      | ok =>
        obtain ⟨al', r, o, e, _, _, _, h2, _⟩ := ck
        rw [← SX.S_inj (PyData.str.inj e)] at h2
        exact (hB.not h2).elim
    subst hb
    exact (x (fun z => nomatch z) : Thr B M E T.a_BadRow "at" (.int n)).le l1
  walk_at "v"
  refine ⟨B2, M, vo, al, dq, rfl, h2, hvo.up (l1.trans l2), zo, fun hO B3 H3 l3 h3 => ?_, fun n hB => ?_⟩
  rotate_left
  · have hb : o = .row n := by
      cases o with
      | alpha => exact absurd rfl hno
      | row m =>
        obtain ⟨al', e, _, h2 | ⟨_, h2⟩⟩ := ck
        · rw [← SX.S_inj (PyData.str.inj e)] at h2
          exact (h2.not hR).elim
        · rw [← SX.S_inj (PyData.str.inj e)] at h2
          rw [hB.uniq h2]
      | long m =>
        obtain ⟨al', r, o, e, _, _, _, _, h2, _⟩ := ck
        rw [← SX.S_inj (PyData.str.inj e)] at h2
        exact (hB.not h2).elim
      | ok =>
        obtain ⟨al', r, o, e, _, _, _, _, h2, _⟩ := ck
        rw [← SX.S_inj (PyData.str.inj e)] at h2
        exact (hB.not h2).elim
    subst hb
    exact (x (fun z => nomatch z) : Thr B M E T.a_BadRow "at" (.int n)).le (l1.trans l2)
  have hlen : ∃ (r oo : List Nat), dr = .str (S r) ∧ dq = .str (S oo) ∧ r.length ≤ 200 ∧ oo.length ≤ 200 ∧ (12 < r.length → o = .long r.length) ∧ (r.length ≤ 12 → 12 < oo.length → o = .long oo.length) ∧ (r.length ≤ 12 → oo.length ≤ 12 → o = .ok) := by
    obtain ⟨r, rfl, r200, hr⟩ := id hR
    obtain ⟨oo, rfl, o200, ho⟩ := id hO
    refine ⟨r, oo, rfl, rfl, r200, o200, ?_⟩
    cases o with
    | alpha => exact absurd rfl hno
    | row m =>
      obtain ⟨al', e, _, h2 | ⟨_, h2⟩⟩ := ck
      · rw [← SX.S_inj (PyData.str.inj e)] at h2
        exact (h2.not hR).elim
      · rw [← SX.S_inj (PyData.str.inj e)] at h2
        exact (h2.not hO).elim
    | long m =>
      obtain ⟨al', r', o', e, _, e1, e2, _, _, h2⟩ := ck
      have e1 := SX.S_inj (PyData.str.inj e1)
      have e2 := SX.S_inj (PyData.str.inj e2)
      subst e1 e2
      rcases h2 with ⟨h2, rfl⟩ | ⟨h2, h3, rfl⟩
      · exact ⟨fun _ => rfl, fun h => by omega, fun h => by omega⟩
      · exact ⟨fun h => by omega, fun _ _ => rfl, fun _ h => by omega⟩
    | ok =>
      obtain ⟨al', r', o', e, _, e1, e2, _, _, h2, h3⟩ := ck
      have e1 := SX.S_inj (PyData.str.inj e1)
      have e2 := SX.S_inj (PyData.str.inj e2)
      subst e1 e2
      exact ⟨fun h => by omega, fun _ h => by omega, fun _ _ => rfl⟩
  obtain ⟨r, oo, rfl, rfl, r200, o200, hl1, hl2, hl3⟩ := hlen
  cases hvr
  cases hvo
  walk_at "v"
  refine v_size (by show 2 ≤ sizeLine; decide) (v_newB h3 fun t B4 H4 l4 h4 e4 => ?_)
  refine v_atT (h4.t (SqT.of e4)) (v_forT (SqT.of e4) h4 (fun i σ' B' M' => M' = M ∧ (1 ≤ i → r.length ≤ 12) ∧ (2 ≤ i → oo.length ≤ 12) ∧ ∃ y : Option V, σ' = [some (V.str (S al)), some (V.str (S r)), some (V.str (S oo)), y]) ⟨rfl, fun h => absurd h (by decide), fun h => absurd h (by decide), none, rfl⟩ ?_ ?_)
  · rintro i v σ' B5 M' H5 hi ev l5 h5 ⟨rfl, i1, i2, y, rfl⟩
    have l05 := (l1.trans l2).trans (l3.trans (l4.trans l5))
    rcases (show i = 0 ∨ i = 1 by have : i < 2 := hi; omega) with rfl | rfl
    · cases ev
      walk_at "v"
      refine v_lenS (sz_of (by rw [S_length]; omega)) ?_
      walk_at "v"
      rw [S_length]
      refine ite2 (fun c0 => ?_) (fun c0 => ?_)
      · have c1 : 12 < r.length := by have := of_decide_eq_true c0; omega
        have ho := hl1 c1
        subst ho
        refine v_raise h5 trivial ((x (fun z => nomatch z) : Thr B _ E T.a_TooLong "number" (.int (r.length : Int))).le l05) fun q h => ?_
        walk_at "v"
        refine v_lenS (sz_of (by rw [S_length]; omega)) ?_
        rw [S_length]
        exact h
      · have c1 : r.length ≤ 12 := by
          have : ¬ ((12 : Int) < (r.length : Nat)) := fun z => c0 (decide_eq_true z)
          omega
        walk_at "v"
        walk_at "iv"
        exact ⟨rfl, fun _ => c1, fun h => absurd h (by decide), _, rfl⟩
    · cases ev
      walk_at "v"
      refine v_lenS (sz_of (by rw [S_length]; omega)) ?_
      walk_at "v"
      rw [S_length]
      refine ite2 (fun c0 => ?_) (fun c0 => ?_)
      · have c1 : 12 < oo.length := by have := of_decide_eq_true c0; omega
        have ho := hl2 (i1 (Nat.le_refl _)) c1
        subst ho
        refine v_raise h5 trivial ((x (fun z => nomatch z) : Thr B _ E T.a_TooLong "number" (.int (oo.length : Int))).le l05) fun q h => ?_
        walk_at "v"
        refine v_lenS (sz_of (by rw [S_length]; omega)) ?_
        rw [S_length]
        exact h
      · have c1 : oo.length ≤ 12 := by
          have : ¬ ((12 : Int) < (oo.length : Nat)) := fun z => c0 (decide_eq_true z)
          omega
        walk_at "v"
        walk_at "iv"
        exact ⟨rfl, fun _ => i1 (Nat.le_refl _), fun _ => c1, _, rfl⟩
  · rintro σ' B5 M' H5 l5 h5 ⟨rfl, i1, i2, y, rfl⟩
    exact q (hl3 (i1 (by show 1 ≤ 2; decide)) (i2 (Nat.le_refl 2))) B5 H5 ((l1.trans l2).trans (l3.trans (l4.trans l5))) h5
/-! ### the defs -/
theorem ok_p_check_alphabet (T : Txt K mg w) (TX : TxtX T P) : FnOk P w K mg base (L2N.CX P w) 4 T.a_p_check_alphabet T.fd_p_check_alphabet ["thing"] (sp_p_check_alphabet T) := by
  refine okN_of T.F_p_check_alphabet sc_p_check_alphabet (fun vs H Q E h => ?_) (fun cdv A outer s H vs Q E hr h => ⟨t_p_check_alphabet T E, ?_, pure_p_check_alphabet T vs H Q E h⟩)
  · obtain ⟨B, M, v, d, rfl, _⟩ := h
    rfl
  · exact (pss_one (ps_if (pt_not (pt_val (pe_call (ok_p_is_alphabet T) (hr.mono (by decide)) (by rfl) T.g_p_is_alphabet T.F_p_is_alphabet.kp T.b_p_is_alphabet .nil pass0 (pa_cons (pv 0) pa_nil)))) (pss_one (ps_raiseN rfl TX.x_BadAlphabet T.g_BadAlphabet T.free_super gvA_ok (depth_of hr) (L2N.takes_of rfl rfl rfl rfl) (pa_cons (pv 0) pa_nil) (by rfl))) pss_nil))
theorem ok_p_check_row (T : Txt K mg w) (TX : TxtX T P) : FnOk P w K mg base (L2.CX P w) 2 T.a_p_check_row T.fd_p_check_row ["alphabet", "thing"] (sp_p_check_row T) := by
  refine T.F_p_check_row.okX sc_p_check_row (fun vs H Q E h => ?_) (fun cdv A outer s H vs Q E hr h => ⟨t_p_check_row T E, ?_, pure_p_check_row T vs H Q E h⟩)
  · obtain ⟨B, M, v, al, d, rfl, _⟩ := h
    rfl
  · exact (pss_cons (ps_if (PW.pt (pw_or (pt_not (pt_val (pe_callB call_isi (by rfl) (T.free_isinstance) PyProof.Rows.boot_isinstance (pa_cons (pv 1) (pa_cons (pe_bltn (by rfl) (T.free_str) (by decide +kernel) rfl) pa_nil))))) (pw_or1 (pt_cmpR op_gt (pe_callB call_len (by rfl) (T.free_len) (by decide +kernel) (pa_cons (pv 1) pa_nil)) (pe_glob rfl T.c_LONGEST ⟨_, rfl⟩) (nomark _))))) (pss_one (ps_raiseZ rfl TX.x_BadRow T.g_BadRow T.free_super gvI_ok (depth_of hr) (L2.takes_of rfl rfl rfl rfl) (pa_cons (pe_un un_neg pe_int) pa_nil) (by rfl))) pss_nil)
      (pss_one (ps_for (passes_of rfl) rfl (pi_enumS (by rfl) (T.free_enumerate) (pa_cons (pv 1) pa_nil)) (pg_tup rfl (pgs_cons (pg_name (i := 2) sc_p_check_row.nd rfl (by first | exact Or.inl rfl | exact Or.inr rfl)) (pgs_cons (pg_name (i := 3) sc_p_check_row.nd rfl (by first | exact Or.inl rfl | exact Or.inr rfl)) pgs_nil))) (pss_one (ps_if (pt_cmpR op_notIn_sign (pv 3) (pv 0) (by rfl)) (pss_one (ps_raiseZ rfl TX.x_BadRow T.g_BadRow T.free_super gvI_ok (depth_of hr) (L2.takes_of rfl rfl rfl rfl) (pa_cons (pv 2) pa_nil) (by rfl))) pss_nil)))))
theorem ok_p_check_place (T : Txt K mg w) (TX : TxtX T P) : FnOk P w K mg base (L2.CX P w) 2 T.a_p_check_place T.fd_p_check_place ["row", "thing"] (sp_p_check_place T) := by
  refine T.F_p_check_place.okX sc_p_check_place (fun vs H Q E h => ?_) (fun cdv A outer s H vs Q E hr h => ⟨t_p_check_place T E, ?_, pure_p_check_place T vs H Q E h⟩)
  · obtain ⟨B, M, v, r, d, rfl, _⟩ := h
    rfl
  · exact (pss_one (ps_if (pt_not (pt_val (pe_call (ok_p_is_integer T) hr (by rfl) T.g_p_is_integer T.F_p_is_integer.kp T.b_p_is_integer .nil pass0 (pa_cons (pv 1) (pa_cons pe_int (pa_cons (pe_op op_sub (pe_callB call_len (by rfl) (T.free_len) (by decide +kernel) (pa_cons (pv 0) pa_nil)) pe_int) pa_nil)))))) (pss_one (ps_raiseZ rfl TX.x_BadPlace T.g_BadPlace T.free_super gvA_ok (depth_of hr) (L2.takes_of rfl rfl rfl rfl) (pa_cons (pv 1) pa_nil) (by rfl))) pss_nil))
theorem ok_p_check_contest (T : Txt K mg w) (TX : TxtX T P) : FnOk P w K mg base (L2.CX P w) 5 T.a_p_check_contest T.fd_p_check_contest ["alphabet", "row", "other"] (sp_p_check_contest T) := by
  refine T.F_p_check_contest.okX sc_p_check_contest (fun vs H Q E h => ?_) (fun cdv A outer s H vs Q E hr h => ⟨t_p_check_contest T E, ?_, pure_p_check_contest T vs H Q E h⟩)
  · obtain ⟨B, M, va, vr, vo, da, dr, dq, o, rfl, _⟩ := h
    rfl
  · exact (pss_cons (ps_expr (pe_call (toZ (ok_p_check_alphabet T TX)) hr (by rfl) T.g_p_check_alphabet T.F_p_check_alphabet.kp T.b_p_check_alphabet .nil (L2.passes_call (L2.takes_of rfl rfl rfl rfl) (fun _ _ _ _ h => h)) (pa_cons (pv 0) pa_nil)))
      (pss_cons (ps_expr (pe_call (ok_p_check_row T TX) (hr.mono (by decide)) (by rfl) T.g_p_check_row T.F_p_check_row.kp T.b_p_check_row .nil (L2.passes_call (L2.takes_of rfl rfl rfl rfl) (fun _ _ _ _ h => h)) (pa_cons (pv 0) (pa_cons (pv 1) pa_nil))))
      (pss_cons (ps_expr (pe_call (ok_p_check_row T TX) (hr.mono (by decide)) (by rfl) T.g_p_check_row T.F_p_check_row.kp T.b_p_check_row .nil (L2.passes_call (L2.takes_of rfl rfl rfl rfl) (fun _ _ _ _ h => h)) (pa_cons (pv 0) (pa_cons (pv 2) pa_nil))))
      (pss_one (ps_for (passes_of rfl) rfl (pi_tup (pe_tup (pa_cons (pv 1) (pa_cons (pv 2) pa_nil)))) (pg_name (i := 3) sc_p_check_contest.nd rfl (by first | exact Or.inl rfl | exact Or.inr rfl)) (pss_one (ps_if (pt_cmpR op_gt (pe_callB call_len (by rfl) (T.free_len) (by decide +kernel) (pa_cons (pv 3) pa_nil)) (pe_glob rfl T.c_LC ⟨_, rfl⟩) (nomark _)) (pss_one (ps_raiseZ rfl TX.x_TooLong T.g_TooLong T.free_super gvA_ok (depth_of hr) (L2.takes_of rfl rfl rfl rfl) (pa_cons (pe_callB call_len (by rfl) (T.free_len) (by decide +kernel) (pa_cons (pv 3) pa_nil)) pa_nil) (by rfl))) pss_nil)))))))
end
end K52
set_option Elab.async false
set_option linter.all false
set_option maxRecDepth 100000
/-! levels of pairs of places, going down -/
namespace Sh
open PySem PySem.Spec PyProof.Rows L2
open SX (S)
abbrev Rel := Nat → Nat → Bool
def bey (later : Bool) (k n : Nat) : List Nat := if later = true then (List.range (n - (k + 1))).map (fun i => k + 1 + i) else (List.range k).map (fun i => k - 1 - i)
def fnd (line : Nat → Bool) (cov : Nat → Bool) : List Nat → Bool
  | [] => false
  | p :: ps => line p || (cov p && fnd line cov ps)
def brd (cov : Nat → Bool) : List Nat → List Nat
  | [] => []
  | p :: ps => if cov p = true then p :: brd cov ps else [p]
def more (near : Rel) (others : List Nat) (one : Nat) (cov : Nat → Bool) : Nat → Bool := fun p => cov p || (decide (p ∈ others) && near one p)
def ans (near : Rel) (others : List Nat) : (Nat → Bool) → List Nat → Bool
  | _, [] => true
  | cov, one :: ones => fnd (near one) cov others && ans near others (more near others one cov) ones
def barOf (cov : Nat → Bool) (l : List Nat) : Option Nat := match l.getLast? with
  | some p => if cov p = true then none else some p
  | none => none
def una (near : Rel) (others : List Nat) : Nat → (Nat → Bool) → List Nat → Option (Nat × Nat × List Nat × Option Nat)
  | _, _, [] => none
  | at_, cov, one :: ones => if fnd (near one) cov others = true then una near others (at_ + 1) (more near others one cov) ones else some (one, at_, brd cov others, barOf cov (brd cov others))
theorem una_ans (near : Rel) (others : List Nat) : ∀ (ones : List Nat) (at_ : Nat) (cov : Nat → Bool), (una near others at_ cov ones).isNone = ans near others cov ones
  | [], _, _ => rfl
  | one :: ones, at_, cov => by
    unfold una ans
    cases h : fnd (near one) cov others with
    | true => rw [if_pos rfl, una_ans near others ones, Bool.true_and]
    | false => rw [if_neg (by decide), Bool.false_and]; rfl
def flp (f : Rel) : Rel := fun a b => f b a
def noC : Nat → Bool := fun _ => false
def stay1 (n m : Nat) (f : Rel) (k j : Nat) (later : Bool) : Bool := ans f (bey later j m) noC (bey later k n) && ans (flp f) (bey later k n) noC (bey later j m)
def stays (n m : Nat) (f : Rel) (k j : Nat) : Bool := stay1 n m f k j true && stay1 n m f k j false
def next (n m : Nat) (f : Rel) : Rel := fun k j => f k j && stays n m f k j
/-! ### on places alone -/
theorem bey_lt {later : Bool} {k n p : Nat} (hk : k < n) (h : p ∈ bey later k n) : p < n := by
  unfold bey at h
  split at h
  · obtain ⟨i, hi, rfl⟩ := List.mem_map.mp h
    have := List.mem_range.mp hi
    omega
  · obtain ⟨i, hi, rfl⟩ := List.mem_map.mp h
    have := List.mem_range.mp hi
    omega
theorem bey_len {later : Bool} {k n : Nat} (hk : k < n) : (bey later k n).length < n := by
  unfold bey
  split <;> simp <;> omega
theorem fnd_congr {l1 l2 c1 c2 : Nat → Bool} : ∀ {ps : List Nat}, (∀ p ∈ ps, l1 p = l2 p) → (∀ p ∈ ps, c1 p = c2 p) → fnd l1 c1 ps = fnd l2 c2 ps
  | [], _, _ => rfl
  | p :: ps, h1, h2 => by
    unfold fnd
    rw [h1 p (by simp), h2 p (by simp), fnd_congr (ps := ps) (fun q hq => h1 q (by simp [hq])) (fun q hq => h2 q (by simp [hq]))]
theorem ans_congr {f g : Rel} {others : List Nat} : ∀ {ones : List Nat} {c1 c2 : Nat → Bool}, (∀ a ∈ ones, ∀ b ∈ others, f a b = g a b) → (∀ p ∈ others, c1 p = c2 p) → ans f others c1 ones = ans g others c2 ones
  | [], _, _, _, _ => rfl
  | one :: ones, c1, c2, h1, h2 => by
    unfold ans
    rw [fnd_congr (h1 one (by simp)) h2, ans_congr (ones := ones) (c2 := more g others one c2) (fun a ha => h1 a (by simp [ha])) fun p hp => by
      unfold more
      rw [h2 p hp]
      by_cases hm : p ∈ others
      · rw [h1 one (by simp) p hm]
      · exact absurd hp hm]
theorem stay1_congr {n m k j : Nat} {f g : Rel} {later : Bool} (h : ∀ a b, a < n → b < m → f a b = g a b) (hk : k < n) (hj : j < m) : stay1 n m f k j later = stay1 n m g k j later := by
  unfold stay1
  rw [ans_congr (f := f) (g := g) (c2 := noC) (fun a ha b hb => h a b (bey_lt hk ha) (bey_lt hj hb)) fun _ _ => rfl,
    ans_congr (f := flp f) (g := flp g) (c2 := noC) (fun a ha b hb => h b a (bey_lt hk hb) (bey_lt hj ha)) fun _ _ => rfl]
theorem stays_congr {n m k j : Nat} {f g : Rel} (h : ∀ a b, a < n → b < m → f a b = g a b) (hk : k < n) (hj : j < m) : stays n m f k j = stays n m g k j := by
  unfold stays
  rw [stay1_congr h hk hj, stay1_congr h hk hj]
/-! ### as lists of pairs, as tables -/
def cellsR (m : Nat) (f : Rel) (k : Nat) : List (Nat × Nat) := ((List.range m).filter (f k)).map fun j => (k, j)
def cells (n m : Nat) (f : Rel) : List (Nat × Nat) := (List.range n).flatMap (cellsR m f)
def tab (n m : Nat) (f : Rel) : List (List Bool) := (List.range n).map fun k => (List.range m).map (f k)
theorem mem_cells {n m : Nat} {f : Rel} {p : Nat × Nat} : p ∈ cells n m f ↔ p.1 < n ∧ p.2 < m ∧ f p.1 p.2 = true := by
  unfold cells cellsR
  rw [List.mem_flatMap]
  constructor
  · rintro ⟨k, hk, hp⟩
    obtain ⟨j, hj, rfl⟩ := List.mem_map.mp hp
    rw [List.mem_filter] at hj
    exact ⟨List.mem_range.mp hk, List.mem_range.mp hj.1, hj.2⟩
  · rintro ⟨h1, h2, h3⟩
    exact ⟨p.1, List.mem_range.mpr h1, List.mem_map.mpr ⟨p.2, List.mem_filter.mpr ⟨List.mem_range.mpr h2, h3⟩, rfl⟩⟩
theorem cells_congr {n m : Nat} {f g : Rel} (h : ∀ a b, a < n → b < m → f a b = g a b) : cells n m f = cells n m g := by
  unfold cells cellsR
  rw [List.flatMap_def, List.flatMap_def]
  congr 1
  refine List.map_congr_left fun k hk => ?_
  congr 1
  exact List.filter_congr fun j hj => h k j (List.mem_range.mp hk) (List.mem_range.mp hj)
theorem cells_inj {n m : Nat} {f g : Rel} (h : cells n m f = cells n m g) {a b : Nat} (ha : a < n) (hb : b < m) : f a b = g a b := by
  have e : f a b = true ↔ g a b = true := by
    have h1 := mem_cells (n := n) (m := m) (f := f) (p := (a, b))
    have h2 := mem_cells (n := n) (m := m) (f := g) (p := (a, b))
    rw [h] at h1
    exact ⟨fun z => (h2.mp (h1.mpr ⟨ha, hb, z⟩)).2.2, fun z => (h1.mp (h2.mpr ⟨ha, hb, z⟩)).2.2⟩
  cases h1 : f a b <;> cases h2 : g a b <;> simp_all
theorem cells_filter {n m : Nat} (f : Rel) (q : Nat × Nat → Bool) : (cells n m f).filter q = cells n m fun k j => f k j && q (k, j) := by
  unfold cells
  rw [List.filter_flatMap]
  rw [List.flatMap_def, List.flatMap_def]
  congr 1
  refine List.map_congr_left fun k _ => ?_
  show (cellsR m f k).filter q = cellsR m _ k
  unfold cellsR
  rw [List.filter_map, List.filter_filter]
  congr 1
  refine List.filter_congr fun j _ => ?_
  exact Bool.and_comm _ _
theorem cells_len {n m : Nat} (f : Rel) : (cells n m f).length ≤ n * m := by
  unfold cells
  induction n with
  | zero => simp
  | succ n ih =>
    rw [List.range_succ, List.flatMap_append, List.length_append, Nat.succ_mul]
    have : (([n].flatMap (cellsR m f))).length ≤ m := by
      simp only [List.flatMap_cons, List.flatMap_nil, List.append_nil, cellsR, List.length_map]
      exact Nat.le_trans (List.length_filter_le _ _) (by simp)
    omega
theorem tab_len (n m : Nat) (f : Rel) : (tab n m f).length = n := by unfold tab; simp
theorem tab_row {n m k : Nat} (f : Rel) (hk : k < n) : (tab n m f).getD k [] = (List.range m).map (f k) := by
  unfold tab
  rw [List.getD_eq_getElem?_getD, List.getElem?_map, List.getElem?_range hk]
  rfl
theorem tab_get {n m k j : Nat} (f : Rel) (hk : k < n) (hj : j < m) : ((tab n m f).getD k []).getD j false = f k j := by
  rw [tab_row f hk, List.getD_eq_getElem?_getD, List.getElem?_map, List.getElem?_range hj]
  rfl
theorem tab_congr {n m : Nat} {f g : Rel} (h : ∀ a b, a < n → b < m → f a b = g a b) : tab n m f = tab n m g := by
  unfold tab
  exact List.map_congr_left fun k hk => List.map_congr_left fun j hj => h k j (List.mem_range.mp hk) (List.mem_range.mp hj)
theorem tab_inj {n m : Nat} {f g : Rel} (h : tab n m f = tab n m g) {a b : Nat} (ha : a < n) (hb : b < m) : f a b = g a b := by
  rw [← tab_get f ha hb, h, tab_get g ha hb]
theorem tab_cells {n m : Nat} {f g : Rel} : tab n m f = tab n m g ↔ cells n m f = cells n m g :=
  ⟨fun h => cells_congr fun a b ha hb => tab_inj h ha hb, fun h => tab_congr fun a b ha hb => cells_inj h ha hb⟩
/-! ### going down -/
theorem next_le {n m : Nat} (f : Rel) : (cells n m (next n m f)).length ≤ (cells n m f).length := by
  have e : cells n m (next n m f) = (cells n m f).filter fun p => stays n m f p.1 p.2 := (cells_filter f fun p => stays n m f p.1 p.2).symm
  rw [e]
  exact List.length_filter_le _ _
theorem next_lt {n m : Nat} {f : Rel} (h : cells n m (next n m f) ≠ cells n m f) : (cells n m (next n m f)).length < (cells n m f).length := by
  have e : cells n m (next n m f) = (cells n m f).filter fun p => stays n m f p.1 p.2 := (cells_filter f fun p => stays n m f p.1 p.2).symm
  rcases Nat.lt_or_ge (cells n m (next n m f)).length (cells n m f).length with hl | hl
  · exact hl
  · rw [e] at hl h
    exact absurd (List.filter_sublist.eq_of_length (Nat.le_antisymm (List.length_filter_le _ _) hl)) h
theorem next_len {n m : Nat} {f : Rel} (h : (cells n m (next n m f)).length = (cells n m f).length) : cells n m (next n m f) = cells n m f := by
  by_cases hc : cells n m (next n m f) = cells n m f
  · exact hc
  · have := next_lt hc
    omega
def levs (n m : Nat) : Nat → Rel → List Rel
  | 0, f => [f]
  | t + 1, f => if cells n m (next n m f) = cells n m f then [f] else f :: levs n m t (next n m f)
theorem levs_more {n m : Nat} : ∀ (t : Nat) (f : Rel), (cells n m f).length ≤ t → levs n m (t + 1) f = levs n m t f
  | 0, f, h => by
    have e0 : cells n m f = [] := List.length_eq_zero_iff.mp (by omega)
    have e1 : cells n m (next n m f) = [] := List.length_eq_zero_iff.mp (by have := next_le (n := n) (m := m) f; omega)
    show (if cells n m (next n m f) = cells n m f then [f] else _) = [f]
    rw [if_pos (by rw [e0, e1])]
  | t + 1, f, h => by
    show (if cells n m (next n m f) = cells n m f then [f] else f :: levs n m (t + 1) (next n m f)) = if cells n m (next n m f) = cells n m f then [f] else f :: levs n m t (next n m f)
    by_cases hc : cells n m (next n m f) = cells n m f
    · rw [if_pos hc, if_pos hc]
    · rw [if_neg hc, if_neg hc, levs_more t _ (by have := next_lt hc; omega)]
def levels (n m : Nat) (f : Rel) : List Rel := levs n m (cells n m f).length f
theorem levs_levels {n m t : Nat} {f : Rel} (h : (cells n m f).length ≤ t) : levs n m t f = levels n m f := by
  obtain ⟨d, rfl⟩ := Nat.exists_eq_add_of_le h
  induction d with
  | zero => rfl
  | succ d ih => rw [← Nat.add_assoc, levs_more _ _ (Nat.le_add_right _ _), ih (Nat.le_add_right _ _)]
theorem levels_eq (n m : Nat) (f : Rel) : levels n m f = if cells n m (next n m f) = cells n m f then [f] else f :: levels n m (next n m f) := by
  have e : levels n m f = levs n m ((cells n m f).length + 1) f := (levs_more _ _ (Nat.le_refl _)).symm
  rw [e]
  show (if cells n m (next n m f) = cells n m f then [f] else f :: levs n m (cells n m f).length (next n m f)) = _
  rw [levs_levels (next_le f)]
theorem levels_len {n m : Nat} (f : Rel) : (levels n m f).length ≤ (cells n m f).length + 1 := by
  have : ∀ t f, (levs n m t f).length ≤ t + 1 := by
    intro t
    induction t with
    | zero => intro f; exact Nat.le_refl _
    | succ t ih =>
      intro f
      unfold levs
      split
      · simp
      · have := ih (next n m f)
        rw [List.length_cons]
        omega
  exact this _ _
theorem levels_ne (n m : Nat) (f : Rel) : ∃ r, levels n m f = f :: r := by
  rw [levels_eq]
  split
  · exact ⟨[], rfl⟩
  · exact ⟨_, rfl⟩
theorem v_seqN {t r : TS} {D : Ends} {σ : L2.St} {H : Hp} (I : L2.St → Hp → Prop) (h1 : ∀ N : L2.St → Hp → Prop, (∀ σ' H', I σ' H' → N σ' H') → t { D with nx := N } σ H) (h2 : ∀ σ' H', I σ' H' → r D σ' H') : tSeq t r D σ H := h1 (fun σ' H' => r D σ' H') h2
theorem snoc_or {α : Type} (l : List α) : l = [] ∨ ∃ l' p, l = l' ++ [p] := by
  by_cases h : l = []
  · exact .inl h
  · exact .inr ⟨l.dropLast, l.getLast h, (List.dropLast_concat_getLast h).symm⟩
theorem atI_m1 {α : Type} (l : List α) (c : α) : atI (l ++ [c]) (-1) = some c := by
  have e : ixN (l ++ [c]).length (-1) = some l.length := by
    rw [List.length_append, List.length_singleton]
    unfold ixN
    rw [if_neg (by decide), if_pos (by omega)]
    congr 1
    omega
  unfold atI
  rw [e]
  simp
/-! ### list(range(..)) -/
def Rg2 (x y : V) (H : Hp) (Q : VK) : Prop := ∃ i j, x = .int i ∧ y = .int j ∧ RgOk i j ∧ Nw H (.lst (rgV i j)) Q
def Rg3 (vs : List V) (H : Hp) (Q : VK) : Prop := ∃ (i j c : Int) (n : Nat), vs = [.int i, .int j, .int c] ∧ RgC i j c n ∧ n ≤ 2 ^ 24 ∧ Nw H (.lst ((List.range n).map fun k : Nat => V.int (i + (k : Int) * c))) Q
theorem v_lstRg2 {ta tb : TE} {σ : L2.St} {H : Hp} {Q : VK} (h : ta σ H fun x H1 => tb σ H1 fun y H2 => Rg2 x y H2 Q) : tLstRg (tRg2 ta tb) σ H Q := by
  have key : ∀ x H1, (tb σ H1 fun y H2 => Rg2 x y H2 Q) → tb σ H1 fun y H2 => Rg2 x y H2 Q := fun _ _ z => z
  have e : (fun (x : V) (y : V) (H2 : Hp) => ∃ i j, x = .int i ∧ y = .int j ∧ (RgOk i j ∧ ∀ q, H2 q = none → Q (.ref q) (upd H2 q (.lst (rgV i j))))) = fun x y H2 => Rg2 x y H2 Q := rfl
  exact h
theorem v_rg2 {i j : Int} {H : Hp} {Q : VK} (ok : RgOk i j) (h : Nw H (.lst (rgV i j)) Q) : Rg2 (.int i) (.int j) H Q := ⟨i, j, rfl, rfl, ok, h⟩
theorem v_lstRg3 {ta : TA} {σ : L2.St} {H : Hp} {Q : VK} (h : ta σ H fun vs H1 => Rg3 vs H1 Q) : RT.tLstRg3 ta σ H Q := h
theorem bey_true (k n : Nat) : rgV ((k : Int) + 1) (n : Int) = (bey true k n).map fun i : Nat => V.int (i : Int) := by
  unfold rgV bey
  rw [if_pos rfl, List.map_map, show ((n : Int) - ((k : Int) + 1)).toNat = n - (k + 1) by omega]
  refine List.map_congr_left fun i _ => ?_
  show V.int ((k : Int) + 1 + (i : Int)) = V.int ((k + 1 + i : Nat) : Int)
  rw [Int.natCast_add, Int.natCast_add]
  rfl
theorem bey_false (k n : Nat) : ((List.range k).map fun i : Nat => V.int ((k : Int) - 1 + (i : Int) * -1)) = (bey false k n).map fun i : Nat => V.int (i : Int) := by
  unfold bey
  rw [if_neg (by decide), List.map_map]
  refine List.map_congr_left fun i hi => ?_
  have := List.mem_range.mp hi
  show V.int ((k : Int) - 1 + (i : Int) * -1) = V.int ((k - 1 - i : Nat) : Int)
  congr 1
  omega
/-- same letters -/
def rel0 (r o : List Nat) : Rel := fun k j => decide (r.getD k 0 = o.getD j 0)
end Sh
set_option Elab.async false
set_option linter.all false
set_option maxRecDepth 100000
set_option maxHeartbeats 8000000
namespace K52
open PySem PySem.Spec PyProof.Rows L2 Sh
open SX (S)
local macro_rules | `(tactic| walk_at "v1") => `(tactic| first
  | with_reducible refine v_seq ?_ | with_reducible refine v_asg ?_ | ((with_reducible refine' v_name ?e ?_); (case e => exact rfl)) | with_reducible refine v_ret ?_ | with_reducible refine v_drop ?_ | with_reducible refine v_next ?_
  | with_reducible refine v_if ?_ | with_reducible refine v_op ?_ | with_reducible refine v_c ?_ | ((with_reducible refine' v_var ?e ?_); (case e => exact rfl))
  | with_reducible refine v_I0 ?_ | with_reducible refine v_test ?_ | with_reducible refine v_B ?_ | with_reducible refine v_bl ?_ | with_reducible refine v_not ?_ | with_reducible refine v_and ?_ | with_reducible refine v_or ?_
  | with_reducible refine v_andV ?_ | with_reducible refine v_orV ?_ | with_reducible refine v_notV ?_ | with_reducible refine v_ife ?_
  | with_reducible refine v_nil ?_ | with_reducible refine v_cons ?_ | with_reducible refine v_tup ?_ | with_reducible refine v_lst ?_ | with_reducible refine v_call ?_ | with_reducible refine v_cb ?_ | with_reducible refine v_int ?_ | with_reducible refine v_abs ?_
  | ((with_reducible refine' v_eq ?e ?_); (case e => exact rfl)) | ((with_reducible refine' v_ne ?e ?_); (case e => exact rfl)) | with_reducible refine v_sub ?_ | with_reducible refine v_isN ?_ | with_reducible refine v_notN ?_
  | with_reducible refine v_part ?_ | with_reducible refine v_nopart ?_ | with_reducible refine v_pint ?_ | with_reducible refine v_inSg ?_ | with_reducible refine v_notInSg ?_
  | ((with_reducible refine' v_ixL ?l ?a ?_); (case l => assumption); (case a => exact at_lit _ rfl)) | ((with_reducible refine' v_ixT ?l ?a ?_); (case l => assumption); (case a => exact at_lit _ rfl))
  | ((with_reducible refine v_I ?c ?_); (case c => (first | omega | (unfold CMul; omega) | (unfold CDivN; omega) | (unfold CPow; omega))))
  | with_reducible refine v_for ?_ | with_reducible refine v_iList ?_ | with_reducible refine v_iTup ?_ | with_reducible refine v_iStr ?_ | with_reducible refine v_iR1 ?_ | with_reducible refine v_iR2 ?_ | with_reducible refine v_atS ?_ | with_reducible refine v_sl ?_ | with_reducible refine v_lc ?_ | with_reducible refine v_yes ?_
  | with_reducible refine v_m1 ?_ | with_reducible refine v_m1S ?_ | with_reducible refine v_bm ?_ | with_reducible refine v_bm0 ?_ | with_reducible refine v_dnewK ?_ | with_reducible refine v_dnewT ?_ | with_reducible refine v_dget ?_ | with_reducible refine v_din ?_ | with_reducible refine v_dnotin ?_ | with_reducible refine v_dput ?_ | with_reducible refine v_chain ?_ | with_reducible refine v_un ?_ | with_reducible refine v_neg ?_
  | with_reducible refine v_brk ?_ | with_reducible refine v_cont ?_
  | with_reducible refine v_fld ?_ | with_reducible refine v_sfld ?_ | with_reducible refine v_meth ?_ | with_reducible refine v_methT ?_ | with_reducible refine v_make ?_ | with_reducible refine v_makeT ?_ | with_reducible refine v_dget2 ?_ | with_reducible refine v_enumS ?_ | with_reducible refine v_enumQ ?_ | with_reducible refine v_lc2 ?_ | with_reducible refine v_isB ?_ | with_reducible refine v_notB ?_ | with_reducible refine v_lstRg2 ?_ | with_reducible refine v_lstRg3 ?_)
local macro_rules | `(tactic| walk_at "v") => `(tactic| repeat (walk_at "v1"))
local macro_rules | `(tactic| walk_at "vm") => `(tactic| repeat (first | ((with_reducible refine v_modP ?c ?_); (case c => omega); (intro _ _ _)) | walk_at "v1"))
local macro_rules | `(tactic| walk_at "iv") => `(tactic| (try dsimp only; refine IV.mk (by assumption) (by assumption) ?_))
local macro_rules | `(tactic| walk_at "n") => `(tactic| dsimp only [List.set_cons_zero, List.set_cons_succ])
abbrev tabD (n m : Nat) (f : Rel) : PyData := .list (linesD (tab n m f))
theorem tab_data (n m : Nat) (f : Rel) : linesD (tab n m f) = (List.range n).map fun k => PyData.list (((List.range m).map (f k)).map .bool) := by
  unfold linesD tab
  rw [List.map_map]
  rfl
/-- a row of a table -/
theorem tab_at {K : PySem.W.Frag} {B : Hp} {xs : List V} {n m k : Nat} {f : Rel} (h : RpAll K B xs (linesD (tab n m f))) (hk : k < n) : ∃ a, xs[k]? = some (.ref a) ∧ SqL K B a (((List.range m).map (f k)).map V.bl) := by
  have := rp_line h (i := k) (by rw [tab_len]; exact hk)
  rw [tab_row f hk] at this
  exact this
theorem row_at {m j : Nat} {g : Nat → Bool} (hj : j < m) : (((List.range m).map g).map V.bl)[j]? = some (.bl (g j)) := by
  rw [List.getElem?_map, List.getElem?_map, List.getElem?_range hj]
  rfl
theorem range_succ_map {α : Type} (f : Nat → α) (i : Nat) : (List.range (i + 1)).map f = (List.range i).map f ++ [f i] := by rw [List.range_succ, List.map_append]; rfl
/-! ### exchanged_table -/
def sp_p_exchanged_table (K : PySem.W.Frag) : Sp := fun vs H Q _ => ∃ (B : Hp) (M : List (Addr × HO)) (v : V) (n m : Nat) (f : Rel), vs = [v, .int (m : Int)] ∧ Hs B M H ∧ Rp K B v (tabD n m f) ∧ n ≤ 1000 ∧ m ≤ 1000 ∧
  ∀ (v' : V) (B' H' : Hp), Le B B' → Hs B' M H' → Rp K B' v' (tabD m n (flp f)) → Q v' H'
def t_p_exchanged_table (K : PySem.W.Frag) : TS := (tRet (tLc (iRng1 (tCons (tVar 1) tNil)) (gName 3) tYes (tLc (iList K (tVar 0)) (gName 2) tYes (tOp (rIxL K) (tVar 2) (tVar 3)) [2]) [3]))
theorem pure_p_exchanged_table {K : PySem.W.Frag} (vs : List V) (H : Hp) (Q : VK) (E : XK) (h : sp_p_exchanged_table K vs H Q E) : t_p_exchanged_table K { nx := fun _ H' => Q .non H', rt := Q } (start n_p_exchanged_table vs) H := by
  obtain ⟨B, M, v, n, m, f, rfl, hs, hv, hn, hm, q⟩ := h
  obtain ⟨na, xs, rfl, hN, hX⟩ := rp_mk (l := true) hv
  have xl : xs.length = n := by rw [hX.length, tab_data, List.length_map, List.length_range]
  show t_p_exchanged_table K _ [some (V.ref na), some (V.int (m : Int)), none, none] H
  unfold t_p_exchanged_table
  walk_at "v"
  refine v_atR1 (by omega) ?_
  rw [Int.toNat_natCast]
  refine v_lcR hs (fun i acc B' M' => M' = M ∧ RpAll K B' acc ((List.range i).map fun j => PyData.list (((List.range n).map (flp f j)).map .bool))) ⟨rfl, .nil⟩ ?_ ?_
  · rintro i p acc B1 M' H1 hi ha l1 h1 ⟨rfl, hacc⟩
    walk_at "v"
    refine ⟨rfl, ?_⟩
    walk_at "v"
    refine iteT' rfl ?_
    walk_at "v"
    refine v_atL (h1.l (le_l l1 hN)) ?_
    refine v_lcL (le_l l1 hN) h1 (fun k acc2 B' M'' => M'' = (p, .lst acc) :: M' ∧ acc2 = (List.range k).map fun a => V.bl (flp f i a)) ⟨rfl, rfl⟩ ?_ ?_
    · rintro k x p2 acc2 B2 M'' H2 hk hx ha2 l2 h2 ⟨rfl, rfl⟩
      obtain ⟨a, ea, hA⟩ := tab_at hX (k := k) (by omega)
      rw [hx] at ea
      cases ea
      walk_at "v"
      refine ⟨rfl, ?_⟩
      walk_at "v"
      refine iteT' rfl ?_
      walk_at "v"
      refine v_ixL (v := .bl (f k i)) (h2.l (le_l (l1.trans l2) hA)) (at_k (by omega) ?_) ?_
      · rw [show ((0 : Int) + (i : Int)).toNat = i by omega]
        exact row_at hi
      refine IE.mk ha2 hk (by omega) l2 h2 ⟨rfl, ?_⟩
      rw [range_succ_map]
      rfl
    · rintro p2 acc2 B2 M'' H2 ha2 l2 h2 ⟨rfl, rfl⟩
      obtain ⟨h3, l3⟩ := h2.fix
      rw [xl] at *
      refine IE.mk ha hi (by omega) (l1.trans (l2.trans l3)) h3 ⟨rfl, ?_⟩
      rw [range_succ_map]
      refine (hacc.up (l2.trans l3)).append (.one (.lst (SqL.of upd_same) ?_))
      have := bools_rp (K := K) (B := upd B2 p2 (.lst ((List.range n).map fun a => V.bl (flp f i a)))) ((List.range n).map (flp f i))
      rw [List.map_map] at this
      exact this
  · rintro p acc B1 M' H1 ha l1 h1 ⟨rfl, hacc⟩
    obtain ⟨h2, l2⟩ := h1.fix
    refine q _ _ _ (l1.trans l2) h2 (.lst (SqL.of upd_same) ?_)
    rw [tab_data]
    exact hacc.up l2
/-! ### places_beyond -/
def wordOf (later : Bool) : Str := if later = true then "until" else "since"
def sp_p_places_beyond (K : PySem.W.Frag) : Sp := fun vs H Q _ => ∃ (B : Hp) (M : List (Addr × HO)) (k n : Nat) (later : Bool), vs = [.int (k : Int), .int (n : Int), .str (wordOf later)] ∧ Hs B M H ∧ n ≤ 1000 ∧ k ≤ 1000 ∧
  ∀ (p : Addr) (B' H' : Hp), Le B B' → Hs B' M H' → B' p = some (.lst ((bey later k n).map intV)) → Q (.ref p) H'
def t_p_places_beyond (K : PySem.W.Frag) : TS := (tSeq (tIfS (tTest (tOp rEq (tVar 2) (tC (.str "until")))) (tRet (tLstRg (tRg2 (tOp rAddI (tVar 0) (tC (.int 1))) (tVar 1)))) tNext)
    (tRet (RT.tLstRg3 (tCons (tOp rSubI (tVar 0) (tC (.int 1))) (tCons (tUn (rU fun i => .int (-i)) (tC (.int 1))) (tCons (tUn (rU fun i => .int (-i)) (tC (.int 1))) tNil))))))
theorem pure_p_places_beyond {K : PySem.W.Frag} (vs : List V) (H : Hp) (Q : VK) (E : XK) (h : sp_p_places_beyond K vs H Q E) : t_p_places_beyond K { nx := fun _ H' => Q .non H', rt := Q } (start n_p_places_beyond vs) H := by
  obtain ⟨B, M, k, n, later, rfl, hs, hn, hk, q⟩ := h
  show t_p_places_beyond K _ [some (V.int (k : Int)), some (V.int (n : Int)), some (V.str (wordOf later))] H
  unfold t_p_places_beyond
  cases later with
  | true =>
    walk_at "v"
    refine iteT' (by decide) ?_
    walk_at "v"
    refine v_rg2 (by constructor <;> omega) (v_newB hs fun p B1 H1 l1 h1 e1 => ?_)
    rw [bey_true] at e1
    exact q p B1 H1 l1 h1 e1
  | false =>
    walk_at "v"
    refine iteF' (by decide) ?_
    walk_at "v"
    have rg := RgC.neg (i := (k : Int) - 1) (j := -1) (by omega) (by omega) (by omega) (by omega)
    rw [show ((k : Int) - 1 - -1).toNat = k by omega] at rg
    refine ⟨_, _, _, k, rfl, rg, by omega, v_newB hs fun p B1 H1 l1 h1 e1 => ?_⟩
    rw [show (fun i : Nat => V.int ((k : Int) - 1 + (i : Int) * (-1))) = fun i : Nat => V.int ((k : Int) - 1 + (i : Int) * -1) from rfl, bey_false k n] at e1
    exact q p B1 H1 l1 h1 e1
/-! ### barred_places -/
abbrev covOf (kvs : List (Key × V)) : Nat → Bool := fun p => (valV kvs (.inl (p : Int))).isSome
def sp_p_barred_places (K : PySem.W.Frag) : Sp := fun vs H Q _ => ∃ (B : Hp) (M : List (Addr × HO)) (la cd oa : Addr) (m : Nat) (g : Nat → Bool) (kvs : List (Key × V)) (others : List Nat), vs = [.ref la, .ref cd, .ref oa] ∧ Hs B ((cd, .dK kvs) :: M) H ∧ SqL K B la (((List.range m).map g).map V.bl) ∧ SqL K B oa (others.map intV) ∧
  (∀ p ∈ others, p < m) ∧ others.length ≤ 1000 ∧ (fnd g (covOf kvs) others = true → ∀ (B' H' : Hp), Le B B' → Hs B' ((cd, .dK kvs) :: M) H' → Q .non H') ∧
  (fnd g (covOf kvs) others = false → ∀ (p : Addr) (B' H' : Hp), Le B B' → Hs B' ((cd, .dK kvs) :: M) H' → B' p = some (.lst ((brd (covOf kvs) others).map intV)) → Q (.ref p) H')
def t_p_barred_places (K : PySem.W.Frag) : TS := (tSeq (tAsg (tLst tNil) (gName 3))
    (tSeq (tFor (iList K (tVar 2)) (gName 4) (tSeq (tIfS (tB (tOp (rIxL K) (tVar 0) (tVar 4))) (tRet (tC .non)) tNext)
    (tSeq (tDrop (tBM K "list" rAppend (tVar 3) (tCons (tVar 4) tNil)))
    (tIfS (tB (tDNotIn (tVar 4) (tVar 1))) (tRet (tVar 3)) tNext))))
    (tRet (tVar 3))))
theorem pure_p_barred_places {K : PySem.W.Frag} (vs : List V) (H : Hp) (Q : VK) (E : XK) (h : sp_p_barred_places K vs H Q E) : t_p_barred_places K { nx := fun _ H' => Q .non H', rt := Q } (start n_p_barred_places vs) H := by
  obtain ⟨B, M, la, cd, oa, m, g, kvs, others, rfl, hs, hL, hO, hlt, ho, qn, qb⟩ := h
  show t_p_barred_places K _ [some (V.ref la), some (V.ref cd), some (V.ref oa), none, none] H
  unfold t_p_barred_places
  walk_at "v"
  refine v_size (by show 0 ≤ sizeLine; decide) (v_newM hs fun ta H1 h1 => ?_)
  walk_at "v"
  refine v_atL (h1.l hO) (v_forL hO h1 (fun i σ' B' M' => B' = B ∧ M' = (ta, .lst ((others.take i).map intV)) :: (cd, .dK kvs) :: M ∧ (∀ p ∈ others.take i, g p = false ∧ covOf kvs p = true) ∧ ∃ y : Option V, σ' = [some (V.ref la), some (V.ref cd), some (V.ref oa), some (V.ref ta), y]) ⟨rfl, rfl, fun p hp => by simp at hp, none, rfl⟩ ?_ ?_)
  · rintro i x σ' B2 M' H2 hi hx l2 h2 ⟨rfl, rfl, hall, y, rfl⟩
    obtain ⟨p, ep, rfl⟩ := map_some hx
    have hp := hlt p (List.mem_of_getElem? ep)
    have cut : others = others.take i ++ p :: others.drop (i + 1) := by
      obtain ⟨hi2, e⟩ := List.getElem?_eq_some_iff.mp ep
      rw [← e, List.getElem_cons_drop, List.take_append_drop]
    have ff : ∀ (l r : List Nat), (∀ p ∈ l, g p = false ∧ covOf kvs p = true) → fnd g (covOf kvs) (l ++ r) = fnd g (covOf kvs) r := by
      intro l r h
      induction l with
      | nil => rfl
      | cons z l ih =>
        obtain ⟨h1, h2⟩ := h z (by simp)
        show (g z || (covOf kvs z && fnd g (covOf kvs) (l ++ r))) = _
        rw [h1, h2, ih fun p hp => h p (by simp [hp])]
        rfl
    have bb : ∀ (l r : List Nat), (∀ p ∈ l, g p = false ∧ covOf kvs p = true) → brd (covOf kvs) (l ++ r) = l ++ brd (covOf kvs) r := by
      intro l r h
      induction l with
      | nil => rfl
      | cons z l ih =>
        obtain ⟨h1, h2⟩ := h z (by simp)
        show (if covOf kvs z = true then z :: brd (covOf kvs) (l ++ r) else [z]) = _
        rw [if_pos h2, ih fun p hp => h p (by simp [hp])]
        rfl
    walk_at "v"
    refine v_ixL (v := .bl (g p)) (h2.l hL) (atI_nat (row_at hp)) ?_
    walk_at "v"
    refine ite2 (fun c0 => ?_) (fun c0 => ?_)
    · walk_at "v"
      refine qn ?_ B2 H2 (Same.refl _) h2.drop
      rw [cut, ff _ _ hall]
      show (g p || _) = true
      rw [c0]
      rfl
    · have c0 : g p = false := Bool.eq_false_iff.mpr c0
      walk_at "v"
      refine v_bmL (h2.atI 0 rfl) ?_
      walk_at "v"
      refine v_appI h2 0 rfl (by rw [List.length_map, List.length_take]; omega) fun H3 h3 => ?_
      walk_at "v"
      refine v_dninI (h3.atI 1 rfl) ?_
      have ts : others.take (i + 1) = others.take i ++ [p] := by rw [List.take_add_one, ep]; rfl
      walk_at "v"
      refine ite2 (fun c1 => ?_) (fun c1 => ?_)
      · have c1 : covOf kvs p = false := by simpa using c1
        walk_at "v"
        obtain ⟨h4, l4⟩ := h3.fix
        refine qb ?_ ta _ _ l4 h4 ?_
        · rw [cut, ff _ _ hall]
          show (g p || (covOf kvs p && _)) = false
          rw [c0, c1]
          rfl
        · rw [upd_same]
          congr 2
          conv => rhs; rw [cut]
          rw [bb _ _ hall]
          show _ = (others.take i ++ (if covOf kvs p = true then p :: brd (covOf kvs) _ else [p])).map intV
          rw [if_neg (by rw [c1]; decide), List.map_append]
          rfl
      · have c1 : covOf kvs p = true := by
          show (valV kvs (.inl (p : Int))).isSome = true
          cases hh : (valV kvs (.inl (p : Int))).isSome with
          | true => rfl
          | false => rw [hh] at c1; exact absurd rfl c1
        walk_at "v"
        walk_at "iv"
        refine ⟨rfl, ?_, fun z hz => ?_, _, rfl⟩
        · rw [ts, List.map_append]; rfl
        · rw [ts] at hz
          rcases List.mem_append.mp hz with hz | hz
          · exact hall z hz
          · rw [List.mem_singleton.mp hz]; exact ⟨c0, c1⟩
  · rintro σ' B2 M' H2 l2 h2 ⟨rfl, rfl, hall, y, rfl⟩
    rw [List.length_map, List.take_length] at *
    walk_at "v"
    obtain ⟨h4, l4⟩ := h2.fix
    have e0 : ∀ l : List Nat, (∀ p ∈ l, g p = false ∧ covOf kvs p = true) → fnd g (covOf kvs) l = false ∧ brd (covOf kvs) l = l := by
      intro l h
      induction l with
      | nil => exact ⟨rfl, rfl⟩
      | cons z l ih =>
        obtain ⟨h1, h2⟩ := h z (by simp)
        obtain ⟨i1, i2⟩ := ih fun p hp => h p (by simp [hp])
        refine ⟨?_, ?_⟩
        · show (g z || (covOf kvs z && fnd g (covOf kvs) l)) = false
          rw [h1, h2, i1]
          rfl
        · show (if covOf kvs z = true then z :: brd (covOf kvs) l else [z]) = z :: l
          rw [if_pos h2, i2]
    obtain ⟨f1, f2⟩ := e0 _ hall
    refine qb f1 ta _ _ l4 h4 ?_
    rw [upd_same, f2]
section
variable {P : Program} {w : World} {K : PySem.W.Frag} {mg : Str → Option Value} {base : Heap}
theorem ok_p_exchanged_table (T : Txt K mg w) : FnOk P w K mg base CX0 1 T.a_p_exchanged_table T.fd_p_exchanged_table ["near", "width"] (sp_p_exchanged_table K) := by
  refine T.F_p_exchanged_table.ok sc_p_exchanged_table (fun vs H Q E h => ?_) (fun cdv A outer s H vs Q E hr h => ⟨t_p_exchanged_table K, ?_, pure_p_exchanged_table vs H Q E h⟩)
  · obtain ⟨B, M, v, n, m, f, rfl, _⟩ := h
    rfl
  · exact (pss_one (ps_ret (pe_lc (own := [("m", 3)]) (g := (gName 3)) (tt := tYes) rfl sc_p_exchanged_table.nd (pi_range1 (by rfl) (T.free_range) (pa_cons (pv 1) pa_nil)) (blkOk_by (own := [("m", 3)]) (N := n_p_exchanged_table) (sc := defScope s_p_exchanged_table) (by decide +kernel)) (fun _ _ _ _ _ => (pg_name (i := 3) sc_p_exchanged_table.nd rfl (Or.inr rfl))) (fun _ _ _ _ _ => pts_nil) (fun _ _ _ _ _ => (pe_lc (own := [("line", 2)]) (g := (gName 2)) (tt := tYes) rfl sc_p_exchanged_table.nd (pi_list (pv 0)) (blkOk_by (own := [("line", 2)]) (N := n_p_exchanged_table) (sc := { kind := .function, names := [(".0", .local), ("m", .cell), ("near", .cell)], isGenerator := false, isCoroutine := false }) (by decide +kernel)) (fun _ _ _ _ _ => (pg_name (i := 2) sc_p_exchanged_table.nd rfl (Or.inl rfl))) (fun _ _ _ _ _ => pts_nil) (fun _ _ _ _ _ => (pe_ix ix_list (pv 2) (pv 3) (fun _ _ => rfl))))))))
theorem ok_p_places_beyond (T : Txt K mg w) : FnOk P w K mg base CX0 1 T.a_p_places_beyond T.fd_p_places_beyond ["place", "size", "word"] (sp_p_places_beyond K) := by
  refine T.F_p_places_beyond.ok sc_p_places_beyond (fun vs H Q E h => ?_) (fun cdv A outer s H vs Q E hr h => ⟨t_p_places_beyond K, ?_, pure_p_places_beyond vs H Q E h⟩)
  · obtain ⟨B, M, k, n, later, rfl, _⟩ := h
    rfl
  · exact (pss_cons (ps_if (pt_cmpR op_eq (pv 2) pe_str (nomark _)) (pss_one (ps_ret (pe_listRg rfl (by rfl) (T.free_list) (prg_2 (by rfl) (T.free_range) (pe_op op_add (pv 0) pe_int) (pv 1))))) pss_nil)
      (pss_one (ps_ret (RT.pe_lstRg3 rfl (by rfl) (T.free_list) (by rfl) (T.free_range) (pa_cons (pe_op op_sub (pv 0) pe_int) (pa_cons (pe_un un_neg pe_int) (pa_cons (pe_un un_neg pe_int) pa_nil)))))))
theorem ok_p_barred_places (T : Txt K mg w) : FnOk P w K mg base CX0 1 T.a_p_barred_places T.fd_p_barred_places ["line", "covered", "others"] (sp_p_barred_places K) := by
  refine T.F_p_barred_places.ok sc_p_barred_places (fun vs H Q E h => ?_) (fun cdv A outer s H vs Q E hr h => ⟨t_p_barred_places K, ?_, pure_p_barred_places vs H Q E h⟩)
  · obtain ⟨B, M, la, cd, oa, m, g, kvs, others, rfl, _⟩ := h
    rfl
  · exact (pss_cons (ps_set (i := 3) sc_p_barred_places.nd rfl (by first | exact Or.inl rfl | exact Or.inr rfl) (pe_lst pa_nil))
      (pss_cons (ps_for PassesOwn.never rfl (pi_list (pv 2)) (pg_name (i := 4) sc_p_barred_places.nd rfl (by first | exact Or.inl rfl | exact Or.inr rfl)) (pss_cons (ps_if (pt_val (pe_ix ix_list (pv 0) (pv 4) (fun _ _ => rfl))) (pss_one (ps_ret pe_non)) pss_nil)
      (pss_cons (ps_expr (pe_bm PySem.F.plainAttrs_list PySem.F.slot_list_append PySem.F.type_list_append mt_append (pv 3) (pa_cons (pv 4) pa_nil)))
      (pss_one (ps_if (pt_cmp (pc_dnotin (hu_of hr) (pv 4) (pv 1))) (pss_one (ps_ret (pv 3))) pss_nil)))))
      (pss_one (ps_ret (pv 3)))))
end
end K52
set_option Elab.async false
set_option linter.all false
set_option maxRecDepth 100000
set_option maxHeartbeats 8000000
namespace K52
open PySem PySem.Spec PyProof.Rows L2 Sh
open SX (S)
local macro_rules | `(tactic| walk_at "v1") => `(tactic| first
  | with_reducible refine v_seq ?_ | with_reducible refine v_asg ?_ | ((with_reducible refine' v_name ?e ?_); (case e => exact rfl)) | with_reducible refine v_ret ?_ | with_reducible refine v_drop ?_ | with_reducible refine v_next ?_
  | with_reducible refine v_if ?_ | with_reducible refine v_op ?_ | with_reducible refine v_c ?_ | ((with_reducible refine' v_var ?e ?_); (case e => exact rfl))
  | with_reducible refine v_I0 ?_ | with_reducible refine v_test ?_ | with_reducible refine v_B ?_ | with_reducible refine v_bl ?_ | with_reducible refine v_not ?_ | with_reducible refine v_and ?_ | with_reducible refine v_or ?_
  | with_reducible refine v_andV ?_ | with_reducible refine v_orV ?_ | with_reducible refine v_notV ?_ | with_reducible refine v_ife ?_
  | with_reducible refine v_nil ?_ | with_reducible refine v_cons ?_ | with_reducible refine v_tup ?_ | with_reducible refine v_lst ?_ | with_reducible refine v_call ?_ | with_reducible refine v_cb ?_ | with_reducible refine v_int ?_ | with_reducible refine v_abs ?_
  | ((with_reducible refine' v_eq ?e ?_); (case e => exact rfl)) | ((with_reducible refine' v_ne ?e ?_); (case e => exact rfl)) | with_reducible refine v_sub ?_ | with_reducible refine v_isN ?_ | with_reducible refine v_notN ?_
  | with_reducible refine v_part ?_ | with_reducible refine v_nopart ?_ | with_reducible refine v_pint ?_ | with_reducible refine v_inSg ?_ | with_reducible refine v_notInSg ?_
  | ((with_reducible refine' v_ixL ?l ?a ?_); (case l => assumption); (case a => exact at_lit _ rfl)) | ((with_reducible refine' v_ixT ?l ?a ?_); (case l => assumption); (case a => exact at_lit _ rfl))
  | ((with_reducible refine v_I ?c ?_); (case c => (first | omega | (unfold CMul; omega) | (unfold CDivN; omega) | (unfold CPow; omega))))
  | with_reducible refine v_for ?_ | with_reducible refine v_iList ?_ | with_reducible refine v_iTup ?_ | with_reducible refine v_iStr ?_ | with_reducible refine v_iR1 ?_ | with_reducible refine v_iR2 ?_ | with_reducible refine v_atS ?_ | with_reducible refine v_sl ?_ | with_reducible refine v_lc ?_ | with_reducible refine v_yes ?_
  | with_reducible refine v_m1 ?_ | with_reducible refine v_m1S ?_ | with_reducible refine v_bm ?_ | with_reducible refine v_bm0 ?_ | with_reducible refine v_dnewK ?_ | with_reducible refine v_dnewT ?_ | with_reducible refine v_dget ?_ | with_reducible refine v_din ?_ | with_reducible refine v_dnotin ?_ | with_reducible refine v_dput ?_ | with_reducible refine v_chain ?_ | with_reducible refine v_un ?_ | with_reducible refine v_neg ?_
  | with_reducible refine v_brk ?_ | with_reducible refine v_cont ?_
  | with_reducible refine v_fld ?_ | with_reducible refine v_sfld ?_ | with_reducible refine v_meth ?_ | with_reducible refine v_methT ?_ | with_reducible refine v_make ?_ | with_reducible refine v_makeT ?_ | with_reducible refine v_dget2 ?_ | with_reducible refine v_enumS ?_ | with_reducible refine v_enumQ ?_ | with_reducible refine v_lc2 ?_ | with_reducible refine v_isB ?_ | with_reducible refine v_notB ?_ | with_reducible refine v_lstRg2 ?_ | with_reducible refine v_lstRg3 ?_)
local macro_rules | `(tactic| walk_at "v") => `(tactic| repeat (walk_at "v1"))
local macro_rules | `(tactic| walk_at "vm") => `(tactic| repeat (first | ((with_reducible refine v_modP ?c ?_); (case c => omega); (intro _ _ _)) | walk_at "v1"))
local macro_rules | `(tactic| walk_at "iv") => `(tactic| (try dsimp only; refine IV.mk (by assumption) (by assumption) ?_))
local macro_rules | `(tactic| walk_at "n") => `(tactic| dsimp only [List.set_cons_zero, List.set_cons_succ])
theorem cov_put (kvs : List (Key × V)) (p q : Nat) (v : V) : covOf (putK kvs (.inl (p : Int)) v) q = (covOf kvs q || decide (q = p)) := by
  show (valV (putK kvs (.inl (p : Int)) v) (.inl (q : Int))).isSome = _
  rw [valV_put]
  by_cases h : q = p
  · rw [if_pos (by rw [h]), decide_eq_true h, Bool.or_true]; rfl
  · rw [if_neg (fun e => h (by injection e with e; omega)), decide_eq_false h, Bool.or_false]
def optV : Option Nat → V
  | none => .non
  | some p => intV p
/-- what unanswered tells -/
def UnaV (B : Hp) (ones : List Nat) (r : Nat × Nat × List Nat × Option Nat) (xs : List V) : Prop := ∃ pa pb : Addr, xs = [intV r.1, .ref pa, .ref pb, optV r.2.2.2] ∧ B pa = some (.lst ((ones.take r.2.1).map intV)) ∧ B pb = some (.lst (r.2.2.1.map intV))
def sp_p_unanswered (K : PySem.W.Frag) : Sp := fun vs H Q _ => ∃ (B : Hp) (M : List (Addr × HO)) (v : V) (n m : Nat) (f : Rel) (oa pa : Addr) (ones others : List Nat), vs = [v, .ref oa, .ref pa] ∧ Hs B M H ∧ Rp K B v (tabD n m f) ∧ SqL K B oa (ones.map intV) ∧ SqL K B pa (others.map intV) ∧
  (∀ a ∈ ones, a < n) ∧ (∀ b ∈ others, b < m) ∧ ones.length ≤ 100 ∧ others.length ≤ 100 ∧ (una f others 0 noC ones = none → ∀ (B' H' : Hp), Le B B' → Hs B' M H' → Q .non H') ∧
  ∀ r, una f others 0 noC ones = some r → ∀ (p : Addr) (xs : List V) (B' H' : Hp), Le B B' → Hs B' M H' → B' p = some (.tup xs) → UnaV B' ones r xs → Q (.ref p) H'
def t_p_unanswered (K : PySem.W.Frag) : TS := (tSeq (tAsg tDNewK (gName 3))
    (tSeq (tFor (iEnumQ K (tCons (tVar 1) tNil)) (gTup K 2 (gCons (gName 4) (gCons (gName 5) gNil))) (tSeq (tAsg (tCall (sp_p_barred_places K) [] E0 (tCons (tOp (rIxL K) (tVar 0) (tVar 5)) (tCons (tVar 3) (tCons (tVar 2) tNil)))) (gName 6))
    (tSeq (tIfS (tTest (tOp rNotNn (tVar 6) (tC .non))) (tSeq (tAsg (tIf (tAnd (tTest (tOp rGtI (tCB (rCLen K) (tCons (tVar 6) tNil)) (tC (.int 0)))) (tB (tDNotIn (tOp (rIxL K) (tVar 6) (tUn (rU fun i => .int (-i)) (tC (.int 1)))) (tVar 3)))) (tOp (rIxL K) (tVar 6) (tUn (rU fun i => .int (-i)) (tC (.int 1)))) (tC .non)) (gName 7))
    (tRet (tTup (tCons (tVar 5) (tCons (tSl (rSlL K) (tVar 1) tNoPart (tPart (tVar 4))) (tCons (tVar 6) (tCons (tVar 7) tNil))))))) tNext)
    (tFor (iList K (tVar 2)) (gName 8) (tIfS (tB (tOp (rIxL K) (tOp (rIxL K) (tVar 0) (tVar 5)) (tVar 8))) (sDPut (tVar 3) (tVar 8) (tC (.bl true))) tNext)))))
    (tRet (tC .non))))
theorem pure_p_unanswered {K : PySem.W.Frag} (vs : List V) (H : Hp) (Q : VK) (E : XK) (h : sp_p_unanswered K vs H Q E) : t_p_unanswered K { nx := fun _ H' => Q .non H', rt := Q } (start n_p_unanswered vs) H := by
  obtain ⟨B, M, v, n, m, f, oa, pa, ones, others, rfl, hs, hv, hO, hP, hn, hm, l1, l2, qn, qs⟩ := h
  obtain ⟨na, xs, rfl, hN, hX⟩ := rp_mk (l := true) hv
  show t_p_unanswered K _ [some (V.ref na), some (V.ref oa), some (V.ref pa), none, none, none, none, none, none] H
  unfold t_p_unanswered
  walk_at "v"
  refine v_newM hs fun cd H1 h1 => ?_
  walk_at "v"
  refine ⟨oa, ones.map intV, rfl, .inl ⟨h1.l hO, v_forP h1 (fun B' M' H' l h => h.l (le_l l hO)) (fun i σ' B' M' => ∃ (kvs : List (Key × V)) (y4 y5 y6 y7 y8 : Option V), M' = (cd, .dK kvs) :: M ∧ una f others i (covOf kvs) (ones.drop i) = una f others 0 noC ones ∧ kvs.length ≤ i * 100 ∧
    σ' = [some (V.ref na), some (V.ref oa), some (V.ref pa), some (V.ref cd), y4, y5, y6, y7, y8]) ⟨[], none, none, none, none, none, rfl, rfl, Nat.le_refl _, rfl⟩ ?_ ?_⟩⟩
  · rintro i Tt x y σ' B2 M' H2 hi ex ey l2' eT h2 ⟨B3, -, -, kvs, y4, y5, y6, y7, y8, rfl, hu, hk, rfl⟩
    rw [List.length_map] at hi
    obtain rfl := Option.some.inj ex
    obtain ⟨one, eo, rfl⟩ := map_some ey
    have on := hn one (List.mem_of_getElem? eo)
    have cut : ones.drop i = one :: ones.drop (i + 1) := by
      obtain ⟨hi2, e⟩ := List.getElem?_eq_some_iff.mp eo
      rw [← e, List.getElem_cons_drop]
    rw [cut] at hu
    obtain ⟨la, el, hL⟩ := tab_at hX on
    have hN2 := le_l l2' hN
    have hL2 := le_l l2' hL
    have hP2 := le_l l2' hP
    refine v_gTup2 (h2.t (SqT.of eT)) ?_
    walk_at "v"
    refine v_ixL (v := .ref la) (h2.l hN2) (atI_nat el) ?_
    walk_at "v"
    refine ⟨B2, M, la, cd, pa, m, f one, kvs, others, rfl, h2, hL2, hP2, hm, by omega, fun c0 B4 H4 l4 h4 => ?_, fun c0 bp B4 H4 l4 h4 eb => ?_⟩
    · walk_at "v"
      refine iteF' (by decide) ?_
      walk_at "v"
      have hun : una f others (i + 1) (more f others one (covOf kvs)) (ones.drop (i + 1)) = una f others 0 noC ones := by
        rw [← hu]
        show _ = if fnd (f one) (covOf kvs) others = true then _ else _
        rw [if_pos c0]
      refine v_atL (h4.l (le_l l4 hP2)) (v_forL (le_l l4 hP2) h4 (fun j σ' B' M' => ∃ (kvs' : List (Key × V)) (y8 : Option V), M' = (cd, .dK kvs') :: M ∧ (∀ q, covOf kvs' q = (covOf kvs q || (decide (q ∈ others.take j) && f one q))) ∧ kvs'.length ≤ kvs.length + j ∧
        σ' = [some (V.ref na), some (V.ref oa), some (V.ref pa), some (V.ref cd), some (V.int (i : Int)), some (intV one), some .non, y7, y8]) ⟨kvs, y8, rfl, fun q => by simp, Nat.le_refl _, rfl⟩ ?_ ?_)
      · rintro j x σ' B5 M' H5 hj hx l5 h5 ⟨kvs', y8, rfl, hc, hl, rfl⟩
        obtain ⟨p, ep, rfl⟩ := map_some hx
        rw [List.length_map] at hj
        have pm := hm p (List.mem_of_getElem? ep)
        have l45 := l4.trans l5
        have ts : others.take (j + 1) = others.take j ++ [p] := by rw [List.take_add_one, ep]; rfl
        walk_at "v"
        refine v_ixL (v := .ref la) (h5.l (le_l l45 hN2)) (atI_nat el) ?_
        walk_at "v"
        refine v_ixL (v := .bl (f one p)) (h5.l (le_l l45 hL2)) (atI_nat (row_at pm)) ?_
        walk_at "v"
        refine ite2 (fun c1 => ?_) (fun c1 => ?_)
        · walk_at "v"
          refine v_dputII h5 0 rfl (by have : i * 100 ≤ 100 * 100 := Nat.mul_le_mul_right 100 (by omega); omega) fun H6 h6 => ?_
          walk_at "iv"
          refine ⟨_, _, rfl, fun q => ?_, Nat.le_trans (length_putK _ _ _) (by omega), rfl⟩
          rw [cov_put, hc, ts]
          by_cases e : q = p
          · subst e
            rw [decide_eq_true rfl, c1, decide_eq_true (show q ∈ others.take j ++ [q] by simp)]
            simp
          · rw [decide_eq_false e, Bool.or_false]
            by_cases hq : q ∈ others.take j
            · rw [decide_eq_true hq, decide_eq_true (List.mem_append_left _ hq)]
            · rw [decide_eq_false hq, decide_eq_false (show ¬ q ∈ others.take j ++ [p] by simp [hq, e])]
        · walk_at "v"
          walk_at "iv"
          refine ⟨_, _, rfl, fun q => ?_, by omega, rfl⟩
          rw [hc, ts]
          have c1 : f one p = false := Bool.eq_false_iff.mpr c1
          by_cases e : q = p
          · subst e
            rw [c1, Bool.and_false, Bool.and_false]
          · by_cases hq : q ∈ others.take j
            · rw [decide_eq_true hq, decide_eq_true (List.mem_append_left _ hq)]
            · rw [decide_eq_false hq, decide_eq_false (show ¬ q ∈ others.take j ++ [p] by simp [hq, e])]
      · rintro σ' B5 M' H5 l5 h5 ⟨kvs', y8, rfl, hc, hl, rfl⟩
        rw [List.length_map] at hl
        rw [List.length_map, List.take_length] at hc
        have l25 := l2'.trans (l4.trans l5)
        try dsimp only
        refine IV.mk l25 h5 ⟨kvs', _, _, _, _, _, rfl, ?_, by rw [Nat.succ_mul]; omega, rfl⟩
        rw [show covOf kvs' = more f others one (covOf kvs) from funext fun q => hc q]
        exact hun
    · have hs4 : una f others 0 noC ones = some (one, i, brd (covOf kvs) others, barOf (covOf kvs) (brd (covOf kvs) others)) := by
        rw [← hu]
        show (if fnd (f one) (covOf kvs) others = true then _ else _) = _
        rw [if_neg (by rw [c0]; decide)]
      have e4 : SqL K B4 bp ((brd (covOf kvs) others).map intV) := SqL.of eb
      walk_at "v"
      refine iteT' rfl ?_
      refine v_seqN (fun σ' H' => H' = H4 ∧ σ' = [some (V.ref na), some (V.ref oa), some (V.ref pa), some (V.ref cd), some (V.int (i : Int)), some (intV one), some (V.ref bp), some (optV (barOf (covOf kvs) (brd (covOf kvs) others))), y8]) (fun N hN => ?_) ?_
      · walk_at "v"
        refine v_lenL (h4.l e4) ?_
        walk_at "v"
        rw [List.length_map]
        generalize brd (covOf kvs) others = bl at e4 hN
        rcases snoc_or bl with rfl | ⟨bl', p, rfl⟩
        · refine iteF' (by decide) ?_
          walk_at "v"
          exact hN _ _ ⟨rfl, rfl⟩
        · refine iteT' (by rw [List.length_append]; exact decide_eq_true (by show (0 : Int) < ((bl'.length + 1 : Nat) : Int); omega)) ?_
          walk_at "v"
          rw [List.map_append] at e4
          refine v_ixL (v := intV p) (h4.l e4) (atI_m1 _ _) ?_
          walk_at "v"
          refine v_dninI (h4.atI 0 rfl) ?_
          walk_at "v"
          have eb : barOf (covOf kvs) (bl' ++ [p]) = if covOf kvs p = true then none else some p := by unfold barOf; rw [List.getLast?_concat]
          rw [eb] at hN
          cases hc : (valV kvs (.inl (p : Int))).isSome with
          | true =>
            refine iteF' rfl ?_
            walk_at "v"
            rw [if_pos (show covOf kvs p = true from hc)] at hN
            exact hN _ _ ⟨rfl, rfl⟩
          | false =>
            refine iteT' rfl ?_
            walk_at "v"
            refine v_ixL (v := intV p) (h4.l e4) (atI_m1 _ _) ?_
            rw [if_neg (show ¬ covOf kvs p = true from fun z => by rw [show covOf kvs p = false from hc] at z; cases z)] at hN
            exact hN _ _ ⟨rfl, rfl⟩
      · rintro σ' H' ⟨rfl, rfl⟩
        walk_at "v"
        refine v_slL (h4.l (le_l (l2'.trans l4) hO)) (v_newB h4 fun sp B5 H5 l5 h5 e5 => ?_)
        rw [show cutV (ones.map intV) none (some (i : Int)) = (ones.take i).map intV by rw [cut_to, List.map_take]] at e5
        walk_at "v"
        refine v_size (by show 4 ≤ sizeLine; decide) (v_newB h5 fun tp B6 H6 l6 h6 e6 => ?_)
        exact qs _ hs4 tp _ B6 H6 (l2'.trans (l4.trans (l5.trans l6))) h6.drop e6 ⟨sp, bp, rfl, l6 _ _ e5, l6 _ _ (l5 _ _ eb)⟩
  · rintro σ' B2 M' H2 l2' h2 ⟨kvs, y4, y5, y6, y7, y8, rfl, hu, hk, rfl⟩
    rw [List.length_map, List.drop_length] at hu
    walk_at "v"
    exact qn hu.symm B2 H2 l2' h2.drop
end K52
set_option Elab.async false
set_option linter.all false
set_option maxRecDepth 100000
/-! what a lost move tells; tables as data -/
namespace Sh
open PySem PySem.Spec PyProof.Rows L2
open SX (S)
abbrev LostR := Bool × Bool × (Nat × Nat × List Nat × Option Nat)
def lost1 (n m : Nat) (f : Rel) (k j : Nat) (later : Bool) : Option LostR := match una f (bey later j m) 0 noC (bey later k n) with
  | some r => some (later, false, r)
  | none => (una (flp f) (bey later k n) 0 noC (bey later j m)).map fun r => (later, true, r)
def lost (n m : Nat) (f : Rel) (k j : Nat) : Option LostR := match lost1 n m f k j true with
  | some r => some r
  | none => lost1 n m f k j false
theorem lost1_none (n m : Nat) (f : Rel) (k j : Nat) (later : Bool) : (lost1 n m f k j later).isNone = stay1 n m f k j later := by
  unfold lost1 stay1
  rw [← una_ans f (bey later j m) (bey later k n) 0 noC, ← una_ans (flp f) (bey later k n) (bey later j m) 0 noC]
  cases una f (bey later j m) 0 noC (bey later k n) with
  | some r => rfl
  | none =>
    cases una (flp f) (bey later k n) 0 noC (bey later j m) with
    | some r => rfl
    | none => rfl
theorem lost_none (n m : Nat) (f : Rel) (k j : Nat) : (lost n m f k j).isNone = stays n m f k j := by
  unfold lost stays
  rw [← lost1_none, ← lost1_none]
  cases lost1 n m f k j true with
  | some r => rfl
  | none => rfl
theorem eqv_bools : ∀ as bs : List Bool, PyData.eqvAll (as.map PyData.bool) (bs.map PyData.bool) = decide (as = bs)
  | [], [] => rfl
  | [], b :: bs => rfl
  | a :: as, [] => rfl
  | a :: as, b :: bs => by
    show (PyData.eqv (.bool a) (.bool b) && PyData.eqvAll (as.map PyData.bool) (bs.map PyData.bool)) = _
    rw [eqv_bools as bs]
    have e : PyData.eqv (.bool a) (.bool b) = decide (a = b) := by cases a <;> cases b <;> (unfold PyData.eqv; rfl)
    rw [e]
    by_cases h1 : a = b
    · subst h1
      by_cases h2 : as = bs
      · subst h2; simp
      · simp [h2]
    · simp [h1]
theorem eqv_lines : ∀ as bs : List (List Bool), PyData.eqvAll (linesD as) (linesD bs) = decide (as = bs)
  | [], [] => rfl
  | [], b :: bs => rfl
  | a :: as, [] => rfl
  | a :: as, b :: bs => by
    show (PyData.eqv (.list (a.map .bool)) (.list (b.map .bool)) && PyData.eqvAll (linesD as) (linesD bs)) = _
    rw [eqv_lines as bs]
    have e : PyData.eqv (.list (a.map .bool)) (.list (b.map .bool)) = decide (a = b) := by
      unfold PyData.eqv
      exact eqv_bools a b
    rw [e]
    by_cases h1 : a = b
    · subst h1
      by_cases h2 : as = bs
      · subst h2; simp
      · simp [h2]
    · simp [h1]
theorem lines_has (ls : List (List Bool)) : hasD (.list (linesD ls)) = false := by
  show hasD.hasDs (linesD ls) = false
  induction ls with
  | nil => rfl
  | cons l ls ih =>
    show (hasD (.list (l.map .bool)) || hasD.hasDs (linesD ls)) = false
    rw [ih, Bool.or_false]
    show hasD.hasDs (l.map PyData.bool) = false
    induction l with
    | nil => rfl
    | cons b l ih => show (hasD (.bool b) || hasD.hasDs (l.map PyData.bool)) = false; rw [ih]; rfl
theorem lines_depth (ls : List (List Bool)) : (PyData.list (linesD ls)).depth ≤ 64 := by
  have b0 : ∀ l : List Bool, PyData.depthAll (l.map PyData.bool) = 0 := fun l => by
    induction l with
    | nil => simp only [List.map_nil, PyData.depthAll]
    | cons b l ih => simp only [List.map_cons, PyData.depthAll, PyData.depth, ih]; rfl
  have b1 : PyData.depthAll (linesD ls) ≤ 1 := by
    induction ls with
    | nil => simp only [linesD, List.map_nil, PyData.depthAll]; exact Nat.zero_le _
    | cons l ls ih =>
      show PyData.depthAll (.list (l.map .bool) :: linesD ls) ≤ 1
      simp only [PyData.depthAll, PyData.depth, b0]
      exact Nat.max_le.mpr ⟨by decide, ih⟩
  simp only [PyData.depth]
  omega
section
variable {B H : Hp} {M : List (Addr × HO)} {Q : VK} {K : PySem.W.Frag} {x y : V} {d e : PyData}
theorem v_neG (hs : Hs B M H) (hx : Rp K B x d) (hy : Rp K B y e) (n : hasD d = false) (n2 : hasD e = false) (hd : d.depth ≤ 64) (q : Q (.bl (!PyData.eqv d e)) H) : rNeP K x y H Q :=
  ⟨d, e, (hs.r hx).dp n, (hs.r hy).dp n2, plain_of d n, plain_of e n2, Nat.le_trans (Nat.min_le_left _ _) hd, q⟩
theorem v_eqG (hs : Hs B M H) (hx : Rp K B x d) (hy : Rp K B y e) (n : hasD d = false) (n2 : hasD e = false) (hd : d.depth ≤ 64) (q : Q (.bl (PyData.eqv d e)) H) : rEqP K x y H Q :=
  ⟨d, e, (hs.r hx).dp n, (hs.r hy).dp n2, plain_of d n, plain_of e n2, Nat.le_trans (Nat.min_le_left _ _) hd, q⟩
/-- a, (b, c) = .. -/
theorem v_gTupN {i j k : Nat} {T P : Addr} {x y z : V} {σ : L2.St} {q : L2.St → Hp → Prop} (e : SqT K H T [x, .ref P]) (e2 : SqT K H P [y, z]) (h : gName i x σ H fun σ1 H1 => gName j y σ1 H1 fun σ2 H2 => gName k z σ2 H2 q) :
    gTup K 2 (gCons (gName i) (gCons (gTup K 2 (gCons (gName j) (gCons (gName k) gNil))) gNil)) (.ref T) σ H q := by
  refine ⟨T, [x, .ref P], rfl, e, rfl, x, [.ref P], rfl, ?_⟩
  show gCons (gTup K 2 (gCons (gName j) (gCons (gName k) gNil))) gNil [.ref P] (σ.set i (some x)) H q
  refine ⟨.ref P, [], rfl, v_gTup2 e2 ?_⟩
  show gNil [] (((σ.set i (some x)).set j (some y)).set k (some z)) H q
  exact ⟨rfl, h⟩
end
abbrev cellD (p : Nat × Nat) : PyData := .tuple [.int (p.1 : Int), .int (p.2 : Int)]
def levD (l : Bool) (L : List (Nat × Nat)) : PyData := mkD l (L.map cellD)
end Sh
set_option Elab.async false
set_option linter.all false
set_option maxRecDepth 100000
set_option maxHeartbeats 8000000
namespace K52
open PySem PySem.Spec PyProof.Rows L2 Sh
open SX (S)
local macro_rules | `(tactic| walk_at "v1") => `(tactic| first
  | with_reducible refine v_seq ?_ | with_reducible refine v_asg ?_ | ((with_reducible refine' v_name ?e ?_); (case e => exact rfl)) | with_reducible refine v_ret ?_ | with_reducible refine v_drop ?_ | with_reducible refine v_next ?_
  | with_reducible refine v_if ?_ | with_reducible refine v_op ?_ | with_reducible refine v_c ?_ | ((with_reducible refine' v_var ?e ?_); (case e => exact rfl))
  | with_reducible refine v_I0 ?_ | with_reducible refine v_test ?_ | with_reducible refine v_B ?_ | with_reducible refine v_bl ?_ | with_reducible refine v_not ?_ | with_reducible refine v_and ?_ | with_reducible refine v_or ?_
  | with_reducible refine v_andV ?_ | with_reducible refine v_orV ?_ | with_reducible refine v_notV ?_ | with_reducible refine v_ife ?_
  | with_reducible refine v_nil ?_ | with_reducible refine v_cons ?_ | with_reducible refine v_tup ?_ | with_reducible refine v_lst ?_ | with_reducible refine v_call ?_ | with_reducible refine v_cb ?_ | with_reducible refine v_int ?_ | with_reducible refine v_abs ?_
  | ((with_reducible refine' v_eq ?e ?_); (case e => exact rfl)) | ((with_reducible refine' v_ne ?e ?_); (case e => exact rfl)) | with_reducible refine v_sub ?_ | with_reducible refine v_isN ?_ | with_reducible refine v_notN ?_
  | with_reducible refine v_part ?_ | with_reducible refine v_nopart ?_ | with_reducible refine v_pint ?_ | with_reducible refine v_inSg ?_ | with_reducible refine v_notInSg ?_
  | ((with_reducible refine' v_ixL ?l ?a ?_); (case l => assumption); (case a => exact at_lit _ rfl)) | ((with_reducible refine' v_ixT ?l ?a ?_); (case l => assumption); (case a => exact at_lit _ rfl))
  | ((with_reducible refine v_I ?c ?_); (case c => (first | omega | (unfold CMul; omega) | (unfold CDivN; omega) | (unfold CPow; omega))))
  | with_reducible refine v_for ?_ | with_reducible refine v_iList ?_ | with_reducible refine v_iTup ?_ | with_reducible refine v_iStr ?_ | with_reducible refine v_iR1 ?_ | with_reducible refine v_iR2 ?_ | with_reducible refine v_atS ?_ | with_reducible refine v_sl ?_ | with_reducible refine v_lc ?_ | with_reducible refine v_yes ?_
  | with_reducible refine v_m1 ?_ | with_reducible refine v_m1S ?_ | with_reducible refine v_bm ?_ | with_reducible refine v_bm0 ?_ | with_reducible refine v_dnewK ?_ | with_reducible refine v_dnewT ?_ | with_reducible refine v_dget ?_ | with_reducible refine v_din ?_ | with_reducible refine v_dnotin ?_ | with_reducible refine v_dput ?_ | with_reducible refine v_chain ?_ | with_reducible refine v_un ?_ | with_reducible refine v_neg ?_
  | with_reducible refine v_brk ?_ | with_reducible refine v_cont ?_
  | with_reducible refine v_fld ?_ | with_reducible refine v_sfld ?_ | with_reducible refine v_meth ?_ | with_reducible refine v_methT ?_ | with_reducible refine v_make ?_ | with_reducible refine v_makeT ?_ | with_reducible refine v_dget2 ?_ | with_reducible refine v_enumS ?_ | with_reducible refine v_enumQ ?_ | with_reducible refine v_lc2 ?_ | with_reducible refine v_isB ?_ | with_reducible refine v_notB ?_ | with_reducible refine v_lstRg2 ?_ | with_reducible refine v_lstRg3 ?_)
local macro_rules | `(tactic| walk_at "v") => `(tactic| repeat (walk_at "v1"))
local macro_rules | `(tactic| walk_at "vm") => `(tactic| repeat (first | ((with_reducible refine v_modP ?c ?_); (case c => omega); (intro _ _ _)) | walk_at "v1"))
local macro_rules | `(tactic| walk_at "iv") => `(tactic| (try dsimp only; refine IV.mk (by assumption) (by assumption) ?_))
local macro_rules | `(tactic| walk_at "n") => `(tactic| dsimp only [List.set_cons_zero, List.set_cons_succ])
/-! ### lost_move -/
def LostV (B : Hp) (n m k j : Nat) (r : LostR) (xs : List V) : Prop := ∃ ys, xs = [V.str (wordOf r.1), .bl r.2.1] ++ ys ∧ UnaV B (if r.2.1 = true then bey r.1 j m else bey r.1 k n) r.2.2 ys
def sp_p_lost_move (K : PySem.W.Frag) : Sp := fun vs H Q _ => ∃ (B : Hp) (M : List (Addr × HO)) (v v2 : V) (n m k j : Nat) (f : Rel), vs = [v, v2, .int (k : Int), .int (j : Int)] ∧ Hs B M H ∧ Rp K B v (tabD n m f) ∧ Rp K B v2 (tabD m n (flp f)) ∧ k < n ∧ j < m ∧ n ≤ 100 ∧ m ≤ 100 ∧
  (lost n m f k j = none → ∀ (B' H' : Hp), Le B B' → Hs B' M H' → Q .non H') ∧ ∀ r, lost n m f k j = some r → ∀ (p : Addr) (xs : List V) (B' H' : Hp), Le B B' → Hs B' M H' → B' p = some (.tup xs) → LostV B' n m k j r xs → Q (.ref p) H'
def t_p_lost_move (K : PySem.W.Frag) : TS := (tSeq (tFor (iTup K (tTup (tCons (tC (.str "until")) (tCons (tC (.str "since")) tNil)))) (gName 4) (tSeq (tAsg (tCall (sp_p_places_beyond K) [] E0 (tCons (tVar 2) (tCons (tCB (rCLen K) (tCons (tVar 0) tNil)) (tCons (tVar 4) tNil)))) (gName 5))
    (tSeq (tAsg (tCall (sp_p_places_beyond K) [] E0 (tCons (tVar 3) (tCons (tCB (rCLen K) (tCons (tVar 1) tNil)) (tCons (tVar 4) tNil)))) (gName 6))
    (tSeq (tAsg (tCall (sp_p_unanswered K) [] E0 (tCons (tVar 0) (tCons (tVar 5) (tCons (tVar 6) tNil)))) (gName 7))
    (tSeq (tIfS (tTest (tOp rNotNn (tVar 7) (tC .non))) (tRet (tOp (rCatA K) (tTup (tCons (tVar 4) (tCons (tC (.bl false)) tNil))) (tVar 7))) tNext)
    (tSeq (tAsg (tCall (sp_p_unanswered K) [] E0 (tCons (tVar 1) (tCons (tVar 6) (tCons (tVar 5) tNil)))) (gName 7))
    (tIfS (tTest (tOp rNotNn (tVar 7) (tC .non))) (tRet (tOp (rCatA K) (tTup (tCons (tVar 4) (tCons (tC (.bl true)) tNil))) (tVar 7))) tNext)))))))
    (tRet (tC .non)))
theorem pure_p_lost_move {K : PySem.W.Frag} (vs : List V) (H : Hp) (Q : VK) (E : XK) (h : sp_p_lost_move K vs H Q E) : t_p_lost_move K { nx := fun _ H' => Q .non H', rt := Q } (start n_p_lost_move vs) H := by
  obtain ⟨B, M, v, v2, n, m, k, j, f, rfl, hs, hv, hv2, hk, hj, n1, m1, qn, qs⟩ := h
  obtain ⟨na, xs, rfl, hN, hX⟩ := rp_mk (l := true) hv
  obtain ⟨ba, ys, rfl, hB, hY⟩ := rp_mk (l := true) hv2
  have xl : xs.length = n := by rw [hX.length, tab_data, List.length_map, List.length_range]
  have yl : ys.length = m := by rw [hY.length, tab_data, List.length_map, List.length_range]
  show t_p_lost_move K _ [some (V.ref na), some (V.ref ba), some (V.int (k : Int)), some (V.int (j : Int)), none, none, none, none] H
  unfold t_p_lost_move
  walk_at "v"
  refine v_size (by show 2 ≤ sizeLine; decide) (v_newB hs fun t B1 H1 l1 h1 e1 => ?_)
  refine v_atT (h1.t (SqT.of e1)) (v_forT (SqT.of e1) h1 (fun i σ' B' M' => M' = M ∧ (1 ≤ i → lost1 n m f k j true = none) ∧ (2 ≤ i → lost1 n m f k j false = none) ∧ ∃ y4 y5 y6 y7 : Option V, σ' = [some (V.ref na), some (V.ref ba), some (V.int (k : Int)), some (V.int (j : Int)), y4, y5, y6, y7])
    ⟨rfl, fun h => absurd h (by decide), fun h => absurd h (by decide), none, none, none, none, rfl⟩ ?_ ?_)
  · rintro i x σ' B2 M' H2 hi hx l2 h2 ⟨rfl, i1, i2, y4, y5, y6, y7, rfl⟩
    obtain ⟨later, rfl, hp, hnx⟩ : ∃ later, x = .str (wordOf later) ∧ (∀ r, lost1 n m f k j later = some r → lost n m f k j = some r) ∧ (lost1 n m f k j later = none → (1 ≤ i + 1 → lost1 n m f k j true = none) ∧ (2 ≤ i + 1 → lost1 n m f k j false = none)) := by
      rcases (show i = 0 ∨ i = 1 by have : i < 2 := hi; omega) with rfl | rfl
      · cases hx
        exact ⟨true, rfl, fun r h => by unfold lost; rw [h], fun h => ⟨fun _ => h, fun h => absurd h (by decide)⟩⟩
      · cases hx
        exact ⟨false, rfl, fun r h => by unfold lost; rw [i1 (Nat.le_refl _)]; exact h, fun h => ⟨fun _ => i1 (Nat.le_refl _), fun _ => h⟩⟩
    have l12 := l1.trans l2
    walk_at "v"
    refine v_lenL (h2.l (le_l l12 hN)) ?_
    walk_at "v"
    refine ⟨B2, _, k, n, later, by rw [xl]; rfl, h2, by omega, by omega, fun op B3 H3 l3 h3 e3 => ?_⟩
    walk_at "v"
    refine v_lenL (h3.l (le_l (l12.trans l3) hB)) ?_
    walk_at "v"
    refine ⟨B3, _, j, m, later, by rw [yl]; rfl, h3, by omega, by omega, fun pp B4 H4 l4 h4 e4 => ?_⟩
    have l14 := l12.trans (l3.trans l4)
    have eO : SqL K B4 op ((bey later k n).map intV) := SqL.of (l4 _ _ e3)
    have eP : SqL K B4 pp ((bey later j m).map intV) := SqL.of e4
    have b1 : ∀ a ∈ bey later k n, a < n := fun a ha => bey_lt hk ha
    have b2 : ∀ a ∈ bey later j m, a < m := fun a ha => bey_lt hj ha
    have c1 := bey_len (later := later) hk
    have c2 := bey_len (later := later) hj
    walk_at "v"
    refine ⟨B4, _, .ref na, n, m, f, op, pp, bey later k n, bey later j m, rfl, h4, hv.up l14, eO, eP, b1, b2, by omega, by omega, fun u0 B5 H5 l5 h5 => ?_, fun r u0 p us B5 H5 l5 h5 e5 uv => ?_⟩
    · walk_at "v"
      refine iteF' (by decide) ?_
      walk_at "v"
      refine ⟨B5, _, .ref ba, m, n, flp f, pp, op, bey later j m, bey later k n, rfl, h5, hv2.up (l14.trans l5), le_l l5 eP, le_l l5 eO, b2, b1, by omega, by omega, fun u1 B6 H6 l6 h6 => ?_, fun r u1 p us B6 H6 l6 h6 e6 uv => ?_⟩
      · walk_at "v"
        refine iteF' (by decide) ?_
        walk_at "v"
        have h0 : lost1 n m f k j later = none := by unfold lost1; rw [u0, u1]; rfl
        obtain ⟨g1, g2⟩ := hnx h0
        try dsimp only
        exact IV.mk (l2.trans (l3.trans (l4.trans (l5.trans l6)))) h6 ⟨rfl, g1, g2, _, _, _, _, rfl⟩
      · walk_at "v"
        refine iteT' rfl ?_
        walk_at "v"
        refine v_size (by show 2 ≤ sizeLine; decide) (v_newB h6 fun t2 B7 H7 l7 h7 e7 => ?_)
        walk_at "v"
        have ul : us.length = 4 := by obtain ⟨_, _, rfl, _⟩ := uv; rfl
        refine v_catAB h7 e7 (l7 _ _ e6) (by rw [ul]; exact sz_of (by show 2 + 4 ≤ 1000000; omega)) fun tp B8 H8 l8 h8 e8 => ?_
        have h0 : lost1 n m f k j later = some (later, true, r) := by unfold lost1; rw [u0, u1]; rfl
        refine qs _ (hp _ h0) tp _ B8 H8 (l14.trans (l5.trans (l6.trans (l7.trans l8)))) h8 e8 ⟨us, rfl, ?_⟩
        obtain ⟨a1, a2, rfl, f1, f2⟩ := uv
        exact ⟨a1, a2, rfl, by rw [if_pos rfl]; exact l8 _ _ (l7 _ _ f1), l8 _ _ (l7 _ _ f2)⟩
    · walk_at "v"
      refine iteT' rfl ?_
      walk_at "v"
      refine v_size (by show 2 ≤ sizeLine; decide) (v_newB h5 fun t2 B7 H7 l7 h7 e7 => ?_)
      walk_at "v"
      have ul : us.length = 4 := by obtain ⟨_, _, rfl, _⟩ := uv; rfl
      refine v_catAB h7 e7 (l7 _ _ e5) (by rw [ul]; exact sz_of (by show 2 + 4 ≤ 1000000; omega)) fun tp B8 H8 l8 h8 e8 => ?_
      have h0 : lost1 n m f k j later = some (later, false, r) := by unfold lost1; rw [u0]
      refine qs _ (hp _ h0) tp _ B8 H8 (l14.trans (l5.trans (l7.trans l8))) h8 e8 ⟨us, rfl, ?_⟩
      obtain ⟨a1, a2, rfl, f1, f2⟩ := uv
      exact ⟨a1, a2, rfl, by rw [if_neg Bool.false_ne_true]; exact l8 _ _ (l7 _ _ f1), l8 _ _ (l7 _ _ f2)⟩
  · rintro σ' B2 M' H2 l2 h2 ⟨rfl, i1, i2, y4, y5, y6, y7, rfl⟩
    walk_at "v"
    exact qn (by unfold lost; rw [i1 (by show 1 ≤ 2; decide)]; exact i2 (Nat.le_refl 2)) B2 H2 (l1.trans l2) h2
/-! ### next_table -/
def sp_p_next_table (K : PySem.W.Frag) : Sp := fun vs H Q _ => ∃ (B : Hp) (M : List (Addr × HO)) (v v2 : V) (n m : Nat) (f : Rel), vs = [v, v2] ∧ Hs B M H ∧ Rp K B v (tabD n m f) ∧ Rp K B v2 (tabD m n (flp f)) ∧ n ≤ 100 ∧ m ≤ 100 ∧
  ∀ (v' : V) (B' H' : Hp), Le B B' → Hs B' M H' → Rp K B' v' (tabD n m (next n m f)) → Q v' H'
def t_p_next_table (K : PySem.W.Frag) : TS := (tRet (tLc (iEnumQ K (tCons (tVar 0) tNil)) (gTup K 2 (gCons (gName 3) (gCons (gName 4) gNil))) tYes (tLc (iRng1 (tCons (tCB (rCLen K) (tCons (tVar 1) tNil)) tNil)) (gName 2) tYes (tAndV (tOp (rIxL K) (tVar 4) (tVar 2)) (tOp rIsNn (tCall (sp_p_lost_move K) [] E0 (tCons (tVar 0) (tCons (tVar 1) (tCons (tVar 3) (tCons (tVar 2) tNil))))) (tC .non))) [2]) [3, 4]))
theorem pure_p_next_table {K : PySem.W.Frag} (vs : List V) (H : Hp) (Q : VK) (E : XK) (h : sp_p_next_table K vs H Q E) : t_p_next_table K { nx := fun _ H' => Q .non H', rt := Q } (start n_p_next_table vs) H := by
  obtain ⟨B, M, v, v2, n, m, f, rfl, hs, hv, hv2, n1, m1, q⟩ := h
  obtain ⟨na, xs, rfl, hN, hX⟩ := rp_mk (l := true) hv
  obtain ⟨ba, ys, rfl, hB, hY⟩ := rp_mk (l := true) hv2
  have xl : xs.length = n := by rw [hX.length, tab_data, List.length_map, List.length_range]
  have yl : ys.length = m := by rw [hY.length, tab_data, List.length_map, List.length_range]
  show t_p_next_table K _ [some (V.ref na), some (V.ref ba), none, none, none] H
  unfold t_p_next_table
  walk_at "v"
  refine ⟨na, xs, rfl, .inl ⟨hs.l hN, v_lcP hs (fun B' M' H' l h => h.l (le_l l hN)) (fun i acc B' M' => M' = M ∧ RpAll K B' acc ((List.range i).map fun k => PyData.list (((List.range m).map (next n m f k)).map .bool))) ⟨rfl, .nil⟩ ?_ ?_⟩⟩
  · rintro i Tt x y p acc B1 M' H1 hi ex ey ha l1 eT h1 ⟨B2, l2, l3, rfl, hacc⟩
    have hacc := hacc.up l3
    obtain rfl := Option.some.inj ex
    obtain ⟨a, ea, hA⟩ := tab_at hX (k := i) (by omega)
    have ey : xs[i]? = some y := ey
    rw [ea] at ey
    cases ey
    refine v_gTup2 (h1.t (SqT.of eT)) ?_
    walk_at "v"
    refine ⟨rfl, ?_⟩
    walk_at "v"
    refine iteT' rfl ?_
    walk_at "v"
    refine v_lenL (h1.l (le_l l1 hB)) ?_
    walk_at "v"
    rw [yl]
    refine v_atR1 (by omega) ?_
    rw [Int.toNat_natCast]
    refine v_lcR h1 (fun j acc2 B' M'' => M'' = (p, .lst acc) :: M' ∧ acc2 = (List.range j).map fun b => V.bl (next n m f i b)) ⟨rfl, rfl⟩ ?_ ?_
    · rintro j p2 acc2 B3 M'' H3 hj ha2 l4 h3 ⟨rfl, rfl⟩
      walk_at "v"
      refine ⟨rfl, ?_⟩
      walk_at "v"
      refine iteT' rfl ?_
      walk_at "v"
      have l14 := l1.trans l4
      refine v_ixL (v := .bl (f i j)) (h3.l (le_l l14 hA)) (at_k (by omega) ?_) ?_
      · rw [show ((0 : Int) + (j : Int)).toNat = j by omega]
        exact row_at hj
      refine ⟨_, rfl, ite2 (fun c0 => ?_) (fun c0 => ?_)⟩
      · walk_at "v"
        refine ⟨B3, _, .ref na, .ref ba, n, m, i, j, f, by rw [show (0 : Int) + (j : Int) = (j : Int) by omega]; rfl, h3, hv.up l14, hv2.up l14, by omega, hj, n1, m1, fun u0 B5 H5 l5 h5 => ?_, fun r u0 p3 us B5 H5 l5 h5 e5 uv => ?_⟩
        · walk_at "v"
          refine IE.mk ha2 hj (by omega) (l4.trans l5) h5 ⟨rfl, ?_⟩
          rw [range_succ_map]
          have e : next n m f i j = true := by
            show (f i j && stays n m f i j) = true
            rw [c0, ← lost_none, u0]
            rfl
          rw [e]
          rfl
        · walk_at "v"
          refine IE.mk ha2 hj (by omega) (l4.trans l5) h5 ⟨rfl, ?_⟩
          rw [range_succ_map]
          have e : next n m f i j = false := by
            show (f i j && stays n m f i j) = false
            rw [c0, ← lost_none, u0]
            rfl
          rw [e]
          rfl
      · refine IE.mk ha2 hj (by omega) l4 h3 ⟨rfl, ?_⟩
        rw [range_succ_map]
        have e : next n m f i j = false := by
          show (f i j && stays n m f i j) = false
          rw [Bool.eq_false_iff.mpr c0]
          rfl
        rw [e]
    · rintro p2 acc2 B3 M'' H3 ha2 l4 h3 ⟨rfl, rfl⟩
      obtain ⟨h4, l5⟩ := h3.fix
      refine IE.mk ha hi (by omega) (l1.trans (l4.trans l5)) h4 ⟨rfl, ?_⟩
      rw [range_succ_map]
      refine (hacc.up (l4.trans l5)).append (.one (.lst (SqL.of upd_same) ?_))
      have := bools_rp (K := K) (B := upd B3 p2 (.lst ((List.range m).map fun b => V.bl (next n m f i b)))) ((List.range m).map (next n m f i))
      rw [List.map_map] at this
      exact this
  · rintro p acc B1 M' H1 ha l1 h1 ⟨rfl, hacc⟩
    obtain ⟨h2, l2⟩ := h1.fix
    refine q _ _ _ (l1.trans l2) h2 (.lst (SqL.of upd_same) ?_)
    rw [tab_data, ← xl]
    rw [xl] at hacc ⊢
    exact hacc.up l2
section
variable {P : Program} {w : World} {K : PySem.W.Frag} {mg : Str → Option Value} {base : Heap}
theorem ok_p_unanswered (T : Txt K mg w) : FnOk P w K mg base CX0 2 T.a_p_unanswered T.fd_p_unanswered ["near", "ones", "others"] (sp_p_unanswered K) := by
  refine T.F_p_unanswered.ok sc_p_unanswered (fun vs H Q E h => ?_) (fun cdv A outer s H vs Q E hr h => ⟨t_p_unanswered K, ?_, pure_p_unanswered vs H Q E h⟩)
  · obtain ⟨B, M, v, n, m, f, oa, pa, ones, others, rfl, _⟩ := h
    rfl
  · exact (pss_cons (ps_set (i := 3) sc_p_unanswered.nd rfl (by first | exact Or.inl rfl | exact Or.inr rfl) pe_dnewK)
      (pss_cons (ps_for PassesOwn.never rfl (pi_enumQ (by rfl) (T.free_enumerate) (pa_cons (pv 1) pa_nil)) (pg_tup rfl (pgs_cons (pg_name (i := 4) sc_p_unanswered.nd rfl (by first | exact Or.inl rfl | exact Or.inr rfl)) (pgs_cons (pg_name (i := 5) sc_p_unanswered.nd rfl (by first | exact Or.inl rfl | exact Or.inr rfl)) pgs_nil))) (pss_cons (ps_set (i := 6) sc_p_unanswered.nd rfl (by first | exact Or.inl rfl | exact Or.inr rfl) (pe_call (ok_p_barred_places T) hr (by rfl) T.g_p_barred_places T.F_p_barred_places.kp T.b_p_barred_places .nil pass0 (pa_cons (pe_ix ix_list (pv 0) (pv 5) (fun _ _ => rfl)) (pa_cons (pv 3) (pa_cons (pv 2) pa_nil)))))
      (pss_cons (ps_if (pt_cmpR op_notN (pv 6) pe_non (nomark _)) (pss_cons (ps_set (i := 7) sc_p_unanswered.nd rfl (by first | exact Or.inl rfl | exact Or.inr rfl) (pe_ifExp (PW.pt (pw_and (pt_cmpR op_gt (pe_callB call_len (by rfl) (T.free_len) (by decide +kernel) (pa_cons (pv 6) pa_nil)) pe_int (nomark _)) (pw_and1 (pt_cmp (pc_dnotin (hu_of hr) (pe_ix ix_list (pv 6) (pe_un un_neg pe_int) (fun _ _ => rfl)) (pv 3)))))) (pe_ix ix_list (pv 6) (pe_un un_neg pe_int) (fun _ _ => rfl)) pe_non))
      (pss_one (ps_ret (pe_tup (pa_cons (pv 5) (pa_cons (pe_slice sl_list (pv 1) po_none (po_some (pv 4))) (pa_cons (pv 6) (pa_cons (pv 7) pa_nil)))))))) pss_nil)
      (pss_one (ps_for PassesOwn.never rfl (pi_list (pv 2)) (pg_name (i := 8) sc_p_unanswered.nd rfl (by first | exact Or.inl rfl | exact Or.inr rfl)) (pss_one (ps_if (pt_val (pe_ix ix_list (pe_ix ix_list (pv 0) (pv 5) (fun _ _ => rfl)) (pv 8) (fun _ _ => rfl))) (pss_one (ps_dput (hu_of hr) (pv 3) (pv 8) pe_bl rfl)) pss_nil)))))))
      (pss_one (ps_ret pe_non))))
theorem ok_p_lost_move (T : Txt K mg w) : FnOk P w K mg base CX0 3 T.a_p_lost_move T.fd_p_lost_move ["near", "back", "k", "m"] (sp_p_lost_move K) := by
  refine T.F_p_lost_move.ok sc_p_lost_move (fun vs H Q E h => ?_) (fun cdv A outer s H vs Q E hr h => ⟨t_p_lost_move K, ?_, pure_p_lost_move vs H Q E h⟩)
  · obtain ⟨B, M, v, v2, n, m, k, j, f, rfl, _⟩ := h
    rfl
  · exact (pss_cons (ps_for PassesOwn.never rfl (pi_tup (pe_tup (pa_cons pe_str (pa_cons pe_str pa_nil)))) (pg_name (i := 4) sc_p_lost_move.nd rfl (by first | exact Or.inl rfl | exact Or.inr rfl)) (pss_cons (ps_set (i := 5) sc_p_lost_move.nd rfl (by first | exact Or.inl rfl | exact Or.inr rfl) (pe_call (ok_p_places_beyond T) (hr.mono (by decide)) (by rfl) T.g_p_places_beyond T.F_p_places_beyond.kp T.b_p_places_beyond .nil pass0 (pa_cons (pv 2) (pa_cons (pe_callB call_len (by rfl) (T.free_len) (by decide +kernel) (pa_cons (pv 0) pa_nil)) (pa_cons (pv 4) pa_nil)))))
      (pss_cons (ps_set (i := 6) sc_p_lost_move.nd rfl (by first | exact Or.inl rfl | exact Or.inr rfl) (pe_call (ok_p_places_beyond T) (hr.mono (by decide)) (by rfl) T.g_p_places_beyond T.F_p_places_beyond.kp T.b_p_places_beyond .nil pass0 (pa_cons (pv 3) (pa_cons (pe_callB call_len (by rfl) (T.free_len) (by decide +kernel) (pa_cons (pv 1) pa_nil)) (pa_cons (pv 4) pa_nil)))))
      (pss_cons (ps_set (i := 7) sc_p_lost_move.nd rfl (by first | exact Or.inl rfl | exact Or.inr rfl) (pe_call (ok_p_unanswered T) hr (by rfl) T.g_p_unanswered T.F_p_unanswered.kp T.b_p_unanswered .nil pass0 (pa_cons (pv 0) (pa_cons (pv 5) (pa_cons (pv 6) pa_nil)))))
      (pss_cons (ps_if (pt_cmpR op_notN (pv 7) pe_non (nomark _)) (pss_one (ps_ret (pe_op op_catA (pe_tup (pa_cons (pv 4) (pa_cons pe_bl pa_nil))) (pv 7)))) pss_nil)
      (pss_cons (ps_set (i := 7) sc_p_lost_move.nd rfl (by first | exact Or.inl rfl | exact Or.inr rfl) (pe_call (ok_p_unanswered T) hr (by rfl) T.g_p_unanswered T.F_p_unanswered.kp T.b_p_unanswered .nil pass0 (pa_cons (pv 1) (pa_cons (pv 6) (pa_cons (pv 5) pa_nil)))))
      (pss_one (ps_if (pt_cmpR op_notN (pv 7) pe_non (nomark _)) (pss_one (ps_ret (pe_op op_catA (pe_tup (pa_cons (pv 4) (pa_cons pe_bl pa_nil))) (pv 7)))) pss_nil))))))))
      (pss_one (ps_ret pe_non)))
theorem ok_p_next_table (T : Txt K mg w) : FnOk P w K mg base CX0 4 T.a_p_next_table T.fd_p_next_table ["near", "back"] (sp_p_next_table K) := by
  refine T.F_p_next_table.ok sc_p_next_table (fun vs H Q E h => ?_) (fun cdv A outer s H vs Q E hr h => ⟨t_p_next_table K, ?_, pure_p_next_table vs H Q E h⟩)
  · obtain ⟨B, M, v, v2, n, m, f, rfl, _⟩ := h
    rfl
  · exact (pss_one (ps_ret (pe_lc (own := [("k", 3), ("line", 4)]) (g := (gTup K 2 (gCons (gName 3) (gCons (gName 4) gNil)))) (tt := tYes) rfl sc_p_next_table.nd (pi_enumQ (by rfl) (T.free_enumerate) (pa_cons (pv 0) pa_nil)) (blkOk_by (own := [("k", 3), ("line", 4)]) (N := n_p_next_table) (sc := defScope s_p_next_table) (by decide +kernel)) (fun _ _ _ _ _ => (pg_tup rfl (pgs_cons (pg_name (i := 3) sc_p_next_table.nd rfl (Or.inr rfl)) (pgs_cons (pg_name (i := 4) sc_p_next_table.nd rfl (Or.inr rfl)) pgs_nil)))) (fun _ _ _ _ _ => pts_nil) (fun _ _ _ _ _ => (pe_lc (own := [("m", 2)]) (g := (gName 2)) (tt := tYes) rfl sc_p_next_table.nd (pi_range1 (by rfl) (T.free_range) (pa_cons (pe_callB call_len (by rfl) (T.free_len) (by decide +kernel) (pa_cons (pv 1) pa_nil)) pa_nil)) (blkOk_by (own := [("m", 2)]) (N := n_p_next_table) (sc := { kind := .function, names := [(".0", .local), ("k", .cell), ("line", .cell), ("range", .globalImplicit), ("len", .globalImplicit), ("back", .cell), ("near", .cell)], isGenerator := false, isCoroutine := false }) (by decide +kernel)) (fun _ _ _ _ _ => (pg_name (i := 2) sc_p_next_table.nd rfl (Or.inl rfl))) (fun _ _ _ _ _ => pts_nil) (fun _ _ _ _ _ => (pe_and (pe_ix ix_list (pv 4) (pv 2) (fun _ _ => rfl)) (pe_one (pe_cmpR op_isN (pe_call (ok_p_lost_move T) hr (by rfl) T.g_p_lost_move T.F_p_lost_move.kp T.b_p_lost_move .nil pass0 (pa_cons (pv 0) (pa_cons (pv 1) (pa_cons (pv 3) (pa_cons (pv 2) pa_nil))))) pe_non (nomark _))))))))))
end
end K52
set_option Elab.async false
set_option linter.all false
set_option maxRecDepth 100000
set_option maxHeartbeats 2000000
namespace Sh
open PySem PySem.Spec PyProof.Rows L2
open SX (S)
section
variable {B H : Hp} {M : List (Addr × HO)} {Q : VK} {σ : L2.St} {g g1 : TG} {tt tt1 : TT} {te : TE} {wi wi1 : L2.TI} {vs vs1 : List Nat} {n : Nat} {G : Hp → Prop} {p : Addr} {xs ys : Nat → Option V}
theorem v_lc2P (hs : Hs B M H) (hG : ∀ B' M' H', Le B B' → Hs B' M' H' → G H') (I : Nat → List V → Hp → List (Addr × HO) → Prop) (h0 : I 0 [] B M)
    (step : ∀ i T x y p acc B' M' H', i < n → xs i = some x → ys i = some y → Le B B' → B' T = some (.tup [x, y]) → Hs B' ((p, .lst acc) :: M') H' → (∃ B2, Le B B2 ∧ Le B2 B' ∧ I i acc B2 M') → g (.ref T) (wipe σ vs) H' fun σ2 H2 => wipe σ2 vs = wipe σ vs ∧ tt σ2 H2 fun b H3 =>
      if b = true then wi1 σ2 H3 fun J1 H4 => InR g1 tt1 te vs1 σ2 p (IQ B I p (i + 1)) J1 H4 else IQ B I p (i + 1) H3)
    (done : ∀ p acc B' M' H', Le B B' → Hs B' ((p, .lst acc) :: M') H' → I n acc B' M' → Q (.ref p) H') : Lc2R g tt wi1 g1 tt1 te vs vs1 σ Q (ItP G n xs ys) H :=
  v_lc2W walk_pairs hs hG I h0 (fun i v p acc B' M' H' H'' hi l h x1 y => by
    obtain ⟨T, x, y, rfl, nT, rfl, ex, ey⟩ := y
    obtain ⟨h1, h2⟩ := h.newB nT (.tup [x, y])
    exact step i T x y p acc _ M' _ hi ex ey (l.trans h2) upd_same h1 ⟨B', l, h2, x1⟩) done
theorem v_inP {Nx : Hp → Prop} {acc0 : List V} (hs : Hs B ((p, .lst acc0) :: M) H) (hG : ∀ B' M' H', Le B B' → Hs B' M' H' → G H') (I : Nat → List V → Hp → List (Addr × HO) → Prop) (h0 : I 0 acc0 B M)
    (step : ∀ j T x y acc B' M' H', j < n → xs j = some x → ys j = some y → Le B B' → B' T = some (.tup [x, y]) → Hs B' ((p, .lst acc) :: M') H' → (∃ B2, Le B B2 ∧ Le B2 B' ∧ I j acc B2 M') → g1 (.ref T) (wipe σ vs1) H' fun σ3 H5 => wipe σ3 vs1 = wipe σ vs1 ∧ tt1 σ3 H5 fun b H6 => if b = true then te σ3 H6 (IF B I p (j + 1)) else IQ B I p (j + 1) H6)
    (done : ∀ acc B' M' H', Le B B' → Hs B' ((p, .lst acc) :: M') H' → I n acc B' M' → Nx H') : InR g1 tt1 te vs1 σ p Nx (ItP G n xs ys) H :=
  v_inW walk_pairs hs hG I h0 (fun j v acc B' M' H' H'' hj l h x1 y => by
    obtain ⟨T, x, y, rfl, nT, rfl, ex, ey⟩ := y
    obtain ⟨h1, h2⟩ := h.newB nT (.tup [x, y])
    exact step j T x y acc _ M' _ hj ex ey (l.trans h2) upd_same h1 ⟨B', l, h2, x1⟩) done
theorem eqL (c d : Nat) : decide (V.str ⟨#[c]⟩ = V.str ⟨#[d]⟩) = decide (c = d) := by
  refine decide_eq_decide.mpr ⟨fun h => ?_, fun h => by rw [h]⟩
  injection h with h
  injection h with h
  simpa using h
theorem getD_of {l : List Nat} {i c : Nat} (h : l[i]? = some c) : l.getD i 0 = c := by rw [List.getD_eq_getElem?_getD, h]; rfl
end
theorem v_tupX {K : PySem.W.Frag} {B H : Hp} {M : List (Addr × HO)} {Q : VK} {l : Bool} {p : Addr} {xs : List V} (hs : Hs B M H) (hx : SqX K B l p xs) (h : ∀ (p' : Addr) (B' H' : Hp), Le B B' → Hs B' M H' → B' p' = some (.tup xs) → Q (.ref p') H') : rCTup K [.ref p] H Q := by
  cases l with
  | true => exact v_tupLB hs (hs.l hx) h
  | false => exact v_tupleT (hs.t (SqT.of hx)) (h p B H (Same.refl B) hs hx)
end Sh
set_option Elab.async false
set_option linter.all false
set_option maxRecDepth 100000
set_option maxHeartbeats 8000000
namespace K52
open PySem PySem.Spec PyProof.Rows L2 Sh
open SX (S)
local macro_rules | `(tactic| walk_at "v1") => `(tactic| first
  | with_reducible refine v_seq ?_ | with_reducible refine v_asg ?_ | ((with_reducible refine' v_name ?e ?_); (case e => exact rfl)) | with_reducible refine v_ret ?_ | with_reducible refine v_drop ?_ | with_reducible refine v_next ?_
  | with_reducible refine v_if ?_ | with_reducible refine v_op ?_ | with_reducible refine v_c ?_ | ((with_reducible refine' v_var ?e ?_); (case e => exact rfl))
  | with_reducible refine v_I0 ?_ | with_reducible refine v_test ?_ | with_reducible refine v_B ?_ | with_reducible refine v_bl ?_ | with_reducible refine v_not ?_ | with_reducible refine v_and ?_ | with_reducible refine v_or ?_
  | with_reducible refine v_andV ?_ | with_reducible refine v_orV ?_ | with_reducible refine v_notV ?_ | with_reducible refine v_ife ?_
  | with_reducible refine v_nil ?_ | with_reducible refine v_cons ?_ | with_reducible refine v_tup ?_ | with_reducible refine v_lst ?_ | with_reducible refine v_call ?_ | with_reducible refine v_cb ?_ | with_reducible refine v_int ?_ | with_reducible refine v_abs ?_
  | ((with_reducible refine' v_eq ?e ?_); (case e => exact rfl)) | ((with_reducible refine' v_ne ?e ?_); (case e => exact rfl)) | with_reducible refine v_sub ?_ | with_reducible refine v_isN ?_ | with_reducible refine v_notN ?_
  | with_reducible refine v_part ?_ | with_reducible refine v_nopart ?_ | with_reducible refine v_pint ?_ | with_reducible refine v_inSg ?_ | with_reducible refine v_notInSg ?_
  | ((with_reducible refine' v_ixL ?l ?a ?_); (case l => assumption); (case a => exact at_lit _ rfl)) | ((with_reducible refine' v_ixT ?l ?a ?_); (case l => assumption); (case a => exact at_lit _ rfl))
  | ((with_reducible refine v_I ?c ?_); (case c => (first | omega | (unfold CMul; omega) | (unfold CDivN; omega) | (unfold CPow; omega))))
  | with_reducible refine v_for ?_ | with_reducible refine v_iList ?_ | with_reducible refine v_iTup ?_ | with_reducible refine v_iStr ?_ | with_reducible refine v_iR1 ?_ | with_reducible refine v_iR2 ?_ | with_reducible refine v_atS ?_ | with_reducible refine v_sl ?_ | with_reducible refine v_lc ?_ | with_reducible refine v_yes ?_
  | with_reducible refine v_m1 ?_ | with_reducible refine v_m1S ?_ | with_reducible refine v_bm ?_ | with_reducible refine v_bm0 ?_ | with_reducible refine v_dnewK ?_ | with_reducible refine v_dnewT ?_ | with_reducible refine v_dget ?_ | with_reducible refine v_din ?_ | with_reducible refine v_dnotin ?_ | with_reducible refine v_dput ?_ | with_reducible refine v_chain ?_ | with_reducible refine v_un ?_ | with_reducible refine v_neg ?_
  | with_reducible refine v_brk ?_ | with_reducible refine v_cont ?_
  | with_reducible refine v_fld ?_ | with_reducible refine v_sfld ?_ | with_reducible refine v_meth ?_ | with_reducible refine v_methT ?_ | with_reducible refine v_make ?_ | with_reducible refine v_makeT ?_ | with_reducible refine v_dget2 ?_ | with_reducible refine v_enumS ?_ | with_reducible refine v_enumQ ?_ | with_reducible refine v_lc2 ?_ | with_reducible refine v_isB ?_ | with_reducible refine v_notB ?_ | with_reducible refine v_lstRg2 ?_ | with_reducible refine v_lstRg3 ?_)
local macro_rules | `(tactic| walk_at "v") => `(tactic| repeat (walk_at "v1"))
local macro_rules | `(tactic| walk_at "vm") => `(tactic| repeat (first | ((with_reducible refine v_modP ?c ?_); (case c => omega); (intro _ _ _)) | walk_at "v1"))
local macro_rules | `(tactic| walk_at "iv") => `(tactic| (try dsimp only; refine IV.mk (by assumption) (by assumption) ?_))
local macro_rules | `(tactic| walk_at "n") => `(tactic| dsimp only [List.set_cons_zero, List.set_cons_succ])
def lvD (n m : Nat) (f : Rel) : PyData := .tuple [tabD n m f, tabD m n (flp f)]
def lvsD (n m : Nat) (fs : List Rel) : PyData := .list (fs.map (lvD n m))
/-! ### level_tables -/
def sp_p_level_tables (K : PySem.W.Frag) : Sp := fun vs H Q _ => ∃ (B : Hp) (M : List (Addr × HO)) (r o : List Nat), vs = [.str (S r), .str (S o)] ∧ Hs B M H ∧ r.length ≤ 12 ∧ o.length ≤ 12 ∧
  ∀ (v' : V) (B' H' : Hp), Le B B' → Hs B' M H' → Rp K B' v' (lvsD r.length o.length (levels r.length o.length (rel0 r o))) → Q v' H'
def t_p_level_tables (K : PySem.W.Frag) : TS := (tSeq (tAsg (tLc (iStr (tVar 0)) (gName 4) tYes (tLc (iStr (tVar 1)) (gName 3) tYes (tOp rEq (tVar 4) (tVar 3)) [3]) [4]) (gName 2))
    (tSeq (tAsg (tLst tNil) (gName 5))
    (tSeq (tAsg (tC (.bl true)) (gName 6))
    (tSeq (tWhile (tB (tVar 6)) (tSeq (tAsg (tCall (sp_p_exchanged_table K) [] E0 (tCons (tVar 2) (tCons (tCB (rCLen K) (tCons (tVar 1) tNil)) tNil))) (gName 7))
    (tSeq (tDrop (tBM K "list" rAppend (tVar 5) (tCons (tTup (tCons (tVar 2) (tCons (tVar 7) tNil))) tNil)))
    (tSeq (tAsg (tCall (sp_p_next_table K) [] E0 (tCons (tVar 2) (tCons (tVar 7) tNil))) (gName 8))
    (tSeq (tAsg (tOp (rNeP K) (tVar 8) (tVar 2)) (gName 6))
    (tAsg (tVar 8) (gName 2)))))))
    (tRet (tVar 5))))))
theorem pure_p_level_tables {K : PySem.W.Frag} (vs : List V) (H : Hp) (Q : VK) (E : XK) (h : sp_p_level_tables K vs H Q E) : t_p_level_tables K { nx := fun _ H' => Q .non H', rt := Q } (start n_p_level_tables vs) H := by
  obtain ⟨B, M, r, o, rfl, hs, r12, o12, q⟩ := h
  show t_p_level_tables K _ [some (V.str (S r)), some (V.str (S o)), none, none, none, none, none, none, none] H
  unfold t_p_level_tables
  walk_at "v"
  refine v_lcS hs (fun i acc B' M' => M' = M ∧ RpAll K B' acc ((List.range i).map fun k => PyData.list (((List.range o.length).map (rel0 r o k)).map .bool))) ⟨rfl, .nil⟩ ?_ ?_
  · rintro i c p acc B1 M' H1 hi hc ha l1 h1 ⟨rfl, hacc⟩
    rw [S_get] at hc
    rw [S_size] at hi
    walk_at "v"
    refine ⟨rfl, ?_⟩
    walk_at "v"
    refine iteT' rfl ?_
    walk_at "v"
    refine v_lcS h1 (fun j acc2 B' M'' => M'' = (p, .lst acc) :: M' ∧ acc2 = (List.range j).map fun b => V.bl (rel0 r o i b)) ⟨rfl, rfl⟩ ?_ ?_
    · rintro j d p2 acc2 B3 M'' H3 hj hd ha2 l4 h3 ⟨rfl, rfl⟩
      rw [S_get] at hd
      rw [S_size] at hj
      walk_at "v"
      refine ⟨rfl, ?_⟩
      walk_at "v"
      refine iteT' rfl ?_
      walk_at "v"
      refine IE.mk ha2 hj (by omega) l4 h3 ⟨rfl, ?_⟩
      rw [range_succ_map, eqL]
      unfold rel0
      rw [getD_of hc, getD_of hd]
    · rintro p2 acc2 B3 M'' H3 ha2 l4 h3 ⟨rfl, rfl⟩
      rw [S_size] at h3 ha2
      obtain ⟨h4, l5⟩ := h3.fix
      refine IE.mk ha hi (by omega) (l1.trans (l4.trans l5)) h4 ⟨rfl, ?_⟩
      rw [range_succ_map]
      refine (hacc.up (l4.trans l5)).append (.one (.lst (SqL.of upd_same) ?_))
      have := bools_rp (K := K) (B := upd B3 p2 (.lst ((List.range o.length).map fun b => V.bl (rel0 r o i b)))) ((List.range o.length).map (rel0 r o i))
      rw [List.map_map] at this
      exact this
  · rintro p acc B1 M' H1 ha l1 h1 ⟨rfl, hacc⟩
    obtain ⟨h2, l2⟩ := h1.fix
    have hv : Rp K (upd B1 p (.lst acc)) (.ref p) (tabD r.length o.length (rel0 r o)) := by
      refine .lst (SqL.of upd_same) ?_
      rw [tab_data]
      rw [S_size] at hacc
      exact hacc.up l2
    walk_at "v"
    refine v_size (by show 0 ≤ sizeLine; decide) (v_newM h2 fun td H3 h3 => ?_)
    walk_at "v"
    refine v_while (fun k σ' B' M'' => ∃ (done : List Rel) (f : Rel) (v : V) (g : Bool) (ts : List V) (y3 y4 y7 y8 : Option V), M'' = (td, .lst ts) :: M' ∧ RpAll K B' ts (done.map (lvD r.length o.length)) ∧ Rp K B' v (tabD r.length o.length f) ∧
      k = (if g = true then (cells r.length o.length f).length + 1 else 0) ∧ done.length + (cells r.length o.length f).length ≤ 144 + (if g = true then 0 else 1) ∧ levels r.length o.length (rel0 r o) = (if g = true then done ++ levels r.length o.length f else done) ∧
      σ' = [some (V.str (S r)), some (V.str (S o)), some v, y3, y4, some (V.ref td), some (.bl g), y7, y8]) h3 ((cells r.length o.length (rel0 r o)).length + 1)
      ⟨[], rel0 r o, .ref p, true, [], none, none, none, none, rfl, .nil, hv, rfl, by
        have := cells_len (n := r.length) (m := o.length) (rel0 r o)
        have : r.length * o.length ≤ 12 * 12 := Nat.mul_le_mul r12 o12
        show 0 + _ ≤ 144 + 0
        omega, rfl, rfl⟩ ?_
    rintro k σ' B4 M'' H4 l4 h4 ⟨done, f, v, g, ts, y3, y4, y7, y8, rfl, ht, hf, rfl, hm, hl, rfl⟩
    walk_at "v"
    cases g with
    | false =>
      refine iteF' rfl ?_
      walk_at "v"
      obtain ⟨h5, l5⟩ := h4.fix
      refine q _ _ _ (l1.trans (l2.trans (l4.trans l5))) h5 (.lst (SqL.of upd_same) ?_)
      rw [show levels r.length o.length (rel0 r o) = done from hl]
      exact ht.up l5
    | true =>
      refine iteT' rfl (v_turn ?_)
      walk_at "v"
      refine v_lenS (by rw [S_length]; exact sz_of (by omega)) ?_
      walk_at "v"
      rw [S_length]
      refine ⟨B4, _, v, r.length, o.length, f, rfl, h4, hf, by omega, by omega, fun v5 B5 H5 l5 h5 hb => ?_⟩
      walk_at "v"
      refine v_bmL (h5.atI 0 rfl) ?_
      walk_at "v"
      refine v_size (xs := [v, v5]) (by show 2 ≤ sizeLine; decide) (v_newB h5 fun tp B6 H6 l6 h6 e6 => ?_)
      walk_at "v"
      have hts : ts.length = done.length := by rw [ht.length, List.length_map]
      have hm : done.length + (cells r.length o.length f).length ≤ 144 := hm
      refine v_appI h6 0 rfl (by omega) fun H7 h7 => ?_
      have l46 := l5.trans l6
      walk_at "v"
      refine ⟨B6, _, v, v5, r.length, o.length, f, rfl, h7, hf.up l46, hb.up l6, by omega, by omega, fun v8 B8 H8 l8 h8 hn => ?_⟩
      walk_at "v"
      refine v_neG h8 hn (hf.up (l46.trans l8)) (lines_has _) (lines_has _) (lines_depth _) ?_
      have eq : PyData.eqv (tabD r.length o.length (next r.length o.length f)) (tabD r.length o.length f) = decide (tab r.length o.length (next r.length o.length f) = tab r.length o.length f) := by
        show PyData.eqv (.list _) (.list _) = _
        unfold PyData.eqv
        exact eqv_lines _ _
      rw [eq]
      walk_at "v"
      have hl : levels r.length o.length (rel0 r o) = done ++ levels r.length o.length f := hl
      have l48 := l46.trans l8
      have hts2 : RpAll K B8 (ts ++ [V.ref tp]) ((done ++ [f]).map (lvD r.length o.length)) := by
        rw [List.map_append]
        exact (ht.up l48).append (.one (.tup (l8 _ _ e6) (.cons (hf.up l48) (.cons (hb.up (l6.trans l8)) .nil))))
      by_cases e : tab r.length o.length (next r.length o.length f) = tab r.length o.length f
      · have ec := tab_cells.mp e
        have e1 : levels r.length o.length f = [f] := by rw [levels_eq, if_pos ec]
        rw [e1] at hl
        rw [decide_eq_true e]
        refine ⟨0, Nat.succ_pos _, IV.mk (l4.trans l48) h8 ⟨done ++ [f], next r.length o.length f, v8, false, _, _, _, _, _, rfl, hts2, hn, rfl, ?_, hl, rfl⟩⟩
        rw [List.length_append, ec]
        show _ + 1 + _ ≤ 144 + 1
        omega
      · have nc : cells r.length o.length (next r.length o.length f) ≠ cells r.length o.length f := fun z => e (tab_cells.mpr z)
        have lt := next_lt nc
        have e1 : levels r.length o.length f = f :: levels r.length o.length (next r.length o.length f) := by
          conv => lhs; rw [levels_eq]
          rw [if_neg nc]
        rw [e1] at hl
        rw [decide_eq_false e]
        refine ⟨(cells r.length o.length (next r.length o.length f)).length + 1, by rw [if_pos rfl]; omega, IV.mk (l4.trans l48) h8 ⟨done ++ [f], next r.length o.length f, v8, true, _, _, _, _, _, rfl, hts2, hn, rfl, ?_, ?_, rfl⟩⟩
        · rw [List.length_append]
          show _ + 1 + _ ≤ 144 + 0
          omega
        · rw [hl]
          show _ = (done ++ [f]) ++ _
          rw [List.append_assoc]
          rfl
section
variable {P : Program} {w : World} {K : PySem.W.Frag} {mg : Str → Option Value} {base : Heap}
theorem ok_p_level_tables (T : Txt K mg w) : FnOk P w K mg base CX0 5 T.a_p_level_tables T.fd_p_level_tables ["row", "other"] (sp_p_level_tables K) := by
  refine T.F_p_level_tables.ok sc_p_level_tables (fun vs H Q E h => ?_) (fun cdv A outer s H vs Q E hr h => ⟨t_p_level_tables K, ?_, pure_p_level_tables vs H Q E h⟩)
  · obtain ⟨B, M, r, o, rfl, _⟩ := h
    rfl
  · exact (pss_cons (ps_setLc (i := 2) (own := [("one", 4)]) (g := (gName 4)) (tt := tYes) rfl sc_p_level_tables.nd rfl rfl (sw_true rfl rfl rfl (by decide +kernel)) (pi_str (pv 0)) (blkOk_by (own := [("one", 4)]) (N := n_p_level_tables) (sc := defScope s_p_level_tables) (by decide +kernel)) (fun _ _ _ _ _ => (pg_name (i := 4) sc_p_level_tables.nd rfl (Or.inr rfl))) (fun _ _ _ _ _ => pts_nil) (fun _ _ _ _ _ => (pe_lc (own := [("two", 3)]) (g := (gName 3)) (tt := tYes) rfl sc_p_level_tables.nd (pi_str (pv 1)) (blkOk_by (own := [("two", 3)]) (N := n_p_level_tables) (sc := { kind := .function, names := [(".0", .local), ("one", .cell), ("other", .cell)], isGenerator := false, isCoroutine := false }) (by decide +kernel)) (fun _ _ _ _ _ => (pg_name (i := 3) sc_p_level_tables.nd rfl (Or.inl rfl))) (fun _ _ _ _ _ => pts_nil) (fun _ _ _ _ _ => (pe_cmpR op_eq (pv 4) (pv 3) (nomark _))))))
      (pss_cons (ps_set (i := 5) sc_p_level_tables.nd rfl (by first | exact Or.inl rfl | exact Or.inr rfl) (pe_lst pa_nil))
      (pss_cons (ps_set (i := 6) sc_p_level_tables.nd rfl (by first | exact Or.inl rfl | exact Or.inr rfl) pe_bl)
      (pss_cons (ps_while PassesOwn.never (pt_val (pv 6)) (pss_cons (ps_set (i := 7) sc_p_level_tables.nd rfl (by first | exact Or.inl rfl | exact Or.inr rfl) (pe_call (ok_p_exchanged_table T) (hr.mono (by decide)) (by rfl) T.g_p_exchanged_table T.F_p_exchanged_table.kp T.b_p_exchanged_table .nil pass0 (pa_cons (pv 2) (pa_cons (pe_callB call_len (by rfl) (T.free_len) (by decide +kernel) (pa_cons (pv 1) pa_nil)) pa_nil))))
      (pss_cons (ps_expr (pe_bm PySem.F.plainAttrs_list PySem.F.slot_list_append PySem.F.type_list_append mt_append (pv 5) (pa_cons (pe_tup (pa_cons (pv 2) (pa_cons (pv 7) pa_nil))) pa_nil)))
      (pss_cons (ps_set (i := 8) sc_p_level_tables.nd rfl (by first | exact Or.inl rfl | exact Or.inr rfl) (pe_call (ok_p_next_table T) hr (by rfl) T.g_p_next_table T.F_p_next_table.kp T.b_p_next_table .nil pass0 (pa_cons (pv 2) (pa_cons (pv 7) pa_nil))))
      (pss_cons (ps_set (i := 6) sc_p_level_tables.nd rfl (by first | exact Or.inl rfl | exact Or.inr rfl) (pe_cmpR (op_neP hr.units) (pv 8) (pv 2) (nomark _)))
      (pss_one (ps_set (i := 2) sc_p_level_tables.nd rfl (by first | exact Or.inl rfl | exact Or.inr rfl) (pv 8))))))))
      (pss_one (ps_ret (pv 5)))))))
end
end K52
set_option Elab.async false
set_option linter.all false
set_option maxRecDepth 100000
set_option maxHeartbeats 8000000
namespace K52
open PySem PySem.Spec PyProof.Rows L2 Sh
open SX (S)
local macro_rules | `(tactic| walk_at "v1") => `(tactic| first
  | with_reducible refine v_seq ?_ | with_reducible refine v_asg ?_ | ((with_reducible refine' v_name ?e ?_); (case e => exact rfl)) | with_reducible refine v_ret ?_ | with_reducible refine v_drop ?_ | with_reducible refine v_next ?_
  | with_reducible refine v_if ?_ | with_reducible refine v_op ?_ | with_reducible refine v_c ?_ | ((with_reducible refine' v_var ?e ?_); (case e => exact rfl))
  | with_reducible refine v_I0 ?_ | with_reducible refine v_test ?_ | with_reducible refine v_B ?_ | with_reducible refine v_bl ?_ | with_reducible refine v_not ?_ | with_reducible refine v_and ?_ | with_reducible refine v_or ?_
  | with_reducible refine v_andV ?_ | with_reducible refine v_orV ?_ | with_reducible refine v_notV ?_ | with_reducible refine v_ife ?_
  | with_reducible refine v_nil ?_ | with_reducible refine v_cons ?_ | with_reducible refine v_tup ?_ | with_reducible refine v_lst ?_ | with_reducible refine v_call ?_ | with_reducible refine v_cb ?_ | with_reducible refine v_int ?_ | with_reducible refine v_abs ?_
  | ((with_reducible refine' v_eq ?e ?_); (case e => exact rfl)) | ((with_reducible refine' v_ne ?e ?_); (case e => exact rfl)) | with_reducible refine v_sub ?_ | with_reducible refine v_isN ?_ | with_reducible refine v_notN ?_
  | with_reducible refine v_part ?_ | with_reducible refine v_nopart ?_ | with_reducible refine v_pint ?_ | with_reducible refine v_inSg ?_ | with_reducible refine v_notInSg ?_
  | ((with_reducible refine' v_ixL ?l ?a ?_); (case l => assumption); (case a => exact at_lit _ rfl)) | ((with_reducible refine' v_ixT ?l ?a ?_); (case l => assumption); (case a => exact at_lit _ rfl))
  | ((with_reducible refine v_I ?c ?_); (case c => (first | omega | (unfold CMul; omega) | (unfold CDivN; omega) | (unfold CPow; omega))))
  | with_reducible refine v_for ?_ | with_reducible refine v_iList ?_ | with_reducible refine v_iTup ?_ | with_reducible refine v_iStr ?_ | with_reducible refine v_iR1 ?_ | with_reducible refine v_iR2 ?_ | with_reducible refine v_atS ?_ | with_reducible refine v_sl ?_ | with_reducible refine v_lc ?_ | with_reducible refine v_yes ?_
  | with_reducible refine v_m1 ?_ | with_reducible refine v_m1S ?_ | with_reducible refine v_bm ?_ | with_reducible refine v_bm0 ?_ | with_reducible refine v_dnewK ?_ | with_reducible refine v_dnewT ?_ | with_reducible refine v_dget ?_ | with_reducible refine v_din ?_ | with_reducible refine v_dnotin ?_ | with_reducible refine v_dput ?_ | with_reducible refine v_chain ?_ | with_reducible refine v_un ?_ | with_reducible refine v_neg ?_
  | with_reducible refine v_brk ?_ | with_reducible refine v_cont ?_
  | with_reducible refine v_fld ?_ | with_reducible refine v_sfld ?_ | with_reducible refine v_meth ?_ | with_reducible refine v_methT ?_ | with_reducible refine v_make ?_ | with_reducible refine v_makeT ?_ | with_reducible refine v_dget2 ?_ | with_reducible refine v_enumS ?_ | with_reducible refine v_enumQ ?_ | with_reducible refine v_lc2 ?_ | with_reducible refine v_isB ?_ | with_reducible refine v_notB ?_ | with_reducible refine v_lstRg2 ?_ | with_reducible refine v_lstRg3 ?_)
local macro_rules | `(tactic| walk_at "v") => `(tactic| repeat (walk_at "v1"))
local macro_rules | `(tactic| walk_at "vm") => `(tactic| repeat (first | ((with_reducible refine v_modP ?c ?_); (case c => omega); (intro _ _ _)) | walk_at "v1"))
local macro_rules | `(tactic| walk_at "iv") => `(tactic| (try dsimp only; refine IV.mk (by assumption) (by assumption) ?_))
local macro_rules | `(tactic| walk_at "n") => `(tactic| dsimp only [List.set_cons_zero, List.set_cons_succ])
/-! ### listed_level -/
def sp_p_listed_level (K : PySem.W.Frag) : Sp := fun vs H Q _ => ∃ (B : Hp) (M : List (Addr × HO)) (v : V) (n m : Nat) (f : Rel), vs = [v] ∧ Hs B M H ∧ Rp K B v (tabD n m f) ∧ n ≤ 100 ∧ m ≤ 100 ∧
  ∀ (v' : V) (B' H' : Hp), Le B B' → Hs B' M H' → Rp K B' v' (levD false (cells n m f)) → Q v' H'
def t_p_listed_level (K : PySem.W.Frag) : TS := (tRet (tCB (rCTup K) (tCons (tLc2 (iEnumQ K (tCons (tVar 0) tNil)) (gTup K 2 (gCons (gName 1) (gCons (gName 2) gNil))) tYes (iEnumQ K (tCons (tVar 2) tNil)) (gTup K 2 (gCons (gName 3) (gCons (gName 4) gNil))) (tB (tVar 4)) (tTup (tCons (tVar 1) (tCons (tVar 3) tNil))) [1, 2, 3, 4] [3, 4]) tNil)))
theorem pure_p_listed_level {K : PySem.W.Frag} (vs : List V) (H : Hp) (Q : VK) (E : XK) (h : sp_p_listed_level K vs H Q E) : t_p_listed_level K { nx := fun _ H' => Q .non H', rt := Q } (start n_p_listed_level vs) H := by
  obtain ⟨B, M, v, n, m, f, rfl, hs, hv, hn, hm, q⟩ := h
  obtain ⟨na, xs, rfl, hN, hX⟩ := rp_mk (l := true) hv
  have xl : xs.length = n := by rw [hX.length, tab_data, List.length_map, List.length_range]
  show t_p_listed_level K _ [some (V.ref na), none, none, none, none] H
  unfold t_p_listed_level
  walk_at "v"
  refine ⟨na, xs, rfl, .inl ⟨hs.l hN, v_lc2P hs (fun B' M' H' l h => h.l (le_l l hN)) (fun i acc B' M' => M' = M ∧ RpAll K B' acc ((cells i m f).map cellD)) ⟨rfl, .nil⟩ ?_ ?_⟩⟩
  · rintro i T x y p acc B1 M' H1 hi ex ey l1 eT h1 ⟨B2, -, l3, rfl, hacc⟩
    have hacc := hacc.up l3
    obtain rfl := Option.some.inj ex
    obtain ⟨a, ea, hA⟩ := tab_at hX (k := i) (by omega)
    have ey : xs[i]? = some y := ey
    rw [ea] at ey
    cases ey
    refine v_gTup2 (h1.t (SqT.of eT)) ?_
    walk_at "v"
    refine ⟨rfl, ?_⟩
    walk_at "v"
    refine iteT' rfl ?_
    walk_at "v"
    have hA1 := le_l l1 hA
    have al : (((List.range m).map (f i)).map V.bl).length = m := by rw [List.length_map, List.length_map, List.length_range]
    have cl := cells_len (n := i) (m := m) f
    have cm : i * m ≤ 100 * 100 := Nat.mul_le_mul (by omega) hm
    refine ⟨a, _, rfl, .inl ⟨h1.l hA1, v_inP h1 (fun B' M' H' l h => h.l (le_l l hA1)) (fun j acc2 B' M'' => M'' = M' ∧ RpAll K B' acc2 ((cells i m f ++ ((List.range j).filter (f i)).map fun b => (i, b)).map cellD)) ⟨rfl, by simpa using hacc⟩ ?_ ?_⟩⟩
    · rintro j T2 x2 y2 acc2 B3 M'' H3 hj ex ey l4 eT2 h3 ⟨B4, -, l6, rfl, hacc2⟩
      have hacc2 := hacc2.up l6
      rw [al] at hj
      obtain rfl := Option.some.inj ex
      have ey : (((List.range m).map (f i)).map V.bl)[j]? = some y2 := ey
      rw [row_at hj] at ey
      cases ey
      refine v_gTup2 (h3.t (SqT.of eT2)) ?_
      walk_at "v"
      refine ⟨rfl, ?_⟩
      walk_at "v"
      have ts : (List.range (j + 1)).filter (f i) = (List.range j).filter (f i) ++ if f i j = true then [j] else [] := by
        rw [List.range_succ, List.filter_append, List.filter_cons]
        rfl
      have len : acc2.length ≤ 1000000 := by
        rw [hacc2.length, List.length_map, List.length_append, List.length_map]
        have := List.length_filter_le (f i) (List.range j)
        rw [List.length_range] at this
        omega
      refine ite2 (fun c0 => ?_) (fun c0 => ?_)
      · walk_at "v"
        refine v_size (xs := [V.int (i : Int), V.int (j : Int)]) (by show 2 ≤ sizeLine; decide) (v_newB h3 fun tp B5 H5 l5 h5 e5 => ?_)
        refine IF.mk len (l4.trans l5) h5 ⟨rfl, ?_⟩
        rw [ts, if_pos c0, List.map_append (f := fun b => (i, b)), ← List.append_assoc, List.map_append (l₂ := List.map _ [j])]
        exact (hacc2.up l5).append (.one (.tup e5 (.cons (.int _) (.cons (.int _) .nil))))
      · refine IQ.mk l4 h3 ⟨rfl, ?_⟩
        rw [ts, if_neg c0, List.append_nil]
        exact hacc2
    · rintro acc2 B3 M'' H3 l4 h3 ⟨rfl, hacc2⟩
      rw [al] at hacc2
      refine IQ.mk (l1.trans l4) h3 ⟨rfl, ?_⟩
      have e : cells (i + 1) m f = cells i m f ++ ((List.range m).filter (f i)).map fun b => (i, b) := by
        unfold cells
        rw [List.range_succ, List.flatMap_append]
        show _ ++ List.flatMap (cellsR m f) [i] = _
        rw [List.flatMap_cons, List.flatMap_nil, List.append_nil]
        rfl
      rw [e]
      exact hacc2
  · rintro p acc B1 M' H1 l1 h1 ⟨rfl, hacc⟩
    rw [xl] at hacc
    walk_at "v"
    obtain ⟨h2, l2⟩ := h1.fix
    refine v_tupX (l := true) h2 (SqL.of upd_same) fun tp B3 H3 l3 h3 e3 => ?_
    exact q _ B3 H3 (l1.trans (l2.trans l3)) h3 (.tup e3 (hacc.up (l2.trans l3)))
/-! ### table_height -/
def hgt (fs : List Rel) (k j : Nat) : V := if (fs.findIdx fun f => !f k j) < fs.length then intV (fs.findIdx fun f => !f k j) else .non
def sp_p_table_height (K : PySem.W.Frag) : Sp := fun vs H Q _ => ∃ (B : Hp) (M : List (Addr × HO)) (v : V) (n m k j : Nat) (fs : List Rel), vs = [v, .int (k : Int), .int (j : Int)] ∧ Hs B M H ∧ Rp K B v (lvsD n m fs) ∧ k < n ∧ j < m ∧
  ∀ (B' H' : Hp), Le B B' → Hs B' M H' → Q (hgt fs k j) H'
def t_p_table_height (K : PySem.W.Frag) : TS := (tSeq (tFor (iEnumQ K (tCons (tVar 0) tNil)) (gTup K 2 (gCons (gName 3) (gCons (gTup K 2 (gCons (gName 4) (gCons (gName 5) gNil))) gNil))) (tIfS (tNot (tB (tOp (rIxL K) (tOp (rIxL K) (tVar 4) (tVar 1)) (tVar 2)))) (tRet (tVar 3)) tNext))
    (tRet (tC .non)))
theorem find_none {α : Type} {p : α → Bool} {l : List α} {i : Nat} (h : ∀ j x, j < i → l[j]? = some x → p x = false) {x : α} (hx : l[i]? = some x) (hp : p x = true) : l.findIdx p = i := by
  obtain ⟨hi, e⟩ := List.getElem?_eq_some_iff.mp hx
  rw [List.findIdx_eq hi]
  exact ⟨by rw [e]; exact hp, fun j hj => h j _ hj (List.getElem?_eq_getElem _)⟩
theorem pure_p_table_height {K : PySem.W.Frag} (vs : List V) (H : Hp) (Q : VK) (E : XK) (h : sp_p_table_height K vs H Q E) : t_p_table_height K { nx := fun _ H' => Q .non H', rt := Q } (start n_p_table_height vs) H := by
  obtain ⟨B, M, v, n, m, k, j, fs, rfl, hs, hv, hk, hj, q⟩ := h
  obtain ⟨na, xs, rfl, hN, hX⟩ := rp_mk (l := true) hv
  have xl : xs.length = fs.length := by rw [hX.length, List.length_map]
  show t_p_table_height K _ [some (V.ref na), some (V.int (k : Int)), some (V.int (j : Int)), none, none, none] H
  unfold t_p_table_height
  walk_at "v"
  refine ⟨na, xs, rfl, .inl ⟨hs.l hN, v_forP hs (fun B' M' H' l h => h.l (le_l l hN)) (fun i σ' B' M' => M' = M ∧ (∀ (t : Nat) (f : Rel), t < i → fs[t]? = some f → f k j = true) ∧ ∃ y3 y4 y5 : Option V, σ' = [some (V.ref na), some (V.int (k : Int)), some (V.int (j : Int)), y3, y4, y5])
    ⟨rfl, fun t f ht => absurd ht (Nat.not_lt_zero _), none, none, none, rfl⟩ ?_ ?_⟩⟩
  · rintro i T x y σ' B1 M' H1 hi ex ey l1 eT h1 ⟨B2, -, -, rfl, hall, y3, y4, y5, rfl⟩
    obtain rfl := Option.some.inj ex
    obtain ⟨f, ef⟩ : ∃ f, fs[i]? = some f := ⟨_, List.getElem?_eq_getElem (by omega)⟩
    obtain ⟨y', ey', hy⟩ := hX.get (show (fs.map (lvD n m))[i]? = some (lvD n m f) by rw [List.getElem?_map, ef]; rfl)
    have ey : xs[i]? = some y := ey
    rw [ey'] at ey
    cases ey
    obtain ⟨ta, zs, rfl, hT, hZ⟩ := rp_mk (l := false) hy
    obtain ⟨va, vb, rfl, hva, hvb⟩ : ∃ va vb, zs = [va, vb] ∧ Rp K B va (tabD n m f) ∧ Rp K B vb (tabD m n (flp f)) := by
      cases hZ with
      | cons h1 h2 =>
        cases h2 with
        | cons h2 h3 =>
          cases h3
          exact ⟨_, _, rfl, h1, h2⟩
    obtain ⟨aa, as, rfl, hA, hAs⟩ := rp_mk (l := true) hva
    obtain ⟨la, el, hL⟩ := tab_at hAs hk
    refine v_gTupN (h1.t (SqT.of eT)) (h1.t (le_t l1 (SqT.of (show B ta = some (.tup [.ref aa, vb]) from hT)))) ?_
    walk_at "v"
    refine v_ixL (v := .ref la) (h1.l (le_l l1 hA)) (atI_nat el) ?_
    walk_at "v"
    refine v_ixL (v := .bl (f k j)) (h1.l (le_l l1 hL)) (atI_nat (row_at hj)) ?_
    walk_at "v"
    cases c0 : f k j with
    | true =>
      refine iteF' rfl ?_
      walk_at "v"
      try dsimp only
      refine IV.mk l1 h1 ⟨rfl, fun t g ht e => ?_, _, _, _, rfl⟩
      by_cases e2 : t = i
      · subst e2
        rw [ef] at e
        cases e
        exact c0
      · exact hall t g (by omega) e
    | false =>
      refine iteT' rfl ?_
      walk_at "v"
      have e := find_none (p := fun f : Rel => !f k j) (l := fs) (i := i) (fun t g ht e => by rw [hall t g ht e]; rfl) ef (by rw [c0]; rfl)
      have := q B1 H1 l1 h1
      unfold hgt at this
      rw [e, if_pos (by omega)] at this
      exact this
  · rintro σ' B1 M' H1 l1 h1 ⟨rfl, hall, y3, y4, y5, rfl⟩
    rw [xl] at hall
    walk_at "v"
    have e : ¬ (fs.findIdx fun f => !f k j) < fs.length := by
      intro z
      have := List.findIdx_getElem (w := z)
      have e2 := hall _ _ z (List.getElem?_eq_getElem z)
      rw [e2] at this
      cases this
    have := q B1 H1 l1 h1
    unfold hgt at this
    rw [if_neg e] at this
    exact this
section
variable {P : Program} {w : World} {K : PySem.W.Frag} {mg : Str → Option Value} {base : Heap}
theorem ok_p_listed_level (T : Txt K mg w) : FnOk P w K mg base CX0 1 T.a_p_listed_level T.fd_p_listed_level ["near"] (sp_p_listed_level K) := by
  refine T.F_p_listed_level.ok sc_p_listed_level (fun vs H Q E h => ?_) (fun cdv A outer s H vs Q E hr h => ⟨t_p_listed_level K, ?_, pure_p_listed_level vs H Q E h⟩)
  · obtain ⟨B, M, v, n, m, f, rfl, _⟩ := h
    rfl
  · exact (pss_one (ps_ret (pe_callTy call_tuple_of (by rfl) (T.free_tuple) (by decide +kernel) (pa_cons (pe_lc2 (own := [("k", 1), ("line", 2), ("m", 3), ("one", 4)]) (vs1 := [3, 4]) (g := (gTup K 2 (gCons (gName 1) (gCons (gName 2) gNil)))) (tt := tYes) (g1 := (gTup K 2 (gCons (gName 3) (gCons (gName 4) gNil)))) (tt1 := (tB (tVar 4))) rfl sc_p_listed_level.nd (pi_enumQ (by rfl) (T.free_enumerate) (pa_cons (pv 0) pa_nil)) (blkOk_by (own := [("k", 1), ("line", 2), ("m", 3), ("one", 4)]) (N := n_p_listed_level) (sc := defScope s_p_listed_level) (by decide +kernel)) (by decide) (fun _ _ _ _ _ => (pg_tup rfl (pgs_cons (pg_name (i := 1) sc_p_listed_level.nd rfl (Or.inl rfl)) (pgs_cons (pg_name (i := 2) sc_p_listed_level.nd rfl (Or.inl rfl)) pgs_nil)))) (fun _ _ _ _ _ => pts_nil) (fun _ _ _ _ _ => (pi_enumQ (by rfl) (T.free_enumerate) (pa_cons (pv 2) pa_nil))) (fun _ _ _ _ _ => (pg_tup rfl (pgs_cons (pg_name (i := 3) sc_p_listed_level.nd rfl (Or.inl rfl)) (pgs_cons (pg_name (i := 4) sc_p_listed_level.nd rfl (Or.inl rfl)) pgs_nil)))) (fun _ _ _ _ _ => (pts_one (pt_val (pv 4)))) (fun _ _ _ _ _ => (pe_tup (pa_cons (pv 1) (pa_cons (pv 3) pa_nil))))) pa_nil))))
theorem ok_p_table_height (T : Txt K mg w) : FnOk P w K mg base CX0 1 T.a_p_table_height T.fd_p_table_height ["tables", "k", "m"] (sp_p_table_height K) := by
  refine T.F_p_table_height.ok sc_p_table_height (fun vs H Q E h => ?_) (fun cdv A outer s H vs Q E hr h => ⟨t_p_table_height K, ?_, pure_p_table_height vs H Q E h⟩)
  · obtain ⟨B, M, v, n, m, k, j, fs, rfl, _⟩ := h
    rfl
  · exact (pss_cons (ps_for PassesOwn.never rfl (pi_enumQ (by rfl) (T.free_enumerate) (pa_cons (pv 0) pa_nil)) (pg_tup rfl (pgs_cons (pg_name (i := 3) sc_p_table_height.nd rfl (by first | exact Or.inl rfl | exact Or.inr rfl)) (pgs_cons (pg_tup rfl (pgs_cons (pg_name (i := 4) sc_p_table_height.nd rfl (by first | exact Or.inl rfl | exact Or.inr rfl)) (pgs_cons (pg_name (i := 5) sc_p_table_height.nd rfl (by first | exact Or.inl rfl | exact Or.inr rfl)) pgs_nil))) pgs_nil))) (pss_one (ps_if (pt_not (pt_val (pe_ix ix_list (pe_ix ix_list (pv 4) (pv 1) (fun _ _ => rfl)) (pv 2) (fun _ _ => rfl)))) (pss_one (ps_ret (pv 3))) pss_nil)))
      (pss_one (ps_ret pe_non)))
end
end K52
set_option Elab.async false
set_option linter.all false
set_option maxRecDepth 100000
set_option maxHeartbeats 8000000
namespace K52
open PySem PySem.Spec PyProof.Rows L2 Sh
open SX (S)
local macro_rules | `(tactic| walk_at "v1") => `(tactic| first
  | with_reducible refine v_seq ?_ | with_reducible refine v_asg ?_ | ((with_reducible refine' v_name ?e ?_); (case e => exact rfl)) | with_reducible refine v_ret ?_ | with_reducible refine v_drop ?_ | with_reducible refine v_next ?_
  | with_reducible refine v_if ?_ | with_reducible refine v_op ?_ | with_reducible refine v_c ?_ | ((with_reducible refine' v_var ?e ?_); (case e => exact rfl))
  | with_reducible refine v_I0 ?_ | with_reducible refine v_test ?_ | with_reducible refine v_B ?_ | with_reducible refine v_bl ?_ | with_reducible refine v_not ?_ | with_reducible refine v_and ?_ | with_reducible refine v_or ?_
  | with_reducible refine v_andV ?_ | with_reducible refine v_orV ?_ | with_reducible refine v_notV ?_ | with_reducible refine v_ife ?_
  | with_reducible refine v_nil ?_ | with_reducible refine v_cons ?_ | with_reducible refine v_tup ?_ | with_reducible refine v_lst ?_ | with_reducible refine v_call ?_ | with_reducible refine v_cb ?_ | with_reducible refine v_int ?_ | with_reducible refine v_abs ?_
  | ((with_reducible refine' v_eq ?e ?_); (case e => exact rfl)) | ((with_reducible refine' v_ne ?e ?_); (case e => exact rfl)) | with_reducible refine v_sub ?_ | with_reducible refine v_isN ?_ | with_reducible refine v_notN ?_
  | with_reducible refine v_part ?_ | with_reducible refine v_nopart ?_ | with_reducible refine v_pint ?_ | with_reducible refine v_inSg ?_ | with_reducible refine v_notInSg ?_
  | ((with_reducible refine' v_ixL ?l ?a ?_); (case l => assumption); (case a => exact at_lit _ rfl)) | ((with_reducible refine' v_ixT ?l ?a ?_); (case l => assumption); (case a => exact at_lit _ rfl))
  | ((with_reducible refine v_I ?c ?_); (case c => (first | omega | (unfold CMul; omega) | (unfold CDivN; omega) | (unfold CPow; omega))))
  | with_reducible refine v_for ?_ | with_reducible refine v_iList ?_ | with_reducible refine v_iTup ?_ | with_reducible refine v_iStr ?_ | with_reducible refine v_iR1 ?_ | with_reducible refine v_iR2 ?_ | with_reducible refine v_atS ?_ | with_reducible refine v_sl ?_ | with_reducible refine v_lc ?_ | with_reducible refine v_yes ?_
  | with_reducible refine v_m1 ?_ | with_reducible refine v_m1S ?_ | with_reducible refine v_bm ?_ | with_reducible refine v_bm0 ?_ | with_reducible refine v_dnewK ?_ | with_reducible refine v_dnewT ?_ | with_reducible refine v_dget ?_ | with_reducible refine v_din ?_ | with_reducible refine v_dnotin ?_ | with_reducible refine v_dput ?_ | with_reducible refine v_chain ?_ | with_reducible refine v_un ?_ | with_reducible refine v_neg ?_
  | with_reducible refine v_brk ?_ | with_reducible refine v_cont ?_
  | with_reducible refine v_fld ?_ | with_reducible refine v_sfld ?_ | with_reducible refine v_meth ?_ | with_reducible refine v_methT ?_ | with_reducible refine v_make ?_ | with_reducible refine v_makeT ?_ | with_reducible refine v_dget2 ?_ | with_reducible refine v_enumS ?_ | with_reducible refine v_enumQ ?_ | with_reducible refine v_lc2 ?_ | with_reducible refine v_isB ?_ | with_reducible refine v_notB ?_ | with_reducible refine v_lstRg2 ?_ | with_reducible refine v_lstRg3 ?_)
local macro_rules | `(tactic| walk_at "v") => `(tactic| repeat (walk_at "v1"))
local macro_rules | `(tactic| walk_at "vm") => `(tactic| repeat (first | ((with_reducible refine v_modP ?c ?_); (case c => omega); (intro _ _ _)) | walk_at "v1"))
local macro_rules | `(tactic| walk_at "iv") => `(tactic| (try dsimp only; refine IV.mk (by assumption) (by assumption) ?_))
local macro_rules | `(tactic| walk_at "n") => `(tactic| dsimp only [List.set_cons_zero, List.set_cons_succ])
section
variable {P : Program} {w : World} {K : PySem.W.Frag} {mg : Str → Option Value} {base : Heap}
def levsD (n m : Nat) (fs : List Rel) : PyData := .tuple (fs.map fun f => levD false (cells n m f))
/-- a contest -/
def ConV (T : Txt K mg w) (B : Hp) (x : Addr) (al r o : List Nat) : Prop := ∃ (dx : Addr) (vt vl : V), B x = some (.ins T.a_Contest dx [("alphabet", .str (S al)), ("row", .str (S r)), ("other", .str (S o)), ("tables", vt), ("levels", vl)]) ∧
  Rp K B vt (lvsD r.length o.length (levels r.length o.length (rel0 r o))) ∧ Rp K B vl (levsD r.length o.length (levels r.length o.length (rel0 r o)))
theorem ConV.up {T : Txt K mg w} {B B' : Hp} {x : Addr} {al r o : List Nat} (h : ConV T B x al r o) (l : Le B B') : ConV T B' x al r o := by
  obtain ⟨dx, vt, vl, e, h1, h2⟩ := h
  exact ⟨dx, vt, vl, l _ _ e, h1.up l, h2.up l⟩
theorem CThr.drop {T : Txt K mg w} {B : Hp} {M : List (Addr × HO)} {E : XK} {va : V} {o : COut} {p : Addr × HO} (h : CThr T B M E va o) : CThr T B (p :: M) E va o := by
  obtain ⟨p1, p2⟩ := p
  cases o with
  | alpha => exact fun d B' H' l hs e => h d B' H' l hs.drop e
  | row n => exact fun d B' H' l hs e => h d B' H' l hs.drop e
  | long n => exact fun d B' H' l hs e => h d B' H' l hs.drop e
  | ok => exact h
def sp_m_Contest_init (T : Txt K mg w) : Sp := fun vs H Q E => ∃ (B : Hp) (M : List (Addr × HO)) (x dx : Addr) (va vr vo : V) (da dr dq : PyData) (o : COut), vs = [.ref x, va, vr, vo] ∧ Hs B ((x, .ins T.a_Contest dx []) :: M) H ∧ Rp K B va da ∧ Rp K B vr dr ∧ Rp K B vo dq ∧
  (∀ z, da = .str z → z.length ≤ 1000000) ∧ (∀ z, dr = .str z → z.length ≤ 1000000) ∧ (∀ z, dq = .str z → z.length ≤ 1000000) ∧ CheckD da dr dq o ∧
  (o = .ok → ∀ (al r oo : List Nat) (B' H' : Hp), da = .str (S al) → dr = .str (S r) → dq = .str (S oo) → Le B B' → Hs B' M H' → ConV T B' x al r oo → Q .non H') ∧ (o ≠ .ok → CThr T B M E va o)
def t_m_Contest_init (T : Txt K mg w) (E : XK) : TS := (tSeq (tDrop (tCall (sp_p_check_contest T) [] E (tCons (tVar 1) (tCons (tVar 2) (tCons (tVar 3) tNil)))))
    (tSeq (sFld K (tVar 0) (tVar 1) "alphabet")
    (tSeq (sFld K (tVar 0) (tVar 2) "row")
    (tSeq (sFld K (tVar 0) (tVar 3) "other")
    (tSeq (sFld K (tVar 0) (tCall (sp_p_level_tables K) [] E0 (tCons (tVar 2) (tCons (tVar 3) tNil))) "tables")
    (sFld K (tVar 0) (tCB (rCTup K) (tCons (tLc (iList K (tFld K (tVar 0) "tables")) (gTup K 2 (gCons (gName 4) (gCons (gName 5) gNil))) tYes (tCall (sp_p_listed_level K) [] E0 (tCons (tVar 4) tNil)) [4, 5]) tNil)) "levels"))))))
theorem pure_m_Contest_init (T : Txt K mg w) (vs : List V) (H : Hp) (Q : VK) (E : XK) (h : sp_m_Contest_init T vs H Q E) : t_m_Contest_init T E { nx := fun _ H' => Q .non H', rt := Q } (start n_m_Contest_init vs) H := by
  obtain ⟨B, M, x, dx, va, vr, vo, da, dr, dq, o, rfl, hs, hva, hvr, hvo, za, zr, zo, ck, q, xx⟩ := h
  show t_m_Contest_init T E _ [some (V.ref x), some va, some vr, some vo, none, none] H
  unfold t_m_Contest_init
  walk_at "v"
  refine ⟨B, _, va, vr, vo, da, dr, dq, o, rfl, hs, hva, hvr, hvo, za, zr, zo, ck, fun ho B1 H1 l1 h1 => ?_, fun hno => (xx hno).drop⟩
  subst ho
  obtain ⟨al, r, oo, rfl, hA, rfl, rfl, -, -, r12, o12⟩ := ck
  cases hva
  cases hvr
  cases hvo
  walk_at "v"
  refine v_sfldI h1 0 rfl T.cls_Contest T.no_Contest_alphabet (by show 0 ≤ 900; decide) fun H2 h2 => ?_
  walk_at "v"
  refine v_sfldI h2 0 rfl T.cls_Contest T.no_Contest_row (by show 1 ≤ 900; decide) fun H3 h3 => ?_
  walk_at "v"
  refine v_sfldI h3 0 rfl T.cls_Contest T.no_Contest_other (by show 2 ≤ 900; decide) fun H4 h4 => ?_
  walk_at "v"
  refine ⟨B1, _, r, oo, rfl, h4, r12, o12, fun vt B5 H5 l5 h5 ht => ?_⟩
  walk_at "v"
  refine v_sfldI h5 0 rfl T.cls_Contest T.no_Contest_tables (by show 3 ≤ 900; decide) fun H6 h6 => ?_
  walk_at "v"
  refine v_fldI (h6.atI 0 rfl) T.cls_Contest T.no_Contest_tables rfl ?_
  obtain ⟨ta, ts, rfl, hT, hTs⟩ := rp_mk (l := true) ht
  refine v_atL (h6.l hT) ?_
  refine v_lcL hT h6 (fun i acc B' M' => M' = (x, .ins T.a_Contest dx [("alphabet", .str (S al)), ("row", .str (S r)), ("other", .str (S oo)), ("tables", .ref ta)]) :: M ∧ RpAll K B' acc (((levels r.length oo.length (rel0 r oo)).take i).map fun f => levD false (cells r.length oo.length f))) ⟨rfl, .nil⟩ ?_ ?_
  · rintro i y p acc B7 M' H7 hi hy ha l7 h7 ⟨rfl, hacc⟩
    obtain ⟨d, ed, hd⟩ := hTs.getV hy
    rw [List.getElem?_map] at ed
    obtain ⟨f, ef, rfl⟩ := Option.map_eq_some_iff.mp ed
    obtain ⟨tp, zs, rfl, hT2, hZ⟩ := rp_mk (l := false) hd
    obtain ⟨v1, v2, rfl, hv1⟩ : ∃ v1 v2, zs = [v1, v2] ∧ Rp K B5 v1 (tabD r.length oo.length f) := by
      cases hZ with
      | cons h1 h2 =>
        cases h2 with
        | cons h2 h3 =>
          cases h3
          exact ⟨_, _, rfl, h1⟩
    refine v_gTup2 (h7.t (le_t l7 (SqT.of (show B5 tp = some (.tup [v1, v2]) from hT2)))) ?_
    walk_at "v"
    refine ⟨rfl, ?_⟩
    walk_at "v"
    refine iteT' rfl ?_
    walk_at "v"
    have il : i < 200 := by
      have h1 := levels_len (n := r.length) (m := oo.length) (rel0 r oo)
      have h2 := cells_len (n := r.length) (m := oo.length) (rel0 r oo)
      have h3 : r.length * oo.length ≤ 12 * 12 := Nat.mul_le_mul r12 o12
      have h4 := (List.getElem?_eq_some_iff.mp ef).1
      omega
    refine ⟨B7, _, v1, r.length, oo.length, f, rfl, h7, hv1.up l7, by omega, by omega, fun v8 B8 H8 l8 h8 hv8 => ?_⟩
    refine IE.mk ha (Nat.lt_succ_self i) (by omega) (l7.trans l8) h8 ⟨rfl, ?_⟩
    rw [List.take_add_one, ef, List.map_append]
    exact (hacc.up l8).append (.one hv8)
  · rintro p acc B7 M' H7 ha l7 h7 ⟨rfl, hacc⟩
    rw [hTs.length, List.length_map, List.take_length] at hacc
    walk_at "v"
    obtain ⟨h8, l8⟩ := h7.fix
    refine v_tupX (l := true) h8 (SqL.of upd_same) fun lp B9 H9 l9 h9 e9 => ?_
    walk_at "v"
    refine v_sfldI h9 0 rfl T.cls_Contest T.no_Contest_levels (by show 4 ≤ 900; decide) fun H10 h10 => ?_
    obtain ⟨h11, l11⟩ := h10.fix
    have l59 := l7.trans (l8.trans (l9.trans l11))
    exact q rfl al r oo _ _ rfl rfl rfl (l1.trans (l5.trans l59)) h11 ⟨dx, _, _, upd_same, ht.up l59, .tup (l11 _ _ e9) (hacc.up (l8.trans (l9.trans l11)))⟩
/-! ### parting_height -/
def sp_m_Contest_parting_height (T : Txt K mg w) : Sp := fun vs H Q E => ∃ (B : Hp) (M : List (Addr × HO)) (x : Addr) (al r o : List Nat) (vk vm : V) (dk dm : PyData), vs = [.ref x, vk, vm] ∧ Hs B M H ∧ ConV T B x al r o ∧ r.length ≤ 12 ∧ o.length ≤ 12 ∧ Rp K B vk dk ∧ Rp K B vm dm ∧
  (isIntIn 0 ((r.length : Nat) - 1) dk = false → Thr B M E T.a_BadPlace "thing" vk) ∧ (isIntIn 0 ((r.length : Nat) - 1) dk = true → isIntIn 0 ((o.length : Nat) - 1) dm = false → Thr B M E T.a_BadPlace "thing" vm) ∧
  ∀ k j : Nat, vk = .int (k : Int) → vm = .int (j : Int) → k < r.length → j < o.length → ∀ (B' H' : Hp), Le B B' → Hs B' M H' → Q (hgt (levels r.length o.length (rel0 r o)) k j) H'
def t_m_Contest_parting_height (T : Txt K mg w) (E : XK) : TS := (tSeq (tDrop (tCall (sp_p_check_place T) [] E (tCons (tFld K (tVar 0) "row") (tCons (tVar 1) tNil))))
    (tSeq (tDrop (tCall (sp_p_check_place T) [] E (tCons (tFld K (tVar 0) "other") (tCons (tVar 2) tNil))))
    (tRet (tCall (sp_p_table_height K) [] E0 (tCons (tFld K (tVar 0) "tables") (tCons (tVar 1) (tCons (tVar 2) tNil)))))))
theorem int_in {n : Nat} {d : PyData} {v : V} {B : Hp} (hv : Rp K B v d) (h : isIntIn 0 ((n : Int) - 1) d = true) : ∃ k : Nat, v = .int (k : Int) ∧ k < n := by
  cases d with
  | int i =>
    cases hv
    have : decide (0 ≤ i ∧ i ≤ (n : Int) - 1) = true := by simpa [isIntIn] using h
    have := of_decide_eq_true this
    refine ⟨i.toNat, by congr 1; omega, by omega⟩
  | _ => cases h
theorem pure_m_Contest_parting_height (T : Txt K mg w) (vs : List V) (H : Hp) (Q : VK) (E : XK) (h : sp_m_Contest_parting_height T vs H Q E) : t_m_Contest_parting_height T E { nx := fun _ H' => Q .non H', rt := Q } (start n_m_Contest_parting_height vs) H := by
  obtain ⟨B, M, x, al, r, o, vk, vm, dk, dm, rfl, hs, hc, r12, o12, hvk, hvm, x1, x2, q⟩ := h
  obtain ⟨dx, vt, vl, hB, hT, hL⟩ := hc
  show t_m_Contest_parting_height T E _ [some (V.ref x), some vk, some vm] H
  unfold t_m_Contest_parting_height
  walk_at "v"
  refine v_fldI (hs.sub _ _ hB) T.cls_Contest T.no_Contest_row rfl ?_
  walk_at "v"
  refine ⟨B, M, vk, r, dk, rfl, hs, hvk, by omega, fun hk B1 H1 l1 h1 => ?_, x1⟩
  walk_at "v"
  refine v_fldI (h1.sub _ _ (l1 _ _ hB)) T.cls_Contest T.no_Contest_other rfl ?_
  walk_at "v"
  refine ⟨B1, M, vm, o, dm, rfl, h1, hvm.up l1, by omega, fun hm B2 H2 l2 h2 => ?_, fun hm => (x2 hk hm).le l1⟩
  obtain ⟨k, rfl, hk⟩ := int_in hvk hk
  obtain ⟨j, rfl, hj⟩ := int_in hvm hm
  walk_at "v"
  refine v_fldI (h2.sub _ _ (l2 _ _ (l1 _ _ hB))) T.cls_Contest T.no_Contest_tables rfl ?_
  walk_at "v"
  exact ⟨B2, M, vt, r.length, o.length, k, j, _, rfl, h2, hT.up (l1.trans l2), hk, hj, fun B3 H3 l3 h3 => q k j rfl rfl hk hj B3 H3 (l1.trans (l2.trans l3)) h3⟩
theorem ok_m_Contest_init (T : Txt K mg w) (TX : TxtX T P) : FnOk P w K mg base (L2.CX P w) 6 T.a_m_Contest_init T.fd_m_Contest_init ["self", "alphabet", "row", "other"] (sp_m_Contest_init T) := by
  refine T.F_m_Contest_init.okX sc_m_Contest_init (fun vs H Q E h => ?_) (fun cdv A outer s H vs Q E hr h => ⟨t_m_Contest_init T E, ?_, pure_m_Contest_init T vs H Q E h⟩)
  · obtain ⟨B, M, x, dx, va, vr, vo, da, dr, dq, o, rfl, _⟩ := h
    rfl
  · exact (pss_cons (ps_expr (pe_call (ok_p_check_contest T TX) hr (by rfl) T.g_p_check_contest T.F_p_check_contest.kp T.b_p_check_contest .nil (L2.passes_call (L2.takes_of rfl rfl rfl rfl) (fun _ _ _ _ h => h)) (pa_cons (pv 1) (pa_cons (pv 2) (pa_cons (pv 3) pa_nil)))))
      (pss_cons (ps_fld (pv 0) (pv 1) rfl)
      (pss_cons (ps_fld (pv 0) (pv 2) rfl)
      (pss_cons (ps_fld (pv 0) (pv 3) rfl)
      (pss_cons (ps_fld (pv 0) (pe_call (ok_p_level_tables T) hr (by rfl) T.g_p_level_tables T.F_p_level_tables.kp T.b_p_level_tables .nil pass0 (pa_cons (pv 2) (pa_cons (pv 3) pa_nil))) rfl)
      (pss_one (ps_fld (pv 0) (pe_callTy call_tuple_of (by rfl) (T.free_tuple) (by decide +kernel) (pa_cons (pe_lc (own := [("near", 4), ("back", 5)]) (g := (gTup K 2 (gCons (gName 4) (gCons (gName 5) gNil)))) (tt := tYes) rfl sc_m_Contest_init.nd (pi_list (pe_fld (pv 0) rfl)) (blkOk_by (own := [("near", 4), ("back", 5)]) (N := n_m_Contest_init) (sc := defScope s_m_Contest_init) (by decide +kernel)) (fun _ _ _ _ _ => (pg_tup rfl (pgs_cons (pg_name (i := 4) sc_m_Contest_init.nd rfl (Or.inl rfl)) (pgs_cons (pg_name (i := 5) sc_m_Contest_init.nd rfl (Or.inl rfl)) pgs_nil)))) (fun _ _ _ _ _ => pts_nil) (fun _ _ _ _ _ => (pe_call (ok_p_listed_level T) (hr.mono (by decide)) (by rfl) T.g_p_listed_level T.F_p_listed_level.kp T.b_p_listed_level .nil pass0 (pa_cons (pv 4) pa_nil)))) pa_nil)) rfl)))))))
theorem ok_m_Contest_parting_height (T : Txt K mg w) (TX : TxtX T P) : FnOk P w K mg base (L2.CX P w) 3 T.a_m_Contest_parting_height T.fd_m_Contest_parting_height ["self", "k", "m"] (sp_m_Contest_parting_height T) := by
  refine T.F_m_Contest_parting_height.okX sc_m_Contest_parting_height (fun vs H Q E h => ?_) (fun cdv A outer s H vs Q E hr h => ⟨t_m_Contest_parting_height T E, ?_, pure_m_Contest_parting_height T vs H Q E h⟩)
  · obtain ⟨B, M, x, al, r, o, vk, vm, dk, dm, rfl, _⟩ := h
    rfl
  · exact (pss_cons (ps_expr (pe_call (ok_p_check_place T TX) hr (by rfl) T.g_p_check_place T.F_p_check_place.kp T.b_p_check_place .nil (L2.passes_call (L2.takes_of rfl rfl rfl rfl) (fun _ _ _ _ h => h)) (pa_cons (pe_fld (pv 0) rfl) (pa_cons (pv 1) pa_nil))))
      (pss_cons (ps_expr (pe_call (ok_p_check_place T TX) hr (by rfl) T.g_p_check_place T.F_p_check_place.kp T.b_p_check_place .nil (L2.passes_call (L2.takes_of rfl rfl rfl rfl) (fun _ _ _ _ h => h)) (pa_cons (pe_fld (pv 0) rfl) (pa_cons (pv 2) pa_nil))))
      (pss_one (ps_ret (pe_call (ok_p_table_height T) (hr.mono (by decide)) (by rfl) T.g_p_table_height T.F_p_table_height.kp T.b_p_table_height .nil pass0 (pa_cons (pe_fld (pv 0) rfl) (pa_cons (pv 1) (pa_cons (pv 2) pa_nil))))))))
end
end K52
set_option Elab.async false
set_option linter.all false
set_option maxRecDepth 100000
set_option maxHeartbeats 8000000
namespace K52
open PySem PySem.Spec PyProof.Rows L2 Sh
open SX (S)
local macro_rules | `(tactic| walk_at "v1") => `(tactic| first
  | with_reducible refine v_seq ?_ | with_reducible refine v_asg ?_ | ((with_reducible refine' v_name ?e ?_); (case e => exact rfl)) | with_reducible refine v_ret ?_ | with_reducible refine v_drop ?_ | with_reducible refine v_next ?_
  | with_reducible refine v_if ?_ | with_reducible refine v_op ?_ | with_reducible refine v_c ?_ | ((with_reducible refine' v_var ?e ?_); (case e => exact rfl))
  | with_reducible refine v_I0 ?_ | with_reducible refine v_test ?_ | with_reducible refine v_B ?_ | with_reducible refine v_bl ?_ | with_reducible refine v_not ?_ | with_reducible refine v_and ?_ | with_reducible refine v_or ?_
  | with_reducible refine v_andV ?_ | with_reducible refine v_orV ?_ | with_reducible refine v_notV ?_ | with_reducible refine v_ife ?_
  | with_reducible refine v_nil ?_ | with_reducible refine v_cons ?_ | with_reducible refine v_tup ?_ | with_reducible refine v_lst ?_ | with_reducible refine v_call ?_ | with_reducible refine v_cb ?_ | with_reducible refine v_int ?_ | with_reducible refine v_abs ?_
  | ((with_reducible refine' v_eq ?e ?_); (case e => exact rfl)) | ((with_reducible refine' v_ne ?e ?_); (case e => exact rfl)) | with_reducible refine v_sub ?_ | with_reducible refine v_isN ?_ | with_reducible refine v_notN ?_
  | with_reducible refine v_part ?_ | with_reducible refine v_nopart ?_ | with_reducible refine v_pint ?_ | with_reducible refine v_inSg ?_ | with_reducible refine v_notInSg ?_
  | ((with_reducible refine' v_ixL ?l ?a ?_); (case l => assumption); (case a => exact at_lit _ rfl)) | ((with_reducible refine' v_ixT ?l ?a ?_); (case l => assumption); (case a => exact at_lit _ rfl))
  | ((with_reducible refine v_I ?c ?_); (case c => (first | omega | (unfold CMul; omega) | (unfold CDivN; omega) | (unfold CPow; omega))))
  | with_reducible refine v_for ?_ | with_reducible refine v_iList ?_ | with_reducible refine v_iTup ?_ | with_reducible refine v_iStr ?_ | with_reducible refine v_iR1 ?_ | with_reducible refine v_iR2 ?_ | with_reducible refine v_atS ?_ | with_reducible refine v_sl ?_ | with_reducible refine v_lc ?_ | with_reducible refine v_yes ?_
  | with_reducible refine v_m1 ?_ | with_reducible refine v_m1S ?_ | with_reducible refine v_bm ?_ | with_reducible refine v_bm0 ?_ | with_reducible refine v_dnewK ?_ | with_reducible refine v_dnewT ?_ | with_reducible refine v_dget ?_ | with_reducible refine v_din ?_ | with_reducible refine v_dnotin ?_ | with_reducible refine v_dput ?_ | with_reducible refine v_chain ?_ | with_reducible refine v_un ?_ | with_reducible refine v_neg ?_
  | with_reducible refine v_brk ?_ | with_reducible refine v_cont ?_
  | with_reducible refine v_fld ?_ | with_reducible refine v_sfld ?_ | with_reducible refine v_meth ?_ | with_reducible refine v_methT ?_ | with_reducible refine v_make ?_ | with_reducible refine v_makeT ?_ | with_reducible refine v_dget2 ?_ | with_reducible refine v_enumS ?_ | with_reducible refine v_enumQ ?_ | with_reducible refine v_lc2 ?_ | with_reducible refine v_isB ?_ | with_reducible refine v_notB ?_ | with_reducible refine v_lstRg2 ?_ | with_reducible refine v_lstRg3 ?_)
local macro_rules | `(tactic| walk_at "v") => `(tactic| repeat (walk_at "v1"))
local macro_rules | `(tactic| walk_at "vm") => `(tactic| repeat (first | ((with_reducible refine v_modP ?c ?_); (case c => omega); (intro _ _ _)) | walk_at "v1"))
local macro_rules | `(tactic| walk_at "iv") => `(tactic| (try dsimp only; refine IV.mk (by assumption) (by assumption) ?_))
local macro_rules | `(tactic| walk_at "n") => `(tactic| dsimp only [List.set_cons_zero, List.set_cons_succ])
def seqD : PyData → Option (List PyData)
  | .list ds => some ds
  | .tuple ds => some ds
  | _ => none
def natD : PyData → Nat
  | .int i => i.toNat
  | _ => 0
/-- the pair of places that an item is -/
def itemD (r o : List Nat) (d : PyData) : Option (Nat × Nat) := match seqD d with
  | some [a, b] => if isIntIn 0 ((r.length : Int) - 1) a = true ∧ isIntIn 0 ((o.length : Int) - 1) b = true ∧ r.getD (natD a) 0 = o.getD (natD b) 0 then some (natD a, natD b) else none
  | _ => none
def relOf (L : List (Nat × Nat)) : Rel := fun k j => decide ((k, j) ∈ L)
def levItems (r o : List Nat) (d : PyData) : Option (List (Nat × Nat)) := match seqD d with
  | some ds => if (ds.all fun d => (itemD r o d).isSome) = true then some (ds.filterMap (itemD r o)) else none
  | none => none
theorem isLT_mk {d : PyData} (h : isLT d = true) : ∃ l ds, d = mkD l ds ∧ seqD d = some ds := by
  cases d with
  | list ds => exact ⟨true, ds, rfl, rfl⟩
  | tuple ds => exact ⟨false, ds, rfl, rfl⟩
  | _ => cases h
theorem isLT_no {d : PyData} (h : isLT d = false) : seqD d = none := by
  cases d with
  | list ds => cases h
  | tuple ds => cases h
  | _ => rfl
theorem fixAll {B H : Hp} {M : List (Addr × HO)} : ∀ {L : List (Addr × HO)}, Hs B (L ++ M) H → ∃ B', Le B B' ∧ Hs B' M H ∧ ∀ p ∈ L, B' p.1 = some p.2
  | [], h => ⟨B, Same.refl B, h, fun p hp => absurd hp (by simp)⟩
  | (a, o) :: L, h => by
    obtain ⟨h1, l1⟩ := Hs.fix (M := L ++ M) h
    obtain ⟨B', l2, h2, e⟩ := fixAll h1
    refine ⟨B', l1.trans l2, h2, fun p hp => ?_⟩
    rcases List.mem_cons.mp hp with rfl | hp
    · exact l2 _ _ upd_same
    · exact e p hp
theorem isInt_some {n : Nat} {d : PyData} (h : isIntIn 0 ((n : Int) - 1) d = true) : d = .int ((natD d : Nat) : Int) ∧ natD d < n := by
  cases d with
  | int i =>
    have : decide (0 ≤ i ∧ i ≤ (n : Int) - 1) = true := by simpa [isIntIn] using h
    have := of_decide_eq_true this
    show PyData.int i = .int ((i.toNat : Nat) : Int) ∧ i.toNat < n
    exact ⟨by congr 1; omega, by omega⟩
  | _ => cases h
theorem itemD_lt {r o : List Nat} {d : PyData} {p : Nat × Nat} (h : itemD r o d = some p) : p.1 < r.length ∧ p.2 < o.length ∧ r.getD p.1 0 = o.getD p.2 0 := by
  unfold itemD at h
  split at h
  · split at h
    · rename_i c
      cases h
      exact ⟨(isInt_some c.1).2, (isInt_some c.2.1).2, c.2.2⟩
    · cases h
  · cases h
theorem S_at {r : List Nat} {k : Nat} (h : k < r.length) : atI (S r).cps.toList (k : Int) = some (r.getD k 0) := by
  refine atI_nat ?_
  show r[k]? = _
  rw [List.getD_eq_getElem?_getD, List.getElem?_eq_getElem h]
  rfl
def rowF (m : Nat) (g : Nat → Bool) : HO := .lst (((List.range m).map g).map V.bl)
theorem row_set {m j : Nat} {g : Nat → Bool} (hj : j < m) : ((((List.range m).map g).map V.bl).set j (V.bl true)) = ((List.range m).map fun b => g b || decide (b = j)).map V.bl := by
  refine List.ext_getElem? fun i => ?_
  rw [List.getElem?_set, List.length_map, List.length_map, List.length_range]
  by_cases e : j = i
  · subst e
    rw [if_pos rfl, if_pos hj, row_at hj, decide_eq_true rfl, Bool.or_true]
  · rw [if_neg e]
    by_cases hi : i < m
    · rw [row_at hi, row_at hi, decide_eq_false (fun z => e z.symm), Bool.or_false]
    · rw [List.getElem?_eq_none (by simp; omega), List.getElem?_eq_none (by simp; omega)]
/-! ### table_of_level -/
def sp_p_table_of_level (K : PySem.W.Frag) : Sp := fun vs H Q _ => ∃ (B : Hp) (M : List (Addr × HO)) (v : V) (d : PyData) (r o : List Nat), vs = [.str (S r), .str (S o), v] ∧ Hs B M H ∧ Rp K B v d ∧ r.length ≤ 12 ∧ o.length ≤ 12 ∧
  (levItems r o d = none → ∀ (B' H' : Hp), Le B B' → Hs B' M H' → Q .non H') ∧
  ∀ L, levItems r o d = some L → ∀ (v' : V) (B' H' : Hp), Le B B' → Hs B' M H' → Rp K B' v' (tabD r.length o.length (relOf L)) → Q v' H'
def t_p_table_of_level (K : PySem.W.Frag) : TS := (tSeq (tIfS (tNot (tB (tCall (sp_p_is_listed K) [] E0 (tCons (tVar 2) tNil)))) (tRet (tC .non)) tNext)
    (tSeq (tAsg (tLc (iStr (tVar 0)) (gName 5) tYes (tLc (iStr (tVar 1)) (gName 4) tYes (tC (.bl false)) [4]) [5]) (gName 3))
    (tSeq (tFor (iSeq K (tVar 2)) (gName 6) (tSeq (tIfS (tOr (tNot (tB (tCall (sp_p_is_listed K) [] E0 (tCons (tVar 6) tNil)))) (tTest (tOp rNe (tCB (rCLen K) (tCons (tVar 6) tNil)) (tC (.int 2))))) (tRet (tC .non)) tNext)
    (tSeq (tAsg (tVar 6) (gAlt (gTup K 2 (gCons (gName 7) (gCons (gName 8) gNil))) (gUnl K 2 (gCons (gName 7) (gCons (gName 8) gNil)))))
    (tSeq (tIfS (tOr (tNot (tB (tCall (sp_p_is_integer K) [] E0 (tCons (tVar 7) (tCons (tC (.int 0)) (tCons (tOp rSubI (tCB (rCLen K) (tCons (tVar 0) tNil)) (tC (.int 1))) tNil)))))) (tNot (tB (tCall (sp_p_is_integer K) [] E0 (tCons (tVar 8) (tCons (tC (.int 0)) (tCons (tOp rSubI (tCB (rCLen K) (tCons (tVar 1) tNil)) (tC (.int 1))) tNil))))))) (tRet (tC .non)) tNext)
    (tSeq (tIfS (tTest (tOp rNe (tOp rIxS (tVar 0) (tVar 7)) (tOp rIxS (tVar 1) (tVar 8)))) (tRet (tC .non)) tNext)
    (tAsg (tC (.bl true)) (gSub (tOp (rIxL K) (tVar 3) (tVar 7)) (tVar 8) rSetL)))))))
    (tRet (tVar 3)))))
theorem pure_p_table_of_level {K : PySem.W.Frag} (vs : List V) (H : Hp) (Q : VK) (E : XK) (h : sp_p_table_of_level K vs H Q E) : t_p_table_of_level K { nx := fun _ H' => Q .non H', rt := Q } (start n_p_table_of_level vs) H := by
  obtain ⟨B, M, v, d, r, o, rfl, hs, hv, r12, o12, qn, qs⟩ := h
  show t_p_table_of_level K _ [some (V.str (S r)), some (V.str (S o)), some v, none, none, none, none, none, none] H
  unfold t_p_table_of_level
  walk_at "v"
  refine ⟨B, M, v, d, rfl, hs, hv, fun B1 H1 l1 h1 => ?_⟩
  walk_at "v"
  cases hL : isLT d with
  | false =>
    refine iteT' rfl ?_
    walk_at "v"
    exact qn (by unfold levItems; rw [isLT_no hL]) B1 H1 l1 h1
  | true =>
  obtain ⟨l, ds, rfl, hd⟩ := isLT_mk hL
  have eL : levItems r o (mkD l ds) = if (ds.all fun d => (itemD r o d).isSome) = true then some (ds.filterMap (itemD r o)) else none := by unfold levItems; rw [hd]
  rw [eL] at qn qs
  obtain ⟨va, xs, rfl, hV, hX⟩ := rp_mk hv
  refine iteF' rfl ?_
  walk_at "v"
  refine v_lcS h1 (fun i acc B' M' => ∃ L : List (Addr × HO), M' = L ++ M ∧ L.length = i ∧ acc = L.map (fun p => V.ref p.1) ∧ ∀ (k : Nat) (p : Addr × HO), L[k]? = some p → p.2 = rowF o.length fun _ => false) ⟨[], rfl, rfl, rfl, fun k p h => by simp at h⟩ ?_ ?_
  · rintro i c p acc B2 M' H2 hi hc ha l2 h2 ⟨L, rfl, hl, rfl, hall⟩
    rw [S_size] at hi
    walk_at "v"
    refine ⟨rfl, ?_⟩
    walk_at "v"
    refine iteT' rfl ?_
    walk_at "v"
    refine v_lcS h2 (fun j acc2 B' M'' => M'' = (p, .lst (L.map fun p => V.ref p.1)) :: (L ++ M) ∧ acc2 = ((List.range j).map fun _ => false).map V.bl) ⟨rfl, rfl⟩ ?_ ?_
    · rintro j e p2 acc2 B3 M'' H3 hj he ha2 l3 h3 ⟨rfl, rfl⟩
      rw [S_size] at hj
      walk_at "v"
      refine ⟨rfl, ?_⟩
      walk_at "v"
      refine iteT' rfl ?_
      walk_at "v"
      refine IE.mk ha2 hj (by omega) l3 h3 ⟨rfl, ?_⟩
      rw [range_succ_map, List.map_append]
      rfl
    · rintro p2 acc2 B3 M'' H3 ha2 l3 h3 ⟨rfl, rfl⟩
      rw [S_size] at h3
      have h4 : Hs B3 ((p, .lst (L.map fun p => V.ref p.1)) :: ((L ++ [(p2, rowF o.length fun _ => false)]) ++ M)) H3 := by
        refine h3.perm ((List.Perm.swap _ _ _).trans (.cons _ ?_))
        rw [List.append_assoc]
        exact List.perm_middle.symm
      refine IE.mk ha hi (by omega) (l2.trans l3) h4 ⟨_, rfl, by rw [List.length_append, hl]; rfl, by rw [List.map_append]; rfl, fun k q hk => ?_⟩
      by_cases hki : k < L.length
      · rw [List.getElem?_append_left hki] at hk
        exact hall k q hk
      · rw [List.getElem?_append_right (by omega)] at hk
        have hk := List.mem_of_getElem? hk
        rw [List.mem_singleton] at hk
        rw [hk]
  · rintro np acc B2 M' H2 ha l2 h2 ⟨L, rfl, hl, rfl, hall⟩
    rw [S_size] at hl
    obtain ⟨h3, l3⟩ := h2.fix
    generalize hB3 : upd B2 np (.lst (L.map fun p => V.ref p.1)) = B3 at h3 l3
    have hN : SqL K B3 np ((L.map (·.1)).map V.ref) := by
      rw [← hB3, List.map_map]
      exact SqL.of upd_same
    walk_at "v"
    have l13 := l1.trans (l2.trans l3)
    refine v_forX rfl (hV.up l13) h3 (fun i σ' B' M' => ∃ (L' : List (Addr × HO)) (y4 y5 y6 y7 y8 : Option V), M' = L' ++ M ∧ L'.map (·.1) = L.map (·.1) ∧ (∀ d ∈ ds.take i, (itemD r o d).isSome = true) ∧ (∀ (k : Nat) (p : Addr × HO), L'[k]? = some p → p.2 = rowF o.length (relOf ((ds.take i).filterMap (itemD r o)) k)) ∧
      σ' = [some (V.str (S r)), some (V.str (S o)), some (V.ref va), some (V.ref np), y4, y5, y6, y7, y8]) ⟨L, none, none, none, none, none, rfl, rfl, fun d hd => by simp at hd, hall, rfl⟩ ?_ ?_
    · rintro i x σ' B4 M' H4 hi hx l4 h4 ⟨L', y4, y5, y6, y7, y8, rfl, hA, hI, hF, rfl⟩
      obtain ⟨e, he, hev⟩ := hX.getV hx
      have l14 := l13.trans l4
      have hev := hev.up l14
      have bad : itemD r o e = none → ∀ (B' H' : Hp), Le B B' → Hs B' M H' → Q .non H' := fun hn => qn (by
        rw [if_neg]
        intro z
        have := List.all_eq_true.mp z e (List.mem_of_getElem? he)
        rw [hn] at this
        cases this)
      walk_at "v"
      refine ⟨B4, _, x, e, rfl, h4, hev, fun B5 H5 l5 h5 => ?_⟩
      have out : itemD r o e = none → ∀ (B' H' : Hp), Le B5 B' → Hs B' (L' ++ M) H' → Q .non H' := fun hn B' H' l h => by
        obtain ⟨B'', l', h', -⟩ := fixAll h
        exact bad hn B'' H' ((l14.trans l5).trans (l.trans l')) h'
      walk_at "v"
      cases hL2 : isLT e with
      | false =>
        refine iteT' rfl ?_
        refine iteT ?_
        walk_at "v"
        exact out (by unfold itemD; rw [isLT_no hL2]) B5 H5 (Same.refl _) h5
      | true =>
      obtain ⟨l2', es, rfl, hes⟩ := isLT_mk hL2
      obtain ⟨xa, ys, rfl, hXa, hY⟩ := rp_mk (hev.up l5)
      refine iteF' rfl ?_
      walk_at "v"
      refine v_lenX (h5.trx hXa) ?_
      walk_at "v"
      by_cases h2 : es.length = 2
      rotate_left
      · refine iteT' (by rw [hY.length]; simp; omega) ?_
        walk_at "v"
        refine out ?_ B5 H5 (Same.refl _) h5
        unfold itemD
        rw [hes]
        match es, h2 with
        | [], _ => rfl
        | [_], _ => rfl
        | [_, _], h2 => exact absurd rfl h2
        | _ :: _ :: _ :: _, _ => rfl
      · obtain ⟨ea, eb, rfl⟩ : ∃ ea eb, es = [ea, eb] := by
          match es, h2 with
          | [a, b], _ => exact ⟨a, b, rfl⟩
        obtain ⟨ya, yb, rfl, hya, hyb⟩ : ∃ ya yb, ys = [ya, yb] ∧ Rp K B5 ya ea ∧ Rp K B5 yb eb := by
          cases hY with
          | cons h1 h2 =>
            cases h2 with
            | cons h2 h3 =>
              cases h3
              exact ⟨_, _, rfl, h1, h2⟩
        refine iteF' (by simp) ?_
        walk_at "v"
        have gl : ∀ (q : L2.St → Hp → Prop) (σ : L2.St), (gName 7 ya σ H5 fun σ1 H1 => gName 8 yb σ1 H1 q) → gAlt (gTup K 2 (gCons (gName 7) (gCons (gName 8) gNil))) (gUnl K 2 (gCons (gName 7) (gCons (gName 8) gNil))) (.ref xa) σ H5 q := fun q σ z => by
          cases l2' with
          | true => exact v_gTupL (h5.l hXa) z
          | false => exact v_gTupT (h5.t (SqT.of hXa)) z
        refine gl _ _ ?_
        walk_at "v"
        have eI : itemD r o (mkD l2' [ea, eb]) = if isIntIn 0 ((r.length : Int) - 1) ea = true ∧ isIntIn 0 ((o.length : Int) - 1) eb = true ∧ r.getD (natD ea) 0 = o.getD (natD eb) 0 then some (natD ea, natD eb) else none := by unfold itemD; rw [hes]
        refine v_lenS (by rw [S_length]; exact sz_of (by omega)) ?_
        walk_at "v"
        rw [S_length]
        refine ⟨ya, ea, 0, ((r.length : Nat) : Int) - 1, rfl, h5.r hya, ?_⟩
        walk_at "v"
        cases hia : isIntIn 0 (((r.length : Nat) : Int) - 1) ea with
        | false =>
          refine iteT' rfl ?_
          refine iteT ?_
          walk_at "v"
          exact out (by rw [eI, if_neg (fun z => by rw [hia] at z; cases z.1)]) B5 H5 (Same.refl _) h5
        | true =>
        refine iteF' rfl ?_
        walk_at "v"
        refine v_lenS (by rw [S_length]; exact sz_of (by omega)) ?_
        walk_at "v"
        rw [S_length]
        refine ⟨yb, eb, 0, ((o.length : Nat) : Int) - 1, rfl, h5.r hyb, ?_⟩
        walk_at "v"
        cases hib : isIntIn 0 (((o.length : Nat) : Int) - 1) eb with
        | false =>
          refine iteT' rfl ?_
          walk_at "v"
          exact out (by rw [eI, if_neg (fun z => by rw [hib] at z; cases z.2.1)]) B5 H5 (Same.refl _) h5
        | true =>
        refine iteF' rfl ?_
        obtain ⟨ek, hk⟩ := isInt_some hia
        obtain ⟨ej, hj⟩ := isInt_some hib
        generalize natD ea = k at ek hk eI
        generalize natD eb = j at ej hj eI
        subst ek ej
        cases hya
        cases hyb
        walk_at "v"
        refine v_ixS (sz_of (by rw [S_length]; omega)) (S_at hk) ?_
        walk_at "v"
        refine v_ixS (sz_of (by rw [S_length]; omega)) (S_at hj) ?_
        walk_at "v"
        rw [eqL]
        by_cases hc : r.getD k 0 = o.getD j 0
        rotate_left
        · refine iteT' (by rw [decide_eq_false hc]; rfl) ?_
          walk_at "v"
          exact out (by rw [eI, if_neg (fun z => hc z.2.2)]) B5 H5 (Same.refl _) h5
        · refine iteF' (by rw [decide_eq_true hc]; rfl) ?_
          rw [if_pos ⟨hia, hib, hc⟩] at eI
          walk_at "v"
          have ll : L'.length = r.length := by rw [← hl, ← List.length_map (f := (·.1)), hA, List.length_map]
          obtain ⟨p, hp⟩ : ∃ p, L'[k]? = some p := ⟨_, List.getElem?_eq_getElem (by omega)⟩
          have hp1 : ((L.map (·.1)).map V.ref)[k]? = some (.ref p.1) := by rw [← hA, List.getElem?_map, List.getElem?_map, hp]; rfl
          refine v_ixL (v := .ref p.1) (h5.l (le_l (l4.trans l5) hN)) (atI_nat hp1) ?_
          walk_at "v"
          have hp2 := hF k p hp
          have hpM : (L' ++ M)[k]? = some (p.1, rowF o.length (relOf ((ds.take i).filterMap (itemD r o)) k)) := by
            rw [List.getElem?_append_left (by omega), hp, ← hp2]
          have kin : ixN ((((List.range o.length).map (relOf ((ds.take i).filterMap (itemD r o)) k)).map V.bl)).length (j : Int) = some j := by
            rw [List.length_map, List.length_map, List.length_range, ixN, if_pos (by omega), if_pos (by omega)]
            simp
          refine v_setLE (j := j) (h5.atI k hpM) kin (row_set hj) ?_
          have h6 := h5.wrI (o' := .lst (((List.range o.length).map fun b => relOf ((ds.take i).filterMap (itemD r o)) k b || decide (b = j)).map V.bl)) k hpM
          have ts : ds.take (i + 1) = ds.take i ++ [mkD l2' [.int (k : Int), .int (j : Int)]] := by rw [List.take_add_one, he]; rfl
          have fm : (ds.take (i + 1)).filterMap (itemD r o) = (ds.take i).filterMap (itemD r o) ++ [(k, j)] := by
            rw [ts, List.filterMap_append, List.filterMap_cons, eI]
            rfl
          rw [List.set_append_left _ _ (by omega)] at h6
          try dsimp only
          refine IV.mk (l4.trans l5) h6 ⟨L'.set k (p.1, .lst (((List.range o.length).map fun b => relOf ((ds.take i).filterMap (itemD r o)) k b || decide (b = j)).map V.bl)), _, _, _, _, _, rfl, ?_, ?_, ?_, rfl⟩
          · rw [← hA, List.map_set]
            refine List.ext_getElem? fun t => ?_
            rw [List.getElem?_set]
            split
            · rename_i e
              subst e
              rw [List.length_map, if_pos (by omega), List.getElem?_map, hp]
              rfl
            · rfl
          · intro d hd
            rw [ts, List.mem_append, List.mem_singleton] at hd
            rcases hd with hd | rfl
            · exact hI d hd
            · rw [eI]; rfl
          · intro t p' hp'
            rw [List.getElem?_set] at hp'
            rw [fm]
            split at hp'
            · rename_i e
              subst e
              rw [if_pos (by omega)] at hp'
              cases hp'
              show HO.lst _ = HO.lst _
              congr 2
              refine List.map_congr_left fun b _ => ?_
              unfold relOf
              by_cases e : b = j
              · subst e
                simp
              · rw [decide_eq_false e, Bool.or_false]
                simp [e]
            · rename_i e
              rw [hF t p' hp']
              show HO.lst _ = HO.lst _
              congr 2
              refine List.map_congr_left fun b _ => ?_
              unfold relOf
              have : t ≠ k := fun z => e z.symm
              simp [this]
    · rintro σ' B4 M' H4 l4 h4 ⟨L', y4, y5, y6, y7, y8, rfl, hA, hI, hF, rfl⟩
      rw [hX.length, List.take_length] at hI hF
      walk_at "v"
      obtain ⟨B5, l5, h5, e5⟩ := fixAll h4
      refine qs _ (if_pos (List.all_eq_true.mpr hI)) _ B5 H4 (l13.trans (l4.trans l5)) h5 (.lst (le_l (l4.trans l5) hN) ?_)
      have ll : L'.length = r.length := by rw [← hl, ← List.length_map (f := (·.1)), hA, List.length_map]
      rw [← hA, tab_data, ← ll]
      clear hA ll
      have key : ∀ (n0 : Nat) (L0 : List (Addr × HO)) (g : Nat → Nat → Bool), (∀ p ∈ L0, B5 p.1 = some p.2) → (∀ (k : Nat) (p : Addr × HO), L0[k]? = some p → p.2 = rowF o.length (g (n0 + k))) →
          RpAll K B5 ((L0.map (·.1)).map V.ref) ((List.range L0.length).map fun k => PyData.list (((List.range o.length).map (g (n0 + k))).map .bool)) := by
        intro n0 L0 g
        induction L0 generalizing n0 with
        | nil => intro _ _; exact .nil
        | cons p L0 ih =>
          intro e1 e2
          rw [List.length_cons, List.range_succ_eq_map]
          refine RpAll.cons (v := .ref p.1) (d := .list (((List.range o.length).map (g (n0 + 0))).map .bool)) (.lst (SqL.of ?_) (bools_rp _)) ?_
          · rw [e1 p (by simp), e2 0 p rfl]
            rfl
          · have := ih (n0 + 1) (fun q hq => e1 q (by simp [hq])) (fun k q hk => by
              rw [e2 (k + 1) q hk]
              congr 2
              omega)
            refine cast ?_ this
            rw [List.map_map (l := List.range _) (g := fun k => PyData.list _)]
            congr 1
            refine List.map_congr_left fun k _ => ?_
            show _ = PyData.list (((List.range o.length).map (g (n0 + (k + 1)))).map .bool)
            rw [show n0 + 1 + k = n0 + (k + 1) by omega]
      have := key 0 L' (relOf (ds.filterMap (itemD r o))) e5 (fun k p h => by rw [Nat.zero_add]; exact hF k p h)
      simpa using this
section
variable {P : Program} {w : World} {K : PySem.W.Frag} {mg : Str → Option Value} {base : Heap}
theorem ok_p_table_of_level (T : Txt K mg w) : FnOk P w K mg base CX0 2 T.a_p_table_of_level T.fd_p_table_of_level ["row", "other", "level"] (sp_p_table_of_level K) := by
  refine T.F_p_table_of_level.ok sc_p_table_of_level (fun vs H Q E h => ?_) (fun cdv A outer s H vs Q E hr h => ⟨t_p_table_of_level K, ?_, pure_p_table_of_level vs H Q E h⟩)
  · obtain ⟨B, M, v, d, r, o, rfl, _⟩ := h
    rfl
  · exact (pss_cons (ps_if (pt_not (pt_val (pe_call (ok_p_is_listed T) hr (by rfl) T.g_p_is_listed T.F_p_is_listed.kp T.b_p_is_listed .nil pass0 (pa_cons (pv 2) pa_nil)))) (pss_one (ps_ret pe_non)) pss_nil)
      (pss_cons (ps_setLc (i := 3) (own := [("one", 5)]) (g := (gName 5)) (tt := tYes) rfl sc_p_table_of_level.nd rfl rfl (sw_true rfl rfl rfl (by decide +kernel)) (pi_str (pv 0)) (blkOk_by (own := [("one", 5)]) (N := n_p_table_of_level) (sc := defScope s_p_table_of_level) (by decide +kernel)) (fun _ _ _ _ _ => (pg_name (i := 5) sc_p_table_of_level.nd rfl (Or.inl rfl))) (fun _ _ _ _ _ => pts_nil) (fun _ _ _ _ _ => (pe_lc (own := [("two", 4)]) (g := (gName 4)) (tt := tYes) rfl sc_p_table_of_level.nd (pi_str (pv 1)) (blkOk_by (own := [("two", 4)]) (N := n_p_table_of_level) (sc := { kind := .function, names := [(".0", .local), ("one", .local), ("other", .cell)], isGenerator := false, isCoroutine := false }) (by decide +kernel)) (fun _ _ _ _ _ => (pg_name (i := 4) sc_p_table_of_level.nd rfl (Or.inl rfl))) (fun _ _ _ _ _ => pts_nil) (fun _ _ _ _ _ => pe_bl))))
      (pss_cons (ps_for PassesOwn.never rfl (pi_seq (pv 2)) (pg_name (i := 6) sc_p_table_of_level.nd rfl (by first | exact Or.inl rfl | exact Or.inr rfl)) (pss_cons (ps_if (PW.pt (pw_or (pt_not (pt_val (pe_call (ok_p_is_listed T) hr (by rfl) T.g_p_is_listed T.F_p_is_listed.kp T.b_p_is_listed .nil pass0 (pa_cons (pv 6) pa_nil)))) (pw_or1 (pt_cmpR op_ne (pe_callB call_len (by rfl) (T.free_len) (by decide +kernel) (pa_cons (pv 6) pa_nil)) pe_int (nomark _))))) (pss_one (ps_ret pe_non)) pss_nil)
      (pss_cons (ps_asg (pv 6) (pg_alt (pg_tup rfl (pgs_cons (pg_name (i := 7) sc_p_table_of_level.nd rfl (by first | exact Or.inl rfl | exact Or.inr rfl)) (pgs_cons (pg_name (i := 8) sc_p_table_of_level.nd rfl (by first | exact Or.inl rfl | exact Or.inr rfl)) pgs_nil))) (pg_unl rfl (pgs_cons (pg_name (i := 7) sc_p_table_of_level.nd rfl (by first | exact Or.inl rfl | exact Or.inr rfl)) (pgs_cons (pg_name (i := 8) sc_p_table_of_level.nd rfl (by first | exact Or.inl rfl | exact Or.inr rfl)) pgs_nil)))))
      (pss_cons (ps_if (PW.pt (pw_or (pt_not (pt_val (pe_call (ok_p_is_integer T) hr (by rfl) T.g_p_is_integer T.F_p_is_integer.kp T.b_p_is_integer .nil pass0 (pa_cons (pv 7) (pa_cons pe_int (pa_cons (pe_op op_sub (pe_callB call_len (by rfl) (T.free_len) (by decide +kernel) (pa_cons (pv 0) pa_nil)) pe_int) pa_nil)))))) (pw_or1 (pt_not (pt_val (pe_call (ok_p_is_integer T) hr (by rfl) T.g_p_is_integer T.F_p_is_integer.kp T.b_p_is_integer .nil pass0 (pa_cons (pv 8) (pa_cons pe_int (pa_cons (pe_op op_sub (pe_callB call_len (by rfl) (T.free_len) (by decide +kernel) (pa_cons (pv 1) pa_nil)) pe_int) pa_nil))))))))) (pss_one (ps_ret pe_non)) pss_nil)
      (pss_cons (ps_if (pt_cmpR op_ne (pe_ix ix_str (pv 0) (pv 7) (fun _ _ => rfl)) (pe_ix ix_str (pv 1) (pv 8) (fun _ _ => rfl)) (nomark _)) (pss_one (ps_ret pe_non)) pss_nil)
      (pss_one (ps_asg pe_bl (pg_sub (pe_ix ix_list (pv 3) (pv 7) (fun _ _ => rfl)) (pv 8) set_list))))))))
      (pss_one (ps_ret (pv 3))))))
end
end K52
set_option Elab.async false
set_option linter.all false
set_option maxRecDepth 100000
set_option maxHeartbeats 8000000
namespace K52
open PySem PySem.Spec PyProof.Rows L2 Sh
open SX (S)
local macro_rules | `(tactic| walk_at "v1") => `(tactic| first
  | with_reducible refine v_seq ?_ | with_reducible refine v_asg ?_ | ((with_reducible refine' v_name ?e ?_); (case e => exact rfl)) | with_reducible refine v_ret ?_ | with_reducible refine v_drop ?_ | with_reducible refine v_next ?_
  | with_reducible refine v_if ?_ | with_reducible refine v_op ?_ | with_reducible refine v_c ?_ | ((with_reducible refine' v_var ?e ?_); (case e => exact rfl))
  | with_reducible refine v_I0 ?_ | with_reducible refine v_test ?_ | with_reducible refine v_B ?_ | with_reducible refine v_bl ?_ | with_reducible refine v_not ?_ | with_reducible refine v_and ?_ | with_reducible refine v_or ?_
  | with_reducible refine v_andV ?_ | with_reducible refine v_orV ?_ | with_reducible refine v_notV ?_ | with_reducible refine v_ife ?_
  | with_reducible refine v_nil ?_ | with_reducible refine v_cons ?_ | with_reducible refine v_tup ?_ | with_reducible refine v_lst ?_ | with_reducible refine v_call ?_ | with_reducible refine v_cb ?_ | with_reducible refine v_int ?_ | with_reducible refine v_abs ?_
  | ((with_reducible refine' v_eq ?e ?_); (case e => exact rfl)) | ((with_reducible refine' v_ne ?e ?_); (case e => exact rfl)) | with_reducible refine v_sub ?_ | with_reducible refine v_isN ?_ | with_reducible refine v_notN ?_
  | with_reducible refine v_part ?_ | with_reducible refine v_nopart ?_ | with_reducible refine v_pint ?_ | with_reducible refine v_inSg ?_ | with_reducible refine v_notInSg ?_
  | ((with_reducible refine' v_ixL ?l ?a ?_); (case l => assumption); (case a => exact at_lit _ rfl)) | ((with_reducible refine' v_ixT ?l ?a ?_); (case l => assumption); (case a => exact at_lit _ rfl))
  | ((with_reducible refine v_I ?c ?_); (case c => (first | omega | (unfold CMul; omega) | (unfold CDivN; omega) | (unfold CPow; omega))))
  | with_reducible refine v_for ?_ | with_reducible refine v_iList ?_ | with_reducible refine v_iTup ?_ | with_reducible refine v_iStr ?_ | with_reducible refine v_iR1 ?_ | with_reducible refine v_iR2 ?_ | with_reducible refine v_atS ?_ | with_reducible refine v_sl ?_ | with_reducible refine v_lc ?_ | with_reducible refine v_yes ?_
  | with_reducible refine v_m1 ?_ | with_reducible refine v_m1S ?_ | with_reducible refine v_bm ?_ | with_reducible refine v_bm0 ?_ | with_reducible refine v_dnewK ?_ | with_reducible refine v_dnewT ?_ | with_reducible refine v_dget ?_ | with_reducible refine v_din ?_ | with_reducible refine v_dnotin ?_ | with_reducible refine v_dput ?_ | with_reducible refine v_chain ?_ | with_reducible refine v_un ?_ | with_reducible refine v_neg ?_
  | with_reducible refine v_brk ?_ | with_reducible refine v_cont ?_
  | with_reducible refine v_fld ?_ | with_reducible refine v_sfld ?_ | with_reducible refine v_meth ?_ | with_reducible refine v_methT ?_ | with_reducible refine v_make ?_ | with_reducible refine v_makeT ?_ | with_reducible refine v_dget2 ?_ | with_reducible refine v_enumS ?_ | with_reducible refine v_enumQ ?_ | with_reducible refine v_lc2 ?_ | with_reducible refine v_isB ?_ | with_reducible refine v_notB ?_ | with_reducible refine v_lstRg2 ?_ | with_reducible refine v_lstRg3 ?_)
local macro_rules | `(tactic| walk_at "v") => `(tactic| repeat (walk_at "v1"))
local macro_rules | `(tactic| walk_at "vm") => `(tactic| repeat (first | ((with_reducible refine v_modP ?c ?_); (case c => omega); (intro _ _ _)) | walk_at "v1"))
local macro_rules | `(tactic| walk_at "iv") => `(tactic| (try dsimp only; refine IV.mk (by assumption) (by assumption) ?_))
local macro_rules | `(tactic| walk_at "n") => `(tactic| dsimp only [List.set_cons_zero, List.set_cons_succ])
/-! ### is_answered -/
def answB (n m : Nat) (f g : Rel) : Bool := (cells n m f).all fun p => stays n m g p.1 p.2
def sp_p_is_answered (K : PySem.W.Frag) : Sp := fun vs H Q _ => ∃ (B : Hp) (M : List (Addr × HO)) (v v2 : V) (n m : Nat) (f g : Rel), vs = [v, v2, .int (m : Int)] ∧ Hs B M H ∧ Rp K B v (tabD n m f) ∧ Rp K B v2 (tabD n m g) ∧ n ≤ 100 ∧ m ≤ 100 ∧
  ∀ (B' H' : Hp), Le B B' → Hs B' M H' → Q (.bl (answB n m f g)) H'
def t_p_is_answered (K : PySem.W.Frag) : TS := (tSeq (tAsg (tCall (sp_p_exchanged_table K) [] E0 (tCons (tVar 1) (tCons (tVar 2) tNil))) (gName 3))
    (tSeq (tFor (iEnumQ K (tCons (tVar 0) tNil)) (gTup K 2 (gCons (gName 4) (gCons (gName 5) gNil))) (tFor (iEnumQ K (tCons (tVar 5) tNil)) (gTup K 2 (gCons (gName 6) (gCons (gName 7) gNil))) (tIfS (tAnd (tB (tVar 7)) (tTest (tOp rNotNn (tCall (sp_p_lost_move K) [] E0 (tCons (tVar 1) (tCons (tVar 3) (tCons (tVar 4) (tCons (tVar 6) tNil))))) (tC .non)))) (tRet (tC (.bl false))) tNext)))
    (tRet (tC (.bl true)))))
theorem pure_p_is_answered {K : PySem.W.Frag} (vs : List V) (H : Hp) (Q : VK) (E : XK) (h : sp_p_is_answered K vs H Q E) : t_p_is_answered K { nx := fun _ H' => Q .non H', rt := Q } (start n_p_is_answered vs) H := by
  obtain ⟨B, M, v, v2, n, m, f, g, rfl, hs, hv, hv2, n1, m1, q⟩ := h
  obtain ⟨na, xs, rfl, hN, hX⟩ := rp_mk (l := true) hv
  have xl : xs.length = n := by rw [hX.length, tab_data, List.length_map, List.length_range]
  show t_p_is_answered K _ [some (V.ref na), some v2, some (V.int (m : Int)), none, none, none, none, none] H
  unfold t_p_is_answered
  walk_at "v"
  refine ⟨B, M, v2, n, m, g, rfl, hs, hv2, by omega, by omega, fun v3 B1 H1 l1 h1 hb => ?_⟩
  have no : ∀ {k j : Nat}, k < n → j < m → f k j = true → stays n m g k j = false → answB n m f g = false := fun {k j} hk hj h1 h2 => by
    unfold answB
    rw [List.all_eq_false]
    exact ⟨(k, j), mem_cells.mpr ⟨hk, hj, h1⟩, by rw [h2]; exact Bool.false_ne_true⟩
  walk_at "v"
  have hN1 := le_l l1 hN
  refine ⟨na, xs, rfl, .inl ⟨h1.l hN1, v_forP h1 (fun B' M' H' l h => h.l (le_l l hN1)) (fun i σ' B' M' => M' = M ∧ (∀ k j : Nat, k < i → j < m → f k j = true → stays n m g k j = true) ∧ ∃ y4 y5 y6 y7 : Option V, σ' = [some (V.ref na), some v2, some (V.int (m : Int)), some v3, y4, y5, y6, y7])
    ⟨rfl, fun k j hk => absurd hk (Nat.not_lt_zero _), none, none, none, none, rfl⟩ ?_ ?_⟩⟩
  · rintro i T x y σ' B2 M' H2 hi ex ey l2 eT h2 ⟨_, -, -, rfl, hall, y4, y5, y6, y7, rfl⟩
    obtain rfl := Option.some.inj ex
    rw [xl] at hi
    obtain ⟨a, ea, hA⟩ := tab_at hX hi
    have ey : xs[i]? = some y := ey
    rw [ea] at ey
    cases ey
    refine v_gTup2 (h2.t (SqT.of eT)) ?_
    walk_at "v"
    have hA2 := le_l (l1.trans l2) hA
    have al : (((List.range m).map (f i)).map V.bl).length = m := by rw [List.length_map, List.length_map, List.length_range]
    refine ⟨a, _, rfl, .inl ⟨h2.l hA2, v_forP h2 (fun B' M' H' l h => h.l (le_l l hA2)) (fun j σ' B' M'' => M'' = M' ∧ (∀ b : Nat, b < j → f i b = true → stays n m g i b = true) ∧ ∃ y6 y7 : Option V, σ' = [some (V.ref na), some v2, some (V.int (m : Int)), some v3, some (V.int (i : Int)), some (V.ref a), y6, y7])
      ⟨rfl, fun b hb => absurd hb (Nat.not_lt_zero _), y6, y7, rfl⟩ ?_ ?_⟩⟩
    · rintro j T2 x2 y2 σ' B3 M'' H3 hj ex ey l3 eT2 h3 ⟨_, -, -, rfl, hall2, y6, y7, rfl⟩
      rw [al] at hj
      obtain rfl := Option.some.inj ex
      have ey : (((List.range m).map (f i)).map V.bl)[j]? = some y2 := ey
      rw [row_at hj] at ey
      cases ey
      refine v_gTup2 (h3.t (SqT.of eT2)) ?_
      walk_at "v"
      have l13 := l2.trans l3
      refine ite2 (fun c0 => ?_) (fun c0 => ?_)
      · walk_at "v"
        refine ⟨B3, _, v2, v3, n, m, i, j, g, rfl, h3, hv2.up (l1.trans l13), hb.up l13, hi, hj, n1, m1, fun u0 B5 H5 l5 h5 => ?_, fun r u0 p us B5 H5 l5 h5 e5 uv => ?_⟩
        · walk_at "v"
          refine iteF' rfl ?_
          walk_at "v"
          try dsimp only
          refine IV.mk (l3.trans l5) h5 ⟨rfl, fun b hb2 hfb => ?_, _, _, rfl⟩
          by_cases e : b = j
          · subst e
            rw [← lost_none, u0]
            rfl
          · exact hall2 b (by omega) hfb
        · walk_at "v"
          refine iteT' rfl ?_
          walk_at "v"
          have e : answB n m f g = false := no hi hj c0 (by rw [← lost_none, u0]; rfl)
          rw [← e]
          exact q B5 H5 (l1.trans (l13.trans l5)) h5
      · refine iteF' rfl ?_
        walk_at "v"
        try dsimp only
        refine IV.mk l3 h3 ⟨rfl, fun b hb2 hfb => ?_, _, _, rfl⟩
        by_cases e : b = j
        · subst e
          exact absurd hfb c0
        · exact hall2 b (by omega) hfb
    · rintro σ' B3 M'' H3 l3 h3 ⟨rfl, hall2, y6, y7, rfl⟩
      rw [al] at hall2
      try dsimp only
      refine IV.mk (l2.trans l3) h3 ⟨rfl, fun k j hk hj hf => ?_, _, _, _, _, rfl⟩
      by_cases e : k = i
      · subst e
        exact hall2 j hj hf
      · exact hall k j (by omega) hj hf
  · rintro σ' B2 M' H2 l2 h2 ⟨rfl, hall, y4, y5, y6, y7, rfl⟩
    rw [xl] at hall
    walk_at "v"
    have e : answB n m f g = true := List.all_eq_true.mpr fun p hp => by
      obtain ⟨h1, h2, h3⟩ := mem_cells.mp hp
      exact hall _ _ h1 h2 h3
    rw [← e]
    exact q B2 H2 (l1.trans l2) h2
/-! ### judge_levels -/
/-- level by level, behind the level ahead -/
def judgeGo (r o : List Nat) : Option (List (Nat × Nat)) → List PyData → Bool
  | _, [] => true
  | ah, d :: ds => match levItems r o d with
    | none => false
    | some L => (match ah with | none => true | some A => answB r.length o.length (relOf L) (relOf A)) && judgeGo r o (some L) ds
def judgeD (r o : List Nat) (d : PyData) : Bool := match seqD d with
  | some ds => judgeGo r o none ds
  | none => false
section
variable {P : Program} {w : World} {K : PySem.W.Frag} {mg : Str → Option Value} {base : Heap}
def sp_p_judge_levels (T : Txt K mg w) : Sp := fun vs H Q E => ∃ (B : Hp) (M : List (Addr × HO)) (va vr vo vl : V) (da dr dq dl : PyData) (o : COut), vs = [va, vr, vo, vl] ∧ Hs B M H ∧ Rp K B va da ∧ Rp K B vr dr ∧ Rp K B vo dq ∧ Rp K B vl dl ∧
  (∀ z, da = .str z → z.length ≤ 1000000) ∧ (∀ z, dr = .str z → z.length ≤ 1000000) ∧ (∀ z, dq = .str z → z.length ≤ 1000000) ∧ CheckD da dr dq o ∧
  (o = .ok → ∀ (al r oo : List Nat) (B' H' : Hp), da = .str (S al) → dr = .str (S r) → dq = .str (S oo) → Le B B' → Hs B' M H' → Q (.bl (judgeD r oo dl)) H') ∧ (o ≠ .ok → CThr T B M E va o)
def t_p_judge_levels (T : Txt K mg w) (E : XK) : TS := (tSeq (tDrop (tCall (sp_p_check_contest T) [] E (tCons (tVar 0) (tCons (tVar 1) (tCons (tVar 2) tNil)))))
    (tSeq (tIfS (tNot (tB (tCall (sp_p_is_listed K) [] E0 (tCons (tVar 3) tNil)))) (tRet (tC (.bl false))) tNext)
    (tSeq (tAsg (tC .non) (gName 4))
    (tSeq (tFor (iSeq K (tVar 3)) (gName 5) (tSeq (tAsg (tCall (sp_p_table_of_level K) [] E0 (tCons (tVar 1) (tCons (tVar 2) (tCons (tVar 5) tNil)))) (gName 6))
    (tSeq (tIfS (tOr (tTest (tOp rIsNn (tVar 6) (tC .non))) (tAnd (tTest (tOp rNotNn (tVar 4) (tC .non))) (tNot (tB (tCall (sp_p_is_answered K) [] E0 (tCons (tVar 6) (tCons (tVar 4) (tCons (tCB (rCLen K) (tCons (tVar 2) tNil)) tNil)))))))) (tRet (tC (.bl false))) tNext)
    (tAsg (tVar 6) (gName 4)))))
    (tRet (tC (.bl true)))))))
theorem pure_p_judge_levels (T : Txt K mg w) (vs : List V) (H : Hp) (Q : VK) (E : XK) (h : sp_p_judge_levels T vs H Q E) : t_p_judge_levels T E { nx := fun _ H' => Q .non H', rt := Q } (start n_p_judge_levels vs) H := by
  obtain ⟨B, M, va, vr, vo, vl, da, dr, dq, dl, o, rfl, hs, hva, hvr, hvo, hvl, za, zr, zo, ck, q, xx⟩ := h
  show t_p_judge_levels T E _ [some va, some vr, some vo, some vl, none, none, none] H
  unfold t_p_judge_levels
  walk_at "v"
  refine ⟨B, M, va, vr, vo, da, dr, dq, o, rfl, hs, hva, hvr, hvo, za, zr, zo, ck, fun ho B1 H1 l1 h1 => ?_, xx⟩
  subst ho
  obtain ⟨al, r, oo, rfl, hA, rfl, rfl, -, -, r12, o12⟩ := ck
  cases hva
  cases hvr
  cases hvo
  walk_at "v"
  refine ⟨B1, M, vl, dl, rfl, h1, hvl.up l1, fun B2 H2 l2 h2 => ?_⟩
  walk_at "v"
  have q := q rfl al r oo
  cases hL : isLT dl with
  | false =>
    refine iteT' rfl ?_
    walk_at "v"
    have e : judgeD r oo dl = false := by unfold judgeD; rw [isLT_no hL]
    rw [← e]
    exact q _ _ rfl rfl rfl (l1.trans l2) h2
  | true =>
  obtain ⟨l, ds, rfl, hd⟩ := isLT_mk hL
  have eJ : judgeD r oo (mkD l ds) = judgeGo r oo none ds := by unfold judgeD; rw [hd]
  rw [eJ] at q
  obtain ⟨va, xs, rfl, hV, hX⟩ := rp_mk hvl
  refine iteF' rfl ?_
  walk_at "v"
  have l12 := l1.trans l2
  refine v_forX rfl (hV.up l12) h2 (fun i σ' B' M' => M' = M ∧ ∃ (ah : Option (List (Nat × Nat))) (v4 : V) (y5 y6 : Option V), judgeGo r oo none ds = judgeGo r oo ah (ds.drop i) ∧ (match ah with | none => v4 = .non | some A => Rp K B' v4 (tabD r.length oo.length (relOf A))) ∧
    σ' = [some (V.str (S al)), some (V.str (S r)), some (V.str (S oo)), some (V.ref va), some v4, y5, y6]) ⟨rfl, none, .non, none, none, rfl, rfl, rfl⟩ ?_ ?_
  · rintro i x σ' B3 M' H3 hi hx l3 h3 ⟨rfl, ah, v4, y5, y6, eg, h4, rfl⟩
    obtain ⟨e, he, hev⟩ := hX.getV hx
    obtain ⟨hi2, he2⟩ := List.getElem?_eq_some_iff.mp he
    have cut : ds.drop i = e :: ds.drop (i + 1) := by rw [← he2, List.getElem_cons_drop]
    rw [cut] at eg
    unfold judgeGo at eg
    have l13 := l12.trans l3
    walk_at "v"
    refine ⟨B3, _, x, e, r, oo, rfl, h3, hev.up l13, r12, o12, fun hn B5 H5 l5 h5 => ?_, fun L hn v6 B5 H5 l5 h5 hv6 => ?_⟩
    · walk_at "v"
      refine iteT' rfl ?_
      walk_at "v"
      refine iteT ?_
      walk_at "v"
      rw [hn] at eg
      have eg : judgeGo r oo none ds = false := by rw [judgeGo.eq_def]; exact eg
      rw [← eg]
      exact q _ _ rfl rfl rfl (l13.trans l5) h5
    · obtain ⟨a6, zs, rfl, -, -⟩ := rp_mk (l := true) hv6
      walk_at "v"
      refine iteF' rfl ?_
      walk_at "v"
      rw [hn] at eg
      have go : ∀ (B' H' : Hp) (y5 : Option V), Le B3 B' → Hs B' M' H' → Rp K B' (.ref a6) (tabD r.length oo.length (relOf L)) → judgeGo r oo none ds = judgeGo r oo (some L) (ds.drop (i + 1)) →
          ∃ B0 M0, Le B2 B0 ∧ Hs B0 M0 H' ∧ M0 = M' ∧ ∃ (ah : Option (List (Nat × Nat))) (v4 : V) (z5 z6 : Option V), judgeGo r oo none ds = judgeGo r oo ah (ds.drop (i + 1)) ∧ (match ah with | none => v4 = .non | some A => Rp K B0 v4 (tabD r.length oo.length (relOf A))) ∧
            [some (V.str (S al)), some (V.str (S r)), some (V.str (S oo)), some (V.ref va), some (V.ref a6), y5, some (V.ref a6)] = [some (V.str (S al)), some (V.str (S r)), some (V.str (S oo)), some (V.ref va), some v4, z5, z6] :=
        fun B' H' y5 l h hv e => ⟨B', _, l3.trans l, h, rfl, some L, _, _, _, e, hv, rfl⟩
      cases ah with
      | none =>
        have h4 : v4 = .non := h4
        subst h4
        have eg : judgeGo r oo none ds = judgeGo r oo (some L) (ds.drop (i + 1)) := by rw [judgeGo.eq_def]; exact eg
        refine iteF' rfl ?_
        refine iteF ?_
        walk_at "v"
        exact go B5 H5 _ l5 h5 hv6 eg
      | some A =>
        have h4 : Rp K B3 v4 (tabD r.length oo.length (relOf A)) := h4
        obtain ⟨a4, zs, rfl, -, -⟩ := rp_mk (l := true) h4
        have eg : judgeGo r oo none ds = (answB r.length oo.length (relOf L) (relOf A) && judgeGo r oo (some L) (ds.drop (i + 1))) := by rw [judgeGo.eq_def]; exact eg
        refine iteT' rfl ?_
        walk_at "v"
        refine v_lenS (by rw [S_length]; exact sz_of (by omega)) ?_
        walk_at "v"
        rw [S_length]
        refine ⟨B5, _, .ref a6, .ref a4, r.length, oo.length, relOf L, relOf A, rfl, h5, hv6, h4.up l5, by omega, by omega, fun B6 H6 l6 h6 => ?_⟩
        walk_at "v"
        cases c0 : answB r.length oo.length (relOf L) (relOf A) with
        | false =>
          refine iteT' rfl ?_
          walk_at "v"
          rw [c0, Bool.false_and] at eg
          rw [← eg]
          exact q _ _ rfl rfl rfl (l13.trans (l5.trans l6)) h6
        | true =>
          refine iteF' rfl ?_
          walk_at "v"
          rw [c0, Bool.true_and] at eg
          exact go B6 H6 _ (l5.trans l6) h6 (hv6.up l6) eg
  · rintro σ' B3 M' H3 l3 h3 ⟨rfl, ah, v4, y5, y6, eg, h4, rfl⟩
    rw [hX.length, List.drop_length] at eg
    walk_at "v"
    have eg : judgeGo r oo none ds = true := by rw [eg]; unfold judgeGo; rfl
    rw [← eg]
    exact q _ _ rfl rfl rfl (l12.trans l3) h3
theorem ok_p_is_answered (T : Txt K mg w) : FnOk P w K mg base CX0 4 T.a_p_is_answered T.fd_p_is_answered ["near", "ahead", "width"] (sp_p_is_answered K) := by
  refine T.F_p_is_answered.ok sc_p_is_answered (fun vs H Q E h => ?_) (fun cdv A outer s H vs Q E hr h => ⟨t_p_is_answered K, ?_, pure_p_is_answered vs H Q E h⟩)
  · obtain ⟨B, M, v, v2, n, m, f, g, rfl, _⟩ := h
    rfl
  · exact (pss_cons (ps_set (i := 3) sc_p_is_answered.nd rfl (by first | exact Or.inl rfl | exact Or.inr rfl) (pe_call (ok_p_exchanged_table T) (hr.mono (by decide)) (by rfl) T.g_p_exchanged_table T.F_p_exchanged_table.kp T.b_p_exchanged_table .nil pass0 (pa_cons (pv 1) (pa_cons (pv 2) pa_nil))))
      (pss_cons (ps_for PassesOwn.never rfl (pi_enumQ (by rfl) (T.free_enumerate) (pa_cons (pv 0) pa_nil)) (pg_tup rfl (pgs_cons (pg_name (i := 4) sc_p_is_answered.nd rfl (by first | exact Or.inl rfl | exact Or.inr rfl)) (pgs_cons (pg_name (i := 5) sc_p_is_answered.nd rfl (by first | exact Or.inl rfl | exact Or.inr rfl)) pgs_nil))) (pss_one (ps_for PassesOwn.never rfl (pi_enumQ (by rfl) (T.free_enumerate) (pa_cons (pv 5) pa_nil)) (pg_tup rfl (pgs_cons (pg_name (i := 6) sc_p_is_answered.nd rfl (by first | exact Or.inl rfl | exact Or.inr rfl)) (pgs_cons (pg_name (i := 7) sc_p_is_answered.nd rfl (by first | exact Or.inl rfl | exact Or.inr rfl)) pgs_nil))) (pss_one (ps_if (PW.pt (pw_and (pt_val (pv 7)) (pw_and1 (pt_cmpR op_notN (pe_call (ok_p_lost_move T) hr (by rfl) T.g_p_lost_move T.F_p_lost_move.kp T.b_p_lost_move .nil pass0 (pa_cons (pv 1) (pa_cons (pv 3) (pa_cons (pv 4) (pa_cons (pv 6) pa_nil))))) pe_non (nomark _))))) (pss_one (ps_ret pe_bl)) pss_nil)))))
      (pss_one (ps_ret pe_bl))))
theorem ok_p_judge_levels (T : Txt K mg w) (TX : TxtX T P) : FnOk P w K mg base (L2.CX P w) 6 T.a_p_judge_levels T.fd_p_judge_levels ["alphabet", "row", "other", "levels"] (sp_p_judge_levels T) := by
  refine T.F_p_judge_levels.okX sc_p_judge_levels (fun vs H Q E h => ?_) (fun cdv A outer s H vs Q E hr h => ⟨t_p_judge_levels T E, ?_, pure_p_judge_levels T vs H Q E h⟩)
  · obtain ⟨B, M, va, vr, vo, vl, da, dr, dq, dl, o, rfl, _⟩ := h
    rfl
  · exact (pss_cons (ps_expr (pe_call (ok_p_check_contest T TX) hr (by rfl) T.g_p_check_contest T.F_p_check_contest.kp T.b_p_check_contest .nil (L2.passes_call (L2.takes_of rfl rfl rfl rfl) (fun _ _ _ _ h => h)) (pa_cons (pv 0) (pa_cons (pv 1) (pa_cons (pv 2) pa_nil)))))
      (pss_cons (ps_if (pt_not (pt_val (pe_call (ok_p_is_listed T) (hr.mono (by decide)) (by rfl) T.g_p_is_listed T.F_p_is_listed.kp T.b_p_is_listed .nil pass0 (pa_cons (pv 3) pa_nil)))) (pss_one (ps_ret pe_bl)) pss_nil)
      (pss_cons (ps_set (i := 4) sc_p_judge_levels.nd rfl (by first | exact Or.inl rfl | exact Or.inr rfl) pe_non)
      (pss_cons (ps_for (passes_of rfl) rfl (pi_seq (pv 3)) (pg_name (i := 5) sc_p_judge_levels.nd rfl (by first | exact Or.inl rfl | exact Or.inr rfl)) (pss_cons (ps_set (i := 6) sc_p_judge_levels.nd rfl (by first | exact Or.inl rfl | exact Or.inr rfl) (pe_call (ok_p_table_of_level T) (hr.mono (by decide)) (by rfl) T.g_p_table_of_level T.F_p_table_of_level.kp T.b_p_table_of_level .nil pass0 (pa_cons (pv 1) (pa_cons (pv 2) (pa_cons (pv 5) pa_nil)))))
      (pss_cons (ps_if (PW.pt (pw_or (pt_cmpR op_isN (pv 6) pe_non (nomark _)) (pw_or1 (PW.pt (pw_and (pt_cmpR op_notN (pv 4) pe_non (nomark _)) (pw_and1 (pt_not (pt_val (pe_call (ok_p_is_answered T) (hr.mono (by decide)) (by rfl) T.g_p_is_answered T.F_p_is_answered.kp T.b_p_is_answered .nil pass0 (pa_cons (pv 6) (pa_cons (pv 4) (pa_cons (pe_callB call_len (by rfl) (T.free_len) (by decide +kernel) (pa_cons (pv 2) pa_nil)) pa_nil)))))))))))) (pss_one (ps_ret pe_bl)) pss_nil)
      (pss_one (ps_set (i := 4) sc_p_judge_levels.nd rfl (by first | exact Or.inl rfl | exact Or.inr rfl) (pv 6))))))
      (pss_one (ps_ret pe_bl))))))
end
end K52
set_option Elab.async false
set_option linter.all false
set_option maxRecDepth 100000
set_option maxHeartbeats 4000000
namespace K52
open PySem PySem.Spec PyProof.Rows L2 Sh
open SX (S)
local macro_rules | `(tactic| walk_at "v1") => `(tactic| first
  | with_reducible refine v_seq ?_ | with_reducible refine v_asg ?_ | ((with_reducible refine' v_name ?e ?_); (case e => exact rfl)) | with_reducible refine v_ret ?_ | with_reducible refine v_drop ?_ | with_reducible refine v_next ?_
  | with_reducible refine v_if ?_ | with_reducible refine v_op ?_ | with_reducible refine v_c ?_ | ((with_reducible refine' v_var ?e ?_); (case e => exact rfl))
  | with_reducible refine v_I0 ?_ | with_reducible refine v_test ?_ | with_reducible refine v_B ?_ | with_reducible refine v_bl ?_ | with_reducible refine v_not ?_ | with_reducible refine v_and ?_ | with_reducible refine v_or ?_
  | with_reducible refine v_andV ?_ | with_reducible refine v_orV ?_ | with_reducible refine v_notV ?_ | with_reducible refine v_ife ?_
  | with_reducible refine v_nil ?_ | with_reducible refine v_cons ?_ | with_reducible refine v_tup ?_ | with_reducible refine v_lst ?_ | with_reducible refine v_call ?_ | with_reducible refine v_cb ?_ | with_reducible refine v_int ?_ | with_reducible refine v_abs ?_
  | ((with_reducible refine' v_eq ?e ?_); (case e => exact rfl)) | ((with_reducible refine' v_ne ?e ?_); (case e => exact rfl)) | with_reducible refine v_sub ?_ | with_reducible refine v_isN ?_ | with_reducible refine v_notN ?_
  | with_reducible refine v_part ?_ | with_reducible refine v_nopart ?_ | with_reducible refine v_pint ?_ | with_reducible refine v_inSg ?_ | with_reducible refine v_notInSg ?_
  | ((with_reducible refine' v_ixL ?l ?a ?_); (case l => assumption); (case a => exact at_lit _ rfl)) | ((with_reducible refine' v_ixT ?l ?a ?_); (case l => assumption); (case a => exact at_lit _ rfl))
  | ((with_reducible refine v_I ?c ?_); (case c => (first | omega | (unfold CMul; omega) | (unfold CDivN; omega) | (unfold CPow; omega))))
  | with_reducible refine v_for ?_ | with_reducible refine v_iList ?_ | with_reducible refine v_iTup ?_ | with_reducible refine v_iStr ?_ | with_reducible refine v_iR1 ?_ | with_reducible refine v_iR2 ?_ | with_reducible refine v_atS ?_ | with_reducible refine v_sl ?_ | with_reducible refine v_lc ?_ | with_reducible refine v_yes ?_
  | with_reducible refine v_m1 ?_ | with_reducible refine v_m1S ?_ | with_reducible refine v_bm ?_ | with_reducible refine v_bm0 ?_ | with_reducible refine v_dnewK ?_ | with_reducible refine v_dnewT ?_ | with_reducible refine v_dget ?_ | with_reducible refine v_din ?_ | with_reducible refine v_dnotin ?_ | with_reducible refine v_dput ?_ | with_reducible refine v_chain ?_ | with_reducible refine v_un ?_ | with_reducible refine v_neg ?_
  | with_reducible refine v_brk ?_ | with_reducible refine v_cont ?_
  | with_reducible refine v_fld ?_ | with_reducible refine v_sfld ?_ | with_reducible refine v_meth ?_ | with_reducible refine v_methT ?_ | with_reducible refine v_make ?_ | with_reducible refine v_makeT ?_ | with_reducible refine v_dget2 ?_ | with_reducible refine v_enumS ?_ | with_reducible refine v_enumQ ?_ | with_reducible refine v_lc2 ?_ | with_reducible refine v_isB ?_ | with_reducible refine v_notB ?_)
local macro_rules | `(tactic| walk_at "v") => `(tactic| repeat (walk_at "v1"))
local macro_rules | `(tactic| walk_at "vm") => `(tactic| repeat (first | ((with_reducible refine v_modP ?c ?_); (case c => omega); (intro _ _ _)) | walk_at "v1"))
local macro_rules | `(tactic| walk_at "iv") => `(tactic| (try dsimp only; refine IV.mk (by assumption) (by assumption) ?_))
local macro_rules | `(tactic| walk_at "n") => `(tactic| dsimp only [List.set_cons_zero, List.set_cons_succ])
/-- a source of draws -/
abbrev SrcO (d sd c : Int) : HO := .lst [.int d, .int sd, .int c]
def sp_pick (K : PySem.W.Frag) : Sp := fun vs H Q _ => ∃ (B : Hp) (M : List (Addr × HO)) (a : Addr) (d sd c m : Int), vs = [.ref a, .int m] ∧ Hs B ((a, SrcO d sd c) :: M) H ∧ 0 < m ∧ m < 2 ^ 30 ∧
  ∀ (r d' c' : Int) (H' : Hp), 0 ≤ r → r < m → Hs B ((a, SrcO d' sd c') :: M) H' → Q (.int r) H'
def t_pick (K : PySem.W.Frag) : TS := (tSeq (tIfS (tTest (tOp rGtI (tOp (rIxL K) (tVar 0) (tC (.int 0))) (tC (.int 0)))) (tSeq (tAsg (tOp rModI (tCB rCInt (tCons (tOp (rIxL K) (tVar 0) (tC (.int 0))) tNil)) (tVar 1)) (gName 2))
    (tSeq (tAsg (tOp rFdvI (tOp (rIxL K) (tVar 0) (tC (.int 0))) (tVar 1)) (gSub (tVar 0) (tC (.int 0)) rSetL))
    (tRet (tVar 2)))) tNext)
    (tSeq (tAsg (tOp rAddI (tOp (rIxL K) (tVar 0) (tC (.int 2))) (tC (.int 1))) (gSub (tVar 0) (tC (.int 2)) rSetL))
    (tSeq (tAsg (tOp rModI (tCB rCInt (tCons (tOp rMulI (tOp rAddI (tOp (rIxL K) (tVar 0) (tC (.int 1))) (tOp rMulI (tC (.int 7919)) (tOp (rIxL K) (tVar 0) (tC (.int 2))))) (tC (.int 48271))) tNil)) (tC (.int 2147483647))) (gName 3))
    (tSeq (tAsg (tOp rModI (tCB rCInt (tCons (tOp rAddI (tOp rAddI (tOp rMulI (tVar 3) (tVar 3)) (tOp rMulI (tC (.int 69621)) (tOp (rIxL K) (tVar 0) (tC (.int 2))))) (tOp (rIxL K) (tVar 0) (tC (.int 1)))) tNil)) (tC (.int 2147483629))) (gName 3))
    (tSeq (tAsg (tOp rModI (tCB rCInt (tCons (tOp rAddI (tOp rMulI (tVar 3) (tC (.int 16807))) (tC (.int 11))) tNil)) (tC (.int 2147483647))) (gName 3))
    (tSeq (tAsg (tOp rModI (tCB rCInt (tCons (tOp rAddI (tOp rMulI (tVar 3) (tVar 3)) (tVar 3)) tNil)) (tC (.int 2147483587))) (gName 3))
    (tRet (tOp rModI (tCB rCInt (tCons (tOp rFdvI (tVar 3) (tC (.int 3))) tNil)) (tVar 1)))))))))
theorem pure_pick {K : PySem.W.Frag} (vs : List V) (H : Hp) (Q : VK) (E : XK) (h : sp_pick K vs H Q E) : t_pick K { nx := fun _ H' => Q .non H', rt := Q } (start n_pick vs) H := by
  obtain ⟨B, M, a, d, sd, c, m, rfl, hs, m0, m1, q⟩ := h
  show t_pick K _ [some (V.ref a), some (V.int m), none, none] H
  unfold t_pick
  have e0 : H a = some (.lst [.int d, .int sd, .int c]) := hs.hd
  have l0 : SqL K H a [.int d, .int sd, .int c] := SqL.of e0
  walk_at "v"
  refine ite2 (fun c0 => ?_) (fun c0 => ?_)
  · walk_at "v"
    refine v_setL (j := 0) e0 rfl ?_
    walk_at "v"
    exact q _ (d.fdiv m) c _ (Int.fmod_nonneg_of_pos _ m0) (Int.fmod_lt_of_pos _ m0) (hs.wr _)
  · walk_at "v"
    refine v_setLE (j := 2) (ys := [.int d, .int sd, .int (c + 1)]) e0 rfl rfl ?_
    have hs2 := hs.wr (.lst [.int d, .int sd, .int (c + 1)])
    have e2 := hs2.hd
    have l2 : SqL K (upd H a (.lst [.int d, .int sd, .int (c + 1)])) a [.int d, .int sd, .int (c + 1)] := SqL.of e2
    generalize upd H a (.lst [.int d, .int sd, .int (c + 1)]) = H2 at hs2 e2 l2 ⊢
    walk_at "vm"
    exact q _ d (c + 1) H2 (by omega) (by omega) hs2
section
variable {P : Program} {w : World} {K : PySem.W.Frag} {mg : Str → Option Value} {base : Heap}
theorem ok_pick (T : Txt K mg w) : FnOk P w K mg base CX0 1 T.a_pick T.fd_pick ["_law_source_here", "_law_many"] (sp_pick K) := by
  refine T.F_pick.ok sc_pick (fun vs H Q E h => ?_) (fun cdv A outer s H vs Q E hr h => ⟨t_pick K, ?_, pure_pick vs H Q E h⟩)
  · obtain ⟨B, M, a, d, sd, c, m, rfl, _⟩ := h
    rfl
  · exact (pss_cons (ps_if (pt_cmpR op_gt (pe_ix ix_list (pv 0) pe_int (fun _ _ => rfl)) pe_int (nomark _)) (pss_cons (ps_set (i := 2) sc_pick.nd rfl (by first | exact Or.inl rfl | exact Or.inr rfl) (pe_op op_modN (pe_callTy call_int1 (by rfl) (T.free_int) (by decide +kernel) (pa_cons (pe_ix ix_list (pv 0) pe_int (fun _ _ => rfl)) pa_nil)) (pv 1)))
      (pss_cons (ps_asg (pe_op op_fdivN (pe_ix ix_list (pv 0) pe_int (fun _ _ => rfl)) (pv 1)) (pg_sub (pv 0) pe_int set_list))
      (pss_one (ps_ret (pv 2))))) pss_nil)
      (pss_cons (ps_asg (pe_op op_add (pe_ix ix_list (pv 0) pe_int (fun _ _ => rfl)) pe_int) (pg_sub (pv 0) pe_int set_list))
      (pss_cons (ps_set (i := 3) sc_pick.nd rfl (by first | exact Or.inl rfl | exact Or.inr rfl) (pe_op op_modN (pe_callTy call_int1 (by rfl) (T.free_int) (by decide +kernel) (pa_cons (pe_op op_mul (pe_op op_add (pe_ix ix_list (pv 0) pe_int (fun _ _ => rfl)) (pe_op op_mul pe_int (pe_ix ix_list (pv 0) pe_int (fun _ _ => rfl)))) pe_int) pa_nil)) pe_int))
      (pss_cons (ps_set (i := 3) sc_pick.nd rfl (by first | exact Or.inl rfl | exact Or.inr rfl) (pe_op op_modN (pe_callTy call_int1 (by rfl) (T.free_int) (by decide +kernel) (pa_cons (pe_op op_add (pe_op op_add (pe_op op_mul (pv 3) (pv 3)) (pe_op op_mul pe_int (pe_ix ix_list (pv 0) pe_int (fun _ _ => rfl)))) (pe_ix ix_list (pv 0) pe_int (fun _ _ => rfl))) pa_nil)) pe_int))
      (pss_cons (ps_set (i := 3) sc_pick.nd rfl (by first | exact Or.inl rfl | exact Or.inr rfl) (pe_op op_modN (pe_callTy call_int1 (by rfl) (T.free_int) (by decide +kernel) (pa_cons (pe_op op_add (pe_op op_mul (pv 3) pe_int) pe_int) pa_nil)) pe_int))
      (pss_cons (ps_set (i := 3) sc_pick.nd rfl (by first | exact Or.inl rfl | exact Or.inr rfl) (pe_op op_modN (pe_callTy call_int1 (by rfl) (T.free_int) (by decide +kernel) (pa_cons (pe_op op_add (pe_op op_mul (pv 3) (pv 3)) (pv 3)) pa_nil)) pe_int))
      (pss_one (ps_ret (pe_op op_modN (pe_callTy call_int1 (by rfl) (T.free_int) (by decide +kernel) (pa_cons (pe_op op_fdivN (pv 3) pe_int) pa_nil)) (pv 1))))))))))
end
end K52
set_option Elab.async false
set_option linter.all false
set_option maxRecDepth 100000
set_option maxHeartbeats 4000000
namespace K52
open PySem PySem.Spec PyProof.Rows L2 Sh
open SX (S)
local macro_rules | `(tactic| walk_at "v1") => `(tactic| first
  | with_reducible refine v_seq ?_ | with_reducible refine v_asg ?_ | ((with_reducible refine' v_name ?e ?_); (case e => exact rfl)) | with_reducible refine v_ret ?_ | with_reducible refine v_drop ?_ | with_reducible refine v_next ?_
  | with_reducible refine v_if ?_ | with_reducible refine v_op ?_ | with_reducible refine v_c ?_ | ((with_reducible refine' v_var ?e ?_); (case e => exact rfl))
  | with_reducible refine v_I0 ?_ | with_reducible refine v_test ?_ | with_reducible refine v_B ?_ | with_reducible refine v_bl ?_ | with_reducible refine v_not ?_ | with_reducible refine v_and ?_ | with_reducible refine v_or ?_
  | with_reducible refine v_andV ?_ | with_reducible refine v_orV ?_ | with_reducible refine v_notV ?_ | with_reducible refine v_ife ?_
  | with_reducible refine v_nil ?_ | with_reducible refine v_cons ?_ | with_reducible refine v_tup ?_ | with_reducible refine v_lst ?_ | with_reducible refine v_call ?_ | with_reducible refine v_cb ?_ | with_reducible refine v_int ?_ | with_reducible refine v_abs ?_
  | ((with_reducible refine' v_eq ?e ?_); (case e => exact rfl)) | ((with_reducible refine' v_ne ?e ?_); (case e => exact rfl)) | with_reducible refine v_sub ?_ | with_reducible refine v_isN ?_ | with_reducible refine v_notN ?_
  | with_reducible refine v_part ?_ | with_reducible refine v_nopart ?_ | with_reducible refine v_pint ?_ | with_reducible refine v_inSg ?_ | with_reducible refine v_notInSg ?_
  | ((with_reducible refine' v_ixL ?l ?a ?_); (case l => assumption); (case a => exact at_lit _ rfl)) | ((with_reducible refine' v_ixT ?l ?a ?_); (case l => assumption); (case a => exact at_lit _ rfl))
  | ((with_reducible refine v_I ?c ?_); (case c => (first | omega | (unfold CMul; omega) | (unfold CDivN; omega) | (unfold CPow; omega))))
  | with_reducible refine v_for ?_ | with_reducible refine v_iList ?_ | with_reducible refine v_iTup ?_ | with_reducible refine v_iStr ?_ | with_reducible refine v_iR1 ?_ | with_reducible refine v_iR2 ?_ | with_reducible refine v_atS ?_ | with_reducible refine v_sl ?_ | with_reducible refine v_lc ?_ | with_reducible refine v_yes ?_
  | with_reducible refine v_m1 ?_ | with_reducible refine v_m1S ?_ | with_reducible refine v_bm ?_ | with_reducible refine v_bm0 ?_ | with_reducible refine v_dnewK ?_ | with_reducible refine v_dnewT ?_ | with_reducible refine v_dget ?_ | with_reducible refine v_din ?_ | with_reducible refine v_dnotin ?_ | with_reducible refine v_dput ?_ | with_reducible refine v_chain ?_ | with_reducible refine v_un ?_ | with_reducible refine v_neg ?_
  | with_reducible refine v_brk ?_ | with_reducible refine v_cont ?_
  | with_reducible refine v_fld ?_ | with_reducible refine v_sfld ?_ | with_reducible refine v_meth ?_ | with_reducible refine v_methT ?_ | with_reducible refine v_make ?_ | with_reducible refine v_makeT ?_ | with_reducible refine v_dget2 ?_ | with_reducible refine v_enumS ?_ | with_reducible refine v_enumQ ?_ | with_reducible refine v_lc2 ?_ | with_reducible refine v_isB ?_ | with_reducible refine v_notB ?_)
local macro_rules | `(tactic| walk_at "v") => `(tactic| repeat (walk_at "v1"))
local macro_rules | `(tactic| walk_at "vm") => `(tactic| repeat (first | ((with_reducible refine v_modP ?c ?_); (case c => omega); (intro _ _ _)) | walk_at "v1"))
local macro_rules | `(tactic| walk_at "iv") => `(tactic| (try dsimp only; refine IV.mk (by assumption) (by assumption) ?_))
local macro_rules | `(tactic| walk_at "n") => `(tactic| dsimp only [List.set_cons_zero, List.set_cons_succ])
theorem bits_le {i : Int} {n : Nat} (h : Builtin.Int.intBits i ≤ n) : i.natAbs < 2 ^ n := by
  unfold Builtin.Int.intBits at h
  split at h
  · rename_i e
    have e' : i = 0 := by simpa using e
    subst e'
    simp
    exact Nat.pos_of_ne_zero (by simp)
  · exact (Nat.log2_lt (by rename_i e; intro z; apply e; simp; omega)).mp (by omega)
theorem bits_of {i : Int} {n : Nat} (h : i.natAbs < 2 ^ n) : Builtin.Int.intBits i ≤ n := by
  unfold Builtin.Int.intBits
  split
  · omega
  · rename_i e
    have e' : i.natAbs ≠ 0 := by intro z; apply e; simp; omega
    have := (Nat.log2_lt e').mpr h
    omega
theorem bits_half {i : Int} {n k : Nat} (h0 : 0 ≤ i) (h : Builtin.Int.intBits i ≤ n) : Builtin.Int.intBits (i / 2 ^ k) ≤ n := by
  refine bits_of (Nat.lt_of_le_of_lt ?_ (bits_le h))
  obtain ⟨m, rfl⟩ := Int.eq_ofNat_of_zero_le h0
  have e : ((m : Int) / 2 ^ k) = ((m / 2 ^ k : Nat) : Int) := by simp
  rw [e]
  simp only [Int.natAbs_natCast]
  exact Nat.div_le_self _ _
theorem bits_abs {i : Int} : Builtin.Int.intBits (if i < 0 then -i else i) = Builtin.Int.intBits i := by
  by_cases h : i < 0
  · rw [if_pos h]
    unfold Builtin.Int.intBits
    simp
  · rw [if_neg h]
theorem abs_pos (i : Int) : 0 ≤ (if i < 0 then -i else i) := by split <;> omega
def sp_source (K : PySem.W.Frag) : Sp := fun vs H Q _ => ∃ (B : Hp) (M : List (Addr × HO)) (a : Addr) (ns : List Int) (pl : Int), vs = [.ref a, .int pl] ∧ Hs B M H ∧ SqL K B a (ns.map V.int) ∧ ns.length ≤ 63 ∧ (∀ z ∈ ns, Builtin.Int.intBits z ≤ 1048576) ∧ 0 ≤ pl ∧ pl ≤ 100 ∧
  ∀ (p : Addr) (d sd c : Int) (H' : Hp), Hs B ((p, SrcO d sd c) :: M) H' → Q (.ref p) H'
def t_source (K : PySem.W.Frag) : TS := (tSeq (tAsg (tIf (tTest (tOp rLtI (tVar 1) (tCB (rCLen K) (tCons (tVar 0) tNil)))) (tOp (rIxL K) (tVar 0) (tVar 1)) (tOp rAddI (tOp rMulI (tC (.int 5)) (tVar 1)) (tC (.int 3)))) (gName 2))
    (tSeq (tAsg (tOp rAddI (tOp rMulI (tC (.int 1009)) (tVar 1)) (tC (.int 17))) (gName 3))
    (tSeq (tFor (iList K (tSl (rSlL K) (tVar 0) tNoPart (tPart (tC (.int 3))))) (gName 4) (tAsg (tOp rModI (tCB rCInt (tCons (tOp rAddI (tOp rMulI (tVar 3) (tC (.int 31))) (tOp rModI (tCB rCInt (tCons (tVar 4) tNil)) (tC (.int 2147483629)))) tNil)) (tC (.int 2147483629))) (gName 3)))
    (tSeq (tAsg (tOp rModI (tCB rCInt (tCons (tOp rAddI (tOp rMulI (tVar 3) (tC (.int 31))) (tOp rModI (tCB rCInt (tCons (tVar 2) tNil)) (tC (.int 2147483587)))) tNil)) (tC (.int 2147483629))) (gName 3))
    (tSeq (tAsg (tCB rCAbs (tCons (tVar 2) tNil)) (gName 5))
    (tSeq (tIfS (tTest (tOp rLtI (tVar 5) (tOp rPowI (tC (.int 10)) (tC (.int 18))))) (tRet (tLst (tCons (tC (.int 0)) (tCons (tVar 3) (tCons (tC (.int 0)) tNil))))) tNext)
    (tSeq (tIfS (tTest (tOp rGtI (tOp rShrI (tVar 5) (tC (.int 3000))) (tC (.int 0)))) (tAsg (tOp rSubI (tVar 5) (tOp rShlI (tOp rShrI (tVar 5) (tC (.int 3000))) (tC (.int 3000)))) (gName 5)) tNext)
    (tRet (tLst (tCons (tVar 5) (tCons (tVar 3) (tCons (tC (.int 0)) tNil))))))))))))
theorem pure_source {K : PySem.W.Frag} (vs : List V) (H : Hp) (Q : VK) (E : XK) (h : sp_source K vs H Q E) : t_source K { nx := fun _ H' => Q .non H', rt := Q } (start n_source vs) H := by
  obtain ⟨B, M, a, ns, pl, rfl, hs, hS, hl, hb, p0, p1, q⟩ := h
  show t_source K _ [some (V.ref a), some (V.int pl), none, none, none, none] H
  unfold t_source
  have l0 : SqL K H a (ns.map V.int) := hs.l hS
  refine v_seqP (fun σ' H' => Hs B M H' ∧ ∃ cell : Int, Builtin.Int.intBits cell ≤ 1048576 ∧ σ' = [some (V.ref a), some (V.int pl), some (V.int cell), none, none, none]) (fun N hN => ?_) ?_
  · walk_at "v"
    refine v_lenL l0 ?_
    walk_at "v"
    refine ite2 (fun c0 => ?_) (fun c0 => ?_)
    · have c1 := of_decide_eq_true c0
      have h2 : pl.toNat < ns.length := by
        rw [List.length_map] at c1
        omega
      walk_at "v"
      refine v_ixL (v := .int ns[pl.toNat]) l0 (at_of (j := pl.toNat) (by omega) ?_) ?_
      · rw [List.getElem?_map, List.getElem?_eq_getElem h2]
        rfl
      · walk_at "v"
        exact hN _ _ ⟨hs, _, hb _ (List.getElem_mem _), rfl⟩
    · walk_at "v"
      exact hN _ _ ⟨hs, _, bits_of (Nat.lt_of_lt_of_le (show (5 * pl + 3).natAbs < 2 ^ 20 by omega) (Nat.pow_le_pow_right (by decide) (by decide))), rfl⟩
  clear hs l0
  rintro _ H ⟨hs, cell, hcb, rfl⟩
  have l0 : SqL K H a (ns.map V.int) := hs.l hS
  walk_at "v"
  refine v_slL l0 (v_newB hs fun c B1 H1 l1 hs1 e1 => ?_)
  refine v_atL (SqL.of (hs1.sub _ _ e1)) ?_
  rw [show ((some 3 : Option Int)) = some ((3 : Nat) : Int) from rfl, cut_to, ← List.map_take] at e1
  refine v_forL (SqL.of e1) hs1 (fun i σ B' M' => M' = M ∧ ∃ sd y, σ = [some (V.ref a), some (V.int pl), some (V.int cell), some (V.int sd), y, none]) ⟨rfl, _, _, rfl⟩ ?_ ?_
  · rintro i x σ' B' M' H' hi hx l h ⟨rfl, sd, y, rfl⟩
    obtain ⟨z, hz, rfl⟩ := map_some hx
    walk_at "vm"
    walk_at "iv"
    exact ⟨rfl, _, _, rfl⟩
  · rintro σ' B' M' H' l h ⟨rfl, sd, y, rfl⟩
    have h := h.le (l1.trans l)
    walk_at "vm"
    refine ite2 (fun c0 => ?_) (fun c0 => ?_)
    · walk_at "v"
      refine v_size (by show 3 ≤ sizeLine; decide) (v_newM h fun p H2 h2 => ?_)
      exact q _ _ _ _ _ h2
    · walk_at "v"
      refine ite2 (fun c1 => ?_) (fun c1 => ?_)
      · walk_at "v"
        refine v_I ⟨by decide, ?_⟩ ?_
        · have hz := bits_half (k := 3000) (abs_pos cell) (Nat.le_trans (Nat.le_of_eq bits_abs) hcb)
          show ((Builtin.Int.intBits ((if cell < 0 then -cell else cell) / 2 ^ 3000) : Nat) : Int) + 3000 ≤ 2 ^ 27
          generalize (Builtin.Int.intBits ((if cell < 0 then -cell else cell) / 2 ^ 3000)) = bb at hz ⊢
          omega
        walk_at "v"
        refine v_size (by show 3 ≤ sizeLine; decide) (v_newM h fun p H2 h2 => ?_)
        exact q _ _ _ _ _ h2
      · walk_at "v"
        refine v_size (by show 3 ≤ sizeLine; decide) (v_newM h fun p H2 h2 => ?_)
        exact q _ _ _ _ _ h2
section
variable {P : Program} {w : World} {K : PySem.W.Frag} {mg : Str → Option Value} {base : Heap}
theorem ok_source (T : Txt K mg w) : FnOk P w K mg base CX0 1 T.a_source T.fd_source ["_law_script", "_law_place"] (sp_source K) := by
  refine T.F_source.ok sc_source (fun vs H Q E h => ?_) (fun cdv A outer s H vs Q E hr h => ⟨t_source K, ?_, pure_source vs H Q E h⟩)
  · obtain ⟨B, M, a, ns, pl, rfl, _⟩ := h
    rfl
  · exact (pss_cons (ps_set (i := 2) sc_source.nd rfl (by first | exact Or.inl rfl | exact Or.inr rfl) (pe_ifExp (pt_cmpR op_lt (pv 1) (pe_callB call_len (by rfl) (T.free_len) (by decide +kernel) (pa_cons (pv 0) pa_nil)) (nomark _)) (pe_ix ix_list (pv 0) (pv 1) (fun _ _ => rfl)) (pe_op op_add (pe_op op_mul pe_int (pv 1)) pe_int)))
      (pss_cons (ps_set (i := 3) sc_source.nd rfl (by first | exact Or.inl rfl | exact Or.inr rfl) (pe_op op_add (pe_op op_mul pe_int (pv 1)) pe_int))
      (pss_cons (ps_for PassesOwn.never rfl (pi_list (pe_slice sl_list (pv 0) po_none (po_some pe_int))) (pg_name (i := 4) sc_source.nd rfl (by first | exact Or.inl rfl | exact Or.inr rfl)) (pss_one (ps_set (i := 3) sc_source.nd rfl (by first | exact Or.inl rfl | exact Or.inr rfl) (pe_op op_modN (pe_callTy call_int1 (by rfl) (T.free_int) (by decide +kernel) (pa_cons (pe_op op_add (pe_op op_mul (pv 3) pe_int) (pe_op op_modN (pe_callTy call_int1 (by rfl) (T.free_int) (by decide +kernel) (pa_cons (pv 4) pa_nil)) pe_int)) pa_nil)) pe_int))))
      (pss_cons (ps_set (i := 3) sc_source.nd rfl (by first | exact Or.inl rfl | exact Or.inr rfl) (pe_op op_modN (pe_callTy call_int1 (by rfl) (T.free_int) (by decide +kernel) (pa_cons (pe_op op_add (pe_op op_mul (pv 3) pe_int) (pe_op op_modN (pe_callTy call_int1 (by rfl) (T.free_int) (by decide +kernel) (pa_cons (pv 2) pa_nil)) pe_int)) pa_nil)) pe_int))
      (pss_cons (ps_set (i := 5) sc_source.nd rfl (by first | exact Or.inl rfl | exact Or.inr rfl) (pe_callB call_abs (by rfl) (T.free_abs) (by decide +kernel) (pa_cons (pv 2) pa_nil)))
      (pss_cons (ps_if (pt_cmpR op_lt (pv 5) (pe_op op_pow pe_int pe_int) (nomark _)) (pss_one (ps_ret (pe_lst (pa_cons pe_int (pa_cons (pv 3) (pa_cons pe_int pa_nil)))))) pss_nil)
      (pss_cons (ps_if (pt_cmpR op_gt (pe_op op_shr (pv 5) pe_int) pe_int (nomark _)) (pss_one (ps_set (i := 5) sc_source.nd rfl (by first | exact Or.inl rfl | exact Or.inr rfl) (pe_op op_sub (pv 5) (pe_op op_shlW (pe_op op_shr (pv 5) pe_int) pe_int)))) pss_nil)
      (pss_one (ps_ret (pe_lst (pa_cons (pv 5) (pa_cons (pv 3) (pa_cons pe_int pa_nil)))))))))))))
end
end K52
set_option Elab.async false
set_option linter.all false
set_option maxRecDepth 100000
set_option maxHeartbeats 4000000
namespace K52
open PySem PySem.Spec PyProof.Rows L2 Sh
open SX (S)
local macro_rules | `(tactic| walk_at "v1") => `(tactic| first
  | with_reducible refine v_seq ?_ | with_reducible refine v_asg ?_ | ((with_reducible refine' v_name ?e ?_); (case e => exact rfl)) | with_reducible refine v_ret ?_ | with_reducible refine v_drop ?_ | with_reducible refine v_next ?_
  | with_reducible refine v_if ?_ | with_reducible refine v_op ?_ | with_reducible refine v_c ?_ | ((with_reducible refine' v_var ?e ?_); (case e => exact rfl))
  | with_reducible refine v_I0 ?_ | with_reducible refine v_test ?_ | with_reducible refine v_B ?_ | with_reducible refine v_bl ?_ | with_reducible refine v_not ?_ | with_reducible refine v_and ?_ | with_reducible refine v_or ?_
  | with_reducible refine v_andV ?_ | with_reducible refine v_orV ?_ | with_reducible refine v_notV ?_ | with_reducible refine v_ife ?_
  | with_reducible refine v_nil ?_ | with_reducible refine v_cons ?_ | with_reducible refine v_tup ?_ | with_reducible refine v_lst ?_ | with_reducible refine v_call ?_ | with_reducible refine v_cb ?_ | with_reducible refine v_int ?_ | with_reducible refine v_abs ?_
  | ((with_reducible refine' v_eq ?e ?_); (case e => exact rfl)) | ((with_reducible refine' v_ne ?e ?_); (case e => exact rfl)) | with_reducible refine v_sub ?_ | with_reducible refine v_isN ?_ | with_reducible refine v_notN ?_
  | with_reducible refine v_part ?_ | with_reducible refine v_nopart ?_ | with_reducible refine v_pint ?_ | with_reducible refine v_inSg ?_ | with_reducible refine v_notInSg ?_
  | ((with_reducible refine' v_ixL ?l ?a ?_); (case l => assumption); (case a => exact at_lit _ rfl)) | ((with_reducible refine' v_ixT ?l ?a ?_); (case l => assumption); (case a => exact at_lit _ rfl))
  | ((with_reducible refine v_I ?c ?_); (case c => (first | omega | (unfold CMul; omega) | (unfold CDivN; omega) | (unfold CPow; omega))))
  | with_reducible refine v_for ?_ | with_reducible refine v_iList ?_ | with_reducible refine v_iTup ?_ | with_reducible refine v_iStr ?_ | with_reducible refine v_iR1 ?_ | with_reducible refine v_iR2 ?_ | with_reducible refine v_atS ?_ | with_reducible refine v_sl ?_ | with_reducible refine v_lc ?_ | with_reducible refine v_yes ?_
  | with_reducible refine v_m1 ?_ | with_reducible refine v_m1S ?_ | with_reducible refine v_bm ?_ | with_reducible refine v_bm0 ?_ | with_reducible refine v_dnewK ?_ | with_reducible refine v_dnewT ?_ | with_reducible refine v_dget ?_ | with_reducible refine v_din ?_ | with_reducible refine v_dnotin ?_ | with_reducible refine v_dput ?_ | with_reducible refine v_chain ?_ | with_reducible refine v_un ?_ | with_reducible refine v_neg ?_
  | with_reducible refine v_brk ?_ | with_reducible refine v_cont ?_
  | with_reducible refine v_fld ?_ | with_reducible refine v_sfld ?_ | with_reducible refine v_meth ?_ | with_reducible refine v_methT ?_ | with_reducible refine v_make ?_ | with_reducible refine v_makeT ?_ | with_reducible refine v_dget2 ?_ | with_reducible refine v_enumS ?_ | with_reducible refine v_enumQ ?_ | with_reducible refine v_lc2 ?_ | with_reducible refine v_isB ?_ | with_reducible refine v_notB ?_)
local macro_rules | `(tactic| walk_at "v") => `(tactic| repeat (walk_at "v1"))
local macro_rules | `(tactic| walk_at "vm") => `(tactic| repeat (first | ((with_reducible refine v_modP ?c ?_); (case c => omega); (intro _ _ _)) | walk_at "v1"))
local macro_rules | `(tactic| walk_at "iv") => `(tactic| (try dsimp only; refine IV.mk (by assumption) (by assumption) ?_))
local macro_rules | `(tactic| walk_at "n") => `(tactic| dsimp only [List.set_cons_zero, List.set_cons_succ])
def sp_word (K : PySem.W.Frag) : Sp := fun vs H Q _ => ∃ (B : Hp) (M : List (Addr × HO)) (a : Addr) (d sd c : Int) (al : List Nat) (most : Int), vs = [.ref a, .str (S al), .int most] ∧ Hs B ((a, SrcO d sd c) :: M) H ∧ 1 ≤ al.length ∧ al.length ≤ 8 ∧ 0 ≤ most ∧ most ≤ 100 ∧
  ∀ (r : List Nat) (d' c' : Int) (B' H' : Hp), Le B B' → (∀ x ∈ r, x ∈ al) → (r.length : Int) ≤ most → Hs B' ((a, SrcO d' sd c') :: M) H' → Q (.str (S r)) H'
def t_word (K : PySem.W.Frag) : TS := (tSeq (tAsg (tCall (sp_pick K) [] E0 (tCons (tVar 0) (tCons (tOp rAddI (tVar 2) (tC (.int 1))) tNil))) (gName 3))
    (tRet (tM1 (rJoin K) (tC (.str "")) (tLc (iRng1 (tCons (tVar 3) tNil)) (gName 4) tYes (tOp rIxS (tVar 1) (tCall (sp_pick K) [] E0 (tCons (tVar 0) (tCons (tCB (rCLen K) (tCons (tVar 1) tNil)) tNil)))) [4]))))
theorem pure_word {K : PySem.W.Frag} (vs : List V) (H : Hp) (Q : VK) (E : XK) (h : sp_word K vs H Q E) : t_word K { nx := fun _ H' => Q .non H', rt := Q } (start n_word vs) H := by
  obtain ⟨B, M, a, d, sd, c, al, most, rfl, hs, a1, a8, m0, m1, q⟩ := h
  show t_word K _ [some (V.ref a), some (V.str (S al)), some (V.int most), none, none] H
  unfold t_word
  walk_at "v"
  refine ⟨B, M, a, d, sd, c, _, rfl, hs, by omega, by omega, fun n d' c' H' n0 n1 hs' => ?_⟩
  clear hs
  walk_at "v"
  refine v_atR1 (by omega) ?_
  refine v_lcR hs' (fun i acc B' M' => ∃ d c, M' = (a, SrcO d sd c) :: M ∧ ∃ l : List Nat, acc = l.map (fun c => V.str (S [c])) ∧ (∀ x ∈ l, x ∈ al) ∧ l.length = i) ⟨_, _, rfl, [], rfl, by simp, rfl⟩ ?_ ?_
  · rintro i p acc B1 M1 H1 hi ha l1 h1 ⟨d1, c1, rfl, l, rfl, hl, rfl⟩
    walk_at "v"
    refine ⟨rfl, ?_⟩
    walk_at "v"
    refine iteT ?_
    walk_at "v"
    refine v_lenS (by rw [S_length]; exact sz_of (by omega)) ?_
    walk_at "v"
    refine ⟨B1, _, a, d1, sd, c1, _, rfl, h1.sw, by rw [S_length]; omega, by rw [S_length]; omega, fun k d2 c2 H2 k0 k1 h2 => ?_⟩
    rw [S_length] at k1
    have hk : k.toNat < al.length := by omega
    have h3 : atI (S al).cps.toList k = some al[k.toNat] := at_k k0 (List.getElem?_eq_getElem hk)
    refine v_ixS (by rw [S_length]; exact sz_of (by omega)) h3 ?_
    refine IE.mk ha hi (by omega) l1 h2.sw ?_
    refine ⟨_, _, rfl, l ++ [al[k.toNat]], by simp, fun x hx => ?_, by simp⟩
    rcases List.mem_append.mp hx with hx | hx
    · exact hl x hx
    · rw [List.mem_singleton.mp hx]
      exact List.getElem_mem _
  · rintro p acc B1 M1 H1 ha l1 h1 ⟨d1, c1, rfl, l, rfl, hl, hn⟩
    walk_at "v"
    refine v_join (SqL.of h1.hd) (by omega) ?_
    exact q l d1 c1 B1 H1 l1 hl (by omega) h1.drop
section
variable {P : Program} {w : World} {K : PySem.W.Frag} {mg : Str → Option Value} {base : Heap}
theorem ok_word (T : Txt K mg w) : FnOk P w K mg base CX0 2 T.a_word T.fd_word ["_law_source_here", "_law_alphabet_here", "_law_most"] (sp_word K) := by
  refine T.F_word.ok sc_word (fun vs H Q E h => ?_) (fun cdv A outer s H vs Q E hr h => ⟨t_word K, ?_, pure_word vs H Q E h⟩)
  · obtain ⟨B, M, a, d, sd, c, al, m, rfl, _⟩ := h
    rfl
  · exact (pss_cons (ps_set (i := 3) sc_word.nd rfl (by first | exact Or.inl rfl | exact Or.inr rfl) (pe_call (ok_pick T) hr (by rfl) T.g_pick T.F_pick.kp T.b_pick .nil pass0 (pa_cons (pv 0) (pa_cons (pe_op op_add (pv 2) pe_int) pa_nil))))
      (pss_one (ps_ret (pe_join pe_str (pe_lc (own := [("_law_k", 4)]) (g := (gName 4)) (tt := tYes) rfl sc_word.nd (pi_range1 (by rfl) (T.free_range) (pa_cons (pv 3) pa_nil)) (blkOk_by (own := [("_law_k", 4)]) (N := n_word) (sc := defScope s_word) (by decide +kernel)) (fun _ _ _ _ _ => (pg_name (i := 4) sc_word.nd rfl (Or.inl rfl))) (fun _ _ _ _ _ => pts_nil) (fun _ _ _ _ _ => (pe_ix ix_str (pv 1) (pe_call (ok_pick T) hr (by rfl) T.g_pick T.F_pick.kp T.b_pick .nil pass0 (pa_cons (pv 0) (pa_cons (pe_callB call_len (by rfl) (T.free_len) (by decide +kernel) (pa_cons (pv 1) pa_nil)) pa_nil))) (fun _ _ => rfl))))))))
end
end K52
set_option Elab.async false
set_option linter.all false
set_option maxRecDepth 100000
set_option maxHeartbeats 2000000
/-! texts as lists of letters: parts, sums, times -/
namespace Sh
open PySem PySem.Spec PyProof.Rows L2
open SX (S)
theorem cutS_cut (l : List Nat) (lo hi : Option Int) : cutS (S l) lo hi = S ((l.drop (HT.sIx l.length 0 lo)).take (HT.sIx l.length l.length hi - HT.sIx l.length 0 lo)) := by
  unfold cutS
  rw [S_length, S_tl]
theorem cutS_to (l : List Nat) (k : Nat) : cutS (S l) none (some (k : Int)) = S (l.take k) := by
  rw [cutS_cut, HT.sIx_none, HT.sIx_nat, List.drop_zero, Nat.sub_zero]
  congr 1
  rw [List.take_eq_take_iff]
  omega
theorem cutS_from (l : List Nat) (k : Nat) : cutS (S l) (some (k : Int)) none = S (l.drop k) := by
  rw [cutS_cut, HT.sIx_nat, HT.sIx_none]
  congr 1
  by_cases h : k ≤ l.length
  · rw [Nat.min_eq_left h]
    exact List.take_of_length_le (by simp)
  · rw [Nat.min_eq_right (by omega), List.drop_eq_nil_of_le (Nat.le_refl _), List.drop_eq_nil_of_le (by omega), List.take_nil]
theorem cutS_mid (l : List Nat) (k m : Nat) : cutS (S l) (some (k : Int)) (some (m : Int)) = S ((l.drop k).take (m - k)) := by
  rw [cutS_cut, HT.sIx_nat, HT.sIx_nat]
  congr 1
  by_cases h : k ≤ l.length
  · rw [Nat.min_eq_left h, List.take_eq_take_iff, List.length_drop]
    omega
  · have e1 : min k l.length = l.length := by omega
    rw [e1, List.drop_eq_nil_of_le (Nat.le_refl _), List.drop_eq_nil_of_le (show l.length ≤ k by omega), List.take_nil, List.take_nil]
theorem S_app (a b : List Nat) : S a ++ S b = S (a ++ b) := by
  show (⟨a.toArray ++ b.toArray⟩ : Str) = ⟨(a ++ b).toArray⟩
  rw [List.append_toArray]
def rep (l : List Nat) (n : Nat) : List Nat := (List.replicate n l).flatten
theorem rep_len (l : List Nat) (n : Nat) : (rep l n).length = n * l.length := by
  unfold rep
  induction n with
  | zero => simp
  | succ n ih => rw [List.replicate_succ, List.flatten_cons, List.length_append, ih, Nat.succ_mul, Nat.add_comm]
theorem mem_rep {l : List Nat} {n c : Nat} (h : c ∈ rep l n) : c ∈ l := by
  unfold rep at h
  obtain ⟨t, ht, hc⟩ := List.mem_flatten.mp h
  rw [(List.mem_replicate.mp ht).2] at hc
  exact hc
theorem mul_S (l : List Nat) (n : Nat) : Txt.mul (S l) (n : Int) = S (rep l n) := by
  unfold Txt.mul
  split
  · have : n = 0 := by omega
    subst this
    rfl
  · split
    · rename_i h
      rw [Bool.or_eq_true] at h
      rcases h with h | h
      · have : n = 1 := by have : (n : Int) = 1 := by simpa using h
                           omega
        subst this
        show S l = S _
        unfold rep
        simp
      · have : l = [] := by
          have := eq_of_beq h
          rw [S_length] at this
          exact List.length_eq_zero_iff.mp this
        subst this
        unfold rep
        congr 1
        simp
    · show (⟨_⟩ : Str) = ⟨_⟩
      congr 1
      rw [Int.toNat_natCast]
      have : ∀ (k : Nat) (a : Array Nat), (List.replicate k (S l).cps).foldl (· ++ ·) a = a ++ (rep l k).toArray := by
        intro k
        induction k with
        | zero => intro a; simp [rep]
        | succ k ih =>
          intro a
          rw [List.replicate_succ, List.foldl_cons, ih, Array.append_assoc]
          congr 1
          show l.toArray ++ (rep l k).toArray = _
          rw [List.append_toArray]
          rfl
      rw [this]
      simp
theorem mulOk_S {l : List Nat} {n : Nat} (h1 : l.length ≤ 1000) (h2 : n ≤ 1000) : MulOk (S l) (n : Int) := by
  refine ⟨?_, fun h _ => ?_, fun _ _ => ?_⟩
  · rw [Bool.or_eq_false_iff]
    exact ⟨decide_eq_false (by omega), decide_eq_false (by omega)⟩
  · rw [S_length]
    have : (1000 : Int) ≤ (2 ^ 63 - 1) / (n : Int) := by
      refine Int.le_ediv_of_mul_le (by omega) ?_
      omega
    omega
  · rw [S_length, Int.toNat_natCast]
    have : l.length * n ≤ 1000 * 1000 := Nat.mul_le_mul h1 h2
    have h3 := sz_of (n := l.length * n) (by omega)
    exact decide_eq_false (by omega)
section
variable {K : PySem.W.Frag} {H : Hp} {Q : VK}
theorem v_slTo {l : List Nat} {k : Int} (h0 : 0 ≤ k) (hl : l.length ≤ 1000000) (q : Q (.str (S (l.take k.toNat))) H) : rSlS (.str (S l)) none (some k) H Q := by
  obtain ⟨n, rfl⟩ := Int.eq_ofNat_of_zero_le h0
  refine v_slS (sz_of (by rw [S_length]; exact hl)) ?_
  rw [cutS_to]
  exact q
theorem v_slFrom {l : List Nat} {k : Int} (h0 : 0 ≤ k) (hl : l.length ≤ 1000000) (q : Q (.str (S (l.drop k.toNat))) H) : rSlS (.str (S l)) (some k) none H Q := by
  obtain ⟨n, rfl⟩ := Int.eq_ofNat_of_zero_le h0
  refine v_slS (sz_of (by rw [S_length]; exact hl)) ?_
  rw [cutS_from]
  exact q
theorem v_slMid {l : List Nat} {k m : Int} (h0 : 0 ≤ k) (h1 : 0 ≤ m) (hl : l.length ≤ 1000000) (q : Q (.str (S ((l.drop k.toNat).take (m.toNat - k.toNat)))) H) : rSlS (.str (S l)) (some k) (some m) H Q := by
  obtain ⟨n, rfl⟩ := Int.eq_ofNat_of_zero_le h0
  obtain ⟨n2, rfl⟩ := Int.eq_ofNat_of_zero_le h1
  refine v_slS (sz_of (by rw [S_length]; exact hl)) ?_
  rw [cutS_mid]
  exact q
theorem v_addL {a b : List Nat} (hl : a.length + b.length ≤ 1000000) (q : Q (.str (S (a ++ b))) H) : rAddS (.str (S a)) (.str (S b)) H Q := by
  refine v_addS (sz_of (by rw [S_length, S_length]; exact hl)) ?_
  rw [S_app]
  exact q
theorem v_repL {l : List Nat} {k : Int} (h0 : 0 ≤ k) (h1 : l.length ≤ 1000) (h2 : k ≤ 1000) (q : Q (.str (S (rep l k.toNat))) H) : rRepS (.str (S l)) (.int k) H Q := by
  obtain ⟨n, rfl⟩ := Int.eq_ofNat_of_zero_le h0
  refine v_repS (mulOk_S h1 (by omega)) ?_
  rw [mul_S]
  exact q
theorem v_ixT1 {l : List Nat} {k : Int} (h0 : 0 ≤ k) (h1 : k < (l.length : Int)) (hl : l.length ≤ 1000000) (q : Q (.str (S [l.getD k.toNat 0])) H) : rIxS (.str (S l)) (.int k) H Q := by
  refine v_ixS (sz_of (by rw [S_length]; exact hl)) (c := l.getD k.toNat 0) (at_k h0 ?_) q
  have : k.toNat < l.length := by omega
  show l[k.toNat]? = _
  rw [List.getD_eq_getElem?_getD, List.getElem?_eq_getElem this]
  rfl
end
theorem getD_mem {l : List Nat} {k : Nat} (h : k < l.length) : l.getD k 0 ∈ l := by
  rw [List.getD_eq_getElem?_getD, List.getElem?_eq_getElem h]
  exact List.getElem_mem _
end Sh
set_option Elab.async false
set_option linter.all false
set_option maxRecDepth 100000
set_option maxHeartbeats 8000000
namespace K52
open PySem PySem.Spec PyProof.Rows L2 Sh
open SX (S)
local macro_rules | `(tactic| walk_at "v1") => `(tactic| first
  | with_reducible refine v_seq ?_ | with_reducible refine v_asg ?_ | ((with_reducible refine' v_name ?e ?_); (case e => exact rfl)) | with_reducible refine v_ret ?_ | with_reducible refine v_drop ?_ | with_reducible refine v_next ?_
  | with_reducible refine v_if ?_ | with_reducible refine v_op ?_ | with_reducible refine v_c ?_ | ((with_reducible refine' v_var ?e ?_); (case e => exact rfl))
  | with_reducible refine v_I0 ?_ | with_reducible refine v_test ?_ | with_reducible refine v_B ?_ | with_reducible refine v_bl ?_ | with_reducible refine v_not ?_ | with_reducible refine v_and ?_ | with_reducible refine v_or ?_
  | with_reducible refine v_andV ?_ | with_reducible refine v_orV ?_ | with_reducible refine v_notV ?_ | with_reducible refine v_ife ?_
  | with_reducible refine v_nil ?_ | with_reducible refine v_cons ?_ | with_reducible refine v_tup ?_ | with_reducible refine v_lst ?_ | with_reducible refine v_call ?_ | with_reducible refine v_cb ?_ | with_reducible refine v_int ?_ | with_reducible refine v_abs ?_
  | ((with_reducible refine' v_eq ?e ?_); (case e => exact rfl)) | ((with_reducible refine' v_ne ?e ?_); (case e => exact rfl)) | with_reducible refine v_sub ?_ | with_reducible refine v_isN ?_ | with_reducible refine v_notN ?_
  | with_reducible refine v_part ?_ | with_reducible refine v_nopart ?_ | with_reducible refine v_pint ?_ | with_reducible refine v_inSg ?_ | with_reducible refine v_notInSg ?_
  | ((with_reducible refine' v_ixL ?l ?a ?_); (case l => assumption); (case a => exact at_lit _ rfl)) | ((with_reducible refine' v_ixT ?l ?a ?_); (case l => assumption); (case a => exact at_lit _ rfl))
  | ((with_reducible refine v_I ?c ?_); (case c => (first | omega | (unfold CMul; omega) | (unfold CDivN; omega) | (unfold CPow; omega))))
  | with_reducible refine v_for ?_ | with_reducible refine v_iList ?_ | with_reducible refine v_iTup ?_ | with_reducible refine v_iStr ?_ | with_reducible refine v_iR1 ?_ | with_reducible refine v_iR2 ?_ | with_reducible refine v_atS ?_ | with_reducible refine v_sl ?_ | with_reducible refine v_lc ?_ | with_reducible refine v_yes ?_
  | with_reducible refine v_m1 ?_ | with_reducible refine v_m1S ?_ | with_reducible refine v_bm ?_ | with_reducible refine v_bm0 ?_ | with_reducible refine v_dnewK ?_ | with_reducible refine v_dnewT ?_ | with_reducible refine v_dget ?_ | with_reducible refine v_din ?_ | with_reducible refine v_dnotin ?_ | with_reducible refine v_dput ?_ | with_reducible refine v_chain ?_ | with_reducible refine v_un ?_ | with_reducible refine v_neg ?_
  | with_reducible refine v_brk ?_ | with_reducible refine v_cont ?_
  | with_reducible refine v_fld ?_ | with_reducible refine v_sfld ?_ | with_reducible refine v_meth ?_ | with_reducible refine v_methT ?_ | with_reducible refine v_make ?_ | with_reducible refine v_makeT ?_ | with_reducible refine v_dget2 ?_ | with_reducible refine v_enumS ?_ | with_reducible refine v_enumQ ?_ | with_reducible refine v_lc2 ?_ | with_reducible refine v_isB ?_ | with_reducible refine v_notB ?_ | with_reducible refine v_lstRg2 ?_ | with_reducible refine v_lstRg3 ?_)
local macro_rules | `(tactic| walk_at "v") => `(tactic| repeat (walk_at "v1"))
local macro_rules | `(tactic| walk_at "vm") => `(tactic| repeat (first | ((with_reducible refine v_modP ?c ?_); (case c => omega); (intro _ _ _)) | walk_at "v1"))
local macro_rules | `(tactic| walk_at "iv") => `(tactic| (try dsimp only; refine IV.mk (by assumption) (by assumption) ?_))
local macro_rules | `(tactic| walk_at "n") => `(tactic| dsimp only [List.set_cons_zero, List.set_cons_succ])
theorem v_pick {K : PySem.W.Frag} {B : Hp} {M : List (Addr × HO)} {a : Addr} {d sd c m : Int} {H : Hp} {Q : VK} {E : XK} (hs : Hs B ((a, SrcO d sd c) :: M) H) (m0 : 0 < m) (m1 : m < 2 ^ 30)
    (q : ∀ (r d' c' : Int) (H' : Hp), 0 ≤ r → r < m → Hs B ((a, SrcO d' sd c') :: M) H' → Q (.int r) H') : sp_pick K [.ref a, .int m] H Q E := ⟨B, M, a, d, sd, c, m, rfl, hs, m0, m1, q⟩
/-! ### _law_alphabet -/
def menuL : List Str := ["ab", "ab", "ab", "ab", "bd", "ac", "abc", "abc", "aeh", "a", "abcd", "bcfg"]
def alphas : List (List Nat) := [[97, 98], [98, 100], [97, 99], [97, 98, 99], [97, 101, 104], [97], [97, 98, 99, 100], [98, 99, 102, 103]]
theorem menu_al : ∀ z ∈ menuL, z ∈ alphas.map S := by decide +kernel
structure AlOk (al : List Nat) : Prop where
  alpha : isAlphaD (.str (S al)) = true
  l1 : 1 ≤ al.length
  l4 : al.length ≤ 4
  sub : ∀ c ∈ al, c ∈ lettersL
  nd : al.Nodup
theorem al_ok0 : ∀ al ∈ alphas, isAlphaD (.str (S al)) = true ∧ 1 ≤ al.length ∧ al.length ≤ 4 ∧ (∀ c ∈ al, c ∈ lettersL) ∧ al.Nodup := by decide +kernel
theorem al_ok {al : List Nat} (h : al ∈ alphas) : AlOk al := let ⟨h1, h2, h3, h4, h5⟩ := al_ok0 al h; ⟨h1, h2, h3, h4, h5⟩
def sp_alphabet (K : PySem.W.Frag) : Sp := fun vs H Q _ => ∃ (B : Hp) (M : List (Addr × HO)) (a : Addr) (d sd c : Int), vs = [.ref a] ∧ Hs B ((a, SrcO d sd c) :: M) H ∧
  ∀ (al : List Nat) (d' c' : Int) (B' H' : Hp), al ∈ alphas → Le B B' → Hs B' ((a, SrcO d' sd c') :: M) H' → Q (.str (S al)) H'
def t_alphabet (K : PySem.W.Frag) : TS := (tSeq (tAsg (tLst (tCons (tC (.str "ab")) (tCons (tC (.str "ab")) (tCons (tC (.str "ab")) (tCons (tC (.str "ab")) (tCons (tC (.str "bd")) (tCons (tC (.str "ac")) (tCons (tC (.str "abc")) (tCons (tC (.str "abc")) (tCons (tC (.str "aeh")) (tCons (tC (.str "a")) (tCons (tC (.str "abcd")) (tCons (tC (.str "bcfg")) tNil))))))))))))) (gName 1))
    (tRet (tOp (rIxL K) (tVar 1) (tCall (sp_pick K) [] E0 (tCons (tVar 0) (tCons (tCB (rCLen K) (tCons (tVar 1) tNil)) tNil))))))
theorem pure_alphabet {K : PySem.W.Frag} (vs : List V) (H : Hp) (Q : VK) (E : XK) (h : sp_alphabet K vs H Q E) : t_alphabet K { nx := fun _ H' => Q .non H', rt := Q } (start n_alphabet vs) H := by
  obtain ⟨B, M, a, d, sd, c, rfl, hs, q⟩ := h
  show t_alphabet K _ [some (V.ref a), none] H
  unfold t_alphabet
  walk_at "v"
  refine v_size (xs := menuL.map V.str) (by show 12 ≤ sizeLine; decide) (v_newB hs fun p B1 H1 l1 h1 e1 => ?_)
  have e1 : SqL K B1 p (menuL.map V.str) := SqL.of e1
  walk_at "v"
  refine v_lenL (h1.l e1) ?_
  walk_at "v"
  refine v_pick h1 (by show (0 : Int) < 12; decide) (by show (12 : Int) < 2 ^ 30; decide) fun r d' c' H2 r0 r1 h2 => ?_
  have hk : r.toNat < menuL.length := by
    have : r < 12 := r1
    show r.toNat < 12
    omega
  obtain ⟨al, hal, e⟩ := List.mem_map.mp (menu_al _ (List.getElem_mem hk))
  refine v_ixL (v := .str (S al)) (h2.l e1) (at_k r0 ?_) ?_
  · rw [List.getElem?_map, List.getElem?_eq_getElem hk, e]
    rfl
  · exact q al d' c' B1 H2 hal l1 h2
/-! ### _law_is_number -/
def sp_is_number (K : PySem.W.Frag) : Sp := fun vs H Q _ => ∃ (v : V) (d : PyData) (lo hi : Int), vs = [v, .int lo, .int hi] ∧ Rp K H v d ∧ Q (.bl (isIntIn lo hi d)) H
def t_is_number (K : PySem.W.Frag) : TS := (tRet (tAndV (tCB (rIsi K) (tCons (tVar 0) (tCons (tC (.ty "int")) tNil))) (tAndV (tNotV (tCB (rIsi K) (tCons (tVar 0) (tCons (tC (.ty "bool")) tNil)))) (tChain rLeI rLeI (tVar 1) (tVar 0) (tVar 2)))))
theorem pure_is_number {K : PySem.W.Frag} (vs : List V) (H : Hp) (Q : VK) (E : XK) (h : sp_is_number K vs H Q E) : t_is_number K { nx := fun _ H' => Q .non H', rt := Q } (start n_is_number vs) H := pure_p_is_integer vs H Q E h
/-! ### _law_second -/
def sp_second (K : PySem.W.Frag) : Sp := fun vs H Q _ => ∃ (B : Hp) (M : List (Addr × HO)) (a : Addr) (d sd c : Int) (al r : List Nat), vs = [.ref a, .str (S al), .str (S r)] ∧ Hs B ((a, SrcO d sd c) :: M) H ∧ 1 ≤ al.length ∧ al.length ≤ 8 ∧ r.length ≤ 100 ∧ (∀ x ∈ r, x ∈ al) ∧
  ∀ (o : List Nat) (d' c' : Int) (B' H' : Hp), (∀ x ∈ o, x ∈ al) → (o.length ≤ 5 ∨ o.length ≤ r.length + 1) → Le B B' → Hs B' ((a, SrcO d' sd c') :: M) H' → Q (.str (S o)) H'
def t_second (K : PySem.W.Frag) : TS := (tSeq (tAsg (tCall (sp_pick K) [] E0 (tCons (tVar 0) (tCons (tC (.int 9)) tNil))) (gName 3))
    (tSeq (tAsg (tCall (sp_pick K) [] E0 (tCons (tVar 0) (tCons (tOp rAddI (tCB (rCLen K) (tCons (tVar 2) tNil)) (tC (.int 1))) tNil))) (gName 4))
    (tSeq (tAsg (tOp rIxS (tVar 1) (tCall (sp_pick K) [] E0 (tCons (tVar 0) (tCons (tCB (rCLen K) (tCons (tVar 1) tNil)) tNil)))) (gName 5))
    (tSeq (tIfS (tTest (tOp rEq (tVar 3) (tC (.int 0)))) (tRet (tCall (sp_word K) [] E0 (tCons (tVar 0) (tCons (tVar 1) (tCons (tC (.int 5)) tNil))))) tNext)
    (tSeq (tIfS (tTest (tOp rEq (tVar 3) (tC (.int 1)))) (tRet (tOp rAddS (tOp rAddS (tSl rSlS (tVar 2) tNoPart (tPart (tVar 4))) (tVar 5)) (tSl rSlS (tVar 2) (tPart (tOp rAddI (tVar 4) (tC (.int 1)))) tNoPart))) tNext)
    (tSeq (tIfS (tTest (tOp rEq (tVar 3) (tC (.int 2)))) (tRet (tOp rAddS (tOp rAddS (tSl rSlS (tVar 2) tNoPart (tPart (tVar 4))) (tVar 5)) (tSl rSlS (tVar 2) (tPart (tVar 4)) tNoPart))) tNext)
    (tSeq (tIfS (tTest (tOp rEq (tVar 3) (tC (.int 3)))) (tRet (tOp rAddS (tSl rSlS (tVar 2) tNoPart (tPart (tVar 4))) (tSl rSlS (tVar 2) (tPart (tOp rAddI (tVar 4) (tC (.int 1)))) tNoPart))) tNext)
    (tSeq (tIfS (tTest (tOp rEq (tVar 3) (tC (.int 4)))) (tRet (tVar 2)) tNext)
    (tSeq (tIfS (tTest (tOp rEq (tVar 3) (tC (.int 5)))) (tRet (tOp rAddS (tOp rAddS (tSl rSlS (tVar 2) tNoPart (tPart (tVar 4))) (tSl rSlS (tVar 2) (tPart (tVar 4)) (tPart (tOp rAddI (tVar 4) (tC (.int 1)))))) (tSl rSlS (tVar 2) (tPart (tVar 4)) tNoPart))) tNext)
    (tSeq (tIfS (tTest (tOp rEq (tVar 3) (tC (.int 6)))) (tRet (tOp rAddS (tOp rAddS (tOp rAddS (tSl rSlS (tVar 2) tNoPart (tPart (tVar 4))) (tSl rSlS (tVar 2) (tPart (tOp rAddI (tVar 4) (tC (.int 1)))) (tPart (tOp rAddI (tVar 4) (tC (.int 2)))))) (tSl rSlS (tVar 2) (tPart (tVar 4)) (tPart (tOp rAddI (tVar 4) (tC (.int 1)))))) (tSl rSlS (tVar 2) (tPart (tOp rAddI (tVar 4) (tC (.int 2)))) tNoPart))) tNext)
    (tSeq (tIfS (tTest (tOp rEq (tVar 3) (tC (.int 7)))) (tRet (tM1 (rJoin K) (tC (.str "")) (RT.tLstRev K (tCB rLstS (tCons (tVar 2) tNil))))) tNext)
    (tRet (tOp rAddS (tSl rSlS (tVar 2) (tPart (tVar 4)) tNoPart) (tSl rSlS (tVar 2) tNoPart (tPart (tVar 4))))))))))))))))
theorem pure_second {K : PySem.W.Frag} (vs : List V) (H : Hp) (Q : VK) (E : XK) (h : sp_second K vs H Q E) : t_second K { nx := fun _ H' => Q .non H', rt := Q } (start n_second vs) H := by
  obtain ⟨B, M, a, d, sd, c, al, r, rfl, hs, a1, a8, r100, hr, q⟩ := h
  show t_second K _ [some (V.ref a), some (V.str (S al)), some (V.str (S r)), none, none, none] H
  unfold t_second
  walk_at "v"
  refine v_pick hs (by decide) (by decide) fun way d1 c1 H1 w0 w1 h1 => ?_
  walk_at "v"
  refine v_lenS (by rw [S_length]; exact sz_of (by omega)) ?_
  walk_at "v"
  rw [S_length]
  refine v_pick h1 (by omega) (by omega) fun at_ d2 c2 H2 t0 t1 h2 => ?_
  walk_at "v"
  refine v_lenS (by rw [S_length]; exact sz_of (by omega)) ?_
  walk_at "v"
  rw [S_length]
  refine v_pick h2 (by omega) (by omega) fun k d3 c3 H3 k0 k1 h3 => ?_
  refine v_ixT1 k0 (by omega) (by omega) ?_
  have hle : al.getD k.toNat 0 ∈ al := getD_mem (by omega)
  generalize al.getD k.toNat 0 = le at hle
  have fin : ∀ o : List Nat, (∀ x ∈ o, x ∈ al) → (o.length ≤ 5 ∨ o.length ≤ r.length + 1) → Q (.str (S o)) H3 := fun o h1 h2 => q o d3 c3 B H3 h1 h2 (Same.refl B) h3
  walk_at "v"
  refine ite2 (fun c0 => ?_) (fun c0 => ?_)
  · walk_at "v"
    exact ⟨B, M, a, d3, sd, c3, al, 5, rfl, h3, a1, a8, by decide, by decide, fun o d4 c4 B4 H4 l4 ho hl h4 => q o d4 c4 B4 H4 ho (.inl (by omega)) l4 h4⟩
  walk_at "v"
  refine ite2 (fun c0 => ?_) (fun c0 => ?_)
  · walk_at "v"
    refine v_slTo t0 (by omega) ?_
    walk_at "v"
    refine v_addL (b := [le]) (by rw [List.length_take]; show _ + 1 ≤ _; omega) ?_
    walk_at "v"
    refine v_slFrom (by omega) (by omega) ?_
    refine v_addL (by simp only [List.length_append, List.length_take, List.length_drop, List.length_singleton]; omega) ?_
    refine fin _ (fun x hx => ?_) (.inr ?_)
    · simp only [List.mem_append, List.mem_singleton] at hx
      rcases hx with (hx | hx) | hx
      · exact hr x (List.mem_of_mem_take hx)
      · exact hx ▸ hle
      · exact hr x (List.mem_of_mem_drop hx)
    · simp only [List.length_append, List.length_take, List.length_drop, List.length_singleton]
      omega
  walk_at "v"
  refine ite2 (fun c0 => ?_) (fun c0 => ?_)
  · walk_at "v"
    refine v_slTo t0 (by omega) ?_
    walk_at "v"
    refine v_addL (b := [le]) (by rw [List.length_take]; show _ + 1 ≤ _; omega) ?_
    walk_at "v"
    refine v_slFrom t0 (by omega) ?_
    refine v_addL (by simp only [List.length_append, List.length_take, List.length_drop, List.length_singleton]; omega) ?_
    refine fin _ (fun x hx => ?_) (.inr ?_)
    · simp only [List.mem_append, List.mem_singleton] at hx
      rcases hx with (hx | hx) | hx
      · exact hr x (List.mem_of_mem_take hx)
      · exact hx ▸ hle
      · exact hr x (List.mem_of_mem_drop hx)
    · simp only [List.length_append, List.length_take, List.length_drop, List.length_singleton]
      omega
  walk_at "v"
  refine ite2 (fun c0 => ?_) (fun c0 => ?_)
  · walk_at "v"
    refine v_slTo t0 (by omega) ?_
    walk_at "v"
    refine v_slFrom (by omega) (by omega) ?_
    refine v_addL (by simp only [List.length_append, List.length_take, List.length_drop, List.length_singleton]; omega) ?_
    refine fin _ (fun x hx => ?_) (.inr ?_)
    · simp only [List.mem_append, List.mem_singleton] at hx
      rcases hx with hx | hx
      · exact hr x (List.mem_of_mem_take hx)
      · exact hr x (List.mem_of_mem_drop hx)
    · simp only [List.length_append, List.length_take, List.length_drop, List.length_singleton]
      omega
  walk_at "v"
  refine ite2 (fun c0 => ?_) (fun c0 => ?_)
  · walk_at "v"
    exact fin r hr (.inr (Nat.le_succ _))
  walk_at "v"
  refine ite2 (fun c0 => ?_) (fun c0 => ?_)
  · walk_at "v"
    refine v_slTo t0 (by omega) ?_
    walk_at "v"
    refine v_slMid t0 (by omega) (by omega) ?_
    walk_at "v"
    refine v_addL (by simp only [List.length_append, List.length_take, List.length_drop, List.length_singleton]; omega) ?_
    walk_at "v"
    refine v_slFrom t0 (by omega) ?_
    refine v_addL (by simp only [List.length_append, List.length_take, List.length_drop, List.length_singleton]; omega) ?_
    refine fin _ (fun x hx => ?_) (.inr ?_)
    · simp only [List.mem_append, List.mem_singleton] at hx
      rcases hx with (hx | hx) | hx
      · exact hr x (List.mem_of_mem_take hx)
      · exact hr x (List.mem_of_mem_drop (List.mem_of_mem_take hx))
      · exact hr x (List.mem_of_mem_drop hx)
    · simp only [List.length_append, List.length_take, List.length_drop, List.length_singleton]
      omega
  walk_at "v"
  refine ite2 (fun c0 => ?_) (fun c0 => ?_)
  · walk_at "v"
    refine v_slTo t0 (by omega) ?_
    walk_at "v"
    refine v_slMid (by omega) (by omega) (by omega) ?_
    walk_at "v"
    refine v_addL (by simp only [List.length_append, List.length_take, List.length_drop, List.length_singleton]; omega) ?_
    walk_at "v"
    refine v_slMid t0 (by omega) (by omega) ?_
    walk_at "v"
    refine v_addL (by simp only [List.length_append, List.length_take, List.length_drop, List.length_singleton]; omega) ?_
    walk_at "v"
    refine v_slFrom (by omega) (by omega) ?_
    refine v_addL (by simp only [List.length_append, List.length_take, List.length_drop, List.length_singleton]; omega) ?_
    refine fin _ (fun x hx => ?_) (.inr ?_)
    · simp only [List.mem_append, List.mem_singleton] at hx
      rcases hx with ((hx | hx) | hx) | hx
      · exact hr x (List.mem_of_mem_take hx)
      · exact hr x (List.mem_of_mem_drop (List.mem_of_mem_take hx))
      · exact hr x (List.mem_of_mem_drop (List.mem_of_mem_take hx))
      · exact hr x (List.mem_of_mem_drop hx)
    · simp only [List.length_append, List.length_take, List.length_drop, List.length_singleton]
      omega
  walk_at "v"
  refine ite2 (fun c0 => ?_) (fun c0 => ?_)
  · walk_at "v"
    refine v_lstRev (q := fun _ _ _ => True) ?_
    walk_at "v"
    refine v_lstS (by omega) (v_newB h3 fun p B4 H4 l4 h4 e4 => ?_)
    refine ⟨p, _, rfl, h4.l (SqL.of e4), v_newB h4 fun p2 B5 H5 l5 h5 e5 => ?_⟩
    rw [← List.map_reverse] at e5
    refine v_join (h5.l (SqL.of e5)) (by rw [List.length_reverse]; omega) ?_
    exact q r.reverse d3 c3 B5 H5 (fun x hx => hr x (List.mem_reverse.mp hx)) (.inr (by rw [List.length_reverse]; omega)) (l4.trans l5) h5
  · walk_at "v"
    refine v_slFrom t0 (by omega) ?_
    walk_at "v"
    refine v_slTo t0 (by omega) ?_
    refine v_addL (by simp only [List.length_append, List.length_take, List.length_drop, List.length_singleton]; omega) ?_
    refine fin _ (fun x hx => ?_) (.inr ?_)
    · simp only [List.mem_append, List.mem_singleton] at hx
      rcases hx with hx | hx
      · exact hr x (List.mem_of_mem_drop hx)
      · exact hr x (List.mem_of_mem_take hx)
    · simp only [List.length_append, List.length_take, List.length_drop, List.length_singleton]
      omega
section
variable {P : Program} {w : World} {K : PySem.W.Frag} {mg : Str → Option Value} {base : Heap}
theorem ok_alphabet (T : Txt K mg w) : FnOk P w K mg base CX0 2 T.a_alphabet T.fd_alphabet ["_law_source_here"] (sp_alphabet K) := by
  refine T.F_alphabet.ok sc_alphabet (fun vs H Q E h => ?_) (fun cdv A outer s H vs Q E hr h => ⟨t_alphabet K, ?_, pure_alphabet vs H Q E h⟩)
  · obtain ⟨B, M, a, d, sd, c, rfl, _⟩ := h
    rfl
  · exact (pss_cons (ps_set (i := 1) sc_alphabet.nd rfl (by first | exact Or.inl rfl | exact Or.inr rfl) (pe_lst (pa_cons pe_str (pa_cons pe_str (pa_cons pe_str (pa_cons pe_str (pa_cons pe_str (pa_cons pe_str (pa_cons pe_str (pa_cons pe_str (pa_cons pe_str (pa_cons pe_str (pa_cons pe_str (pa_cons pe_str pa_nil))))))))))))))
      (pss_one (ps_ret (pe_ix ix_list (pv 1) (pe_call (ok_pick T) hr (by rfl) T.g_pick T.F_pick.kp T.b_pick .nil pass0 (pa_cons (pv 0) (pa_cons (pe_callB call_len (by rfl) (T.free_len) (by decide +kernel) (pa_cons (pv 1) pa_nil)) pa_nil))) (fun _ _ => rfl)))))
theorem ok_is_number (T : Txt K mg w) : FnOk P w K mg base CX0 1 T.a_is_number T.fd_is_number ["_law_thing", "_law_low", "_law_high"] (sp_is_number K) := by
  refine T.F_is_number.ok sc_is_number (fun vs H Q E h => ?_) (fun cdv A outer s H vs Q E hr h => ⟨t_is_number K, ?_, pure_is_number vs H Q E h⟩)
  · obtain ⟨v, d, lo, hi, rfl, _⟩ := h
    rfl
  · exact (pss_one (ps_ret (pe_and (pe_callB call_isi (by rfl) (T.free_isinstance) PyProof.Rows.boot_isinstance (pa_cons (pv 0) (pa_cons (pe_bltn (by rfl) (T.free_int) (by decide +kernel) rfl) pa_nil))) (pe_and (pe_not (pe_callB call_isi (by rfl) (T.free_isinstance) PyProof.Rows.boot_isinstance (pa_cons (pv 0) (pa_cons (pe_bltn (by rfl) (T.free_bool) (by decide +kernel) rfl) pa_nil)))) (pe_one (pe_chain op_le op_le (pv 1) (pv 0) (pv 2)))))))
theorem ok_second (T : Txt K mg w) : FnOk P w K mg base CX0 3 T.a_second T.fd_second ["_law_source_here", "_law_alphabet_here", "_law_row"] (sp_second K) := by
  refine T.F_second.ok sc_second (fun vs H Q E h => ?_) (fun cdv A outer s H vs Q E hr h => ⟨t_second K, ?_, pure_second vs H Q E h⟩)
  · obtain ⟨B, M, a, d, sd, c, al, r, rfl, _⟩ := h
    rfl
  · exact (pss_cons (ps_set (i := 3) sc_second.nd rfl (by first | exact Or.inl rfl | exact Or.inr rfl) (pe_call (ok_pick T) (hr.mono (by decide)) (by rfl) T.g_pick T.F_pick.kp T.b_pick .nil pass0 (pa_cons (pv 0) (pa_cons pe_int pa_nil))))
      (pss_cons (ps_set (i := 4) sc_second.nd rfl (by first | exact Or.inl rfl | exact Or.inr rfl) (pe_call (ok_pick T) (hr.mono (by decide)) (by rfl) T.g_pick T.F_pick.kp T.b_pick .nil pass0 (pa_cons (pv 0) (pa_cons (pe_op op_add (pe_callB call_len (by rfl) (T.free_len) (by decide +kernel) (pa_cons (pv 2) pa_nil)) pe_int) pa_nil))))
      (pss_cons (ps_set (i := 5) sc_second.nd rfl (by first | exact Or.inl rfl | exact Or.inr rfl) (pe_ix ix_str (pv 1) (pe_call (ok_pick T) (hr.mono (by decide)) (by rfl) T.g_pick T.F_pick.kp T.b_pick .nil pass0 (pa_cons (pv 0) (pa_cons (pe_callB call_len (by rfl) (T.free_len) (by decide +kernel) (pa_cons (pv 1) pa_nil)) pa_nil))) (fun _ _ => rfl)))
      (pss_cons (ps_if (pt_cmpR op_eq (pv 3) pe_int (nomark _)) (pss_one (ps_ret (pe_call (ok_word T) hr (by rfl) T.g_word T.F_word.kp T.b_word .nil pass0 (pa_cons (pv 0) (pa_cons (pv 1) (pa_cons pe_int pa_nil)))))) pss_nil)
      (pss_cons (ps_if (pt_cmpR op_eq (pv 3) pe_int (nomark _)) (pss_one (ps_ret (pe_op op_add_str (pe_op op_add_str (pe_slice sl_str (pv 2) po_none (po_some (pv 4))) (pv 5)) (pe_slice sl_str (pv 2) (po_some (pe_op op_add (pv 4) pe_int)) po_none)))) pss_nil)
      (pss_cons (ps_if (pt_cmpR op_eq (pv 3) pe_int (nomark _)) (pss_one (ps_ret (pe_op op_add_str (pe_op op_add_str (pe_slice sl_str (pv 2) po_none (po_some (pv 4))) (pv 5)) (pe_slice sl_str (pv 2) (po_some (pv 4)) po_none)))) pss_nil)
      (pss_cons (ps_if (pt_cmpR op_eq (pv 3) pe_int (nomark _)) (pss_one (ps_ret (pe_op op_add_str (pe_slice sl_str (pv 2) po_none (po_some (pv 4))) (pe_slice sl_str (pv 2) (po_some (pe_op op_add (pv 4) pe_int)) po_none)))) pss_nil)
      (pss_cons (ps_if (pt_cmpR op_eq (pv 3) pe_int (nomark _)) (pss_one (ps_ret (pv 2))) pss_nil)
      (pss_cons (ps_if (pt_cmpR op_eq (pv 3) pe_int (nomark _)) (pss_one (ps_ret (pe_op op_add_str (pe_op op_add_str (pe_slice sl_str (pv 2) po_none (po_some (pv 4))) (pe_slice sl_str (pv 2) (po_some (pv 4)) (po_some (pe_op op_add (pv 4) pe_int)))) (pe_slice sl_str (pv 2) (po_some (pv 4)) po_none)))) pss_nil)
      (pss_cons (ps_if (pt_cmpR op_eq (pv 3) pe_int (nomark _)) (pss_one (ps_ret (pe_op op_add_str (pe_op op_add_str (pe_op op_add_str (pe_slice sl_str (pv 2) po_none (po_some (pv 4))) (pe_slice sl_str (pv 2) (po_some (pe_op op_add (pv 4) pe_int)) (po_some (pe_op op_add (pv 4) pe_int)))) (pe_slice sl_str (pv 2) (po_some (pv 4)) (po_some (pe_op op_add (pv 4) pe_int)))) (pe_slice sl_str (pv 2) (po_some (pe_op op_add (pv 4) pe_int)) po_none)))) pss_nil)
      (pss_cons (ps_if (pt_cmpR op_eq (pv 3) pe_int (nomark _)) (pss_one (ps_ret (pe_join pe_str (RT.pe_lstRev rfl (by rfl) (T.free_list) (by rfl) (T.free_reversed) (pe_callTy (cr_lstS rfl) (by rfl) (T.free_list) (by decide +kernel) (pa_cons (pv 2) pa_nil)))))) pss_nil)
      (pss_one (ps_ret (pe_op op_add_str (pe_slice sl_str (pv 2) (po_some (pv 4)) po_none) (pe_slice sl_str (pv 2) po_none (po_some (pv 4)))))))))))))))))
end
end K52
set_option Elab.async false
set_option linter.all false
set_option maxRecDepth 100000
set_option maxHeartbeats 8000000
namespace K52
open PySem PySem.Spec PyProof.Rows L2 Sh
open SX (S)
local macro_rules | `(tactic| walk_at "v1") => `(tactic| first
  | with_reducible refine v_seq ?_ | with_reducible refine v_asg ?_ | ((with_reducible refine' v_name ?e ?_); (case e => exact rfl)) | with_reducible refine v_ret ?_ | with_reducible refine v_drop ?_ | with_reducible refine v_next ?_
  | with_reducible refine v_if ?_ | with_reducible refine v_op ?_ | with_reducible refine v_c ?_ | ((with_reducible refine' v_var ?e ?_); (case e => exact rfl))
  | with_reducible refine v_I0 ?_ | with_reducible refine v_test ?_ | with_reducible refine v_B ?_ | with_reducible refine v_bl ?_ | with_reducible refine v_not ?_ | with_reducible refine v_and ?_ | with_reducible refine v_or ?_
  | with_reducible refine v_andV ?_ | with_reducible refine v_orV ?_ | with_reducible refine v_notV ?_ | with_reducible refine v_ife ?_
  | with_reducible refine v_nil ?_ | with_reducible refine v_cons ?_ | with_reducible refine v_tup ?_ | with_reducible refine v_lst ?_ | with_reducible refine v_call ?_ | with_reducible refine v_cb ?_ | with_reducible refine v_int ?_ | with_reducible refine v_abs ?_
  | ((with_reducible refine' v_eq ?e ?_); (case e => exact rfl)) | ((with_reducible refine' v_ne ?e ?_); (case e => exact rfl)) | with_reducible refine v_sub ?_ | with_reducible refine v_isN ?_ | with_reducible refine v_notN ?_
  | with_reducible refine v_part ?_ | with_reducible refine v_nopart ?_ | with_reducible refine v_pint ?_ | with_reducible refine v_inSg ?_ | with_reducible refine v_notInSg ?_
  | ((with_reducible refine' v_ixL ?l ?a ?_); (case l => assumption); (case a => exact at_lit _ rfl)) | ((with_reducible refine' v_ixT ?l ?a ?_); (case l => assumption); (case a => exact at_lit _ rfl))
  | ((with_reducible refine v_I ?c ?_); (case c => (first | omega | (unfold CMul; omega) | (unfold CDivN; omega) | (unfold CPow; omega))))
  | with_reducible refine v_for ?_ | with_reducible refine v_iList ?_ | with_reducible refine v_iTup ?_ | with_reducible refine v_iStr ?_ | with_reducible refine v_iR1 ?_ | with_reducible refine v_iR2 ?_ | with_reducible refine v_atS ?_ | with_reducible refine v_sl ?_ | with_reducible refine v_lc ?_ | with_reducible refine v_yes ?_
  | with_reducible refine v_m1 ?_ | with_reducible refine v_m1S ?_ | with_reducible refine v_bm ?_ | with_reducible refine v_bm0 ?_ | with_reducible refine v_dnewK ?_ | with_reducible refine v_dnewT ?_ | with_reducible refine v_dget ?_ | with_reducible refine v_din ?_ | with_reducible refine v_dnotin ?_ | with_reducible refine v_dput ?_ | with_reducible refine v_chain ?_ | with_reducible refine v_un ?_ | with_reducible refine v_neg ?_
  | with_reducible refine v_brk ?_ | with_reducible refine v_cont ?_
  | with_reducible refine v_fld ?_ | with_reducible refine v_sfld ?_ | with_reducible refine v_meth ?_ | with_reducible refine v_methT ?_ | with_reducible refine v_make ?_ | with_reducible refine v_makeT ?_ | with_reducible refine v_dget2 ?_ | with_reducible refine v_enumS ?_ | with_reducible refine v_enumQ ?_ | with_reducible refine v_lc2 ?_ | with_reducible refine v_isB ?_ | with_reducible refine v_notB ?_ | with_reducible refine v_lstRg2 ?_ | with_reducible refine v_lstRg3 ?_)
local macro_rules | `(tactic| walk_at "v") => `(tactic| repeat (walk_at "v1"))
local macro_rules | `(tactic| walk_at "vm") => `(tactic| repeat (first | ((with_reducible refine v_modP ?c ?_); (case c => omega); (intro _ _ _)) | walk_at "v1"))
local macro_rules | `(tactic| walk_at "iv") => `(tactic| (try dsimp only; refine IV.mk (by assumption) (by assumption) ?_))
local macro_rules | `(tactic| walk_at "n") => `(tactic| dsimp only [List.set_cons_zero, List.set_cons_succ])
/-! ### _law_same -/
def sp_same (K : PySem.W.Frag) : Sp := fun vs H Q _ => ∃ (B : Hp) (M : List (Addr × HO)) (r o : List Nat), vs = [.str (S r), .str (S o)] ∧ Hs B M H ∧ r.length ≤ 100 ∧ o.length ≤ 100 ∧
  ∀ (v' : V) (B' H' : Hp), Le B B' → Hs B' M H' → Rp K B' v' (levD true (cells r.length o.length (rel0 r o))) → Q v' H'
def t_same (K : PySem.W.Frag) : TS := (tSeq (tAsg (tLst tNil) (gName 2))
    (tSeq (tFor (iRng1 (tCons (tCB (rCLen K) (tCons (tVar 0) tNil)) tNil)) (gName 3) (tFor (iRng1 (tCons (tCB (rCLen K) (tCons (tVar 1) tNil)) tNil)) (gName 4) (tIfS (tTest (tOp rEq (tOp rIxS (tVar 0) (tVar 3)) (tOp rIxS (tVar 1) (tVar 4)))) (tDrop (tBM K "list" rAppend (tVar 2) (tCons (tTup (tCons (tVar 3) (tCons (tVar 4) tNil))) tNil))) tNext)))
    (tRet (tVar 2))))
theorem cells_succ (i m : Nat) (f : Rel) : cells (i + 1) m f = cells i m f ++ ((List.range m).filter (f i)).map fun b => (i, b) := by
  unfold cells
  rw [List.range_succ, List.flatMap_append]
  show _ ++ List.flatMap (cellsR m f) [i] = _
  rw [List.flatMap_cons, List.flatMap_nil, List.append_nil]
  rfl
theorem filter_succ (g : Nat → Bool) (j : Nat) : (List.range (j + 1)).filter g = (List.range j).filter g ++ if g j = true then [j] else [] := by
  rw [List.range_succ, List.filter_append, List.filter_cons]
  rfl
theorem pure_same {K : PySem.W.Frag} (vs : List V) (H : Hp) (Q : VK) (E : XK) (h : sp_same K vs H Q E) : t_same K { nx := fun _ H' => Q .non H', rt := Q } (start n_same vs) H := by
  obtain ⟨B, M, r, o, rfl, hs, r12, o12, q⟩ := h
  show t_same K _ [some (V.str (S r)), some (V.str (S o)), none, none, none] H
  unfold t_same
  walk_at "v"
  refine v_size (by show 0 ≤ sizeLine; decide) (v_newM hs fun td H1 h1 => ?_)
  walk_at "v"
  refine v_lenS (by rw [S_length]; exact sz_of (by omega)) ?_
  walk_at "v"
  rw [S_length]
  refine v_atR1 (by omega) ?_
  rw [Int.toNat_natCast]
  refine v_forR h1 (fun i σ' B' M' => ∃ (ts : List V) (y3 y4 : Option V), M' = (td, .lst ts) :: M ∧ RpAll K B' ts ((cells i o.length (rel0 r o)).map cellD) ∧ σ' = [some (V.str (S r)), some (V.str (S o)), some (V.ref td), y3, y4]) ⟨[], none, none, rfl, .nil, rfl⟩ ?_ ?_
  · rintro i σ' B2 M' H2 hi l2 h2 ⟨ts, y3, y4, rfl, ht, rfl⟩
    walk_at "v"
    refine v_lenS (by rw [S_length]; exact sz_of (by omega)) ?_
    walk_at "v"
    rw [S_length]
    refine v_atR1 (by omega) ?_
    rw [Int.toNat_natCast]
    refine v_forR h2 (fun j σ' B' M' => ∃ (ts : List V) (y4 : Option V), M' = (td, .lst ts) :: M ∧ RpAll K B' ts ((cells i o.length (rel0 r o) ++ ((List.range j).filter (rel0 r o i)).map fun b => (i, b)).map cellD) ∧ σ' = [some (V.str (S r)), some (V.str (S o)), some (V.ref td), some (V.int (0 + (i : Int))), y4]) ⟨ts, y4, rfl, by simpa using ht, rfl⟩ ?_ ?_
    · rintro j σ' B3 M' H3 hj l3 h3 ⟨ts, y4, rfl, ht, rfl⟩
      walk_at "v"
      refine v_ixT1 (by omega) (by omega) (by omega) ?_
      walk_at "v"
      refine v_ixT1 (by omega) (by omega) (by omega) ?_
      walk_at "v"
      rw [show ((0 : Int) + (i : Int)).toNat = i by omega, show ((0 : Int) + (j : Int)).toNat = j by omega]
      have er : decide (V.str (S [r.getD i 0]) = V.str (S [o.getD j 0])) = rel0 r o i j := eqL _ _
      rw [er]
      have len : ts.length ≤ 1000000 := by
        rw [ht.length, List.length_map, List.length_append, List.length_map]
        have := List.length_filter_le (rel0 r o i) (List.range j)
        rw [List.length_range] at this
        have cl := cells_len (n := i) (m := o.length) (rel0 r o)
        have cm : i * o.length ≤ 100 * 100 := Nat.mul_le_mul (by omega) o12
        omega
      refine ite2 (fun c0 => ?_) (fun c0 => ?_)
      · walk_at "v"
        refine v_bmL (h3.atI 0 rfl) ?_
        walk_at "v"
        refine v_size (xs := [V.int (0 + (i : Int)), V.int (0 + (j : Int))]) (by show 2 ≤ sizeLine; decide) (v_newB h3 fun tp B4 H4 l4 h4 e4 => ?_)
        walk_at "v"
        refine v_appI h4 0 rfl len fun H5 h5 => ?_
        try dsimp only
        refine IV.mk (l3.trans l4) h5 ⟨_, _, rfl, ?_, rfl⟩
        rw [filter_succ, if_pos c0, List.map_append (f := fun b => (i, b)), ← List.append_assoc, List.map_append (l₂ := List.map _ [j])]
        rw [show (0 : Int) + (i : Int) = (i : Int) by omega, show (0 : Int) + (j : Int) = (j : Int) by omega] at e4
        exact (ht.up l4).append (.one (.tup e4 (.cons (.int _) (.cons (.int _) .nil))))
      · walk_at "v"
        try dsimp only
        refine IV.mk l3 h3 ⟨_, _, rfl, ?_, rfl⟩
        rw [filter_succ, if_neg c0, List.append_nil]
        exact ht
    · rintro σ' B3 M' H3 l3 h3 ⟨ts, y4, rfl, ht, rfl⟩
      try dsimp only
      refine IV.mk (l2.trans l3) h3 ⟨_, _, _, rfl, ?_, rfl⟩
      rw [cells_succ]
      exact ht
  · rintro σ' B2 M' H2 l2 h2 ⟨ts, y3, y4, rfl, ht, rfl⟩
    walk_at "v"
    obtain ⟨h3, l3⟩ := h2.fix
    exact q _ _ _ (l2.trans l3) h3 (.lst (SqL.of upd_same) (ht.up l3))
/-! ### _law_beyond -/
def sp_beyond (K : PySem.W.Frag) : Sp := fun vs H Q _ => ∃ (B : Hp) (M : List (Addr × HO)) (k n : Nat) (later : Bool), vs = [.int (k : Int), .int (n : Int), .bl later] ∧ Hs B M H ∧ n ≤ 1000 ∧ k ≤ 1000 ∧
  ∀ (p : Addr) (B' H' : Hp), Le B B' → Hs B' M H' → B' p = some (.lst ((bey later k n).map intV)) → Q (.ref p) H'
def t_beyond (K : PySem.W.Frag) : TS := (tSeq (tIfS (tB (tVar 2)) (tRet (tLc (iRng2 (tCons (tOp rAddI (tVar 0) (tC (.int 1))) (tCons (tVar 1) tNil))) (gName 3) tYes (tVar 3) [3])) tNext)
    (tRet (tLc (iRng1 (tCons (tVar 0) tNil)) (gName 3) tYes (tOp rSubI (tOp rSubI (tVar 0) (tC (.int 1))) (tVar 3)) [3])))
theorem pure_beyond {K : PySem.W.Frag} (vs : List V) (H : Hp) (Q : VK) (E : XK) (h : sp_beyond K vs H Q E) : t_beyond K { nx := fun _ H' => Q .non H', rt := Q } (start n_beyond vs) H := by
  obtain ⟨B, M, k, n, later, rfl, hs, hn, hk, q⟩ := h
  show t_beyond K _ [some (V.int (k : Int)), some (V.int (n : Int)), some (V.bl later), none] H
  unfold t_beyond
  cases later with
  | true =>
    walk_at "v"
    refine iteT' rfl ?_
    walk_at "v"
    refine v_atR2 (by omega) ?_
    rw [show ((n : Int) - ((k : Int) + 1)).toNat = n - (k + 1) by omega]
    refine v_lcR hs (fun i acc B' M' => M' = M ∧ acc = (List.range i).map fun i => intV (k + 1 + i)) ⟨rfl, rfl⟩ ?_ ?_
    · rintro i p acc B1 M' H1 hi ha l1 h1 ⟨rfl, rfl⟩
      walk_at "v"
      refine ⟨rfl, ?_⟩
      walk_at "v"
      refine iteT' rfl ?_
      walk_at "v"
      refine IE.mk ha hi (by omega) l1 h1 ⟨rfl, ?_⟩
      rw [range_succ_map]
      congr 2
    · rintro p acc B1 M' H1 ha l1 h1 ⟨rfl, rfl⟩
      obtain ⟨h2, l2⟩ := h1.fix
      refine q p _ _ (l1.trans l2) h2 ?_
      rw [upd_same]
      unfold bey
      rw [if_pos rfl, List.map_map]
      rfl
  | false =>
    walk_at "v"
    refine iteF' rfl ?_
    walk_at "v"
    refine v_atR1 (by omega) ?_
    rw [Int.toNat_natCast]
    refine v_lcR hs (fun i acc B' M' => M' = M ∧ acc = (List.range i).map fun i => intV (k - 1 - i)) ⟨rfl, rfl⟩ ?_ ?_
    · rintro i p acc B1 M' H1 hi ha l1 h1 ⟨rfl, rfl⟩
      walk_at "v"
      refine ⟨rfl, ?_⟩
      walk_at "v"
      refine iteT' rfl ?_
      walk_at "v"
      refine IE.mk ha hi (by omega) l1 h1 ⟨rfl, ?_⟩
      rw [range_succ_map]
      congr 2
      show V.int ((k : Int) - 1 - (0 + (i : Int))) = V.int ((k - 1 - i : Nat) : Int)
      congr 1
      omega
    · rintro p acc B1 M' H1 ha l1 h1 ⟨rfl, rfl⟩
      obtain ⟨h2, l2⟩ := h1.fix
      refine q p _ _ (l1.trans l2) h2 ?_
      rw [upd_same]
      unfold bey
      rw [if_neg (by decide), List.map_map]
      rfl
/-! ### _law_answered -/
def pairK (a b : Nat) : List Key := [.inl (a : Int), .inl (b : Int)]
theorem pairK_inj {a b c d : Nat} : pairK a b = pairK c d ↔ (a, b) = (c, d) := by
  unfold pairK
  constructor
  · intro h
    injection h with h1 h2
    injection h2 with h2 _
    injection h1 with h1
    injection h2 with h2
    exact Prod.ext (by omega) (by omega)
  · intro h
    injection h with h1 h2
    rw [h1, h2]
def NearD (kvs : List (List Key × V)) (f : Rel) : Prop := ∀ a b : Nat, (valV kvs (pairK a b)).isSome = f a b
theorem fnd_pre {g cov : Nat → Bool} : ∀ (l r : List Nat), (∀ p ∈ l, g p = false ∧ cov p = true) → fnd g cov (l ++ r) = fnd g cov r
  | [], r, _ => rfl
  | z :: l, r, h => by
    obtain ⟨h1, h2⟩ := h z (by simp)
    show (g z || (cov z && fnd g cov (l ++ r))) = _
    rw [h1, h2, Bool.false_or, Bool.true_and, fnd_pre l r fun p hp => h p (by simp [hp])]
theorem cov_put' (kvs : List (Key × V)) (p q : Nat) (v : V) : covOf (putK kvs (.inl (p : Int)) v) q = (covOf kvs q || decide (q = p)) := cov_put kvs p q v
def sp_answered (K : PySem.W.Frag) : Sp := fun vs H Q _ => ∃ (B : Hp) (M : List (Addr × HO)) (na oa pa : Addr) (kvs : List (List Key × V)) (f : Rel) (ones others : List Nat), vs = [.ref na, .ref oa, .ref pa] ∧ Hs B M H ∧ B na = some (.dT kvs) ∧ NearD kvs f ∧ SqL K B oa (ones.map intV) ∧ SqL K B pa (others.map intV) ∧
  ones.length ≤ 100 ∧ others.length ≤ 100 ∧ ∀ (B' H' : Hp), Le B B' → Hs B' M H' → Q (.bl (ans f others noC ones)) H'
def t_answered (K : PySem.W.Frag) : TS := (tSeq (tAsg tDNewK (gName 3))
    (tSeq (tFor (iList K (tVar 1)) (gName 4) (tSeq (tAsg (tC (.bl false)) (gName 5))
    (tSeq (tFor (iList K (tVar 2)) (gName 6) (tSeq (tIfS (tB (tDIn (tTup (tCons (tVar 4) (tCons (tVar 6) tNil))) (tVar 0))) (tSeq (tAsg (tC (.bl true)) (gName 5))
    tBreak) tNext)
    (tIfS (tB (tDNotIn (tVar 6) (tVar 3))) tBreak tNext)))
    (tSeq (tIfS (tNot (tB (tVar 5))) (tRet (tC (.bl false))) tNext)
    (tFor (iList K (tVar 2)) (gName 6) (tIfS (tB (tDIn (tTup (tCons (tVar 4) (tCons (tVar 6) tNil))) (tVar 0))) (sDPut (tVar 3) (tVar 6) (tC (.bl true))) tNext))))))
    (tRet (tC (.bl true)))))
theorem pure_answered {K : PySem.W.Frag} (vs : List V) (H : Hp) (Q : VK) (E : XK) (h : sp_answered K vs H Q E) : t_answered K { nx := fun _ H' => Q .non H', rt := Q } (start n_answered vs) H := by
  obtain ⟨B, M, na, oa, pa, kn, f, ones, others, rfl, hs, hN0, hf, hO, hP, l1, l2, q⟩ := h
  show t_answered K _ [some (V.ref na), some (V.ref oa), some (V.ref pa), none, none, none, none] H
  unfold t_answered
  walk_at "v"
  refine v_newM hs fun cd H1 h1 => ?_
  walk_at "v"
  refine v_atL (h1.l hO) (v_forL hO h1 (fun i σ' B' M' => ∃ (kvs : List (Key × V)) (y4 y5 y6 : Option V), M' = (cd, .dK kvs) :: M ∧ ans f others (covOf kvs) (ones.drop i) = ans f others noC ones ∧ kvs.length ≤ i * 100 ∧
    σ' = [some (V.ref na), some (V.ref oa), some (V.ref pa), some (V.ref cd), y4, y5, y6]) ⟨[], none, none, none, rfl, rfl, Nat.le_refl _, rfl⟩ ?_ ?_)
  · rintro i x σ' B2 M' H2 hi hx l2' h2 ⟨kvs, y4, y5, y6, rfl, hu, hk, rfl⟩
    rw [List.length_map] at hi
    obtain ⟨one, eo, rfl⟩ := map_some hx
    have cut : ones.drop i = one :: ones.drop (i + 1) := by
      obtain ⟨hi2, e⟩ := List.getElem?_eq_some_iff.mp eo
      rw [← e, List.getElem_cons_drop]
    rw [cut] at hu
    have hu : (fnd (f one) (covOf kvs) others && ans f others (more f others one (covOf kvs)) (ones.drop (i + 1))) = ans f others noC ones := hu
    walk_at "v1"
    dsimp only
    walk_at "v1"
    walk_at "v1"
    walk_at "v1"
    walk_at "v1"
    dsimp only
    refine v_seqP (fun σ' H' => ∃ (B' : Hp) (y6 : Option V), Le B2 B' ∧ Hs B' ((cd, .dK kvs) :: M) H' ∧ σ' = [some (V.ref na), some (V.ref oa), some (V.ref pa), some (V.ref cd), some (intV one), some (V.bl (fnd (f one) (covOf kvs) others)), y6]) (fun N hN => ?_) ?_
    · walk_at "v"
      refine v_atL (h2.l (le_l l2' hP)) (v_forL (le_l l2' hP) h2 (fun j σ' B' M' => M' = (cd, .dK kvs) :: M ∧ (∀ p ∈ others.take j, f one p = false ∧ covOf kvs p = true) ∧ ∃ y6 : Option V, σ' = [some (V.ref na), some (V.ref oa), some (V.ref pa), some (V.ref cd), some (intV one), some (V.bl false), y6])
        ⟨rfl, fun p hp => by simp at hp, y6, rfl⟩ ?_ ?_)
      · rintro j x σ' B3 M' H3 hj hx l3 h3 ⟨rfl, hall, y6, rfl⟩
        obtain ⟨p, ep, rfl⟩ := map_some hx
        have cut2 : others = others.take j ++ p :: others.drop (j + 1) := by
          obtain ⟨hi2, e⟩ := List.getElem?_eq_some_iff.mp ep
          rw [← e, List.getElem_cons_drop, List.take_append_drop]
        have ef : fnd (f one) (covOf kvs) others = (f one p || (covOf kvs p && fnd (f one) (covOf kvs) (others.drop (j + 1)))) := by
          conv => lhs; rw [cut2]
          rw [fnd_pre _ _ hall]
          rfl
        walk_at "v"
        refine v_size (xs := [intV one, intV p]) (by show 2 ≤ sizeLine; decide) (v_newB h3 fun tp B4 H4 l4 h4 e4 => ?_)
        walk_at "v"
        refine v_dinT (k := pairK one p) (h4.sub _ _ (l4 _ _ (l3 _ _ (l2' _ _ hN0)))) (h4.sub _ _ e4) ?_
        rw [hf one p]
        walk_at "v"
        refine ite2 (fun c0 => ?_) (fun c0 => ?_)
        · walk_at "v"
          refine hN _ _ ⟨B4, some (intV p), l3.trans l4, h4, ?_⟩
          rw [ef, c0]
          rfl
        · have c0 : f one p = false := Bool.eq_false_iff.mpr c0
          walk_at "v"
          refine v_dninI (h4.atI 0 rfl) ?_
          walk_at "v"
          cases c1 : (valV kvs (.inl (p : Int))).isSome with
          | false =>
            have c1 : covOf kvs p = false := c1
            refine iteT' rfl ?_
            walk_at "v"
            refine hN _ _ ⟨B4, some (intV p), l3.trans l4, h4, ?_⟩
            rw [ef, c0, c1]
            rfl
          | true =>
            have c1 : covOf kvs p = true := c1
            refine iteF' rfl ?_
            walk_at "v"
            try dsimp only
            refine IV.mk (l3.trans l4) h4 ⟨rfl, fun q hq => ?_, _, rfl⟩
            rw [List.take_add_one, ep, List.mem_append] at hq
            rcases hq with hq | hq
            · exact hall q hq
            · have hq : q = p := by simpa using hq
              rw [hq]
              exact ⟨c0, c1⟩
      · rintro σ' B3 M' H3 l3 h3 ⟨rfl, hall, y6, rfl⟩
        rw [List.length_map, List.take_length] at hall
        refine hN _ _ ⟨B3, y6, l3, h3, ?_⟩
        have := fnd_pre others [] hall
        rw [List.append_nil] at this
        rw [this]
        rfl
    · rintro σ' H3 ⟨B3, y6, l3, h3, rfl⟩
      walk_at "v"
      cases c0 : fnd (f one) (covOf kvs) others with
      | false =>
        refine iteT' rfl ?_
        walk_at "v"
        rw [c0, Bool.false_and] at hu
        have := q B3 H3 (l2'.trans l3) h3.drop
        rw [← hu] at this
        exact this
      | true =>
        rw [c0, Bool.true_and] at hu
        refine iteF' rfl ?_
        walk_at "v"
        have l23 := l2'.trans l3
        refine v_atL (h3.l (le_l l23 hP)) (v_forL (le_l l23 hP) h3 (fun j σ' B' M' => ∃ (kvs' : List (Key × V)) (y6 : Option V), M' = (cd, .dK kvs') :: M ∧ (∀ q, covOf kvs' q = (covOf kvs q || (decide (q ∈ others.take j) && f one q))) ∧ kvs'.length ≤ kvs.length + j ∧
          σ' = [some (V.ref na), some (V.ref oa), some (V.ref pa), some (V.ref cd), some (intV one), some (V.bl true), y6]) ⟨kvs, y6, rfl, fun q => by simp, Nat.le_refl _, rfl⟩ ?_ ?_)
        · rintro j x σ' B5 M' H5 hj hx l5 h5 ⟨kvs', y6, rfl, hc, hl, rfl⟩
          obtain ⟨p, ep, rfl⟩ := map_some hx
          rw [List.length_map] at hj
          have ts : others.take (j + 1) = others.take j ++ [p] := by rw [List.take_add_one, ep]; rfl
          walk_at "v"
          refine v_size (xs := [intV one, intV p]) (by show 2 ≤ sizeLine; decide) (v_newB h5 fun tp B6 H6 l6 h6 e6 => ?_)
          walk_at "v"
          refine v_dinT (k := pairK one p) (h6.sub _ _ (l6 _ _ (l5 _ _ (l23 _ _ hN0)))) (h6.sub _ _ e6) ?_
          rw [hf one p]
          walk_at "v"
          refine ite2 (fun c1 => ?_) (fun c1 => ?_)
          · walk_at "v"
            refine v_dputII h6 0 rfl (by have : i * 100 ≤ 100 * 100 := Nat.mul_le_mul_right 100 (by omega); omega) fun H7 h7 => ?_
            try dsimp only
            refine IV.mk (l5.trans l6) h7 ⟨_, _, rfl, fun q => ?_, Nat.le_trans (length_putK _ _ _) (by omega), rfl⟩
            rw [cov_put, hc, ts]
            by_cases e : q = p
            · subst e
              rw [decide_eq_true rfl, c1, decide_eq_true (show q ∈ others.take j ++ [q] by simp)]
              simp
            · rw [decide_eq_false e, Bool.or_false]
              by_cases hq : q ∈ others.take j
              · rw [decide_eq_true hq, decide_eq_true (List.mem_append_left _ hq)]
              · rw [decide_eq_false hq, decide_eq_false (show ¬ q ∈ others.take j ++ [p] by simp [hq, e])]
          · walk_at "v"
            try dsimp only
            refine IV.mk (l5.trans l6) h6 ⟨_, _, rfl, fun q => ?_, by omega, rfl⟩
            rw [hc, ts]
            have c1 : f one p = false := Bool.eq_false_iff.mpr c1
            by_cases e : q = p
            · subst e
              rw [c1, Bool.and_false, Bool.and_false]
            · by_cases hq : q ∈ others.take j
              · rw [decide_eq_true hq, decide_eq_true (List.mem_append_left _ hq)]
              · rw [decide_eq_false hq, decide_eq_false (show ¬ q ∈ others.take j ++ [p] by simp [hq, e])]
        · rintro σ' B5 M' H5 l5 h5 ⟨kvs', y6, rfl, hc, hl, rfl⟩
          rw [List.length_map] at hl
          rw [List.length_map, List.take_length] at hc
          try dsimp only
          refine IV.mk (l2'.trans (l3.trans l5)) h5 ⟨kvs', _, _, _, rfl, ?_, by rw [Nat.succ_mul]; omega, rfl⟩
          rw [show covOf kvs' = more f others one (covOf kvs) from funext fun q => hc q]
          exact hu
  · rintro σ' B2 M' H2 l2' h2 ⟨kvs, y4, y5, y6, rfl, hu, hk, rfl⟩
    rw [List.length_map, List.drop_length] at hu
    walk_at "v"
    have := q B2 H2 l2' h2.drop
    rw [← hu] at this
    exact this
section
variable {P : Program} {w : World} {K : PySem.W.Frag} {mg : Str → Option Value} {base : Heap}
theorem ok_same (T : Txt K mg w) : FnOk P w K mg base CX0 1 T.a_same T.fd_same ["_law_row", "_law_other"] (sp_same K) := by
  refine T.F_same.ok sc_same (fun vs H Q E h => ?_) (fun cdv A outer s H vs Q E hr h => ⟨t_same K, ?_, pure_same vs H Q E h⟩)
  · obtain ⟨B, M, r, o, rfl, _⟩ := h
    rfl
  · exact (pss_cons (ps_set (i := 2) sc_same.nd rfl (by first | exact Or.inl rfl | exact Or.inr rfl) (pe_lst pa_nil))
      (pss_cons (ps_for PassesOwn.never rfl (pi_range1 (by rfl) (T.free_range) (pa_cons (pe_callB call_len (by rfl) (T.free_len) (by decide +kernel) (pa_cons (pv 0) pa_nil)) pa_nil)) (pg_name (i := 3) sc_same.nd rfl (by first | exact Or.inl rfl | exact Or.inr rfl)) (pss_one (ps_for PassesOwn.never rfl (pi_range1 (by rfl) (T.free_range) (pa_cons (pe_callB call_len (by rfl) (T.free_len) (by decide +kernel) (pa_cons (pv 1) pa_nil)) pa_nil)) (pg_name (i := 4) sc_same.nd rfl (by first | exact Or.inl rfl | exact Or.inr rfl)) (pss_one (ps_if (pt_cmpR op_eq (pe_ix ix_str (pv 0) (pv 3) (fun _ _ => rfl)) (pe_ix ix_str (pv 1) (pv 4) (fun _ _ => rfl)) (nomark _)) (pss_one (ps_expr (pe_bm PySem.F.plainAttrs_list PySem.F.slot_list_append PySem.F.type_list_append mt_append (pv 2) (pa_cons (pe_tup (pa_cons (pv 3) (pa_cons (pv 4) pa_nil))) pa_nil)))) pss_nil)))))
      (pss_one (ps_ret (pv 2)))))
theorem ok_beyond (T : Txt K mg w) : FnOk P w K mg base CX0 1 T.a_beyond T.fd_beyond ["_law_place", "_law_size", "_law_later"] (sp_beyond K) := by
  refine T.F_beyond.ok sc_beyond (fun vs H Q E h => ?_) (fun cdv A outer s H vs Q E hr h => ⟨t_beyond K, ?_, pure_beyond vs H Q E h⟩)
  · obtain ⟨B, M, k, n, later, rfl, _⟩ := h
    rfl
  · exact (pss_cons (ps_if (pt_val (pv 2)) (pss_one (ps_ret (pe_lc (own := [("_law_one", 3)]) (g := (gName 3)) (tt := tYes) rfl sc_beyond.nd (pi_range2 (by rfl) (T.free_range) (pa_cons (pe_op op_add (pv 0) pe_int) (pa_cons (pv 1) pa_nil))) (blkOk_by (own := [("_law_one", 3)]) (N := n_beyond) (sc := defScope s_beyond) (by decide +kernel)) (fun _ _ _ _ _ => (pg_name (i := 3) sc_beyond.nd rfl (Or.inl rfl))) (fun _ _ _ _ _ => pts_nil) (fun _ _ _ _ _ => (pv 3))))) pss_nil)
      (pss_one (ps_ret (pe_lc (own := [("_law_one", 3)]) (g := (gName 3)) (tt := tYes) rfl sc_beyond.nd (pi_range1 (by rfl) (T.free_range) (pa_cons (pv 0) pa_nil)) (blkOk_by (own := [("_law_one", 3)]) (N := n_beyond) (sc := defScope s_beyond) (by decide +kernel)) (fun _ _ _ _ _ => (pg_name (i := 3) sc_beyond.nd rfl (Or.inl rfl))) (fun _ _ _ _ _ => pts_nil) (fun _ _ _ _ _ => (pe_op op_sub (pe_op op_sub (pv 0) pe_int) (pv 3)))))))
theorem ok_answered (T : Txt K mg w) : FnOk P w K mg base CX0 1 T.a_answered T.fd_answered ["_law_near", "_law_ones", "_law_others"] (sp_answered K) := by
  refine T.F_answered.ok sc_answered (fun vs H Q E h => ?_) (fun cdv A outer s H vs Q E hr h => ⟨t_answered K, ?_, pure_answered vs H Q E h⟩)
  · obtain ⟨B, M, na, oa, pa, kn, f, ones, others, rfl, _⟩ := h
    rfl
  · exact (pss_cons (ps_set (i := 3) sc_answered.nd rfl (by first | exact Or.inl rfl | exact Or.inr rfl) pe_dnewK)
      (pss_cons (ps_for PassesOwn.never rfl (pi_list (pv 1)) (pg_name (i := 4) sc_answered.nd rfl (by first | exact Or.inl rfl | exact Or.inr rfl)) (pss_cons (ps_set (i := 5) sc_answered.nd rfl (by first | exact Or.inl rfl | exact Or.inr rfl) pe_bl)
      (pss_cons (ps_for PassesOwn.never rfl (pi_list (pv 2)) (pg_name (i := 6) sc_answered.nd rfl (by first | exact Or.inl rfl | exact Or.inr rfl)) (pss_cons (ps_if (pt_cmp (pc_din (hu_of hr) (pe_tup (pa_cons (pv 4) (pa_cons (pv 6) pa_nil))) (pv 0))) (pss_cons (ps_set (i := 5) sc_answered.nd rfl (by first | exact Or.inl rfl | exact Or.inr rfl) pe_bl)
      (pss_one ps_break)) pss_nil)
      (pss_one (ps_if (pt_cmp (pc_dnotin (hu_of hr) (pv 6) (pv 3))) (pss_one ps_break) pss_nil))))
      (pss_cons (ps_if (pt_not (pt_val (pv 5))) (pss_one (ps_ret pe_bl)) pss_nil)
      (pss_one (ps_for PassesOwn.never rfl (pi_list (pv 2)) (pg_name (i := 6) sc_answered.nd rfl (by first | exact Or.inl rfl | exact Or.inr rfl)) (pss_one (ps_if (pt_cmp (pc_din (hu_of hr) (pe_tup (pa_cons (pv 4) (pa_cons (pv 6) pa_nil))) (pv 0))) (pss_one (ps_dput (hu_of hr) (pv 3) (pv 6) pe_bl rfl)) pss_nil))))))))
      (pss_one (ps_ret pe_bl))))
end
end K52
set_option Elab.async false
set_option linter.all false
set_option maxRecDepth 100000
set_option maxHeartbeats 8000000
namespace K52
open PySem PySem.Spec PyProof.Rows L2 Sh
open SX (S)
local macro_rules | `(tactic| walk_at "v1") => `(tactic| first
  | with_reducible refine v_seq ?_ | with_reducible refine v_asg ?_ | ((with_reducible refine' v_name ?e ?_); (case e => exact rfl)) | with_reducible refine v_ret ?_ | with_reducible refine v_drop ?_ | with_reducible refine v_next ?_
  | with_reducible refine v_if ?_ | with_reducible refine v_op ?_ | with_reducible refine v_c ?_ | ((with_reducible refine' v_var ?e ?_); (case e => exact rfl))
  | with_reducible refine v_I0 ?_ | with_reducible refine v_test ?_ | with_reducible refine v_B ?_ | with_reducible refine v_bl ?_ | with_reducible refine v_not ?_ | with_reducible refine v_and ?_ | with_reducible refine v_or ?_
  | with_reducible refine v_andV ?_ | with_reducible refine v_orV ?_ | with_reducible refine v_notV ?_ | with_reducible refine v_ife ?_
  | with_reducible refine v_nil ?_ | with_reducible refine v_cons ?_ | with_reducible refine v_tup ?_ | with_reducible refine v_lst ?_ | with_reducible refine v_call ?_ | with_reducible refine v_cb ?_ | with_reducible refine v_int ?_ | with_reducible refine v_abs ?_
  | ((with_reducible refine' v_eq ?e ?_); (case e => exact rfl)) | ((with_reducible refine' v_ne ?e ?_); (case e => exact rfl)) | with_reducible refine v_sub ?_ | with_reducible refine v_isN ?_ | with_reducible refine v_notN ?_
  | with_reducible refine v_part ?_ | with_reducible refine v_nopart ?_ | with_reducible refine v_pint ?_ | with_reducible refine v_inSg ?_ | with_reducible refine v_notInSg ?_
  | ((with_reducible refine' v_ixL ?l ?a ?_); (case l => assumption); (case a => exact at_lit _ rfl)) | ((with_reducible refine' v_ixT ?l ?a ?_); (case l => assumption); (case a => exact at_lit _ rfl))
  | ((with_reducible refine v_I ?c ?_); (case c => (first | omega | (unfold CMul; omega) | (unfold CDivN; omega) | (unfold CPow; omega))))
  | with_reducible refine v_for ?_ | with_reducible refine v_iList ?_ | with_reducible refine v_iTup ?_ | with_reducible refine v_iStr ?_ | with_reducible refine v_iR1 ?_ | with_reducible refine v_iR2 ?_ | with_reducible refine v_atS ?_ | with_reducible refine v_sl ?_ | with_reducible refine v_lc ?_ | with_reducible refine v_yes ?_
  | with_reducible refine v_m1 ?_ | with_reducible refine v_m1S ?_ | with_reducible refine v_bm ?_ | with_reducible refine v_bm0 ?_ | with_reducible refine v_dnewK ?_ | with_reducible refine v_dnewT ?_ | with_reducible refine v_dget ?_ | with_reducible refine v_din ?_ | with_reducible refine v_dnotin ?_ | with_reducible refine v_dput ?_ | with_reducible refine v_chain ?_ | with_reducible refine v_un ?_ | with_reducible refine v_neg ?_
  | with_reducible refine v_brk ?_ | with_reducible refine v_cont ?_
  | with_reducible refine v_fld ?_ | with_reducible refine v_sfld ?_ | with_reducible refine v_meth ?_ | with_reducible refine v_methT ?_ | with_reducible refine v_make ?_ | with_reducible refine v_makeT ?_ | with_reducible refine v_dget2 ?_ | with_reducible refine v_enumS ?_ | with_reducible refine v_enumQ ?_ | with_reducible refine v_lc2 ?_ | with_reducible refine v_isB ?_ | with_reducible refine v_notB ?_ | with_reducible refine v_lstRg2 ?_ | with_reducible refine v_lstRg3 ?_)
local macro_rules | `(tactic| walk_at "v") => `(tactic| repeat (walk_at "v1"))
local macro_rules | `(tactic| walk_at "vm") => `(tactic| repeat (first | ((with_reducible refine v_modP ?c ?_); (case c => omega); (intro _ _ _)) | walk_at "v1"))
local macro_rules | `(tactic| walk_at "iv") => `(tactic| (try dsimp only; refine IV.mk (by assumption) (by assumption) ?_))
local macro_rules | `(tactic| walk_at "n") => `(tactic| dsimp only [List.set_cons_zero, List.set_cons_succ])
/-- a pair of places -/
theorem rp_cell {K : PySem.W.Frag} {B : Hp} {v : V} {p : Nat × Nat} (h : Rp K B v (cellD p)) : ∃ a, v = .ref a ∧ B a = some (.tup [intV p.1, intV p.2]) := by
  obtain ⟨a, xs, rfl, hA, hX⟩ := rp_mk (l := false) h
  refine ⟨a, rfl, ?_⟩
  cases hX with
  | cons h1 h2 =>
    cases h2 with
    | cons h2 h3 =>
      cases h3
      cases h1
      cases h2
      exact hA
theorem near_put {kvs : List (List Key × V)} {f : Rel} (h : NearD kvs f) (k j : Nat) (v : V) : NearD (putK kvs (pairK k j) v) fun a b => f a b || decide ((a, b) = (k, j)) := fun a b => by
  rw [valV_put]
  show _ = (f a b || decide ((a, b) = (k, j)))
  by_cases e : pairK a b = pairK k j
  · rw [if_pos e, decide_eq_true (pairK_inj.mp e), Bool.or_true]
    rfl
  · rw [if_neg e, decide_eq_false (fun z => e (pairK_inj.mpr z)), Bool.or_false]
    exact h a b
/-! ### _law_below -/
def sp_below (K : PySem.W.Frag) : Sp := fun vs H Q _ => ∃ (B : Hp) (M : List (Addr × HO)) (v : V) (r o : List Nat) (f : Rel), vs = [.str (S r), .str (S o), v, v] ∧ Hs B M H ∧ r.length ≤ 100 ∧ o.length ≤ 100 ∧ Rp K B v (levD true (cells r.length o.length f)) ∧
  ∀ (v' : V) (B' H' : Hp), Le B B' → Hs B' M H' → Rp K B' v' (levD true (cells r.length o.length (next r.length o.length f))) → Q v' H'
def t_below (K : PySem.W.Frag) : TS := (tSeq (tAsg tDNewT (gName 4))
    (tSeq (tAsg tDNewT (gName 5))
    (tSeq (tFor (iList K (tVar 2)) (gName 6) (tSeq (sDPut (tVar 4) (tTup (tCons (tOp (rIxT K) (tVar 6) (tC (.int 0))) (tCons (tOp (rIxT K) (tVar 6) (tC (.int 1))) tNil))) (tC (.bl true)))
    (sDPut (tVar 5) (tTup (tCons (tOp (rIxT K) (tVar 6) (tC (.int 1))) (tCons (tOp (rIxT K) (tVar 6) (tC (.int 0))) tNil))) (tC (.bl true)))))
    (tSeq (tAsg (tLst tNil) (gName 7))
    (tSeq (tFor (iList K (tVar 3)) (gName 6) (tSeq (tAsg (tC (.bl true)) (gName 8))
    (tSeq (tFor (iTup K (tTup (tCons (tC (.bl true)) (tCons (tC (.bl false)) tNil)))) (gName 9) (tSeq (tAsg (tCall (sp_beyond K) [] E0 (tCons (tOp (rIxT K) (tVar 6) (tC (.int 0))) (tCons (tCB (rCLen K) (tCons (tVar 0) tNil)) (tCons (tVar 9) tNil)))) (gName 10))
    (tSeq (tAsg (tCall (sp_beyond K) [] E0 (tCons (tOp (rIxT K) (tVar 6) (tC (.int 1))) (tCons (tCB (rCLen K) (tCons (tVar 1) tNil)) (tCons (tVar 9) tNil)))) (gName 11))
    (tIfS (tOr (tNot (tB (tCall (sp_answered K) [] E0 (tCons (tVar 4) (tCons (tVar 10) (tCons (tVar 11) tNil)))))) (tNot (tB (tCall (sp_answered K) [] E0 (tCons (tVar 5) (tCons (tVar 11) (tCons (tVar 10) tNil))))))) (tSeq (tAsg (tC (.bl false)) (gName 8))
    tBreak) tNext))))
    (tIfS (tB (tVar 8)) (tDrop (tBM K "list" rAppend (tVar 7) (tCons (tVar 6) tNil))) tNext))))
    (tRet (tVar 7)))))))
theorem pure_below {K : PySem.W.Frag} (vs : List V) (H : Hp) (Q : VK) (E : XK) (h : sp_below K vs H Q E) : t_below K { nx := fun _ H' => Q .non H', rt := Q } (start n_below vs) H := by
  obtain ⟨B, M, v, r, o, f, rfl, hs, r12, o12, hv, q⟩ := h
  obtain ⟨la, xs, rfl, hL, hX⟩ := rp_mk (l := true) hv
  have lenX : xs.length ≤ 10000 := by
    rw [hX.length, List.length_map]
    have := cells_len (n := r.length) (m := o.length) f
    have : r.length * o.length ≤ 100 * 100 := Nat.mul_le_mul r12 o12
    omega
  generalize hC : cells r.length o.length f = C at hX hv
  show t_below K _ [some (V.str (S r)), some (V.str (S o)), some (V.ref la), some (V.ref la), none, none, none, none, none, none, none, none] H
  unfold t_below
  walk_at "v"
  refine v_newM hs fun nd H1 h1 => ?_
  walk_at "v"
  refine v_newM h1 fun bd H2 h2 => ?_
  walk_at "v"
  have item : ∀ {i : Nat} {x : V}, xs[i]? = some x → ∃ a p, x = .ref a ∧ C[i]? = some p ∧ B a = some (.tup [intV p.1, intV p.2]) := fun hx => by
    obtain ⟨d, ed, hd⟩ := hX.getV hx
    rw [List.getElem?_map] at ed
    obtain ⟨p, ep, rfl⟩ := Option.map_eq_some_iff.mp ed
    obtain ⟨a, rfl, ha⟩ := rp_cell hd
    exact ⟨a, p, rfl, ep, ha⟩
  refine v_atL (h2.l hL) (v_forL hL h2 (fun i σ' B' M' => ∃ (kn kb : List (List Key × V)) (y6 : Option V), M' = (bd, .dT kb) :: (nd, .dT kn) :: M ∧ NearD kn (fun a b => decide ((a, b) ∈ C.take i)) ∧ NearD kb (fun a b => decide ((b, a) ∈ C.take i)) ∧ kn.length ≤ i ∧ kb.length ≤ i ∧
    σ' = [some (V.str (S r)), some (V.str (S o)), some (V.ref la), some (V.ref la), some (V.ref nd), some (V.ref bd), y6, none, none, none, none, none]) ⟨[], [], none, rfl, fun a b => by simp [valV], fun a b => by simp [valV], Nat.le_refl _, Nat.le_refl _, rfl⟩ ?_ ?_)
  · rintro i x σ' B2 M' H3 hi hx l3 h3 ⟨kn, kb, y6, rfl, hn, hb, ln, lb, rfl⟩
    obtain ⟨a, p, rfl, ep, ha⟩ := item hx
    have ha2 : SqT K B2 a [intV p.1, intV p.2] := SqT.of (l3 _ _ ha)
    have ts : C.take (i + 1) = C.take i ++ [p] := by rw [List.take_add_one, ep]; rfl
    walk_at "v"
    refine v_ixT (h3.t ha2) (at_lit 0 rfl) ?_
    walk_at "v"
    refine v_ixT (h3.t ha2) (at_lit 1 rfl) ?_
    walk_at "v"
    refine v_size (xs := [intV p.1, intV p.2]) (by show 2 ≤ sizeLine; decide) (v_newB h3 fun tp B4 H4 l4 h4 e4 => ?_)
    refine v_dputTI (k := pairK p.1 p.2) h4 1 rfl e4 (by omega) fun H5 h5 => ?_
    walk_at "v"
    have ha4 := le_t l4 ha2
    refine v_ixT (h5.t ha4) (at_lit 1 rfl) ?_
    walk_at "v"
    refine v_ixT (h5.t ha4) (at_lit 0 rfl) ?_
    walk_at "v"
    refine v_size (xs := [intV p.2, intV p.1]) (by show 2 ≤ sizeLine; decide) (v_newB h5 fun tp2 B6 H6 l6 h6 e6 => ?_)
    refine v_dputTI (k := pairK p.2 p.1) h6 0 rfl e6 (by omega) fun H7 h7 => ?_
    try dsimp only
    refine IV.mk (l3.trans (l4.trans l6)) h7 ⟨_, _, _, rfl, ?_, ?_, Nat.le_trans (length_putK _ _ _) (by omega), Nat.le_trans (length_putK _ _ _) (by omega), rfl⟩
    · intro c d
      rw [near_put hn p.1 p.2 _ c d, ts]
      show (decide ((c, d) ∈ C.take i) || decide ((c, d) = (p.1, p.2))) = decide ((c, d) ∈ C.take i ++ [p])
      by_cases e : (c, d) = p
      · rw [decide_eq_true (show (c, d) = (p.1, p.2) from e), Bool.or_true, decide_eq_true (by rw [e]; simp)]
      · rw [decide_eq_false (show ¬ (c, d) = (p.1, p.2) from e), Bool.or_false]
        simp [e]
    · intro c d
      rw [near_put hb p.2 p.1 _ c d, ts]
      show (decide ((d, c) ∈ C.take i) || decide ((c, d) = (p.2, p.1))) = decide ((d, c) ∈ C.take i ++ [p])
      by_cases e : (d, c) = p
      · have e2 : (c, d) = (p.2, p.1) := by rw [← e]
        rw [decide_eq_true e2, Bool.or_true, decide_eq_true (by rw [e]; simp)]
      · have e2 : ¬ (c, d) = (p.2, p.1) := fun z => e (by
          injection z with z1 z2
          exact Prod.ext z2 z1)
        rw [decide_eq_false e2, Bool.or_false]
        simp [e]
  · rintro σ' B2 M' H3 l3 h3 ⟨kn, kb, y6, rfl, hn, hb, ln, lb, rfl⟩
    have cl : C.take xs.length = C := by rw [hX.length, List.length_map, List.take_length]
    rw [cl] at hn hb
    obtain ⟨h4, l4⟩ := h3.fix
    obtain ⟨h5, l5⟩ := h4.fix
    generalize hB5 : upd (upd B2 bd (.dT kb)) nd (.dT kn) = B5 at h5 l5
    have eN : B5 nd = some (.dT kn) := by rw [← hB5]; exact upd_same
    have eB : B5 bd = some (.dT kb) := l5 _ _ upd_same
    have l35 := l3.trans (l4.trans l5)
    walk_at "v"
    refine v_size (by show 0 ≤ sizeLine; decide) (v_newM h5 fun td H6 h6 => ?_)
    walk_at "v"
    have hL5 := le_l l35 hL
    refine v_atL (h6.l hL5) (v_forL hL5 h6 (fun i σ' B' M' => ∃ (ts : List V) (y6 y8 y9 y10 y11 : Option V), M' = (td, .lst ts) :: M ∧ RpAll K B' ts (((C.take i).filter fun p => stays r.length o.length f p.1 p.2).map cellD) ∧
      σ' = [some (V.str (S r)), some (V.str (S o)), some (V.ref la), some (V.ref la), some (V.ref nd), some (V.ref bd), y6, some (V.ref td), y8, y9, y10, y11]) ⟨[], _, _, _, _, _, rfl, .nil, rfl⟩ ?_ ?_)
    · rintro i x σ' B7 M' H7 hi hx l7 h7 ⟨ts, y6, y8, y9, y10, y11, rfl, ht, rfl⟩
      obtain ⟨a, p, rfl, ep, ha⟩ := item hx
      have ha7 : SqT K B7 a [intV p.1, intV p.2] := SqT.of (l7 _ _ (l35 _ _ ha))
      have hp : p ∈ C := List.mem_of_getElem? ep
      rw [← hC] at hp
      obtain ⟨p1, p2, p3⟩ := mem_cells.mp hp
      have fe : ∀ a b, a < r.length → b < o.length → (fun a b => decide ((a, b) ∈ C)) a b = f a b := fun a b ha hb => by
        show decide ((a, b) ∈ C) = f a b
        rw [← hC]
        cases e : f a b with
        | true => exact decide_eq_true (mem_cells.mpr ⟨ha, hb, e⟩)
        | false => exact decide_eq_false fun z => by have := (mem_cells.mp z).2.2; rw [e] at this; cases this
      have se : ∀ later, (ans (fun a b => decide ((a, b) ∈ C)) (bey later p.2 o.length) noC (bey later p.1 r.length) && ans (fun a b => decide ((b, a) ∈ C)) (bey later p.1 r.length) noC (bey later p.2 o.length)) = stay1 r.length o.length f p.1 p.2 later := fun later => stay1_congr fe p1 p2
      walk_at "v1"
      dsimp only
      walk_at "v1"
      walk_at "v1"
      walk_at "v1"
      walk_at "v1"
      dsimp only
      refine v_seqP (fun σ' H' => ∃ (B' : Hp) (y9 y10 y11 : Option V), Le B7 B' ∧ Hs B' ((td, .lst ts) :: M) H' ∧ σ' = [some (V.str (S r)), some (V.str (S o)), some (V.ref la), some (V.ref la), some (V.ref nd), some (V.ref bd), some (V.ref a), some (V.ref td), some (V.bl (stays r.length o.length f p.1 p.2)), y9, y10, y11]) (fun N hN => ?_) ?_
      · walk_at "v"
        refine v_size (xs := [V.bl true, V.bl false]) (by show 2 ≤ sizeLine; decide) (v_newB h7 fun tt B8 H8 l8 h8 e8 => ?_)
        refine v_atT (h8.t (SqT.of e8)) (v_forT (SqT.of e8) h8 (fun j σ' B' M' => M' = (td, .lst ts) :: M ∧ (1 ≤ j → stay1 r.length o.length f p.1 p.2 true = true) ∧ (2 ≤ j → stay1 r.length o.length f p.1 p.2 false = true) ∧ ∃ (y9 y10 y11 : Option V),
          σ' = [some (V.str (S r)), some (V.str (S o)), some (V.ref la), some (V.ref la), some (V.ref nd), some (V.ref bd), some (V.ref a), some (V.ref td), some (V.bl true), y9, y10, y11]) ⟨rfl, fun z => absurd z (by decide), fun z => absurd z (by decide), _, _, _, rfl⟩ ?_ ?_)
        · rintro j x σ' B9 M' H9 hj hx l9 h9 ⟨rfl, i1, i2, y9, y10, y11, rfl⟩
          obtain ⟨later, rfl, hf, ht2⟩ : ∃ later, x = .bl later ∧ (stay1 r.length o.length f p.1 p.2 later = false → stays r.length o.length f p.1 p.2 = false) ∧ (stay1 r.length o.length f p.1 p.2 later = true → (1 ≤ j + 1 → stay1 r.length o.length f p.1 p.2 true = true) ∧ (2 ≤ j + 1 → stay1 r.length o.length f p.1 p.2 false = true)) := by
            rcases (show j = 0 ∨ j = 1 by have : j < 2 := hj; omega) with rfl | rfl
            · cases hx
              exact ⟨true, rfl, fun h => by unfold stays; rw [h, Bool.false_and], fun h => ⟨fun _ => h, fun z => absurd z (by decide)⟩⟩
            · cases hx
              exact ⟨false, rfl, fun h => by unfold stays; rw [h, Bool.and_false], fun h => ⟨fun _ => i1 (Nat.le_refl _), fun _ => h⟩⟩
          have l79 := l8.trans l9
          have ha9 := le_t l79 ha7
          walk_at "v"
          refine v_ixT (h9.t ha9) (at_lit 0 rfl) ?_
          walk_at "v"
          refine v_lenS (by rw [S_length]; exact sz_of (by omega)) ?_
          walk_at "v"
          rw [S_length]
          refine ⟨B9, _, p.1, r.length, later, rfl, h9, by omega, by omega, fun op B10 H10 l10 h10 e10 => ?_⟩
          walk_at "v"
          refine v_ixT (h10.t (le_t l10 ha9)) (at_lit 1 rfl) ?_
          walk_at "v"
          refine v_lenS (by rw [S_length]; exact sz_of (by omega)) ?_
          walk_at "v"
          rw [S_length]
          refine ⟨B10, _, p.2, o.length, later, rfl, h10, by omega, by omega, fun pp B11 H11 l11 h11 e11 => ?_⟩
          have l711 := l7.trans (l79.trans (l10.trans l11))
          have b1 := bey_len (later := later) p1
          have b2 := bey_len (later := later) p2
          walk_at "v"
          refine ⟨B11, _, nd, op, pp, kn, _, bey later p.1 r.length, bey later p.2 o.length, rfl, h11, l711 _ _ eN, hn, SqL.of (l11 _ _ e10), SqL.of e11, by omega, by omega, fun B12 H12 l12 h12 => ?_⟩
          walk_at "v"
          have se := se later
          have bad : stays r.length o.length f p.1 p.2 = false → ∀ (B' H' : Hp) (y9 y10 y11 : Option V), Le B11 B' → Hs B' ((td, .lst ts) :: M) H' → N [some (V.str (S r)), some (V.str (S o)), some (V.ref la), some (V.ref la), some (V.ref nd), some (V.ref bd), some (V.ref a), some (V.ref td), some (V.bl false), y9, y10, y11] H' :=
            fun hz B' H' y9 y10 y11 l h => hN _ _ ⟨B', y9, y10, y11, l79.trans (l10.trans (l11.trans l)), h, by rw [hz]⟩
          cases c0 : ans (fun a b => decide ((a, b) ∈ C)) (bey later p.2 o.length) noC (bey later p.1 r.length) with
          | false =>
            rw [c0, Bool.false_and] at se
            refine iteT' rfl ?_
            refine iteT ?_
            walk_at "v"
            exact bad (hf se.symm) B12 H12 _ _ _ l12 h12
          | true =>
            rw [c0, Bool.true_and] at se
            refine iteF' rfl ?_
            walk_at "v"
            refine ⟨B12, _, bd, pp, op, kb, _, bey later p.2 o.length, bey later p.1 r.length, rfl, h12, l12 _ _ (l711 _ _ eB), hb, SqL.of (l12 _ _ e11), SqL.of (l12 _ _ (l11 _ _ e10)), by omega, by omega, fun B13 H13 l13 h13 => ?_⟩
            walk_at "v"
            cases c1 : ans (fun a b => decide ((b, a) ∈ C)) (bey later p.1 r.length) noC (bey later p.2 o.length) with
            | false =>
              rw [c1] at se
              refine iteT' rfl ?_
              walk_at "v"
              exact bad (hf se.symm) B13 H13 _ _ _ (l12.trans l13) h13
            | true =>
              rw [c1] at se
              refine iteF' rfl ?_
              walk_at "v"
              try dsimp only
              exact IV.mk (l9.trans (l10.trans (l11.trans (l12.trans l13)))) h13 ⟨rfl, (ht2 se.symm).1, (ht2 se.symm).2, _, _, _, rfl⟩
        · rintro σ' B9 M' H9 l9 h9 ⟨rfl, i1, i2, y9, y10, y11, rfl⟩
          have e : stays r.length o.length f p.1 p.2 = true := by unfold stays; rw [i1 (by show 1 ≤ 2; decide), i2 (Nat.le_refl 2)]; rfl
          exact hN _ _ ⟨B9, y9, y10, y11, l8.trans l9, h9, by rw [e]⟩
      · rintro σ' H8 ⟨B8, y9, y10, y11, l8, h8, rfl⟩
        walk_at "v"
        have ts1 : (C.take (i + 1)).filter (fun p => stays r.length o.length f p.1 p.2) = (C.take i).filter (fun p => stays r.length o.length f p.1 p.2) ++ if stays r.length o.length f p.1 p.2 = true then [p] else [] := by
          rw [List.take_add_one, ep, List.filter_append]
          show _ ++ List.filter _ [p] = _
          rw [List.filter_cons, List.filter_nil]
        have tl : ts.length ≤ 10000 := by
          rw [ht.length, List.length_map]
          refine Nat.le_trans (List.length_filter_le _ _) ?_
          rw [List.length_take]
          omega
        refine ite2 (fun c0 => ?_) (fun c0 => ?_)
        · walk_at "v"
          refine v_bmL (h8.atI 0 rfl) ?_
          walk_at "v"
          refine v_appI h8 0 rfl (by omega) fun H9 h9 => ?_
          try dsimp only
          refine IV.mk (l7.trans l8) h9 ⟨_, _, _, _, _, _, rfl, ?_, rfl⟩
          rw [ts1, if_pos c0, List.map_append]
          exact (ht.up l8).append (.one (.tup (l8 _ _ (l7 _ _ (l35 _ _ ha))) (.cons (.int _) (.cons (.int _) .nil))))
        · walk_at "v"
          try dsimp only
          refine IV.mk (l7.trans l8) h8 ⟨_, _, _, _, _, _, rfl, ?_, rfl⟩
          rw [ts1, if_neg c0, List.append_nil]
          exact ht.up l8
    · rintro σ' B7 M' H7 l7 h7 ⟨ts, y6, y8, y9, y10, y11, rfl, ht, rfl⟩
      rw [cl, ← hC, cells_filter f fun p => stays r.length o.length f p.1 p.2] at ht
      walk_at "v"
      obtain ⟨h8, l8⟩ := h7.fix
      exact q _ _ _ (l35.trans (l7.trans l8)) h8 (.lst (SqL.of upd_same) (ht.up l8))
/-! ### _law_levels -/
def fullD (n m : Nat) (fs : List Rel) : PyData := .list (fs.map fun f => levD true (cells n m f))
def sp_levels (K : PySem.W.Frag) : Sp := fun vs H Q _ => ∃ (B : Hp) (M : List (Addr × HO)) (r o : List Nat), vs = [.str (S r), .str (S o)] ∧ Hs B M H ∧ r.length ≤ 12 ∧ o.length ≤ 12 ∧
  ∀ (v' : V) (B' H' : Hp), Le B B' → Hs B' M H' → Rp K B' v' (fullD r.length o.length (levels r.length o.length (rel0 r o))) → Q v' H'
def t_levels (K : PySem.W.Frag) : TS := (tSeq (tAsg (tCall (sp_same K) [] E0 (tCons (tVar 0) (tCons (tVar 1) tNil))) (gName 2))
    (tSeq (tAsg (tLst (tCons (tVar 2) tNil)) (gName 3))
    (tSeq (tFor (iRng1 (tCons (tC (.int 150)) tNil)) (gName 4) (tSeq (tAsg (tCall (sp_below K) [] E0 (tCons (tVar 0) (tCons (tVar 1) (tCons (tVar 2) (tCons (tVar 2) tNil))))) (gName 5))
    (tSeq (tIfS (tTest (tOp rEq (tCB (rCLen K) (tCons (tVar 5) tNil)) (tCB (rCLen K) (tCons (tVar 2) tNil)))) tBreak tNext)
    (tSeq (tDrop (tBM K "list" rAppend (tVar 3) (tCons (tVar 5) tNil)))
    (tAsg (tVar 5) (gName 2))))))
    (tRet (tVar 3)))))
theorem pure_levels {K : PySem.W.Frag} (vs : List V) (H : Hp) (Q : VK) (E : XK) (h : sp_levels K vs H Q E) : t_levels K { nx := fun _ H' => Q .non H', rt := Q } (start n_levels vs) H := by
  obtain ⟨B, M, r, o, rfl, hs, r12, o12, q⟩ := h
  show t_levels K _ [some (V.str (S r)), some (V.str (S o)), none, none, none, none] H
  unfold t_levels
  walk_at "v"
  refine ⟨B, M, r, o, rfl, hs, by omega, by omega, fun v1 B1 H1 l1 h1 hv1 => ?_⟩
  walk_at "v"
  refine v_size (xs := [v1]) (by show 1 ≤ sizeLine; decide) (v_newM h1 fun td H2 h2 => ?_)
  walk_at "v"
  refine v_atR1 (by decide) ?_
  have fin : ∀ (B' H' : Hp) (ts : List V) (fs : List Rel), Le B1 B' → Hs B' ((td, .lst ts) :: M) H' → RpAll K B' ts (fs.map fun f => levD true (cells r.length o.length f)) → levels r.length o.length (rel0 r o) = fs → Q (.ref td) H' := fun B' H' ts fs l h ht e => by
    obtain ⟨h3, l3⟩ := h.fix
    refine q _ _ _ (l1.trans (l.trans l3)) h3 (.lst (SqL.of upd_same) ?_)
    rw [e]
    exact ht.up l3
  refine v_forR h2 (fun i σ' B' M' => ∃ (ts : List V) (done : List Rel) (f : Rel) (v : V) (y4 y5 : Option V), M' = (td, .lst ts) :: M ∧ RpAll K B' ts ((done ++ [f]).map fun f => levD true (cells r.length o.length f)) ∧ Rp K B' v (levD true (cells r.length o.length f)) ∧ done.length = i ∧ (cells r.length o.length f).length + i ≤ 144 ∧
    levels r.length o.length (rel0 r o) = done ++ levels r.length o.length f ∧ σ' = [some (V.str (S r)), some (V.str (S o)), some v, some (V.ref td), y4, y5])
    ⟨[v1], [], rel0 r o, v1, none, none, rfl, .one hv1, hv1, rfl, by
      have := cells_len (n := r.length) (m := o.length) (rel0 r o)
      have : r.length * o.length ≤ 12 * 12 := Nat.mul_le_mul r12 o12
      omega, rfl, rfl⟩ ?_ ?_
  · rintro i σ' B3 M' H3 hi l3 h3 ⟨ts, done, f, v, y4, y5, rfl, ht, hv, hd, hm, hl, rfl⟩
    walk_at "v"
    refine ⟨B3, _, v, r, o, f, rfl, h3, by omega, by omega, hv, fun v5 B4 H4 l4 h4 hv5 => ?_⟩
    obtain ⟨a5, x5, rfl, hA5, hX5⟩ := rp_mk (l := true) hv5
    obtain ⟨a2, x2, rfl, hA2, hX2⟩ := rp_mk (l := true) hv
    walk_at "v"
    refine v_lenL (h4.l hA5) ?_
    walk_at "v"
    refine v_lenL (h4.l (le_l l4 hA2)) ?_
    walk_at "v"
    have e5 : x5.length = (cells r.length o.length (next r.length o.length f)).length := by rw [hX5.length, List.length_map]
    have e2 : x2.length = (cells r.length o.length f).length := by rw [hX2.length, List.length_map]
    refine ite2 (fun c0 => ?_) (fun c0 => ?_)
    · walk_at "v"
      have c1 := of_decide_eq_true c0
      have c1 : (x5.length : Int) = (x2.length : Int) := V.int.inj c1
      have c2 := next_len (n := r.length) (m := o.length) (f := f) (by omega)
      rw [levels_eq r.length o.length f, if_pos c2] at hl
      exact fin B4 H4 ts _ (l3.trans l4) h4 (ht.up l4) hl
    · have nc : cells r.length o.length (next r.length o.length f) ≠ cells r.length o.length f := fun z => c0 (decide_eq_true (by rw [e5, e2, z]))
      have lt := next_lt nc
      rw [levels_eq r.length o.length f, if_neg nc] at hl
      walk_at "v"
      refine v_bmL (h4.atI 0 rfl) ?_
      walk_at "v"
      refine v_appI h4 0 rfl (by rw [ht.length, List.length_map, List.length_append, hd]; show i + 1 ≤ _; omega) fun H5 h5 => ?_
      walk_at "v"
      try dsimp only
      refine IV.mk (l3.trans l4) h5 ⟨_, done ++ [f], next r.length o.length f, _, _, _, rfl, ?_, hv5, by rw [List.length_append, hd]; rfl, by omega, by rw [hl, List.append_assoc]; rfl, rfl⟩
      rw [List.map_append (l₂ := [next r.length o.length f])]
      exact (ht.up l4).append (.one hv5)
  · rintro σ' B3 M' H3 l3 h3 ⟨ts, done, f, v, y4, y5, rfl, ht, hv, hd, hm, hl, rfl⟩
    exact absurd hm (by show ¬ _ + 150 ≤ 144; omega)
section
variable {P : Program} {w : World} {K : PySem.W.Frag} {mg : Str → Option Value} {base : Heap}
theorem ok_below (T : Txt K mg w) : FnOk P w K mg base CX0 2 T.a_below T.fd_below ["_law_row", "_law_other", "_law_level", "_law_pairs"] (sp_below K) := by
  refine T.F_below.ok sc_below (fun vs H Q E h => ?_) (fun cdv A outer s H vs Q E hr h => ⟨t_below K, ?_, pure_below vs H Q E h⟩)
  · obtain ⟨B, M, v, r, o, f, rfl, _⟩ := h
    rfl
  · exact (pss_cons (ps_set (i := 4) sc_below.nd rfl (by first | exact Or.inl rfl | exact Or.inr rfl) pe_dnewT)
      (pss_cons (ps_set (i := 5) sc_below.nd rfl (by first | exact Or.inl rfl | exact Or.inr rfl) pe_dnewT)
      (pss_cons (ps_for PassesOwn.never rfl (pi_list (pv 2)) (pg_name (i := 6) sc_below.nd rfl (by first | exact Or.inl rfl | exact Or.inr rfl)) (pss_cons (ps_dput (hu_of hr) (pv 4) (pe_tup (pa_cons (pe_ix ix_tup (pv 6) pe_int (fun _ _ => rfl)) (pa_cons (pe_ix ix_tup (pv 6) pe_int (fun _ _ => rfl)) pa_nil))) pe_bl rfl)
      (pss_one (ps_dput (hu_of hr) (pv 5) (pe_tup (pa_cons (pe_ix ix_tup (pv 6) pe_int (fun _ _ => rfl)) (pa_cons (pe_ix ix_tup (pv 6) pe_int (fun _ _ => rfl)) pa_nil))) pe_bl rfl))))
      (pss_cons (ps_set (i := 7) sc_below.nd rfl (by first | exact Or.inl rfl | exact Or.inr rfl) (pe_lst pa_nil))
      (pss_cons (ps_for PassesOwn.never rfl (pi_list (pv 3)) (pg_name (i := 6) sc_below.nd rfl (by first | exact Or.inl rfl | exact Or.inr rfl)) (pss_cons (ps_set (i := 8) sc_below.nd rfl (by first | exact Or.inl rfl | exact Or.inr rfl) pe_bl)
      (pss_cons (ps_for PassesOwn.never rfl (pi_tup (pe_tup (pa_cons pe_bl (pa_cons pe_bl pa_nil)))) (pg_name (i := 9) sc_below.nd rfl (by first | exact Or.inl rfl | exact Or.inr rfl)) (pss_cons (ps_set (i := 10) sc_below.nd rfl (by first | exact Or.inl rfl | exact Or.inr rfl) (pe_call (ok_beyond T) hr (by rfl) T.g_beyond T.F_beyond.kp T.b_beyond .nil pass0 (pa_cons (pe_ix ix_tup (pv 6) pe_int (fun _ _ => rfl)) (pa_cons (pe_callB call_len (by rfl) (T.free_len) (by decide +kernel) (pa_cons (pv 0) pa_nil)) (pa_cons (pv 9) pa_nil)))))
      (pss_cons (ps_set (i := 11) sc_below.nd rfl (by first | exact Or.inl rfl | exact Or.inr rfl) (pe_call (ok_beyond T) hr (by rfl) T.g_beyond T.F_beyond.kp T.b_beyond .nil pass0 (pa_cons (pe_ix ix_tup (pv 6) pe_int (fun _ _ => rfl)) (pa_cons (pe_callB call_len (by rfl) (T.free_len) (by decide +kernel) (pa_cons (pv 1) pa_nil)) (pa_cons (pv 9) pa_nil)))))
      (pss_one (ps_if (PW.pt (pw_or (pt_not (pt_val (pe_call (ok_answered T) hr (by rfl) T.g_answered T.F_answered.kp T.b_answered .nil pass0 (pa_cons (pv 4) (pa_cons (pv 10) (pa_cons (pv 11) pa_nil)))))) (pw_or1 (pt_not (pt_val (pe_call (ok_answered T) hr (by rfl) T.g_answered T.F_answered.kp T.b_answered .nil pass0 (pa_cons (pv 5) (pa_cons (pv 11) (pa_cons (pv 10) pa_nil))))))))) (pss_cons (ps_set (i := 8) sc_below.nd rfl (by first | exact Or.inl rfl | exact Or.inr rfl) pe_bl)
      (pss_one ps_break)) pss_nil)))))
      (pss_one (ps_if (pt_val (pv 8)) (pss_one (ps_expr (pe_bm PySem.F.plainAttrs_list PySem.F.slot_list_append PySem.F.type_list_append mt_append (pv 7) (pa_cons (pv 6) pa_nil)))) pss_nil)))))
      (pss_one (ps_ret (pv 7))))))))
theorem ok_levels (T : Txt K mg w) : FnOk P w K mg base CX0 3 T.a_levels T.fd_levels ["_law_row", "_law_other"] (sp_levels K) := by
  refine T.F_levels.ok sc_levels (fun vs H Q E h => ?_) (fun cdv A outer s H vs Q E hr h => ⟨t_levels K, ?_, pure_levels vs H Q E h⟩)
  · obtain ⟨B, M, r, o, rfl, _⟩ := h
    rfl
  · exact (pss_cons (ps_set (i := 2) sc_levels.nd rfl (by first | exact Or.inl rfl | exact Or.inr rfl) (pe_call (ok_same T) (hr.mono (by decide)) (by rfl) T.g_same T.F_same.kp T.b_same .nil pass0 (pa_cons (pv 0) (pa_cons (pv 1) pa_nil))))
      (pss_cons (ps_set (i := 3) sc_levels.nd rfl (by first | exact Or.inl rfl | exact Or.inr rfl) (pe_lst (pa_cons (pv 2) pa_nil)))
      (pss_cons (ps_for PassesOwn.never rfl (pi_range1 (by rfl) (T.free_range) (pa_cons pe_int pa_nil)) (pg_name (i := 4) sc_levels.nd rfl (by first | exact Or.inl rfl | exact Or.inr rfl)) (pss_cons (ps_set (i := 5) sc_levels.nd rfl (by first | exact Or.inl rfl | exact Or.inr rfl) (pe_call (ok_below T) hr (by rfl) T.g_below T.F_below.kp T.b_below .nil pass0 (pa_cons (pv 0) (pa_cons (pv 1) (pa_cons (pv 2) (pa_cons (pv 2) pa_nil))))))
      (pss_cons (ps_if (pt_cmpR op_eq (pe_callB call_len (by rfl) (T.free_len) (by decide +kernel) (pa_cons (pv 5) pa_nil)) (pe_callB call_len (by rfl) (T.free_len) (by decide +kernel) (pa_cons (pv 2) pa_nil)) (nomark _)) (pss_one ps_break) pss_nil)
      (pss_cons (ps_expr (pe_bm PySem.F.plainAttrs_list PySem.F.slot_list_append PySem.F.type_list_append mt_append (pv 3) (pa_cons (pv 5) pa_nil)))
      (pss_one (ps_set (i := 2) sc_levels.nd rfl (by first | exact Or.inl rfl | exact Or.inr rfl) (pv 5)))))))
      (pss_one (ps_ret (pv 3))))))
end
end K52
set_option Elab.async false
set_option linter.all false
set_option maxRecDepth 100000
set_option maxHeartbeats 8000000
namespace K52
open PySem PySem.Spec PyProof.Rows L2 Sh
open SX (S)
local macro_rules | `(tactic| walk_at "v1") => `(tactic| first
  | with_reducible refine v_seq ?_ | with_reducible refine v_asg ?_ | ((with_reducible refine' v_name ?e ?_); (case e => exact rfl)) | with_reducible refine v_ret ?_ | with_reducible refine v_drop ?_ | with_reducible refine v_next ?_
  | with_reducible refine v_if ?_ | with_reducible refine v_op ?_ | with_reducible refine v_c ?_ | ((with_reducible refine' v_var ?e ?_); (case e => exact rfl))
  | with_reducible refine v_I0 ?_ | with_reducible refine v_test ?_ | with_reducible refine v_B ?_ | with_reducible refine v_bl ?_ | with_reducible refine v_not ?_ | with_reducible refine v_and ?_ | with_reducible refine v_or ?_
  | with_reducible refine v_andV ?_ | with_reducible refine v_orV ?_ | with_reducible refine v_notV ?_ | with_reducible refine v_ife ?_
  | with_reducible refine v_nil ?_ | with_reducible refine v_cons ?_ | with_reducible refine v_tup ?_ | with_reducible refine v_lst ?_ | with_reducible refine v_call ?_ | with_reducible refine v_cb ?_ | with_reducible refine v_int ?_ | with_reducible refine v_abs ?_
  | ((with_reducible refine' v_eq ?e ?_); (case e => exact rfl)) | ((with_reducible refine' v_ne ?e ?_); (case e => exact rfl)) | with_reducible refine v_sub ?_ | with_reducible refine v_isN ?_ | with_reducible refine v_notN ?_
  | with_reducible refine v_part ?_ | with_reducible refine v_nopart ?_ | with_reducible refine v_pint ?_ | with_reducible refine v_inSg ?_ | with_reducible refine v_notInSg ?_
  | ((with_reducible refine' v_ixL ?l ?a ?_); (case l => assumption); (case a => exact at_lit _ rfl)) | ((with_reducible refine' v_ixT ?l ?a ?_); (case l => assumption); (case a => exact at_lit _ rfl))
  | ((with_reducible refine v_I ?c ?_); (case c => (first | omega | (unfold CMul; omega) | (unfold CDivN; omega) | (unfold CPow; omega))))
  | with_reducible refine v_for ?_ | with_reducible refine v_iList ?_ | with_reducible refine v_iTup ?_ | with_reducible refine v_iStr ?_ | with_reducible refine v_iR1 ?_ | with_reducible refine v_iR2 ?_ | with_reducible refine v_atS ?_ | with_reducible refine v_sl ?_ | with_reducible refine v_lc ?_ | with_reducible refine v_yes ?_
  | with_reducible refine v_m1 ?_ | with_reducible refine v_m1S ?_ | with_reducible refine v_bm ?_ | with_reducible refine v_bm0 ?_ | with_reducible refine v_dnewK ?_ | with_reducible refine v_dnewT ?_ | with_reducible refine v_dget ?_ | with_reducible refine v_din ?_ | with_reducible refine v_dnotin ?_ | with_reducible refine v_dput ?_ | with_reducible refine v_chain ?_ | with_reducible refine v_un ?_ | with_reducible refine v_neg ?_
  | with_reducible refine v_brk ?_ | with_reducible refine v_cont ?_
  | with_reducible refine v_fld ?_ | with_reducible refine v_sfld ?_ | with_reducible refine v_meth ?_ | with_reducible refine v_methT ?_ | with_reducible refine v_make ?_ | with_reducible refine v_makeT ?_ | with_reducible refine v_dget2 ?_ | with_reducible refine v_enumS ?_ | with_reducible refine v_enumQ ?_ | with_reducible refine v_lc2 ?_ | with_reducible refine v_isB ?_ | with_reducible refine v_notB ?_ | with_reducible refine v_lstRg2 ?_ | with_reducible refine v_lstRg3 ?_)
local macro_rules | `(tactic| walk_at "v") => `(tactic| repeat (walk_at "v1"))
local macro_rules | `(tactic| walk_at "vm") => `(tactic| repeat (first | ((with_reducible refine v_modP ?c ?_); (case c => omega); (intro _ _ _)) | walk_at "v1"))
local macro_rules | `(tactic| walk_at "iv") => `(tactic| (try dsimp only; refine IV.mk (by assumption) (by assumption) ?_))
local macro_rules | `(tactic| walk_at "n") => `(tactic| dsimp only [List.set_cons_zero, List.set_cons_succ])
theorem int_showOk {n : Int} (h : n.natAbs.log2 < 1920) : ShowOk (.int n) :=
  ⟨rfl, by simp only [PyData.showable]; exact decide_eq_true h, by simp only [PyData.hasDict], by simp only [PyData.depth]; omega, by unfold PyData.shown; exact int_text_fits h⟩
theorem log_small {n : Int} (h : n.natAbs ≤ 1000000) : n.natAbs.log2 < 1920 := by
  by_cases h0 : n.natAbs = 0
  · rw [h0]; decide
  · have := (Nat.log2_lt h0).mpr (Nat.lt_of_le_of_lt h (show 1000000 < 2 ^ 20 by decide))
    omega
section
variable {P : Program} {w : World} {K : PySem.W.Frag} {mg : Str → Option Value} {base : Heap}
theorem v_isD {a : Addr} {cls : Value} {d : Option Addr} {H : Hp} {Q : VK} {D C dd : Addr} {fs : List (Str × V)} {b : Bool} (ec : cls = .ref D) (ed : d = some dd) (C0 : ExcC K D) (hd : H dd = some (.xd fs)) (k : PySem.W.kitOne K (.ref D) (.ref C) = some b) (q : Q (.bl b) H) : rIsD K a cls d [.ref a, .ref C] H Q :=
  ⟨.ref C, .ref C, D, dd, fs, b, rfl, fun _ r => r, ec, ed, C0, hd, k, q⟩
theorem v_two {B H : Hp} {M : List (Addr × HO)} {x y : V} {dx dy : PyData} {Q : VK} (hs : Hs B M H) (hx : Rp K B x dx) (hy : Rp K B y dy) (q : ∀ (v' : V) (B' H' : Hp), Le B B' → Hs B' M H' → Rp K B' v' (.tuple [dx, dy]) → Q v' H') : [x, y].length ≤ sizeLine ∧ Nw H (.tup [x, y]) Q :=
  v_size (by show 2 ≤ sizeLine; decide) (v_newB hs fun p B' H' l h e => q _ _ _ l h (.tup e (.cons (hx.up l) (.cons (hy.up l) .nil))))
theorem v_tryM {tb : WX → TS} {l : List Cl} {W : WX} {D : Ends} {σ : L2.St} {H : Hp} (h : tb (wManyA K W D l) D σ H) : tTryMany K tb l W D σ H := h
/-! ### _law_refused -/
def dueD (da : PyData) : COut → PyData
  | .alpha => .tuple [.str "alphabet", .str da.shown]
  | .row n => .tuple [.str "row", .str (PyData.int n).shown]
  | .long n => .tuple [.str "long", .str (PyData.int (n : Int)).shown]
  | .ok => .tuple [.str "none", .str ""]
theorem check_row_small {da dr dq : PyData} {n : Int} (h : CheckD da dr dq (.row n)) : n.natAbs ≤ 1000000 := by
  obtain ⟨al, _, _, h⟩ := h
  have key : ∀ d, RowBad al d n → n.natAbs ≤ 1000000 := fun d h => by
    rcases h with ⟨_, rfl⟩ | ⟨z, _, _, rfl⟩ | ⟨r, i, c, _, h1, h2, _, _, rfl⟩
    · decide
    · decide
    · have := (List.getElem?_eq_some_iff.mp h2).1
      omega
  rcases h with h | ⟨_, h⟩
  · exact key _ h
  · exact key _ h
theorem check_long_small {da dr dq : PyData} {n : Nat} (h : CheckD da dr dq (.long n)) : (n : Int).natAbs ≤ 1000000 := by
  obtain ⟨al, r, o, rfl, _, rfl, rfl, ⟨r', e1, h1, _⟩, ⟨o', e2, h2, _⟩, h⟩ := h
  have e1 := SX.S_inj (PyData.str.inj e1)
  have e2 := SX.S_inj (PyData.str.inj e2)
  subst e1 e2
  rcases h with ⟨_, rfl⟩ | ⟨_, _, rfl⟩ <;> omega
def sp_refused (T : Txt K mg w) : Sp := fun vs H Q _ => ∃ (B : Hp) (M : List (Addr × HO)) (va vr vo : V) (da dr dq : PyData) (o : COut), vs = [va, vr, vo] ∧ Hs B M H ∧ Rp K B va da ∧ Rp K B vr dr ∧ Rp K B vo dq ∧
  (∀ z, da = .str z → z.length ≤ 1000000) ∧ (∀ z, dr = .str z → z.length ≤ 1000000) ∧ (∀ z, dq = .str z → z.length ≤ 1000000) ∧ (o = .alpha → ShowOk da) ∧ CheckD da dr dq o ∧
  ∀ (v' : V) (B' H' : Hp), Le B B' → Hs B' M H' → Rp K B' v' (dueD da o) → Q v' H'
def t_refused (T : Txt K mg w) : TS := (tSeq (tTryMany K (fun W => (tDrop (tMakeT T.a_Contest (sp_m_Contest_init T) (L2.WE W) (tCons (tVar 0) (tCons (tVar 1) (tCons (tVar 2) tNil)))))) [((.ref T.a_BadAlphabet), some 3, fun a cls d => (tIfS (tAnd (tB (tCB (rIsD K a cls d) (tCons (tVar 3) (tCons (tC (.ref T.a_WrongThing)) tNil)))) (tAnd (tB (tCB (rIsD K a cls d) (tCons (tVar 3) (tCons (tC (.ref T.a_SaidError)) tNil)))) (tB (tCB (rIsD K a cls d) (tCons (tVar 3) (tCons (tC (.ty "ValueError")) tNil)))))) (tRet (tTup (tCons (tC (.str "alphabet")) (tCons (tCB (rRepr K) (tCons (tXf a cls d T.a_BadAlphabet "thing" (tVar 3)) tNil)) tNil)))) tNext)), ((.ref T.a_BadRow), some 3, fun a cls d => (tIfS (tAnd (tB (tCB (rIsD K a cls d) (tCons (tVar 3) (tCons (tC (.ref T.a_SaidError)) tNil)))) (tNot (tB (tCB (rIsD K a cls d) (tCons (tVar 3) (tCons (tC (.ref T.a_WrongThing)) tNil)))))) (tRet (tTup (tCons (tC (.str "row")) (tCons (tCB (rRepr K) (tCons (tXf a cls d T.a_BadRow "at" (tVar 3)) tNil)) tNil)))) tNext)), ((.ref T.a_TooLong), some 3, fun a cls d => (tIfS (tAnd (tB (tCB (rIsD K a cls d) (tCons (tVar 3) (tCons (tC (.ref T.a_SaidError)) tNil)))) (tNot (tB (tCB (rIsD K a cls d) (tCons (tVar 3) (tCons (tC (.ref T.a_WrongThing)) tNil)))))) (tRet (tTup (tCons (tC (.str "long")) (tCons (tCB (rRepr K) (tCons (tXf a cls d T.a_TooLong "number" (tVar 3)) tNil)) tNil)))) tNext))] (fun _ _ _ _ => False))
    (tRet (tTup (tCons (tC (.str "none")) (tCons (tC (.str "")) tNil)))))
theorem pure_refused (T : Txt K mg w) (TX : TxtX T P) (vs : List V) (H : Hp) (Q : VK) (E : XK) (h : sp_refused T vs H Q E) : t_refused T { nx := fun _ H' => Q .non H', rt := Q } (start n_refused vs) H := by
  obtain ⟨B, M, va, vr, vo, da, dr, dq, o, rfl, hs, hva, hvr, hvo, za, zr, zo, sd, ck, q⟩ := h
  show t_refused T _ [some va, some vr, some vo, none] H
  unfold t_refused
  walk_at "v"
  refine v_tryM ?_
  walk_at "v"
  refine v_mak hs fun x dx H1 h1 => ?_
  refine ⟨B, _, x, dx, va, vr, vo, da, dr, dq, o, rfl, h1, hva, hvr, hvo, za, zr, zo, ck, fun ho al r oo B' H' e1 e2 e3 l h c => ⟨rfl, ?_⟩, fun hno => ?_⟩
  · subst ho
    walk_at "v"
    exact v_two h.drop (.str _) (.str _) fun v' B2 H2 l2 h2 r => q _ _ _ (l.trans l2) h2 r
  · cases o with
    | ok => exact absurd rfl hno
    | alpha =>
      intro d B' H' l h e
      have h := h.drop
      refine ⟨true, TX.exm (T.a_BadAlphabet, T.a_BadAlphabet, true) (by simp), fun _ a ha => ?_, fun z => nomatch z⟩
      have hx := h.sub _ _ e
      dsimp only [inSuite]
      walk_at "v"
      refine v_isD rfl rfl TX.c_BadAlphabet hx (TX.kits (T.a_BadAlphabet, T.a_WrongThing, true) (by simp)) ?_
      walk_at "v"
      refine iteT' rfl ?_
      walk_at "v"
      refine v_isD rfl rfl TX.c_BadAlphabet hx (TX.kits (T.a_BadAlphabet, T.a_SaidError, true) (by simp)) ?_
      walk_at "v"
      refine iteT' rfl ?_
      walk_at "v"
      refine v_isDT rfl rfl TX.c_BadAlphabet hx (TX.kitV T.a_BadAlphabet (by simp)) ?_
      walk_at "v"
      refine iteT' rfl ?_
      walk_at "v"
      refine ⟨_, rfl, rfl, rfl, d, _, va, rfl, hx, by simp [List.lookup], ?_⟩
      walk_at "v"
      refine v_repr h (hva.up l) (sd rfl) ?_
      walk_at "v"
      exact v_two h (.str _) (.str _) fun v' B2 H2 l2 h2 r => q _ _ _ (l.trans l2) h2 r
    | row n =>
      intro d B' H' l h e
      have h := h.drop
      refine ⟨false, TX.exm (T.a_BadRow, T.a_BadAlphabet, false) (by simp), (fun z => nomatch z), fun _ => ⟨true, TX.exm (T.a_BadRow, T.a_BadRow, true) (by simp), fun _ a ha => ?_, fun z => nomatch z⟩⟩
      have hx := h.sub _ _ e
      dsimp only [inSuite]
      walk_at "v"
      refine v_isD rfl rfl TX.c_BadRow hx (TX.kits (T.a_BadRow, T.a_SaidError, true) (by simp)) ?_
      walk_at "v"
      refine iteT' rfl ?_
      walk_at "v"
      refine v_isD rfl rfl TX.c_BadRow hx (TX.kits (T.a_BadRow, T.a_WrongThing, false) (by simp)) ?_
      walk_at "v"
      refine iteT' rfl ?_
      walk_at "v"
      refine ⟨_, rfl, rfl, rfl, d, _, .int n, rfl, hx, by simp [List.lookup], ?_⟩
      walk_at "v"
      refine v_repr h (.int n) (int_showOk (log_small (check_row_small ck))) ?_
      walk_at "v"
      exact v_two h (.str _) (.str _) fun v' B2 H2 l2 h2 r => q _ _ _ (l.trans l2) h2 r
    | long n =>
      intro d B' H' l h e
      have h := h.drop
      refine ⟨false, TX.exm (T.a_TooLong, T.a_BadAlphabet, false) (by simp), (fun z => nomatch z), fun _ => ⟨false, TX.exm (T.a_TooLong, T.a_BadRow, false) (by simp), (fun z => nomatch z), fun _ => ⟨true, TX.exm (T.a_TooLong, T.a_TooLong, true) (by simp), fun _ a ha => ?_, fun z => nomatch z⟩⟩⟩
      have hx := h.sub _ _ e
      dsimp only [inSuite]
      walk_at "v"
      refine v_isD rfl rfl TX.c_TooLong hx (TX.kits (T.a_TooLong, T.a_SaidError, true) (by simp)) ?_
      walk_at "v"
      refine iteT' rfl ?_
      walk_at "v"
      refine v_isD rfl rfl TX.c_TooLong hx (TX.kits (T.a_TooLong, T.a_WrongThing, false) (by simp)) ?_
      walk_at "v"
      refine iteT' rfl ?_
      walk_at "v"
      refine ⟨_, rfl, rfl, rfl, d, _, .int (n : Int), rfl, hx, by simp [List.lookup], ?_⟩
      walk_at "v"
      refine v_repr h (.int (n : Int)) (int_showOk (log_small (check_long_small ck))) ?_
      walk_at "v"
      exact v_two h (.str _) (.str _) fun v' B2 H2 l2 h2 r => q _ _ _ (l.trans l2) h2 r
/-! ### _law_place_refused -/
theorem isInt_of {n k : Nat} (h : k < n) : isIntIn 0 ((n : Int) - 1) (.int (k : Int)) = true := by
  show (decide ((0 : Int) ≤ (k : Int)) && decide ((k : Int) ≤ (n : Int) - 1)) = true
  rw [decide_eq_true (by omega), decide_eq_true (by omega)]
  rfl
theorem isInt_no {n : Nat} {i : Int} (h : i < 0 ∨ (n : Int) ≤ i) : isIntIn 0 ((n : Int) - 1) (.int i) = false := by
  show (decide ((0 : Int) ≤ i) && decide (i ≤ (n : Int) - 1)) = false
  rcases h with h | h
  · rw [decide_eq_false (by omega)]; rfl
  · rw [decide_eq_false (show ¬ i ≤ (n : Int) - 1 by omega), Bool.and_false]
def sp_place_refused (T : Txt K mg w) : Sp := fun vs H Q _ => ∃ (B : Hp) (M : List (Addr × HO)) (x : Addr) (al r o : List Nat) (vk vm : V) (dk dm : PyData), vs = [.ref x, vk, vm] ∧ Hs B M H ∧ ConV T B x al r o ∧ r.length ≤ 12 ∧ o.length ≤ 12 ∧ Rp K B vk dk ∧ Rp K B vm dm ∧ ShowOk dk ∧ ShowOk dm ∧
  (isIntIn 0 ((r.length : Nat) - 1) dk = true → isIntIn 0 ((o.length : Nat) - 1) dm = false) ∧
  ∀ (B' H' : Hp), Le B B' → Hs B' M H' → Q (.str (if isIntIn 0 ((r.length : Nat) - 1) dk = true then dm.shown else dk.shown)) H'
theorem call_place {T : Txt K mg w} {B H : Hp} {M : List (Addr × HO)} {x : Addr} {al r o : List Nat} {vk vm : V} {dk dm : PyData} {Q : VK} {E : XK} (hs : Hs B M H) (hc : ConV T B x al r o) (r12 : r.length ≤ 12) (o12 : o.length ≤ 12) (hvk : Rp K B vk dk) (hvm : Rp K B vm dm) (sk : ShowOk dk) (sm : ShowOk dm)
    (hbad : isIntIn 0 ((r.length : Nat) - 1) dk = true → isIntIn 0 ((o.length : Nat) - 1) dm = false)
    (err : ∀ (v : V) (d : PyData), Rp K B v d → ShowOk d → d.shown = (if isIntIn 0 ((r.length : Nat) - 1) dk = true then dm.shown else dk.shown) → Thr B M E T.a_BadPlace "thing" v) : sp_m_Contest_parting_height T [.ref x, vk, vm] H Q E := by
  refine ⟨B, M, x, al, r, o, vk, vm, dk, dm, rfl, hs, hc, r12, o12, hvk, hvm, fun h1 => err vk dk hvk sk (by rw [if_neg (by rw [h1]; exact Bool.false_ne_true)]), fun h1 h2 => err vm dm hvm sm (by rw [if_pos h1]), fun k j e1 e2 h1 h2 B' H' l h => ?_⟩
  subst e1 e2
  cases hvk
  cases hvm
  have := hbad (isInt_of h1)
  rw [isInt_of h2] at this
  cases this
def t_place_refused (T : Txt K mg w) : TS := (tSeq (tTryMany K (fun W => (tDrop (tMethT T.a_Contest "parting_height" (sp_m_Contest_parting_height T) (L2.WE W) (tVar 0) (tCons (tVar 1) (tCons (tVar 2) tNil))))) [((.ref T.a_BadPlace), some 3, fun a cls d => (tIfS (tAnd (tB (tCB (rIsD K a cls d) (tCons (tVar 3) (tCons (tC (.ref T.a_WrongThing)) tNil)))) (tB (tCB (rIsD K a cls d) (tCons (tVar 3) (tCons (tC (.ref T.a_SaidError)) tNil))))) (tRet (tCB (rRepr K) (tCons (tXf a cls d T.a_BadPlace "thing" (tVar 3)) tNil))) tNext))] (fun _ _ _ _ => False))
    (tRet (tC (.str "none"))))
theorem pure_place_refused (T : Txt K mg w) (TX : TxtX T P) (vs : List V) (H : Hp) (Q : VK) (E : XK) (h : sp_place_refused T vs H Q E) : t_place_refused T { nx := fun _ H' => Q .non H', rt := Q } (start n_place_refused vs) H := by
  obtain ⟨B, M, x, al, r, o, vk, vm, dk, dm, rfl, hs, hc, r12, o12, hvk, hvm, sk, sm, hbad, q⟩ := h
  show t_place_refused T _ [some (V.ref x), some vk, some vm, none] H
  unfold t_place_refused
  walk_at "v"
  refine v_tryM ?_
  walk_at "v"
  obtain ⟨dx, vt, vl, eB, -, -⟩ := id hc
  refine v_mthI (hs.sub _ _ eB) rfl ?_
  walk_at "v"
  refine call_place hs hc r12 o12 hvk hvm sk sm hbad ?_
  · intro v d hv sd ed dd B' H' l h e
    refine ⟨true, TX.exm (T.a_BadPlace, T.a_BadPlace, true) (by simp), fun _ a ha => ?_, fun z => nomatch z⟩
    have hx := h.sub _ _ e
    dsimp only [inSuite]
    walk_at "v"
    refine v_isD rfl rfl TX.c_BadPlace hx (TX.kits (T.a_BadPlace, T.a_WrongThing, true) (by simp)) ?_
    walk_at "v"
    refine iteT' rfl ?_
    walk_at "v"
    refine v_isD rfl rfl TX.c_BadPlace hx (TX.kits (T.a_BadPlace, T.a_SaidError, true) (by simp)) ?_
    walk_at "v"
    refine iteT' rfl ?_
    walk_at "v"
    refine ⟨_, rfl, rfl, rfl, dd, _, v, rfl, hx, by simp [List.lookup], ?_⟩
    walk_at "v"
    refine v_repr h (hv.up l) sd ?_
    rw [ed]
    exact q B' H' l h
/-! ### _law_places_refused -/
theorem show_int {n : Int} (h : n.natAbs.log2 < 1920) : ShowOk (.int n) := int_showOk h
theorem fine_ok {d : PyData} (h : Fine d 3 100000) : ShowOk d := h.ok (by omega) (by omega)
theorem show_non : ShowOk .none := ⟨rfl, by simp only [PyData.showable], by simp only [PyData.hasDict], by simp only [PyData.depth]; omega, by unfold PyData.shown; exact sz_of (by decide +kernel)⟩
theorem show_bool (b : Bool) : ShowOk (.bool b) := ⟨rfl, by simp only [PyData.showable], by simp only [PyData.hasDict], by simp only [PyData.depth]; omega, by unfold PyData.shown; cases b <;> exact sz_of (by decide +kernel)⟩
def badP (n : Nat) (t : Addr) : List V := [.int (-1), .int (n : Int), .bl true, .non, .str "0", .ref t, .bl false, .int (10 ^ (20 : Int).toNat), .int (-2)]
def badQ (n : Nat) (t : Addr) : List V := [.int (-1), .int (n : Int), .bl false, .non, .str "1", .ref t, .bl true, .int (10 ^ (20 : Int).toNat), .int ((n : Int) + 1)]
theorem small_str {z : Str} (h : z.length ≤ 20 ∧ ∀ c ∈ z.cps.toList, c < 1000) : ShowOk (.str z) := (fine_kD (k := .inr z) h).ok (by omega) (by omega)
theorem small_one (l : Bool) : ShowOk (mkD l [.int 0]) := (fine_mk (l := l) (m := 0) (n := 202) fun d hd => by
  rw [List.mem_singleton.mp hd]
  exact fine_kD (k := .inl 0) (by show (0 : Int).natAbs ≤ 1000000; decide)).ok (by omega) (by decide)
theorem badP_ok {B : Hp} {n k : Nat} {t : Addr} (ht : B t = some (.tup [.int 0])) (hk : k < 9) (hn : n ≤ 100 := by omega) : ∃ v d, (badP n t)[k]? = some v ∧ Rp K B v d ∧ isIntIn 0 ((n : Int) - 1) d = false ∧ ShowOk d := by
  match k, hk with
  | 0, _ => exact ⟨_, _, rfl, .int _, isInt_no (.inl (by decide)), int_showOk (by decide)⟩
  | 1, _ => exact ⟨_, _, rfl, .int _, isInt_no (.inr (by omega)), int_showOk (log_small (by omega))⟩
  | 2, _ => exact ⟨_, _, rfl, .bl _, rfl, show_bool _⟩
  | 3, _ => exact ⟨_, _, rfl, .non, rfl, show_non⟩
  | 4, _ => exact ⟨_, _, rfl, .str _, rfl, small_str (by decide +kernel)⟩
  | 5, _ => exact ⟨_, _, rfl, .tup ht (.one (.int 0)), rfl, small_one false⟩
  | 6, _ => exact ⟨_, _, rfl, .bl _, rfl, show_bool _⟩
  | 7, _ => exact ⟨_, _, rfl, .int _, isInt_no (.inr (by show (n : Int) ≤ 10 ^ 20; omega)), int_showOk (by decide)⟩
  | 8, _ => exact ⟨_, _, rfl, .int _, isInt_no (.inl (by decide)), int_showOk (by decide)⟩
theorem badQ_ok {B : Hp} {n k : Nat} {t : Addr} (ht : B t = some (.lst [.int 0])) (hk : k < 9) (hn : n ≤ 100 := by omega) : ∃ v d, (badQ n t)[k]? = some v ∧ Rp K B v d ∧ isIntIn 0 ((n : Int) - 1) d = false ∧ ShowOk d := by
  match k, hk with
  | 0, _ => exact ⟨_, _, rfl, .int _, isInt_no (.inl (by decide)), int_showOk (by decide)⟩
  | 1, _ => exact ⟨_, _, rfl, .int _, isInt_no (.inr (by omega)), int_showOk (log_small (by omega))⟩
  | 2, _ => exact ⟨_, _, rfl, .bl _, rfl, show_bool _⟩
  | 3, _ => exact ⟨_, _, rfl, .non, rfl, show_non⟩
  | 4, _ => exact ⟨_, _, rfl, .str _, rfl, small_str (by decide +kernel)⟩
  | 5, _ => exact ⟨_, _, rfl, .lst (SqL.of ht) (.one (.int 0)), rfl, small_one true⟩
  | 6, _ => exact ⟨_, _, rfl, .bl _, rfl, show_bool _⟩
  | 7, _ => exact ⟨_, _, rfl, .int _, isInt_no (.inr (by show (n : Int) ≤ 10 ^ 20; omega)), int_showOk (by decide)⟩
  | 8, _ => exact ⟨_, _, rfl, .int _, isInt_no (.inr (by omega)), int_showOk (log_small (by omega))⟩
def sp_places_refused (T : Txt K mg w) : Sp := fun vs H Q _ => ∃ (B : Hp) (M : List (Addr × HO)) (a x : Addr) (d sd c : Int) (al r o : List Nat), vs = [.ref a, .ref x, .str (S r), .str (S o)] ∧ Hs B ((a, SrcO d sd c) :: M) H ∧ ConV T B x al r o ∧ r.length ≤ 12 ∧ o.length ≤ 12 ∧
  ∀ (d' c' : Int) (B' H' : Hp), Le B B' → Hs B' ((a, SrcO d' sd c') :: M) H' → Q (.bl true) H'
def t_places_refused (T : Txt K mg w) : TS := (tSeq (tAsg (tLst (tCons (tUn (rU fun i => .int (-i)) (tC (.int 1))) (tCons (tCB (rCLen K) (tCons (tVar 2) tNil)) (tCons (tC (.bl true)) (tCons (tC .non) (tCons (tC (.str "0")) (tCons (tTup (tCons (tC (.int 0)) tNil)) (tCons (tC (.bl false)) (tCons (tOp rPowI (tC (.int 10)) (tC (.int 20))) (tCons (tUn (rU fun i => .int (-i)) (tC (.int 2))) tNil)))))))))) (gName 4))
    (tSeq (tAsg (tOp (rIxL K) (tVar 4) (tCall (sp_pick K) [] E0 (tCons (tVar 0) (tCons (tCB (rCLen K) (tCons (tVar 4) tNil)) tNil)))) (gName 5))
    (tSeq (tAsg (tLst (tCons (tUn (rU fun i => .int (-i)) (tC (.int 1))) (tCons (tCB (rCLen K) (tCons (tVar 3) tNil)) (tCons (tC (.bl false)) (tCons (tC .non) (tCons (tC (.str "1")) (tCons (tLst (tCons (tC (.int 0)) tNil)) (tCons (tC (.bl true)) (tCons (tOp rPowI (tC (.int 10)) (tC (.int 20))) (tCons (tOp rAddI (tCB (rCLen K) (tCons (tVar 3) tNil)) (tC (.int 1))) tNil)))))))))) (gName 6))
    (tSeq (tAsg (tOp (rIxL K) (tVar 6) (tCall (sp_pick K) [] E0 (tCons (tVar 0) (tCons (tCB (rCLen K) (tCons (tVar 6) tNil)) tNil)))) (gName 7))
    (tSeq (tIfS (tTest (tOp rNe (tCall (sp_place_refused T) [] E0 (tCons (tVar 1) (tCons (tVar 5) (tCons (tVar 7) tNil)))) (tCB (rRepr K) (tCons (tVar 5) tNil)))) (tRet (tC (.bl false))) tNext)
    (tSeq (tIfS (tAnd (tTest (tOp rGtI (tCB (rCLen K) (tCons (tVar 3) tNil)) (tC (.int 0)))) (tTest (tOp rNe (tCall (sp_place_refused T) [] E0 (tCons (tVar 1) (tCons (tVar 5) (tCons (tCall (sp_pick K) [] E0 (tCons (tVar 0) (tCons (tCB (rCLen K) (tCons (tVar 3) tNil)) tNil))) tNil)))) (tCB (rRepr K) (tCons (tVar 5) tNil))))) (tRet (tC (.bl false))) tNext)
    (tSeq (tIfS (tAnd (tTest (tOp rGtI (tCB (rCLen K) (tCons (tVar 2) tNil)) (tC (.int 0)))) (tTest (tOp rNe (tCall (sp_place_refused T) [] E0 (tCons (tVar 1) (tCons (tCall (sp_pick K) [] E0 (tCons (tVar 0) (tCons (tCB (rCLen K) (tCons (tVar 2) tNil)) tNil))) (tCons (tVar 7) tNil)))) (tCB (rRepr K) (tCons (tVar 7) tNil))))) (tRet (tC (.bl false))) tNext)
    (tRet (tC (.bl true))))))))))
theorem pure_places_refused (T : Txt K mg w) (vs : List V) (H : Hp) (Q : VK) (E : XK) (h : sp_places_refused T vs H Q E) : t_places_refused T { nx := fun _ H' => Q .non H', rt := Q } (start n_places_refused vs) H := by
  obtain ⟨B, M, a, x, d, sd, c, al, r, o, rfl, hs, hc, r12, o12, q⟩ := h
  show t_places_refused T _ [some (V.ref a), some (V.ref x), some (V.str (S r)), some (V.str (S o)), none, none, none, none] H
  unfold t_places_refused
  walk_at "v"
  refine v_lenS (by rw [S_length]; exact sz_of (by omega)) ?_
  walk_at "v"
  refine v_size (xs := [V.int 0]) (by show 1 ≤ sizeLine; decide) (v_newB hs fun t0 B1 H1 l1 h1 e1 => ?_)
  walk_at "v"
  rw [S_length]
  refine v_size (xs := badP r.length t0) (by show 9 ≤ sizeLine; decide) (v_newB h1 fun tp B2 H2 l2 h2 e2 => ?_)
  have e2 : SqL K B2 tp (badP r.length t0) := SqL.of e2
  walk_at "v"
  refine v_lenL (h2.l e2) ?_
  walk_at "v"
  refine v_pick h2 (by show (0 : Int) < 9; decide) (by show (9 : Int) < 2 ^ 30; decide) fun k1 d1 c1 H3 k10 k11 h3 => ?_
  obtain ⟨vk, dk, ek, hvk, bk, sk⟩ := badP_ok (K := K) (B := B2) (n := r.length) (l2 _ _ e1) (show k1.toNat < 9 by have : k1 < 9 := k11; omega)
  refine v_ixL (h3.l e2) (at_k k10 ek) ?_
  walk_at "v"
  refine v_lenS (by rw [S_length]; exact sz_of (by omega)) ?_
  walk_at "v"
  rw [S_length]
  refine v_size (xs := [V.int 0]) (by show 1 ≤ sizeLine; decide) (v_newB h3 fun t1 B3 H4 l4 h4 e4 => ?_)
  walk_at "v"
  refine v_lenS (by rw [S_length]; exact sz_of (by omega)) ?_
  walk_at "v"
  rw [S_length]
  refine v_size (xs := badQ o.length t1) (by show 9 ≤ sizeLine; decide) (v_newB h4 fun tq B4 H5 l5 h5 e5 => ?_)
  have e5 : SqL K B4 tq (badQ o.length t1) := SqL.of e5
  walk_at "v"
  refine v_lenL (h5.l e5) ?_
  walk_at "v"
  refine v_pick h5 (by show (0 : Int) < 9; decide) (by show (9 : Int) < 2 ^ 30; decide) fun k2 d2 c2 H6 k20 k21 h6 => ?_
  obtain ⟨vm, dm, em, hvm, bm, sm⟩ := badQ_ok (K := K) (B := B4) (n := o.length) (l5 _ _ e4) (show k2.toNat < 9 by have : k2 < 9 := k21; omega)
  refine v_ixL (h6.l e5) (at_k k20 em) ?_
  walk_at "v"
  have l24 := l4.trans l5
  have l04 := l1.trans (l2.trans l24)
  have hvk := hvk.up l24
  refine ⟨B4, _, x, al, r, o, vk, vm, dk, dm, rfl, h6, hc.up l04, r12, o12, hvk, hvm, sk, sm, fun _ => bm, fun B5 H7 l6 h7 => ?_⟩
  rw [if_neg (by rw [bk]; exact Bool.false_ne_true)]
  walk_at "v"
  refine v_repr h7 (hvk.up l6) sk ?_
  walk_at "v"
  refine iteF' (by rw [decide_eq_true rfl]; rfl) ?_
  walk_at "v1"
  dsimp only
  refine v_seqP (fun σ' H' => ∃ (d c : Int) (B' : Hp), Le B5 B' ∧ Hs B' ((a, SrcO d sd c) :: M) H' ∧ σ' = [some (V.ref a), some (V.ref x), some (V.str (S r)), some (V.str (S o)), some (V.ref tp), some vk, some (V.ref tq), some vm]) (fun N hN => ?_) ?_
  · walk_at "v"
    refine v_lenS (by rw [S_length]; exact sz_of (by omega)) ?_
    walk_at "v"
    rw [S_length]
    refine ite2 (fun c0 => ?_) (fun c0 => ?_)
    · have c1 := of_decide_eq_true c0
      walk_at "v"
      refine v_lenS (by rw [S_length]; exact sz_of (by omega)) ?_
      walk_at "v"
      rw [S_length]
      refine v_pick h7 (by omega) (by omega) fun k3 d3 c3 H8 k30 k31 h8 => ?_
      walk_at "v"
      have hvk5 := hvk.up l6
      refine ⟨B5, _, x, al, r, o, vk, .int k3, dk, .int k3, rfl, h8, hc.up (l04.trans l6), r12, o12, hvk5, .int k3, sk, int_showOk (log_small (by omega)), (fun z => by rw [bk] at z; cases z), fun B6 H9 l7 h9 => ?_⟩
      rw [if_neg (by rw [bk]; exact Bool.false_ne_true)]
      walk_at "v"
      refine v_repr h9 (hvk5.up l7) sk ?_
      walk_at "v"
      refine iteF' (by rw [decide_eq_true rfl]; rfl) ?_
      walk_at "v"
      exact hN _ _ ⟨d3, c3, B6, l7, h9, rfl⟩
    · refine iteF' rfl ?_
      walk_at "v"
      exact hN _ _ ⟨d2, c2, B5, Same.refl _, h7, rfl⟩
  · rintro σ' H8 ⟨d3, c3, B6, l7, h8, rfl⟩
    have l46 := l6.trans l7
    refine v_seqP (fun σ' H' => ∃ (d c : Int) (B' : Hp), Le B6 B' ∧ Hs B' ((a, SrcO d sd c) :: M) H') (fun N hN => ?_) ?_
    · walk_at "v"
      refine v_lenS (by rw [S_length]; exact sz_of (by omega)) ?_
      walk_at "v"
      rw [S_length]
      refine ite2 (fun c0 => ?_) (fun c0 => ?_)
      · have c1 := of_decide_eq_true c0
        walk_at "v"
        refine v_lenS (by rw [S_length]; exact sz_of (by omega)) ?_
        walk_at "v"
        rw [S_length]
        refine v_pick h8 (by omega) (by omega) fun k3 d4 c4 H9 k30 k31 h9 => ?_
        walk_at "v"
        have hvm6 := hvm.up l46
        obtain ⟨n3, rfl⟩ := Int.eq_ofNat_of_zero_le k30
        refine ⟨B6, _, x, al, r, o, .int (n3 : Int), vm, .int (n3 : Int), dm, rfl, h9, hc.up (l04.trans l46), r12, o12, .int _, hvm6, int_showOk (log_small (by omega)), sm, fun _ => bm, fun B7 H10 l8 h10 => ?_⟩
        rw [if_pos (isInt_of (by omega))]
        walk_at "v"
        refine v_repr h10 (hvm6.up l8) sm ?_
        walk_at "v"
        refine iteF' (by rw [decide_eq_true rfl]; rfl) ?_
        walk_at "v"
        exact hN _ _ ⟨d4, c4, B7, l8, h10⟩
      · refine iteF' rfl ?_
        walk_at "v"
        exact hN _ _ ⟨d3, c3, B6, Same.refl _, h8⟩
    · rintro σ' H9 ⟨d4, c4, B7, l8, h9⟩
      walk_at "v"
      exact q d4 c4 B7 H9 (l04.trans (l46.trans l8)) h9
theorem ok_refused (T : Txt K mg w) (TX : TxtX T P) : FnG P w K mg base CX0 8 T.a_refused T.fd_refused ["_law_alphabet_here", "_law_row", "_law_other"] (sp_refused T) := by
  refine okG_of T.F_refused sc_refused (fun vs H Q E h => ?_) (fun cdv A outer s H vs Q E hgd hr h => ⟨t_refused T, ?_, pure_refused T TX vs H Q E h⟩)
  · obtain ⟨B, M, va, vr, vo, da, dr, dq, o, rfl, _⟩ := h
    rfl
  · exact (pss_cons (L2.ps_try_manyAs rfl rfl takes_none (fun W pn xe tk _ => (pss_one (ps_expr (pe_makeT T.mk_Contest (ok_m_Contest_init T TX) hr (by rfl) T.g_Contest T.b_m_Contest_init (fun σ => L2.passAt tk σ) (pa_cons (pv 0) (pa_cons (pv 1) (pa_cons (pv 2) pa_nil))))))) (.cons (i := 3) sc_refused.nd rfl rfl ⟨by rfl, by decide, .inl T.g_BadAlphabet⟩ (fun a oe cls d pn hz hf => (pss_one (ps_if (PW.pt (pw_and (pt_val (pe_callB (call_isD hz hf) (by rfl) (T.free_isinstance) PyProof.Rows.boot_isinstance (pa_cons (pv 3) (pa_cons (pe_glob rfl T.g_WrongThing rfl) pa_nil)))) (pw_and (pt_val (pe_callB (call_isD hz hf) (by rfl) (T.free_isinstance) PyProof.Rows.boot_isinstance (pa_cons (pv 3) (pa_cons (pe_glob rfl T.g_SaidError rfl) pa_nil)))) (pw_and1 (pt_val (pe_callB (call_isD hz hf) (by rfl) (T.free_isinstance) PyProof.Rows.boot_isinstance (pa_cons (pv 3) (pa_cons (pe_bltn (by rfl) (T.free_ValueError) (by decide +kernel) rfl) pa_nil)))))))) (pss_one (ps_ret (pe_tup (pa_cons pe_str (pa_cons (pe_callB (cr_repr hgd (room70m hr)) (by rfl) (T.free_repr) (by decide +kernel) (pa_cons (pe_xf (xf_of TX.x_BadAlphabet) TX.x_BadAlphabet.noN hz hf (pv 3)) pa_nil)) pa_nil))))) pss_nil))) (.cons (i := 3) sc_refused.nd rfl rfl ⟨by rfl, by decide, .inl T.g_BadRow⟩ (fun a oe cls d pn hz hf => (pss_one (ps_if (PW.pt (pw_and (pt_val (pe_callB (call_isD hz hf) (by rfl) (T.free_isinstance) PyProof.Rows.boot_isinstance (pa_cons (pv 3) (pa_cons (pe_glob rfl T.g_SaidError rfl) pa_nil)))) (pw_and1 (pt_not (pt_val (pe_callB (call_isD hz hf) (by rfl) (T.free_isinstance) PyProof.Rows.boot_isinstance (pa_cons (pv 3) (pa_cons (pe_glob rfl T.g_WrongThing rfl) pa_nil)))))))) (pss_one (ps_ret (pe_tup (pa_cons pe_str (pa_cons (pe_callB (cr_repr hgd (room70m hr)) (by rfl) (T.free_repr) (by decide +kernel) (pa_cons (pe_xf (xf_of TX.x_BadRow) TX.x_BadRow.noN hz hf (pv 3)) pa_nil)) pa_nil))))) pss_nil))) (.cons (i := 3) sc_refused.nd rfl rfl ⟨by rfl, by decide, .inl T.g_TooLong⟩ (fun a oe cls d pn hz hf => (pss_one (ps_if (PW.pt (pw_and (pt_val (pe_callB (call_isD hz hf) (by rfl) (T.free_isinstance) PyProof.Rows.boot_isinstance (pa_cons (pv 3) (pa_cons (pe_glob rfl T.g_SaidError rfl) pa_nil)))) (pw_and1 (pt_not (pt_val (pe_callB (call_isD hz hf) (by rfl) (T.free_isinstance) PyProof.Rows.boot_isinstance (pa_cons (pv 3) (pa_cons (pe_glob rfl T.g_WrongThing rfl) pa_nil)))))))) (pss_one (ps_ret (pe_tup (pa_cons pe_str (pa_cons (pe_callB (cr_repr hgd (room70m hr)) (by rfl) (T.free_repr) (by decide +kernel) (pa_cons (pe_xf (xf_of TX.x_TooLong) TX.x_TooLong.noN hz hf (pv 3)) pa_nil)) pa_nil))))) pss_nil))) .nil))))
      (pss_one (ps_ret (pe_tup (pa_cons pe_str (pa_cons pe_str pa_nil))))))
theorem ok_place_refused (T : Txt K mg w) (TX : TxtX T P) : FnG P w K mg base CX0 4 T.a_place_refused T.fd_place_refused ["_law_contest", "_law_k", "_law_m"] (sp_place_refused T) := by
  refine okG_of T.F_place_refused sc_place_refused (fun vs H Q E h => ?_) (fun cdv A outer s H vs Q E hgd hr h => ⟨t_place_refused T, ?_, pure_place_refused T TX vs H Q E h⟩)
  · obtain ⟨B, M, x, al, r, o, vk, vm, dk, dm, rfl, _⟩ := h
    rfl
  · exact (pss_cons (L2.ps_try_manyAs rfl rfl takes_none (fun W pn xe tk _ => (pss_one (ps_expr (pe_methT (pv 0) T.cls_Contest T.me_Contest_parting_height (ok_m_Contest_parting_height T TX) hr T.b_m_Contest_parting_height (fun σ => L2.passAt tk σ) (pa_cons (pv 1) (pa_cons (pv 2) pa_nil)))))) (.cons (i := 3) sc_place_refused.nd rfl rfl ⟨by rfl, by decide, .inl T.g_BadPlace⟩ (fun a oe cls d pn hz hf => (pss_one (ps_if (PW.pt (pw_and (pt_val (pe_callB (call_isD hz hf) (by rfl) (T.free_isinstance) PyProof.Rows.boot_isinstance (pa_cons (pv 3) (pa_cons (pe_glob rfl T.g_WrongThing rfl) pa_nil)))) (pw_and1 (pt_val (pe_callB (call_isD hz hf) (by rfl) (T.free_isinstance) PyProof.Rows.boot_isinstance (pa_cons (pv 3) (pa_cons (pe_glob rfl T.g_SaidError rfl) pa_nil))))))) (pss_one (ps_ret (pe_callB (cr_repr hgd (room70m hr)) (by rfl) (T.free_repr) (by decide +kernel) (pa_cons (pe_xf (xf_of TX.x_BadPlace) TX.x_BadPlace.noN hz hf (pv 3)) pa_nil)))) pss_nil))) .nil))
      (pss_one (ps_ret pe_str)))
theorem ok_places_refused (T : Txt K mg w) (TX : TxtX T P) : FnG P w K mg base CX0 5 T.a_places_refused T.fd_places_refused ["_law_source_here", "_law_contest", "_law_row", "_law_other"] (sp_places_refused T) := by
  refine okG_of T.F_places_refused sc_places_refused (fun vs H Q E h => ?_) (fun cdv A outer s H vs Q E hgd hr h => ⟨t_places_refused T, ?_, pure_places_refused T vs H Q E h⟩)
  · obtain ⟨B, M, a, x, d, sd, c, al, r, o, rfl, _⟩ := h
    rfl
  · exact (pss_cons (ps_set (i := 4) sc_places_refused.nd rfl (by first | exact Or.inl rfl | exact Or.inr rfl) (pe_lst (pa_cons (pe_un un_neg pe_int) (pa_cons (pe_callB call_len (by rfl) (T.free_len) (by decide +kernel) (pa_cons (pv 2) pa_nil)) (pa_cons pe_bl (pa_cons pe_non (pa_cons pe_str (pa_cons (pe_tup (pa_cons pe_int pa_nil)) (pa_cons pe_bl (pa_cons (pe_op op_pow pe_int pe_int) (pa_cons (pe_un un_neg pe_int) pa_nil)))))))))))
      (pss_cons (ps_set (i := 5) sc_places_refused.nd rfl (by first | exact Or.inl rfl | exact Or.inr rfl) (pe_ix ix_list (pv 4) (pe_call (ok_pick T) (hr.mono (by decide)) (by rfl) T.g_pick T.F_pick.kp T.b_pick .nil pass0 (pa_cons (pv 0) (pa_cons (pe_callB call_len (by rfl) (T.free_len) (by decide +kernel) (pa_cons (pv 4) pa_nil)) pa_nil))) (fun _ _ => rfl)))
      (pss_cons (ps_set (i := 6) sc_places_refused.nd rfl (by first | exact Or.inl rfl | exact Or.inr rfl) (pe_lst (pa_cons (pe_un un_neg pe_int) (pa_cons (pe_callB call_len (by rfl) (T.free_len) (by decide +kernel) (pa_cons (pv 3) pa_nil)) (pa_cons pe_bl (pa_cons pe_non (pa_cons pe_str (pa_cons (pe_lst (pa_cons pe_int pa_nil)) (pa_cons pe_bl (pa_cons (pe_op op_pow pe_int pe_int) (pa_cons (pe_op op_add (pe_callB call_len (by rfl) (T.free_len) (by decide +kernel) (pa_cons (pv 3) pa_nil)) pe_int) pa_nil)))))))))))
      (pss_cons (ps_set (i := 7) sc_places_refused.nd rfl (by first | exact Or.inl rfl | exact Or.inr rfl) (pe_ix ix_list (pv 6) (pe_call (ok_pick T) (hr.mono (by decide)) (by rfl) T.g_pick T.F_pick.kp T.b_pick .nil pass0 (pa_cons (pv 0) (pa_cons (pe_callB call_len (by rfl) (T.free_len) (by decide +kernel) (pa_cons (pv 6) pa_nil)) pa_nil))) (fun _ _ => rfl)))
      (pss_cons (ps_if (pt_cmpR op_ne (pe_callG (ok_place_refused T TX) hgd hr (by rfl) T.g_place_refused T.F_place_refused.kp T.b_place_refused (pa_cons (pv 1) (pa_cons (pv 5) (pa_cons (pv 7) pa_nil)))) (pe_callB (cr_repr hgd (room70 hr)) (by rfl) (T.free_repr) (by decide +kernel) (pa_cons (pv 5) pa_nil)) (nomark _)) (pss_one (ps_ret pe_bl)) pss_nil)
      (pss_cons (ps_if (PW.pt (pw_and (pt_cmpR op_gt (pe_callB call_len (by rfl) (T.free_len) (by decide +kernel) (pa_cons (pv 3) pa_nil)) pe_int (nomark _)) (pw_and1 (pt_cmpR op_ne (pe_callG (ok_place_refused T TX) hgd hr (by rfl) T.g_place_refused T.F_place_refused.kp T.b_place_refused (pa_cons (pv 1) (pa_cons (pv 5) (pa_cons (pe_call (ok_pick T) (hr.mono (by decide)) (by rfl) T.g_pick T.F_pick.kp T.b_pick .nil pass0 (pa_cons (pv 0) (pa_cons (pe_callB call_len (by rfl) (T.free_len) (by decide +kernel) (pa_cons (pv 3) pa_nil)) pa_nil))) pa_nil)))) (pe_callB (cr_repr hgd (room70 hr)) (by rfl) (T.free_repr) (by decide +kernel) (pa_cons (pv 5) pa_nil)) (nomark _))))) (pss_one (ps_ret pe_bl)) pss_nil)
      (pss_cons (ps_if (PW.pt (pw_and (pt_cmpR op_gt (pe_callB call_len (by rfl) (T.free_len) (by decide +kernel) (pa_cons (pv 2) pa_nil)) pe_int (nomark _)) (pw_and1 (pt_cmpR op_ne (pe_callG (ok_place_refused T TX) hgd hr (by rfl) T.g_place_refused T.F_place_refused.kp T.b_place_refused (pa_cons (pv 1) (pa_cons (pe_call (ok_pick T) (hr.mono (by decide)) (by rfl) T.g_pick T.F_pick.kp T.b_pick .nil pass0 (pa_cons (pv 0) (pa_cons (pe_callB call_len (by rfl) (T.free_len) (by decide +kernel) (pa_cons (pv 2) pa_nil)) pa_nil))) (pa_cons (pv 7) pa_nil)))) (pe_callB (cr_repr hgd (room70 hr)) (by rfl) (T.free_repr) (by decide +kernel) (pa_cons (pv 7) pa_nil)) (nomark _))))) (pss_one (ps_ret pe_bl)) pss_nil)
      (pss_one (ps_ret pe_bl)))))))))
end
end K52
set_option Elab.async false
set_option linter.all false
set_option maxRecDepth 100000
set_option maxHeartbeats 8000000
namespace K52
open PySem PySem.Spec PyProof.Rows L2 Sh
open SX (S)
local macro_rules | `(tactic| walk_at "v1") => `(tactic| first
  | with_reducible refine v_seq ?_ | with_reducible refine v_asg ?_ | ((with_reducible refine' v_name ?e ?_); (case e => exact rfl)) | with_reducible refine v_ret ?_ | with_reducible refine v_drop ?_ | with_reducible refine v_next ?_
  | with_reducible refine v_if ?_ | with_reducible refine v_op ?_ | with_reducible refine v_c ?_ | ((with_reducible refine' v_var ?e ?_); (case e => exact rfl))
  | with_reducible refine v_I0 ?_ | with_reducible refine v_test ?_ | with_reducible refine v_B ?_ | with_reducible refine v_bl ?_ | with_reducible refine v_not ?_ | with_reducible refine v_and ?_ | with_reducible refine v_or ?_
  | with_reducible refine v_andV ?_ | with_reducible refine v_orV ?_ | with_reducible refine v_notV ?_ | with_reducible refine v_ife ?_
  | with_reducible refine v_nil ?_ | with_reducible refine v_cons ?_ | with_reducible refine v_tup ?_ | with_reducible refine v_lst ?_ | with_reducible refine v_call ?_ | with_reducible refine v_cb ?_ | with_reducible refine v_int ?_ | with_reducible refine v_abs ?_
  | ((with_reducible refine' v_eq ?e ?_); (case e => exact rfl)) | ((with_reducible refine' v_ne ?e ?_); (case e => exact rfl)) | with_reducible refine v_sub ?_ | with_reducible refine v_isN ?_ | with_reducible refine v_notN ?_
  | with_reducible refine v_part ?_ | with_reducible refine v_nopart ?_ | with_reducible refine v_pint ?_ | with_reducible refine v_inSg ?_ | with_reducible refine v_notInSg ?_
  | ((with_reducible refine' v_ixL ?l ?a ?_); (case l => assumption); (case a => exact at_lit _ rfl)) | ((with_reducible refine' v_ixT ?l ?a ?_); (case l => assumption); (case a => exact at_lit _ rfl))
  | ((with_reducible refine v_I ?c ?_); (case c => (first | omega | (unfold CMul; omega) | (unfold CDivN; omega) | (unfold CPow; omega))))
  | with_reducible refine v_for ?_ | with_reducible refine v_iList ?_ | with_reducible refine v_iTup ?_ | with_reducible refine v_iStr ?_ | with_reducible refine v_iR1 ?_ | with_reducible refine v_iR2 ?_ | with_reducible refine v_atS ?_ | with_reducible refine v_sl ?_ | with_reducible refine v_lc ?_ | with_reducible refine v_yes ?_
  | with_reducible refine v_m1 ?_ | with_reducible refine v_m1S ?_ | with_reducible refine v_bm ?_ | with_reducible refine v_bm0 ?_ | with_reducible refine v_dnewK ?_ | with_reducible refine v_dnewT ?_ | with_reducible refine v_dget ?_ | with_reducible refine v_din ?_ | with_reducible refine v_dnotin ?_ | with_reducible refine v_dput ?_ | with_reducible refine v_chain ?_ | with_reducible refine v_un ?_ | with_reducible refine v_neg ?_
  | with_reducible refine v_brk ?_ | with_reducible refine v_cont ?_
  | with_reducible refine v_fld ?_ | with_reducible refine v_sfld ?_ | with_reducible refine v_meth ?_ | with_reducible refine v_methT ?_ | with_reducible refine v_make ?_ | with_reducible refine v_makeT ?_ | with_reducible refine v_dget2 ?_ | with_reducible refine v_enumS ?_ | with_reducible refine v_enumQ ?_ | with_reducible refine v_lc2 ?_ | with_reducible refine v_isB ?_ | with_reducible refine v_notB ?_ | with_reducible refine v_lstRg2 ?_ | with_reducible refine v_lstRg3 ?_)
local macro_rules | `(tactic| walk_at "v") => `(tactic| repeat (walk_at "v1"))
local macro_rules | `(tactic| walk_at "vm") => `(tactic| repeat (first | ((with_reducible refine v_modP ?c ?_); (case c => omega); (intro _ _ _)) | walk_at "v1"))
local macro_rules | `(tactic| walk_at "iv") => `(tactic| (try dsimp only; refine IV.mk (by assumption) (by assumption) ?_))
local macro_rules | `(tactic| walk_at "n") => `(tactic| dsimp only [List.set_cons_zero, List.set_cons_succ])
def isTupD : PyData → Bool
  | .tuple _ => true
  | _ => false
theorem kit_tup {K : PySem.W.Frag} (d : PyData) : PySem.W.kitOne K (.type (tyN d)) (.type "tuple") = some (isTupD d) := by
  cases d <;> (dsimp only [tyN, isTupD]; exact kB _ _ _ (by decide +kernel))
theorem v_isiTup {K : PySem.W.Frag} {H : Hp} {v : V} {d : PyData} {Q : VK} (hr : Rp K H v d) (h : Q (.bl (isTupD d)) H) : rIsi K [v, .ty "tuple"] H Q := ⟨v, .ty "tuple", _, .type "tuple", _, rfl, .ty _, rp_ty hr, kit_tup d, h⟩
/-! ### _law_is_levels -/
def sp_is_levels (K : PySem.W.Frag) : Sp := fun vs H Q _ => ∃ (B : Hp) (M : List (Addr × HO)) (v v2 : V) (Ls : List (List (Nat × Nat))), vs = [v, v2] ∧ Hs B M H ∧ Rp K B v (.tuple (Ls.map (levD false))) ∧ Rp K B v2 (.list (Ls.map (levD true))) ∧ Ls.length ≤ 1000 ∧ (∀ L ∈ Ls, L.length ≤ 1000 ∧ ∀ p ∈ L, p.1 < 12 ∧ p.2 < 12) ∧
  ∀ (B' H' : Hp), Le B B' → Hs B' M H' → Q (.bl true) H'
def t_is_levels (K : PySem.W.Frag) : TS := (tSeq (tIfS (tOr (tNot (tB (tCB (rIsi K) (tCons (tVar 0) (tCons (tC (.ty "tuple")) tNil))))) (tTest (tOp rNe (tCB (rCLen K) (tCons (tVar 0) tNil)) (tCB (rCLen K) (tCons (tVar 1) tNil))))) (tRet (tC (.bl false))) tNext)
    (tSeq (tFor (iRng1 (tCons (tCB (rCLen K) (tCons (tVar 1) tNil)) tNil)) (gName 2) (tSeq (tAsg (tOp (rIxT K) (tVar 0) (tVar 2)) (gName 3))
    (tSeq (tIfS (tOr (tNot (tB (tCB (rIsi K) (tCons (tVar 3) (tCons (tC (.ty "tuple")) tNil))))) (tTest (tOp rNe (tCB (rCLen K) (tCons (tVar 3) tNil)) (tCB (rCLen K) (tCons (tOp (rIxL K) (tVar 1) (tVar 2)) tNil))))) (tRet (tC (.bl false))) tNext)
    (tFor (iRng1 (tCons (tCB (rCLen K) (tCons (tVar 3) tNil)) tNil)) (gName 4) (tSeq (tAsg (tOp (rIxT K) (tVar 3) (tVar 4)) (gName 5))
    (tSeq (tIfS (tOr (tNot (tB (tCB (rIsi K) (tCons (tVar 5) (tCons (tC (.ty "tuple")) tNil))))) (tTest (tOp rNe (tCB (rCLen K) (tCons (tVar 5) tNil)) (tC (.int 2))))) (tRet (tC (.bl false))) tNext)
    (tSeq (tIfS (tOr (tNot (tB (tCall (sp_is_number K) [] E0 (tCons (tOp (rIxT K) (tVar 5) (tC (.int 0))) (tCons (tC (.int 0)) (tCons (tC (.int 11)) tNil)))))) (tNot (tB (tCall (sp_is_number K) [] E0 (tCons (tOp (rIxT K) (tVar 5) (tC (.int 1))) (tCons (tC (.int 0)) (tCons (tC (.int 11)) tNil))))))) (tRet (tC (.bl false))) tNext)
    (tIfS (tTest (tOp (rNeP K) (tVar 5) (tOp (rIxL K) (tOp (rIxL K) (tVar 1) (tVar 2)) (tVar 4)))) (tRet (tC (.bl false))) tNext))))))))
    (tRet (tC (.bl true)))))
theorem rp_tupS {K : PySem.W.Frag} {B : Hp} {v : V} {ds : List PyData} (h : Rp K B v (.tuple ds)) : ∃ a xs, v = .ref a ∧ SqT K B a xs ∧ RpAll K B xs ds := by
  obtain ⟨a, xs, e, h1, h2⟩ := rp_mk (l := false) h
  exact ⟨a, xs, e, SqT.of h1, h2⟩
theorem lt12 {k : Nat} (h : k < 12) : isIntIn 0 11 (.int (k : Int)) = true := by
  show (decide ((0 : Int) ≤ (k : Int)) && decide ((k : Int) ≤ 11)) = true
  rw [decide_eq_true (by omega), decide_eq_true (by omega)]
  rfl
theorem cell_depth (p : Nat × Nat) : (cellD p).depth ≤ 64 := by
  show (PyData.tuple _).depth ≤ 64
  simp only [PyData.depth, PyData.depthAll]
  decide
theorem pure_is_levels {K : PySem.W.Frag} (vs : List V) (H : Hp) (Q : VK) (E : XK) (h : sp_is_levels K vs H Q E) : t_is_levels K { nx := fun _ H' => Q .non H', rt := Q } (start n_is_levels vs) H := by
  obtain ⟨B, M, v, v2, Ls, rfl, hs, hv, hv2, ll, hl, q⟩ := h
  obtain ⟨a, xs, rfl, hA, hX⟩ := rp_tupS hv
  obtain ⟨b, ys, rfl, hB, hY⟩ := rp_mk (l := true) hv2
  have xl : xs.length = Ls.length := by rw [hX.length, List.length_map]
  have yl : ys.length = Ls.length := by rw [hY.length, List.length_map]
  show t_is_levels K _ [some (V.ref a), some (V.ref b), none, none, none, none] H
  unfold t_is_levels
  walk_at "v"
  refine v_isiTup (hs.r hv) ?_
  walk_at "v"
  refine iteF' rfl ?_
  walk_at "v"
  refine v_lenT (hs.t hA) ?_
  walk_at "v"
  refine v_lenL (hs.l hB) ?_
  walk_at "v"
  rw [xl, yl, decide_eq_true rfl]
  refine iteF' rfl ?_
  walk_at "v"
  refine v_lenL (hs.l hB) ?_
  walk_at "v"
  rw [yl]
  refine v_atR1 (by omega) ?_
  rw [Int.toNat_natCast]
  refine v_forR hs (fun i σ' B' M' => M' = M ∧ ∃ y2 y3 y4 y5 : Option V, σ' = [some (V.ref a), some (V.ref b), y2, y3, y4, y5]) ⟨rfl, none, none, none, none, rfl⟩ ?_ ?_
  · rintro i σ' B1 M' H1 hi l1 h1 ⟨rfl, y2, y3, y4, y5, rfl⟩
    obtain ⟨L, eL⟩ : ∃ L, Ls[i]? = some L := ⟨_, List.getElem?_eq_getElem hi⟩
    obtain ⟨L1, L2'⟩ := hl L (List.mem_of_getElem? eL)
    obtain ⟨x, ex, hx⟩ := hX.get (show (Ls.map (levD false))[i]? = some (levD false L) by rw [List.getElem?_map, eL]; rfl)
    obtain ⟨y, ey, hy⟩ := hY.get (show (Ls.map (levD true))[i]? = some (levD true L) by rw [List.getElem?_map, eL]; rfl)
    obtain ⟨xa, us, rfl, hU, hUs⟩ := rp_tupS hx
    obtain ⟨ya, ws, rfl, hW, hWs⟩ := rp_mk (l := true) hy
    have ul : us.length = L.length := by rw [hUs.length, List.length_map]
    have wl : ws.length = L.length := by rw [hWs.length, List.length_map]
    rw [show (0 : Int) + (i : Int) = (i : Int) by omega]
    walk_at "v"
    refine v_ixT (v := .ref xa) (h1.t (le_t l1 hA)) (atI_nat ex) ?_
    walk_at "v"
    refine v_isiTup (h1.r (hx.up l1)) ?_
    walk_at "v"
    refine iteF' rfl ?_
    walk_at "v"
    refine v_lenT (h1.t (le_t l1 hU)) ?_
    walk_at "v"
    refine v_ixL (v := .ref ya) (h1.l (le_l l1 hB)) (atI_nat ey) ?_
    walk_at "v"
    refine v_lenL (h1.l (le_l l1 hW)) ?_
    walk_at "v"
    rw [ul, wl, decide_eq_true rfl]
    refine iteF' rfl ?_
    walk_at "v"
    refine v_lenT (h1.t (le_t l1 hU)) ?_
    walk_at "v"
    rw [ul]
    refine v_atR1 (by omega) ?_
    rw [Int.toNat_natCast]
    refine v_forR h1 (fun j σ' B' M'' => M'' = M' ∧ ∃ y4 y5 : Option V, σ' = [some (V.ref a), some (V.ref b), some (V.int (i : Int)), some (V.ref xa), y4, y5]) ⟨rfl, y4, y5, rfl⟩ ?_ ?_
    · rintro j σ' B2 M'' H2 hj l2 h2 ⟨rfl, y4, y5, rfl⟩
      obtain ⟨p, ep⟩ : ∃ p, L[j]? = some p := ⟨_, List.getElem?_eq_getElem hj⟩
      obtain ⟨p1, p2⟩ := L2' p (List.mem_of_getElem? ep)
      obtain ⟨z, ez, hz⟩ := hUs.get (show (L.map cellD)[j]? = some (cellD p) by rw [List.getElem?_map, ep]; rfl)
      obtain ⟨u, eu, hu⟩ := hWs.get (show (L.map cellD)[j]? = some (cellD p) by rw [List.getElem?_map, ep]; rfl)
      obtain ⟨za, rfl, hza⟩ := rp_cell hz
      have l12 := l1.trans l2
      have hz2 : SqT K B2 za [intV p.1, intV p.2] := SqT.of (l12 _ _ hza)
      rw [show (0 : Int) + (j : Int) = (j : Int) by omega]
      walk_at "v"
      refine v_ixT (v := .ref za) (h2.t (le_t l12 hU)) (atI_nat ez) ?_
      walk_at "v"
      refine v_isiTup (h2.r (hz.up l12)) ?_
      walk_at "v"
      refine iteF' rfl ?_
      walk_at "v"
      refine v_lenT (h2.t hz2) ?_
      walk_at "v"
      refine iteF' (by rfl) ?_
      walk_at "v"
      refine v_ixT (h2.t hz2) (at_lit 0 rfl) ?_
      walk_at "v"
      refine ⟨intV p.1, .int (p.1 : Int), 0, 11, rfl, .int _, ?_⟩
      rw [lt12 p1]
      walk_at "v"
      refine iteF' rfl ?_
      walk_at "v"
      refine v_ixT (h2.t hz2) (at_lit 1 rfl) ?_
      walk_at "v"
      refine ⟨intV p.2, .int (p.2 : Int), 0, 11, rfl, .int _, ?_⟩
      rw [lt12 p2]
      walk_at "v"
      refine iteF' rfl ?_
      walk_at "v"
      refine v_ixL (v := .ref ya) (h2.l (le_l l12 hB)) (atI_nat ey) ?_
      walk_at "v"
      refine v_ixL (v := u) (h2.l (le_l l12 hW)) (atI_nat eu) ?_
      refine v_neP h2 (hz.up l12) (hu.up l12) rfl (cell_depth p) ?_
      walk_at "v"
      refine iteF' rfl ?_
      walk_at "v"
      try dsimp only
      exact IV.mk l2 h2 ⟨rfl, _, _, rfl⟩
    · rintro σ' B2 M'' H2 l2 h2 ⟨rfl, y4, y5, rfl⟩
      try dsimp only
      exact IV.mk (l1.trans l2) h2 ⟨rfl, _, _, _, _, rfl⟩
  · rintro σ' B1 M' H1 l1 h1 ⟨rfl, y2, y3, y4, y5, rfl⟩
    walk_at "v"
    exact q B1 H1 l1 h1
section
variable {P : Program} {w : World} {K : PySem.W.Frag} {mg : Str → Option Value} {base : Heap}
/-! ### _law_is_contest -/
theorem lev_bounds {n m : Nat} (f : Rel) (hn : n ≤ 12) (hm : m ≤ 12) : (levels n m f).length ≤ 145 ∧ ∀ g ∈ levels n m f, (cells n m g).length ≤ 144 := by
  have c : ∀ g : Rel, (cells n m g).length ≤ 144 := fun g => by
    have := cells_len (n := n) (m := m) g
    have : n * m ≤ 12 * 12 := Nat.mul_le_mul hn hm
    omega
  refine ⟨?_, fun g _ => c g⟩
  have := levels_len (n := n) (m := m) f
  have := c f
  omega
def sp_is_contest (T : Txt K mg w) : Sp := fun vs H Q _ => ∃ (B : Hp) (M : List (Addr × HO)) (x : Addr) (al r o : List Nat) (v : V), vs = [.ref x, .str (S al), .str (S r), .str (S o), v] ∧ Hs B M H ∧ ConV T B x al r o ∧ r.length ≤ 12 ∧ o.length ≤ 12 ∧ Rp K B v (fullD r.length o.length (levels r.length o.length (rel0 r o))) ∧
  ∀ (B' H' : Hp), Le B B' → Hs B' M H' → Q (.bl true) H'
def t_is_contest (T : Txt K mg w) : TS := (tSeq (tIfS (tOr (tTest (tOp rNe (tFld K (tVar 0) "alphabet") (tVar 1))) (tOr (tTest (tOp rNe (tFld K (tVar 0) "row") (tVar 2))) (tTest (tOp rNe (tFld K (tVar 0) "other") (tVar 3))))) (tRet (tC (.bl false))) tNext)
    (tRet (tCall (sp_is_levels K) [] E0 (tCons (tFld K (tVar 0) "levels") (tCons (tVar 4) tNil)))))
theorem pure_is_contest (T : Txt K mg w) (vs : List V) (H : Hp) (Q : VK) (E : XK) (h : sp_is_contest T vs H Q E) : t_is_contest T { nx := fun _ H' => Q .non H', rt := Q } (start n_is_contest vs) H := by
  obtain ⟨B, M, x, al, r, o, v, rfl, hs, ⟨dx, vt, vl, eB, hT, hL⟩, r12, o12, hv, q⟩ := h
  show t_is_contest T _ [some (V.ref x), some (V.str (S al)), some (V.str (S r)), some (V.str (S o)), some v] H
  unfold t_is_contest
  have e0 := hs.sub _ _ eB
  walk_at "v"
  refine v_fldI e0 T.cls_Contest T.no_Contest_alphabet rfl ?_
  walk_at "v"
  rw [decide_eq_true rfl]
  refine iteF' rfl ?_
  walk_at "v"
  refine v_fldI e0 T.cls_Contest T.no_Contest_row rfl ?_
  walk_at "v"
  rw [decide_eq_true rfl]
  refine iteF' rfl ?_
  walk_at "v"
  refine v_fldI e0 T.cls_Contest T.no_Contest_other rfl ?_
  walk_at "v"
  rw [decide_eq_true rfl]
  refine iteF' rfl ?_
  walk_at "v"
  refine v_fldI e0 T.cls_Contest T.no_Contest_levels rfl ?_
  walk_at "v"
  have e1 : levsD r.length o.length (levels r.length o.length (rel0 r o)) = .tuple (((levels r.length o.length (rel0 r o)).map (cells r.length o.length)).map (levD false)) := by
    unfold levsD
    rw [List.map_map]
    rfl
  have e2 : fullD r.length o.length (levels r.length o.length (rel0 r o)) = .list (((levels r.length o.length (rel0 r o)).map (cells r.length o.length)).map (levD true)) := by
    unfold fullD
    rw [List.map_map]
    rfl
  rw [e1] at hL
  rw [e2] at hv
  obtain ⟨b1, b2⟩ := lev_bounds (rel0 r o) r12 o12
  refine ⟨B, M, vl, v, _, rfl, hs, hL, hv, by rw [List.length_map]; omega, fun L hL => ?_, q⟩
  obtain ⟨g, hg, rfl⟩ := List.mem_map.mp hL
  refine ⟨by have := b2 g hg; omega, fun p hp => ?_⟩
  obtain ⟨h1, h2, _⟩ := mem_cells.mp hp
  exact ⟨by omega, by omega⟩
/-! ### _law_kept -/
def KeptD (kvs : List (List Key × V)) (Ls : List (List (Nat × Nat))) : Prop := ∀ k j : Nat, (valV kvs (pairK k j)).getD (.int 0) = intV (Ls.flatten.count (k, j))
def sp_kept (K : PySem.W.Frag) : Sp := fun vs H Q _ => ∃ (B : Hp) (M : List (Addr × HO)) (v : V) (Ls : List (List (Nat × Nat))), vs = [v] ∧ Hs B M H ∧ Rp K B v (.list (Ls.map (levD true))) ∧ Ls.length ≤ 1000 ∧ (∀ L ∈ Ls, L.length ≤ 1000) ∧
  ∀ (p : Addr) (kvs : List (List Key × V)) (B' H' : Hp), Le B B' → Hs B' M H' → B' p = some (.dT kvs) → KeptD kvs Ls → Q (.ref p) H'
def t_kept (K : PySem.W.Frag) : TS := (tSeq (tAsg tDNewT (gName 1))
    (tSeq (tFor (iList K (tVar 0)) (gName 2) (tFor (iList K (tVar 2)) (gName 3) (sDPut (tVar 1) (tVar 3) (tOp rAddI (tDGet2 (tVar 1) (tVar 3) (tC (.int 0))) (tC (.int 1))))))
    (tRet (tVar 1))))
theorem pure_kept {K : PySem.W.Frag} (vs : List V) (H : Hp) (Q : VK) (E : XK) (h : sp_kept K vs H Q E) : t_kept K { nx := fun _ H' => Q .non H', rt := Q } (start n_kept vs) H := by
  obtain ⟨B, M, v, Ls, rfl, hs, hv, ll, hl, q⟩ := h
  obtain ⟨b, ys, rfl, hB, hY⟩ := rp_mk (l := true) hv
  have yl : ys.length = Ls.length := by rw [hY.length, List.length_map]
  show t_kept K _ [some (V.ref b), none, none, none] H
  unfold t_kept
  walk_at "v"
  refine v_newM hs fun kd H1 h1 => ?_
  walk_at "v"
  refine v_atL (h1.l hB) (v_forL hB h1 (fun i σ' B' M' => ∃ (kvs : List (List Key × V)) (y2 y3 : Option V), M' = (kd, .dT kvs) :: M ∧ KeptD kvs (Ls.take i) ∧ kvs.length ≤ i * 1000 ∧ σ' = [some (V.ref b), some (V.ref kd), y2, y3]) ⟨[], none, none, rfl, fun k j => rfl, Nat.le_refl _, rfl⟩ ?_ ?_)
  · rintro i x σ' B2 M' H2 hi hx l2 h2 ⟨kvs, y2, y3, rfl, hk, lk, rfl⟩
    obtain ⟨d, ed, hd⟩ := hY.getV hx
    rw [List.getElem?_map] at ed
    obtain ⟨L, eL, rfl⟩ := Option.map_eq_some_iff.mp ed
    have L1 := hl L (List.mem_of_getElem? eL)
    obtain ⟨ya, ws, rfl, hW, hWs⟩ := rp_mk (l := true) hd
    have wl : ws.length = L.length := by rw [hWs.length, List.length_map]
    walk_at "v"
    refine v_atL (h2.l (le_l l2 hW)) (v_forL (le_l l2 hW) h2 (fun j σ' B' M' => ∃ (kvs : List (List Key × V)) (y3 : Option V), M' = (kd, .dT kvs) :: M ∧ (∀ a b : Nat, (valV kvs (pairK a b)).getD (.int 0) = intV ((Ls.take i).flatten.count (a, b) + (L.take j).count (a, b))) ∧ kvs.length ≤ i * 1000 + j ∧ σ' = [some (V.ref b), some (V.ref kd), some (V.ref ya), y3])
      ⟨kvs, y3, rfl, hk, lk, rfl⟩ ?_ ?_)
    · rintro j x σ' B3 M' H3 hj hx l3 h3 ⟨kvs, y3, rfl, hk, lk, rfl⟩
      obtain ⟨d, ed, hd⟩ := hWs.getV hx
      rw [List.getElem?_map] at ed
      obtain ⟨p, ep, rfl⟩ := Option.map_eq_some_iff.mp ed
      obtain ⟨za, rfl, hza⟩ := rp_cell hd
      have l23 := l2.trans l3
      have hz3 : B3 za = some (.tup ((pairK p.1 p.2).map kV)) := l23 _ _ hza
      rw [wl] at hj
      have im : i * 1000 ≤ 1000 * 1000 := Nat.mul_le_mul_right 1000 (by omega)
      have ib : i * 1000 + j ≤ 1000000 := by
        have : (i + 1) * 1000 ≤ 1000 * 1000 := Nat.mul_le_mul_right 1000 (by omega)
        omega
      walk_at "v"
      refine v_dgoT (h3.atI 0 rfl) ?_
      walk_at "v"
      refine v_dgT (h3.atI 0 rfl) (h3.sub _ _ hz3) ?_
      rw [hk p.1 p.2]
      walk_at "v"
      refine v_dputTI (k := pairK p.1 p.2) h3 0 rfl hz3 (by omega) fun H4 h4 => ?_
      try dsimp only
      refine IV.mk l3 h4 ⟨_, _, rfl, fun a b => ?_, Nat.le_trans (length_putK _ _ _) (by omega), rfl⟩
      have ts : L.take (j + 1) = L.take j ++ [p] := by rw [List.take_add_one, ep]; rfl
      rw [valV_put, ts, List.count_append, List.count_singleton]
      by_cases e : (a, b) = p
      · have e2 : pairK a b = pairK p.1 p.2 := pairK_inj.mpr e
        rw [if_pos e2, e, beq_self_eq_true, if_pos rfl]
        show V.int _ = V.int _
        congr 1
      · have e2 : ¬ pairK a b = pairK p.1 p.2 := fun z => e (pairK_inj.mp z)
        rw [if_neg e2, hk a b, if_neg (fun z => e (eq_of_beq z).symm)]
        rfl
    · rintro σ' B3 M' H3 l3 h3 ⟨kvs, y3, rfl, hk, lk, rfl⟩
      rw [wl] at hk lk
      try dsimp only
      refine IV.mk (l2.trans l3) h3 ⟨_, _, _, rfl, fun a b => ?_, by rw [Nat.succ_mul]; omega, rfl⟩
      rw [hk a b, List.take_length, List.take_add_one, eL, List.flatten_append, List.count_append]
      simp
  · rintro σ' B2 M' H2 l2 h2 ⟨kvs, y2, y3, rfl, hk, lk, rfl⟩
    rw [yl, List.take_length] at hk
    walk_at "v"
    obtain ⟨h3, l3⟩ := h2.fix
    exact q kd kvs _ _ (l2.trans l3) h3 upd_same hk
/-! ### _law_height_right -/
def sp_height_right (T : Txt K mg w) : Sp := fun vs H Q _ => ∃ (B : Hp) (M : List (Addr × HO)) (x kd : Addr) (al r o : List Nat) (k j : Nat) (kvs : List (List Key × V)), vs = [.ref x, .int (k : Int), .int (j : Int), .ref kd, .int ((levels r.length o.length (rel0 r o)).length : Int)] ∧ Hs B M H ∧ ConV T B x al r o ∧ r.length ≤ 12 ∧ o.length ≤ 12 ∧ k < r.length ∧ j < o.length ∧
  B kd = some (.dT kvs) ∧ KeptD kvs ((levels r.length o.length (rel0 r o)).map (cells r.length o.length)) ∧ ∀ (B' H' : Hp), Le B B' → Hs B' M H' → Q (.bl true) H'
def t_height_right (T : Txt K mg w) : TS := (tSeq (tAsg (tDGet2 (tVar 3) (tTup (tCons (tVar 1) (tCons (tVar 2) tNil))) (tC (.int 0))) (gName 5))
    (tSeq (tAsg (tMeth T.a_Contest "parting_height" (sp_m_Contest_parting_height T) [] E0 (tVar 0) (tCons (tVar 1) (tCons (tVar 2) tNil))) (gName 6))
    (tSeq (tIfS (tTest (tOp rEq (tVar 5) (tVar 4))) (tRet (tOp rIsNn (tVar 6) (tC .non))) tNext)
    (tRet (tCall (sp_is_number K) [] E0 (tCons (tVar 6) (tCons (tVar 5) (tCons (tVar 5) tNil))))))))
theorem row_count (g : Nat → Bool) (i k j : Nat) : ∀ m : Nat, (((List.range m).filter g).map fun b => (i, b)).count (k, j) = if i = k ∧ j < m ∧ g j = true then 1 else 0
  | 0 => by rw [if_neg (fun z => absurd z.2.1 (Nat.not_lt_zero _))]; rfl
  | m + 1 => by
    rw [filter_succ, List.map_append, List.count_append, row_count g i k j m]
    by_cases hg : g m = true
    · rw [if_pos hg, List.map_singleton, List.count_singleton]
      by_cases e : (i, m) = (k, j)
      · injection e with e1 e2
        subst e1 e2
        rw [if_neg (fun z => absurd z.2.1 (Nat.lt_irrefl _)), beq_self_eq_true, if_pos rfl, if_pos ⟨rfl, Nat.lt_succ_self _, hg⟩]
      · rw [if_neg (fun z => e (eq_of_beq z))]
        by_cases c : i = k ∧ j < m ∧ g j = true
        · rw [if_pos c, if_pos ⟨c.1, by omega, c.2.2⟩]
        · rw [if_neg c, if_neg (fun z => c ⟨z.1, by
            by_cases h : j = m
            · exact absurd (by rw [z.1, h]) e
            · omega, z.2.2⟩)]
    · rw [if_neg hg, List.map_nil, List.count_nil]
      by_cases c : i = k ∧ j < m ∧ g j = true
      · rw [if_pos c, if_pos ⟨c.1, by omega, c.2.2⟩]
      · rw [if_neg c, if_neg (fun z => c ⟨z.1, by
          by_cases h : j = m
          · exact absurd (h ▸ z.2.2) hg
          · omega, z.2.2⟩)]
theorem cells_count' (m : Nat) (f : Rel) (k j : Nat) : ∀ n : Nat, (cells n m f).count (k, j) = if k < n ∧ j < m ∧ f k j = true then 1 else 0
  | 0 => by rw [if_neg (fun z => absurd z.1 (Nat.not_lt_zero _))]; rfl
  | n + 1 => by
    rw [cells_succ, List.count_append, cells_count' m f k j n, row_count]
    by_cases e : n = k
    · subst e
      rw [if_neg (fun z => absurd z.1 (Nat.lt_irrefl _))]
      by_cases c : j < m ∧ f n j = true
      · rw [if_pos ⟨rfl, c⟩, if_pos ⟨Nat.lt_succ_self _, c⟩]
      · rw [if_neg (fun z => c z.2), if_neg (fun z => c z.2)]
    · rw [if_neg (show ¬ (n = k ∧ j < m ∧ f n j = true) from fun z => e z.1), Nat.add_zero]
      by_cases c : k < n ∧ j < m ∧ f k j = true
      · rw [if_pos c, if_pos ⟨by omega, c.2⟩]
      · rw [if_neg c, if_neg (fun z => c ⟨by omega, z.2⟩)]
theorem cells_count (n m : Nat) (f : Rel) {k j : Nat} (hk : k < n) (hj : j < m) : (cells n m f).count (k, j) = if f k j = true then 1 else 0 := by
  rw [cells_count']
  by_cases h : f k j = true
  · rw [if_pos h, if_pos ⟨hk, hj, h⟩]
  · rw [if_neg h, if_neg (fun z => h z.2.2)]
theorem levs_dec {n m : Nat} : ∀ (t : Nat) (f : Rel) (k j : Nat), f k j = false → ∀ g ∈ levs n m t f, g k j = false
  | 0, f, k, j, h, g, hg => by
    rw [List.mem_singleton.mp hg]
    exact h
  | t + 1, f, k, j, h, g, hg => by
    unfold levs at hg
    split at hg
    · rw [List.mem_singleton.mp hg]; exact h
    · rcases List.mem_cons.mp hg with rfl | hg
      · exact h
      · exact levs_dec t _ k j (by show (f k j && stays n m f k j) = false; rw [h]; rfl) g hg
theorem levs_count {n m : Nat} : ∀ (t : Nat) (f : Rel) {k j : Nat}, k < n → j < m → ((levs n m t f).map (cells n m)).flatten.count (k, j) = (levs n m t f).findIdx fun g => !g k j := by
  have zero : ∀ (l : List Rel) {k j : Nat}, k < n → j < m → (∀ g ∈ l, g k j = false) → (l.map (cells n m)).flatten.count (k, j) = 0 := by
    intro l k j hk hj h
    induction l with
    | nil => rfl
    | cons g l ih =>
      rw [List.map_cons, List.flatten_cons, List.count_append, cells_count n m g hk hj, h g (by simp), ih fun g hg => h g (by simp [hg])]
      rfl
  intro t
  induction t with
  | zero =>
    intro f k j hk hj
    show ([f].map (cells n m)).flatten.count (k, j) = [f].findIdx _
    rw [List.map_cons, List.flatten_cons, List.count_append, cells_count n m f hk hj, List.findIdx_cons]
    cases h : f k j <;> rfl
  | succ t ih =>
    intro f k j hk hj
    unfold levs
    split
    · rw [List.map_cons, List.flatten_cons, List.count_append, cells_count n m f hk hj, List.findIdx_cons]
      cases h : f k j <;> rfl
    · rw [List.map_cons, List.flatten_cons, List.count_append, cells_count n m f hk hj, List.findIdx_cons]
      cases h : f k j with
      | true =>
        rw [ih _ hk hj]
        show 1 + _ = _ + 1
        omega
      | false =>
        rw [zero _ hk hj fun g hg => levs_dec t _ k j (by show (f k j && stays n m f k j) = false; rw [h]; rfl) g hg]
        rfl
theorem pure_height_right (T : Txt K mg w) (vs : List V) (H : Hp) (Q : VK) (E : XK) (h : sp_height_right T vs H Q E) : t_height_right T { nx := fun _ H' => Q .non H', rt := Q } (start n_height_right vs) H := by
  obtain ⟨B, M, x, kd, al, r, o, k, j, kvs, rfl, hs, hc, r12, o12, hk, hj, eK, hK, q⟩ := h
  show t_height_right T _ [some (V.ref x), some (V.int (k : Int)), some (V.int (j : Int)), some (V.ref kd), some (V.int _), none, none] H
  unfold t_height_right
  obtain ⟨dx, vt, vl, eB, -, -⟩ := id hc
  walk_at "v"
  refine v_dgoT (hs.sub _ _ eK) ?_
  walk_at "v"
  refine v_size (xs := [intV k, intV j]) (by show 2 ≤ sizeLine; decide) (v_newB hs fun tp B1 H1 l1 h1 e1 => ?_)
  walk_at "v"
  refine v_dgT (k := pairK k j) (h1.sub _ _ (l1 _ _ eK)) (h1.sub _ _ e1) ?_
  have ec : ((levels r.length o.length (rel0 r o)).map (cells r.length o.length)).flatten.count (k, j) = (levels r.length o.length (rel0 r o)).findIdx fun g => !g k j := levs_count _ _ hk hj
  rw [hK k j, ec]
  walk_at "v"
  refine v_mthI (h1.sub _ _ (l1 _ _ eB)) rfl ?_
  walk_at "v"
  refine ⟨B1, M, x, al, r, o, .int (k : Int), .int (j : Int), .int (k : Int), .int (j : Int), rfl, h1, hc.up l1, r12, o12, .int _, .int _, fun z => ?_, fun _ z => ?_, fun k' j' e1 e2 hk' hj' B2 H2 l2 h2 => ?_⟩
  · rw [isInt_of hk] at z; cases z
  · rw [isInt_of hj] at z; cases z
  have : k' = k := by injection e1 with e1; omega
  subst this
  have : j' = j := by injection e2 with e2; omega
  subst this
  have le := List.findIdx_le_length (p := fun g : Rel => !g k' j') (xs := levels r.length o.length (rel0 r o))
  unfold hgt
  walk_at "v"
  by_cases hlt : (levels r.length o.length (rel0 r o)).findIdx (fun g => !g k' j') < (levels r.length o.length (rel0 r o)).length
  · rw [if_pos hlt]
    refine iteF' (decide_eq_false fun z => ?_) ?_
    · injection z with z; omega
    walk_at "v"
    refine ⟨_, .int _, _, _, rfl, .int _, ?_⟩
    have e : isIntIn (((levels r.length o.length (rel0 r o)).findIdx fun g => !g k' j' : Nat) : Int) (((levels r.length o.length (rel0 r o)).findIdx fun g => !g k' j' : Nat) : Int) (.int (((levels r.length o.length (rel0 r o)).findIdx fun g => !g k' j' : Nat) : Int)) = true := by
      show (decide (_ ≤ _) && decide (_ ≤ _)) = true
      rw [decide_eq_true (Int.le_refl _)]
      rfl
    rw [e]
    exact q B2 H2 (l1.trans l2) h2
  · rw [if_neg hlt]
    refine iteT' (decide_eq_true (by congr 2; omega)) ?_
    walk_at "v"
    exact q B2 H2 (l1.trans l2) h2
theorem ok_is_levels (T : Txt K mg w) : FnOk P w K mg base CX0 2 T.a_is_levels T.fd_is_levels ["_law_thing", "_law_full"] (sp_is_levels K) := by
  refine T.F_is_levels.ok sc_is_levels (fun vs H Q E h => ?_) (fun cdv A outer s H vs Q E hr h => ⟨t_is_levels K, ?_, pure_is_levels vs H Q E h⟩)
  · obtain ⟨B, M, v, v2, Ls, rfl, _⟩ := h
    rfl
  · exact (pss_cons (ps_if (PW.pt (pw_or (pt_not (pt_val (pe_callB call_isi (by rfl) (T.free_isinstance) PyProof.Rows.boot_isinstance (pa_cons (pv 0) (pa_cons (pe_bltn (by rfl) (T.free_tuple) (by decide +kernel) rfl) pa_nil))))) (pw_or1 (pt_cmpR op_ne (pe_callB call_len (by rfl) (T.free_len) (by decide +kernel) (pa_cons (pv 0) pa_nil)) (pe_callB call_len (by rfl) (T.free_len) (by decide +kernel) (pa_cons (pv 1) pa_nil)) (nomark _))))) (pss_one (ps_ret pe_bl)) pss_nil)
      (pss_cons (ps_for PassesOwn.never rfl (pi_range1 (by rfl) (T.free_range) (pa_cons (pe_callB call_len (by rfl) (T.free_len) (by decide +kernel) (pa_cons (pv 1) pa_nil)) pa_nil)) (pg_name (i := 2) sc_is_levels.nd rfl (by first | exact Or.inl rfl | exact Or.inr rfl)) (pss_cons (ps_set (i := 3) sc_is_levels.nd rfl (by first | exact Or.inl rfl | exact Or.inr rfl) (pe_ix ix_tup (pv 0) (pv 2) (fun _ _ => rfl)))
      (pss_cons (ps_if (PW.pt (pw_or (pt_not (pt_val (pe_callB call_isi (by rfl) (T.free_isinstance) PyProof.Rows.boot_isinstance (pa_cons (pv 3) (pa_cons (pe_bltn (by rfl) (T.free_tuple) (by decide +kernel) rfl) pa_nil))))) (pw_or1 (pt_cmpR op_ne (pe_callB call_len (by rfl) (T.free_len) (by decide +kernel) (pa_cons (pv 3) pa_nil)) (pe_callB call_len (by rfl) (T.free_len) (by decide +kernel) (pa_cons (pe_ix ix_list (pv 1) (pv 2) (fun _ _ => rfl)) pa_nil)) (nomark _))))) (pss_one (ps_ret pe_bl)) pss_nil)
      (pss_one (ps_for PassesOwn.never rfl (pi_range1 (by rfl) (T.free_range) (pa_cons (pe_callB call_len (by rfl) (T.free_len) (by decide +kernel) (pa_cons (pv 3) pa_nil)) pa_nil)) (pg_name (i := 4) sc_is_levels.nd rfl (by first | exact Or.inl rfl | exact Or.inr rfl)) (pss_cons (ps_set (i := 5) sc_is_levels.nd rfl (by first | exact Or.inl rfl | exact Or.inr rfl) (pe_ix ix_tup (pv 3) (pv 4) (fun _ _ => rfl)))
      (pss_cons (ps_if (PW.pt (pw_or (pt_not (pt_val (pe_callB call_isi (by rfl) (T.free_isinstance) PyProof.Rows.boot_isinstance (pa_cons (pv 5) (pa_cons (pe_bltn (by rfl) (T.free_tuple) (by decide +kernel) rfl) pa_nil))))) (pw_or1 (pt_cmpR op_ne (pe_callB call_len (by rfl) (T.free_len) (by decide +kernel) (pa_cons (pv 5) pa_nil)) pe_int (nomark _))))) (pss_one (ps_ret pe_bl)) pss_nil)
      (pss_cons (ps_if (PW.pt (pw_or (pt_not (pt_val (pe_call (ok_is_number T) hr (by rfl) T.g_is_number T.F_is_number.kp T.b_is_number .nil pass0 (pa_cons (pe_ix ix_tup (pv 5) pe_int (fun _ _ => rfl)) (pa_cons pe_int (pa_cons pe_int pa_nil)))))) (pw_or1 (pt_not (pt_val (pe_call (ok_is_number T) hr (by rfl) T.g_is_number T.F_is_number.kp T.b_is_number .nil pass0 (pa_cons (pe_ix ix_tup (pv 5) pe_int (fun _ _ => rfl)) (pa_cons pe_int (pa_cons pe_int pa_nil))))))))) (pss_one (ps_ret pe_bl)) pss_nil)
      (pss_one (ps_if (pt_cmpR (op_neP hr.units) (pv 5) (pe_ix ix_list (pe_ix ix_list (pv 1) (pv 2) (fun _ _ => rfl)) (pv 4) (fun _ _ => rfl)) (nomark _)) (pss_one (ps_ret pe_bl)) pss_nil))))))))))
      (pss_one (ps_ret pe_bl))))
theorem ok_is_contest (T : Txt K mg w) (TX : TxtX T P) : FnOk P w K mg base CX0 3 T.a_is_contest T.fd_is_contest ["_law_contest", "_law_alphabet_here", "_law_row", "_law_other", "_law_full"] (sp_is_contest T) := by
  refine T.F_is_contest.ok sc_is_contest (fun vs H Q E h => ?_) (fun cdv A outer s H vs Q E hr h => ⟨t_is_contest T, ?_, pure_is_contest T vs H Q E h⟩)
  · obtain ⟨B, M, x, al, r, o, v, rfl, _⟩ := h
    rfl
  · exact (pss_cons (ps_if (PW.pt (pw_or (pt_cmpR op_ne (pe_fld (pv 0) rfl) (pv 1) (nomark _)) (pw_or (pt_cmpR op_ne (pe_fld (pv 0) rfl) (pv 2) (nomark _)) (pw_or1 (pt_cmpR op_ne (pe_fld (pv 0) rfl) (pv 3) (nomark _)))))) (pss_one (ps_ret pe_bl)) pss_nil)
      (pss_one (ps_ret (pe_call (ok_is_levels T) hr (by rfl) T.g_is_levels T.F_is_levels.kp T.b_is_levels .nil pass0 (pa_cons (pe_fld (pv 0) rfl) (pa_cons (pv 4) pa_nil))))))
theorem ok_kept (T : Txt K mg w) : FnOk P w K mg base CX0 1 T.a_kept T.fd_kept ["_law_full"] (sp_kept K) := by
  refine T.F_kept.ok sc_kept (fun vs H Q E h => ?_) (fun cdv A outer s H vs Q E hr h => ⟨t_kept K, ?_, pure_kept vs H Q E h⟩)
  · obtain ⟨B, M, v, Ls, rfl, _⟩ := h
    rfl
  · exact (pss_cons (ps_set (i := 1) sc_kept.nd rfl (by first | exact Or.inl rfl | exact Or.inr rfl) pe_dnewT)
      (pss_cons (ps_for PassesOwn.never rfl (pi_list (pv 0)) (pg_name (i := 2) sc_kept.nd rfl (by first | exact Or.inl rfl | exact Or.inr rfl)) (pss_one (ps_for PassesOwn.never rfl (pi_list (pv 2)) (pg_name (i := 3) sc_kept.nd rfl (by first | exact Or.inl rfl | exact Or.inr rfl)) (pss_one (ps_dput (hu_of hr) (pv 1) (pv 3) (pe_op op_add (pe_dget2 (hu_of hr) (pv 1) (pv 3) pe_int ⟨rfl, rfl, rfl, rfl⟩) pe_int) rfl)))))
      (pss_one (ps_ret (pv 1)))))
theorem ok_height_right (T : Txt K mg w) (TX : TxtX T P) : FnOk P w K mg base CX0 4 T.a_height_right T.fd_height_right ["_law_contest", "_law_k", "_law_m", "_law_kept_here", "_law_many"] (sp_height_right T) := by
  refine T.F_height_right.ok sc_height_right (fun vs H Q E h => ?_) (fun cdv A outer s H vs Q E hr h => ⟨t_height_right T, ?_, pure_height_right T vs H Q E h⟩)
  · obtain ⟨B, M, x, kd, al, r, o, k, j, kvs, rfl, _⟩ := h
    rfl
  · exact (pss_cons (ps_set (i := 5) sc_height_right.nd rfl (by first | exact Or.inl rfl | exact Or.inr rfl) (pe_dget2 (hu_of hr) (pv 3) (pe_tup (pa_cons (pv 1) (pa_cons (pv 2) pa_nil))) pe_int ⟨rfl, rfl, rfl, rfl⟩))
      (pss_cons (ps_set (i := 6) sc_height_right.nd rfl (by first | exact Or.inl rfl | exact Or.inr rfl) (pe_meth (pv 0) T.cls_Contest T.me_Contest_parting_height (ok_m_Contest_parting_height T TX) hr T.b_m_Contest_parting_height .nil passZ (pa_cons (pv 1) (pa_cons (pv 2) pa_nil))))
      (pss_cons (ps_if (pt_cmpR op_eq (pv 5) (pv 4) (nomark _)) (pss_one (ps_ret (pe_cmpR op_isN (pv 6) pe_non (nomark _)))) pss_nil)
      (pss_one (ps_ret (pe_call (ok_is_number T) (hr.mono (by decide)) (by rfl) T.g_is_number T.F_is_number.kp T.b_is_number .nil pass0 (pa_cons (pv 6) (pa_cons (pv 5) (pa_cons (pv 5) pa_nil)))))))))
end
end K52
set_option Elab.async false
set_option linter.all false
set_option maxRecDepth 100000
set_option maxHeartbeats 8000000
namespace K52
open PySem PySem.Spec PyProof.Rows L2 Sh
open SX (S)
local macro_rules | `(tactic| walk_at "v1") => `(tactic| first
  | with_reducible refine v_seq ?_ | with_reducible refine v_asg ?_ | ((with_reducible refine' v_name ?e ?_); (case e => exact rfl)) | with_reducible refine v_ret ?_ | with_reducible refine v_drop ?_ | with_reducible refine v_next ?_
  | with_reducible refine v_if ?_ | with_reducible refine v_op ?_ | with_reducible refine v_c ?_ | ((with_reducible refine' v_var ?e ?_); (case e => exact rfl))
  | with_reducible refine v_I0 ?_ | with_reducible refine v_test ?_ | with_reducible refine v_B ?_ | with_reducible refine v_bl ?_ | with_reducible refine v_not ?_ | with_reducible refine v_and ?_ | with_reducible refine v_or ?_
  | with_reducible refine v_andV ?_ | with_reducible refine v_orV ?_ | with_reducible refine v_notV ?_ | with_reducible refine v_ife ?_
  | with_reducible refine v_nil ?_ | with_reducible refine v_cons ?_ | with_reducible refine v_tup ?_ | with_reducible refine v_lst ?_ | with_reducible refine v_call ?_ | with_reducible refine v_cb ?_ | with_reducible refine v_int ?_ | with_reducible refine v_abs ?_
  | ((with_reducible refine' v_eq ?e ?_); (case e => exact rfl)) | ((with_reducible refine' v_ne ?e ?_); (case e => exact rfl)) | with_reducible refine v_sub ?_ | with_reducible refine v_isN ?_ | with_reducible refine v_notN ?_
  | with_reducible refine v_part ?_ | with_reducible refine v_nopart ?_ | with_reducible refine v_pint ?_ | with_reducible refine v_inSg ?_ | with_reducible refine v_notInSg ?_
  | ((with_reducible refine' v_ixL ?l ?a ?_); (case l => assumption); (case a => exact at_lit _ rfl)) | ((with_reducible refine' v_ixT ?l ?a ?_); (case l => assumption); (case a => exact at_lit _ rfl))
  | ((with_reducible refine v_I ?c ?_); (case c => (first | omega | (unfold CMul; omega) | (unfold CDivN; omega) | (unfold CPow; omega))))
  | with_reducible refine v_for ?_ | with_reducible refine v_iList ?_ | with_reducible refine v_iTup ?_ | with_reducible refine v_iStr ?_ | with_reducible refine v_iR1 ?_ | with_reducible refine v_iR2 ?_ | with_reducible refine v_atS ?_ | with_reducible refine v_sl ?_ | with_reducible refine v_lc ?_ | with_reducible refine v_yes ?_
  | with_reducible refine v_m1 ?_ | with_reducible refine v_m1S ?_ | with_reducible refine v_bm ?_ | with_reducible refine v_bm0 ?_ | with_reducible refine v_dnewK ?_ | with_reducible refine v_dnewT ?_ | with_reducible refine v_dget ?_ | with_reducible refine v_din ?_ | with_reducible refine v_dnotin ?_ | with_reducible refine v_dput ?_ | with_reducible refine v_chain ?_ | with_reducible refine v_un ?_ | with_reducible refine v_neg ?_
  | with_reducible refine v_brk ?_ | with_reducible refine v_cont ?_
  | with_reducible refine v_fld ?_ | with_reducible refine v_sfld ?_ | with_reducible refine v_meth ?_ | with_reducible refine v_methT ?_ | with_reducible refine v_make ?_ | with_reducible refine v_makeT ?_ | with_reducible refine v_dget2 ?_ | with_reducible refine v_enumS ?_ | with_reducible refine v_enumQ ?_ | with_reducible refine v_lc2 ?_ | with_reducible refine v_isB ?_ | with_reducible refine v_notB ?_ | with_reducible refine v_lstRg2 ?_ | with_reducible refine v_lstRg3 ?_)
local macro_rules | `(tactic| walk_at "v") => `(tactic| repeat (walk_at "v1"))
local macro_rules | `(tactic| walk_at "vm") => `(tactic| repeat (first | ((with_reducible refine v_modP ?c ?_); (case c => omega); (intro _ _ _)) | walk_at "v1"))
local macro_rules | `(tactic| walk_at "iv") => `(tactic| (try dsimp only; refine IV.mk (by assumption) (by assumption) ?_))
local macro_rules | `(tactic| walk_at "n") => `(tactic| dsimp only [List.set_cons_zero, List.set_cons_succ])
def shortS (d : PyData) : Prop := ∀ z, d = .str z → z.length ≤ 1000000
theorem shortS_S {l : List Nat} (h : l.length ≤ 1000000) : shortS (.str (S l)) := fun z e => by cases e; rw [S_length]; exact h
section
variable {K : PySem.W.Frag}
/-- arguments that are refused, and what is due -/
def AskV (K : PySem.W.Frag) (B : Hp) (p : Addr) : Prop := ∃ (va vr vq vd : V) (da dr dq : PyData) (o : COut), B p = some (.tup [va, vr, vq, vd]) ∧ Rp K B va da ∧ Rp K B vr dr ∧ Rp K B vq dq ∧ Rp K B vd (dueD da o) ∧ shortS da ∧ shortS dr ∧ shortS dq ∧ (o = .alpha → ShowOk da) ∧ CheckD da dr dq o
theorem AskV.up {B B' : Hp} {p : Addr} (l : Le B B') (h : AskV K B p) : AskV K B' p := by
  obtain ⟨va, vr, vq, vd, da, dr, dq, o, e, h1, h2, h3, h4, r⟩ := h
  exact ⟨va, vr, vq, vd, da, dr, dq, o, l _ _ e, h1.up l, h2.up l, h3.up l, h4.up l, r⟩
def wrongL (t : Addr) : List V := [.str "", .str "ba", .str "aa", .str "abi", .str "A", .non, .int 7, .ref t, .str "abcdefghh", .str "a b"]
theorem wrong_ok {B : Hp} {k : Nat} {t : Addr} (ht : B t = some (.lst [.str "a", .str "b"])) (hk : k < 10) : ∃ v d, (wrongL t)[k]? = some v ∧ Rp K B v d ∧ isAlphaD d = false ∧ ShowOk d ∧ shortS d := by
  have st : ∀ z : Str, z.length ≤ 20 ∧ (∀ c ∈ z.cps.toList, c < 1000) → shortS (.str z) := fun z h y e => by cases e; omega
  match k, hk with
  | 0, _ => exact ⟨_, _, rfl, .str _, by decide +kernel, small_str (by decide +kernel), st _ (by decide +kernel)⟩
  | 1, _ => exact ⟨_, _, rfl, .str _, by decide +kernel, small_str (by decide +kernel), st _ (by decide +kernel)⟩
  | 2, _ => exact ⟨_, _, rfl, .str _, by decide +kernel, small_str (by decide +kernel), st _ (by decide +kernel)⟩
  | 3, _ => exact ⟨_, _, rfl, .str _, by decide +kernel, small_str (by decide +kernel), st _ (by decide +kernel)⟩
  | 4, _ => exact ⟨_, _, rfl, .str _, by decide +kernel, small_str (by decide +kernel), st _ (by decide +kernel)⟩
  | 5, _ => exact ⟨_, _, rfl, .non, rfl, show_non, (fun z e => nomatch e)⟩
  | 6, _ => exact ⟨_, _, rfl, .int _, rfl, int_showOk (by decide), (fun z e => nomatch e)⟩
  | 7, _ => exact ⟨_, _, rfl, .lst (SqL.of ht) (.cons (.str _) (.one (.str _))), rfl, (fine_mk (l := true) (m := 0) (n := 202) (ds := [.str "a", .str "b"]) fun d hd => by
      simp only [List.mem_cons, List.not_mem_nil, or_false] at hd
      rcases hd with rfl | rfl
      · exact fine_kD (k := .inr "a") (show ("a" : Str).length ≤ 20 ∧ ∀ c ∈ ("a" : Str).cps.toList, c < 1000 by decide +kernel)
      · exact fine_kD (k := .inr "b") (show ("b" : Str).length ≤ 20 ∧ ∀ c ∈ ("b" : Str).cps.toList, c < 1000 by decide +kernel)).ok (by omega) (by decide), (fun z e => nomatch e)⟩
  | 8, _ => exact ⟨_, _, rfl, .str _, by decide +kernel, small_str (by decide +kernel), st _ (by decide +kernel)⟩
  | 9, _ => exact ⟨_, _, rfl, .str _, by decide +kernel, small_str (by decide +kernel), st _ (by decide +kernel)⟩
def thingsL (c : Nat) (t1 t2 : Addr) : List V := [.non, .int 5, .ref t1, .ref t2, .str (S (rep [c] 201)), .bl true]
theorem thing_ok {B : Hp} {k c : Nat} {al : List Nat} {t1 t2 : Addr} (h1 : B t1 = some (.lst [.str (S [c])])) (h2 : B t2 = some (.tup [.str (S [c])])) (hk : k < 6) : ∃ v d, (thingsL c t1 t2)[k]? = some v ∧ Rp K B v d ∧ RowBad al d (-1) ∧ shortS d := by
  match k, hk with
  | 0, _ => exact ⟨_, _, rfl, .non, .inl ⟨(fun z e => nomatch e), rfl⟩, (fun z e => nomatch e)⟩
  | 1, _ => exact ⟨_, _, rfl, .int _, .inl ⟨(fun z e => nomatch e), rfl⟩, (fun z e => nomatch e)⟩
  | 2, _ => exact ⟨_, _, rfl, .lst (SqL.of h1) (.one (.str _)), .inl ⟨(fun z e => nomatch e), rfl⟩, (fun z e => nomatch e)⟩
  | 3, _ => exact ⟨_, _, rfl, .tup h2 (.one (.str _)), .inl ⟨(fun z e => nomatch e), rfl⟩, (fun z e => nomatch e)⟩
  | 4, _ => exact ⟨_, _, rfl, .str _, .inr (.inl ⟨_, rfl, by rw [S_length, rep_len]; show 200 < 201 * 1; decide, rfl⟩), shortS_S (by rw [rep_len]; show 201 * 1 ≤ _; decide)⟩
  | 5, _ => exact ⟨_, _, rfl, .bl _, .inl ⟨(fun z e => nomatch e), rfl⟩, (fun z e => nomatch e)⟩
theorem bad_put {al r : List Nat} {k c : Nat} (hr : ∀ x ∈ r, x ∈ al) (hk : k ≤ r.length) (hl : r.length ≤ 100) (hc : c ∉ al) : RowBad al (.str (S (r.take k ++ [c] ++ r.drop k))) (k : Int) := by
  have tl : (r.take k).length = k := by rw [List.length_take]; omega
  refine .inr (.inr ⟨_, k, c, rfl, ?_, ?_, hc, fun j x hj hx => ?_, rfl⟩)
  · simp only [List.length_append, List.length_take, List.length_drop, List.length_singleton]
    omega
  · rw [List.append_assoc, List.getElem?_append_right (by omega), tl, Nat.sub_self]
    rfl
  · rw [List.append_assoc, List.getElem?_append_left (by omega)] at hx
    exact hr x (List.mem_of_mem_take (List.mem_of_getElem? hx))
theorem v_ask {B H : Hp} {M : List (Addr × HO)} {Q : VK} {va vr vq vd : V} {da dr dq : PyData} {o : COut} (hs : Hs B M H) (h1 : Rp K B va da) (h2 : Rp K B vr dr) (h3 : Rp K B vq dq) (h4 : Rp K B vd (dueD da o)) (s1 : shortS da) (s2 : shortS dr) (s3 : shortS dq) (sd : o = .alpha → ShowOk da) (ck : CheckD da dr dq o)
    (q : ∀ (p : Addr) (B' H' : Hp), Le B B' → Hs B' M H' → AskV K B' p → Q (.ref p) H') : [va, vr, vq, vd].length ≤ sizeLine ∧ Nw H (.tup [va, vr, vq, vd]) Q :=
  v_size (by show 4 ≤ sizeLine; decide) (v_newB hs fun p B' H' l h e => q p B' H' l h ⟨va, vr, vq, vd, da, dr, dq, o, e, h1.up l, h2.up l, h3.up l, h4.up l, s1, s2, s3, sd, ck⟩)
/-! ### _law_wrong_ask -/
def sp_wrong_ask {mg : Str → Option Value} {w : World} (T : Txt K mg w) : Sp := fun vs H Q _ => ∃ (B : Hp) (M : List (Addr × HO)) (a : Addr) (d sd c : Int) (al r o : List Nat), vs = [.ref a, .str (S al), .str (S r), .str (S o)] ∧ Hs B ((a, SrcO d sd c) :: M) H ∧ AlOk al ∧ r.length ≤ 12 ∧ o.length ≤ 12 ∧ (∀ x ∈ r, x ∈ al) ∧ (∀ x ∈ o, x ∈ al) ∧
  ∀ (p : Addr) (d' c' : Int) (B' H' : Hp), Le B B' → Hs B' ((a, SrcO d' sd c') :: M) H' → AskV K B' p → Q (.ref p) H'
def t_wrong_ask (K : PySem.W.Frag) : TS := (tSeq (tAsg (tOp rCat (tLc (iStr (tC (.str "abcdefgh"))) (gName 5) (tTest (tOp rNotInSg (tVar 5) (tVar 1))) (tVar 5) [5]) (tLst (tCons (tC (.str "z")) (tCons (tC (.str "A")) (tCons (tC (.str " ")) (tCons (tC (.str "i")) tNil)))))) (gName 4))
    (tSeq (tAsg (tOp (rIxL K) (tVar 4) (tCall (sp_pick K) [] E0 (tCons (tVar 0) (tCons (tCB (rCLen K) (tCons (tVar 4) tNil)) tNil)))) (gName 6))
    (tSeq (tAsg (tCall (sp_pick K) [] E0 (tCons (tVar 0) (tCons (tOp rAddI (tCB (rCLen K) (tCons (tVar 2) tNil)) (tC (.int 1))) tNil))) (gName 7))
    (tSeq (tAsg (tCall (sp_pick K) [] E0 (tCons (tVar 0) (tCons (tOp rAddI (tCB (rCLen K) (tCons (tVar 3) tNil)) (tC (.int 1))) tNil))) (gName 8))
    (tSeq (tAsg (tOp rAddS (tOp rAddS (tSl rSlS (tVar 2) tNoPart (tPart (tVar 7))) (tVar 6)) (tSl rSlS (tVar 2) (tPart (tVar 7)) tNoPart)) (gName 9))
    (tSeq (tAsg (tOp rAddS (tOp rAddS (tSl rSlS (tVar 3) tNoPart (tPart (tVar 8))) (tVar 6)) (tSl rSlS (tVar 3) (tPart (tVar 8)) tNoPart)) (gName 10))
    (tSeq (tAsg (tOp rAddI (tC (.int 13)) (tCall (sp_pick K) [] E0 (tCons (tVar 0) (tCons (tC (.int 8)) tNil)))) (gName 11))
    (tSeq (tAsg (tOp rRepS (tOp rIxS (tVar 1) (tC (.int 0))) (tVar 11)) (gName 12))
    (tSeq (tAsg (tLst (tCons (tC .non) (tCons (tC (.int 5)) (tCons (tLst (tCons (tOp rIxS (tVar 1) (tC (.int 0))) tNil)) (tCons (tTup (tCons (tOp rIxS (tVar 1) (tC (.int 0))) tNil)) (tCons (tOp rRepS (tOp rIxS (tVar 1) (tC (.int 0))) (tC (.int 201))) (tCons (tC (.bl true)) tNil))))))) (gName 13))
    (tSeq (tAsg (tOp (rIxL K) (tVar 13) (tCall (sp_pick K) [] E0 (tCons (tVar 0) (tCons (tCB (rCLen K) (tCons (tVar 13) tNil)) tNil)))) (gName 14))
    (tSeq (tAsg (tOp (rIxL K) (tLst (tCons (tC (.str "")) (tCons (tC (.str "ba")) (tCons (tC (.str "aa")) (tCons (tC (.str "abi")) (tCons (tC (.str "A")) (tCons (tC .non) (tCons (tC (.int 7)) (tCons (tLst (tCons (tC (.str "a")) (tCons (tC (.str "b")) tNil))) (tCons (tC (.str "abcdefghh")) (tCons (tC (.str "a b")) tNil))))))))))) (tCall (sp_pick K) [] E0 (tCons (tVar 0) (tCons (tC (.int 10)) tNil)))) (gName 15))
    (tSeq (tAsg (tLst (tCons (tTup (tCons (tVar 15) (tCons (tVar 2) (tCons (tVar 3) (tCons (tTup (tCons (tC (.str "alphabet")) (tCons (tCB (rRepr K) (tCons (tVar 15) tNil)) tNil))) tNil))))) (tCons (tTup (tCons (tVar 15) (tCons (tVar 9) (tCons (tVar 14) (tCons (tTup (tCons (tC (.str "alphabet")) (tCons (tCB (rRepr K) (tCons (tVar 15) tNil)) tNil))) tNil))))) (tCons (tTup (tCons (tVar 1) (tCons (tVar 9) (tCons (tVar 3) (tCons (tTup (tCons (tC (.str "row")) (tCons (tCB (rRepr K) (tCons (tVar 7) tNil)) tNil))) tNil))))) (tCons (tTup (tCons (tVar 1) (tCons (tVar 9) (tCons (tVar 10) (tCons (tTup (tCons (tC (.str "row")) (tCons (tCB (rRepr K) (tCons (tVar 7) tNil)) tNil))) tNil))))) (tCons (tTup (tCons (tVar 1) (tCons (tVar 2) (tCons (tVar 10) (tCons (tTup (tCons (tC (.str "row")) (tCons (tCB (rRepr K) (tCons (tVar 8) tNil)) tNil))) tNil))))) (tCons (tTup (tCons (tVar 1) (tCons (tVar 14) (tCons (tVar 10) (tCons (tTup (tCons (tC (.str "row")) (tCons (tC (.str "-1")) tNil))) tNil))))) (tCons (tTup (tCons (tVar 1) (tCons (tVar 2) (tCons (tVar 14) (tCons (tTup (tCons (tC (.str "row")) (tCons (tC (.str "-1")) tNil))) tNil))))) (tCons (tTup (tCons (tVar 1) (tCons (tVar 12) (tCons (tVar 3) (tCons (tTup (tCons (tC (.str "long")) (tCons (tCB (rRepr K) (tCons (tVar 11) tNil)) tNil))) tNil))))) (tCons (tTup (tCons (tVar 1) (tCons (tVar 2) (tCons (tVar 12) (tCons (tTup (tCons (tC (.str "long")) (tCons (tCB (rRepr K) (tCons (tVar 11) tNil)) tNil))) tNil))))) (tCons (tTup (tCons (tVar 1) (tCons (tOp rRepS (tOp rIxS (tVar 1) (tUn (rU fun i => .int (-i)) (tC (.int 1)))) (tOp rAddI (tVar 11) (tC (.int 1)))) (tCons (tVar 12) (tCons (tTup (tCons (tC (.str "long")) (tCons (tCB (rRepr K) (tCons (tOp rAddI (tVar 11) (tC (.int 1))) tNil)) tNil))) tNil))))) (tCons (tTup (tCons (tVar 1) (tCons (tVar 12) (tCons (tVar 10) (tCons (tTup (tCons (tC (.str "row")) (tCons (tCB (rRepr K) (tCons (tVar 8) tNil)) tNil))) tNil))))) tNil)))))))))))) (gName 16))
    (tRet (tOp (rIxL K) (tVar 16) (tCall (sp_pick K) [] E0 (tCons (tVar 0) (tCons (tCB (rCLen K) (tCons (tVar 16) tNil)) tNil)))))))))))))))))
theorem pure_wrong_ask {mg : Str → Option Value} {w : World} (T : Txt K mg w) (vs : List V) (H : Hp) (Q : VK) (E : XK) (h : sp_wrong_ask T vs H Q E) : t_wrong_ask K { nx := fun _ H' => Q .non H', rt := Q } (start n_wrong_ask vs) H := by
  obtain ⟨B, M, a, d, sd, c, al, r, o, rfl, hs, ao, r12, o12, hr, ho, q⟩ := h
  show t_wrong_ask K _ [some (V.ref a), some (V.str (S al)), some (V.str (S r)), some (V.str (S o)), none, none, none, none, none, none, none, none, none, none, none, none, none] H
  unfold t_wrong_ask
  have al1 := ao.l1
  have al4 := ao.l4
  walk_at "v"
  refine v_lcS (z := "abcdefgh") hs (fun i acc B' M' => M' = (a, SrcO d sd c) :: M ∧ ∃ l : List Nat, acc = l.map (fun c => V.str (S [c])) ∧ l.length ≤ i ∧ ∀ x ∈ l, x ∉ al) ⟨rfl, [], rfl, Nat.le_refl _, fun x hx => by simp at hx⟩ ?_ ?_
  · rintro i ch p acc B3 M' H3 hi hc ha l3 h3 ⟨rfl, l, rfl, hl, hna⟩
    walk_at "v"
    refine ⟨rfl, ?_⟩
    walk_at "v"
    by_cases hm : ch ∈ al
    · refine iteF' (by rw [decide_eq_true (show ch ∈ (S al).cps.toList from hm)]; rfl) (IP.mk (by omega) l3 h3 ⟨rfl, l, rfl, by omega, hna⟩)
    · refine iteT' (by rw [decide_eq_false (show ¬ ch ∈ (S al).cps.toList from hm)]; rfl) ?_
      walk_at "v"
      refine IE.mk ha hi (by show 8 ≤ 1000000; decide) l3 h3 ⟨rfl, l ++ [ch], by rw [List.map_append]; rfl, by rw [List.length_append]; show _ + 1 ≤ _; omega, fun x hx => ?_⟩
      rcases List.mem_append.mp hx with hx | hx
      · exact hna x hx
      · rw [List.mem_singleton.mp hx]; exact hm
  rintro p acc B1 M' H1 ha l1 h1 ⟨rfl, l, rfl, hl, hna⟩
  have hl : l.length ≤ 8 := hl
  walk_at "v"
  have four : [V.str "z", V.str "A", V.str " ", V.str "i"] = [122, 65, 32, 105].map fun c => V.str (S [c]) := rfl
  have h1' := h1.hd
  refine v_size (xs := [V.str "z", V.str "A", V.str " ", V.str "i"]) (by show 4 ≤ sizeLine; decide) (v_newM h1 fun p4 H2 h2 => ?_)
  rw [four] at h2
  refine v_cat (h2.atI 1 rfl) (h2.atI 0 rfl) (by rw [List.length_map]; exact sz_of (by show _ + 4 ≤ _; omega)) (v_newB h2.drop.drop fun ps B2 H3 l2 h3 e3 => ?_)
  rw [← List.map_append] at e3
  have e3 : SqL K B2 ps ((l ++ [122, 65, 32, 105]).map fun c => V.str (S [c])) := SqL.of e3
  have no4 : ∀ x ∈ [122, 65, 32, 105], x ∉ lettersL := by decide
  have hna4 : ∀ x ∈ l ++ [122, 65, 32, 105], x ∉ al := fun x hx => by
    rcases List.mem_append.mp hx with hx | hx
    · exact hna x hx
    · exact fun z => no4 x hx (ao.sub x z)
  have len4 : (l ++ [122, 65, 32, 105]).length ≤ 12 := by rw [List.length_append]; show _ + 4 ≤ _; omega
  have len5 : 4 ≤ (l ++ [122, 65, 32, 105]).length := by rw [List.length_append]; show 4 ≤ _ + 4; omega
  generalize l ++ [122, 65, 32, 105] = sl at e3 hna4 len4 len5
  walk_at "v"
  refine v_lenL (h3.l e3) ?_
  walk_at "v"
  rw [List.length_map]
  refine v_pick h3 (by omega) (by omega) fun k1 d1 c1 H4 k10 k11 h4 => ?_
  refine v_ixL (v := .str (S [sl.getD k1.toNat 0])) (h4.l e3) (at_k k10 ?_) ?_
  · have : k1.toNat < sl.length := by omega
    rw [List.getElem?_map, List.getD_eq_getElem?_getD, List.getElem?_eq_getElem this]
    rfl
  have hsg := hna4 _ (getD_mem (l := sl) (k := k1.toNat) (by omega))
  generalize sl.getD k1.toNat 0 = sg at hsg
  walk_at "v"
  refine v_lenS (by rw [S_length]; exact sz_of (by omega)) ?_
  walk_at "v"
  rw [S_length]
  refine v_pick h4 (by omega) (by omega) fun k2 d2 c2 H5 k20 k21 h5 => ?_
  obtain ⟨at_, rfl⟩ := Int.eq_ofNat_of_zero_le k20
  walk_at "v"
  refine v_lenS (by rw [S_length]; exact sz_of (by omega)) ?_
  walk_at "v"
  rw [S_length]
  refine v_pick h5 (by omega) (by omega) fun k3 d3 c3 H6 k30 k31 h6 => ?_
  obtain ⟨to_, rfl⟩ := Int.eq_ofNat_of_zero_le k30
  walk_at "v"
  refine v_slTo (by omega) (by omega) ?_
  walk_at "v"
  refine v_addL (b := [sg]) (by rw [List.length_take]; show _ + 1 ≤ _; omega) ?_
  walk_at "v"
  refine v_slFrom (by omega) (by omega) ?_
  refine v_addL (by simp only [List.length_append, List.length_take, List.length_drop, List.length_singleton]; omega) ?_
  walk_at "v"
  refine v_slTo (by omega) (by omega) ?_
  walk_at "v"
  refine v_addL (b := [sg]) (by rw [List.length_take]; show _ + 1 ≤ _; omega) ?_
  walk_at "v"
  refine v_slFrom (by omega) (by omega) ?_
  refine v_addL (by simp only [List.length_append, List.length_take, List.length_drop, List.length_singleton]; omega) ?_
  rw [Int.toNat_natCast, Int.toNat_natCast]
  have bf := bad_put (al := al) (r := r) (k := at_) (c := sg) hr (by omega) (by omega) hsg
  have bs := bad_put (al := al) (r := o) (k := to_) (c := sg) ho (by omega) (by omega) hsg
  have lf : (r.take at_ ++ [sg] ++ r.drop at_).length ≤ 20 := by simp only [List.length_append, List.length_take, List.length_drop, List.length_singleton]; omega
  have ls : (o.take to_ ++ [sg] ++ o.drop to_).length ≤ 20 := by simp only [List.length_append, List.length_take, List.length_drop, List.length_singleton]; omega
  generalize r.take at_ ++ [sg] ++ r.drop at_ = fi at bf lf
  generalize o.take to_ ++ [sg] ++ o.drop to_ = se at bs ls
  walk_at "v"
  refine v_pick h6 (by decide) (by decide) fun k4 d4 c4 H7 k40 k41 h7 => ?_
  walk_at "v"
  obtain ⟨sz, hsz⟩ : ∃ sz : Nat, 13 + k4 = (sz : Int) := ⟨(13 + k4).toNat, by omega⟩
  rw [hsz]
  have z0 : 12 < sz := by omega
  have z1 : sz ≤ 20 := by omega
  clear hsz
  have h0 : al.getD (0 : Int).toNat 0 ∈ al := getD_mem (by show 0 < al.length; omega)
  obtain ⟨c0, hc0⟩ : ∃ c0, al.getD (0 : Int).toNat 0 = c0 := ⟨_, rfl⟩
  rw [hc0] at h0
  refine v_ixT1 (by decide) (by omega) (by omega) ?_
  rw [hc0]
  walk_at "v"
  refine v_repL (by omega) (by show 1 ≤ 1000; decide) (by omega) ?_
  rw [Int.toNat_natCast]
  walk_at "v"
  refine v_ixT1 (by decide) (by omega) (by omega) ?_
  rw [hc0]
  walk_at "v"
  refine v_size (xs := [V.str (S [c0])]) (by show 1 ≤ sizeLine; decide) (v_newB h7 fun t1 B3 H8 l8 h8 e8 => ?_)
  walk_at "v"
  refine v_ixT1 (by decide) (by omega) (by omega) ?_
  rw [hc0]
  walk_at "v"
  refine v_size (xs := [V.str (S [c0])]) (by show 1 ≤ sizeLine; decide) (v_newB h8 fun t2 B4 H9 l9 h9 e9 => ?_)
  walk_at "v"
  refine v_ixT1 (by decide) (by omega) (by omega) ?_
  rw [hc0]
  walk_at "v"
  refine v_repL (by decide) (by show 1 ≤ 1000; decide) (by decide) ?_
  walk_at "v"
  refine v_size (xs := thingsL c0 t1 t2) (by show 6 ≤ sizeLine; decide) (v_newB h9 fun tt B5 H10 l10 h10 e10 => ?_)
  have e10 : SqL K B5 tt (thingsL c0 t1 t2) := SqL.of e10
  walk_at "v"
  refine v_lenL (h10.l e10) ?_
  walk_at "v"
  refine v_pick h10 (by show (0 : Int) < 6; decide) (by show (6 : Int) < 2 ^ 30; decide) fun k5 d5 c5 H11 k50 k51 h11 => ?_
  obtain ⟨vt, dt, et, hvt, bt, st⟩ := thing_ok (K := K) (B := B5) (al := al) (c := c0) (l10 _ _ (l9 _ _ e8)) (l10 _ _ e9) (show k5.toNat < 6 by have : k5 < 6 := k51; omega)
  refine v_ixL (h11.l e10) (at_k k50 et) ?_
  walk_at "v"
  refine v_size (xs := [V.str "a", V.str "b"]) (by show 2 ≤ sizeLine; decide) (v_newB h11 fun tb B6 H12 l12 h12 e12 => ?_)
  walk_at "v"
  refine v_size (xs := wrongL tb) (by show 10 ≤ sizeLine; decide) (v_newB h12 fun tw B7 H13 l13 h13 e13 => ?_)
  walk_at "v"
  refine v_pick h13 (by decide) (by decide) fun k6 d6 c6 H14 k60 k61 h14 => ?_
  obtain ⟨vw, dw, ew, hvw, bw, sw, sw2⟩ := wrong_ok (K := K) (B := B7) (l13 _ _ e12) (show k6.toNat < 10 by omega)
  refine v_ixL (h14.l (SqL.of e13)) (at_k k60 ew) ?_
  walk_at "v"
  have hvt := hvt.up (l12.trans l13)
  have sr : shortS (.str (S r)) := shortS_S (by omega)
  have so : shortS (.str (S o)) := shortS_S (by omega)
  have sf : shortS (.str (S fi)) := shortS_S (by omega)
  have ss : shortS (.str (S se)) := shortS_S (by omega)
  have sa : shortS (.str (S al)) := shortS_S (by omega)
  have rep_ok : ∀ (c n : Nat), c ∈ al → n ≤ 100 → RowOk al (.str (S (rep [c] n))) := fun c n hc hn => ⟨_, rfl, by rw [rep_len]; show n * 1 ≤ 200; omega, fun x hx => by
    have := mem_rep hx
    rw [List.mem_singleton.mp this]
    exact hc⟩
  have rl : ∀ c n : Nat, (rep [c] n).length = n := fun c n => by rw [rep_len]; show n * 1 = n; omega
  have sst : ∀ c n : Nat, n ≤ 100 → shortS (.str (S (rep [c] n))) := fun c n hn => shortS_S (by rw [rl]; omega)
  have rr : RowOk al (.str (S r)) := ⟨r, rfl, by omega, hr⟩
  have ro : RowOk al (.str (S o)) := ⟨o, rfl, by omega, ho⟩
  have nal : ∀ o : COut, o ≠ .alpha → (o = .alpha → ShowOk (.str (S al))) := fun o h1 h2 => absurd h2 h1
  have dm1 : ∀ d, dueD d (.row (-1)) = .tuple [.str "row", .str "-1"] := fun d => by
    show PyData.tuple [.str "row", .str (PyData.int (-1)).shown] = _
    rw [show (PyData.int (-1)).shown = "-1" by decide +kernel]
  have esz : (sz : Int) + 1 = ((sz + 1 : Nat) : Int) := by omega
  obtain ⟨ini, cl, eal⟩ : ∃ ini cl, al = ini ++ [cl] := by
    rcases snoc_or al with h | h
    · rw [h] at al1
      exact absurd al1 (by decide)
    · exact h
  have hcl : cl ∈ al := by rw [eal]; simp
  -- 0
  refine v_repr h14 (hvw.up (Same.refl B7)) sw ?_
  walk_at "v"
  refine v_two (K := K) h14 (.str _) (.str _) fun w0 C0 G0 m0 g0 u0 => ?_
  walk_at "v"
  refine v_ask (o := .alpha) g0 (hvw.up ((Same.refl B7).trans m0)) (.str _) (.str _) u0 sw2 sr so (fun _ => sw) (bw) fun p0 C1 G1 m1 g1 a0 => ?_
  walk_at "v"
  -- 1
  refine v_repr g1 (hvw.up (((Same.refl B7).trans m0).trans m1)) sw ?_
  walk_at "v"
  refine v_two (K := K) g1 (.str _) (.str _) fun w1 C2 G2 m2 g2 u1 => ?_
  walk_at "v"
  refine v_ask (o := .alpha) g2 (hvw.up ((((Same.refl B7).trans m0).trans m1).trans m2)) (.str _) (hvt.up ((((Same.refl B7).trans m0).trans m1).trans m2)) u1 sw2 sf st (fun _ => sw) (bw) fun p1 C3 G3 m3 g3 a1 => ?_
  walk_at "v"
  -- 2
  refine v_repr g3 (.int _) (int_showOk (log_small (by omega))) ?_
  walk_at "v"
  refine v_two (K := K) g3 (.str _) (.str _) fun w2 C4 G4 m4 g4 u2 => ?_
  walk_at "v"
  refine v_ask (o := (.row (at_ : Int))) g4 (.str _) (.str _) (.str _) u2 sa sf so (fun z => nomatch z) (⟨al, rfl, ao.alpha, .inl bf⟩) fun p2 C5 G5 m5 g5 a2 => ?_
  walk_at "v"
  -- 3
  refine v_repr g5 (.int _) (int_showOk (log_small (by omega))) ?_
  walk_at "v"
  refine v_two (K := K) g5 (.str _) (.str _) fun w3 C6 G6 m6 g6 u3 => ?_
  walk_at "v"
  refine v_ask (o := (.row (at_ : Int))) g6 (.str _) (.str _) (.str _) u3 sa sf ss (fun z => nomatch z) (⟨al, rfl, ao.alpha, .inl bf⟩) fun p3 C7 G7 m7 g7 a3 => ?_
  walk_at "v"
  -- 4
  refine v_repr g7 (.int _) (int_showOk (log_small (by omega))) ?_
  walk_at "v"
  refine v_two (K := K) g7 (.str _) (.str _) fun w4 C8 G8 m8 g8 u4 => ?_
  walk_at "v"
  refine v_ask (o := (.row (to_ : Int))) g8 (.str _) (.str _) (.str _) u4 sa sr ss (fun z => nomatch z) (⟨al, rfl, ao.alpha, .inr ⟨rr, bs⟩⟩) fun p4 C9 G9 m9 g9 a4 => ?_
  walk_at "v"
  -- 5
  refine v_two (K := K) g9 (.str _) (.str _) fun w5 C10 G10 m10 g10 u5 => ?_
  walk_at "v"
  refine v_ask (o := (.row (-1))) g10 (.str _) (hvt.up ((((((((((((Same.refl B7).trans m0).trans m1).trans m2).trans m3).trans m4).trans m5).trans m6).trans m7).trans m8).trans m9).trans m10)) (.str _) (by rw [dm1]; exact u5) sa st ss (fun z => nomatch z) (⟨al, rfl, ao.alpha, .inl bt⟩) fun p5 C11 G11 m11 g11 a5 => ?_
  walk_at "v"
  -- 6
  refine v_two (K := K) g11 (.str _) (.str _) fun w6 C12 G12 m12 g12 u6 => ?_
  walk_at "v"
  refine v_ask (o := (.row (-1))) g12 (.str _) (.str _) (hvt.up ((((((((((((((Same.refl B7).trans m0).trans m1).trans m2).trans m3).trans m4).trans m5).trans m6).trans m7).trans m8).trans m9).trans m10).trans m11).trans m12)) (by rw [dm1]; exact u6) sa sr st (fun z => nomatch z) (⟨al, rfl, ao.alpha, .inr ⟨rr, bt⟩⟩) fun p6 C13 G13 m13 g13 a6 => ?_
  walk_at "v"
  -- 7
  refine v_repr g13 (.int _) (int_showOk (log_small (by omega))) ?_
  walk_at "v"
  refine v_two (K := K) g13 (.str _) (.str _) fun w7 C14 G14 m14 g14 u7 => ?_
  walk_at "v"
  refine v_ask (o := (.long sz)) g14 (.str _) (.str _) (.str _) u7 sa (sst c0 sz (by omega)) so (fun z => nomatch z) (⟨al, _, o, rfl, ao.alpha, rfl, rfl, rep_ok c0 sz h0 (by omega), ro, .inl ⟨by rw [rl]; omega, (rl _ _).symm⟩⟩) fun p7 C15 G15 m15 g15 a7 => ?_
  walk_at "v"
  -- 8
  refine v_repr g15 (.int _) (int_showOk (log_small (by omega))) ?_
  walk_at "v"
  refine v_two (K := K) g15 (.str _) (.str _) fun w8 C16 G16 m16 g16 u8 => ?_
  walk_at "v"
  refine v_ask (o := (.long sz)) g16 (.str _) (.str _) (.str _) u8 sa sr (sst c0 sz (by omega)) (fun z => nomatch z) (⟨al, r, _, rfl, ao.alpha, rfl, rfl, rr, rep_ok c0 sz h0 (by omega), .inr ⟨r12, by rw [rl]; omega, (rl _ _).symm⟩⟩) fun p8 C17 G17 m17 g17 a8 => ?_
  walk_at "v"
  -- 9
  refine v_ixS (c := cl) (sz_of (by rw [S_length]; omega)) (by rw [S_tl, eal]; exact atI_m1 _ _) ?_
  walk_at "v"
  refine v_repL (l := [cl]) (by omega) (by show 1 ≤ 1000; decide) (by omega) ?_
  rw [show ((sz : Int) + 1).toNat = sz + 1 by omega]
  walk_at "v"
  rw [esz]
  refine v_repr g17 (.int _) (int_showOk (log_small (by omega))) ?_
  walk_at "v"
  refine v_two (K := K) g17 (.str _) (.str _) fun w9 C18 G18 m18 g18 u9 => ?_
  walk_at "v"
  refine v_ask (o := (.long (sz + 1))) g18 (.str _) (.str _) (.str _) u9 sa (sst cl (sz + 1) (by omega)) (sst c0 sz (by omega)) (fun z => nomatch z) (⟨al, _, _, rfl, ao.alpha, rfl, rfl, rep_ok cl (sz + 1) hcl (by omega), rep_ok c0 sz h0 (by omega), .inl ⟨by rw [rl]; omega, (rl _ _).symm⟩⟩) fun p9 C19 G19 m19 g19 a9 => ?_
  walk_at "v"
  -- 10
  refine v_repr g19 (.int _) (int_showOk (log_small (by omega))) ?_
  walk_at "v"
  refine v_two (K := K) g19 (.str _) (.str _) fun w10 C20 G20 m20 g20 u10 => ?_
  walk_at "v"
  refine v_ask (o := (.row (to_ : Int))) g20 (.str _) (.str _) (.str _) u10 sa (sst c0 sz (by omega)) ss (fun z => nomatch z) (⟨al, rfl, ao.alpha, .inr ⟨rep_ok c0 sz h0 (by omega), bs⟩⟩) fun p10 C21 G21 m21 g21 a10 => ?_
  walk_at "v"
  refine v_size (xs := [V.ref p0, V.ref p1, V.ref p2, V.ref p3, V.ref p4, V.ref p5, V.ref p6, V.ref p7, V.ref p8, V.ref p9, V.ref p10]) (by show 11 ≤ sizeLine; decide) (v_newB g21 fun tm D1 F1 m22 g22 e22 => ?_)
  have e22 : SqL K D1 tm _ := SqL.of e22
  walk_at "v"
  refine v_lenL (g22.l e22) ?_
  walk_at "v"
  refine v_pick g22 (by show (0 : Int) < 11; decide) (by show (11 : Int) < 2 ^ 30; decide) fun k7 d7 c7 F2 k70 k71 g23 => ?_
  obtain ⟨pp, ep, hp⟩ : ∃ pp, [V.ref p0, V.ref p1, V.ref p2, V.ref p3, V.ref p4, V.ref p5, V.ref p6, V.ref p7, V.ref p8, V.ref p9, V.ref p10][k7.toNat]? = some (.ref pp) ∧ AskV K D1 pp := by
    have k7l : k7.toNat < 11 := by have : k7 < 11 := k71; omega
    generalize k7.toNat = k at k7l
    match k, k7l with
    | 0, _ => exact ⟨p0, rfl, a0.up (m2.trans (m3.trans (m4.trans (m5.trans (m6.trans (m7.trans (m8.trans (m9.trans (m10.trans (m11.trans (m12.trans (m13.trans (m14.trans (m15.trans (m16.trans (m17.trans (m18.trans (m19.trans (m20.trans (m21.trans m22))))))))))))))))))))⟩
    | 1, _ => exact ⟨p1, rfl, a1.up (m4.trans (m5.trans (m6.trans (m7.trans (m8.trans (m9.trans (m10.trans (m11.trans (m12.trans (m13.trans (m14.trans (m15.trans (m16.trans (m17.trans (m18.trans (m19.trans (m20.trans (m21.trans m22))))))))))))))))))⟩
    | 2, _ => exact ⟨p2, rfl, a2.up (m6.trans (m7.trans (m8.trans (m9.trans (m10.trans (m11.trans (m12.trans (m13.trans (m14.trans (m15.trans (m16.trans (m17.trans (m18.trans (m19.trans (m20.trans (m21.trans m22))))))))))))))))⟩
    | 3, _ => exact ⟨p3, rfl, a3.up (m8.trans (m9.trans (m10.trans (m11.trans (m12.trans (m13.trans (m14.trans (m15.trans (m16.trans (m17.trans (m18.trans (m19.trans (m20.trans (m21.trans m22))))))))))))))⟩
    | 4, _ => exact ⟨p4, rfl, a4.up (m10.trans (m11.trans (m12.trans (m13.trans (m14.trans (m15.trans (m16.trans (m17.trans (m18.trans (m19.trans (m20.trans (m21.trans m22))))))))))))⟩
    | 5, _ => exact ⟨p5, rfl, a5.up (m12.trans (m13.trans (m14.trans (m15.trans (m16.trans (m17.trans (m18.trans (m19.trans (m20.trans (m21.trans m22))))))))))⟩
    | 6, _ => exact ⟨p6, rfl, a6.up (m14.trans (m15.trans (m16.trans (m17.trans (m18.trans (m19.trans (m20.trans (m21.trans m22))))))))⟩
    | 7, _ => exact ⟨p7, rfl, a7.up (m16.trans (m17.trans (m18.trans (m19.trans (m20.trans (m21.trans m22))))))⟩
    | 8, _ => exact ⟨p8, rfl, a8.up (m18.trans (m19.trans (m20.trans (m21.trans m22))))⟩
    | 9, _ => exact ⟨p9, rfl, a9.up (m20.trans (m21.trans m22))⟩
    | 10, _ => exact ⟨p10, rfl, a10.up m22⟩
  refine v_ixL (g23.l e22) (at_k k70 ep) ?_
  exact q pp d7 c7 D1 F2 (l1.trans (l2.trans (l8.trans (l9.trans (l10.trans (l12.trans (l13.trans (m0.trans (m1.trans (m2.trans (m3.trans (m4.trans (m5.trans (m6.trans (m7.trans (m8.trans (m9.trans (m10.trans (m11.trans (m12.trans (m13.trans (m14.trans (m15.trans (m16.trans (m17.trans (m18.trans (m19.trans (m20.trans (m21.trans m22))))))))))))))))))))))))))))) g23 hp
theorem ok_wrong_ask {P : Program} {mg : Str → Option Value} {w : World} {base : Heap} (T : Txt K mg w) (TX : TxtX T P) : FnG P w K mg base CX0 2 T.a_wrong_ask T.fd_wrong_ask ["_law_source_here", "_law_alphabet_here", "_law_row", "_law_other"] (sp_wrong_ask T) := by
  refine okG_of T.F_wrong_ask sc_wrong_ask (fun vs H Q E h => ?_) (fun cdv A outer s H vs Q E hgd hr h => ⟨t_wrong_ask K, ?_, pure_wrong_ask T vs H Q E h⟩)
  · obtain ⟨B, M, a, d, sd, c, al, r, o, rfl, _⟩ := h
    rfl
  · exact (pss_cons (ps_set (i := 4) sc_wrong_ask.nd rfl (by first | exact Or.inl rfl | exact Or.inr rfl) (pe_op op_cat (pe_lc (own := [("_law_one", 5)]) (g := (gName 5)) (tt := (tTest (tOp rNotInSg (tVar 5) (tVar 1)))) rfl sc_wrong_ask.nd (pi_str pe_str) (blkOk_by (own := [("_law_one", 5)]) (N := n_wrong_ask) (sc := defScope s_wrong_ask) (by decide +kernel)) (fun _ _ _ _ _ => (pg_name (i := 5) sc_wrong_ask.nd rfl (Or.inl rfl))) (fun _ _ _ _ _ => (pts_one (pt_cmpR op_notIn_sign (pv 5) (pv 1) (by rfl)))) (fun _ _ _ _ _ => (pv 5))) (pe_lst (pa_cons pe_str (pa_cons pe_str (pa_cons pe_str (pa_cons pe_str pa_nil)))))))
      (pss_cons (ps_set (i := 6) sc_wrong_ask.nd rfl (by first | exact Or.inl rfl | exact Or.inr rfl) (pe_ix ix_list (pv 4) (pe_call (ok_pick T) hr (by rfl) T.g_pick T.F_pick.kp T.b_pick .nil pass0 (pa_cons (pv 0) (pa_cons (pe_callB call_len (by rfl) (T.free_len) (by decide +kernel) (pa_cons (pv 4) pa_nil)) pa_nil))) (fun _ _ => rfl)))
      (pss_cons (ps_set (i := 7) sc_wrong_ask.nd rfl (by first | exact Or.inl rfl | exact Or.inr rfl) (pe_call (ok_pick T) hr (by rfl) T.g_pick T.F_pick.kp T.b_pick .nil pass0 (pa_cons (pv 0) (pa_cons (pe_op op_add (pe_callB call_len (by rfl) (T.free_len) (by decide +kernel) (pa_cons (pv 2) pa_nil)) pe_int) pa_nil))))
      (pss_cons (ps_set (i := 8) sc_wrong_ask.nd rfl (by first | exact Or.inl rfl | exact Or.inr rfl) (pe_call (ok_pick T) hr (by rfl) T.g_pick T.F_pick.kp T.b_pick .nil pass0 (pa_cons (pv 0) (pa_cons (pe_op op_add (pe_callB call_len (by rfl) (T.free_len) (by decide +kernel) (pa_cons (pv 3) pa_nil)) pe_int) pa_nil))))
      (pss_cons (ps_set (i := 9) sc_wrong_ask.nd rfl (by first | exact Or.inl rfl | exact Or.inr rfl) (pe_op op_add_str (pe_op op_add_str (pe_slice sl_str (pv 2) po_none (po_some (pv 7))) (pv 6)) (pe_slice sl_str (pv 2) (po_some (pv 7)) po_none)))
      (pss_cons (ps_set (i := 10) sc_wrong_ask.nd rfl (by first | exact Or.inl rfl | exact Or.inr rfl) (pe_op op_add_str (pe_op op_add_str (pe_slice sl_str (pv 3) po_none (po_some (pv 8))) (pv 6)) (pe_slice sl_str (pv 3) (po_some (pv 8)) po_none)))
      (pss_cons (ps_set (i := 11) sc_wrong_ask.nd rfl (by first | exact Or.inl rfl | exact Or.inr rfl) (pe_op op_add pe_int (pe_call (ok_pick T) hr (by rfl) T.g_pick T.F_pick.kp T.b_pick .nil pass0 (pa_cons (pv 0) (pa_cons pe_int pa_nil)))))
      (pss_cons (ps_set (i := 12) sc_wrong_ask.nd rfl (by first | exact Or.inl rfl | exact Or.inr rfl) (pe_op op_repS (pe_ix ix_str (pv 1) pe_int (fun _ _ => rfl)) (pv 11)))
      (pss_cons (ps_set (i := 13) sc_wrong_ask.nd rfl (by first | exact Or.inl rfl | exact Or.inr rfl) (pe_lst (pa_cons pe_non (pa_cons pe_int (pa_cons (pe_lst (pa_cons (pe_ix ix_str (pv 1) pe_int (fun _ _ => rfl)) pa_nil)) (pa_cons (pe_tup (pa_cons (pe_ix ix_str (pv 1) pe_int (fun _ _ => rfl)) pa_nil)) (pa_cons (pe_op op_repS (pe_ix ix_str (pv 1) pe_int (fun _ _ => rfl)) pe_int) (pa_cons pe_bl pa_nil))))))))
      (pss_cons (ps_set (i := 14) sc_wrong_ask.nd rfl (by first | exact Or.inl rfl | exact Or.inr rfl) (pe_ix ix_list (pv 13) (pe_call (ok_pick T) hr (by rfl) T.g_pick T.F_pick.kp T.b_pick .nil pass0 (pa_cons (pv 0) (pa_cons (pe_callB call_len (by rfl) (T.free_len) (by decide +kernel) (pa_cons (pv 13) pa_nil)) pa_nil))) (fun _ _ => rfl)))
      (pss_cons (ps_set (i := 15) sc_wrong_ask.nd rfl (by first | exact Or.inl rfl | exact Or.inr rfl) (pe_ix ix_list (pe_lst (pa_cons pe_str (pa_cons pe_str (pa_cons pe_str (pa_cons pe_str (pa_cons pe_str (pa_cons pe_non (pa_cons pe_int (pa_cons (pe_lst (pa_cons pe_str (pa_cons pe_str pa_nil))) (pa_cons pe_str (pa_cons pe_str pa_nil))))))))))) (pe_call (ok_pick T) hr (by rfl) T.g_pick T.F_pick.kp T.b_pick .nil pass0 (pa_cons (pv 0) (pa_cons pe_int pa_nil))) (fun _ _ => rfl)))
      (pss_cons (ps_set (i := 16) sc_wrong_ask.nd rfl (by first | exact Or.inl rfl | exact Or.inr rfl) (pe_lst (pa_cons (pe_tup (pa_cons (pv 15) (pa_cons (pv 2) (pa_cons (pv 3) (pa_cons (pe_tup (pa_cons pe_str (pa_cons (pe_callB (cr_repr hgd (room70 hr)) (by rfl) (T.free_repr) (by decide +kernel) (pa_cons (pv 15) pa_nil)) pa_nil))) pa_nil))))) (pa_cons (pe_tup (pa_cons (pv 15) (pa_cons (pv 9) (pa_cons (pv 14) (pa_cons (pe_tup (pa_cons pe_str (pa_cons (pe_callB (cr_repr hgd (room70 hr)) (by rfl) (T.free_repr) (by decide +kernel) (pa_cons (pv 15) pa_nil)) pa_nil))) pa_nil))))) (pa_cons (pe_tup (pa_cons (pv 1) (pa_cons (pv 9) (pa_cons (pv 3) (pa_cons (pe_tup (pa_cons pe_str (pa_cons (pe_callB (cr_repr hgd (room70 hr)) (by rfl) (T.free_repr) (by decide +kernel) (pa_cons (pv 7) pa_nil)) pa_nil))) pa_nil))))) (pa_cons (pe_tup (pa_cons (pv 1) (pa_cons (pv 9) (pa_cons (pv 10) (pa_cons (pe_tup (pa_cons pe_str (pa_cons (pe_callB (cr_repr hgd (room70 hr)) (by rfl) (T.free_repr) (by decide +kernel) (pa_cons (pv 7) pa_nil)) pa_nil))) pa_nil))))) (pa_cons (pe_tup (pa_cons (pv 1) (pa_cons (pv 2) (pa_cons (pv 10) (pa_cons (pe_tup (pa_cons pe_str (pa_cons (pe_callB (cr_repr hgd (room70 hr)) (by rfl) (T.free_repr) (by decide +kernel) (pa_cons (pv 8) pa_nil)) pa_nil))) pa_nil))))) (pa_cons (pe_tup (pa_cons (pv 1) (pa_cons (pv 14) (pa_cons (pv 10) (pa_cons (pe_tup (pa_cons pe_str (pa_cons pe_str pa_nil))) pa_nil))))) (pa_cons (pe_tup (pa_cons (pv 1) (pa_cons (pv 2) (pa_cons (pv 14) (pa_cons (pe_tup (pa_cons pe_str (pa_cons pe_str pa_nil))) pa_nil))))) (pa_cons (pe_tup (pa_cons (pv 1) (pa_cons (pv 12) (pa_cons (pv 3) (pa_cons (pe_tup (pa_cons pe_str (pa_cons (pe_callB (cr_repr hgd (room70 hr)) (by rfl) (T.free_repr) (by decide +kernel) (pa_cons (pv 11) pa_nil)) pa_nil))) pa_nil))))) (pa_cons (pe_tup (pa_cons (pv 1) (pa_cons (pv 2) (pa_cons (pv 12) (pa_cons (pe_tup (pa_cons pe_str (pa_cons (pe_callB (cr_repr hgd (room70 hr)) (by rfl) (T.free_repr) (by decide +kernel) (pa_cons (pv 11) pa_nil)) pa_nil))) pa_nil))))) (pa_cons (pe_tup (pa_cons (pv 1) (pa_cons (pe_op op_repS (pe_ix ix_str (pv 1) (pe_un un_neg pe_int) (fun _ _ => rfl)) (pe_op op_add (pv 11) pe_int)) (pa_cons (pv 12) (pa_cons (pe_tup (pa_cons pe_str (pa_cons (pe_callB (cr_repr hgd (room70 hr)) (by rfl) (T.free_repr) (by decide +kernel) (pa_cons (pe_op op_add (pv 11) pe_int) pa_nil)) pa_nil))) pa_nil))))) (pa_cons (pe_tup (pa_cons (pv 1) (pa_cons (pv 12) (pa_cons (pv 10) (pa_cons (pe_tup (pa_cons pe_str (pa_cons (pe_callB (cr_repr hgd (room70 hr)) (by rfl) (T.free_repr) (by decide +kernel) (pa_cons (pv 8) pa_nil)) pa_nil))) pa_nil))))) pa_nil)))))))))))))
      (pss_one (ps_ret (pe_ix ix_list (pv 16) (pe_call (ok_pick T) hr (by rfl) T.g_pick T.F_pick.kp T.b_pick .nil pass0 (pa_cons (pv 0) (pa_cons (pe_callB call_len (by rfl) (T.free_len) (by decide +kernel) (pa_cons (pv 16) pa_nil)) pa_nil))) (fun _ _ => rfl))))))))))))))))
end
end K52
set_option Elab.async false
set_option linter.all false
set_option maxRecDepth 100000
set_option maxHeartbeats 2000000
/-! levels: smaller relations, exchanged, reversed, the last one -/
namespace Sh
open PySem PySem.Spec PyProof.Rows L2
open SX (S)
/-! ### cells, as a sorted list -/
def ltN (a b : Nat × Nat) : Prop := a.1 < b.1 ∨ (a.1 = b.1 ∧ a.2 < b.2)
theorem cells_sorted (n m : Nat) (f : Rel) : (cells n m f).Pairwise ltN := by
  unfold cells
  rw [List.pairwise_flatMap]
  refine ⟨fun k _ => ?_, ?_⟩
  · unfold cellsR
    refine List.Pairwise.map _ (fun a b h => ?_) ((List.pairwise_lt_range (n := m)).filter _)
    exact .inr ⟨rfl, h⟩
  · refine List.Pairwise.imp ?_ (List.pairwise_lt_range (n := n))
    intro a b hab x hx y hy
    unfold cellsR at hx hy
    obtain ⟨_, _, rfl⟩ := List.mem_map.mp hx
    obtain ⟨_, _, rfl⟩ := List.mem_map.mp hy
    exact .inl hab
theorem ltN_ne {a b : Nat × Nat} (h : ltN a b) : a ≠ b := by
  rintro rfl
  rcases h with h | ⟨_, h⟩
  · exact Nat.lt_irrefl _ h
  · exact Nat.lt_irrefl _ h
theorem sorted_nodup {l : List (Nat × Nat)} (h : l.Pairwise ltN) : l.Nodup := h.imp fun h => ltN_ne h
theorem cells_nodup (n m : Nat) (f : Rel) : (cells n m f).Nodup := sorted_nodup (cells_sorted n m f)
/-! ### same on places -/
def EqOn (n m : Nat) (f g : Rel) : Prop := ∀ a b, a < n → b < m → f a b = g a b
theorem eqOn_cells {n m : Nat} {f g : Rel} : EqOn n m f g ↔ cells n m f = cells n m g := ⟨fun h => cells_congr h, fun h a b ha hb => cells_inj h ha hb⟩
theorem next_congr {n m : Nat} {f g : Rel} (h : EqOn n m f g) : EqOn n m (next n m f) (next n m g) := fun a b ha hb => by
  show (f a b && stays n m f a b) = (g a b && stays n m g a b)
  rw [h a b ha hb, stays_congr h ha hb]
/-- levels move along -/
theorem levs_move {n m n' m' : Nat} (φ : Rel → Rel) (hφ : ∀ f g, EqOn n m f g ↔ EqOn n' m' (φ f) (φ g)) (hn : ∀ f, EqOn n' m' (next n' m' (φ f)) (φ (next n m f))) :
    ∀ (t : Nat) (f g : Rel), EqOn n' m' g (φ f) → (levs n' m' t g).map (cells n' m') = (levs n m t f).map fun h => cells n' m' (φ h)
  | 0, f, g, h => by
    show [cells n' m' g] = [cells n' m' (φ f)]
    rw [eqOn_cells.mp h]
  | t + 1, f, g, h => by
    have h2 : EqOn n' m' (next n' m' g) (φ (next n m f)) := fun a b ha hb => (next_congr h a b ha hb).trans (hn f a b ha hb)
    have e : (cells n' m' (next n' m' g) = cells n' m' g) ↔ (cells n m (next n m f) = cells n m f) := by
      rw [← eqOn_cells, ← eqOn_cells, hφ]
      exact ⟨fun z a b ha hb => by rw [← h2 a b ha hb, z a b ha hb, h a b ha hb], fun z a b ha hb => by rw [h2 a b ha hb, z a b ha hb, h a b ha hb]⟩
    unfold levs
    by_cases c : cells n m (next n m f) = cells n m f
    · rw [if_pos (e.mpr c), if_pos c]
      show [cells n' m' g] = [cells n' m' (φ f)]
      rw [eqOn_cells.mp h]
    · rw [if_neg (fun z => c (e.mp z)), if_neg c, List.map_cons, List.map_cons, eqOn_cells.mp h, levs_move φ hφ hn t _ _ h2]
theorem levels_at {n m t : Nat} (f : Rel) (h : n * m ≤ t) : levels n m f = levs n m t f := (levs_levels (Nat.le_trans (cells_len f) h)).symm
theorem levels_move {n m n' m' : Nat} (φ : Rel → Rel) (hφ : ∀ f g, EqOn n m f g ↔ EqOn n' m' (φ f) (φ g)) (hn : ∀ f, EqOn n' m' (next n' m' (φ f)) (φ (next n m f))) {f g : Rel} (h : EqOn n' m' g (φ f)) :
    (levels n' m' g).map (cells n' m') = (levels n m f).map fun h => cells n' m' (φ h) := by
  rw [levels_at f (t := n * m + n' * m') (by omega), levels_at g (t := n * m + n' * m') (by omega)]
  exact levs_move φ hφ hn _ f g h
/-! ### exchanged -/
theorem stays_flp (n m : Nat) (f : Rel) (k j : Nat) : stays m n (flp f) k j = stays n m f j k := by
  have h : ∀ later, stay1 m n (flp f) k j later = stay1 n m f j k later := fun later => by
    unfold stay1
    rw [Bool.and_comm]
    rfl
  unfold stays
  rw [h, h]
theorem levels_flp {n m : Nat} {f g : Rel} (h : EqOn m n g (flp f)) : (levels m n g).map (cells m n) = (levels n m f).map fun h => cells m n (flp h) :=
  levels_move flp (fun f g => ⟨fun z a b ha hb => z b a hb ha, fun z a b ha hb => z b a hb ha⟩) (fun f a b ha hb => by
    show (f b a && stays m n (flp f) a b) = (f b a && stays n m f b a)
    rw [stays_flp]) h
/-! ### renamed places -/
theorem fnd_map {ψ : Nat → Nat} {g g' c c' : Nat → Bool} : ∀ {ps : List Nat}, (∀ p ∈ ps, g p = g' (ψ p)) → (∀ p ∈ ps, c p = c' (ψ p)) → fnd g c ps = fnd g' c' (ps.map ψ)
  | [], _, _ => rfl
  | p :: ps, h1, h2 => by
    show (g p || (c p && fnd g c ps)) = (g' (ψ p) || (c' (ψ p) && fnd g' c' (ps.map ψ)))
    rw [h1 p (by simp), h2 p (by simp), fnd_map (ps := ps) (fun q hq => h1 q (by simp [hq])) (fun q hq => h2 q (by simp [hq]))]
theorem ans_map {φ ψ : Nat → Nat} {f g : Rel} {others : List Nat} : ∀ {ones : List Nat} {c c' : Nat → Bool}, (∀ a ∈ ones, ∀ b ∈ others, f a b = g (φ a) (ψ b)) → (∀ p ∈ others, c p = c' (ψ p)) → ans f others c ones = ans g (others.map ψ) c' (ones.map φ)
  | [], _, _, _, _ => rfl
  | one :: ones, c, c', h1, h2 => by
    show (fnd (f one) c others && ans f others (more f others one c) ones) = (fnd (g (φ one)) c' (others.map ψ) && ans g (others.map ψ) (more g (others.map ψ) (φ one) c') (ones.map φ))
    rw [fnd_map (h1 one (by simp)) h2, ans_map (ones := ones) (c' := more g (others.map ψ) (φ one) c') (fun a ha => h1 a (by simp [ha])) fun p hp => by
      unfold more
      rw [h2 p hp, h1 one (by simp) p hp, decide_eq_true hp, decide_eq_true (List.mem_map_of_mem hp)]]
def revR (n m : Nat) (f : Rel) : Rel := fun k j => f (n - 1 - k) (m - 1 - j)
theorem bey_rev {n k : Nat} (later : Bool) (hk : k < n) : (bey later k n).map (fun p => n - 1 - p) = bey (!later) (n - 1 - k) n := by
  cases later with
  | true =>
    show ((List.range (n - (k + 1))).map fun i => k + 1 + i).map _ = (List.range (n - 1 - k)).map fun i => n - 1 - k - 1 - i
    rw [List.map_map, show n - (k + 1) = n - 1 - k by omega]
    refine List.map_congr_left fun i hi => ?_
    have := List.mem_range.mp hi
    show n - 1 - (k + 1 + i) = n - 1 - k - 1 - i
    omega
  | false =>
    show ((List.range k).map fun i => k - 1 - i).map _ = (List.range (n - (n - 1 - k + 1))).map fun i => n - 1 - k + 1 + i
    rw [List.map_map, show n - (n - 1 - k + 1) = k by omega]
    refine List.map_congr_left fun i hi => ?_
    have := List.mem_range.mp hi
    show n - 1 - (k - 1 - i) = n - 1 - k + 1 + i
    omega
theorem stays_rev {n m k j : Nat} (f : Rel) (hk : k < n) (hj : j < m) : stays n m (revR n m f) k j = stays n m f (n - 1 - k) (m - 1 - j) := by
  have h : ∀ later, stay1 n m (revR n m f) k j later = stay1 n m f (n - 1 - k) (m - 1 - j) (!later) := fun later => by
    unfold stay1
    rw [ans_map (f := revR n m f) (g := f) (φ := fun p => n - 1 - p) (ψ := fun p => m - 1 - p) (c := noC) (c' := noC) (fun _ _ _ _ => rfl) (fun _ _ => rfl),
      ans_map (f := flp (revR n m f)) (g := flp f) (φ := fun p => m - 1 - p) (ψ := fun p => n - 1 - p) (c := noC) (c' := noC) (fun _ _ _ _ => rfl) (fun _ _ => rfl), bey_rev later hk, bey_rev later hj]
  unfold stays
  rw [h, h, Bool.and_comm]
  rfl
theorem levels_rev {n m : Nat} {f g : Rel} (h : EqOn n m g (revR n m f)) : (levels n m g).map (cells n m) = (levels n m f).map fun h => cells n m (revR n m h) := by
  have rv : ∀ f g, EqOn n m f g → EqOn n m (revR n m f) (revR n m g) := fun f g z a b ha hb => z _ _ (by omega) (by omega)
  refine levels_move (revR n m) (fun f g => ⟨rv f g, fun z a b ha hb => ?_⟩) (fun f a b ha hb => ?_) h
  · have := rv _ _ z a b ha hb
    unfold revR at this
    rw [show n - 1 - (n - 1 - a) = a by omega, show m - 1 - (m - 1 - b) = b by omega] at this
    exact this
  · show (revR n m f a b && stays n m (revR n m f) a b) = (f (n - 1 - a) (m - 1 - b) && stays n m f (n - 1 - a) (m - 1 - b))
    rw [stays_rev f ha hb]
    rfl
theorem levels_same {n m : Nat} {f g : Rel} (h : EqOn n m g f) : (levels n m g).map (cells n m) = (levels n m f).map (cells n m) :=
  levels_move id (fun _ _ => Iff.rfl) (fun _ _ _ _ _ => rfl) h
/-! ### smaller relations -/
theorem fnd_mono {g g' c c' : Nat → Bool} : ∀ {ps : List Nat}, (∀ p ∈ ps, g p = true → g' p = true) → (∀ p ∈ ps, c p = true → c' p = true) → fnd g c ps = true → fnd g' c' ps = true
  | [], _, _, h => h
  | p :: ps, h1, h2, h => by
    have h : (g p || (c p && fnd g c ps)) = true := h
    show (g' p || (c' p && fnd g' c' ps)) = true
    rw [Bool.or_eq_true] at h ⊢
    rcases h with h | h
    · exact .inl (h1 p (by simp) h)
    · rw [Bool.and_eq_true] at h ⊢
      exact .inr ⟨h2 p (by simp) h.1, fnd_mono (fun q hq => h1 q (by simp [hq])) (fun q hq => h2 q (by simp [hq])) h.2⟩
theorem ans_mono {f g : Rel} {others : List Nat} : ∀ {ones : List Nat} {c c' : Nat → Bool}, (∀ a ∈ ones, ∀ b ∈ others, f a b = true → g a b = true) → (∀ p ∈ others, c p = true → c' p = true) → ans f others c ones = true → ans g others c' ones = true
  | [], _, _, _, _, h => h
  | one :: ones, c, c', h1, h2, h => by
    have h : (fnd (f one) c others && ans f others (more f others one c) ones) = true := h
    show (fnd (g one) c' others && ans g others (more g others one c') ones) = true
    rw [Bool.and_eq_true] at h ⊢
    refine ⟨fnd_mono (h1 one (by simp)) h2 h.1, ans_mono (fun a ha => h1 a (by simp [ha])) (fun p hp z => ?_) h.2⟩
    unfold more at z ⊢
    rw [Bool.or_eq_true] at z ⊢
    rcases z with z | z
    · exact .inl (h2 p hp z)
    · rw [Bool.and_eq_true] at z ⊢
      exact .inr ⟨z.1, h1 one (by simp) p hp z.2⟩
def LeOn (n m : Nat) (f g : Rel) : Prop := ∀ a b, a < n → b < m → f a b = true → g a b = true
theorem stays_mono {n m k j : Nat} {f g : Rel} (h : LeOn n m f g) (hk : k < n) (hj : j < m) (s : stays n m f k j = true) : stays n m g k j = true := by
  have one : ∀ later, stay1 n m f k j later = true → stay1 n m g k j later = true := fun later z => by
    unfold stay1 at z ⊢
    rw [Bool.and_eq_true] at z ⊢
    exact ⟨ans_mono (fun a ha b hb => h a b (bey_lt hk ha) (bey_lt hj hb)) (fun _ _ w => w) z.1, ans_mono (fun a ha b hb => h b a (bey_lt hk hb) (bey_lt hj ha)) (fun _ _ w => w) z.2⟩
  unfold stays at s ⊢
  rw [Bool.and_eq_true] at s ⊢
  exact ⟨one _ s.1, one _ s.2⟩
theorem next_leOn (n m : Nat) (f : Rel) : LeOn n m (next n m f) f := fun a b _ _ h => by
  have h : (f a b && stays n m f a b) = true := h
  rw [Bool.and_eq_true] at h
  exact h.1
/-- the level ahead of the last one refuses what the last one lacks -/
theorem levs_last {n m : Nat} : ∀ (t : Nat) (f : Rel) (k j : Nat), k < n → j < m → f k j = true → ∀ (ini : List Rel) (l : Rel), levs n m t f = ini ++ [l] → l k j = false → ∃ (ini' : List Rel) (p : Rel), ini = ini' ++ [p] ∧ stays n m p k j = false ∧ LeOn n m p f
  | 0, f, k, j, hk, hj, hf, ini, l, e, hl => by
    have e : [f] = ini ++ [l] := e
    cases ini with
    | nil =>
      injection e with e _
      rw [← e, hf] at hl
      cases hl
    | cons x xs =>
      injection e with _ e
      have := congrArg List.length e
      simp at this
  | t + 1, f, k, j, hk, hj, hf, ini, l, e, hl => by
    unfold levs at e
    by_cases c : cells n m (next n m f) = cells n m f
    · rw [if_pos c] at e
      cases ini with
      | nil =>
        injection e with e _
        rw [← e, hf] at hl
        cases hl
      | cons x xs =>
        injection e with _ e
        have := congrArg List.length e
        simp at this
    · rw [if_neg c] at e
      cases ini with
      | nil =>
        injection e with _ e
        have := congrArg List.length e
        cases t with
        | zero => simp [levs] at this
        | succ t =>
          unfold levs at this
          split at this <;> simp at this
      | cons x xs =>
        injection e with e1 e2
        subst e1
        cases hn : next n m f k j with
        | true =>
          obtain ⟨ini', p, rfl, h1, h2⟩ := levs_last t (next n m f) k j hk hj hn xs l e2 hl
          exact ⟨f :: ini', p, rfl, h1, fun a b ha hb z => next_leOn n m f a b ha hb (h2 a b ha hb z)⟩
        | false =>
          have hs : stays n m f k j = false := by
            have : (f k j && stays n m f k j) = false := hn
            rw [hf, Bool.true_and] at this
            exact this
          rcases snoc_or xs with rfl | ⟨xs', p, rfl⟩
          · exact ⟨[], f, rfl, hs, fun _ _ _ _ z => z⟩
          · refine ⟨f :: xs', p, rfl, ?_, ?_⟩
            · have sub : ∀ (t : Nat) (g : Rel), ∀ h ∈ levs n m t g, LeOn n m h g := by
                intro t
                induction t with
                | zero => intro g h hh; rw [List.mem_singleton.mp hh]; exact fun _ _ _ _ z => z
                | succ t ih =>
                  intro g h hh
                  unfold levs at hh
                  split at hh
                  · rw [List.mem_singleton.mp hh]; exact fun _ _ _ _ z => z
                  · rcases List.mem_cons.mp hh with rfl | hh
                    · exact fun _ _ _ _ z => z
                    · exact fun a b ha hb z => next_leOn n m g a b ha hb (ih _ h hh a b ha hb z)
              have hp : LeOn n m p f := fun a b ha hb z => next_leOn n m f a b ha hb (sub t _ p (by rw [e2]; simp) a b ha hb z)
              cases hz : stays n m p k j with
              | false => rfl
              | true => rw [stays_mono hp hk hj hz] at hs; cases hs
            · have sub : ∀ (t : Nat) (g : Rel), ∀ h ∈ levs n m t g, LeOn n m h g := by
                intro t
                induction t with
                | zero => intro g h hh; rw [List.mem_singleton.mp hh]; exact fun _ _ _ _ z => z
                | succ t ih =>
                  intro g h hh
                  unfold levs at hh
                  split at hh
                  · rw [List.mem_singleton.mp hh]; exact fun _ _ _ _ z => z
                  · rcases List.mem_cons.mp hh with rfl | hh
                    · exact fun _ _ _ _ z => z
                    · exact fun a b ha hb z => next_leOn n m g a b ha hb (ih _ h hh a b ha hb z)
              exact fun a b ha hb z => next_leOn n m f a b ha hb (sub t _ p (by rw [e2]; simp) a b ha hb z)
/-! ### the last level -/
theorem levs_stable {n m : Nat} : ∀ (t : Nat) (f : Rel), (cells n m f).length ≤ t → ∀ (ini : List Rel) (l : Rel), levs n m t f = ini ++ [l] → cells n m (next n m l) = cells n m l
  | 0, f, h, ini, l, e => by
    have e : [f] = ini ++ [l] := e
    cases ini with
    | nil =>
      injection e with e _
      subst e
      have e0 : cells n m f = [] := List.length_eq_zero_iff.mp (by omega)
      have e1 : cells n m (next n m f) = [] := List.length_eq_zero_iff.mp (by have := next_le (n := n) (m := m) f; omega)
      rw [e0, e1]
    | cons x xs =>
      injection e with _ e
      have := congrArg List.length e
      simp at this
  | t + 1, f, h, ini, l, e => by
    unfold levs at e
    by_cases c : cells n m (next n m f) = cells n m f
    · rw [if_pos c] at e
      cases ini with
      | nil =>
        injection e with e _
        rw [← e]
        exact c
      | cons x xs =>
        injection e with _ e
        have := congrArg List.length e
        simp at this
    · rw [if_neg c] at e
      cases ini with
      | nil =>
        injection e with _ e
        have := congrArg List.length e
        cases t with
        | zero => simp [levs] at this
        | succ t =>
          unfold levs at this
          split at this <;> simp at this
      | cons x xs =>
        injection e with e1 e2
        have := next_lt c
        exact levs_stable t _ (by omega) xs l e2
theorem fnd_no {g : Nat → Bool} : ∀ {ps : List Nat}, fnd g noC ps = true → ∃ p ps', ps = p :: ps' ∧ g p = true
  | [], h => nomatch h
  | p :: ps, h => by
    have h : (g p || (false && fnd g noC ps)) = true := h
    rw [Bool.false_and, Bool.or_false] at h
    exact ⟨p, ps, rfl, h⟩
theorem bey_up {k n : Nat} (h : k + 1 < n) : ∃ r, bey true k n = (k + 1) :: r := by
  unfold bey
  rw [if_pos rfl, show n - (k + 1) = (n - (k + 2)) + 1 by omega, List.range_succ_eq_map]
  exact ⟨_, rfl⟩
theorem bey_top {k n : Nat} (h : ¬ k + 1 < n) : bey true k n = [] := by
  unfold bey
  rw [if_pos rfl, show n - (k + 1) = 0 by omega]
  rfl
theorem bey_down {k n : Nat} : ∃ r, bey false (k + 1) n = k :: r := by
  unfold bey
  rw [if_neg (by decide), List.range_succ_eq_map]
  exact ⟨_, rfl⟩
theorem bey_zero {n : Nat} : bey false 0 n = [] := rfl
/-- a pair of a stable relation has its neighbours -/
theorem stay_up {n m k j : Nat} {f : Rel} (s : stays n m f k j = true) : (k + 1 < n ↔ j + 1 < m) ∧ (k + 1 < n → f (k + 1) (j + 1) = true) := by
  unfold stays at s
  rw [Bool.and_eq_true] at s
  have s := s.1
  unfold stay1 at s
  rw [Bool.and_eq_true] at s
  have one : k + 1 < n → j + 1 < m ∧ f (k + 1) (j + 1) = true := fun h => by
    obtain ⟨r, e⟩ := bey_up h
    have s := s.1
    rw [e] at s
    have s : (fnd (f (k + 1)) noC (bey true j m) && _) = true := s
    rw [Bool.and_eq_true] at s
    obtain ⟨p, ps, e2, hp⟩ := fnd_no s.1
    by_cases hj : j + 1 < m
    · obtain ⟨r2, e3⟩ := bey_up hj
      rw [e3] at e2
      injection e2 with e4 _
      rw [e4]
      exact ⟨by omega, hp⟩
    · rw [bey_top hj] at e2
      cases e2
  refine ⟨⟨fun h => (one h).1, fun h => ?_⟩, fun h => (one h).2⟩
  obtain ⟨r, e⟩ := bey_up h
  have s := s.2
  rw [e] at s
  have s : (fnd (flp f (j + 1)) noC (bey true k n) && _) = true := s
  rw [Bool.and_eq_true] at s
  obtain ⟨p, ps, e2, hp⟩ := fnd_no s.1
  by_cases hk : k + 1 < n
  · exact hk
  · rw [bey_top hk] at e2
    cases e2
theorem stay_down {n m k j : Nat} {f : Rel} (s : stays n m f k j = true) : (k = 0 ↔ j = 0) ∧ ∀ k' j', k = k' + 1 → j = j' + 1 → f k' j' = true := by
  unfold stays at s
  rw [Bool.and_eq_true] at s
  have s := s.2
  unfold stay1 at s
  rw [Bool.and_eq_true] at s
  obtain ⟨s1, s2⟩ := s
  cases k with
  | zero =>
    cases j with
    | zero => exact ⟨⟨fun _ => rfl, fun _ => rfl⟩, (fun k' j' e => nomatch e)⟩
    | succ j =>
      obtain ⟨r, e⟩ := bey_down (k := j) (n := m)
      rw [e, bey_zero] at s2
      have s2 : (fnd (flp f j) noC [] && _) = true := s2
      cases s2
  | succ k =>
    obtain ⟨r, e⟩ := bey_down (k := k) (n := n)
    rw [e] at s1
    have s1 : (fnd (f k) noC (bey false j m) && _) = true := s1
    rw [Bool.and_eq_true] at s1
    obtain ⟨p, ps, e2, hp⟩ := fnd_no s1.1
    cases j with
    | zero => rw [bey_zero] at e2; cases e2
    | succ j =>
      obtain ⟨r2, e3⟩ := bey_down (k := j) (n := m)
      rw [e3] at e2
      injection e2 with e4 _
      subst e4
      exact ⟨⟨(fun z => nomatch z), (fun z => nomatch z)⟩, fun k' j' e1 e2 => by injection e1 with e1; injection e2 with e2; rw [← e1, ← e2]; exact hp⟩
theorem stable_diag {n m : Nat} {f : Rel} (st : cells n m (next n m f) = cells n m f) {k j : Nat} (hk : k < n) (hj : j < m) (h : f k j = true) : k = j ∧ n = m ∧ ∀ i, i < n → f i i = true := by
  have stay : ∀ a b, a < n → b < m → f a b = true → stays n m f a b = true := fun a b ha hb z => by
    have := (eqOn_cells.mpr st) a b ha hb
    have this : (f a b && stays n m f a b) = f a b := this
    rw [z, Bool.true_and] at this
    exact this
  have down : ∀ k j, k < n → j < m → f k j = true → k = j ∧ f 0 0 = true ∧ 0 < n ∧ 0 < m := by
    intro k
    induction k with
    | zero =>
      intro j hk hj h
      have := (stay_down (stay 0 j hk hj h)).1.mp rfl
      subst this
      exact ⟨rfl, h, hk, hj⟩
    | succ k ih =>
      intro j hk hj h
      obtain ⟨s1, s2⟩ := stay_down (stay (k + 1) j hk hj h)
      cases j with
      | zero => exact absurd (s1.mpr rfl) (by omega)
      | succ j =>
        obtain ⟨e, r⟩ := ih j (by omega) (by omega) (s2 k j rfl rfl)
        exact ⟨by omega, r⟩
  obtain ⟨e, h0, n0, m0⟩ := down k j hk hj h
  have up : ∀ i, i < n → i < m ∧ f i i = true := by
    intro i
    induction i with
    | zero => intro _; exact ⟨m0, h0⟩
    | succ i ih =>
      intro hi
      obtain ⟨hm, hf⟩ := ih (by omega)
      obtain ⟨s1, s2⟩ := stay_up (stay i i (by omega) hm hf)
      exact ⟨s1.mp hi, s2 hi⟩
  have up2 : ∀ i, i < m → i < n := by
    intro i
    induction i with
    | zero => intro _; exact n0
    | succ i ih =>
      intro hi
      have hn := ih (by omega)
      obtain ⟨hm, hf⟩ := up i hn
      exact (stay_up (stay i i hn hm hf)).1.mpr hi
  refine ⟨e, ?_, fun i hi => (up i hi).2⟩
  rcases Nat.lt_trichotomy n m with c | c | c
  · exact absurd (up2 n c) (Nat.lt_irrefl _)
  · exact c
  · exact absurd (up m c).1 (Nat.lt_irrefl _)
theorem ans_diag {g : Rel} : ∀ (ones pre : List Nat) (c : Nat → Bool), (∀ p ∈ pre, c p = true) → (∀ p ∈ ones, g p p = true) → ans g (pre ++ ones) c ones = true := by
  intro ones
  induction ones with
  | nil => intro _ _ _ _; rfl
  | cons one ones ih =>
    intro pre c hc hg
    show (fnd (g one) c (pre ++ one :: ones) && ans g (pre ++ one :: ones) (more g (pre ++ one :: ones) one c) ones) = true
    have f1 : ∀ pre : List Nat, (∀ p ∈ pre, c p = true) → fnd (g one) c (pre ++ one :: ones) = true := by
      intro pre
      induction pre with
      | nil =>
        intro _
        show (g one one || _) = true
        rw [hg one (by simp)]
        rfl
      | cons p pre ih2 =>
        intro h
        show (g one p || (c p && fnd (g one) c (pre ++ one :: ones))) = true
        rw [h p (by simp), ih2 fun q hq => h q (by simp [hq]), Bool.true_and, Bool.or_true]
    rw [f1 pre hc, Bool.true_and]
    have := ih (pre ++ [one]) (more g (pre ++ one :: ones) one c) (fun p hp => by
      unfold more
      rcases List.mem_append.mp hp with hp | hp
      · rw [hc p hp]; rfl
      · rw [List.mem_singleton.mp hp, hg one (by simp), Bool.and_true, decide_eq_true (show one ∈ pre ++ one :: ones by simp), Bool.or_true]) fun p hp => hg p (by simp [hp])
    rw [List.append_assoc] at this
    exact this
theorem stays_diag {n k : Nat} {g : Rel} (h : ∀ i, i < n → g i i = true) (hk : k < n) : stays n n g k k = true := by
  have one : ∀ later, stay1 n n g k k later = true := fun later => by
    unfold stay1
    rw [Bool.and_eq_true]
    exact ⟨ans_diag (bey later k n) [] noC (fun p hp => nomatch hp) fun p hp => h p (bey_lt hk hp), ans_diag (g := flp g) (bey later k n) [] noC (fun p hp => nomatch hp) fun p hp => h p (bey_lt hk hp)⟩
  unfold stays
  rw [one, one]
  rfl
theorem levs_diag {n : Nat} : ∀ (t : Nat) (f : Rel), (∀ i, i < n → f i i = true) → ∀ g ∈ levs n n t f, ∀ i, i < n → g i i = true
  | 0, f, h, g, hg => by
    rw [List.mem_singleton.mp hg]
    exact h
  | t + 1, f, h, g, hg => by
    unfold levs at hg
    split at hg
    · rw [List.mem_singleton.mp hg]; exact h
    · rcases List.mem_cons.mp hg with rfl | hg
      · exact h
      · refine levs_diag t _ (fun i hi => ?_) g hg
        show (f i i && stays n n f i i) = true
        rw [h i hi, stays_diag h hi]
        rfl
theorem levs_sub {n m : Nat} : ∀ (t : Nat) (g : Rel), ∀ h ∈ levs n m t g, LeOn n m h g := by
  intro t
  induction t with
  | zero => intro g h hh; rw [List.mem_singleton.mp hh]; exact fun _ _ _ _ z => z
  | succ t ih =>
    intro g h hh
    unfold levs at hh
    split at hh
    · rw [List.mem_singleton.mp hh]; exact fun _ _ _ _ z => z
    · rcases List.mem_cons.mp hh with rfl | hh
      · exact fun _ _ _ _ z => z
      · exact fun a b ha hb z => next_leOn n m g a b ha hb (ih _ h hh a b ha hb z)
theorem cells_eqD (n : Nat) : cells n n (fun a b => decide (a = b)) = (List.range n).map fun k => (k, k) := by
  refine List.Perm.eq_of_pairwise (le := ltN) (fun a b _ _ h1 h2 => ?_) (cells_sorted n n _) ?_ ?_
  · rcases h1 with h1 | ⟨h1, h3⟩ <;> rcases h2 with h2 | ⟨h2, h4⟩ <;> omega
  · exact List.Pairwise.map _ (fun a b h => .inl h) (List.pairwise_lt_range (n := n))
  · refine (List.perm_ext_iff_of_nodup (cells_nodup n n _) (sorted_nodup (List.Pairwise.map _ (fun a b h => .inl h) (List.pairwise_lt_range (n := n))))).mpr fun p => ?_
    rw [mem_cells, List.mem_map]
    constructor
    · rintro ⟨h1, h2, h3⟩
      have := of_decide_eq_true h3
      exact ⟨p.1, List.mem_range.mpr h1, Prod.ext rfl this⟩
    · rintro ⟨k, hk, rfl⟩
      have := List.mem_range.mp hk
      exact ⟨this, this, decide_eq_true rfl⟩
theorem getD_ext {r o : List Nat} (hl : r.length = o.length) (h : ∀ i, i < r.length → r.getD i 0 = o.getD i 0) : r = o := by
  refine List.ext_getElem hl fun i h1 h2 => ?_
  have := h i h1
  rw [List.getD_eq_getElem?_getD, List.getD_eq_getElem?_getD, List.getElem?_eq_getElem h1, List.getElem?_eq_getElem h2] at this
  exact this
/-- how the levels of two rows end -/
theorem ends {r o : List Nat} {ini : List Rel} {l : Rel} (e : levels r.length o.length (rel0 r o) = ini ++ [l]) : cells r.length o.length l = if r = o then (List.range r.length).map fun k => (k, k) else [] := by
  have st := levs_stable _ _ (Nat.le_refl _) ini l e
  have sub : LeOn r.length o.length l (rel0 r o) := levs_sub _ _ l (by rw [show levs r.length o.length (cells r.length o.length (rel0 r o)).length (rel0 r o) = ini ++ [l] from e]; simp)
  by_cases c : r = o
  · subst c
    rw [if_pos rfl, ← cells_eqD]
    have dg := levs_diag (n := r.length) _ (rel0 r r) (fun i _ => decide_eq_true rfl) l (by rw [show levs r.length r.length (cells r.length r.length (rel0 r r)).length (rel0 r r) = ini ++ [l] from e]; simp)
    refine cells_congr fun a b ha hb => ?_
    cases h : l a b with
    | true => rw [decide_eq_true (stable_diag st ha hb h).1]
    | false =>
      symm
      refine decide_eq_false fun z => ?_
      subst z
      rw [dg a ha] at h
      cases h
  · rw [if_neg c]
    refine List.eq_nil_iff_forall_not_mem.mpr fun p hp => ?_
    obtain ⟨h1, h2, h3⟩ := mem_cells.mp hp
    obtain ⟨_, e2, h4⟩ := stable_diag st h1 h2 h3
    exact c (getD_ext e2 fun i hi => of_decide_eq_true (sub i i hi (by omega) (h4 i hi)))
end Sh
set_option Elab.async false
set_option linter.all false
set_option maxRecDepth 100000
set_option maxHeartbeats 2000000
/-! sorted pairs of places -/
namespace Sh
open PySem PySem.Spec PyProof.Rows L2
theorem rp_cellS {K : PySem.W.Frag} {B : Hp} {v : V} {p : Nat × Nat} (h : Rp K B v (cellD p)) : ∃ a, v = .ref a ∧ B a = some (.tup [.int (p.1 : Int), .int (p.2 : Int)]) := by
  obtain ⟨a, xs, rfl, hA, hX⟩ := rp_mk (l := false) h
  refine ⟨a, rfl, ?_⟩
  cases hX with
  | cons h1 h2 =>
    cases h2 with
    | cons h2 h3 =>
      cases h3
      cases h1
      cases h2
      exact hA
/-- what stands at a pair -/
def keyOf (B : Hp) : V → Int × Int
  | .ref t => match B t with
    | some (.tup [.int a, .int b]) => (a, b)
    | _ => (0, 0)
  | _ => (0, 0)
def natP (p : Int × Int) : Nat × Nat := (p.1.toNat, p.2.toNat)
theorem v_sortC {K : PySem.W.Frag} {B H : Hp} {M : List (Addr × HO)} {Q : VK} {p : Addr} {xs : List V} {P T : List (Nat × Nat)} (hs : Hs B M H) (hx : SqL K B p xs) (hX : RpAll K B xs (P.map cellD)) (hP : P.Perm T) (hT : T.Pairwise ltN)
    (q : ∀ (v' : V) (B' H' : Hp), Le B B' → Hs B' M H' → Rp K B' v' (levD true T) → Q v' H') : rSortedPO K [.ref p] H Q := by
  have item : ∀ x ∈ xs, ∃ (t : Addr) (c : Nat × Nat), x = .ref t ∧ B t = some (.tup [.int (c.1 : Int), .int (c.2 : Int)]) := fun x hx => by
    obtain ⟨i, hi⟩ := List.getElem?_of_mem hx
    obtain ⟨d, ed, hd⟩ := hX.getV hi
    rw [List.getElem?_map] at ed
    obtain ⟨c, ec, rfl⟩ := Option.map_eq_some_iff.mp ed
    obtain ⟨t, rfl, ht⟩ := rp_cellS hd
    exact ⟨t, c, rfl, ht⟩
  have key : ∀ {t : Addr} {c : Nat × Nat}, B t = some (.tup [.int (c.1 : Int), .int (c.2 : Int)]) → keyOf B (.ref t) = ((c.1 : Int), (c.2 : Int)) := fun {t c} h => by
    show (match B t with
      | some (HO.tup [V.int a, V.int b]) => (a, b)
      | _ => (0, 0)) = _
    rw [h]
  have mapX : ∀ {xs : List V} {P : List (Nat × Nat)}, RpAll K B xs (P.map cellD) → xs.map (fun x => natP (keyOf B x)) = P := by
    intro xs P
    induction P generalizing xs with
    | nil =>
      intro h
      cases h
      rfl
    | cons c P ih =>
      intro h
      cases h with
      | cons h1 h2 =>
        obtain ⟨t, rfl, ht⟩ := rp_cellS h1
        rw [List.map_cons, ih h2, key ht]
        rfl
  refine v_sortP (keyOf B) hs (hs.l hx) (fun x hx => ?_) fun ys p' B' H' srt stb l h e => ?_
  · obtain ⟨t, c, rfl, ht⟩ := item x hx
    exact ⟨t, rfl, by rw [key ht]; exact ht⟩
  · have itemY : ∀ y ∈ ys, ∃ (t : Addr) (c : Nat × Nat), y = .ref t ∧ B t = some (.tup [.int (c.1 : Int), .int (c.2 : Int)]) := fun y hy => item y (stb.perm.mem_iff.mp hy)
    have pY : (ys.map fun x => natP (keyOf B x)).Perm T := by
      refine (stb.perm.map _).trans ?_
      rw [mapX hX]
      exact hP
    have eY : (ys.map fun x => natP (keyOf B x)) = T := by
      refine List.Perm.eq_of_pairwise (le := fun a b => a.1 < b.1 ∨ (a.1 = b.1 ∧ a.2 ≤ b.2)) (fun a b _ _ h1 h2 => ?_) ?_ (hT.imp fun h => ?_) pY
      · refine Prod.ext ?_ ?_ <;> omega
      · rw [List.pairwise_map]
        refine List.Pairwise.imp_of_mem (fun {a b} ha hb hlt => ?_) srt
        obtain ⟨t, c, rfl, ht⟩ := itemY a ha
        obtain ⟨t', c', rfl, ht'⟩ := itemY b hb
        have hlt : SrtO.lexB (keyOf B (.ref t')) (keyOf B (.ref t)) = false := hlt
        rw [key ht, key ht'] at hlt ⊢
        have hn : ¬ ((c'.1 : Int) < (c.1 : Int) ∨ ((c'.1 : Int) = (c.1 : Int) ∧ (c'.2 : Int) < (c.2 : Int))) := fun z => by
          have := SrtO.lexB_iff (p := ((c'.1 : Int), (c'.2 : Int))) (q := ((c.1 : Int), (c.2 : Int))) |>.mpr z
          rw [hlt] at this
          cases this
        show (c.1 : Int).toNat < (c'.1 : Int).toNat ∨ ((c.1 : Int).toNat = (c'.1 : Int).toNat ∧ (c.2 : Int).toNat ≤ (c'.2 : Int).toNat)
        omega
      · rcases h with h | h
        · exact .inl h
        · exact .inr ⟨h.1, Nat.le_of_lt h.2⟩
    refine q _ B' H' l h (.lst (SqL.of e) ?_)
    have all : ∀ zs : List V, (∀ y ∈ zs, ∃ (t : Addr) (c : Nat × Nat), y = .ref t ∧ B t = some (.tup [.int (c.1 : Int), .int (c.2 : Int)])) → RpAll K B' zs ((zs.map fun x => natP (keyOf B x)).map cellD) := by
      intro zs
      induction zs with
      | nil => intro _; exact .nil
      | cons z zs ih =>
        intro hz
        obtain ⟨t, c, rfl, ht⟩ := hz z (by simp)
        rw [List.map_cons, List.map_cons, key ht]
        exact .cons (.tup (l _ _ ht) (.cons (.int _) (.cons (.int _) .nil))) (ih fun y hy => hz y (by simp [hy]))
    have := all ys itemY
    rw [eY] at this
    exact this
end Sh
set_option Elab.async false
set_option linter.all false
set_option maxRecDepth 100000
set_option maxHeartbeats 8000000
namespace K52
open PySem PySem.Spec PyProof.Rows L2 Sh
open SX (S)
local macro_rules | `(tactic| walk_at "v1") => `(tactic| first
  | with_reducible refine v_seq ?_ | with_reducible refine v_asg ?_ | ((with_reducible refine' v_name ?e ?_); (case e => exact rfl)) | with_reducible refine v_ret ?_ | with_reducible refine v_drop ?_ | with_reducible refine v_next ?_
  | with_reducible refine v_if ?_ | with_reducible refine v_op ?_ | with_reducible refine v_c ?_ | ((with_reducible refine' v_var ?e ?_); (case e => exact rfl))
  | with_reducible refine v_I0 ?_ | with_reducible refine v_test ?_ | with_reducible refine v_B ?_ | with_reducible refine v_bl ?_ | with_reducible refine v_not ?_ | with_reducible refine v_and ?_ | with_reducible refine v_or ?_
  | with_reducible refine v_andV ?_ | with_reducible refine v_orV ?_ | with_reducible refine v_notV ?_ | with_reducible refine v_ife ?_
  | with_reducible refine v_nil ?_ | with_reducible refine v_cons ?_ | with_reducible refine v_tup ?_ | with_reducible refine v_lst ?_ | with_reducible refine v_call ?_ | with_reducible refine v_cb ?_ | with_reducible refine v_int ?_ | with_reducible refine v_abs ?_
  | ((with_reducible refine' v_eq ?e ?_); (case e => exact rfl)) | ((with_reducible refine' v_ne ?e ?_); (case e => exact rfl)) | with_reducible refine v_sub ?_ | with_reducible refine v_isN ?_ | with_reducible refine v_notN ?_
  | with_reducible refine v_part ?_ | with_reducible refine v_nopart ?_ | with_reducible refine v_pint ?_ | with_reducible refine v_inSg ?_ | with_reducible refine v_notInSg ?_
  | ((with_reducible refine' v_ixL ?l ?a ?_); (case l => assumption); (case a => exact at_lit _ rfl)) | ((with_reducible refine' v_ixT ?l ?a ?_); (case l => assumption); (case a => exact at_lit _ rfl))
  | ((with_reducible refine v_I ?c ?_); (case c => (first | omega | (unfold CMul; omega) | (unfold CDivN; omega) | (unfold CPow; omega))))
  | with_reducible refine v_for ?_ | with_reducible refine v_iList ?_ | with_reducible refine v_iTup ?_ | with_reducible refine v_iStr ?_ | with_reducible refine v_iR1 ?_ | with_reducible refine v_iR2 ?_ | with_reducible refine v_atS ?_ | with_reducible refine v_sl ?_ | with_reducible refine v_lc ?_ | with_reducible refine v_yes ?_
  | with_reducible refine v_m1 ?_ | with_reducible refine v_m1S ?_ | with_reducible refine v_bm ?_ | with_reducible refine v_bm0 ?_ | with_reducible refine v_dnewK ?_ | with_reducible refine v_dnewT ?_ | with_reducible refine v_dget ?_ | with_reducible refine v_din ?_ | with_reducible refine v_dnotin ?_ | with_reducible refine v_dput ?_ | with_reducible refine v_chain ?_ | with_reducible refine v_un ?_ | with_reducible refine v_neg ?_
  | with_reducible refine v_brk ?_ | with_reducible refine v_cont ?_
  | with_reducible refine v_fld ?_ | with_reducible refine v_sfld ?_ | with_reducible refine v_meth ?_ | with_reducible refine v_methT ?_ | with_reducible refine v_make ?_ | with_reducible refine v_makeT ?_ | with_reducible refine v_dget2 ?_ | with_reducible refine v_enumS ?_ | with_reducible refine v_enumQ ?_ | with_reducible refine v_lc2 ?_ | with_reducible refine v_isB ?_ | with_reducible refine v_notB ?_ | with_reducible refine v_lstRg2 ?_ | with_reducible refine v_lstRg3 ?_)
local macro_rules | `(tactic| walk_at "v") => `(tactic| repeat (walk_at "v1"))
local macro_rules | `(tactic| walk_at "vm") => `(tactic| repeat (first | ((with_reducible refine v_modP ?c ?_); (case c => omega); (intro _ _ _)) | walk_at "v1"))
local macro_rules | `(tactic| walk_at "iv") => `(tactic| (try dsimp only; refine IV.mk (by assumption) (by assumption) ?_))
local macro_rules | `(tactic| walk_at "n") => `(tactic| dsimp only [List.set_cons_zero, List.set_cons_succ])
def rSindex (x : V) (xs : List V) (H : Hp) (Q : VK) : Prop := ∃ a b i rest, x = .str a ∧ xs = [.str b] ∧ Builtin.Str.occurrences a b 0 a.length 1 = i :: rest ∧ Q (.int (i : Nat)) H
theorem atI_end {xs : List V} {n : Nat} {c : V} (hl : xs.length = n + 1) (h : xs[n]? = some c) : atI xs (-1) = some c := by
  have e : ixN xs.length (-1) = some n := by
    unfold ixN
    rw [if_neg (by decide), if_pos (by omega)]
    congr 1
    omega
  unfold atI
  rw [e]
  exact h
theorem cut_m1 (xs : List V) : cutV xs none (some (-1)) = xs.dropLast := by
  unfold cutV
  rw [HT.sIx_none, List.drop_zero, Nat.sub_zero, List.dropLast_eq_take]
  congr 1
  show (if (-1 : Int) < 0 then (-1 + (xs.length : Int)).toNat else min (-1 : Int).toNat xs.length) = _
  rw [if_pos (by decide)]
  omega
theorem lev_has (l : Bool) : ∀ L : List (Nat × Nat), hasD (levD l L) = false := fun L => by
  have h : hasD.hasDs (L.map cellD) = false := by
    induction L with
    | nil => rfl
    | cons p L ih => show (hasD (cellD p) || hasD.hasDs (L.map cellD)) = false; rw [ih]; rfl
  cases l
  · exact h
  · exact h
theorem lev_depth (l : Bool) (L : List (Nat × Nat)) : (levD l L).depth ≤ 64 := by
  have c1 : ∀ p : Nat × Nat, (cellD p).depth ≤ 1 := fun p => by
    show (PyData.tuple _).depth ≤ 1
    simp only [PyData.depth, PyData.depthAll]
    decide
  have h : PyData.depthAll (L.map cellD) ≤ 1 := by
    induction L with
    | nil => simp only [List.map_nil, PyData.depthAll]; exact Nat.zero_le _
    | cons p L ih =>
      rw [List.map_cons]
      simp only [PyData.depthAll]
      exact Nat.max_le.mpr ⟨c1 p, ih⟩
  cases l
  · show (PyData.tuple _).depth ≤ 64
    simp only [PyData.depth]
    omega
  · show (PyData.list _).depth ≤ 64
    simp only [PyData.depth]
    omega
/-- the last level of those that are told -/
theorem full_last {K : PySem.W.Frag} {B : Hp} {xs : List V} {fs : List Rel} {n m : Nat} {ini : List Rel} {l : Rel} (hX : RpAll K B xs (fs.map fun f => levD true (cells n m f))) (e : fs = ini ++ [l]) : ∃ x, atI xs (-1) = some x ∧ Rp K B x (levD true (cells n m l)) := by
  subst e
  obtain ⟨x, ex, hx⟩ := hX.get (i := ini.length) (d := levD true (cells n m l)) (by
    rw [List.getElem?_map, List.getElem?_append_right (Nat.le_refl _), Nat.sub_self]
    rfl)
  exact ⟨x, atI_end (by rw [hX.length, List.length_map, List.length_append]; rfl) ex, hx⟩
theorem levels_snoc (n m : Nat) (f : Rel) : ∃ ini l, levels n m f = ini ++ [l] := by
  rcases snoc_or (levels n m f) with h | h
  · obtain ⟨r, e⟩ := levels_ne n m f
    rw [h] at e
    cases e
  · exact h
/-! ### _law_ends_well -/
def sp_ends_well (K : PySem.W.Frag) : Sp := fun vs H Q _ => ∃ (B : Hp) (M : List (Addr × HO)) (r o : List Nat) (v : V), vs = [.str (S r), .str (S o), v] ∧ Hs B M H ∧ r.length ≤ 12 ∧ o.length ≤ 12 ∧ Rp K B v (fullD r.length o.length (levels r.length o.length (rel0 r o))) ∧
  ∀ (B' H' : Hp), Le B B' → Hs B' M H' → Q (.bl true) H'
def t_ends_well (K : PySem.W.Frag) : TS := (tSeq (tIfS (tTest (tOp rEq (tVar 0) (tVar 1))) (tRet (tOp (rEqP K) (tOp (rIxL K) (tVar 2) (tUn (rU fun i => .int (-i)) (tC (.int 1)))) (tLc (iRng1 (tCons (tCB (rCLen K) (tCons (tVar 0) tNil)) tNil)) (gName 3) tYes (tTup (tCons (tVar 3) (tCons (tVar 3) tNil))) [3]))) tNext)
    (tRet (tOp (rEqP K) (tOp (rIxL K) (tVar 2) (tUn (rU fun i => .int (-i)) (tC (.int 1)))) (tLst tNil))))
theorem pure_ends_well {K : PySem.W.Frag} (vs : List V) (H : Hp) (Q : VK) (E : XK) (h : sp_ends_well K vs H Q E) : t_ends_well K { nx := fun _ H' => Q .non H', rt := Q } (start n_ends_well vs) H := by
  obtain ⟨B, M, r, o, v, rfl, hs, r12, o12, hv, q⟩ := h
  obtain ⟨a, xs, rfl, hA, hX⟩ := rp_mk (l := true) hv
  obtain ⟨ini, l, e⟩ := levels_snoc r.length o.length (rel0 r o)
  obtain ⟨x, ex, hx⟩ := full_last hX e
  have en := ends e
  show t_ends_well K _ [some (V.str (S r)), some (V.str (S o)), some (V.ref a), none] H
  unfold t_ends_well
  walk_at "v"
  by_cases c : r = o
  · subst c
    rw [if_pos rfl] at en
    rw [en] at hx
    refine iteT' (decide_eq_true rfl) ?_
    walk_at "v"
    refine v_ixL (hs.l hA) ex ?_
    walk_at "v"
    refine v_lenS (by rw [S_length]; exact sz_of (by omega)) ?_
    walk_at "v"
    rw [S_length]
    refine v_atR1 (by omega) ?_
    rw [Int.toNat_natCast]
    refine v_lcR hs (fun i acc B' M' => M' = M ∧ RpAll K B' acc (((List.range i).map fun k => (k, k)).map cellD)) ⟨rfl, .nil⟩ ?_ ?_
    · rintro i p acc B1 M' H1 hi ha l1 h1 ⟨rfl, hacc⟩
      walk_at "v"
      refine ⟨rfl, ?_⟩
      walk_at "v"
      refine iteT' rfl ?_
      walk_at "v"
      refine v_size (xs := [V.int (0 + (i : Int)), V.int (0 + (i : Int))]) (by show 2 ≤ sizeLine; decide) (v_newB h1 fun tp B2 H2 l2 h2 e2 => ?_)
      rw [show (0 : Int) + (i : Int) = (i : Int) by omega] at e2
      refine IE.mk ha hi (by omega) (l1.trans l2) h2 ⟨rfl, ?_⟩
      rw [range_succ_map, List.map_append]
      exact (hacc.up l2).append (.one (.tup e2 (.cons (.int _) (.cons (.int _) .nil))))
    · rintro p acc B1 M' H1 ha l1 h1 ⟨rfl, hacc⟩
      obtain ⟨h2, l2⟩ := h1.fix
      refine v_eqP (d := levD true ((List.range r.length).map fun k => (k, k))) h2 (hx.up (l1.trans l2)) (.lst (SqL.of upd_same) (hacc.up l2)) (lev_has _ _) (lev_depth _ _) ?_
      exact q _ _ (l1.trans l2) h2
  · rw [if_neg c] at en
    rw [en] at hx
    refine iteF' (decide_eq_false fun z => c ?_) ?_
    · injection z with z
      exact SX.S_inj z
    walk_at "v"
    refine v_ixL (hs.l hA) ex ?_
    walk_at "v"
    refine v_size (xs := []) (by show 0 ≤ sizeLine; decide) (v_newB hs fun p B1 H1 l1 h1 e1 => ?_)
    exact v_eqP (d := levD true []) h1 (hx.up l1) (.lst (SqL.of e1) .nil) rfl (lev_depth _ _) (q _ _ l1 h1)
/-! ### judging -/
theorem item_cell {r o : List Nat} {p : Nat × Nat} (h1 : p.1 < r.length) (h2 : p.2 < o.length) (h3 : rel0 r o p.1 p.2 = true) : itemD r o (cellD p) = some p := by
  have h3 := of_decide_eq_true h3
  show (if isIntIn 0 ((r.length : Int) - 1) (.int (p.1 : Int)) = true ∧ isIntIn 0 ((o.length : Int) - 1) (.int (p.2 : Int)) = true ∧ r.getD (natD (.int (p.1 : Int))) 0 = o.getD (natD (.int (p.2 : Int))) 0 then some (natD (.int (p.1 : Int)), natD (.int (p.2 : Int))) else none) = some p
  rw [if_pos ⟨isInt_of h1, isInt_of h2, h3⟩]
  rfl
theorem lev_items {r o : List Nat} {l : Bool} {L : List (Nat × Nat)} (h : ∀ p ∈ L, p.1 < r.length ∧ p.2 < o.length ∧ rel0 r o p.1 p.2 = true) : levItems r o (levD l L) = some L := by
  have e : levItems r o (levD l L) = if ((L.map cellD).all fun d => (itemD r o d).isSome) = true then some ((L.map cellD).filterMap (itemD r o)) else none := by
    unfold levItems
    cases l <;> rfl
  have it : ∀ p ∈ L, itemD r o (cellD p) = some p := fun p hp => item_cell (h p hp).1 (h p hp).2.1 (h p hp).2.2
  rw [e, if_pos]
  · congr 1
    clear e h
    induction L with
    | nil => rfl
    | cons p L ih => rw [List.map_cons, List.filterMap_cons, it p (by simp), ih fun q hq => it q (by simp [hq])]
  · rw [List.all_eq_true]
    intro d hd
    obtain ⟨p, hp, rfl⟩ := List.mem_map.mp hd
    rw [it p hp]
    rfl
theorem cells_ok {r o : List Nat} {f : Rel} (h : LeOn r.length o.length f (rel0 r o)) : ∀ p ∈ cells r.length o.length f, p.1 < r.length ∧ p.2 < o.length ∧ rel0 r o p.1 p.2 = true := fun p hp => by
  obtain ⟨h1, h2, h3⟩ := mem_cells.mp hp
  exact ⟨h1, h2, h _ _ h1 h2 h3⟩
theorem relOf_cells {n m : Nat} {f : Rel} : EqOn n m (relOf (cells n m f)) f := fun a b ha hb => by
  unfold relOf
  cases h : f a b with
  | true => exact decide_eq_true (mem_cells.mpr ⟨ha, hb, h⟩)
  | false => exact decide_eq_false fun z => by have := (mem_cells.mp z).2.2; rw [h] at this; cases this
theorem judge_good {r o : List Nat} : ∀ (t : Nat) (f : Rel) (ah : Option (List (Nat × Nat))), LeOn r.length o.length f (rel0 r o) → (∀ A, ah = some A → answB r.length o.length (relOf (cells r.length o.length f)) (relOf A) = true) →
    judgeGo r o ah ((levs r.length o.length t f).map fun g => levD false (cells r.length o.length g)) = true := by
  have one : ∀ (f : Rel) (ah : Option (List (Nat × Nat))) (ds : List PyData), LeOn r.length o.length f (rel0 r o) → (∀ A, ah = some A → answB r.length o.length (relOf (cells r.length o.length f)) (relOf A) = true) →
      judgeGo r o (some (cells r.length o.length f)) ds = true → judgeGo r o ah (levD false (cells r.length o.length f) :: ds) = true := by
    intro f ah ds hf hA hd
    unfold judgeGo
    rw [lev_items (cells_ok hf)]
    cases ah with
    | none => exact hd
    | some A =>
      show (answB _ _ _ _ && _) = true
      rw [hA A rfl, hd]
      rfl
  intro t
  induction t with
  | zero =>
    intro f ah hf hA
    exact one f ah [] hf hA (by unfold judgeGo; rfl)
  | succ t ih =>
    intro f ah hf hA
    unfold levs
    split
    · exact one f ah [] hf hA (by unfold judgeGo; rfl)
    · rw [List.map_cons]
      refine one f ah _ hf hA (ih _ _ (fun a b ha hb z => hf a b ha hb (next_leOn _ _ f a b ha hb z)) fun A e => ?_)
      cases e
      unfold answB
      rw [List.all_eq_true]
      intro p hp
      obtain ⟨h1, h2, h3⟩ := mem_cells.mp hp
      rw [relOf_cells _ _ h1 h2] at h3
      have h3 : (f p.1 p.2 && stays r.length o.length f p.1 p.2) = true := h3
      rw [Bool.and_eq_true] at h3
      rw [stays_congr relOf_cells h1 h2]
      exact h3.2
theorem judge_bad {r o : List Nat} {d1 d2 : PyData} {L1 L2 : List (Nat × Nat)} (h1 : levItems r o d1 = some L1) (h2 : levItems r o d2 = some L2) (h3 : answB r.length o.length (relOf L2) (relOf L1) = false) : ∀ (ds : List PyData) (ah : Option (List (Nat × Nat))), judgeGo r o ah (ds ++ [d1, d2]) = false
  | [], ah => by
    show judgeGo r o ah [d1, d2] = false
    rw [judgeGo.eq_def]
    simp only [h1]
    rw [Bool.and_eq_false_iff]
    refine .inr ?_
    rw [judgeGo.eq_def]
    simp only [h2]
    rw [h3, Bool.false_and]
  | d :: ds, ah => by
    show judgeGo r o ah (d :: (ds ++ [d1, d2])) = false
    rw [judgeGo.eq_def]
    dsimp only
    cases levItems r o d with
    | none => rfl
    | some L =>
      rw [Bool.and_eq_false_iff]
      exact .inr (judge_bad h1 h2 h3 ds (some L))
theorem judge_levels_good (r o : List Nat) : judgeD r o (levsD r.length o.length (levels r.length o.length (rel0 r o))) = true := judge_good _ _ none (fun _ _ _ _ z => z) fun A e => nomatch e
theorem judge_more {r o : List Nat} {ini : List Rel} {l : Rel} (e : levels r.length o.length (rel0 r o) = ini ++ [l]) {p : Nat × Nat} (hp : p ∈ cells r.length o.length (rel0 r o)) (hn : p ∉ cells r.length o.length l) :
    judgeD r o (.tuple ((ini.map fun g => levD false (cells r.length o.length g)) ++ [levD false (cells r.length o.length l ++ [p])])) = false := by
  obtain ⟨p1, p2, p3⟩ := mem_cells.mp hp
  have hl : l p.1 p.2 = false := Bool.eq_false_iff.mpr fun z => hn (mem_cells.mpr ⟨p1, p2, z⟩)
  obtain ⟨ini', g, rfl, hs, hg⟩ := levs_last _ (rel0 r o) p.1 p.2 p1 p2 p3 ini l e hl
  have lsub : LeOn r.length o.length l (rel0 r o) := levs_sub _ _ l (by rw [show levs r.length o.length (cells r.length o.length (rel0 r o)).length (rel0 r o) = (ini' ++ [g]) ++ [l] from e]; simp)
  rw [List.map_append, List.append_assoc]
  show judgeGo r o none _ = false
  refine judge_bad (L1 := cells r.length o.length g) (L2 := cells r.length o.length l ++ [p]) (lev_items (cells_ok hg)) (lev_items fun q hq => ?_) ?_ _ none
  · rcases List.mem_append.mp hq with hq | hq
    · exact cells_ok lsub q hq
    · rw [List.mem_singleton.mp hq]
      exact ⟨p1, p2, p3⟩
  · unfold answB
    rw [List.all_eq_false]
    refine ⟨p, mem_cells.mpr ⟨p1, p2, ?_⟩, ?_⟩
    · unfold relOf
      exact decide_eq_true (by simp)
    · rw [stays_congr relOf_cells p1 p2, hs]
      exact Bool.false_ne_true
section
variable {P : Program} {w : World} {K : PySem.W.Frag} {mg : Str → Option Value} {base : Heap}
/-! ### _law_one_more -/
def sp_one_more (T : Txt K mg w) : Sp := fun vs H Q _ => ∃ (B : Hp) (M : List (Addr × HO)) (a : Addr) (d sd c : Int) (al r o : List Nat) (v : V), vs = [.ref a, .str (S al), .str (S r), .str (S o), v] ∧ Hs B ((a, SrcO d sd c) :: M) H ∧ AlOk al ∧ r.length ≤ 12 ∧ o.length ≤ 12 ∧ (∀ x ∈ r, x ∈ al) ∧ (∀ x ∈ o, x ∈ al) ∧ Rp K B v (fullD r.length o.length (levels r.length o.length (rel0 r o))) ∧
  ∀ (d' c' : Int) (B' H' : Hp), Le B B' → Hs B' ((a, SrcO d' sd c') :: M) H' → Q (.bl true) H'
def t_one_more (T : Txt K mg w) : TS := (tSeq (tAsg tDNewT (gName 5))
    (tSeq (tFor (iList K (tOp (rIxL K) (tVar 4) (tUn (rU fun i => .int (-i)) (tC (.int 1))))) (gName 6) (sDPut (tVar 5) (tVar 6) (tC (.bl true))))
    (tSeq (tAsg (tLc (iList K (tOp (rIxL K) (tVar 4) (tC (.int 0)))) (gName 6) (tB (tDNotIn (tVar 6) (tVar 5))) (tVar 6) [6]) (gName 7))
    (tSeq (tIfS (tTest (tOp rEq (tCB (rCLen K) (tCons (tVar 7) tNil)) (tC (.int 0)))) (tRet (tC (.bl true))) tNext)
    (tSeq (tAsg (tOp (rIxL K) (tVar 7) (tCall (sp_pick K) [] E0 (tCons (tVar 0) (tCons (tCB (rCLen K) (tCons (tVar 7) tNil)) tNil)))) (gName 6))
    (tSeq (tAsg (tOp (rCatA K) (tCB (rCTup K) (tCons (tLc (iList K (tSl (rSlL K) (tVar 4) tNoPart (tPart (tUn (rU fun i => .int (-i)) (tC (.int 1)))))) (gName 9) tYes (tCB (rCTup K) (tCons (tVar 9) tNil)) [9]) tNil)) (tTup (tCons (tOp (rCatA K) (tCB (rCTup K) (tCons (tOp (rIxL K) (tVar 4) (tUn (rU fun i => .int (-i)) (tC (.int 1)))) tNil)) (tTup (tCons (tVar 6) tNil))) tNil))) (gName 8))
    (tRet (tOp rIsB (tCall (sp_p_judge_levels T) [] E0 (tCons (tVar 1) (tCons (tVar 2) (tCons (tVar 3) (tCons (tVar 8) tNil))))) (tC (.bl false))))))))))
theorem check_ok {al r o : List Nat} (ha : AlOk al) (r12 : r.length ≤ 12) (o12 : o.length ≤ 12) (hr : ∀ x ∈ r, x ∈ al) (ho : ∀ x ∈ o, x ∈ al) : CheckD (.str (S al)) (.str (S r)) (.str (S o)) .ok := ⟨al, r, o, rfl, ha.alpha, rfl, rfl, ⟨r, rfl, by omega, hr⟩, ⟨o, rfl, by omega, ho⟩, r12, o12⟩
theorem pure_one_more (T : Txt K mg w) (vs : List V) (H : Hp) (Q : VK) (E : XK) (h : sp_one_more T vs H Q E) : t_one_more T { nx := fun _ H' => Q .non H', rt := Q } (start n_one_more vs) H := by
  obtain ⟨B, M, a, d, sd, c, al, r, o, v, rfl, hs, ha, r12, o12, hr, ho, hv, q⟩ := h
  obtain ⟨fa, xs, rfl, hF, hX⟩ := rp_mk (l := true) hv
  obtain ⟨ini, l, e⟩ := levels_snoc r.length o.length (rel0 r o)
  obtain ⟨x, ex, hx⟩ := full_last hX e
  obtain ⟨la, us, rfl, hL, hU⟩ := rp_mk (l := true) hx
  obtain ⟨b1, b2⟩ := lev_bounds (rel0 r o) r12 o12
  have lb : (cells r.length o.length l).length ≤ 144 := b2 l (by rw [e]; simp)
  have ul : us.length = (cells r.length o.length l).length := by rw [hU.length, List.length_map]
  obtain ⟨rest, e0⟩ := levels_ne r.length o.length (rel0 r o)
  obtain ⟨y, ey, hy⟩ := hX.get (i := 0) (d := levD true (cells r.length o.length (rel0 r o))) (by rw [e0]; rfl)
  obtain ⟨ya, ws, rfl, hY, hW⟩ := rp_mk (l := true) hy
  have cb : (cells r.length o.length (rel0 r o)).length ≤ 144 := b2 (rel0 r o) (by rw [e0]; simp)
  show t_one_more T _ [some (V.ref a), some (V.str (S al)), some (V.str (S r)), some (V.str (S o)), some (V.ref fa), none, none, none, none, none] H
  unfold t_one_more
  walk_at "v"
  refine v_newM hs fun ld H1 h1 => ?_
  walk_at "v"
  refine v_ixL (v := .ref la) (h1.l hF) ex (v_atL (h1.l hL) (v_forL hL h1 (fun i σ' B' M' => ∃ (kvs : List (List Key × V)) (y6 : Option V), M' = (ld, .dT kvs) :: (a, SrcO d sd c) :: M ∧ NearD kvs (fun k j => decide ((k, j) ∈ (cells r.length o.length l).take i)) ∧ kvs.length ≤ i ∧
    σ' = [some (V.ref a), some (V.str (S al)), some (V.str (S r)), some (V.str (S o)), some (V.ref fa), some (V.ref ld), y6, none, none, none]) ⟨[], none, rfl, fun k j => by simp [valV], Nat.le_refl _, rfl⟩ ?_ ?_))
  · rintro i x σ' B2 M' H2 hi hx l2 h2 ⟨kvs, y6, rfl, hn, lk, rfl⟩
    obtain ⟨d, ed, hd⟩ := hU.getV hx
    rw [List.getElem?_map] at ed
    obtain ⟨p, ep, rfl⟩ := Option.map_eq_some_iff.mp ed
    obtain ⟨za, rfl, hza⟩ := rp_cell hd
    walk_at "v"
    refine v_dputTI (k := pairK p.1 p.2) h2 0 rfl (l2 _ _ hza) (by omega) fun H3 h3 => ?_
    try dsimp only
    refine IV.mk l2 h3 ⟨_, _, rfl, fun k j => ?_, Nat.le_trans (length_putK _ _ _) (by omega), rfl⟩
    rw [near_put hn p.1 p.2 _ k j]
    show (decide ((k, j) ∈ (cells r.length o.length l).take i) || decide ((k, j) = (p.1, p.2))) = decide ((k, j) ∈ (cells r.length o.length l).take (i + 1))
    rw [List.take_add_one, ep]
    by_cases eq : (k, j) = p
    · rw [decide_eq_true (show (k, j) = (p.1, p.2) from eq), Bool.or_true, decide_eq_true (by rw [eq]; simp)]
    · rw [decide_eq_false (show ¬ (k, j) = (p.1, p.2) from eq), Bool.or_false]
      simp [eq]
  · rintro σ' B2 M' H2 l2 h2 ⟨kvs, y6, rfl, hn, lk, rfl⟩
    rw [ul, List.take_length] at hn
    obtain ⟨h3, l3⟩ := h2.fix
    generalize hB3 : upd B2 ld (.dT kvs) = B3 at h3 l3
    have eD : B3 ld = some (.dT kvs) := by rw [← hB3]; exact upd_same
    have l23 := l2.trans l3
    walk_at "v"
    refine v_ixL (v := .ref ya) (h3.l (le_l l23 hF)) (atI_nat ey) ?_
    refine v_atL (h3.l (le_l l23 hY)) (v_lcL (le_l l23 hY) h3 (fun i acc B' M' => M' = (a, SrcO d sd c) :: M ∧ RpAll K B' acc ((((cells r.length o.length (rel0 r o)).take i).filter fun p => !decide (p ∈ cells r.length o.length l)).map cellD)) ⟨rfl, .nil⟩ ?_ ?_)
    · rintro i x p acc B4 M' H4 hi hx hacl l4 h4 ⟨rfl, hacc⟩
      obtain ⟨d', ed, hd⟩ := hW.getV hx
      rw [List.getElem?_map] at ed
      obtain ⟨p', ep, rfl⟩ := Option.map_eq_some_iff.mp ed
      obtain ⟨za, rfl, hza⟩ := rp_cell hd
      walk_at "v"
      refine ⟨rfl, ?_⟩
      walk_at "v"
      refine v_dninT (k := pairK p'.1 p'.2) (h4.sub _ _ (l4 _ _ eD)) (h4.sub _ _ (l4 _ _ (l23 _ _ hza))) ?_
      rw [hn p'.1 p'.2]
      walk_at "v"
      have ts : ((cells r.length o.length (rel0 r o)).take (i + 1)).filter (fun p => !decide (p ∈ cells r.length o.length l)) = ((cells r.length o.length (rel0 r o)).take i).filter (fun p => !decide (p ∈ cells r.length o.length l)) ++ if (!decide (p' ∈ cells r.length o.length l)) = true then [p'] else [] := by
        rw [List.take_add_one, ep, List.filter_append]
        show _ ++ List.filter _ [p'] = _
        rw [List.filter_cons, List.filter_nil]
      refine ite2 (fun c0 => ?_) (fun c0 => ?_)
      · walk_at "v"
        refine IE.mk hacl hi (by rw [hW.length, List.length_map]; omega) l4 h4 ⟨rfl, ?_⟩
        rw [ts, if_pos c0, List.map_append]
        exact hacc.append (.one (hd.up (l23.trans l4)))
      · refine IP.mk (by omega) l4 h4 ⟨rfl, ?_⟩
        rw [ts, if_neg c0, List.append_nil]
        exact hacc
    · rintro mp acc B4 M' H4 hacl l4 h4 ⟨rfl, hacc⟩
      rw [show ws.length = (cells r.length o.length (rel0 r o)).length by rw [hW.length, List.length_map]] at hacc hacl
      rw [List.take_length] at hacc
      have mem : ∀ p ∈ (cells r.length o.length (rel0 r o)).filter (fun p => !decide (p ∈ cells r.length o.length l)), p ∈ cells r.length o.length (rel0 r o) ∧ p ∉ cells r.length o.length l := fun p hp => by
        rw [List.mem_filter] at hp
        exact ⟨hp.1, fun z => by rw [decide_eq_true z] at hp; cases hp.2⟩
      generalize (cells r.length o.length (rel0 r o)).filter (fun p => !decide (p ∈ cells r.length o.length l)) = more at hacc mem
      obtain ⟨h5, l5⟩ := h4.fix
      generalize hB5 : upd B4 mp (.lst acc) = B5 at h5 l5
      have eM : SqL K B5 mp acc := by rw [← hB5]; exact SqL.of upd_same
      have l25 := l23.trans (l4.trans l5)
      walk_at "v"
      refine v_lenL (h5.l eM) ?_
      walk_at "v"
      refine ite2 (fun c0 => ?_) (fun c0 => ?_)
      · walk_at "v"
        exact q d c B5 H4 l25 h5
      · have ml : 0 < acc.length := Nat.pos_of_ne_zero fun z => c0 (decide_eq_true (by rw [z]; rfl))
        walk_at "v"
        refine v_lenL (h5.l eM) ?_
        walk_at "v"
        refine v_pick h5 (by omega) (by omega) fun k d1 c1 H6 k0 k1 h6 => ?_
        obtain ⟨z, ez⟩ : ∃ z, acc[k.toNat]? = some z := ⟨_, List.getElem?_eq_getElem (show k.toNat < acc.length by omega)⟩
        obtain ⟨dz, edz, hz⟩ := hacc.getV ez
        rw [List.getElem?_map] at edz
        obtain ⟨p, ep, rfl⟩ := Option.map_eq_some_iff.mp edz
        obtain ⟨pc, pn⟩ := mem p (List.mem_of_getElem? ep)
        have hz5 := hz.up l5
        refine v_ixL (h6.l eM) (at_k k0 ez) ?_
        walk_at "v"
        refine v_slL (h6.l (le_l l25 hF)) (v_newB h6 fun sp B7 H7 l7 h7 e7 => ?_)
        rw [cut_m1] at e7
        have hXd : RpAll K B7 xs.dropLast (ini.map fun f => levD true (cells r.length o.length f)) := by
          have := (hX.up (l25.trans l7)).take (xs.length - 1)
          have xlen : xs.length = ini.length + 1 := by rw [hX.length, List.length_map, e, List.length_append]; rfl
          have ed : ((levels r.length o.length (rel0 r o)).map fun f => levD true (cells r.length o.length f)).take (xs.length - 1) = ini.map fun f => levD true (cells r.length o.length f) := by
            rw [xlen, e, List.map_append, Nat.add_sub_cancel, List.take_append_of_le_length (by rw [List.length_map]; exact Nat.le_refl _), List.take_of_length_le (by rw [List.length_map]; exact Nat.le_refl _)]
          rw [ed] at this
          rw [List.dropLast_eq_take]
          exact this
        refine v_atL (h7.l (SqL.of e7)) (v_lcL (SqL.of e7) h7 (fun i acc B' M' => M' = (a, SrcO d1 sd c1) :: M ∧ RpAll K B' acc ((ini.take i).map fun f => levD false (cells r.length o.length f))) ⟨rfl, .nil⟩ ?_ ?_)
        · rintro i x p' acc' B8 M' H8 hi hx hacl' l8 h8 ⟨rfl, hacc'⟩
          obtain ⟨d', ed, hd⟩ := hXd.getV hx
          rw [List.getElem?_map] at ed
          obtain ⟨f, ef, rfl⟩ := Option.map_eq_some_iff.mp ed
          obtain ⟨fx, fs, rfl, hfx, hfs⟩ := rp_mk (l := true) hd
          walk_at "v"
          refine ⟨rfl, ?_⟩
          walk_at "v"
          refine iteT' rfl ?_
          walk_at "v"
          refine v_tupX (l := true) h8 (le_l l8 hfx) fun tp B9 H9 l9 h9 e9 => ?_
          refine IE.mk hacl' hi (by rw [hXd.length, List.length_map]; have : ini.length ≤ 145 := by rw [e, List.length_append] at b1; omega
                                    omega) (l8.trans l9) h9 ⟨rfl, ?_⟩
          rw [List.take_add_one, ef, List.map_append]
          exact (hacc'.up l9).append (.one (.tup e9 (hfs.up (l8.trans l9))))
        · rintro tp acc' B8 M' H8 hacl' l8 h8 ⟨rfl, hacc'⟩
          rw [hXd.length, List.length_map, List.take_length] at hacc'
          obtain ⟨h9, l9⟩ := h8.fix
          walk_at "v"
          refine v_tupX (l := true) h9 (SqL.of upd_same) fun t1 B10 H10 l10 h10 e10 => ?_
          walk_at "v"
          have l210 := l25.trans (l7.trans (l8.trans (l9.trans l10)))
          refine v_ixL (v := .ref la) (h10.l (le_l l210 hF)) ex ?_
          walk_at "v"
          refine v_tupX (l := true) h10 (le_l l210 hL) fun t2 B11 H11 l11 h11 e11 => ?_
          walk_at "v"
          refine v_size (xs := [z]) (by show 1 ≤ sizeLine; decide) (v_newB h11 fun t3 B12 H12 l12 h12 e12 => ?_)
          refine v_catAB h12 (l12 _ _ e11) e12 (sz_of (by rw [ul]; show _ + 1 ≤ _; omega)) fun t4 B13 H13 l13 h13 e13 => ?_
          walk_at "v"
          refine v_size (xs := [V.ref t4]) (by show 1 ≤ sizeLine; decide) (v_newB h13 fun t5 B14 H14 l14 h14 e14 => ?_)
          have l1114 := l11.trans (l12.trans (l13.trans l14))
          have ail : acc'.length = ini.length := by rw [hacc'.length, List.length_map]
          have inl : ini.length ≤ 145 := by rw [e, List.length_append] at b1; omega
          refine v_catAB h14 (l1114 _ _ e10) e14 (sz_of (by rw [ail]; show _ + 1 ≤ _; omega)) fun t6 B15 H15 l15 h15 e15 => ?_
          walk_at "v"
          have l515 := l7.trans (l8.trans (l9.trans (l10.trans (l1114.trans l15))))
          have hdat : Rp K B15 (.ref t6) (.tuple ((ini.map fun g => levD false (cells r.length o.length g)) ++ [levD false (cells r.length o.length l ++ [p])])) := by
            refine .tup e15 ((hacc'.up (l9.trans (l10.trans (l1114.trans l15)))).append (.one (.tup (l15 _ _ (l14 _ _ e13)) ?_)))
            rw [List.map_append]
            exact (hU.up (l25.trans l515)).append (.one (hz5.up l515))
          refine ⟨B15, _, .str (S al), .str (S r), .str (S o), .ref t6, _, _, _, _, .ok, rfl, h15, .str _, .str _, .str _, hdat, shortS_S (by have := ha.l4; omega), shortS_S (by omega), shortS_S (by omega), check_ok ha r12 o12 hr ho, fun _ al' r' o' B16 H16 e1 e2 e3 l16 h16 => ?_, fun z => absurd rfl z⟩
          have e2 := SX.S_inj (PyData.str.inj e2)
          have e3 := SX.S_inj (PyData.str.inj e3)
          subst e2 e3
          rw [judge_more e pc pn]
          walk_at "v"
          rw [decide_eq_true rfl]
          exact q d1 c1 B16 H16 (l25.trans (l515.trans l16)) h16
theorem ok_ends_well (T : Txt K mg w) : FnOk P w K mg base CX0 1 T.a_ends_well T.fd_ends_well ["_law_row", "_law_other", "_law_full"] (sp_ends_well K) := by
  refine T.F_ends_well.ok sc_ends_well (fun vs H Q E h => ?_) (fun cdv A outer s H vs Q E hr h => ⟨t_ends_well K, ?_, pure_ends_well vs H Q E h⟩)
  · obtain ⟨B, M, r, o, v, rfl, _⟩ := h
    rfl
  · exact (pss_cons (ps_if (pt_cmpR op_eq (pv 0) (pv 1) (nomark _)) (pss_one (ps_ret (pe_cmpR (op_eqP hr.units) (pe_ix ix_list (pv 2) (pe_un un_neg pe_int) (fun _ _ => rfl)) (pe_lc (own := [("_law_k", 3)]) (g := (gName 3)) (tt := tYes) rfl sc_ends_well.nd (pi_range1 (by rfl) (T.free_range) (pa_cons (pe_callB call_len (by rfl) (T.free_len) (by decide +kernel) (pa_cons (pv 0) pa_nil)) pa_nil)) (blkOk_by (own := [("_law_k", 3)]) (N := n_ends_well) (sc := defScope s_ends_well) (by decide +kernel)) (fun _ _ _ _ _ => (pg_name (i := 3) sc_ends_well.nd rfl (Or.inl rfl))) (fun _ _ _ _ _ => pts_nil) (fun _ _ _ _ _ => (pe_tup (pa_cons (pv 3) (pa_cons (pv 3) pa_nil))))) (nomark _)))) pss_nil)
      (pss_one (ps_ret (pe_cmpR (op_eqP hr.units) (pe_ix ix_list (pv 2) (pe_un un_neg pe_int) (fun _ _ => rfl)) (pe_lst pa_nil) (nomark _)))))
theorem ok_one_more (T : Txt K mg w) (TX : TxtX T P) : FnOk P w K mg base CX0 7 T.a_one_more T.fd_one_more ["_law_source_here", "_law_alphabet_here", "_law_row", "_law_other", "_law_full"] (sp_one_more T) := by
  refine T.F_one_more.ok sc_one_more (fun vs H Q E h => ?_) (fun cdv A outer s H vs Q E hr h => ⟨t_one_more T, ?_, pure_one_more T vs H Q E h⟩)
  · obtain ⟨B, M, a, d, sd, c, al, r, o, v, rfl, _⟩ := h
    rfl
  · exact (pss_cons (ps_set (i := 5) sc_one_more.nd rfl (by first | exact Or.inl rfl | exact Or.inr rfl) pe_dnewT)
      (pss_cons (ps_for PassesOwn.never rfl (pi_list (pe_ix ix_list (pv 4) (pe_un un_neg pe_int) (fun _ _ => rfl))) (pg_name (i := 6) sc_one_more.nd rfl (by first | exact Or.inl rfl | exact Or.inr rfl)) (pss_one (ps_dput (hu_of hr) (pv 5) (pv 6) pe_bl rfl)))
      (pss_cons (ps_setLc (i := 7) (own := [("_law_pair", 6)]) (g := (gName 6)) (tt := (tB (tDNotIn (tVar 6) (tVar 5)))) rfl sc_one_more.nd rfl rfl (sw_true rfl rfl rfl (by decide +kernel)) (pi_list (pe_ix ix_list (pv 4) pe_int (fun _ _ => rfl))) (blkOk_by (own := [("_law_pair", 6)]) (N := n_one_more) (sc := defScope s_one_more) (by decide +kernel)) (fun _ _ _ _ _ => (pg_name (i := 6) sc_one_more.nd rfl (Or.inl rfl))) (fun _ _ _ _ _ => (pts_one (pt_cmp (pc_dnotin (hu_of hr) (pv 6) (pv 5))))) (fun _ _ _ _ _ => (pv 6)))
      (pss_cons (ps_if (pt_cmpR op_eq (pe_callB call_len (by rfl) (T.free_len) (by decide +kernel) (pa_cons (pv 7) pa_nil)) pe_int (nomark _)) (pss_one (ps_ret pe_bl)) pss_nil)
      (pss_cons (ps_set (i := 6) sc_one_more.nd rfl (by first | exact Or.inl rfl | exact Or.inr rfl) (pe_ix ix_list (pv 7) (pe_call (ok_pick T) (hr.mono (by decide)) (by rfl) T.g_pick T.F_pick.kp T.b_pick .nil pass0 (pa_cons (pv 0) (pa_cons (pe_callB call_len (by rfl) (T.free_len) (by decide +kernel) (pa_cons (pv 7) pa_nil)) pa_nil))) (fun _ _ => rfl)))
      (pss_cons (ps_set (i := 8) sc_one_more.nd rfl (by first | exact Or.inl rfl | exact Or.inr rfl) (pe_op op_catA (pe_callTy call_tuple_of (by rfl) (T.free_tuple) (by decide +kernel) (pa_cons (pe_lc (own := [("_law_level", 9)]) (g := (gName 9)) (tt := tYes) rfl sc_one_more.nd (pi_list (pe_slice sl_list (pv 4) po_none (po_some (pe_un un_neg pe_int)))) (blkOk_by (own := [("_law_level", 9)]) (N := n_one_more) (sc := defScope s_one_more) (by decide +kernel)) (fun _ _ _ _ _ => (pg_name (i := 9) sc_one_more.nd rfl (Or.inl rfl))) (fun _ _ _ _ _ => pts_nil) (fun _ _ _ _ _ => (pe_callTy call_tuple_of (by rfl) (T.free_tuple) (by decide +kernel) (pa_cons (pv 9) pa_nil)))) pa_nil)) (pe_tup (pa_cons (pe_op op_catA (pe_callTy call_tuple_of (by rfl) (T.free_tuple) (by decide +kernel) (pa_cons (pe_ix ix_list (pv 4) (pe_un un_neg pe_int) (fun _ _ => rfl)) pa_nil)) (pe_tup (pa_cons (pv 6) pa_nil))) pa_nil))))
      (pss_one (ps_ret (pe_cmpR op_isBl (pe_call (ok_p_judge_levels T TX) hr (by rfl) T.g_p_judge_levels T.F_p_judge_levels.kp T.b_p_judge_levels .nil passZ (pa_cons (pv 1) (pa_cons (pv 2) (pa_cons (pv 3) (pa_cons (pv 8) pa_nil))))) pe_bl (nomark _))))))))))
end
end K52
set_option Elab.async false
set_option linter.all false
set_option maxRecDepth 100000
set_option maxHeartbeats 8000000
namespace K52
open PySem PySem.Spec PyProof.Rows L2 Sh
open SX (S)
local macro_rules | `(tactic| walk_at "v1") => `(tactic| first
  | with_reducible refine v_seq ?_ | with_reducible refine v_asg ?_ | ((with_reducible refine' v_name ?e ?_); (case e => exact rfl)) | with_reducible refine v_ret ?_ | with_reducible refine v_drop ?_ | with_reducible refine v_next ?_
  | with_reducible refine v_if ?_ | with_reducible refine v_op ?_ | with_reducible refine v_c ?_ | ((with_reducible refine' v_var ?e ?_); (case e => exact rfl))
  | with_reducible refine v_I0 ?_ | with_reducible refine v_test ?_ | with_reducible refine v_B ?_ | with_reducible refine v_bl ?_ | with_reducible refine v_not ?_ | with_reducible refine v_and ?_ | with_reducible refine v_or ?_
  | with_reducible refine v_andV ?_ | with_reducible refine v_orV ?_ | with_reducible refine v_notV ?_ | with_reducible refine v_ife ?_
  | with_reducible refine v_nil ?_ | with_reducible refine v_cons ?_ | with_reducible refine v_tup ?_ | with_reducible refine v_lst ?_ | with_reducible refine v_call ?_ | with_reducible refine v_cb ?_ | with_reducible refine v_int ?_ | with_reducible refine v_abs ?_
  | ((with_reducible refine' v_eq ?e ?_); (case e => exact rfl)) | ((with_reducible refine' v_ne ?e ?_); (case e => exact rfl)) | with_reducible refine v_sub ?_ | with_reducible refine v_isN ?_ | with_reducible refine v_notN ?_
  | with_reducible refine v_part ?_ | with_reducible refine v_nopart ?_ | with_reducible refine v_pint ?_ | with_reducible refine v_inSg ?_ | with_reducible refine v_notInSg ?_
  | ((with_reducible refine' v_ixL ?l ?a ?_); (case l => assumption); (case a => exact at_lit _ rfl)) | ((with_reducible refine' v_ixT ?l ?a ?_); (case l => assumption); (case a => exact at_lit _ rfl))
  | ((with_reducible refine v_I ?c ?_); (case c => (first | omega | (unfold CMul; omega) | (unfold CDivN; omega) | (unfold CPow; omega))))
  | with_reducible refine v_for ?_ | with_reducible refine v_iList ?_ | with_reducible refine v_iTup ?_ | with_reducible refine v_iStr ?_ | with_reducible refine v_iR1 ?_ | with_reducible refine v_iR2 ?_ | with_reducible refine v_atS ?_ | with_reducible refine v_sl ?_ | with_reducible refine v_lc ?_ | with_reducible refine v_yes ?_
  | with_reducible refine v_m1 ?_ | with_reducible refine v_m1S ?_ | with_reducible refine v_bm ?_ | with_reducible refine v_bm0 ?_ | with_reducible refine v_dnewK ?_ | with_reducible refine v_dnewT ?_ | with_reducible refine v_dget ?_ | with_reducible refine v_din ?_ | with_reducible refine v_dnotin ?_ | with_reducible refine v_dput ?_ | with_reducible refine v_chain ?_ | with_reducible refine v_un ?_ | with_reducible refine v_neg ?_
  | with_reducible refine v_brk ?_ | with_reducible refine v_cont ?_
  | with_reducible refine v_fld ?_ | with_reducible refine v_sfld ?_ | with_reducible refine v_meth ?_ | with_reducible refine v_methT ?_ | with_reducible refine v_make ?_ | with_reducible refine v_makeT ?_ | with_reducible refine v_dget2 ?_ | with_reducible refine v_enumS ?_ | with_reducible refine v_enumQ ?_ | with_reducible refine v_lc2 ?_ | with_reducible refine v_isB ?_ | with_reducible refine v_notB ?_ | with_reducible refine v_lstRg2 ?_ | with_reducible refine v_lstRg3 ?_)
local macro_rules | `(tactic| walk_at "v") => `(tactic| repeat (walk_at "v1"))
local macro_rules | `(tactic| walk_at "vm") => `(tactic| repeat (first | ((with_reducible refine v_modP ?c ?_); (case c => omega); (intro _ _ _)) | walk_at "v1"))
local macro_rules | `(tactic| walk_at "iv") => `(tactic| (try dsimp only; refine IV.mk (by assumption) (by assumption) ?_))
local macro_rules | `(tactic| walk_at "n") => `(tactic| dsimp only [List.set_cons_zero, List.set_cons_succ])
/-! ### _law_moved -/
theorem full_eq {n' m' : Nat} {fs gs : List Rel} {φ : Rel → Rel} (h : gs.map (cells n' m') = fs.map fun f => cells n' m' (φ f)) : fullD n' m' gs = .list (fs.map fun f => levD true (cells n' m' (φ f))) := by
  show PyData.list (gs.map fun f => levD true (cells n' m' f)) = _
  have e1 : gs.map (fun f => levD true (cells n' m' f)) = (gs.map (cells n' m')).map (levD true) := by rw [List.map_map]; rfl
  have e2 : fs.map (fun f => levD true (cells n' m' (φ f))) = (fs.map fun f => cells n' m' (φ f)).map (levD true) := by rw [List.map_map]; rfl
  rw [e1, e2, h]
theorem rel0_flp (r o : List Nat) : EqOn o.length r.length (rel0 o r) (flp (rel0 r o)) := fun a b _ _ => decide_eq_decide.mpr ⟨Eq.symm, Eq.symm⟩
theorem getD_rev {r : List Nat} {k : Nat} (h : k < r.length) : r.reverse.getD k 0 = r.getD (r.length - 1 - k) 0 := by
  rw [List.getD_eq_getElem?_getD, List.getD_eq_getElem?_getD, List.getElem?_reverse h]
theorem rel0_rev (r o : List Nat) : EqOn r.length o.length (rel0 r.reverse o.reverse) (revR r.length o.length (rel0 r o)) := fun a b ha hb => by
  show decide (r.reverse.getD a 0 = o.reverse.getD b 0) = decide (r.getD (r.length - 1 - a) 0 = o.getD (o.length - 1 - b) 0)
  rw [getD_rev ha, getD_rev hb]
def ren (al : List Nat) (c : Nat) : Nat := 101 + al.idxOf c
theorem getD_map {r : List Nat} {φ : Nat → Nat} {k : Nat} (h : k < r.length) : (r.map φ).getD k 0 = φ (r.getD k 0) := by
  rw [List.getD_eq_getElem?_getD, List.getD_eq_getElem?_getD, List.getElem?_map, List.getElem?_eq_getElem h]
  rfl
theorem idx_inj {al : List Nat} : ∀ {a b : Nat}, a ∈ al → b ∈ al → al.idxOf a = al.idxOf b → a = b := fun {a b} ha hb h => by
  have h1 := List.getElem_idxOf (List.idxOf_lt_length_of_mem ha)
  have h2 := List.getElem_idxOf (List.idxOf_lt_length_of_mem hb)
  have : al[al.idxOf a]? = al[al.idxOf b]? := by rw [h]
  rw [List.getElem?_eq_getElem (List.idxOf_lt_length_of_mem ha), List.getElem?_eq_getElem (List.idxOf_lt_length_of_mem hb), h1, h2] at this
  exact Option.some.inj this
theorem rel0_ren {al r o : List Nat} (hr : ∀ x ∈ r, x ∈ al) (ho : ∀ x ∈ o, x ∈ al) : EqOn r.length o.length (rel0 (r.map (ren al)) (o.map (ren al))) (rel0 r o) := fun a b ha hb => by
  show decide ((r.map (ren al)).getD a 0 = (o.map (ren al)).getD b 0) = decide (r.getD a 0 = o.getD b 0)
  rw [getD_map ha, getD_map hb]
  refine decide_eq_decide.mpr ⟨fun h => ?_, fun h => by rw [h]⟩
  unfold ren at h
  exact idx_inj (hr _ (getD_mem ha)) (ho _ (getD_mem hb)) (by omega)
theorem cells_swap (n m : Nat) (f : Rel) : ((cells n m f).map fun p => (p.2, p.1)).Perm (cells m n (flp f)) := by
  refine (List.perm_ext_iff_of_nodup ?_ (cells_nodup _ _ _)).mpr fun p => ?_
  · refine (cells_nodup n m f).map _ ?_
    intro a b hab h
    apply hab
    injection h with h1 h2
    exact Prod.ext h2 h1
  · rw [List.mem_map, mem_cells]
    constructor
    · rintro ⟨q, hq, rfl⟩
      obtain ⟨h1, h2, h3⟩ := mem_cells.mp hq
      exact ⟨h2, h1, h3⟩
    · rintro ⟨h1, h2, h3⟩
      exact ⟨(p.2, p.1), mem_cells.mpr ⟨h2, h1, h3⟩, rfl⟩
theorem cells_rev (n m : Nat) (f : Rel) : ((cells n m f).map fun p => (n - 1 - p.1, m - 1 - p.2)).Perm (cells n m (revR n m f)) := by
  refine (List.perm_ext_iff_of_nodup ?_ (cells_nodup _ _ _)).mpr fun p => ?_
  · rw [List.Nodup, List.pairwise_map]
    refine List.Pairwise.imp_of_mem (fun {a b} ha hb hab h => ?_) (cells_nodup n m f)
    obtain ⟨a1, a2, _⟩ := mem_cells.mp ha
    obtain ⟨b1, b2, _⟩ := mem_cells.mp hb
    apply hab
    injection h with h1 h2
    exact Prod.ext (by omega) (by omega)
  · rw [List.mem_map, mem_cells]
    constructor
    · rintro ⟨q, hq, rfl⟩
      obtain ⟨h1, h2, h3⟩ := mem_cells.mp hq
      refine ⟨by show n - 1 - q.1 < n; omega, by show m - 1 - q.2 < m; omega, ?_⟩
      show f (n - 1 - (n - 1 - q.1)) (m - 1 - (m - 1 - q.2)) = true
      rw [show n - 1 - (n - 1 - q.1) = q.1 by omega, show m - 1 - (m - 1 - q.2) = q.2 by omega]
      exact h3
    · rintro ⟨h1, h2, h3⟩
      refine ⟨(n - 1 - p.1, m - 1 - p.2), mem_cells.mpr ⟨by show n - 1 - p.1 < n; omega, by show m - 1 - p.2 < m; omega, h3⟩, ?_⟩
      refine Prod.ext ?_ ?_
      · show n - 1 - (n - 1 - p.1) = p.1
        omega
      · show m - 1 - (m - 1 - p.2) = p.2
        omega
theorem al_extra : ∀ al ∈ alphas, isAlphaD (.str (S ([101, 102, 103, 104].take al.length))) = true ∧ (∀ c ∈ al, ren al c ∈ [101, 102, 103, 104].take al.length) ∧ (∀ c ∈ al, ∃ rest, Builtin.Str.occurrences (S al) (S [c]) 0 (S al).length 1 = al.idxOf c :: rest) := by
  intro al hal
  simp only [alphas, List.mem_cons, List.not_mem_nil, or_false] at hal
  rcases hal with rfl | rfl | rfl | rfl | rfl | rfl | rfl | rfl
  all_goals
    refine ⟨by decide +kernel, by decide, fun c hc => ⟨[], ?_⟩⟩
    simp only [List.mem_cons, List.not_mem_nil, or_false] at hc
    first
    | (subst hc; decide +kernel)
    | (rcases hc with rfl | rfl <;> decide +kernel)
    | (rcases hc with rfl | rfl | rfl <;> decide +kernel)
    | (rcases hc with rfl | rfl | rfl | rfl <;> decide +kernel)
structure MovedOk (al r o : List Nat) : Prop where
  alpha : isAlphaD (.str (S al)) = true
  a8 : al.length ≤ 8
  r12 : r.length ≤ 12
  o12 : o.length ≤ 12
  hr : ∀ x ∈ r, x ∈ al
  ho : ∀ x ∈ o, x ∈ al
def sp_moved (K : PySem.W.Frag) : Sp := fun vs H Q _ => ∃ (B : Hp) (M : List (Addr × HO)) (way : Int) (al r o : List Nat) (v : V), vs = [.int way, .str (S al), .str (S r), .str (S o), v] ∧ Hs B M H ∧ al ∈ alphas ∧ r.length ≤ 12 ∧ o.length ≤ 12 ∧ (∀ x ∈ r, x ∈ al) ∧ (∀ x ∈ o, x ∈ al) ∧ Rp K B v (fullD r.length o.length (levels r.length o.length (rel0 r o))) ∧
  ∀ (p : Addr) (al' r' o' : List Nat) (v' : V) (B' H' : Hp), Le B B' → Hs B' M H' → B' p = some (.tup [.str (S al'), .str (S r'), .str (S o'), v']) → MovedOk al' r' o' → Rp K B' v' (fullD r'.length o'.length (levels r'.length o'.length (rel0 r' o'))) → Q (.ref p) H'
def t_moved (K : PySem.W.Frag) : TS := (tSeq (tIfS (tTest (tOp rEq (tVar 0) (tC (.int 0)))) (tRet (tTup (tCons (tVar 1) (tCons (tVar 3) (tCons (tVar 2) (tCons (tLc (iList K (tVar 4)) (gName 6) tYes (tCB (rSortedPO K) (tCons (tLc (iList K (tVar 6)) (gName 5) tYes (tTup (tCons (tOp (rIxT K) (tVar 5) (tC (.int 1))) (tCons (tOp (rIxT K) (tVar 5) (tC (.int 0))) tNil))) [5]) tNil)) [6]) tNil)))))) tNext)
    (tSeq (tIfS (tTest (tOp rEq (tVar 0) (tC (.int 1)))) (tSeq (tAsg (tLst tNil) (gName 7))
    (tSeq (tFor (iList K (tVar 4)) (gName 6) (tDrop (tBM K "list" rAppend (tVar 7) (tCons (tCB (rSortedPO K) (tCons (tLc (iList K (tVar 6)) (gName 5) tYes (tTup (tCons (tOp rSubI (tOp rSubI (tCB (rCLen K) (tCons (tVar 2) tNil)) (tC (.int 1))) (tOp (rIxT K) (tVar 5) (tC (.int 0)))) (tCons (tOp rSubI (tOp rSubI (tCB (rCLen K) (tCons (tVar 3) tNil)) (tC (.int 1))) (tOp (rIxT K) (tVar 5) (tC (.int 1)))) tNil))) [5]) tNil)) tNil))))
    (tRet (tTup (tCons (tVar 1) (tCons (tM1 (rJoin K) (tC (.str "")) (RT.tLstRev K (tCB rLstS (tCons (tVar 2) tNil)))) (tCons (tM1 (rJoin K) (tC (.str "")) (RT.tLstRev K (tCB rLstS (tCons (tVar 3) tNil)))) (tCons (tVar 7) tNil)))))))) tNext)
    (tSeq (tIfS (tTest (tOp rEq (tVar 0) (tC (.int 2)))) (tRet (tTup (tCons (tC (.str "abcdefgh")) (tCons (tVar 2) (tCons (tVar 3) (tCons (tVar 4) tNil)))))) tNext)
    (tSeq (tIfS (tTest (tOp rEq (tVar 0) (tC (.int 3)))) (tSeq (tAsg (tM1 (rJoin K) (tC (.str "")) (tLc (iStr (tVar 2)) (gName 9) tYes (tOp rIxS (tC (.str "efgh")) (tBM K "str" rSindex (tVar 1) (tCons (tVar 9) tNil))) [9])) (gName 8))
    (tSeq (tAsg (tM1 (rJoin K) (tC (.str "")) (tLc (iStr (tVar 3)) (gName 9) tYes (tOp rIxS (tC (.str "efgh")) (tBM K "str" rSindex (tVar 1) (tCons (tVar 9) tNil))) [9])) (gName 10))
    (tRet (tTup (tCons (tSl rSlS (tC (.str "efgh")) tNoPart (tPart (tCB (rCLen K) (tCons (tVar 1) tNil)))) (tCons (tVar 8) (tCons (tVar 10) (tCons (tVar 4) tNil)))))))) tNext)
    (tRet (tTup (tCons (tVar 1) (tCons (tVar 2) (tCons (tVar 2) (tCons (tCall (sp_levels K) [] E0 (tCons (tVar 2) (tCons (tVar 2) tNil))) tNil))))))))))
theorem pure_moved {K : PySem.W.Frag} (vs : List V) (H : Hp) (Q : VK) (E : XK) (h : sp_moved K vs H Q E) : t_moved K { nx := fun _ H' => Q .non H', rt := Q } (start n_moved vs) H := by
  obtain ⟨B, M, way, al, r, o, v, rfl, hs, hal, r12, o12, hr, ho, hv, q⟩ := h
  have ao := al_ok hal
  have al4 := ao.l4
  obtain ⟨x1, x2, x3⟩ := al_extra al hal
  obtain ⟨fa, xs, rfl, hF, hX⟩ := rp_mk (l := true) hv
  obtain ⟨b1, b2⟩ := lev_bounds (rel0 r o) r12 o12
  have xl : xs.length ≤ 145 := by rw [hX.length, List.length_map]; exact b1
  show t_moved K _ [some (V.int way), some (V.str (S al)), some (V.str (S r)), some (V.str (S o)), some (V.ref fa), none, none, none, none, none, none] H
  unfold t_moved
  walk_at "v"
  refine ite2 (fun c0 => ?_) (fun c0 => ?_)
  · walk_at "v"
    refine v_atL (hs.l hF) (v_lcL hF hs (fun i acc B' M' => M' = M ∧ RpAll K B' acc (((levels r.length o.length (rel0 r o)).take i).map fun f => levD true (cells o.length r.length (flp f)))) ⟨rfl, .nil⟩ ?_ ?_)
    · rintro i x p acc B1 M' H1 hi hx ha l1 h1 ⟨rfl, hacc⟩
      obtain ⟨d, ed, hd⟩ := hX.getV hx
      rw [List.getElem?_map] at ed
      obtain ⟨f, ef, rfl⟩ := Option.map_eq_some_iff.mp ed
      have cb := b2 f (List.mem_of_getElem? ef)
      obtain ⟨la, us, rfl, hL, hU⟩ := rp_mk (l := true) hd
      walk_at "v"
      refine ⟨rfl, ?_⟩
      walk_at "v"
      refine iteT' rfl ?_
      walk_at "v"
      have hL1 := le_l l1 hL
      refine v_atL (h1.l hL1) (v_lcL hL1 h1 (fun j acc2 B' M'' => M'' = (p, .lst acc) :: M' ∧ RpAll K B' acc2 ((((cells r.length o.length f).take j).map fun p => (p.2, p.1)).map cellD)) ⟨rfl, .nil⟩ ?_ ?_)
      · rintro j x p2 acc2 B2 M'' H2 hj hx ha2 l2 h2 ⟨rfl, hacc2⟩
        obtain ⟨d, ed, hd⟩ := hU.getV hx
        rw [List.getElem?_map] at ed
        obtain ⟨pr, ep, rfl⟩ := Option.map_eq_some_iff.mp ed
        obtain ⟨za, rfl, hza⟩ := rp_cell hd
        have hz2 : SqT K B2 za [intV pr.1, intV pr.2] := SqT.of (l2 _ _ (l1 _ _ hza))
        walk_at "v"
        refine ⟨rfl, ?_⟩
        walk_at "v"
        refine iteT' rfl ?_
        walk_at "v"
        refine v_ixT (h2.t hz2) (at_lit 1 rfl) ?_
        walk_at "v"
        refine v_ixT (h2.t hz2) (at_lit 0 rfl) ?_
        walk_at "v"
        refine v_size (xs := [intV pr.2, intV pr.1]) (by show 2 ≤ sizeLine; decide) (v_newB h2 fun tp B3 H3 l3 h3 e3 => ?_)
        refine IE.mk ha2 hj (by rw [hU.length, List.length_map]; omega) (l2.trans l3) h3 ⟨rfl, ?_⟩
        rw [List.take_add_one, ep, List.map_append, List.map_append]
        exact (hacc2.up l3).append (.one (.tup e3 (.cons (.int _) (.cons (.int _) .nil))))
      · rintro p2 acc2 B2 M'' H2 ha2 l2 h2 ⟨rfl, hacc2⟩
        rw [hU.length, List.length_map, List.take_length] at hacc2
        obtain ⟨h3, l3⟩ := h2.fix
        walk_at "v"
        refine v_sortC h3 (SqL.of upd_same) (hacc2.up l3) (cells_swap _ _ _) (cells_sorted _ _ _) fun v' B4 H4 l4 h4 hv' => ?_
        refine IE.mk ha hi (by omega) (l1.trans (l2.trans (l3.trans l4))) h4 ⟨rfl, ?_⟩
        rw [List.take_add_one, ef, List.map_append]
        exact (hacc.up (l2.trans (l3.trans l4))).append (.one hv')
    · rintro p acc B1 M' H1 ha l1 h1 ⟨rfl, hacc⟩
      rw [hX.length, List.length_map, List.take_length] at hacc
      obtain ⟨h2, l2⟩ := h1.fix
      walk_at "v"
      refine v_size (by show 4 ≤ sizeLine; decide) (v_newB h2 fun tp B3 H3 l3 h3 e3 => ?_)
      refine q tp al o r (.ref p) B3 H3 (l1.trans (l2.trans l3)) h3 e3 ⟨ao.alpha, by omega, o12, r12, ho, hr⟩ ?_
      rw [full_eq (levels_flp (rel0_flp r o))]
      exact .lst (SqL.of (l3 _ _ upd_same)) (hacc.up (l2.trans l3))
  walk_at "v"
  refine ite2 (fun c1 => ?_) (fun c1 => ?_)
  · walk_at "v"
    refine v_size (xs := []) (by show 0 ≤ sizeLine; decide) (v_newM hs fun ed H1 h1 => ?_)
    walk_at "v"
    refine v_atL (h1.l hF) (v_forL hF h1 (fun i σ' B' M' => ∃ (ts : List V) (y5 y6 : Option V), M' = (ed, .lst ts) :: M ∧ RpAll K B' ts (((levels r.length o.length (rel0 r o)).take i).map fun f => levD true (cells r.length o.length (revR r.length o.length f))) ∧
      σ' = [some (V.int way), some (V.str (S al)), some (V.str (S r)), some (V.str (S o)), some (V.ref fa), y5, y6, some (V.ref ed), none, none, none]) ⟨[], none, none, rfl, .nil, rfl⟩ ?_ ?_)
    · rintro i x σ' B1 M' H1 hi hx l1 h1 ⟨ts, y5, y6, rfl, hts, rfl⟩
      obtain ⟨d, edd, hd⟩ := hX.getV hx
      rw [List.getElem?_map] at edd
      obtain ⟨f, ef, rfl⟩ := Option.map_eq_some_iff.mp edd
      have cb := b2 f (List.mem_of_getElem? ef)
      obtain ⟨la, us, rfl, hL, hU⟩ := rp_mk (l := true) hd
      walk_at "v"
      refine v_bmL (h1.atI 0 rfl) ?_
      walk_at "v"
      have hL1 := le_l l1 hL
      refine v_atL (h1.l hL1) (v_lcL hL1 h1 (fun j acc2 B' M'' => M'' = (ed, .lst ts) :: M ∧ RpAll K B' acc2 ((((cells r.length o.length f).take j).map fun p => (r.length - 1 - p.1, o.length - 1 - p.2)).map cellD)) ⟨rfl, .nil⟩ ?_ ?_)
      · rintro j x p2 acc2 B2 M'' H2 hj hx ha2 l2 h2 ⟨rfl, hacc2⟩
        obtain ⟨d, ed', hd⟩ := hU.getV hx
        rw [List.getElem?_map] at ed'
        obtain ⟨pr, ep, rfl⟩ := Option.map_eq_some_iff.mp ed'
        obtain ⟨p1, p2', _⟩ := mem_cells.mp (List.mem_of_getElem? ep)
        obtain ⟨za, rfl, hza⟩ := rp_cell hd
        have hz2 : SqT K B2 za [intV pr.1, intV pr.2] := SqT.of (l2 _ _ (l1 _ _ hza))
        walk_at "v"
        refine ⟨rfl, ?_⟩
        walk_at "v"
        refine iteT' rfl ?_
        walk_at "v"
        refine v_lenS (by rw [S_length]; exact sz_of (by omega)) ?_
        walk_at "v"
        rw [S_length]
        refine v_ixT (h2.t hz2) (at_lit 0 rfl) ?_
        walk_at "v"
        refine v_lenS (by rw [S_length]; exact sz_of (by omega)) ?_
        walk_at "v"
        rw [S_length]
        refine v_ixT (h2.t hz2) (at_lit 1 rfl) ?_
        walk_at "v"
        rw [show (r.length : Int) - 1 - (pr.1 : Int) = ((r.length - 1 - pr.1 : Nat) : Int) by omega, show (o.length : Int) - 1 - (pr.2 : Int) = ((o.length - 1 - pr.2 : Nat) : Int) by omega]
        refine v_size (xs := [intV (r.length - 1 - pr.1), intV (o.length - 1 - pr.2)]) (by show 2 ≤ sizeLine; decide) (v_newB h2 fun tp B3 H3 l3 h3 e3 => ?_)
        refine IE.mk ha2 hj (by rw [hU.length, List.length_map]; omega) (l2.trans l3) h3 ⟨rfl, ?_⟩
        rw [List.take_add_one, ep, List.map_append, List.map_append]
        exact (hacc2.up l3).append (.one (.tup e3 (.cons (.int _) (.cons (.int _) .nil))))
      · rintro p2 acc2 B2 M'' H2 ha2 l2 h2 ⟨rfl, hacc2⟩
        rw [hU.length, List.length_map, List.take_length] at hacc2
        obtain ⟨h3, l3⟩ := h2.fix
        walk_at "v"
        refine v_sortC h3 (SqL.of upd_same) (hacc2.up l3) (cells_rev _ _ _) (cells_sorted _ _ _) fun v' B4 H4 l4 h4 hv' => ?_
        walk_at "v"
        have tl : ts.length ≤ 145 := by
          rw [hts.length, List.length_map, List.length_take]
          omega
        refine v_appI h4 0 rfl (by omega) fun H5 h5 => ?_
        try dsimp only
        refine IV.mk (l1.trans (l2.trans (l3.trans l4))) h5 ⟨_, _, _, rfl, ?_, rfl⟩
        rw [List.take_add_one, ef, List.map_append]
        exact (hts.up (l2.trans (l3.trans l4))).append (.one hv')
    · rintro σ' B1 M' H1 l1 h1 ⟨ts, y5, y6, rfl, hts, rfl⟩
      rw [hX.length, List.length_map, List.take_length] at hts
      obtain ⟨h2, l2⟩ := h1.fix
      generalize hB2 : upd B1 ed (.lst ts) = B2 at h2 l2
      have eE : SqL K B2 ed ts := by rw [← hB2]; exact SqL.of upd_same
      walk_at "v"
      refine v_lstRev (q := fun _ _ _ => True) ?_
      walk_at "v"
      refine v_lstS (by omega) (v_newB h2 fun p1 B3 H3 l3 h3 e3 => ?_)
      refine ⟨p1, _, rfl, h3.l (SqL.of e3), v_newB h3 fun p2 B4 H4 l4 h4 e4 => ?_⟩
      rw [← List.map_reverse] at e4
      refine v_join (h4.l (SqL.of e4)) (by rw [List.length_reverse]; omega) ?_
      walk_at "v"
      refine v_lstRev (q := fun _ _ _ => True) ?_
      walk_at "v"
      refine v_lstS (by omega) (v_newB h4 fun p3 B5 H5 l5 h5 e5 => ?_)
      refine ⟨p3, _, rfl, h5.l (SqL.of e5), v_newB h5 fun p4 B6 H6 l6 h6 e6 => ?_⟩
      rw [← List.map_reverse] at e6
      refine v_join (h6.l (SqL.of e6)) (by rw [List.length_reverse]; omega) ?_
      walk_at "v"
      have l26 := l3.trans (l4.trans (l5.trans l6))
      refine v_size (xs := [V.str (S al), V.str (S r.reverse), V.str (S o.reverse), V.ref ed]) (by show 4 ≤ sizeLine; decide) (v_newB h6 fun tp B7 H7 l7 h7 e7 => ?_)
      refine q tp al r.reverse o.reverse (.ref ed) B7 H7 (l1.trans (l2.trans (l26.trans l7))) h7 e7 ⟨ao.alpha, by omega, by rw [List.length_reverse]; omega, by rw [List.length_reverse]; omega, fun x hx => hr x (List.mem_reverse.mp hx), fun x hx => ho x (List.mem_reverse.mp hx)⟩ ?_
      rw [List.length_reverse, List.length_reverse, full_eq (levels_rev (rel0_rev r o))]
      exact .lst (le_l (l26.trans l7) eE) (hts.up (l2.trans (l26.trans l7)))
  walk_at "v"
  refine ite2 (fun c2 => ?_) (fun c2 => ?_)
  · walk_at "v"
    refine v_size (by show 4 ≤ sizeLine; decide) (v_newB hs fun tp B1 H1 l1 h1 e1 => ?_)
    exact q tp lettersL r o (.ref fa) B1 H1 l1 h1 e1 ⟨by decide +kernel, by decide, r12, o12, fun x hx => ao.sub x (hr x hx), fun x hx => ao.sub x (ho x hx)⟩ (hv.up l1)
  walk_at "v"
  refine ite2 (fun c3 => ?_) (fun c3 => ?_)
  · walk_at "v"
    have ef : ("efgh" : Str) = S [101, 102, 103, 104] := by decide +kernel
    have e4 : ∀ k, k < 4 → [101, 102, 103, 104].getD k 0 = 101 + k := by decide
    refine v_lcS hs (fun i acc B' M' => M' = M ∧ acc = ((r.take i).map (ren al)).map fun c => V.str (S [c])) ⟨rfl, rfl⟩ ?_ ?_
    · rintro i c p acc B1 M' H1 hi hc ha l1 h1 ⟨rfl, rfl⟩
      rw [S_get] at hc
      rw [S_size] at hi
      have hcm : c ∈ al := hr c (List.mem_of_getElem? hc)
      obtain ⟨rest, eo⟩ := x3 c hcm
      have ix := List.idxOf_lt_length_of_mem hcm
      walk_at "v"
      refine ⟨rfl, ?_⟩
      walk_at "v"
      refine iteT' rfl ?_
      walk_at "v"
      refine ⟨rfl, ?_⟩
      walk_at "v"
      refine ⟨_, _, _, rest, rfl, rfl, eo, ?_⟩
      rw [ef]
      refine v_ixT1 (by omega) (by show _ < (4 : Int); omega) (by decide) ?_
      rw [Int.toNat_natCast, e4 _ (by omega)]
      refine IE.mk ha hi (by omega) l1 h1 ⟨rfl, ?_⟩
      rw [List.take_add_one, hc, List.map_append, List.map_append]
      rfl
    rintro a_p acc a_B M' a_H ha a_l a_h ⟨eM, rfl⟩
    have eM := eM.symm
    subst eM
    rw [S_size, List.take_length] at a_h
    walk_at "v"
    refine v_join (SqL.of a_h.hd) (by rw [List.length_map]; omega) ?_
    have a_h := a_h.drop
    walk_at "v"
    refine v_lcS a_h (fun i acc B' M' => M' = M ∧ acc = ((o.take i).map (ren al)).map fun c => V.str (S [c])) ⟨rfl, rfl⟩ ?_ ?_
    · rintro i c p acc B1 M' H1 hi hc ha l1 h1 ⟨rfl, rfl⟩
      rw [S_get] at hc
      rw [S_size] at hi
      have hcm : c ∈ al := ho c (List.mem_of_getElem? hc)
      obtain ⟨rest, eo⟩ := x3 c hcm
      have ix := List.idxOf_lt_length_of_mem hcm
      walk_at "v"
      refine ⟨rfl, ?_⟩
      walk_at "v"
      refine iteT' rfl ?_
      walk_at "v"
      refine ⟨rfl, ?_⟩
      walk_at "v"
      refine ⟨_, _, _, rest, rfl, rfl, eo, ?_⟩
      rw [ef]
      refine v_ixT1 (by omega) (by show _ < (4 : Int); omega) (by decide) ?_
      rw [Int.toNat_natCast, e4 _ (by omega)]
      refine IE.mk ha hi (by omega) l1 h1 ⟨rfl, ?_⟩
      rw [List.take_add_one, hc, List.map_append, List.map_append]
      rfl
    rintro b_p acc b_B M' b_H ha b_l b_h ⟨eM, rfl⟩
    have eM := eM.symm
    subst eM
    rw [S_size, List.take_length] at b_h
    walk_at "v"
    refine v_join (SqL.of b_h.hd) (by rw [List.length_map]; omega) ?_
    have b_h := b_h.drop
    walk_at "v"
    refine v_lenS (by rw [S_length]; exact sz_of (by omega)) ?_
    walk_at "v"
    rw [S_length, ef]
    refine v_slTo (by omega) (by decide) ?_
    rw [Int.toNat_natCast]
    walk_at "v"
    refine v_size (by show 4 ≤ sizeLine; decide) (v_newB b_h fun tp B1 H1 l1 h1 e1 => ?_)
    refine q tp _ (r.map (ren al)) (o.map (ren al)) (.ref fa) B1 H1 (a_l.trans (b_l.trans l1)) h1 e1 ⟨x1, by rw [List.length_take]; show min _ 4 ≤ 8; omega, by rw [List.length_map]; exact r12, by rw [List.length_map]; exact o12, fun x hx => ?_, fun x hx => ?_⟩ ?_
    · obtain ⟨c, hc, rfl⟩ := List.mem_map.mp hx
      exact x2 c (hr c hc)
    · obtain ⟨c, hc, rfl⟩ := List.mem_map.mp hx
      exact x2 c (ho c hc)
    · rw [List.length_map, List.length_map, full_eq (φ := id) (levels_same (rel0_ren hr ho))]
      exact hv.up (a_l.trans (b_l.trans l1))
  · walk_at "v"
    refine ⟨B, M, r, r, rfl, hs, r12, r12, fun v' B1 H1 l1 h1 hv' => ?_⟩
    walk_at "v"
    refine v_size (by show 4 ≤ sizeLine; decide) (v_newB h1 fun tp B2 H2 l2 h2 e2 => ?_)
    exact q tp al r r v' B2 H2 (l1.trans l2) h2 e2 ⟨ao.alpha, by omega, r12, r12, hr, hr⟩ (hv'.up l2)
section
variable {P : Program} {w : World} {K : PySem.W.Frag} {mg : Str → Option Value} {base : Heap}
theorem ok_moved (T : Txt K mg w) : FnOk P w K mg base CX0 4 T.a_moved T.fd_moved ["_law_way", "_law_alphabet_here", "_law_row", "_law_other", "_law_full"] (sp_moved K) := by
  refine T.F_moved.ok sc_moved (fun vs H Q E h => ?_) (fun cdv A outer s H vs Q E hr h => ⟨t_moved K, ?_, pure_moved vs H Q E h⟩)
  · obtain ⟨B, M, way, al, r, o, v, rfl, _⟩ := h
    rfl
  · exact (pss_cons (ps_if (pt_cmpR op_eq (pv 0) pe_int (nomark _)) (pss_one (ps_ret (pe_tup (pa_cons (pv 1) (pa_cons (pv 3) (pa_cons (pv 2) (pa_cons (pe_lc (own := [("_law_level", 6)]) (g := (gName 6)) (tt := tYes) rfl sc_moved.nd (pi_list (pv 4)) (blkOk_by (own := [("_law_level", 6)]) (N := n_moved) (sc := defScope s_moved) (by decide +kernel)) (fun _ _ _ _ _ => (pg_name (i := 6) sc_moved.nd rfl (Or.inl rfl))) (fun _ _ _ _ _ => pts_nil) (fun _ _ _ _ _ => (pe_callB cr_sortedPO (by rfl) (T.free_sorted) (by decide +kernel) (pa_cons (pe_lc (own := [("_law_pair", 5)]) (g := (gName 5)) (tt := tYes) rfl sc_moved.nd (pi_list (pv 6)) (blkOk_by (own := [("_law_pair", 5)]) (N := n_moved) (sc := { kind := .function, names := [(".0", .local), ("_law_level", .local), ("sorted", .globalImplicit)], isGenerator := false, isCoroutine := false }) (by decide +kernel)) (fun _ _ _ _ _ => (pg_name (i := 5) sc_moved.nd rfl (Or.inl rfl))) (fun _ _ _ _ _ => pts_nil) (fun _ _ _ _ _ => (pe_tup (pa_cons (pe_ix ix_tup (pv 5) pe_int (fun _ _ => rfl)) (pa_cons (pe_ix ix_tup (pv 5) pe_int (fun _ _ => rfl)) pa_nil))))) pa_nil)))) pa_nil))))))) pss_nil)
      (pss_cons (ps_if (pt_cmpR op_eq (pv 0) pe_int (nomark _)) (pss_cons (ps_set (i := 7) sc_moved.nd rfl (by first | exact Or.inl rfl | exact Or.inr rfl) (pe_lst pa_nil))
      (pss_cons (ps_for PassesOwn.never rfl (pi_list (pv 4)) (pg_name (i := 6) sc_moved.nd rfl (by first | exact Or.inl rfl | exact Or.inr rfl)) (pss_one (ps_expr (pe_bm PySem.F.plainAttrs_list PySem.F.slot_list_append PySem.F.type_list_append mt_append (pv 7) (pa_cons (pe_callB cr_sortedPO (by rfl) (T.free_sorted) (by decide +kernel) (pa_cons (pe_lc (own := [("_law_pair", 5)]) (g := (gName 5)) (tt := tYes) rfl sc_moved.nd (pi_list (pv 6)) (blkOk_by (own := [("_law_pair", 5)]) (N := n_moved) (sc := defScope s_moved) (by decide +kernel)) (fun _ _ _ _ _ => (pg_name (i := 5) sc_moved.nd rfl (Or.inl rfl))) (fun _ _ _ _ _ => pts_nil) (fun _ _ _ _ _ => (pe_tup (pa_cons (pe_op op_sub (pe_op op_sub (pe_callB call_len (by rfl) (T.free_len) (by decide +kernel) (pa_cons (pv 2) pa_nil)) pe_int) (pe_ix ix_tup (pv 5) pe_int (fun _ _ => rfl))) (pa_cons (pe_op op_sub (pe_op op_sub (pe_callB call_len (by rfl) (T.free_len) (by decide +kernel) (pa_cons (pv 3) pa_nil)) pe_int) (pe_ix ix_tup (pv 5) pe_int (fun _ _ => rfl))) pa_nil))))) pa_nil)) pa_nil)))))
      (pss_one (ps_ret (pe_tup (pa_cons (pv 1) (pa_cons (pe_join pe_str (RT.pe_lstRev rfl (by rfl) (T.free_list) (by rfl) (T.free_reversed) (pe_callTy (cr_lstS rfl) (by rfl) (T.free_list) (by decide +kernel) (pa_cons (pv 2) pa_nil)))) (pa_cons (pe_join pe_str (RT.pe_lstRev rfl (by rfl) (T.free_list) (by rfl) (T.free_reversed) (pe_callTy (cr_lstS rfl) (by rfl) (T.free_list) (by decide +kernel) (pa_cons (pv 3) pa_nil)))) (pa_cons (pv 7) pa_nil))))))))) pss_nil)
      (pss_cons (ps_if (pt_cmpR op_eq (pv 0) pe_int (nomark _)) (pss_one (ps_ret (pe_tup (pa_cons pe_str (pa_cons (pv 2) (pa_cons (pv 3) (pa_cons (pv 4) pa_nil))))))) pss_nil)
      (pss_cons (ps_if (pt_cmpR op_eq (pv 0) pe_int (nomark _)) (pss_cons (ps_set (i := 8) sc_moved.nd rfl (by first | exact Or.inl rfl | exact Or.inr rfl) (pe_join pe_str (pe_lc (own := [("_law_letter", 9)]) (g := (gName 9)) (tt := tYes) rfl sc_moved.nd (pi_str (pv 2)) (blkOk_by (own := [("_law_letter", 9)]) (N := n_moved) (sc := defScope s_moved) (by decide +kernel)) (fun _ _ _ _ _ => (pg_name (i := 9) sc_moved.nd rfl (Or.inl rfl))) (fun _ _ _ _ _ => pts_nil) (fun _ _ _ _ _ => (pe_ix ix_str pe_str (pe_bm PySem.F.plainAttrs_str PySem.F.slot_str_index PySem.F.type_str_index mt_sindex (pv 1) (pa_cons (pv 9) pa_nil)) (fun _ _ => rfl))))))
      (pss_cons (ps_set (i := 10) sc_moved.nd rfl (by first | exact Or.inl rfl | exact Or.inr rfl) (pe_join pe_str (pe_lc (own := [("_law_letter", 9)]) (g := (gName 9)) (tt := tYes) rfl sc_moved.nd (pi_str (pv 3)) (blkOk_by (own := [("_law_letter", 9)]) (N := n_moved) (sc := defScope s_moved) (by decide +kernel)) (fun _ _ _ _ _ => (pg_name (i := 9) sc_moved.nd rfl (Or.inl rfl))) (fun _ _ _ _ _ => pts_nil) (fun _ _ _ _ _ => (pe_ix ix_str pe_str (pe_bm PySem.F.plainAttrs_str PySem.F.slot_str_index PySem.F.type_str_index mt_sindex (pv 1) (pa_cons (pv 9) pa_nil)) (fun _ _ => rfl))))))
      (pss_one (ps_ret (pe_tup (pa_cons (pe_slice sl_str pe_str po_none (po_some (pe_callB call_len (by rfl) (T.free_len) (by decide +kernel) (pa_cons (pv 1) pa_nil)))) (pa_cons (pv 8) (pa_cons (pv 10) (pa_cons (pv 4) pa_nil))))))))) pss_nil)
      (pss_one (ps_ret (pe_tup (pa_cons (pv 1) (pa_cons (pv 2) (pa_cons (pv 2) (pa_cons (pe_call (ok_levels T) hr (by rfl) T.g_levels T.F_levels.kp T.b_levels .nil pass0 (pa_cons (pv 2) (pa_cons (pv 2) pa_nil))) pa_nil)))))))))))
end
end K52
set_option Elab.async false
set_option linter.all false
set_option maxRecDepth 100000
set_option maxHeartbeats 8000000
namespace K52
open PySem PySem.Spec PyProof.Rows L2 Sh
open SX (S)
local macro_rules | `(tactic| walk_at "v1") => `(tactic| first
  | with_reducible refine v_seq ?_ | with_reducible refine v_asg ?_ | ((with_reducible refine' v_name ?e ?_); (case e => exact rfl)) | with_reducible refine v_ret ?_ | with_reducible refine v_drop ?_ | with_reducible refine v_next ?_
  | with_reducible refine v_if ?_ | with_reducible refine v_op ?_ | with_reducible refine v_c ?_ | ((with_reducible refine' v_var ?e ?_); (case e => exact rfl))
  | with_reducible refine v_I0 ?_ | with_reducible refine v_test ?_ | with_reducible refine v_B ?_ | with_reducible refine v_bl ?_ | with_reducible refine v_not ?_ | with_reducible refine v_and ?_ | with_reducible refine v_or ?_
  | with_reducible refine v_andV ?_ | with_reducible refine v_orV ?_ | with_reducible refine v_notV ?_ | with_reducible refine v_ife ?_
  | with_reducible refine v_nil ?_ | with_reducible refine v_cons ?_ | with_reducible refine v_tup ?_ | with_reducible refine v_lst ?_ | with_reducible refine v_call ?_ | with_reducible refine v_cb ?_ | with_reducible refine v_int ?_ | with_reducible refine v_abs ?_
  | ((with_reducible refine' v_eq ?e ?_); (case e => exact rfl)) | ((with_reducible refine' v_ne ?e ?_); (case e => exact rfl)) | with_reducible refine v_sub ?_ | with_reducible refine v_isN ?_ | with_reducible refine v_notN ?_
  | with_reducible refine v_part ?_ | with_reducible refine v_nopart ?_ | with_reducible refine v_pint ?_ | with_reducible refine v_inSg ?_ | with_reducible refine v_notInSg ?_
  | ((with_reducible refine' v_ixL ?l ?a ?_); (case l => assumption); (case a => exact at_lit _ rfl)) | ((with_reducible refine' v_ixT ?l ?a ?_); (case l => assumption); (case a => exact at_lit _ rfl))
  | ((with_reducible refine v_I ?c ?_); (case c => (first | omega | (unfold CMul; omega) | (unfold CDivN; omega) | (unfold CPow; omega))))
  | with_reducible refine v_for ?_ | with_reducible refine v_iList ?_ | with_reducible refine v_iTup ?_ | with_reducible refine v_iStr ?_ | with_reducible refine v_iR1 ?_ | with_reducible refine v_iR2 ?_ | with_reducible refine v_atS ?_ | with_reducible refine v_sl ?_ | with_reducible refine v_lc ?_ | with_reducible refine v_yes ?_
  | with_reducible refine v_m1 ?_ | with_reducible refine v_m1S ?_ | with_reducible refine v_bm ?_ | with_reducible refine v_bm0 ?_ | with_reducible refine v_dnewK ?_ | with_reducible refine v_dnewT ?_ | with_reducible refine v_dget ?_ | with_reducible refine v_din ?_ | with_reducible refine v_dnotin ?_ | with_reducible refine v_dput ?_ | with_reducible refine v_chain ?_ | with_reducible refine v_un ?_ | with_reducible refine v_neg ?_
  | with_reducible refine v_brk ?_ | with_reducible refine v_cont ?_
  | with_reducible refine v_fld ?_ | with_reducible refine v_sfld ?_ | with_reducible refine v_meth ?_ | with_reducible refine v_methT ?_ | with_reducible refine v_make ?_ | with_reducible refine v_makeT ?_ | with_reducible refine v_dget2 ?_ | with_reducible refine v_enumS ?_ | with_reducible refine v_enumQ ?_ | with_reducible refine v_lc2 ?_ | with_reducible refine v_isB ?_ | with_reducible refine v_notB ?_ | with_reducible refine v_lstRg2 ?_ | with_reducible refine v_lstRg3 ?_)
local macro_rules | `(tactic| walk_at "v") => `(tactic| repeat (walk_at "v1"))
local macro_rules | `(tactic| walk_at "vm") => `(tactic| repeat (first | ((with_reducible refine v_modP ?c ?_); (case c => omega); (intro _ _ _)) | walk_at "v1"))
local macro_rules | `(tactic| walk_at "iv") => `(tactic| (try dsimp only; refine IV.mk (by assumption) (by assumption) ?_))
local macro_rules | `(tactic| walk_at "n") => `(tactic| dsimp only [List.set_cons_zero, List.set_cons_succ])
/-! ### _law_two_rows -/
def sizes : List Int := [3, 4, 5, 2, 4, 1, 5, 0, 3, 4, 5, 3]
theorem sizes_ok : ∀ z ∈ sizes, 0 ≤ z ∧ z ≤ 5 := by decide
def sp_two_rows (K : PySem.W.Frag) : Sp := fun vs H Q _ => ∃ (B : Hp) (M : List (Addr × HO)) (a : Addr) (d sd c : Int) (al : List Nat), vs = [.ref a, .str (S al)] ∧ Hs B ((a, SrcO d sd c) :: M) H ∧ 1 ≤ al.length ∧ al.length ≤ 8 ∧
  ∀ (r o : List Nat) (p : Addr) (d' c' : Int) (B' H' : Hp), (∀ x ∈ r, x ∈ al) → (∀ x ∈ o, x ∈ al) → r.length ≤ 12 → o.length ≤ 12 → Le B B' → Hs B' ((a, SrcO d' sd c') :: M) H' → B' p = some (.tup [.str (S r), .str (S o)]) → Q (.ref p) H'
def t_two_rows (K : PySem.W.Frag) : TS := (tSeq (tAsg (tLst (tCons (tC (.int 3)) (tCons (tC (.int 4)) (tCons (tC (.int 5)) (tCons (tC (.int 2)) (tCons (tC (.int 4)) (tCons (tC (.int 1)) (tCons (tC (.int 5)) (tCons (tC (.int 0)) (tCons (tC (.int 3)) (tCons (tC (.int 4)) (tCons (tC (.int 5)) (tCons (tC (.int 3)) tNil))))))))))))) (gName 2))
    (tSeq (tAsg (tOp (rIxL K) (tVar 2) (tCall (sp_pick K) [] E0 (tCons (tVar 0) (tCons (tCB (rCLen K) (tCons (tVar 2) tNil)) tNil)))) (gName 3))
    (tSeq (tAsg (tM1 (rJoin K) (tC (.str "")) (tLc (iRng1 (tCons (tVar 3) tNil)) (gName 5) tYes (tOp rIxS (tVar 1) (tCall (sp_pick K) [] E0 (tCons (tVar 0) (tCons (tCB (rCLen K) (tCons (tVar 1) tNil)) tNil)))) [5])) (gName 4))
    (tSeq (tAsg (tCall (sp_pick K) [] E0 (tCons (tVar 0) (tCons (tC (.int 16)) tNil))) (gName 6))
    (tSeq (tIfS (tTest (tOp (rIn K false) (tVar 6) (tTup (tCons (tC (.int 3)) (tCons (tC (.int 5)) (tCons (tC (.int 11)) (tCons (tC (.int 13)) tNil))))))) (tAsg (tSl rSlS (tOp rRepS (tSl rSlS (tOp rAddS (tVar 4) (tVar 1)) tNoPart (tPart (tOp rAddI (tC (.int 1)) (tCall (sp_pick K) [] E0 (tCons (tVar 0) (tCons (tC (.int 2)) tNil)))))) (tC (.int 6))) tNoPart (tPart (tOp rAddI (tC (.int 3)) (tCall (sp_pick K) [] E0 (tCons (tVar 0) (tCons (tC (.int 4)) tNil)))))) (gName 4)) tNext)
    (tSeq (tIfS (tTest (tOp rEq (tVar 6) (tC (.int 9)))) (tSeq (tAsg (tOp (rIxL K) (tLst (tCons (tOp rAddS (tVar 4) (tVar 1)) (tCons (tSl rSlS (tVar 1) tNoPart (tPart (tC (.int 1)))) (tCons (tVar 1) tNil)))) (tCall (sp_pick K) [] E0 (tCons (tVar 0) (tCons (tC (.int 3)) tNil)))) (gName 7))
    (tAsg (tSl rSlS (tOp rRepS (tVar 7) (tC (.int 12))) tNoPart (tPart (tOp rAddI (tC (.int 7)) (tCall (sp_pick K) [] E0 (tCons (tVar 0) (tCons (tC (.int 6)) tNil)))))) (gName 4))) tNext)
    (tRet (tTup (tCons (tVar 4) (tCons (tSl rSlS (tCall (sp_second K) [] E0 (tCons (tVar 0) (tCons (tVar 1) (tCons (tVar 4) tNil)))) tNoPart (tPart (tC (.int 12)))) tNil))))))))))
theorem pure_two_rows {K : PySem.W.Frag} (vs : List V) (H : Hp) (Q : VK) (E : XK) (h : sp_two_rows K vs H Q E) : t_two_rows K { nx := fun _ H' => Q .non H', rt := Q } (start n_two_rows vs) H := by
  obtain ⟨B, M, a, d, sd, c, al, rfl, hs, a1, a8, q⟩ := h
  show t_two_rows K _ [some (V.ref a), some (V.str (S al)), none, none, none, none, none, none] H
  unfold t_two_rows
  walk_at "v"
  refine v_size (xs := sizes.map V.int) (by show 12 ≤ sizeLine; decide) (v_newB hs fun p B1 H1 l1 h1 e1 => ?_)
  have e1 : SqL K B1 p (sizes.map V.int) := SqL.of e1
  walk_at "v"
  refine v_lenL (h1.l e1) ?_
  walk_at "v"
  refine v_pick h1 (by show (0 : Int) < 12; decide) (by show (12 : Int) < 2 ^ 30; decide) fun k d1 c1 H2 k0 k1 h2 => ?_
  have hk : k.toNat < sizes.length := by
    have : k < 12 := k1
    show k.toNat < 12
    omega
  obtain ⟨s0, s5⟩ := sizes_ok _ (List.getElem_mem hk)
  refine v_ixL (v := .int sizes[k.toNat]) (h2.l e1) (at_k k0 (by rw [List.getElem?_map, List.getElem?_eq_getElem hk]; rfl)) ?_
  generalize sizes[k.toNat] = sz at s0 s5
  walk_at "v"
  refine v_atR1 (by omega) ?_
  refine v_lcR h2 (fun i acc B' M' => ∃ d c, M' = (a, SrcO d sd c) :: M ∧ ∃ l : List Nat, acc = l.map (fun c => V.str (S [c])) ∧ (∀ x ∈ l, x ∈ al) ∧ l.length = i) ⟨_, _, rfl, [], rfl, by simp, rfl⟩ ?_ ?_
  · rintro i p acc B1 M1 H1 hi ha l1 h1 ⟨d1, c1, rfl, l, rfl, hl, rfl⟩
    walk_at "v"
    refine ⟨rfl, ?_⟩
    walk_at "v"
    refine iteT ?_
    walk_at "v"
    refine v_lenS (by rw [S_length]; exact sz_of (by omega)) ?_
    walk_at "v"
    refine v_pick h1.sw (by rw [S_length]; omega) (by rw [S_length]; omega) fun k d2 c2 H2 k0 k1 h2 => ?_
    rw [S_length] at k1
    refine v_ixT1 k0 k1 (by omega) ?_
    refine IE.mk ha hi (by omega) l1 h2.sw ⟨_, _, rfl, l ++ [al.getD k.toNat 0], by simp, fun x hx => ?_, by simp⟩
    rcases List.mem_append.mp hx with hx | hx
    · exact hl x hx
    · rw [List.mem_singleton.mp hx]
      exact getD_mem (by omega)
  · rintro p2 acc B2 M1 H3 ha l2 h3 ⟨d2, c2, rfl, l, rfl, hl, hn⟩
    have ln : l.length ≤ 5 := by omega
    walk_at "v"
    refine v_join (SqL.of h3.hd) (by omega) ?_
    have h3 := h3.drop
    walk_at "v"
    refine v_pick h3 (by decide) (by decide) fun way d3 c3 H4 w0 w1 h4 => ?_
    walk_at "v1"
    have l12 := l1.trans l2
    have memAl : ∀ x ∈ l ++ al, x ∈ al := fun x hx => by
      rcases List.mem_append.mp hx with hx | hx
      · exact hl x hx
      · exact hx
    have lal : (l ++ al).length ≤ 13 := by rw [List.length_append]; omega
    dsimp only
    refine v_seqP (fun σ' H' => ∃ (r : List Nat) (d c : Int) (B' : Hp), (∀ x ∈ r, x ∈ al) ∧ r.length ≤ 12 ∧ Le B2 B' ∧ Hs B' ((a, SrcO d sd c) :: M) H' ∧ σ' = [some (V.ref a), some (V.str (S al)), some (V.ref p), some (V.int sz), some (V.str (S r)), none, some (V.int way), none]) (fun N hN => ?_) ?_
    · walk_at "v"
      refine v_size (by show 4 ≤ sizeLine; decide) (v_newB h4 fun t B5 H5 l5 h5 e5 => ?_)
      refine ⟨t, _, rfl, .inr (h5.t (SqT.of e5)), rfl, rfl, ?_⟩
      walk_at "v"
      refine ite2 (fun c0 => ?_) (fun c0 => ?_)
      · walk_at "v"
        refine v_addL (by rw [← List.length_append]; omega) ?_
        walk_at "v"
        refine v_pick h5 (by decide) (by decide) fun k1 d5 c5 H6 k10 k11 h6 => ?_
        walk_at "v"
        refine v_slTo (by omega) (by omega) ?_
        walk_at "v"
        have lt : ((l ++ al).take (1 + k1).toNat).length ≤ 13 := by rw [List.length_take]; omega
        refine v_repL (by decide) (by omega) (by decide) ?_
        walk_at "v"
        refine v_pick h6 (by decide) (by decide) fun k2 d6 c6 H7 k20 k21 h7 => ?_
        walk_at "v"
        refine v_slTo (by omega) (by rw [rep_len]; show 6 * _ ≤ _; omega) ?_
        walk_at "v"
        refine hN _ _ ⟨_, d6, c6, B5, fun x hx => memAl x (List.mem_of_mem_take (mem_rep (List.mem_of_mem_take hx))), ?_, l5, h7, rfl⟩
        rw [List.length_take]
        omega
      · walk_at "v"
        exact hN _ _ ⟨l, d3, c3, B5, hl, by omega, l5, h5, rfl⟩
    · rintro σ' H5 ⟨r, d4, c4, B3, hr, r12, l3, h5, rfl⟩
      refine v_seqP (fun σ' H' => ∃ (r : List Nat) (d c : Int) (B' : Hp) (y7 : Option V), (∀ x ∈ r, x ∈ al) ∧ r.length ≤ 12 ∧ Le B3 B' ∧ Hs B' ((a, SrcO d sd c) :: M) H' ∧ σ' = [some (V.ref a), some (V.str (S al)), some (V.ref p), some (V.int sz), some (V.str (S r)), none, some (V.int way), y7]) (fun N hN => ?_) ?_
      · walk_at "v"
        refine ite2 (fun c0 => ?_) (fun c0 => ?_)
        · walk_at "v"
          refine v_addL (by omega) ?_
          walk_at "v"
          refine v_slTo (by decide) (by omega) ?_
          walk_at "v"
          refine v_size (by show 3 ≤ sizeLine; decide) (v_newB h5 fun t B6 H6 l6 h6 e6 => ?_)
          walk_at "v"
          refine v_pick h6 (by decide) (by decide) fun k1 d5 c5 H7 k10 k11 h7 => ?_
          obtain ⟨z, hz, hzm, hzl⟩ : ∃ z : List Nat, [V.str (S (r ++ al)), V.str (S (al.take 1)), V.str (S al)][k1.toNat]? = some (.str (S z)) ∧ (∀ x ∈ z, x ∈ al) ∧ z.length ≤ 100 := by
            rcases (show k1 = 0 ∨ k1 = 1 ∨ k1 = 2 by omega) with rfl | rfl | rfl
            · refine ⟨_, rfl, fun x hx => ?_, by rw [List.length_append]; omega⟩
              rcases List.mem_append.mp hx with hx | hx
              · exact hr x hx
              · exact hx
            · exact ⟨_, rfl, fun x hx => List.mem_of_mem_take hx, by rw [List.length_take]; omega⟩
            · exact ⟨_, rfl, fun x hx => hx, by omega⟩
          refine v_ixL (h7.l (SqL.of e6)) (at_k k10 hz) ?_
          walk_at "v"
          refine v_repL (by decide) (by omega) (by decide) ?_
          walk_at "v"
          refine v_pick h7 (by decide) (by decide) fun k2 d6 c6 H8 k20 k21 h8 => ?_
          walk_at "v"
          refine v_slTo (by omega) (by rw [rep_len]; show 12 * _ ≤ _; omega) ?_
          walk_at "v"
          refine hN _ _ ⟨_, d6, c6, B6, _, fun x hx => hzm x (mem_rep (List.mem_of_mem_take hx)), ?_, l6, h8, rfl⟩
          rw [List.length_take]
          omega
        · walk_at "v"
          exact hN _ _ ⟨r, d4, c4, B3, _, hr, r12, Same.refl _, h5, rfl⟩
      · rintro σ' H6 ⟨r, d5, c5, B4, y7, hr, r12, l4, h6, rfl⟩
        walk_at "v"
        refine ⟨B4, M, a, d5, sd, c5, al, r, rfl, h6, a1, a8, by omega, hr, fun o d6 c6 B5 H7 ho hol l5 h7 => ?_⟩
        walk_at "v"
        refine v_slTo (l := o) (k := 12) (by decide) (by omega) ?_
        walk_at "v"
        refine v_size (by show 2 ≤ sizeLine; decide) (v_newB h7 fun t B6 H8 l6 h8 e8 => ?_)
        exact q r (o.take 12) t d6 c6 B6 H8 hr (fun x hx => ho x (List.mem_of_mem_take hx)) r12 (by rw [List.length_take]; omega) (l12.trans (l3.trans (l4.trans (l5.trans l6)))) h8 e8
section
variable {P : Program} {w : World} {K : PySem.W.Frag} {mg : Str → Option Value} {base : Heap}
theorem ok_two_rows (T : Txt K mg w) : FnOk P w K mg base CX0 4 T.a_two_rows T.fd_two_rows ["_law_source_here", "_law_alphabet_here"] (sp_two_rows K) := by
  refine T.F_two_rows.ok sc_two_rows (fun vs H Q E h => ?_) (fun cdv A outer s H vs Q E hr h => ⟨t_two_rows K, ?_, pure_two_rows vs H Q E h⟩)
  · obtain ⟨B, M, a, d, sd, c, al, rfl, _⟩ := h
    rfl
  · exact (pss_cons (ps_set (i := 2) sc_two_rows.nd rfl (by first | exact Or.inl rfl | exact Or.inr rfl) (pe_lst (pa_cons pe_int (pa_cons pe_int (pa_cons pe_int (pa_cons pe_int (pa_cons pe_int (pa_cons pe_int (pa_cons pe_int (pa_cons pe_int (pa_cons pe_int (pa_cons pe_int (pa_cons pe_int (pa_cons pe_int pa_nil))))))))))))))
      (pss_cons (ps_set (i := 3) sc_two_rows.nd rfl (by first | exact Or.inl rfl | exact Or.inr rfl) (pe_ix ix_list (pv 2) (pe_call (ok_pick T) (hr.mono (by decide)) (by rfl) T.g_pick T.F_pick.kp T.b_pick .nil pass0 (pa_cons (pv 0) (pa_cons (pe_callB call_len (by rfl) (T.free_len) (by decide +kernel) (pa_cons (pv 2) pa_nil)) pa_nil))) (fun _ _ => rfl)))
      (pss_cons (ps_set (i := 4) sc_two_rows.nd rfl (by first | exact Or.inl rfl | exact Or.inr rfl) (pe_join pe_str (pe_lc (own := [("_law_k", 5)]) (g := (gName 5)) (tt := tYes) rfl sc_two_rows.nd (pi_range1 (by rfl) (T.free_range) (pa_cons (pv 3) pa_nil)) (blkOk_by (own := [("_law_k", 5)]) (N := n_two_rows) (sc := defScope s_two_rows) (by decide +kernel)) (fun _ _ _ _ _ => (pg_name (i := 5) sc_two_rows.nd rfl (Or.inl rfl))) (fun _ _ _ _ _ => pts_nil) (fun _ _ _ _ _ => (pe_ix ix_str (pv 1) (pe_call (ok_pick T) (hr.mono (by decide)) (by rfl) T.g_pick T.F_pick.kp T.b_pick .nil pass0 (pa_cons (pv 0) (pa_cons (pe_callB call_len (by rfl) (T.free_len) (by decide +kernel) (pa_cons (pv 1) pa_nil)) pa_nil))) (fun _ _ => rfl))))))
      (pss_cons (ps_set (i := 6) sc_two_rows.nd rfl (by first | exact Or.inl rfl | exact Or.inr rfl) (pe_call (ok_pick T) (hr.mono (by decide)) (by rfl) T.g_pick T.F_pick.kp T.b_pick .nil pass0 (pa_cons (pv 0) (pa_cons pe_int pa_nil))))
      (pss_cons (ps_if (pt_cmpR op_in_seq (pv 6) (pe_tup (pa_cons pe_int (pa_cons pe_int (pa_cons pe_int (pa_cons pe_int pa_nil))))) (by rfl)) (pss_one (ps_set (i := 4) sc_two_rows.nd rfl (by first | exact Or.inl rfl | exact Or.inr rfl) (pe_slice sl_str (pe_op op_repS (pe_slice sl_str (pe_op op_add_str (pv 4) (pv 1)) po_none (po_some (pe_op op_add pe_int (pe_call (ok_pick T) (hr.mono (by decide)) (by rfl) T.g_pick T.F_pick.kp T.b_pick .nil pass0 (pa_cons (pv 0) (pa_cons pe_int pa_nil)))))) pe_int) po_none (po_some (pe_op op_add pe_int (pe_call (ok_pick T) (hr.mono (by decide)) (by rfl) T.g_pick T.F_pick.kp T.b_pick .nil pass0 (pa_cons (pv 0) (pa_cons pe_int pa_nil)))))))) pss_nil)
      (pss_cons (ps_if (pt_cmpR op_eq (pv 6) pe_int (nomark _)) (pss_cons (ps_set (i := 7) sc_two_rows.nd rfl (by first | exact Or.inl rfl | exact Or.inr rfl) (pe_ix ix_list (pe_lst (pa_cons (pe_op op_add_str (pv 4) (pv 1)) (pa_cons (pe_slice sl_str (pv 1) po_none (po_some pe_int)) (pa_cons (pv 1) pa_nil)))) (pe_call (ok_pick T) (hr.mono (by decide)) (by rfl) T.g_pick T.F_pick.kp T.b_pick .nil pass0 (pa_cons (pv 0) (pa_cons pe_int pa_nil))) (fun _ _ => rfl)))
      (pss_one (ps_set (i := 4) sc_two_rows.nd rfl (by first | exact Or.inl rfl | exact Or.inr rfl) (pe_slice sl_str (pe_op op_repS (pv 7) pe_int) po_none (po_some (pe_op op_add pe_int (pe_call (ok_pick T) (hr.mono (by decide)) (by rfl) T.g_pick T.F_pick.kp T.b_pick .nil pass0 (pa_cons (pv 0) (pa_cons pe_int pa_nil))))))))) pss_nil)
      (pss_one (ps_ret (pe_tup (pa_cons (pv 4) (pa_cons (pe_slice sl_str (pe_call (ok_second T) hr (by rfl) T.g_second T.F_second.kp T.b_second .nil pass0 (pa_cons (pv 0) (pa_cons (pv 1) (pa_cons (pv 4) pa_nil)))) po_none (po_some pe_int)) pa_nil)))))))))))
end
end K52
set_option Elab.async false
set_option linter.all false
set_option maxRecDepth 100000
set_option maxHeartbeats 8000000
namespace K52
open PySem PySem.Spec PyProof.Rows L2 Sh
open SX (S)
local macro_rules | `(tactic| walk_at "v1") => `(tactic| first
  | with_reducible refine v_seq ?_ | with_reducible refine v_asg ?_ | ((with_reducible refine' v_name ?e ?_); (case e => exact rfl)) | with_reducible refine v_ret ?_ | with_reducible refine v_drop ?_ | with_reducible refine v_next ?_
  | with_reducible refine v_if ?_ | with_reducible refine v_op ?_ | with_reducible refine v_c ?_ | ((with_reducible refine' v_var ?e ?_); (case e => exact rfl))
  | with_reducible refine v_I0 ?_ | with_reducible refine v_test ?_ | with_reducible refine v_B ?_ | with_reducible refine v_bl ?_ | with_reducible refine v_not ?_ | with_reducible refine v_and ?_ | with_reducible refine v_or ?_
  | with_reducible refine v_andV ?_ | with_reducible refine v_orV ?_ | with_reducible refine v_notV ?_ | with_reducible refine v_ife ?_
  | with_reducible refine v_nil ?_ | with_reducible refine v_cons ?_ | with_reducible refine v_tup ?_ | with_reducible refine v_lst ?_ | with_reducible refine v_call ?_ | with_reducible refine v_cb ?_ | with_reducible refine v_int ?_ | with_reducible refine v_abs ?_
  | ((with_reducible refine' v_eq ?e ?_); (case e => exact rfl)) | ((with_reducible refine' v_ne ?e ?_); (case e => exact rfl)) | with_reducible refine v_sub ?_ | with_reducible refine v_isN ?_ | with_reducible refine v_notN ?_
  | with_reducible refine v_part ?_ | with_reducible refine v_nopart ?_ | with_reducible refine v_pint ?_ | with_reducible refine v_inSg ?_ | with_reducible refine v_notInSg ?_
  | ((with_reducible refine' v_ixL ?l ?a ?_); (case l => assumption); (case a => exact at_lit _ rfl)) | ((with_reducible refine' v_ixT ?l ?a ?_); (case l => assumption); (case a => exact at_lit _ rfl))
  | ((with_reducible refine v_I ?c ?_); (case c => (first | omega | (unfold CMul; omega) | (unfold CDivN; omega) | (unfold CPow; omega))))
  | with_reducible refine v_for ?_ | with_reducible refine v_iList ?_ | with_reducible refine v_iTup ?_ | with_reducible refine v_iStr ?_ | with_reducible refine v_iR1 ?_ | with_reducible refine v_iR2 ?_ | with_reducible refine v_atS ?_ | with_reducible refine v_sl ?_ | with_reducible refine v_lc ?_ | with_reducible refine v_yes ?_
  | with_reducible refine v_m1 ?_ | with_reducible refine v_m1S ?_ | with_reducible refine v_bm ?_ | with_reducible refine v_bm0 ?_ | with_reducible refine v_dnewK ?_ | with_reducible refine v_dnewT ?_ | with_reducible refine v_dget ?_ | with_reducible refine v_din ?_ | with_reducible refine v_dnotin ?_ | with_reducible refine v_dput ?_ | with_reducible refine v_chain ?_ | with_reducible refine v_un ?_ | with_reducible refine v_neg ?_
  | with_reducible refine v_brk ?_ | with_reducible refine v_cont ?_
  | with_reducible refine v_fld ?_ | with_reducible refine v_sfld ?_ | with_reducible refine v_meth ?_ | with_reducible refine v_methT ?_ | with_reducible refine v_make ?_ | with_reducible refine v_makeT ?_ | with_reducible refine v_dget2 ?_ | with_reducible refine v_enumS ?_ | with_reducible refine v_enumQ ?_ | with_reducible refine v_lc2 ?_ | with_reducible refine v_isB ?_ | with_reducible refine v_notB ?_ | with_reducible refine v_lstRg2 ?_ | with_reducible refine v_lstRg3 ?_)
local macro_rules | `(tactic| walk_at "v") => `(tactic| repeat (walk_at "v1"))
local macro_rules | `(tactic| walk_at "vm") => `(tactic| repeat (first | ((with_reducible refine v_modP ?c ?_); (case c => omega); (intro _ _ _)) | walk_at "v1"))
local macro_rules | `(tactic| walk_at "iv") => `(tactic| (try dsimp only; refine IV.mk (by assumption) (by assumption) ?_))
local macro_rules | `(tactic| walk_at "n") => `(tactic| dsimp only [List.set_cons_zero, List.set_cons_succ])
section
variable {P : Program} {w : World} {K : PySem.W.Frag} {mg : Str → Option Value} {base : Heap}
def sp_law (T : Txt K mg w) : Sp := fun vs H Q _ => ∃ (B : Hp) (M : List (Addr × HO)) (sc : Addr) (ns : List Int), vs = [.ref sc] ∧ Hs B M H ∧ SqL K B sc (ns.map V.int) ∧ ns.length ≤ 63 ∧ (∀ z ∈ ns, Builtin.Int.intBits z ≤ 1048576) ∧ ∀ (H' : Hp), Q (.bl true) H'
theorem v_new {T : Txt K mg w} {B H : Hp} {M : List (Addr × HO)} {al r o : List Nat} {Q : VK} {E : XK} (hs : Hs B M H) (a4 : al.length ≤ 8) (r12 : r.length ≤ 12) (o12 : o.length ≤ 12) (ck : CheckD (.str (S al)) (.str (S r)) (.str (S o)) .ok)
    (q : ∀ (x : Addr) (B' H' : Hp), Le B B' → Hs B' M H' → ConV T B' x al r o → Q (.ref x) H') : Mak T.a_Contest (sp_m_Contest_init T) ([.str (S al), .str (S r), .str (S o)] ++ []) E H Q :=
  v_mak hs fun x dx H1 h1 => ⟨B, _, x, dx, .str (S al), .str (S r), .str (S o), _, _, _, .ok, rfl, h1, .str _, .str _, .str _, shortS_S (by omega), shortS_S (by omega), shortS_S (by omega), ck, fun _ al' r' o' B' H' e1 e2 e3 l h c => by
    have e1 := SX.S_inj (PyData.str.inj e1)
    have e2 := SX.S_inj (PyData.str.inj e2)
    have e3 := SX.S_inj (PyData.str.inj e3)
    subst e1 e2 e3
    exact ⟨rfl, q x B' H' l h.drop c⟩, fun z => absurd rfl z⟩
theorem full_map (n m : Nat) (fs : List Rel) : fullD n m fs = .list ((fs.map (cells n m)).map (levD true)) := by
  unfold fullD
  rw [List.map_map]
  rfl
theorem due_two (da : PyData) (o : COut) : ∃ a b, dueD da o = .tuple [.str a, .str b] := by
  cases o with
  | alpha => exact ⟨_, _, rfl⟩
  | row n => exact ⟨_, _, rfl⟩
  | long n => exact ⟨_, _, rfl⟩
  | ok => exact ⟨_, _, rfl⟩
def t_law (T : Txt K mg w) : TS := (tSeq (tAsg (tCall (sp_source K) [] E0 (tCons (tVar 0) (tCons (tC (.int 0)) tNil))) (gName 1))
    (tSeq (tAsg (tCall (sp_alphabet K) [] E0 (tCons (tVar 1) tNil)) (gName 2))
    (tSeq (tAsg (tCall (sp_two_rows K) [] E0 (tCons (tVar 1) (tCons (tVar 2) tNil))) (gTup K 2 (gCons (gName 3) (gCons (gName 4) gNil))))
    (tSeq (tAsg (tCall (sp_levels K) [] E0 (tCons (tVar 3) (tCons (tVar 4) tNil))) (gName 5))
    (tSeq (tAsg (tMake T.a_Contest (sp_m_Contest_init T) [] E0 (tCons (tVar 2) (tCons (tVar 3) (tCons (tVar 4) tNil)))) (gName 6))
    (tSeq (tIfS (tOr (tNot (tB (tCall (sp_is_contest T) [] E0 (tCons (tVar 6) (tCons (tVar 2) (tCons (tVar 3) (tCons (tVar 4) (tCons (tVar 5) tNil)))))))) (tNot (tB (tCall (sp_ends_well K) [] E0 (tCons (tVar 3) (tCons (tVar 4) (tCons (tVar 5) tNil))))))) (tRet (tC (.bl false))) tNext)
    (tSeq (tIfS (tTest (tOp rNotB (tCall (sp_p_judge_levels T) [] E0 (tCons (tVar 2) (tCons (tVar 3) (tCons (tVar 4) (tCons (tFld K (tVar 6) "levels") tNil))))) (tC (.bl true)))) (tRet (tC (.bl false))) tNext)
    (tSeq (tAsg (tCall (sp_source K) [] E0 (tCons (tVar 0) (tCons (tC (.int 1)) tNil))) (gName 1))
    (tSeq (tIfS (tNot (tB (tCall (sp_one_more T) [] E0 (tCons (tVar 1) (tCons (tVar 2) (tCons (tVar 3) (tCons (tVar 4) (tCons (tVar 5) tNil)))))))) (tRet (tC (.bl false))) tNext)
    (tSeq (tAsg (tCall (sp_alphabet K) [] E0 (tCons (tVar 1) tNil)) (gName 7))
    (tSeq (tAsg (tCall (sp_word K) [] E0 (tCons (tVar 1) (tCons (tVar 7) (tCons (tC (.int 4)) tNil)))) (gName 8))
    (tSeq (tAsg (tCall (sp_second K) [] E0 (tCons (tVar 1) (tCons (tVar 7) (tCons (tVar 8) tNil)))) (gName 9))
    (tSeq (tAsg (tCall (sp_levels K) [] E0 (tCons (tVar 8) (tCons (tVar 9) tNil))) (gName 10))
    (tSeq (tAsg (tMake T.a_Contest (sp_m_Contest_init T) [] E0 (tCons (tVar 7) (tCons (tVar 8) (tCons (tVar 9) tNil)))) (gName 11))
    (tSeq (tAsg (tCall (sp_kept K) [] E0 (tCons (tVar 5) tNil)) (gName 12))
    (tSeq (tAsg (tCall (sp_kept K) [] E0 (tCons (tVar 10) tNil)) (gName 13))
    (tSeq (tFor (iRng1 (tCons (tCB (rCLen K) (tCons (tVar 3) tNil)) tNil)) (gName 14) (tFor (iRng1 (tCons (tCB (rCLen K) (tCons (tVar 4) tNil)) tNil)) (gName 15) (tSeq (tIfS (tNot (tB (tCall (sp_height_right T) [] E0 (tCons (tVar 6) (tCons (tVar 14) (tCons (tVar 15) (tCons (tVar 12) (tCons (tCB (rCLen K) (tCons (tVar 5) tNil)) tNil)))))))) (tRet (tC (.bl false))) tNext)
    (tIfS (tAnd (tTest (tOp rLtI (tVar 14) (tCB (rCLen K) (tCons (tVar 8) tNil)))) (tTest (tOp rLtI (tVar 15) (tCB (rCLen K) (tCons (tVar 9) tNil))))) (tSeq (tIfS (tNot (tB (tCall (sp_height_right T) [] E0 (tCons (tVar 11) (tCons (tVar 14) (tCons (tVar 15) (tCons (tVar 13) (tCons (tCB (rCLen K) (tCons (tVar 10) tNil)) tNil)))))))) (tRet (tC (.bl false))) tNext)
    (tIfS (tNot (tB (tCall (sp_height_right T) [] E0 (tCons (tVar 6) (tCons (tVar 14) (tCons (tVar 15) (tCons (tVar 12) (tCons (tCB (rCLen K) (tCons (tVar 5) tNil)) tNil)))))))) (tRet (tC (.bl false))) tNext)) tNext))))
    (tSeq (tAsg (tCall (sp_source K) [] E0 (tCons (tVar 0) (tCons (tC (.int 2)) tNil))) (gName 1))
    (tSeq (tIfS (tTest (tOp rLtI (tCB (rCLen K) (tCons (tVar 3) tNil)) (tC (.int 7)))) (tSeq (tAsg (tCall (sp_moved K) [] E0 (tCons (tCall (sp_pick K) [] E0 (tCons (tVar 1) (tCons (tC (.int 5)) tNil))) (tCons (tVar 2) (tCons (tVar 3) (tCons (tVar 4) (tCons (tVar 5) tNil)))))) (gName 16))
    (tSeq (tAsg (tMake T.a_Contest (sp_m_Contest_init T) [] E0 (tCons (tOp (rIxT K) (tVar 16) (tC (.int 0))) (tCons (tOp (rIxT K) (tVar 16) (tC (.int 1))) (tCons (tOp (rIxT K) (tVar 16) (tC (.int 2))) tNil)))) (gName 17))
    (tIfS (tNot (tB (tCall (sp_is_contest T) [] E0 (tCons (tVar 17) (tCons (tOp (rIxT K) (tVar 16) (tC (.int 0))) (tCons (tOp (rIxT K) (tVar 16) (tC (.int 1))) (tCons (tOp (rIxT K) (tVar 16) (tC (.int 2))) (tCons (tOp (rIxT K) (tVar 16) (tC (.int 3))) tNil)))))))) (tRet (tC (.bl false))) tNext))) tNext)
    (tSeq (tFor (iRng1 (tCons (tC (.int 2)) tNil)) (gName 18) (tSeq (tIfS (tNot (tB (tCall (sp_places_refused T) [] E0 (tCons (tVar 1) (tCons (tVar 6) (tCons (tVar 3) (tCons (tVar 4) tNil))))))) (tRet (tC (.bl false))) tNext)
    (tSeq (tAsg (tCall (sp_wrong_ask T) [] E0 (tCons (tVar 1) (tCons (tVar 2) (tCons (tVar 3) (tCons (tVar 4) tNil))))) (gName 19))
    (tIfS (tTest (tOp (rNeP K) (tCall (sp_refused T) [] E0 (tCons (tOp (rIxT K) (tVar 19) (tC (.int 0))) (tCons (tOp (rIxT K) (tVar 19) (tC (.int 1))) (tCons (tOp (rIxT K) (tVar 19) (tC (.int 2))) tNil)))) (tOp (rIxT K) (tVar 19) (tC (.int 3))))) (tRet (tC (.bl false))) tNext))))
    (tSeq (tIfS (tNot (tB (tCall (sp_is_contest T) [] E0 (tCons (tVar 11) (tCons (tVar 7) (tCons (tVar 8) (tCons (tVar 9) (tCons (tVar 10) tNil)))))))) (tRet (tC (.bl false))) tNext)
    (tRet (tCall (sp_is_contest T) [] E0 (tCons (tVar 6) (tCons (tVar 2) (tCons (tVar 3) (tCons (tVar 4) (tCons (tVar 5) tNil))))))))))))))))))))))))))))
theorem pure_law (T : Txt K mg w) (vs : List V) (H : Hp) (Q : VK) (E : XK) (h : sp_law T vs H Q E) : t_law T { nx := fun _ H' => Q .non H', rt := Q } (start n_law vs) H := by
  obtain ⟨B, M, sc, ns, rfl, hs, hS, hl, hb, q⟩ := h
  show t_law T _ [some (V.ref sc), none, none, none, none, none, none, none, none, none, none, none, none, none, none, none, none, none, none, none] H
  unfold t_law
  walk_at "v"
  refine ⟨B, M, sc, ns, 0, rfl, hs, hS, hl, hb, by decide, by decide, fun a0 d0 sd0 c0 H1 h1 => ?_⟩
  walk_at "v"
  refine ⟨B, M, a0, d0, sd0, c0, rfl, h1, fun al d1 c1 B1 H2 hal l1 h2 => ?_⟩
  have ao := al_ok hal
  have al1 := ao.l1
  have al4 := ao.l4
  walk_at "v"
  refine ⟨B1, M, a0, d1, sd0, c1, al, rfl, h2, al1, by omega, fun r o p d2 c2 B2 H3 hr ho r12 o12 l2 h3 e3 => ?_⟩
  refine v_gTup2 (h3.t (SqT.of e3)) ?_
  walk_at "v"
  refine ⟨B2, _, r, o, rfl, h3, r12, o12, fun v B3 H4 l3 h4 hv => ?_⟩
  walk_at "v"
  have ck := check_ok ao r12 o12 hr ho
  refine v_new h4 (by omega) r12 o12 ck fun x B4 H5 l4 h5 hc => ?_
  have hv4 := hv.up l4
  walk_at "v"
  refine ⟨B4, _, x, al, r, o, v, rfl, h5, hc, r12, o12, hv4, fun B5 H6 l5 h6 => ?_⟩
  walk_at "v"
  refine iteF' rfl ?_
  walk_at "v"
  refine ⟨B5, _, r, o, v, rfl, h6, r12, o12, hv4.up l5, fun B6 H7 l6 h7 => ?_⟩
  walk_at "v"
  refine iteF' rfl ?_
  walk_at "v"
  have hc6 := hc.up (l5.trans l6)
  obtain ⟨dx, vt, vl, eB, -, hL⟩ := id hc6
  refine v_fldI (h7.sub _ _ eB) T.cls_Contest T.no_Contest_levels rfl ?_
  walk_at "v"
  refine ⟨B6, _, .str (S al), .str (S r), .str (S o), vl, _, _, _, _, .ok, rfl, h7, .str _, .str _, .str _, hL, shortS_S (by omega), shortS_S (by omega), shortS_S (by omega), ck, fun _ al' r' o' B7 H8 e1 e2 e3 l7 h8 => ?_, fun z => absurd rfl z⟩
  have e2 := SX.S_inj (PyData.str.inj e2)
  have e3 := SX.S_inj (PyData.str.inj e3)
  subst e2 e3
  rw [judge_levels_good]
  walk_at "v"
  refine iteF' (by rw [decide_eq_true rfl]; rfl) ?_
  have l07 := l1.trans (l2.trans (l3.trans (l4.trans (l5.trans (l6.trans l7)))))
  have hv7 := hv4.up (l5.trans (l6.trans l7))
  have hc7 := hc6.up l7
  walk_at "v"
  refine ⟨B7, _, sc, ns, 1, rfl, h8, le_l l07 hS, hl, hb, by decide, by decide, fun a1 d3 sd1 c3 H9 h9 => ?_⟩
  walk_at "v"
  refine ⟨B7, _, a1, d3, sd1, c3, al, r, o, v, rfl, h9, ao, r12, o12, hr, ho, hv7, fun d4 c4 B8 H10 l8 h10 => ?_⟩
  walk_at "v"
  refine iteF' rfl ?_
  walk_at "v"
  refine ⟨B8, _, a1, d4, sd1, c4, rfl, h10, fun al2 d5 c5 B9 H11 hal2 l9 h11 => ?_⟩
  have ao2 := al_ok hal2
  have al21 := ao2.l1
  have al24 := ao2.l4
  walk_at "v"
  refine ⟨B9, _, a1, d5, sd1, c5, al2, 4, rfl, h11, al21, by omega, by decide, by decide, fun f d6 c6 B10 H12 l10 hf hfl h12 => ?_⟩
  walk_at "v"
  refine ⟨B10, _, a1, d6, sd1, c6, al2, f, rfl, h12, al21, by omega, by omega, hf, fun g d7 c7 B11 H13 hg hgl l11 h13 => ?_⟩
  have f12 : f.length ≤ 12 := by omega
  have g12 : g.length ≤ 12 := by omega
  walk_at "v"
  refine ⟨B11, _, f, g, rfl, h13, f12, g12, fun v2 B12 H14 l12 h14 hv2 => ?_⟩
  walk_at "v"
  refine v_new h14 (by omega) f12 g12 (check_ok ao2 f12 g12 hf hg) fun x2 B13 H15 l13 h15 hc2 => ?_
  have l713 := l8.trans (l9.trans (l10.trans (l11.trans (l12.trans l13))))
  have hv13 := hv7.up l713
  have hc13 := hc7.up l713
  have hv213 := hv2.up l13
  walk_at "v"
  obtain ⟨b1, b2⟩ := lev_bounds (rel0 r o) r12 o12
  obtain ⟨b3, b4⟩ := lev_bounds (rel0 f g) f12 g12
  refine ⟨B13, _, v, _, rfl, h15, by rw [← full_map]; exact hv13, by rw [List.length_map]; omega, fun L hL => ?_, fun kd kvs B14 H16 l14 h16 ek hk => ?_⟩
  · obtain ⟨z, hz, rfl⟩ := List.mem_map.mp hL
    have := b2 z hz
    omega
  walk_at "v"
  refine ⟨B14, _, v2, _, rfl, h16, by rw [← full_map]; exact hv213.up l14, by rw [List.length_map]; omega, fun L hL => ?_, fun kd2 kvs2 B15 H17 l15 h17 ek2 hk2 => ?_⟩
  · obtain ⟨z, hz, rfl⟩ := List.mem_map.mp hL
    have := b4 z hz
    omega
  have l1315 := l14.trans l15
  have hv15 := hv13.up l1315
  have hc15 := hc13.up l1315
  have hv215 := hv213.up l1315
  have hc215 := hc2.up l1315
  have ek15 := l15 _ _ ek
  obtain ⟨fa, xs, rfl, hF, hX⟩ := rp_mk (l := true) hv15
  obtain ⟨ga, ys, rfl, hG, hY⟩ := rp_mk (l := true) hv215
  have xl : xs.length = (levels r.length o.length (rel0 r o)).length := by rw [hX.length, List.length_map]
  have yl : ys.length = (levels f.length g.length (rel0 f g)).length := by rw [hY.length, List.length_map]
  walk_at "v"
  refine v_lenS (by rw [S_length]; exact sz_of (by omega)) ?_
  walk_at "v"
  rw [S_length]
  refine v_atR1 (by omega) ?_
  rw [Int.toNat_natCast]
  refine v_forR h17 (fun i σ' B' M' => M' = (a1, SrcO d7 sd1 c7) :: (a0, SrcO d2 sd0 c2) :: M ∧ ∃ y14 y15 : Option V, σ' = [some (V.ref sc), some (V.ref a1), some (V.str (S al)), some (V.str (S r)), some (V.str (S o)), some (V.ref fa), some (V.ref x), some (V.str (S al2)), some (V.str (S f)), some (V.str (S g)), some (V.ref ga), some (V.ref x2), some (V.ref kd), some (V.ref kd2), y14, y15, none, none, none, none])
    ⟨rfl, none, none, rfl⟩ ?_ ?_
  · rintro i σ' C1 M' G1 hi m1 g1 ⟨rfl, y14, y15, rfl⟩
    rw [show (0 : Int) + (i : Int) = (i : Int) by omega]
    walk_at "v"
    refine v_lenS (by rw [S_length]; exact sz_of (by omega)) ?_
    walk_at "v"
    rw [S_length]
    refine v_atR1 (by omega) ?_
    rw [Int.toNat_natCast]
    refine v_forR g1 (fun j σ' B' M' => M' = (a1, SrcO d7 sd1 c7) :: (a0, SrcO d2 sd0 c2) :: M ∧ ∃ y15 : Option V, σ' = [some (V.ref sc), some (V.ref a1), some (V.str (S al)), some (V.str (S r)), some (V.str (S o)), some (V.ref fa), some (V.ref x), some (V.str (S al2)), some (V.str (S f)), some (V.str (S g)), some (V.ref ga), some (V.ref x2), some (V.ref kd), some (V.ref kd2), some (V.int (i : Int)), y15, none, none, none, none])
      ⟨rfl, y15, rfl⟩ ?_ ?_
    · rintro j σ' C2 M' G2 hj m2 g2 ⟨rfl, y15, rfl⟩
      rw [show (0 : Int) + (j : Int) = (j : Int) by omega]
      have m12 := m1.trans m2
      walk_at "v"
      refine v_lenL (g2.l (le_l m12 hF)) ?_
      walk_at "v"
      rw [xl]
      refine ⟨C2, _, x, kd, al, r, o, i, j, kvs, rfl, g2, hc15.up m12, r12, o12, hi, hj, m12 _ _ ek15, hk, fun C3 G3 m3 g3 => ?_⟩
      walk_at "v"
      refine iteF' rfl ?_
      walk_at "v"
      refine v_lenS (by rw [S_length]; exact sz_of (by omega)) ?_
      walk_at "v"
      rw [S_length]
      refine ite2 (fun t0 => ?_) (fun t0 => ?_)
      · have t1 := of_decide_eq_true t0
        walk_at "v"
        refine v_lenS (by rw [S_length]; exact sz_of (by omega)) ?_
        walk_at "v"
        rw [S_length]
        refine ite2 (fun t2 => ?_) (fun t2 => ?_)
        · have t3 := of_decide_eq_true t2
          have m13 := m12.trans m3
          walk_at "v"
          refine v_lenL (g3.l (le_l m13 hG)) ?_
          walk_at "v"
          rw [yl]
          refine ⟨C3, _, x2, kd2, al2, f, g, i, j, kvs2, rfl, g3, hc215.up m13, f12, g12, by omega, by omega, m13 _ _ ek2, hk2, fun C4 G4 m4 g4 => ?_⟩
          walk_at "v"
          refine iteF' rfl ?_
          walk_at "v"
          have m14 := m13.trans m4
          refine v_lenL (g4.l (le_l m14 hF)) ?_
          walk_at "v"
          rw [xl]
          refine ⟨C4, _, x, kd, al, r, o, i, j, kvs, rfl, g4, hc15.up m14, r12, o12, hi, hj, m14 _ _ ek15, hk, fun C5 G5 m5 g5 => ?_⟩
          walk_at "v"
          refine iteF' rfl ?_
          walk_at "v"
          try dsimp only
          exact IV.mk (m2.trans (m3.trans (m4.trans m5))) g5 ⟨rfl, _, rfl⟩
        · walk_at "v"
          try dsimp only
          exact IV.mk (m2.trans m3) g3 ⟨rfl, _, rfl⟩
      · refine iteF' rfl ?_
        walk_at "v"
        try dsimp only
        exact IV.mk (m2.trans m3) g3 ⟨rfl, _, rfl⟩
    · rintro σ' C2 M' G2 m2 g2 ⟨rfl, y15, rfl⟩
      try dsimp only
      exact IV.mk (m1.trans m2) g2 ⟨rfl, _, _, rfl⟩
  rintro σ' B16 M' H18 l16 h18 ⟨rfl, y14, y15, rfl⟩
  have hc16 := hc15.up l16
  have hc216 := hc215.up l16
  have hF16 := le_l l16 hF
  have hv16 := hv15.up l16
  have hv216 := hv215.up l16
  have l016 := l07.trans (l713.trans (l1315.trans l16))
  walk_at "v"
  refine ⟨B16, _, sc, ns, 2, rfl, h18, le_l l016 hS, hl, hb, by decide, by decide, fun a2 d8 sd2 c8 H19 h19 => ?_⟩
  walk_at "v1"
  dsimp only
  refine v_seqP (fun σ' H' => ∃ (d c : Int) (B' : Hp) (y16 y17 : Option V), Le B16 B' ∧ Hs B' ((a2, SrcO d sd2 c) :: (a1, SrcO d7 sd1 c7) :: (a0, SrcO d2 sd0 c2) :: M) H' ∧
    σ' = [some (V.ref sc), some (V.ref a2), some (V.str (S al)), some (V.str (S r)), some (V.str (S o)), some (V.ref fa), some (V.ref x), some (V.str (S al2)), some (V.str (S f)), some (V.str (S g)), some (V.ref ga), some (V.ref x2), some (V.ref kd), some (V.ref kd2), y14, y15, y16, y17, none, none]) (fun N hN => ?_) ?_
  · walk_at "v"
    refine v_lenS (by rw [S_length]; exact sz_of (by omega)) ?_
    walk_at "v"
    rw [S_length]
    refine ite2 (fun t0 => ?_) (fun t0 => ?_)
    · walk_at "v"
      refine v_pick h19 (by decide) (by decide) fun way d9 c9 H20 w0 w1 h20 => ?_
      walk_at "v"
      refine ⟨B16, _, way, al, r, o, .ref fa, rfl, h20, hal, r12, o12, hr, ho, hv16, fun mp al3 r3 o3 v3 B17 H21 l17 h21 e21 ok3 hv3 => ?_⟩
      have e21' : SqT K B17 mp [.str (S al3), .str (S r3), .str (S o3), v3] := SqT.of e21
      walk_at "v"
      refine v_ixT (h21.t e21') (at_lit 0 rfl) ?_
      walk_at "v"
      refine v_ixT (h21.t e21') (at_lit 1 rfl) ?_
      walk_at "v"
      refine v_ixT (h21.t e21') (at_lit 2 rfl) ?_
      walk_at "v"
      refine v_new h21 ok3.a8 ok3.r12 ok3.o12 ⟨al3, r3, o3, rfl, ok3.alpha, rfl, rfl, ⟨r3, rfl, by have := ok3.r12; omega, ok3.hr⟩, ⟨o3, rfl, by have := ok3.o12; omega, ok3.ho⟩, ok3.r12, ok3.o12⟩ fun x3 B18 H22 l18 h22 hc3 => ?_
      have e22 := le_t l18 e21'
      walk_at "v"
      refine v_ixT (h22.t e22) (at_lit 0 rfl) ?_
      walk_at "v"
      refine v_ixT (h22.t e22) (at_lit 1 rfl) ?_
      walk_at "v"
      refine v_ixT (h22.t e22) (at_lit 2 rfl) ?_
      walk_at "v"
      refine v_ixT (h22.t e22) (at_lit 3 rfl) ?_
      walk_at "v"
      refine ⟨B18, _, x3, al3, r3, o3, v3, rfl, h22, hc3, ok3.r12, ok3.o12, hv3.up l18, fun B19 H23 l19 h23 => ?_⟩
      walk_at "v"
      refine iteF' rfl ?_
      walk_at "v"
      exact hN _ _ ⟨d9, c9, B19, _, _, l17.trans (l18.trans l19), h23, rfl⟩
    · walk_at "v"
      exact hN _ _ ⟨d8, c8, B16, none, none, Same.refl _, h19, rfl⟩
  rintro σ' H20 ⟨d9, c9, B17, y16, y17, l17, h20, rfl⟩
  have hc17 := hc16.up l17
  have hc217 := hc216.up l17
  walk_at "v"
  refine v_atR1 (by decide) ?_
  refine v_forR h20 (fun i σ' B' M' => ∃ (d c : Int) (y18 y19 : Option V), M' = (a2, SrcO d sd2 c) :: (a1, SrcO d7 sd1 c7) :: (a0, SrcO d2 sd0 c2) :: M ∧
    σ' = [some (V.ref sc), some (V.ref a2), some (V.str (S al)), some (V.str (S r)), some (V.str (S o)), some (V.ref fa), some (V.ref x), some (V.str (S al2)), some (V.str (S f)), some (V.str (S g)), some (V.ref ga), some (V.ref x2), some (V.ref kd), some (V.ref kd2), y14, y15, y16, y17, y18, y19]) ⟨d9, c9, none, none, rfl, rfl⟩ ?_ ?_
  · rintro i σ' C1 M' G1 hi m1 g1 ⟨d10, c10, y18, y19, rfl, rfl⟩
    walk_at "v"
    refine ⟨C1, _, a2, x, d10, sd2, c10, al, r, o, rfl, g1, hc17.up m1, r12, o12, fun d11 c11 C2 G2 m2 g2 => ?_⟩
    walk_at "v"
    refine iteF' rfl ?_
    walk_at "v"
    refine ⟨C2, _, a2, d11, sd2, c11, al, r, o, rfl, g2, ao, r12, o12, hr, ho, fun wp d12 c12 C3 G3 m3 g3 hw => ?_⟩
    obtain ⟨va, vr, vq, vd, da, dr, dq, oo, ew, w1, w2, w3, w4, s1, s2, s3, sd, ckw⟩ := hw
    have ew' : SqT K C3 wp [va, vr, vq, vd] := SqT.of ew
    walk_at "v"
    refine v_ixT (h := ?_) (g3.t ew') (at_lit 0 rfl)
    walk_at "v"
    refine v_ixT (g3.t ew') (at_lit 1 rfl) ?_
    walk_at "v"
    refine v_ixT (g3.t ew') (at_lit 2 rfl) ?_
    walk_at "v"
    refine ⟨C3, _, va, vr, vq, da, dr, dq, oo, rfl, g3, w1, w2, w3, s1, s2, s3, sd, ckw, fun v5 C4 G4 m4 g4 hv5 => ?_⟩
    walk_at "v"
    refine v_ixT (g4.t (le_t m4 ew')) (at_lit 3 rfl) ?_
    obtain ⟨da1, da2, ed⟩ := due_two da oo
    rw [ed] at w4 hv5
    refine v_neP g4 hv5 (w4.up m4) rfl (two_depth _ _) ?_
    walk_at "v"
    refine iteF' rfl ?_
    walk_at "v"
    try dsimp only
    exact IV.mk (m1.trans (m2.trans (m3.trans m4))) g4 ⟨_, _, _, _, rfl, rfl⟩
  · rintro σ' B18 M' H21 l18 h21 ⟨d10, c10, y18, y19, rfl, rfl⟩
    walk_at "v"
    refine ⟨B18, _, x2, al2, f, g, .ref ga, rfl, h21, hc217.up l18, f12, g12, hv216.up (l17.trans l18), fun B19 H22 l19 h22 => ?_⟩
    walk_at "v"
    refine iteF' rfl ?_
    walk_at "v"
    refine ⟨B19, _, x, al, r, o, .ref fa, rfl, h22, hc17.up (l18.trans l19), r12, o12, hv16.up (l17.trans (l18.trans l19)), fun B20 H23 l20 h23 => ?_⟩
    exact q H23
theorem ok_law (T : Txt K mg w) (TX : TxtX T P) : FnG P w K mg base CX0 9 T.a_law T.fd_law ["_law_script"] (sp_law T) := by
  refine okG0_of T.F_law sc_law (fun vs H Q E h => ?_) (fun cdv A outer s H vs Q E hgd hr h => ⟨t_law T, ?_, pure_law T vs H Q E h⟩)
  · obtain ⟨B, M, sc, ns, rfl, _⟩ := h
    rfl
  · exact (pss_cons (ps_set (i := 1) sc_law.nd rfl (by first | exact Or.inl rfl | exact Or.inr rfl) (pe_call (ok_source T) (hr.mono (by decide)) (by rfl) T.g_source T.F_source.kp T.b_source .nil pass0 (pa_cons (pv 0) (pa_cons pe_int pa_nil))))
      (pss_cons (ps_set (i := 2) sc_law.nd rfl (by first | exact Or.inl rfl | exact Or.inr rfl) (pe_call (ok_alphabet T) (hr.mono (by decide)) (by rfl) T.g_alphabet T.F_alphabet.kp T.b_alphabet .nil pass0 (pa_cons (pv 1) pa_nil)))
      (pss_cons (ps_asg (pe_call (ok_two_rows T) (hr.mono (by decide)) (by rfl) T.g_two_rows T.F_two_rows.kp T.b_two_rows .nil pass0 (pa_cons (pv 1) (pa_cons (pv 2) pa_nil))) (pg_tup rfl (pgs_cons (pg_name (i := 3) sc_law.nd rfl (by first | exact Or.inl rfl | exact Or.inr rfl)) (pgs_cons (pg_name (i := 4) sc_law.nd rfl (by first | exact Or.inl rfl | exact Or.inr rfl)) pgs_nil))))
      (pss_cons (ps_set (i := 5) sc_law.nd rfl (by first | exact Or.inl rfl | exact Or.inr rfl) (pe_call (ok_levels T) (hr.mono (by decide)) (by rfl) T.g_levels T.F_levels.kp T.b_levels .nil pass0 (pa_cons (pv 3) (pa_cons (pv 4) pa_nil))))
      (pss_cons (ps_set (i := 6) sc_law.nd rfl (by first | exact Or.inl rfl | exact Or.inr rfl) (pe_make T.mk_Contest (ok_m_Contest_init T TX) (hr.mono (by decide)) (by rfl) T.g_Contest T.b_m_Contest_init .nil passZ (pa_cons (pv 2) (pa_cons (pv 3) (pa_cons (pv 4) pa_nil)))))
      (pss_cons (ps_if (PW.pt (pw_or (pt_not (pt_val (pe_call (ok_is_contest T TX) (hr.mono (by decide)) (by rfl) T.g_is_contest T.F_is_contest.kp T.b_is_contest .nil pass0 (pa_cons (pv 6) (pa_cons (pv 2) (pa_cons (pv 3) (pa_cons (pv 4) (pa_cons (pv 5) pa_nil)))))))) (pw_or1 (pt_not (pt_val (pe_call (ok_ends_well T) (hr.mono (by decide)) (by rfl) T.g_ends_well T.F_ends_well.kp T.b_ends_well .nil pass0 (pa_cons (pv 3) (pa_cons (pv 4) (pa_cons (pv 5) pa_nil))))))))) (pss_one (ps_ret pe_bl)) pss_nil)
      (pss_cons (ps_if (pt_cmpR op_notBl (pe_call (ok_p_judge_levels T TX) (hr.mono (by decide)) (by rfl) T.g_p_judge_levels T.F_p_judge_levels.kp T.b_p_judge_levels .nil passZ (pa_cons (pv 2) (pa_cons (pv 3) (pa_cons (pv 4) (pa_cons (pe_fld (pv 6) rfl) pa_nil))))) pe_bl (nomark _)) (pss_one (ps_ret pe_bl)) pss_nil)
      (pss_cons (ps_set (i := 1) sc_law.nd rfl (by first | exact Or.inl rfl | exact Or.inr rfl) (pe_call (ok_source T) (hr.mono (by decide)) (by rfl) T.g_source T.F_source.kp T.b_source .nil pass0 (pa_cons (pv 0) (pa_cons pe_int pa_nil))))
      (pss_cons (ps_if (pt_not (pt_val (pe_call (ok_one_more T TX) (hr.mono (by decide)) (by rfl) T.g_one_more T.F_one_more.kp T.b_one_more .nil pass0 (pa_cons (pv 1) (pa_cons (pv 2) (pa_cons (pv 3) (pa_cons (pv 4) (pa_cons (pv 5) pa_nil)))))))) (pss_one (ps_ret pe_bl)) pss_nil)
      (pss_cons (ps_set (i := 7) sc_law.nd rfl (by first | exact Or.inl rfl | exact Or.inr rfl) (pe_call (ok_alphabet T) (hr.mono (by decide)) (by rfl) T.g_alphabet T.F_alphabet.kp T.b_alphabet .nil pass0 (pa_cons (pv 1) pa_nil)))
      (pss_cons (ps_set (i := 8) sc_law.nd rfl (by first | exact Or.inl rfl | exact Or.inr rfl) (pe_call (ok_word T) (hr.mono (by decide)) (by rfl) T.g_word T.F_word.kp T.b_word .nil pass0 (pa_cons (pv 1) (pa_cons (pv 7) (pa_cons pe_int pa_nil)))))
      (pss_cons (ps_set (i := 9) sc_law.nd rfl (by first | exact Or.inl rfl | exact Or.inr rfl) (pe_call (ok_second T) (hr.mono (by decide)) (by rfl) T.g_second T.F_second.kp T.b_second .nil pass0 (pa_cons (pv 1) (pa_cons (pv 7) (pa_cons (pv 8) pa_nil)))))
      (pss_cons (ps_set (i := 10) sc_law.nd rfl (by first | exact Or.inl rfl | exact Or.inr rfl) (pe_call (ok_levels T) (hr.mono (by decide)) (by rfl) T.g_levels T.F_levels.kp T.b_levels .nil pass0 (pa_cons (pv 8) (pa_cons (pv 9) pa_nil))))
      (pss_cons (ps_set (i := 11) sc_law.nd rfl (by first | exact Or.inl rfl | exact Or.inr rfl) (pe_make T.mk_Contest (ok_m_Contest_init T TX) (hr.mono (by decide)) (by rfl) T.g_Contest T.b_m_Contest_init .nil passZ (pa_cons (pv 7) (pa_cons (pv 8) (pa_cons (pv 9) pa_nil)))))
      (pss_cons (ps_set (i := 12) sc_law.nd rfl (by first | exact Or.inl rfl | exact Or.inr rfl) (pe_call (ok_kept T) (hr.mono (by decide)) (by rfl) T.g_kept T.F_kept.kp T.b_kept .nil pass0 (pa_cons (pv 5) pa_nil)))
      (pss_cons (ps_set (i := 13) sc_law.nd rfl (by first | exact Or.inl rfl | exact Or.inr rfl) (pe_call (ok_kept T) (hr.mono (by decide)) (by rfl) T.g_kept T.F_kept.kp T.b_kept .nil pass0 (pa_cons (pv 10) pa_nil)))
      (pss_cons (ps_for PassesOwn.never rfl (pi_range1 (by rfl) (T.free_range) (pa_cons (pe_callB call_len (by rfl) (T.free_len) (by decide +kernel) (pa_cons (pv 3) pa_nil)) pa_nil)) (pg_name (i := 14) sc_law.nd rfl (by first | exact Or.inl rfl | exact Or.inr rfl)) (pss_one (ps_for PassesOwn.never rfl (pi_range1 (by rfl) (T.free_range) (pa_cons (pe_callB call_len (by rfl) (T.free_len) (by decide +kernel) (pa_cons (pv 4) pa_nil)) pa_nil)) (pg_name (i := 15) sc_law.nd rfl (by first | exact Or.inl rfl | exact Or.inr rfl)) (pss_cons (ps_if (pt_not (pt_val (pe_call (ok_height_right T TX) (hr.mono (by decide)) (by rfl) T.g_height_right T.F_height_right.kp T.b_height_right .nil pass0 (pa_cons (pv 6) (pa_cons (pv 14) (pa_cons (pv 15) (pa_cons (pv 12) (pa_cons (pe_callB call_len (by rfl) (T.free_len) (by decide +kernel) (pa_cons (pv 5) pa_nil)) pa_nil)))))))) (pss_one (ps_ret pe_bl)) pss_nil)
      (pss_one (ps_if (PW.pt (pw_and (pt_cmpR op_lt (pv 14) (pe_callB call_len (by rfl) (T.free_len) (by decide +kernel) (pa_cons (pv 8) pa_nil)) (nomark _)) (pw_and1 (pt_cmpR op_lt (pv 15) (pe_callB call_len (by rfl) (T.free_len) (by decide +kernel) (pa_cons (pv 9) pa_nil)) (nomark _))))) (pss_cons (ps_if (pt_not (pt_val (pe_call (ok_height_right T TX) (hr.mono (by decide)) (by rfl) T.g_height_right T.F_height_right.kp T.b_height_right .nil pass0 (pa_cons (pv 11) (pa_cons (pv 14) (pa_cons (pv 15) (pa_cons (pv 13) (pa_cons (pe_callB call_len (by rfl) (T.free_len) (by decide +kernel) (pa_cons (pv 10) pa_nil)) pa_nil)))))))) (pss_one (ps_ret pe_bl)) pss_nil)
      (pss_one (ps_if (pt_not (pt_val (pe_call (ok_height_right T TX) (hr.mono (by decide)) (by rfl) T.g_height_right T.F_height_right.kp T.b_height_right .nil pass0 (pa_cons (pv 6) (pa_cons (pv 14) (pa_cons (pv 15) (pa_cons (pv 12) (pa_cons (pe_callB call_len (by rfl) (T.free_len) (by decide +kernel) (pa_cons (pv 5) pa_nil)) pa_nil)))))))) (pss_one (ps_ret pe_bl)) pss_nil))) pss_nil))))))
      (pss_cons (ps_set (i := 1) sc_law.nd rfl (by first | exact Or.inl rfl | exact Or.inr rfl) (pe_call (ok_source T) (hr.mono (by decide)) (by rfl) T.g_source T.F_source.kp T.b_source .nil pass0 (pa_cons (pv 0) (pa_cons pe_int pa_nil))))
      (pss_cons (ps_if (pt_cmpR op_lt (pe_callB call_len (by rfl) (T.free_len) (by decide +kernel) (pa_cons (pv 3) pa_nil)) pe_int (nomark _)) (pss_cons (ps_set (i := 16) sc_law.nd rfl (by first | exact Or.inl rfl | exact Or.inr rfl) (pe_call (ok_moved T) (hr.mono (by decide)) (by rfl) T.g_moved T.F_moved.kp T.b_moved .nil pass0 (pa_cons (pe_call (ok_pick T) (hr.mono (by decide)) (by rfl) T.g_pick T.F_pick.kp T.b_pick .nil pass0 (pa_cons (pv 1) (pa_cons pe_int pa_nil))) (pa_cons (pv 2) (pa_cons (pv 3) (pa_cons (pv 4) (pa_cons (pv 5) pa_nil)))))))
      (pss_cons (ps_set (i := 17) sc_law.nd rfl (by first | exact Or.inl rfl | exact Or.inr rfl) (pe_make T.mk_Contest (ok_m_Contest_init T TX) (hr.mono (by decide)) (by rfl) T.g_Contest T.b_m_Contest_init .nil passZ (pa_cons (pe_ix ix_tup (pv 16) pe_int (fun _ _ => rfl)) (pa_cons (pe_ix ix_tup (pv 16) pe_int (fun _ _ => rfl)) (pa_cons (pe_ix ix_tup (pv 16) pe_int (fun _ _ => rfl)) pa_nil)))))
      (pss_one (ps_if (pt_not (pt_val (pe_call (ok_is_contest T TX) (hr.mono (by decide)) (by rfl) T.g_is_contest T.F_is_contest.kp T.b_is_contest .nil pass0 (pa_cons (pv 17) (pa_cons (pe_ix ix_tup (pv 16) pe_int (fun _ _ => rfl)) (pa_cons (pe_ix ix_tup (pv 16) pe_int (fun _ _ => rfl)) (pa_cons (pe_ix ix_tup (pv 16) pe_int (fun _ _ => rfl)) (pa_cons (pe_ix ix_tup (pv 16) pe_int (fun _ _ => rfl)) pa_nil)))))))) (pss_one (ps_ret pe_bl)) pss_nil)))) pss_nil)
      (pss_cons (ps_for PassesOwn.never rfl (pi_range1 (by rfl) (T.free_range) (pa_cons pe_int pa_nil)) (pg_name (i := 18) sc_law.nd rfl (by first | exact Or.inl rfl | exact Or.inr rfl)) (pss_cons (ps_if (pt_not (pt_val (pe_callG (ok_places_refused T TX) hgd (hr.mono (by decide)) (by rfl) T.g_places_refused T.F_places_refused.kp T.b_places_refused (pa_cons (pv 1) (pa_cons (pv 6) (pa_cons (pv 3) (pa_cons (pv 4) pa_nil))))))) (pss_one (ps_ret pe_bl)) pss_nil)
      (pss_cons (ps_set (i := 19) sc_law.nd rfl (by first | exact Or.inl rfl | exact Or.inr rfl) (pe_callG (ok_wrong_ask T TX) hgd (hr.mono (by decide)) (by rfl) T.g_wrong_ask T.F_wrong_ask.kp T.b_wrong_ask (pa_cons (pv 1) (pa_cons (pv 2) (pa_cons (pv 3) (pa_cons (pv 4) pa_nil))))))
      (pss_one (ps_if (pt_cmpR (op_neP hr.units) (pe_callG (ok_refused T TX) hgd hr (by rfl) T.g_refused T.F_refused.kp T.b_refused (pa_cons (pe_ix ix_tup (pv 19) pe_int (fun _ _ => rfl)) (pa_cons (pe_ix ix_tup (pv 19) pe_int (fun _ _ => rfl)) (pa_cons (pe_ix ix_tup (pv 19) pe_int (fun _ _ => rfl)) pa_nil)))) (pe_ix ix_tup (pv 19) pe_int (fun _ _ => rfl)) (nomark _)) (pss_one (ps_ret pe_bl)) pss_nil)))))
      (pss_cons (ps_if (pt_not (pt_val (pe_call (ok_is_contest T TX) (hr.mono (by decide)) (by rfl) T.g_is_contest T.F_is_contest.kp T.b_is_contest .nil pass0 (pa_cons (pv 11) (pa_cons (pv 7) (pa_cons (pv 8) (pa_cons (pv 9) (pa_cons (pv 10) pa_nil)))))))) (pss_one (ps_ret pe_bl)) pss_nil)
      (pss_one (ps_ret (pe_call (ok_is_contest T TX) (hr.mono (by decide)) (by rfl) T.g_is_contest T.F_is_contest.kp T.b_is_contest .nil pass0 (pa_cons (pv 6) (pa_cons (pv 2) (pa_cons (pv 3) (pa_cons (pv 4) (pa_cons (pv 5) pa_nil)))))))))))))))))))))))))))))
end
end K52
set_option Elab.async false
set_option linter.all false
set_option maxRecDepth 100000
set_option maxHeartbeats 8000000
/-! what the head gives, as premises -/
namespace K52
open PySem PySem.Spec PyProof.Rows L2 Sh PySem.HandSPX
open SX (S)
def spL (K : PySem.W.Frag) : Sp := fun vs H Q _ => ∃ (B : Hp) (M : List (Addr × HO)) (sc : Addr) (ns : List Int), vs = [.ref sc] ∧ Hs B M H ∧ SqL K B sc (ns.map V.int) ∧ ns.length ≤ 63 ∧ (∀ z ∈ ns, Builtin.Int.intBits z ≤ 1048576) ∧ ∀ (H' : Hp), Q (.bl true) H'
theorem walk {l : PySem.W.OpenLaw} {q : Program} {loose : List Str} {XP : (Str → Option Value) → Heap → Prop} {YP : World → Heap → Prop} {d : DefRec} {K : Params → PySem.W.Frag} (hn : l.most = some 63) (hdf : d.params.defaults = [])
    (hY : ∀ (w : World) (h : Heap), YP w h → (K w.params).In h)
    (F : ∀ (w : World) (mg : Str → Option Value) (fa : Addr) (h : Heap), (K w.params).In h → h.Ns mainGlobals mg → mg d.name = some (.ref fa) →
      ∃ fd : FuncData, (∀ (s : Shared) (u : Value), BindsTo s fd ⟨[u], []⟩ [("_law_script", u)]) ∧ ∀ base : Heap, (K w.params).In base → base.Ns mainGlobals mg → FnG l.prog w (K w.params) mg base CX0 9 fa fd ["_law_script"] (spL (K w.params))) :
    PySem.W.WalkO q loose XP YP l.row.toRowW d [] (fun f vs => PySem.call f vs) :=
  walk_ofG (n := 63) (k := 9) (x := "_law_script") (sp := fun w => spL (K w.params)) hn (by decide) hdf rfl ⟨rfl, by decide, by decide⟩ hY F (fun _ H a ns hl hb _ hS => ⟨H, [], a, ns, rfl, Hs.start H, hS, hl, hb, fun _ => rfl⟩)
section
variable {K : PySem.W.Frag} {h : Heap} {mg : Str → Option Value}
theorem fnT (X : K.In h) (G : h.Ns mainGlobals mg) {x : Str} {st : Stmt} {f : Addr} {od an : Option Addr} {sl : Array (Option Value)} {oc kV dc pm cd ct : Value} (a : PySem.W.nsIn K mainGlobals x = some (some (.ref f)))
    (l : K.lookup f = some ⟨oc, od, .func (PySem.W.fnOf x x (defArgs st) (defBody st) (defScope st) .none kV dc pm an cd ct), sl⟩) (c : PySem.W.codeIn K cd x = true) (k : PySem.W.keepIn K (.ref f) = true) :
    ∃ (f : Addr) (fd : FuncData), mg x = some (.ref f) ∧ Fun K x x st f fd := ⟨f, _, PySem.W.mg_of X G a, fun_mk l c k⟩
theorem nmT (X : K.In h) (G : h.Ns mainGlobals mg) {x : Str} {v : Value} (a : PySem.W.nsIn K mainGlobals x = some (some v)) : mg x = some v := PySem.W.mg_of X G a
theorem noT (X : K.In h) (G : h.Ns mainGlobals mg) {x : Str} (a : PySem.W.nsIn K mainGlobals x = some none) : mg x = none := PySem.W.mg_none_of X G a
theorem stT (X : K.In h) (G : h.Ns mainGlobals mg) {x z : Str} {t : Tok} (a : PySem.W.nsIn K mainGlobals x = some (some (.str z t))) : ∃ t, mg x = some (.str z t) := ⟨t, PySem.W.mg_of X G a⟩
theorem inT (X : K.In h) (G : h.Ns mainGlobals mg) {x : Str} {z : Int} {t : Tok} (a : PySem.W.nsIn K mainGlobals x = some (some (.int z t))) : ∃ t, mg x = some (.int z t) := ⟨t, PySem.W.mg_of X G a⟩
theorem oxT {P : Program} {C D fI cc cda N : Addr} {f nm q qual file : Str} {good : Value → Prop} {bs bm : List Value} {sn : List Str} {sub : List Value} {ab : Bool} {col : Option Bool} {dd cld cdd od an : Option Addr} {k0 k1 k2 k3 k5 : Option Value} {cdD : ClassData} {cl ccl oc doc pm ct : Value} {csl ccs osl : Array (Option Value)} {vs : Array Value} {tf : Tok}
    {te : Expr} {p1 p2 q1 q2 q3 q4 q5 q6 q7 q8 q9 : Pos}
    (a : K.lookup C = some (excClassObj nm q C N bs bm true sn sub ab col dd k0 k1 k2 k3 k5 "ValueError.__new__")) (b : refsVE bm = true) (sa : PySem.W.findIn K (.ref C) "__setattr__" = some (some (.builtin "object.__setattr__"))) (ga : PySem.W.findIn K (.ref C) "__getattribute__" = some (some (.builtin "BaseException.__getattribute__")))
    (gg : PySem.W.findIn K (.ref C) "__getattr__" = some none) (nf : PySem.W.findIn K (.ref C) f = some none) (kC : PySem.W.keepIn K (.ref C) = true) (eC : PySem.W.subIn K (.ref C) (.type "BaseException") = some true) (eV : PySem.W.subIn K (.ref C) (.type "ValueError") = some true) (tC : PySem.W.typeIn K (.ref C) = some (.type "type")) (hC : PySem.W.hasDictIn K C = true)
    (op : PySem.W.nsIn K cStatics "thirdparty.any" = some none) (i : PySem.W.findIn K (.ref C) "__init__" = some (some (.ref fI))) (tI : PySem.W.typeIn K (.ref fI) = some (.type "function"))
    (l : K.lookup fI = some ⟨oc, od, .func (PySem.W.ksFn "__init__" qual (OwnX.iA f p1 p2) (OwnX.iB f te q1 q2 q3 q4 q5 q6 q7 q8 q9) (OwnX.iS f) .none .none doc pm an (.ref cda) ct cc), osl⟩) (c : PySem.W.codeIn K (.ref cda) qual = true)
    (lc : K.lookup cc = some ⟨cl, cld, .cell (some (.ref D)), csl⟩) (lD : PySem.W.clsIn K D = some cdD) (m : PySem.W.mroIn K C (.ref D) = some true) (su : PySem.W.ks_superIn K C D "__init__" = some (some (.builtin "ValueError.__init__")))
    (la : K.lookup cda = some ⟨ccl, cdd, .fields vs, ccs⟩) (v2 : vs[2]? = some (.str file tf)) (fl : ((P.main.file : Str) == file) = true) (ev : OwnX.TextEv te f good) (cv : OwnX.CallEv te q1 q2 q3 q4)
    (fS : (f == ("self" : Str)) = false) (fC : (f == ("__class__" : Str)) = false) (fU : (f == ("super" : Str)) = false) (fD : (f == ("__debug__" : Str)) = false)
    (bd : ∀ (s : Shared) (qual : Str) (body : List Stmt) (doc pm cdv ct : Value) (an : Option Addr) (cc : Addr) (p1 p2 : Pos) (a v : Value), BindsTo s (PySem.W.ksFn "__init__" qual (OwnX.iA f p1 p2) body (OwnX.iS f) .none .none doc pm an cdv ct cc) ⟨[a, v], []⟩ [("self", a), (f, v)]) (top : (P.main.scope.names.lookup ("super" : Str)).isSome = false) :
    OwnX.OExc P K C f good :=
  { cls := ⟨nm, q, N, bs, bm, sn, sub, ab, col, dd, k0, k1, k2, k3, k5, a, b⟩, sa := sa, ga := ga, gg := gg, noN := nf, kC := kC, exC := eC, exV := eV, tyC := tC, hdC := hC, opq := op,
    own := ⟨D, fI, cc, cda, i, tI, ⟨cdD, lD⟩, m, su, ⟨cl, cld, csl, lc⟩, ⟨ccl, cdd, vs, ccs, file, tf, la, v2, fl⟩, qual, oc, od, doc, pm, an, ct, osl, te, p1, p2, q1, q2, q3, q4, q5, q6, q7, q8, q9, l, c, ev, cv⟩, fS := fS, fC := fC, fU := fU, fD := fD, bd := bd, top := top }
theorem ecT {D : Addr} (hg : PySem.W.findIn K (.ref D) "__getattribute__" = some (some (.builtin "BaseException.__getattribute__"))) (hk : PySem.W.findIn K (.ref D) "__getattr__" = some none) (hs : PySem.W.subIn K (.ref D) (.type "BaseException") = some true) (hd : PySem.W.hasDictIn K D = true)
    (ha : PySem.W.findIn K (.ref D) "__class__" = some (some (.builtin "object.__class__"))) (hn : PySem.W.specialIn K (.builtin "object.__class__") "__get__" = some (some (.builtin "getset_descriptor.__get__"))) (ht : PySem.W.takesIn K (.builtin "object.__class__") = some true) (hm : PySem.W.mroIn K D (.type "object") = some true) : ExcC K D :=
  ⟨hg, hk, hs, hd, ha, hn, ht, hm⟩
theorem exT {C S : Addr} {b : Bool} (h1 : PySem.W.subIn K (.ref S) (.type "BaseException") = some true) (h2 : PySem.W.isClsIn K S = true) (h3 : PySem.W.typeIn K (.ref S) = some (.type "type")) (h4 : PySem.W.subIn K (.ref C) (.ref S) = some b) : PySem.W.exmOne K (.ref C) (.ref S) = some b := by
  have e1 : (PySem.W.subIn K (.ref S) (.type "BaseException") == some true) = true := by rw [h1] <;> rfl
  have e2 : ((PySem.W.clsIn K S).isSome && PySem.W.typeIn K (.ref S) == some (.type "type")) = true := by
    have h2' : (PySem.W.clsIn K S).isSome = true := h2
    rw [h2', h3] <;> rfl
  show (if (PySem.W.subIn K (.ref S) (.type "BaseException") == some true) = true then (if ((PySem.W.clsIn K S).isSome && PySem.W.typeIn K (.ref S) == some (.type "type")) = true then PySem.W.subIn K (.ref C) (.ref S) else none) else none) = some b
  rw [if_pos e1, if_pos e2]
  exact h4
theorem kiT {C S : Addr} {b : Bool} (h1 : (Value.ref C == Value.ref S) = false) (h2 : PySem.W.isClsIn K S = true) (h3 : PySem.W.typeIn K (.ref S) = some (.type "type")) (h4 : PySem.W.subIn K (.ref C) (.ref S) = some b) : PySem.W.kitOne K (.ref C) (.ref S) = some b := by
  have e2 : ((PySem.W.clsIn K S).isSome && PySem.W.typeIn K (.ref S) == some (.type "type")) = true := by
    have h2' : (PySem.W.clsIn K S).isSome = true := h2
    rw [h2', h3] <;> rfl
  show (if (Value.ref C == Value.ref S) = true then some true else if ((PySem.W.clsIn K S).isSome && PySem.W.typeIn K (.ref S) == some (.type "type")) = true then PySem.W.subIn K (.ref C) (.ref S) else none) = some b
  rw [h1, if_neg (by decide), if_pos e2]
  exact h4
theorem kiS {C S : Addr} (h1 : (Value.ref C == Value.ref S) = true) : PySem.W.kitOne K (.ref C) (.ref S) = some true := by
  show (if (Value.ref C == Value.ref S) = true then some true else _) = some true
  rw [if_pos h1]
end
theorem mtT {K : PySem.W.Frag} {C : Addr} {x qual : Str} {st : Stmt} {f : Addr} {od an : Option Addr} {sl : Array (Option Value)} {oc kV dc pm cd ct : Value} (a : PySem.W.findIn K (.ref C) x = some (some (.ref f))) (n : PySem.W.isFn K (.ref f) = true)
    (l : K.lookup f = some ⟨oc, od, .func (PySem.W.fnOf x qual (defArgs st) (defBody st) (defScope st) .none kV dc pm an cd ct), sl⟩) (c : PySem.W.codeIn K cd qual = true) (k : PySem.W.keepIn K (.ref f) = true) :
    ∃ (f : Addr) (fd : FuncData), PySem.W.findIn K (.ref C) x = some (some (.ref f)) ∧ PySem.W.isFn K (.ref f) = true ∧ Fun K x qual st f fd := ⟨f, _, a, n, fun_mk l c k⟩
theorem clT {K : PySem.W.Frag} {C : Addr} (a : PySem.W.plainGet K C Str.empty = true) (b : PySem.W.hasDictIn K C = true) (c : PySem.W.plainOver K C = true) (d : PySem.W.findIn K (.ref C) "__setattr__" = some (some (.builtin "object.__setattr__"))) : Cls K C := ⟨a, b, c, d⟩
theorem all_mk {l : PySem.W.OpenLaw} {w : World} {K : PySem.W.Frag} {h : Heap} {mg : Str → Option Value} {fa C_SaidError C_WrongThing C_BadAlphabet C_BadPlace C_BadRow C_TooLong C_Contest : Addr} (X : K.In h) (G : h.Ns mainGlobals mg) (hfa : mg "law" = some (.ref fa))
    (n_SaidError : mg "SaidError" = some (.ref C_SaidError))
    (n_WrongThing : mg "WrongThing" = some (.ref C_WrongThing))
    (n_BadAlphabet : mg "BadAlphabet" = some (.ref C_BadAlphabet))
    (n_BadPlace : mg "BadPlace" = some (.ref C_BadPlace))
    (n_BadRow : mg "BadRow" = some (.ref C_BadRow))
    (n_TooLong : mg "TooLong" = some (.ref C_TooLong))
    (n_Contest : mg "Contest" = some (.ref C_Contest))
    (e_p_is_integer : ∃ (f : Addr) (fd : FuncData), mg "is_integer" = some (.ref f) ∧ Fun K "is_integer" "is_integer" s_p_is_integer f fd)
    (e_p_is_listed : ∃ (f : Addr) (fd : FuncData), mg "is_listed" = some (.ref f) ∧ Fun K "is_listed" "is_listed" s_p_is_listed f fd)
    (e_p_is_alphabet : ∃ (f : Addr) (fd : FuncData), mg "is_alphabet" = some (.ref f) ∧ Fun K "is_alphabet" "is_alphabet" s_p_is_alphabet f fd)
    (e_p_check_alphabet : ∃ (f : Addr) (fd : FuncData), mg "check_alphabet" = some (.ref f) ∧ Fun K "check_alphabet" "check_alphabet" s_p_check_alphabet f fd)
    (e_p_check_row : ∃ (f : Addr) (fd : FuncData), mg "check_row" = some (.ref f) ∧ Fun K "check_row" "check_row" s_p_check_row f fd)
    (e_p_check_place : ∃ (f : Addr) (fd : FuncData), mg "check_place" = some (.ref f) ∧ Fun K "check_place" "check_place" s_p_check_place f fd)
    (e_p_check_contest : ∃ (f : Addr) (fd : FuncData), mg "check_contest" = some (.ref f) ∧ Fun K "check_contest" "check_contest" s_p_check_contest f fd)
    (e_p_exchanged_table : ∃ (f : Addr) (fd : FuncData), mg "exchanged_table" = some (.ref f) ∧ Fun K "exchanged_table" "exchanged_table" s_p_exchanged_table f fd)
    (e_p_places_beyond : ∃ (f : Addr) (fd : FuncData), mg "places_beyond" = some (.ref f) ∧ Fun K "places_beyond" "places_beyond" s_p_places_beyond f fd)
    (e_p_barred_places : ∃ (f : Addr) (fd : FuncData), mg "barred_places" = some (.ref f) ∧ Fun K "barred_places" "barred_places" s_p_barred_places f fd)
    (e_p_unanswered : ∃ (f : Addr) (fd : FuncData), mg "unanswered" = some (.ref f) ∧ Fun K "unanswered" "unanswered" s_p_unanswered f fd)
    (e_p_lost_move : ∃ (f : Addr) (fd : FuncData), mg "lost_move" = some (.ref f) ∧ Fun K "lost_move" "lost_move" s_p_lost_move f fd)
    (e_p_next_table : ∃ (f : Addr) (fd : FuncData), mg "next_table" = some (.ref f) ∧ Fun K "next_table" "next_table" s_p_next_table f fd)
    (e_p_level_tables : ∃ (f : Addr) (fd : FuncData), mg "level_tables" = some (.ref f) ∧ Fun K "level_tables" "level_tables" s_p_level_tables f fd)
    (e_p_listed_level : ∃ (f : Addr) (fd : FuncData), mg "listed_level" = some (.ref f) ∧ Fun K "listed_level" "listed_level" s_p_listed_level f fd)
    (e_p_table_height : ∃ (f : Addr) (fd : FuncData), mg "table_height" = some (.ref f) ∧ Fun K "table_height" "table_height" s_p_table_height f fd)
    (e_p_table_of_level : ∃ (f : Addr) (fd : FuncData), mg "table_of_level" = some (.ref f) ∧ Fun K "table_of_level" "table_of_level" s_p_table_of_level f fd)
    (e_p_is_answered : ∃ (f : Addr) (fd : FuncData), mg "is_answered" = some (.ref f) ∧ Fun K "is_answered" "is_answered" s_p_is_answered f fd)
    (e_p_judge_levels : ∃ (f : Addr) (fd : FuncData), mg "judge_levels" = some (.ref f) ∧ Fun K "judge_levels" "judge_levels" s_p_judge_levels f fd)
    (e_source : ∃ (f : Addr) (fd : FuncData), mg "_law_source" = some (.ref f) ∧ Fun K "_law_source" "_law_source" s_source f fd)
    (e_pick : ∃ (f : Addr) (fd : FuncData), mg "_law_pick" = some (.ref f) ∧ Fun K "_law_pick" "_law_pick" s_pick f fd)
    (e_alphabet : ∃ (f : Addr) (fd : FuncData), mg "_law_alphabet" = some (.ref f) ∧ Fun K "_law_alphabet" "_law_alphabet" s_alphabet f fd)
    (e_word : ∃ (f : Addr) (fd : FuncData), mg "_law_word" = some (.ref f) ∧ Fun K "_law_word" "_law_word" s_word f fd)
    (e_is_number : ∃ (f : Addr) (fd : FuncData), mg "_law_is_number" = some (.ref f) ∧ Fun K "_law_is_number" "_law_is_number" s_is_number f fd)
    (e_second : ∃ (f : Addr) (fd : FuncData), mg "_law_second" = some (.ref f) ∧ Fun K "_law_second" "_law_second" s_second f fd)
    (e_two_rows : ∃ (f : Addr) (fd : FuncData), mg "_law_two_rows" = some (.ref f) ∧ Fun K "_law_two_rows" "_law_two_rows" s_two_rows f fd)
    (e_same : ∃ (f : Addr) (fd : FuncData), mg "_law_same" = some (.ref f) ∧ Fun K "_law_same" "_law_same" s_same f fd)
    (e_beyond : ∃ (f : Addr) (fd : FuncData), mg "_law_beyond" = some (.ref f) ∧ Fun K "_law_beyond" "_law_beyond" s_beyond f fd)
    (e_answered : ∃ (f : Addr) (fd : FuncData), mg "_law_answered" = some (.ref f) ∧ Fun K "_law_answered" "_law_answered" s_answered f fd)
    (e_below : ∃ (f : Addr) (fd : FuncData), mg "_law_below" = some (.ref f) ∧ Fun K "_law_below" "_law_below" s_below f fd)
    (e_levels : ∃ (f : Addr) (fd : FuncData), mg "_law_levels" = some (.ref f) ∧ Fun K "_law_levels" "_law_levels" s_levels f fd)
    (e_wrong_ask : ∃ (f : Addr) (fd : FuncData), mg "_law_wrong_ask" = some (.ref f) ∧ Fun K "_law_wrong_ask" "_law_wrong_ask" s_wrong_ask f fd)
    (e_refused : ∃ (f : Addr) (fd : FuncData), mg "_law_refused" = some (.ref f) ∧ Fun K "_law_refused" "_law_refused" s_refused f fd)
    (e_is_levels : ∃ (f : Addr) (fd : FuncData), mg "_law_is_levels" = some (.ref f) ∧ Fun K "_law_is_levels" "_law_is_levels" s_is_levels f fd)
    (e_is_contest : ∃ (f : Addr) (fd : FuncData), mg "_law_is_contest" = some (.ref f) ∧ Fun K "_law_is_contest" "_law_is_contest" s_is_contest f fd)
    (e_kept : ∃ (f : Addr) (fd : FuncData), mg "_law_kept" = some (.ref f) ∧ Fun K "_law_kept" "_law_kept" s_kept f fd)
    (e_height_right : ∃ (f : Addr) (fd : FuncData), mg "_law_height_right" = some (.ref f) ∧ Fun K "_law_height_right" "_law_height_right" s_height_right f fd)
    (e_place_refused : ∃ (f : Addr) (fd : FuncData), mg "_law_place_refused" = some (.ref f) ∧ Fun K "_law_place_refused" "_law_place_refused" s_place_refused f fd)
    (e_places_refused : ∃ (f : Addr) (fd : FuncData), mg "_law_places_refused" = some (.ref f) ∧ Fun K "_law_places_refused" "_law_places_refused" s_places_refused f fd)
    (e_moved : ∃ (f : Addr) (fd : FuncData), mg "_law_moved" = some (.ref f) ∧ Fun K "_law_moved" "_law_moved" s_moved f fd)
    (e_one_more : ∃ (f : Addr) (fd : FuncData), mg "_law_one_more" = some (.ref f) ∧ Fun K "_law_one_more" "_law_one_more" s_one_more f fd)
    (e_ends_well : ∃ (f : Addr) (fd : FuncData), mg "_law_ends_well" = some (.ref f) ∧ Fun K "_law_ends_well" "_law_ends_well" s_ends_well f fd)
    (e_law : ∃ (f : Addr) (fd : FuncData), mg "law" = some (.ref f) ∧ Fun K "law" "law" s_law f fd)
    (e_m_Contest_init : ∃ (f : Addr) (fd : FuncData), PySem.W.findIn K (.ref C_Contest) "__init__" = some (some (.ref f)) ∧ PySem.W.isFn K (.ref f) = true ∧ Fun K "__init__" "Contest.__init__" s_m_Contest_init f fd)
    (e_m_Contest_parting_height : ∃ (f : Addr) (fd : FuncData), PySem.W.findIn K (.ref C_Contest) "parting_height" = some (some (.ref f)) ∧ PySem.W.isFn K (.ref f) = true ∧ Fun K "parting_height" "Contest.parting_height" s_m_Contest_parting_height f fd)
    (cls_Contest : Cls K C_Contest) (mm_Contest : PySem.W.makesIn K C_Contest = true) (mk_Contest : PySem.W.keepIn K (.ref C_Contest) = true)
    (no_Contest_alphabet : NoAttr K C_Contest "alphabet")
    (no_Contest_row : NoAttr K C_Contest "row")
    (no_Contest_other : NoAttr K C_Contest "other")
    (no_Contest_tables : NoAttr K C_Contest "tables")
    (no_Contest_levels : NoAttr K C_Contest "levels")
    (free_len : mg "len" = none)
    (free_range : mg "range" = none)
    (free_int : mg "int" = none)
    (free_str : mg "str" = none)
    (free_bool : mg "bool" = none)
    (free_list : mg "list" = none)
    (free_tuple : mg "tuple" = none)
    (free_isinstance : mg "isinstance" = none)
    (free_abs : mg "abs" = none)
    (free_all : mg "all" = none)
    (free_any : mg "any" = none)
    (free_repr : mg "repr" = none)
    (free_enumerate : mg "enumerate" = none)
    (free_super : mg "super" = none)
    (free_reversed : mg "reversed" = none)
    (free_sorted : mg "sorted" = none)
    (free_ValueError : mg "ValueError" = none)
    (kc_LETTERS : ∃ t, mg "LETTERS" = some (.str "abcdefgh" t))
    (kc_LONGEST : ∃ t, mg "LONGEST" = some (.int 200 t))
    (kc_LC : ∃ t, mg "LONGEST_CONTEST" = some (.int 12 t))
    (x_BadAlphabet : OwnX.OExc l.prog K C_BadAlphabet "thing" (fun _ => True))
    (c_BadAlphabet : ExcC K C_BadAlphabet)
    (x_BadPlace : OwnX.OExc l.prog K C_BadPlace "thing" (fun _ => True))
    (c_BadPlace : ExcC K C_BadPlace)
    (x_BadRow : OwnX.OExc l.prog K C_BadRow "at" OwnX.goodI)
    (c_BadRow : ExcC K C_BadRow)
    (x_TooLong : OwnX.OExc l.prog K C_TooLong "number" (fun _ => True))
    (c_TooLong : ExcC K C_TooLong)
    (m_0 : PySem.W.exmOne K (.ref C_BadAlphabet) (.ref C_BadAlphabet) = some true)
    (m_1 : PySem.W.exmOne K (.ref C_BadRow) (.ref C_BadAlphabet) = some false)
    (m_2 : PySem.W.exmOne K (.ref C_BadRow) (.ref C_BadRow) = some true)
    (m_3 : PySem.W.exmOne K (.ref C_TooLong) (.ref C_BadAlphabet) = some false)
    (m_4 : PySem.W.exmOne K (.ref C_TooLong) (.ref C_BadRow) = some false)
    (m_5 : PySem.W.exmOne K (.ref C_TooLong) (.ref C_TooLong) = some true)
    (m_6 : PySem.W.exmOne K (.ref C_BadPlace) (.ref C_BadPlace) = some true)
    (k_0 : PySem.W.kitOne K (.ref C_BadAlphabet) (.ref C_WrongThing) = some true)
    (k_1 : PySem.W.kitOne K (.ref C_BadAlphabet) (.ref C_SaidError) = some true)
    (k_2 : PySem.W.kitOne K (.ref C_BadRow) (.ref C_SaidError) = some true)
    (k_3 : PySem.W.kitOne K (.ref C_BadRow) (.ref C_WrongThing) = some false)
    (k_4 : PySem.W.kitOne K (.ref C_TooLong) (.ref C_SaidError) = some true)
    (k_5 : PySem.W.kitOne K (.ref C_TooLong) (.ref C_WrongThing) = some false)
    (k_6 : PySem.W.kitOne K (.ref C_BadPlace) (.ref C_WrongThing) = some true)
    (k_7 : PySem.W.kitOne K (.ref C_BadPlace) (.ref C_SaidError) = some true)
    (v_0 : PySem.W.kitOne K (.ref C_BadAlphabet) (.type "ValueError") = some true)
    : ∃ fd : FuncData, (∀ (s : Shared) (u : Value), BindsTo s fd ⟨[u], []⟩ [("_law_script", u)]) ∧ ∀ base : Heap, K.In base → base.Ns mainGlobals mg → FnG l.prog w K mg base CX0 9 fa fd ["_law_script"] (spL K) := by
  obtain ⟨f_p_is_integer, d_p_is_integer, g_p_is_integer, F_p_is_integer⟩ := e_p_is_integer
  obtain ⟨f_p_is_listed, d_p_is_listed, g_p_is_listed, F_p_is_listed⟩ := e_p_is_listed
  obtain ⟨f_p_is_alphabet, d_p_is_alphabet, g_p_is_alphabet, F_p_is_alphabet⟩ := e_p_is_alphabet
  obtain ⟨f_p_check_alphabet, d_p_check_alphabet, g_p_check_alphabet, F_p_check_alphabet⟩ := e_p_check_alphabet
  obtain ⟨f_p_check_row, d_p_check_row, g_p_check_row, F_p_check_row⟩ := e_p_check_row
  obtain ⟨f_p_check_place, d_p_check_place, g_p_check_place, F_p_check_place⟩ := e_p_check_place
  obtain ⟨f_p_check_contest, d_p_check_contest, g_p_check_contest, F_p_check_contest⟩ := e_p_check_contest
  obtain ⟨f_p_exchanged_table, d_p_exchanged_table, g_p_exchanged_table, F_p_exchanged_table⟩ := e_p_exchanged_table
  obtain ⟨f_p_places_beyond, d_p_places_beyond, g_p_places_beyond, F_p_places_beyond⟩ := e_p_places_beyond
  obtain ⟨f_p_barred_places, d_p_barred_places, g_p_barred_places, F_p_barred_places⟩ := e_p_barred_places
  obtain ⟨f_p_unanswered, d_p_unanswered, g_p_unanswered, F_p_unanswered⟩ := e_p_unanswered
  obtain ⟨f_p_lost_move, d_p_lost_move, g_p_lost_move, F_p_lost_move⟩ := e_p_lost_move
  obtain ⟨f_p_next_table, d_p_next_table, g_p_next_table, F_p_next_table⟩ := e_p_next_table
  obtain ⟨f_p_level_tables, d_p_level_tables, g_p_level_tables, F_p_level_tables⟩ := e_p_level_tables
  obtain ⟨f_p_listed_level, d_p_listed_level, g_p_listed_level, F_p_listed_level⟩ := e_p_listed_level
  obtain ⟨f_p_table_height, d_p_table_height, g_p_table_height, F_p_table_height⟩ := e_p_table_height
  obtain ⟨f_p_table_of_level, d_p_table_of_level, g_p_table_of_level, F_p_table_of_level⟩ := e_p_table_of_level
  obtain ⟨f_p_is_answered, d_p_is_answered, g_p_is_answered, F_p_is_answered⟩ := e_p_is_answered
  obtain ⟨f_p_judge_levels, d_p_judge_levels, g_p_judge_levels, F_p_judge_levels⟩ := e_p_judge_levels
  obtain ⟨f_source, d_source, g_source, F_source⟩ := e_source
  obtain ⟨f_pick, d_pick, g_pick, F_pick⟩ := e_pick
  obtain ⟨f_alphabet, d_alphabet, g_alphabet, F_alphabet⟩ := e_alphabet
  obtain ⟨f_word, d_word, g_word, F_word⟩ := e_word
  obtain ⟨f_is_number, d_is_number, g_is_number, F_is_number⟩ := e_is_number
  obtain ⟨f_second, d_second, g_second, F_second⟩ := e_second
  obtain ⟨f_two_rows, d_two_rows, g_two_rows, F_two_rows⟩ := e_two_rows
  obtain ⟨f_same, d_same, g_same, F_same⟩ := e_same
  obtain ⟨f_beyond, d_beyond, g_beyond, F_beyond⟩ := e_beyond
  obtain ⟨f_answered, d_answered, g_answered, F_answered⟩ := e_answered
  obtain ⟨f_below, d_below, g_below, F_below⟩ := e_below
  obtain ⟨f_levels, d_levels, g_levels, F_levels⟩ := e_levels
  obtain ⟨f_wrong_ask, d_wrong_ask, g_wrong_ask, F_wrong_ask⟩ := e_wrong_ask
  obtain ⟨f_refused, d_refused, g_refused, F_refused⟩ := e_refused
  obtain ⟨f_is_levels, d_is_levels, g_is_levels, F_is_levels⟩ := e_is_levels
  obtain ⟨f_is_contest, d_is_contest, g_is_contest, F_is_contest⟩ := e_is_contest
  obtain ⟨f_kept, d_kept, g_kept, F_kept⟩ := e_kept
  obtain ⟨f_height_right, d_height_right, g_height_right, F_height_right⟩ := e_height_right
  obtain ⟨f_place_refused, d_place_refused, g_place_refused, F_place_refused⟩ := e_place_refused
  obtain ⟨f_places_refused, d_places_refused, g_places_refused, F_places_refused⟩ := e_places_refused
  obtain ⟨f_moved, d_moved, g_moved, F_moved⟩ := e_moved
  obtain ⟨f_one_more, d_one_more, g_one_more, F_one_more⟩ := e_one_more
  obtain ⟨f_ends_well, d_ends_well, g_ends_well, F_ends_well⟩ := e_ends_well
  obtain ⟨f_law, d_law, g_law, F_law⟩ := e_law
  obtain ⟨f_m_Contest_init, d_m_Contest_init, i_m_Contest_init, n_m_Contest_init, F_m_Contest_init⟩ := e_m_Contest_init
  obtain ⟨f_m_Contest_parting_height, d_m_Contest_parting_height, i_m_Contest_parting_height, n_m_Contest_parting_height, F_m_Contest_parting_height⟩ := e_m_Contest_parting_height
  obtain ⟨t_LETTERS, hc_LETTERS⟩ := kc_LETTERS
  obtain ⟨t_LONGEST, hc_LONGEST⟩ := kc_LONGEST
  obtain ⟨t_LC, hc_LC⟩ := kc_LC
  have e := hfa.symm.trans g_law
  cases e
  let T : Txt K mg w := {
    a_p_is_integer := f_p_is_integer, fd_p_is_integer := d_p_is_integer, F_p_is_integer := F_p_is_integer, g_p_is_integer := g_p_is_integer, b_p_is_integer := F_p_is_integer.binds (ps := ["thing", "low", "high"]) fun _ _ _ _ _ _ us hl => match us, hl with | [_, _, _], _ => rfl,
    a_p_is_listed := f_p_is_listed, fd_p_is_listed := d_p_is_listed, F_p_is_listed := F_p_is_listed, g_p_is_listed := g_p_is_listed, b_p_is_listed := F_p_is_listed.binds (ps := ["thing"]) fun _ _ _ _ _ _ us hl => match us, hl with | [_], _ => rfl,
    a_p_is_alphabet := f_p_is_alphabet, fd_p_is_alphabet := d_p_is_alphabet, F_p_is_alphabet := F_p_is_alphabet, g_p_is_alphabet := g_p_is_alphabet, b_p_is_alphabet := F_p_is_alphabet.binds (ps := ["thing"]) fun _ _ _ _ _ _ us hl => match us, hl with | [_], _ => rfl,
    a_p_check_alphabet := f_p_check_alphabet, fd_p_check_alphabet := d_p_check_alphabet, F_p_check_alphabet := F_p_check_alphabet, g_p_check_alphabet := g_p_check_alphabet, b_p_check_alphabet := F_p_check_alphabet.binds (ps := ["thing"]) fun _ _ _ _ _ _ us hl => match us, hl with | [_], _ => rfl,
    a_p_check_row := f_p_check_row, fd_p_check_row := d_p_check_row, F_p_check_row := F_p_check_row, g_p_check_row := g_p_check_row, b_p_check_row := F_p_check_row.binds (ps := ["alphabet", "thing"]) fun _ _ _ _ _ _ us hl => match us, hl with | [_, _], _ => rfl,
    a_p_check_place := f_p_check_place, fd_p_check_place := d_p_check_place, F_p_check_place := F_p_check_place, g_p_check_place := g_p_check_place, b_p_check_place := F_p_check_place.binds (ps := ["row", "thing"]) fun _ _ _ _ _ _ us hl => match us, hl with | [_, _], _ => rfl,
    a_p_check_contest := f_p_check_contest, fd_p_check_contest := d_p_check_contest, F_p_check_contest := F_p_check_contest, g_p_check_contest := g_p_check_contest, b_p_check_contest := F_p_check_contest.binds (ps := ["alphabet", "row", "other"]) fun _ _ _ _ _ _ us hl => match us, hl with | [_, _, _], _ => rfl,
    a_p_exchanged_table := f_p_exchanged_table, fd_p_exchanged_table := d_p_exchanged_table, F_p_exchanged_table := F_p_exchanged_table, g_p_exchanged_table := g_p_exchanged_table, b_p_exchanged_table := F_p_exchanged_table.binds (ps := ["near", "width"]) fun _ _ _ _ _ _ us hl => match us, hl with | [_, _], _ => rfl,
    a_p_places_beyond := f_p_places_beyond, fd_p_places_beyond := d_p_places_beyond, F_p_places_beyond := F_p_places_beyond, g_p_places_beyond := g_p_places_beyond, b_p_places_beyond := F_p_places_beyond.binds (ps := ["place", "size", "word"]) fun _ _ _ _ _ _ us hl => match us, hl with | [_, _, _], _ => rfl,
    a_p_barred_places := f_p_barred_places, fd_p_barred_places := d_p_barred_places, F_p_barred_places := F_p_barred_places, g_p_barred_places := g_p_barred_places, b_p_barred_places := F_p_barred_places.binds (ps := ["line", "covered", "others"]) fun _ _ _ _ _ _ us hl => match us, hl with | [_, _, _], _ => rfl,
    a_p_unanswered := f_p_unanswered, fd_p_unanswered := d_p_unanswered, F_p_unanswered := F_p_unanswered, g_p_unanswered := g_p_unanswered, b_p_unanswered := F_p_unanswered.binds (ps := ["near", "ones", "others"]) fun _ _ _ _ _ _ us hl => match us, hl with | [_, _, _], _ => rfl,
    a_p_lost_move := f_p_lost_move, fd_p_lost_move := d_p_lost_move, F_p_lost_move := F_p_lost_move, g_p_lost_move := g_p_lost_move, b_p_lost_move := F_p_lost_move.binds (ps := ["near", "back", "k", "m"]) fun _ _ _ _ _ _ us hl => match us, hl with | [_, _, _, _], _ => rfl,
    a_p_next_table := f_p_next_table, fd_p_next_table := d_p_next_table, F_p_next_table := F_p_next_table, g_p_next_table := g_p_next_table, b_p_next_table := F_p_next_table.binds (ps := ["near", "back"]) fun _ _ _ _ _ _ us hl => match us, hl with | [_, _], _ => rfl,
    a_p_level_tables := f_p_level_tables, fd_p_level_tables := d_p_level_tables, F_p_level_tables := F_p_level_tables, g_p_level_tables := g_p_level_tables, b_p_level_tables := F_p_level_tables.binds (ps := ["row", "other"]) fun _ _ _ _ _ _ us hl => match us, hl with | [_, _], _ => rfl,
    a_p_listed_level := f_p_listed_level, fd_p_listed_level := d_p_listed_level, F_p_listed_level := F_p_listed_level, g_p_listed_level := g_p_listed_level, b_p_listed_level := F_p_listed_level.binds (ps := ["near"]) fun _ _ _ _ _ _ us hl => match us, hl with | [_], _ => rfl,
    a_p_table_height := f_p_table_height, fd_p_table_height := d_p_table_height, F_p_table_height := F_p_table_height, g_p_table_height := g_p_table_height, b_p_table_height := F_p_table_height.binds (ps := ["tables", "k", "m"]) fun _ _ _ _ _ _ us hl => match us, hl with | [_, _, _], _ => rfl,
    a_p_table_of_level := f_p_table_of_level, fd_p_table_of_level := d_p_table_of_level, F_p_table_of_level := F_p_table_of_level, g_p_table_of_level := g_p_table_of_level, b_p_table_of_level := F_p_table_of_level.binds (ps := ["row", "other", "level"]) fun _ _ _ _ _ _ us hl => match us, hl with | [_, _, _], _ => rfl,
    a_p_is_answered := f_p_is_answered, fd_p_is_answered := d_p_is_answered, F_p_is_answered := F_p_is_answered, g_p_is_answered := g_p_is_answered, b_p_is_answered := F_p_is_answered.binds (ps := ["near", "ahead", "width"]) fun _ _ _ _ _ _ us hl => match us, hl with | [_, _, _], _ => rfl,
    a_p_judge_levels := f_p_judge_levels, fd_p_judge_levels := d_p_judge_levels, F_p_judge_levels := F_p_judge_levels, g_p_judge_levels := g_p_judge_levels, b_p_judge_levels := F_p_judge_levels.binds (ps := ["alphabet", "row", "other", "levels"]) fun _ _ _ _ _ _ us hl => match us, hl with | [_, _, _, _], _ => rfl,
    a_source := f_source, fd_source := d_source, F_source := F_source, g_source := g_source, b_source := F_source.binds (ps := ["_law_script", "_law_place"]) fun _ _ _ _ _ _ us hl => match us, hl with | [_, _], _ => rfl,
    a_pick := f_pick, fd_pick := d_pick, F_pick := F_pick, g_pick := g_pick, b_pick := F_pick.binds (ps := ["_law_source_here", "_law_many"]) fun _ _ _ _ _ _ us hl => match us, hl with | [_, _], _ => rfl,
    a_alphabet := f_alphabet, fd_alphabet := d_alphabet, F_alphabet := F_alphabet, g_alphabet := g_alphabet, b_alphabet := F_alphabet.binds (ps := ["_law_source_here"]) fun _ _ _ _ _ _ us hl => match us, hl with | [_], _ => rfl,
    a_word := f_word, fd_word := d_word, F_word := F_word, g_word := g_word, b_word := F_word.binds (ps := ["_law_source_here", "_law_alphabet_here", "_law_most"]) fun _ _ _ _ _ _ us hl => match us, hl with | [_, _, _], _ => rfl,
    a_is_number := f_is_number, fd_is_number := d_is_number, F_is_number := F_is_number, g_is_number := g_is_number, b_is_number := F_is_number.binds (ps := ["_law_thing", "_law_low", "_law_high"]) fun _ _ _ _ _ _ us hl => match us, hl with | [_, _, _], _ => rfl,
    a_second := f_second, fd_second := d_second, F_second := F_second, g_second := g_second, b_second := F_second.binds (ps := ["_law_source_here", "_law_alphabet_here", "_law_row"]) fun _ _ _ _ _ _ us hl => match us, hl with | [_, _, _], _ => rfl,
    a_two_rows := f_two_rows, fd_two_rows := d_two_rows, F_two_rows := F_two_rows, g_two_rows := g_two_rows, b_two_rows := F_two_rows.binds (ps := ["_law_source_here", "_law_alphabet_here"]) fun _ _ _ _ _ _ us hl => match us, hl with | [_, _], _ => rfl,
    a_same := f_same, fd_same := d_same, F_same := F_same, g_same := g_same, b_same := F_same.binds (ps := ["_law_row", "_law_other"]) fun _ _ _ _ _ _ us hl => match us, hl with | [_, _], _ => rfl,
    a_beyond := f_beyond, fd_beyond := d_beyond, F_beyond := F_beyond, g_beyond := g_beyond, b_beyond := F_beyond.binds (ps := ["_law_place", "_law_size", "_law_later"]) fun _ _ _ _ _ _ us hl => match us, hl with | [_, _, _], _ => rfl,
    a_answered := f_answered, fd_answered := d_answered, F_answered := F_answered, g_answered := g_answered, b_answered := F_answered.binds (ps := ["_law_near", "_law_ones", "_law_others"]) fun _ _ _ _ _ _ us hl => match us, hl with | [_, _, _], _ => rfl,
    a_below := f_below, fd_below := d_below, F_below := F_below, g_below := g_below, b_below := F_below.binds (ps := ["_law_row", "_law_other", "_law_level", "_law_pairs"]) fun _ _ _ _ _ _ us hl => match us, hl with | [_, _, _, _], _ => rfl,
    a_levels := f_levels, fd_levels := d_levels, F_levels := F_levels, g_levels := g_levels, b_levels := F_levels.binds (ps := ["_law_row", "_law_other"]) fun _ _ _ _ _ _ us hl => match us, hl with | [_, _], _ => rfl,
    a_wrong_ask := f_wrong_ask, fd_wrong_ask := d_wrong_ask, F_wrong_ask := F_wrong_ask, g_wrong_ask := g_wrong_ask, b_wrong_ask := F_wrong_ask.binds (ps := ["_law_source_here", "_law_alphabet_here", "_law_row", "_law_other"]) fun _ _ _ _ _ _ us hl => match us, hl with | [_, _, _, _], _ => rfl,
    a_refused := f_refused, fd_refused := d_refused, F_refused := F_refused, g_refused := g_refused, b_refused := F_refused.binds (ps := ["_law_alphabet_here", "_law_row", "_law_other"]) fun _ _ _ _ _ _ us hl => match us, hl with | [_, _, _], _ => rfl,
    a_is_levels := f_is_levels, fd_is_levels := d_is_levels, F_is_levels := F_is_levels, g_is_levels := g_is_levels, b_is_levels := F_is_levels.binds (ps := ["_law_thing", "_law_full"]) fun _ _ _ _ _ _ us hl => match us, hl with | [_, _], _ => rfl,
    a_is_contest := f_is_contest, fd_is_contest := d_is_contest, F_is_contest := F_is_contest, g_is_contest := g_is_contest, b_is_contest := F_is_contest.binds (ps := ["_law_contest", "_law_alphabet_here", "_law_row", "_law_other", "_law_full"]) fun _ _ _ _ _ _ us hl => match us, hl with | [_, _, _, _, _], _ => rfl,
    a_kept := f_kept, fd_kept := d_kept, F_kept := F_kept, g_kept := g_kept, b_kept := F_kept.binds (ps := ["_law_full"]) fun _ _ _ _ _ _ us hl => match us, hl with | [_], _ => rfl,
    a_height_right := f_height_right, fd_height_right := d_height_right, F_height_right := F_height_right, g_height_right := g_height_right, b_height_right := F_height_right.binds (ps := ["_law_contest", "_law_k", "_law_m", "_law_kept_here", "_law_many"]) fun _ _ _ _ _ _ us hl => match us, hl with | [_, _, _, _, _], _ => rfl,
    a_place_refused := f_place_refused, fd_place_refused := d_place_refused, F_place_refused := F_place_refused, g_place_refused := g_place_refused, b_place_refused := F_place_refused.binds (ps := ["_law_contest", "_law_k", "_law_m"]) fun _ _ _ _ _ _ us hl => match us, hl with | [_, _, _], _ => rfl,
    a_places_refused := f_places_refused, fd_places_refused := d_places_refused, F_places_refused := F_places_refused, g_places_refused := g_places_refused, b_places_refused := F_places_refused.binds (ps := ["_law_source_here", "_law_contest", "_law_row", "_law_other"]) fun _ _ _ _ _ _ us hl => match us, hl with | [_, _, _, _], _ => rfl,
    a_moved := f_moved, fd_moved := d_moved, F_moved := F_moved, g_moved := g_moved, b_moved := F_moved.binds (ps := ["_law_way", "_law_alphabet_here", "_law_row", "_law_other", "_law_full"]) fun _ _ _ _ _ _ us hl => match us, hl with | [_, _, _, _, _], _ => rfl,
    a_one_more := f_one_more, fd_one_more := d_one_more, F_one_more := F_one_more, g_one_more := g_one_more, b_one_more := F_one_more.binds (ps := ["_law_source_here", "_law_alphabet_here", "_law_row", "_law_other", "_law_full"]) fun _ _ _ _ _ _ us hl => match us, hl with | [_, _, _, _, _], _ => rfl,
    a_ends_well := f_ends_well, fd_ends_well := d_ends_well, F_ends_well := F_ends_well, g_ends_well := g_ends_well, b_ends_well := F_ends_well.binds (ps := ["_law_row", "_law_other", "_law_full"]) fun _ _ _ _ _ _ us hl => match us, hl with | [_, _, _], _ => rfl,
    a_law := fa, fd_law := d_law, F_law := F_law, g_law := g_law, b_law := F_law.binds (ps := ["_law_script"]) fun _ _ _ _ _ _ us hl => match us, hl with | [_], _ => rfl,
    a_m_Contest_init := f_m_Contest_init, fd_m_Contest_init := d_m_Contest_init, F_m_Contest_init := F_m_Contest_init, b_m_Contest_init := F_m_Contest_init.binds (ps := ["self", "alphabet", "row", "other"]) fun _ _ _ _ _ _ us hl => match us, hl with | [_, _, _, _], _ => rfl,
    a_m_Contest_parting_height := f_m_Contest_parting_height, fd_m_Contest_parting_height := d_m_Contest_parting_height, F_m_Contest_parting_height := F_m_Contest_parting_height, b_m_Contest_parting_height := F_m_Contest_parting_height.binds (ps := ["self", "k", "m"]) fun _ _ _ _ _ _ us hl => match us, hl with | [_, _, _], _ => rfl,
    free_len := free_len,
    free_range := free_range,
    free_int := free_int,
    free_str := free_str,
    free_bool := free_bool,
    free_list := free_list,
    free_tuple := free_tuple,
    free_isinstance := free_isinstance,
    free_abs := free_abs,
    free_all := free_all,
    free_any := free_any,
    free_repr := free_repr,
    free_enumerate := free_enumerate,
    free_super := free_super,
    free_reversed := free_reversed,
    free_sorted := free_sorted,
    free_ValueError := free_ValueError,
    t_LETTERS := t_LETTERS, c_LETTERS := hc_LETTERS,
    t_LONGEST := t_LONGEST, c_LONGEST := hc_LONGEST,
    t_LC := t_LC, c_LC := hc_LC,
    a_Contest := C_Contest, g_Contest := n_Contest, cls_Contest := cls_Contest, mk_Contest := ⟨mm_Contest, i_m_Contest_init, n_m_Contest_init, mk_Contest⟩,
    me_Contest_parting_height := ⟨i_m_Contest_parting_height, n_m_Contest_parting_height, F_m_Contest_parting_height.kp⟩,
    no_Contest_alphabet := no_Contest_alphabet,
    no_Contest_row := no_Contest_row,
    no_Contest_other := no_Contest_other,
    no_Contest_tables := no_Contest_tables,
    no_Contest_levels := no_Contest_levels,
    a_SaidError := C_SaidError, g_SaidError := n_SaidError,
    a_WrongThing := C_WrongThing, g_WrongThing := n_WrongThing,
    a_BadAlphabet := C_BadAlphabet, g_BadAlphabet := n_BadAlphabet,
    a_BadPlace := C_BadPlace, g_BadPlace := n_BadPlace,
    a_BadRow := C_BadRow, g_BadRow := n_BadRow,
    a_TooLong := C_TooLong, g_TooLong := n_TooLong }
  have TX : TxtX T l.prog := {
    x_BadAlphabet := x_BadAlphabet, c_BadAlphabet := c_BadAlphabet,
    x_BadPlace := x_BadPlace, c_BadPlace := c_BadPlace,
    x_BadRow := x_BadRow, c_BadRow := c_BadRow,
    x_TooLong := x_TooLong, c_TooLong := c_TooLong,
    exm := by
      intro p hp
      simp only [List.mem_cons, List.not_mem_nil, or_false] at hp
      rcases hp with rfl | rfl | rfl | rfl | rfl | rfl | rfl
      · exact m_0
      · exact m_1
      · exact m_2
      · exact m_3
      · exact m_4
      · exact m_5
      · exact m_6,
    kits := by
      intro p hp
      simp only [List.mem_cons, List.not_mem_nil, or_false] at hp
      rcases hp with rfl | rfl | rfl | rfl | rfl | rfl | rfl | rfl
      · exact k_0
      · exact k_1
      · exact k_2
      · exact k_3
      · exact k_4
      · exact k_5
      · exact k_6
      · exact k_7,
    kitV := by
      intro p hp
      simp only [List.mem_cons, List.not_mem_nil, or_false] at hp
      rcases hp with rfl
      · exact v_0 }
  have okl : ∀ base : Heap, FnG l.prog w K mg base CX0 9 fa d_law ["_law_script"] (spL K) := fun base => ok_law (base := base) T TX
  clear TX T
  obtain ⟨oc, od, kV, doc, pm, an, cdv, ct, osl, rfl, lk, hcd⟩ := F_law.ex
  exact ⟨_, fun s u => .of_eq rfl, fun base _ _ => okl base⟩
end K52
set_option Elab.async false
set_option linter.all false
open PySem PySem.W PyProof.Rows in
set_option maxRecDepth 100000 in
set_option maxHeartbeats 0 in
theorem PySem.Challenge.cw_saidhere_k52_whole_contest_holds : PySem.Challenge.rw_saidhere_k52_whole_contest.Holds := by
  w_on; o_law; k_head; (case hw => w_witness2)
  k_fill
  refine K52.walk (l := PySem.Challenge.rw_saidhere_k52_whole_contest) rfl rfl (fun w h Y => PySem.W.kIn_of Y) ?F
  case F =>
    intro w mg fa h KX G hmg
    refine' K52.all_mk (l := PySem.Challenge.rw_saidhere_k52_whole_contest) KX G hmg ?n_SaidError ?n_WrongThing ?n_BadAlphabet ?n_BadPlace ?n_BadRow ?n_TooLong ?n_Contest ?e_p_is_integer ?e_p_is_listed ?e_p_is_alphabet ?e_p_check_alphabet ?e_p_check_row ?e_p_check_place ?e_p_check_contest ?e_p_exchanged_table ?e_p_places_beyond ?e_p_barred_places ?e_p_unanswered ?e_p_lost_move ?e_p_next_table ?e_p_level_tables ?e_p_listed_level ?e_p_table_height ?e_p_table_of_level ?e_p_is_answered ?e_p_judge_levels ?e_source ?e_pick ?e_alphabet ?e_word ?e_is_number ?e_second ?e_two_rows ?e_same ?e_beyond ?e_answered ?e_below ?e_levels ?e_wrong_ask ?e_refused ?e_is_levels ?e_is_contest ?e_kept ?e_height_right ?e_place_refused ?e_places_refused ?e_moved ?e_one_more ?e_ends_well ?e_law ?e_m_Contest_init ?e_m_Contest_parting_height ?cls_Contest ?mm_Contest ?mk_Contest ?no_Contest_alphabet ?no_Contest_row ?no_Contest_other ?no_Contest_tables ?no_Contest_levels ?free_len ?free_range ?free_int ?free_str ?free_bool ?free_list ?free_tuple ?free_isinstance ?free_abs ?free_all ?free_any ?free_repr ?free_enumerate ?free_super ?free_reversed ?free_sorted ?free_ValueError ?kc_LETTERS ?kc_LONGEST ?kc_LC ?x_BadAlphabet ?c_BadAlphabet ?x_BadPlace ?c_BadPlace ?x_BadRow ?c_BadRow ?x_TooLong ?c_TooLong ?m_0 ?m_1 ?m_2 ?m_3 ?m_4 ?m_5 ?m_6 ?k_0 ?k_1 ?k_2 ?k_3 ?k_4 ?k_5 ?k_6 ?k_7 ?v_0
    (case n_SaidError => refine' K52.nmT KX G ?a; (case a => k_is))
    (case n_WrongThing => refine' K52.nmT KX G ?a; (case a => k_is))
    (case n_BadAlphabet => refine' K52.nmT KX G ?a; (case a => k_is))
    (case n_BadPlace => refine' K52.nmT KX G ?a; (case a => k_is))
    (case n_BadRow => refine' K52.nmT KX G ?a; (case a => k_is))
    (case n_TooLong => refine' K52.nmT KX G ?a; (case a => k_is))
    (case n_Contest => refine' K52.nmT KX G ?a; (case a => k_is))
    (case e_p_is_integer => refine' K52.fnT KX G ?a ?l ?c ?k; (case a => k_is); (case l => k_is); (case c => k_is); (case k => k_is))
    (case e_p_is_listed => refine' K52.fnT KX G ?a ?l ?c ?k; (case a => k_is); (case l => k_is); (case c => k_is); (case k => k_is))
    (case e_p_is_alphabet => refine' K52.fnT KX G ?a ?l ?c ?k; (case a => k_is); (case l => k_is); (case c => k_is); (case k => k_is))
    (case e_p_check_alphabet => refine' K52.fnT KX G ?a ?l ?c ?k; (case a => k_is); (case l => k_is); (case c => k_is); (case k => k_is))
    (case e_p_check_row => refine' K52.fnT KX G ?a ?l ?c ?k; (case a => k_is); (case l => k_is); (case c => k_is); (case k => k_is))
    (case e_p_check_place => refine' K52.fnT KX G ?a ?l ?c ?k; (case a => k_is); (case l => k_is); (case c => k_is); (case k => k_is))
    (case e_p_check_contest => refine' K52.fnT KX G ?a ?l ?c ?k; (case a => k_is); (case l => k_is); (case c => k_is); (case k => k_is))
    (case e_p_exchanged_table => refine' K52.fnT KX G ?a ?l ?c ?k; (case a => k_is); (case l => k_is); (case c => k_is); (case k => k_is))
    (case e_p_places_beyond => refine' K52.fnT KX G ?a ?l ?c ?k; (case a => k_is); (case l => k_is); (case c => k_is); (case k => k_is))
    (case e_p_barred_places => refine' K52.fnT KX G ?a ?l ?c ?k; (case a => k_is); (case l => k_is); (case c => k_is); (case k => k_is))
    (case e_p_unanswered => refine' K52.fnT KX G ?a ?l ?c ?k; (case a => k_is); (case l => k_is); (case c => k_is); (case k => k_is))
    (case e_p_lost_move => refine' K52.fnT KX G ?a ?l ?c ?k; (case a => k_is); (case l => k_is); (case c => k_is); (case k => k_is))
    (case e_p_next_table => refine' K52.fnT KX G ?a ?l ?c ?k; (case a => k_is); (case l => k_is); (case c => k_is); (case k => k_is))
    (case e_p_level_tables => refine' K52.fnT KX G ?a ?l ?c ?k; (case a => k_is); (case l => k_is); (case c => k_is); (case k => k_is))
    (case e_p_listed_level => refine' K52.fnT KX G ?a ?l ?c ?k; (case a => k_is); (case l => k_is); (case c => k_is); (case k => k_is))
    (case e_p_table_height => refine' K52.fnT KX G ?a ?l ?c ?k; (case a => k_is); (case l => k_is); (case c => k_is); (case k => k_is))
    (case e_p_table_of_level => refine' K52.fnT KX G ?a ?l ?c ?k; (case a => k_is); (case l => k_is); (case c => k_is); (case k => k_is))
    (case e_p_is_answered => refine' K52.fnT KX G ?a ?l ?c ?k; (case a => k_is); (case l => k_is); (case c => k_is); (case k => k_is))
    (case e_p_judge_levels => refine' K52.fnT KX G ?a ?l ?c ?k; (case a => k_is); (case l => k_is); (case c => k_is); (case k => k_is))
    (case e_source => refine' K52.fnT KX G ?a ?l ?c ?k; (case a => k_is); (case l => k_is); (case c => k_is); (case k => k_is))
    (case e_pick => refine' K52.fnT KX G ?a ?l ?c ?k; (case a => k_is); (case l => k_is); (case c => k_is); (case k => k_is))
    (case e_alphabet => refine' K52.fnT KX G ?a ?l ?c ?k; (case a => k_is); (case l => k_is); (case c => k_is); (case k => k_is))
    (case e_word => refine' K52.fnT KX G ?a ?l ?c ?k; (case a => k_is); (case l => k_is); (case c => k_is); (case k => k_is))
    (case e_is_number => refine' K52.fnT KX G ?a ?l ?c ?k; (case a => k_is); (case l => k_is); (case c => k_is); (case k => k_is))
    (case e_second => refine' K52.fnT KX G ?a ?l ?c ?k; (case a => k_is); (case l => k_is); (case c => k_is); (case k => k_is))
    (case e_two_rows => refine' K52.fnT KX G ?a ?l ?c ?k; (case a => k_is); (case l => k_is); (case c => k_is); (case k => k_is))
    (case e_same => refine' K52.fnT KX G ?a ?l ?c ?k; (case a => k_is); (case l => k_is); (case c => k_is); (case k => k_is))
    (case e_beyond => refine' K52.fnT KX G ?a ?l ?c ?k; (case a => k_is); (case l => k_is); (case c => k_is); (case k => k_is))
    (case e_answered => refine' K52.fnT KX G ?a ?l ?c ?k; (case a => k_is); (case l => k_is); (case c => k_is); (case k => k_is))
    (case e_below => refine' K52.fnT KX G ?a ?l ?c ?k; (case a => k_is); (case l => k_is); (case c => k_is); (case k => k_is))
    (case e_levels => refine' K52.fnT KX G ?a ?l ?c ?k; (case a => k_is); (case l => k_is); (case c => k_is); (case k => k_is))
    (case e_wrong_ask => refine' K52.fnT KX G ?a ?l ?c ?k; (case a => k_is); (case l => k_is); (case c => k_is); (case k => k_is))
    (case e_refused => refine' K52.fnT KX G ?a ?l ?c ?k; (case a => k_is); (case l => k_is); (case c => k_is); (case k => k_is))
    (case e_is_levels => refine' K52.fnT KX G ?a ?l ?c ?k; (case a => k_is); (case l => k_is); (case c => k_is); (case k => k_is))
    (case e_is_contest => refine' K52.fnT KX G ?a ?l ?c ?k; (case a => k_is); (case l => k_is); (case c => k_is); (case k => k_is))
    (case e_kept => refine' K52.fnT KX G ?a ?l ?c ?k; (case a => k_is); (case l => k_is); (case c => k_is); (case k => k_is))
    (case e_height_right => refine' K52.fnT KX G ?a ?l ?c ?k; (case a => k_is); (case l => k_is); (case c => k_is); (case k => k_is))
    (case e_place_refused => refine' K52.fnT KX G ?a ?l ?c ?k; (case a => k_is); (case l => k_is); (case c => k_is); (case k => k_is))
    (case e_places_refused => refine' K52.fnT KX G ?a ?l ?c ?k; (case a => k_is); (case l => k_is); (case c => k_is); (case k => k_is))
    (case e_moved => refine' K52.fnT KX G ?a ?l ?c ?k; (case a => k_is); (case l => k_is); (case c => k_is); (case k => k_is))
    (case e_one_more => refine' K52.fnT KX G ?a ?l ?c ?k; (case a => k_is); (case l => k_is); (case c => k_is); (case k => k_is))
    (case e_ends_well => refine' K52.fnT KX G ?a ?l ?c ?k; (case a => k_is); (case l => k_is); (case c => k_is); (case k => k_is))
    (case e_law => refine' K52.fnT KX G ?a ?l ?c ?k; (case a => k_is); (case l => k_is); (case c => k_is); (case k => k_is))
    (case e_m_Contest_init => refine' K52.mtT ?a ?n ?l ?c ?k; (case a => k_is); (case n => k_is); (case l => k_is); (case c => k_is); (case k => k_is))
    (case e_m_Contest_parting_height => refine' K52.mtT ?a ?n ?l ?c ?k; (case a => k_is); (case n => k_is); (case l => k_is); (case c => k_is); (case k => k_is))
    (case cls_Contest => refine' K52.clT ?a ?b ?c ?d; (case a => k_is); (case b => k_is); (case c => k_is); (case d => k_is))
    (case mm_Contest => k_is)
    (case mk_Contest => k_is)
    (case no_Contest_alphabet => show PySem.W.findIn _ _ _ = _; k_is)
    (case no_Contest_row => show PySem.W.findIn _ _ _ = _; k_is)
    (case no_Contest_other => show PySem.W.findIn _ _ _ = _; k_is)
    (case no_Contest_tables => show PySem.W.findIn _ _ _ = _; k_is)
    (case no_Contest_levels => show PySem.W.findIn _ _ _ = _; k_is)
    (case free_len => refine' K52.noT KX G ?a; (case a => k_is))
    (case free_range => refine' K52.noT KX G ?a; (case a => k_is))
    (case free_int => refine' K52.noT KX G ?a; (case a => k_is))
    (case free_str => refine' K52.noT KX G ?a; (case a => k_is))
    (case free_bool => refine' K52.noT KX G ?a; (case a => k_is))
    (case free_list => refine' K52.noT KX G ?a; (case a => k_is))
    (case free_tuple => refine' K52.noT KX G ?a; (case a => k_is))
    (case free_isinstance => refine' K52.noT KX G ?a; (case a => k_is))
    (case free_abs => refine' K52.noT KX G ?a; (case a => k_is))
    (case free_all => refine' K52.noT KX G ?a; (case a => k_is))
    (case free_any => refine' K52.noT KX G ?a; (case a => k_is))
    (case free_repr => refine' K52.noT KX G ?a; (case a => k_is))
    (case free_enumerate => refine' K52.noT KX G ?a; (case a => k_is))
    (case free_super => refine' K52.noT KX G ?a; (case a => k_is))
    (case free_reversed => refine' K52.noT KX G ?a; (case a => k_is))
    (case free_sorted => refine' K52.noT KX G ?a; (case a => k_is))
    (case free_ValueError => refine' K52.noT KX G ?a; (case a => k_is))
    (case kc_LETTERS => refine' K52.stT KX G ?a; (case a => k_is))
    (case kc_LONGEST => refine' K52.inT KX G ?a; (case a => k_is))
    (case kc_LC => refine' K52.inT KX G ?a; (case a => k_is))
    (case x_BadAlphabet =>
      refine' K52.oxT (te := (.Constant (.str "an argument does not have the form that is asked for") 0 ⟨10, 25, 10, 79⟩)) (p1 := ⟨9, 17, 9, 21⟩) (p2 := ⟨9, 23, 9, 28⟩) (q1 := ⟨10, 8, 10, 13⟩) (q2 := ⟨10, 8, 10, 15⟩) (q3 := ⟨10, 8, 10, 24⟩) (q4 := ⟨10, 8, 10, 80⟩) (q5 := ⟨10, 8, 10, 80⟩) (q6 := ⟨11, 8, 11, 12⟩) (q7 := ⟨11, 8, 11, 18⟩) (q8 := ⟨11, 21, 11, 26⟩) (q9 := ⟨11, 8, 11, 26⟩) ?a ?b ?sa ?ga ?gg ?nf ?kC ?eC ?eV ?tC ?hC ?op ?i ?tI ?l ?c ?lc ?lD ?m ?su ?la ?v2 ?fl ?ev ?cv ?fS ?fC ?fU ?fD ?bd ?top
      (case a => k_is)
      (case b => first | rfl | decide +kernel)
      (case sa => k_is)
      (case ga => k_is)
      (case gg => k_is)
      (case nf => k_is)
      (case kC => k_is)
      (case eC => k_is)
      (case eV => k_is)
      (case tC => k_is)
      (case hC => k_is)
      (case op => k_is)
      (case i => k_is)
      (case tI => k_is)
      (case l => k_is)
      (case c => k_is)
      (case lc => k_is)
      (case lD => k_is)
      (case m => k_is)
      (case su => ks_is)
      (case la => k_is)
      (case v2 => exact rfl)
      (case fl => first | rfl | decide +kernel)
      (case ev => exact PySem.OwnX.text_const _)
      (case cv => exact fun _ => ⟨rfl, _, rfl⟩)
      (case fS => decide +kernel)
      (case fC => decide +kernel)
      (case fU => decide +kernel)
      (case fD => decide +kernel)
      (case bd => exact fun _ _ _ _ _ _ _ _ _ _ _ _ _ => .of_eq rfl)
      (case top => first | rfl | decide +kernel))
    (case c_BadAlphabet => refine' K52.ecT ?hg ?hk ?hs ?hd ?ha ?hn ?ht ?hm; (case hg => k_is); (case hk => k_is); (case hs => k_is); (case hd => k_is); (case ha => k_is); (case hn => k_is); (case ht => k_is); (case hm => k_is))
    (case x_BadPlace =>
      refine' K52.oxT (te := (.Constant (.str "an argument does not have the form that is asked for") 0 ⟨10, 25, 10, 79⟩)) (p1 := ⟨9, 17, 9, 21⟩) (p2 := ⟨9, 23, 9, 28⟩) (q1 := ⟨10, 8, 10, 13⟩) (q2 := ⟨10, 8, 10, 15⟩) (q3 := ⟨10, 8, 10, 24⟩) (q4 := ⟨10, 8, 10, 80⟩) (q5 := ⟨10, 8, 10, 80⟩) (q6 := ⟨11, 8, 11, 12⟩) (q7 := ⟨11, 8, 11, 18⟩) (q8 := ⟨11, 21, 11, 26⟩) (q9 := ⟨11, 8, 11, 26⟩) ?a ?b ?sa ?ga ?gg ?nf ?kC ?eC ?eV ?tC ?hC ?op ?i ?tI ?l ?c ?lc ?lD ?m ?su ?la ?v2 ?fl ?ev ?cv ?fS ?fC ?fU ?fD ?bd ?top
      (case a => k_is)
      (case b => first | rfl | decide +kernel)
      (case sa => k_is)
      (case ga => k_is)
      (case gg => k_is)
      (case nf => k_is)
      (case kC => k_is)
      (case eC => k_is)
      (case eV => k_is)
      (case tC => k_is)
      (case hC => k_is)
      (case op => k_is)
      (case i => k_is)
      (case tI => k_is)
      (case l => k_is)
      (case c => k_is)
      (case lc => k_is)
      (case lD => k_is)
      (case m => k_is)
      (case su => ks_is)
      (case la => k_is)
      (case v2 => exact rfl)
      (case fl => first | rfl | decide +kernel)
      (case ev => exact PySem.OwnX.text_const _)
      (case cv => exact fun _ => ⟨rfl, _, rfl⟩)
      (case fS => decide +kernel)
      (case fC => decide +kernel)
      (case fU => decide +kernel)
      (case fD => decide +kernel)
      (case bd => exact fun _ _ _ _ _ _ _ _ _ _ _ _ _ => .of_eq rfl)
      (case top => first | rfl | decide +kernel))
    (case c_BadPlace => refine' K52.ecT ?hg ?hk ?hs ?hd ?ha ?hn ?ht ?hm; (case hg => k_is); (case hk => k_is); (case hs => k_is); (case hd => k_is); (case ha => k_is); (case hn => k_is); (case ht => k_is); (case hm => k_is))
    (case x_BadRow =>
      refine' K52.oxT (te := (.JoinedStr [.Constant (.str "character ") 0 ⟨19, 27, 19, 37⟩, .FormattedValue (.Name "at" ⟨19, 38, 19, 40⟩) (-1) none ⟨19, 37, 19, 41⟩, .Constant (.str " cannot stand in a row") 0 ⟨19, 41, 19, 63⟩] ⟨19, 25, 19, 64⟩)) (p1 := ⟨18, 17, 18, 21⟩) (p2 := ⟨18, 23, 18, 25⟩) (q1 := ⟨19, 8, 19, 13⟩) (q2 := ⟨19, 8, 19, 15⟩) (q3 := ⟨19, 8, 19, 24⟩) (q4 := ⟨19, 8, 19, 65⟩) (q5 := ⟨19, 8, 19, 65⟩) (q6 := ⟨20, 8, 20, 12⟩) (q7 := ⟨20, 8, 20, 15⟩) (q8 := ⟨20, 18, 20, 20⟩) (q9 := ⟨20, 8, 20, 20⟩) ?a ?b ?sa ?ga ?gg ?nf ?kC ?eC ?eV ?tC ?hC ?op ?i ?tI ?l ?c ?lc ?lD ?m ?su ?la ?v2 ?fl ?ev ?cv ?fS ?fC ?fU ?fD ?bd ?top
      (case a => k_is)
      (case b => first | rfl | decide +kernel)
      (case sa => k_is)
      (case ga => k_is)
      (case gg => k_is)
      (case nf => k_is)
      (case kC => k_is)
      (case eC => k_is)
      (case eV => k_is)
      (case tC => k_is)
      (case hC => k_is)
      (case op => k_is)
      (case i => k_is)
      (case tI => k_is)
      (case l => k_is)
      (case c => k_is)
      (case lc => k_is)
      (case lD => k_is)
      (case m => k_is)
      (case su => ks_is)
      (case la => k_is)
      (case v2 => exact rfl)
      (case fl => first | rfl | decide +kernel)
      (case ev => exact PySem.OwnX.text_int (by decide +kernel) (by decide +kernel) (by decide +kernel))
      (case cv => exact fun _ => ⟨rfl, _, rfl⟩)
      (case fS => decide +kernel)
      (case fC => decide +kernel)
      (case fU => decide +kernel)
      (case fD => decide +kernel)
      (case bd => exact fun _ _ _ _ _ _ _ _ _ _ _ _ _ => .of_eq rfl)
      (case top => first | rfl | decide +kernel))
    (case c_BadRow => refine' K52.ecT ?hg ?hk ?hs ?hd ?ha ?hn ?ht ?hm; (case hg => k_is); (case hk => k_is); (case hs => k_is); (case hd => k_is); (case ha => k_is); (case hn => k_is); (case ht => k_is); (case hm => k_is))
    (case x_TooLong =>
      refine' K52.oxT (te := (.Constant (.str "too long") 0 ⟨24, 25, 24, 35⟩)) (p1 := ⟨23, 17, 23, 21⟩) (p2 := ⟨23, 23, 23, 29⟩) (q1 := ⟨24, 8, 24, 13⟩) (q2 := ⟨24, 8, 24, 15⟩) (q3 := ⟨24, 8, 24, 24⟩) (q4 := ⟨24, 8, 24, 36⟩) (q5 := ⟨24, 8, 24, 36⟩) (q6 := ⟨25, 8, 25, 12⟩) (q7 := ⟨25, 8, 25, 19⟩) (q8 := ⟨25, 22, 25, 28⟩) (q9 := ⟨25, 8, 25, 28⟩) ?a ?b ?sa ?ga ?gg ?nf ?kC ?eC ?eV ?tC ?hC ?op ?i ?tI ?l ?c ?lc ?lD ?m ?su ?la ?v2 ?fl ?ev ?cv ?fS ?fC ?fU ?fD ?bd ?top
      (case a => k_is)
      (case b => first | rfl | decide +kernel)
      (case sa => k_is)
      (case ga => k_is)
      (case gg => k_is)
      (case nf => k_is)
      (case kC => k_is)
      (case eC => k_is)
      (case eV => k_is)
      (case tC => k_is)
      (case hC => k_is)
      (case op => k_is)
      (case i => k_is)
      (case tI => k_is)
      (case l => k_is)
      (case c => k_is)
      (case lc => k_is)
      (case lD => k_is)
      (case m => k_is)
      (case su => ks_is)
      (case la => k_is)
      (case v2 => exact rfl)
      (case fl => first | rfl | decide +kernel)
      (case ev => exact PySem.OwnX.text_const _)
      (case cv => exact fun _ => ⟨rfl, _, rfl⟩)
      (case fS => decide +kernel)
      (case fC => decide +kernel)
      (case fU => decide +kernel)
      (case fD => decide +kernel)
      (case bd => exact fun _ _ _ _ _ _ _ _ _ _ _ _ _ => .of_eq rfl)
      (case top => first | rfl | decide +kernel))
    (case c_TooLong => refine' K52.ecT ?hg ?hk ?hs ?hd ?ha ?hn ?ht ?hm; (case hg => k_is); (case hk => k_is); (case hs => k_is); (case hd => k_is); (case ha => k_is); (case hn => k_is); (case ht => k_is); (case hm => k_is))
    (case m_0 => refine' K52.exT ?a ?b ?c ?d; (case a => k_is); (case b => k_is); (case c => k_is); (case d => first | rfl | k_is))
    (case m_1 => refine' K52.exT ?a ?b ?c ?d; (case a => k_is); (case b => k_is); (case c => k_is); (case d => first | rfl | k_is))
    (case m_2 => refine' K52.exT ?a ?b ?c ?d; (case a => k_is); (case b => k_is); (case c => k_is); (case d => first | rfl | k_is))
    (case m_3 => refine' K52.exT ?a ?b ?c ?d; (case a => k_is); (case b => k_is); (case c => k_is); (case d => first | rfl | k_is))
    (case m_4 => refine' K52.exT ?a ?b ?c ?d; (case a => k_is); (case b => k_is); (case c => k_is); (case d => first | rfl | k_is))
    (case m_5 => refine' K52.exT ?a ?b ?c ?d; (case a => k_is); (case b => k_is); (case c => k_is); (case d => first | rfl | k_is))
    (case m_6 => refine' K52.exT ?a ?b ?c ?d; (case a => k_is); (case b => k_is); (case c => k_is); (case d => first | rfl | k_is))
    (case k_0 => refine' K52.kiT ?a ?b ?c ?d; (case a => first | rfl | decide); (case b => k_is); (case c => k_is); (case d => k_is))
    (case k_1 => refine' K52.kiT ?a ?b ?c ?d; (case a => first | rfl | decide); (case b => k_is); (case c => k_is); (case d => k_is))
    (case k_2 => refine' K52.kiT ?a ?b ?c ?d; (case a => first | rfl | decide); (case b => k_is); (case c => k_is); (case d => k_is))
    (case k_3 => refine' K52.kiT ?a ?b ?c ?d; (case a => first | rfl | decide); (case b => k_is); (case c => k_is); (case d => k_is))
    (case k_4 => refine' K52.kiT ?a ?b ?c ?d; (case a => first | rfl | decide); (case b => k_is); (case c => k_is); (case d => k_is))
    (case k_5 => refine' K52.kiT ?a ?b ?c ?d; (case a => first | rfl | decide); (case b => k_is); (case c => k_is); (case d => k_is))
    (case k_6 => refine' K52.kiT ?a ?b ?c ?d; (case a => first | rfl | decide); (case b => k_is); (case c => k_is); (case d => k_is))
    (case k_7 => refine' K52.kiT ?a ?b ?c ?d; (case a => first | rfl | decide); (case b => k_is); (case c => k_is); (case d => k_is))
    (case v_0 => refine' Sh.kitT ?a ?b; (case a => first | rfl | decide); (case b => k_is))
