import PyProof.Rows.All
import Wide.All
import OpenK.AllK
import Wide.FinOn
import KE.RegKSuper
import PySem.Challenge.RW_saidhere_k71_put_in
import HandS.ForMost
import HandS.TupAny
import HandS.Conv
import HandS.Deep
import HandS.IsInst
import HandS.WideBits
import HandS.RaiseMore
import PyProof.ReprRoads
import HandS.Walk
import HandS.Codes
import HandS.More
import KE.KSuper
import KE.KExcSuper
import HandS.Exc
import HandS.ExcOwn
import HandS.FStr
import HandS.ExcField
import HandS.ExcIs
import HandS.ExcCtx
import HandS.SuiteRaise
import HandS.ExcInitHot
import HandS.WordsExc
import KE.GoesRaise
import HandS.Comp
import HandS.EndBits
import KE.GoesEnum
import KE.GoesMore
import KE.GoesZip
import HandS.Iter
import HandS.Replace
import HandS.TryOnly
import HandS.WordsDict
import PyProof.StrLawsRepr
import KE.DataEq
set_option Elab.async false
set_option linter.all false
set_option maxRecDepth 100000
/-! words of our own: what a heap knows (B), what is changed in it (M), data read off it -/
namespace Sh
open PySem PySem.Spec PyProof.Rows L2

/-! ### data -/
mutual
inductive Rp (K : PySem.W.Frag) (H : Hp) : V → PyData → Prop
  | non : Rp K H .non .none
  | bl (b : Bool) : Rp K H (.bl b) (.bool b)
  | int (i : Int) : Rp K H (.int i) (.int i)
  | str (x : Str) : Rp K H (.str x) (.str x)
  | lst {a : Addr} {xs : List V} {ds : List PyData} : SqL K H a xs → RpAll K H xs ds → Rp K H (.ref a) (.list ds)
  | tup {a : Addr} {xs : List V} {ds : List PyData} : H a = some (.tup xs) → RpAll K H xs ds → Rp K H (.ref a) (.tuple ds)
  | emp {a : Addr} : Rd H a (.dK []) → Rp K H (.ref a) (.dict [])
inductive RpAll (K : PySem.W.Frag) (H : Hp) : List V → List PyData → Prop
  | nil : RpAll K H [] []
  | cons {v : V} {vs : List V} {d : PyData} {ds : List PyData} : Rp K H v d → RpAll K H vs ds → RpAll K H (v :: vs) (d :: ds)
end

/-- all that B knows, H knows -/
abbrev Le (B H : Hp) : Prop := L2.Same B H
theorem le_rd {B H : Hp} {a : Addr} {u : HO} (e : Le B H) (h : Rd B a u) : Rd H a u := by
  rcases h with h | ⟨o, h⟩
  · exact .inl (e _ _ h)
  · exact .inr ⟨o, e _ _ h⟩
theorem le_l {K : PySem.W.Frag} {B H : Hp} {a : Addr} {xs : List V} (e : Le B H) (h : SqL K B a xs) : SqL K H a xs := e.seq h
theorem le_t {K : PySem.W.Frag} {B H : Hp} {a : Addr} {xs : List V} (e : Le B H) (h : SqT K B a xs) : SqT K H a xs := by
  rcases h with h | h
  · exact .inl (le_rd e h)
  · exact .inr h
mutual
theorem Rp.up {K : PySem.W.Frag} {B H : Hp} (e : Le B H) {v : V} {d : PyData} (h : Rp K B v d) : Rp K H v d := by
  cases h with
  | non => exact .non
  | bl b => exact .bl b
  | int i => exact .int i
  | str x => exact .str x
  | lst h1 h2 => exact .lst (le_l e h1) (RpAll.up e h2)
  | tup h1 h2 => exact .tup (e _ _ h1) (RpAll.up e h2)
  | emp h1 => exact .emp (le_rd e h1)
theorem RpAll.up {K : PySem.W.Frag} {B H : Hp} (e : Le B H) {vs : List V} {ds : List PyData} (h : RpAll K B vs ds) : RpAll K H vs ds := by
  cases h with
  | nil => exact .nil
  | cons h1 h2 => exact .cons (Rp.up e h1) (RpAll.up e h2)
end
theorem RpAll.length {K : PySem.W.Frag} {H : Hp} : ∀ {vs : List V} {ds : List PyData}, RpAll K H vs ds → vs.length = ds.length
  | _, _, .nil => rfl
  | _, _, .cons _ t => by simp only [List.length_cons, t.length]
theorem RpAll.get {K : PySem.W.Frag} {H : Hp} : ∀ {vs : List V} {ds : List PyData} {i : Nat} {d : PyData}, RpAll K H vs ds → ds[i]? = some d → ∃ v, vs[i]? = some v ∧ Rp K H v d
  | _, _, _, _, .nil, e => by simp at e
  | _, _, 0, _, .cons h _, e => by
    have e' := Option.some.inj e
    subst e'
    exact ⟨_, rfl, h⟩
  | _, _, i + 1, _, .cons _ t, e => t.get (i := i) (by simpa using e)
theorem RpAll.getV {K : PySem.W.Frag} {H : Hp} : ∀ {vs : List V} {ds : List PyData} {i : Nat} {v : V}, RpAll K H vs ds → vs[i]? = some v → ∃ d, ds[i]? = some d ∧ Rp K H v d
  | _, _, _, _, .nil, e => by simp at e
  | _, _, 0, _, .cons h _, e => by
    have e' := Option.some.inj e
    subst e'
    exact ⟨_, rfl, h⟩
  | _, _, i + 1, _, .cons _ t, e => t.getV (i := i) (by simpa using e)
theorem RpAll.append {K : PySem.W.Frag} {H : Hp} : ∀ {vs ws : List V} {ds es : List PyData}, RpAll K H vs ds → RpAll K H ws es → RpAll K H (vs ++ ws) (ds ++ es)
  | _, _, _, _, .nil, s => s
  | _, _, _, _, .cons h t, s => .cons h (t.append s)
theorem RpAll.one {K : PySem.W.Frag} {H : Hp} {v : V} {d : PyData} (h : Rp K H v d) : RpAll K H [v] [d] := .cons h .nil
theorem RpAll.take {K : PySem.W.Frag} {H : Hp} : ∀ {vs : List V} {ds : List PyData} (n : Nat), RpAll K H vs ds → RpAll K H (vs.take n) (ds.take n)
  | _, _, 0, _ => .nil
  | _, _, _ + 1, .nil => .nil
  | _, _, n + 1, .cons h t => .cons h (t.take n)
theorem RpAll.drop {K : PySem.W.Frag} {H : Hp} : ∀ {vs : List V} {ds : List PyData} (n : Nat), RpAll K H vs ds → RpAll K H (vs.drop n) (ds.drop n)
  | _, _, 0, h => h
  | _, _, _ + 1, .nil => .nil
  | _, _, n + 1, .cons _ t => t.drop n
theorem RpAll.set {K : PySem.W.Frag} {H : Hp} {v : V} {d : PyData} (h : Rp K H v d) : ∀ {vs : List V} {ds : List PyData} (n : Nat), RpAll K H vs ds → RpAll K H (vs.set n v) (ds.set n d)
  | _, _, _, .nil => .nil
  | _, _, 0, .cons _ t => .cons h t
  | _, _, n + 1, .cons g t => .cons g (RpAll.set h n t)
theorem RpAll.map {K : PySem.W.Frag} {H : Hp} {α : Type} {f : α → V} {g : α → PyData} (h : ∀ a, Rp K H (f a) (g a)) : ∀ l : List α, RpAll K H (l.map f) (l.map g)
  | [] => .nil
  | a :: l => .cons (h a) (RpAll.map h l)
def hasD : PyData → Bool
  | .list xs => hasDs xs
  | .tuple xs => hasDs xs
  | .dict _ => true
  | _ => false
where hasDs : List PyData → Bool
  | [] => false
  | d :: ds => hasD d || hasDs ds
mutual
theorem Rp.dp {K : PySem.W.Frag} {H : Hp} {v : V} {d : PyData} (h : Rp K H v d) (n : hasD d = false) : Dp K H v d := by
  cases h with
  | non => exact .non
  | bl b => exact .bl b
  | int i => exact .int i
  | str x => exact .str x
  | lst h1 h2 => exact .lst h1 (RpAll.dp h2 (by simpa [hasD] using n))
  | tup h1 h2 => exact .tup (SqT.of h1) (RpAll.dp h2 (by simpa [hasD] using n))
  | emp h1 => simp [hasD] at n
theorem RpAll.dp {K : PySem.W.Frag} {H : Hp} {vs : List V} {ds : List PyData} (h : RpAll K H vs ds) (n : hasD.hasDs ds = false) : DpAll K H vs ds := by
  cases h with
  | nil => exact .nil
  | cons h1 h2 =>
    simp only [hasD.hasDs, Bool.or_eq_false_iff] at n
    exact .cons (Rp.dp h1 n.1) (RpAll.dp h2 n.2)
end

/-! ### the heap: what is known for good (B), what may change (M, one entry an object) -/
structure Hs (B : Hp) (M : List (Addr × HO)) (H : Hp) : Prop where
  sub : Le B H
  own : ∀ p ∈ M, H p.1 = some p.2 ∧ B p.1 = none
  nd : (M.map (·.1)).Nodup
section
variable {B B' H H' : Hp} {M M' : List (Addr × HO)} {p q : Addr} {o o' : HO} {K : PySem.W.Frag} {xs : List V}
theorem Hs.start (H : Hp) : Hs H [] H := ⟨Same.refl H, fun _ h => absurd h (by simp), by simp⟩
theorem Hs.l (h : Hs B M H) (s : SqL K B p xs) : SqL K H p xs := le_l h.sub s
theorem Hs.t (h : Hs B M H) (s : SqT K B p xs) : SqT K H p xs := le_t h.sub s
theorem Hs.at (h : Hs B M H) (m : (p, o) ∈ M) : H p = some o := (h.own _ m).1
theorem Hs.hd (h : Hs B ((p, o) :: M) H) : H p = some o := (h.own (p, o) (by simp)).1
theorem Hs.new_nil (h : Hs B M H) (n : H p = none) : B p = none := Same.free h.sub n
theorem Hs.new (h : Hs B M H) (n : H p = none) (o : HO) : Hs B ((p, o) :: M) (upd H p o) := by
  have np : ∀ q ∈ M, q.1 ≠ p := fun q hq e => by
    have := (h.own q hq).1
    rw [e, n] at this
    cases this
  refine ⟨fun a u e => ?_, fun q hq => ?_, ?_⟩
  · rw [upd_ne (ne_of_none (h.sub _ _ e) n)]
    exact h.sub _ _ e
  · rcases List.mem_cons.mp hq with rfl | hq
    · exact ⟨upd_same, h.new_nil n⟩
    · exact ⟨by rw [upd_ne (np q hq)]; exact (h.own q hq).1, (h.own q hq).2⟩
  · rw [List.map_cons, List.nodup_cons]
    refine ⟨fun hm => ?_, h.nd⟩
    obtain ⟨q, hq, e⟩ := List.mem_map.mp hm
    exact np q hq e
theorem Hs.fix (h : Hs B ((p, o) :: M) H) : Hs (upd B p o) M H ∧ Le B (upd B p o) := by
  have nb : B p = none := (h.own (p, o) (by simp)).2
  have nd := h.nd
  rw [List.map_cons, List.nodup_cons] at nd
  refine ⟨⟨fun a u e => ?_, fun q hq => ⟨(h.own q (List.mem_cons_of_mem _ hq)).1, ?_⟩, nd.2⟩, fun a u e => ?_⟩
  · by_cases hp : a = p
    · subst hp
      rw [upd_same] at e
      cases e
      exact h.hd
    · rw [upd_ne hp] at e
      exact h.sub _ _ e
  · rw [upd_ne fun e => nd.1 (List.mem_map.mpr ⟨q, hq, e⟩)]
    exact (h.own q (List.mem_cons_of_mem _ hq)).2
  · rw [upd_ne (ne_of_none e nb)]
    exact e
theorem Hs.newB (h : Hs B M H) (n : H p = none) (o : HO) : Hs (upd B p o) M (upd H p o) ∧ Le B (upd B p o) := (h.new n o).fix
theorem Hs.wr (h : Hs B ((p, o) :: M) H) (o' : HO) : Hs B ((p, o') :: M) (upd H p o') := by
  have nb : B p = none := (h.own (p, o) (by simp)).2
  have nd := h.nd
  rw [List.map_cons, List.nodup_cons] at nd
  refine ⟨fun a u e => ?_, fun q hq => ?_, by rw [List.map_cons, List.nodup_cons]; exact nd⟩
  · rw [upd_ne (ne_of_none e nb)]
    exact h.sub _ _ e
  · rcases List.mem_cons.mp hq with rfl | hq
    · exact ⟨upd_same, nb⟩
    · have := h.own q (List.mem_cons_of_mem _ hq)
      rw [upd_ne fun e => nd.1 (List.mem_map.mpr ⟨q, hq, e⟩)]
      exact this
theorem Hs.sw (h : Hs B ((p, o) :: (q, o') :: M) H) : Hs B ((q, o') :: (p, o) :: M) H := by
  refine ⟨h.sub, fun r hr => h.own r ?_, ?_⟩
  · simp only [List.mem_cons] at hr ⊢
    rcases hr with h | h | h
    · exact .inr (.inl h)
    · exact .inl h
    · exact .inr (.inr h)
  · have nd := h.nd
    simp only [List.map_cons, List.nodup_cons, List.mem_cons, not_or] at nd ⊢
    exact ⟨⟨fun e => nd.1.1 e.symm, nd.2.1⟩, nd.1.2, nd.2.2⟩
theorem Hs.perm (h : Hs B M H) (e : M.Perm M') : Hs B M' H :=
  ⟨h.sub, fun r hr => h.own r (e.mem_iff.mpr hr), (e.map (·.1)).nodup_iff.mp h.nd⟩
theorem Hs.drop (h : Hs B ((p, o) :: M) H) : Hs B M H := by
  have nd := h.nd
  rw [List.map_cons, List.nodup_cons] at nd
  exact ⟨h.sub, fun r hr => h.own r (List.mem_cons_of_mem _ hr), nd.2⟩
theorem Hs.le (h : Hs B M H) (e : Le B' B) : Hs B' M H :=
  ⟨e.trans h.sub, fun r hr => ⟨(h.own r hr).1, Same.free e (h.own r hr).2⟩, h.nd⟩
theorem Hs.ne (h : Hs B ((p, o) :: M) H) {a : Addr} {u : HO} (e : B a = some u) : a ≠ p := ne_of_none e (h.own (p, o) (by simp)).2
end
end Sh
set_option Elab.async false
set_option linter.all false
set_option maxRecDepth 100000
/-! short names of readings, and steps through them -/
namespace Sh
open PySem PySem.Spec PyProof.Rows L2

abbrev rAddI : R2 := rI0 fun i j => .int (i + j)
abbrev rSubI : R2 := rI0 fun i j => .int (i - j)
abbrev rMulI : R2 := rI CMul fun i j => .int (i * j)
abbrev rModI : R2 := rI (fun _ j => j ≠ 0) fun i j => .int (i.fmod j)
abbrev rFdvI : R2 := rI CDivN fun i j => .int (i.fdiv j)
abbrev rPowI : R2 := rI CPow fun i j => .int (i ^ j.toNat)
abbrev rShlI : R2 := rI CShl fun i j => .int (i * 2 ^ j.toNat)
abbrev rShrI : R2 := rI (fun _ j => 0 ≤ j) fun i j => .int (i / 2 ^ j.toNat)
abbrev rLtI : R2 := rI0 fun i j => .bl (decide (i < j))
abbrev rLeI : R2 := rI0 fun i j => .bl (decide (i ≤ j))
abbrev rGtI : R2 := rI0 fun i j => .bl (decide (j < i))
abbrev rGeI : R2 := rI0 fun i j => .bl (decide (j ≤ i))
abbrev rAddS : R2 := fun x y H Q => ∃ i j, x = .str i ∧ y = .str j ∧ i.length + j.length ≤ sizeLine ∧ Q (.str (i ++ j)) H
abbrev rLtS : R2 := fun x y H Q => ∃ i j, x = .str i ∧ y = .str j ∧ Q (.bl (decide (i.cps.toList < j.cps.toList))) H
abbrev rInSg : R2 := fun x y H Q => ∃ (c : Nat) (z : Str), x = .str ⟨#[c]⟩ ∧ y = .str z ∧ Q (.bl (decide (c ∈ z.cps.toList))) H
abbrev rNotInSg : R2 := fun x y H Q => ∃ (c : Nat) (z : Str), x = .str ⟨#[c]⟩ ∧ y = .str z ∧ Q (.bl (!decide (c ∈ z.cps.toList))) H
abbrev rIsNn : R2 := fun x y H Q => y = .non ∧ Q (.bl (decide (x = .non))) H
abbrev rNotNn : R2 := fun x y H Q => y = .non ∧ Q (.bl (!decide (x = .non))) H
abbrev rInKd (K : PySem.W.Frag) (d : Addr) : R2 := fun x y H Q => ∃ (z : Str) (r : Option Value), x = .str z ∧ y = .ref d ∧ PySem.W.nsIn K d z = some r ∧ Q (.bl r.isSome) H
abbrev rNotInKd (K : PySem.W.Frag) (d : Addr) : R2 := fun x y H Q => ∃ (z : Str) (r : Option Value), x = .str z ∧ y = .ref d ∧ PySem.W.nsIn K d z = some r ∧ Q (.bl (!r.isSome)) H
abbrev rCLen (K : PySem.W.Frag) : List V → Hp → VK → Prop := fun xs H Q => ∃ x n, xs = [x] ∧ LenV K x H n ∧ Q (.int n) H
abbrev rCAbs : List V → Hp → VK → Prop := fun xs H Q => ∃ i, xs = [.int i] ∧ Q (.int (if i < 0 then -i else i)) H
abbrev rCInt : List V → Hp → VK → Prop := fun xs H Q => (∃ i, xs = [.int i] ∧ Q (.int i) H) ∨ ∃ k, xs = [.bl k] ∧ Q (.int (if k then 1 else 0)) H
abbrev rCList (K : PySem.W.Frag) : List V → Hp → VK → Prop := fun xs H Q => ∃ p ys, xs = [.ref p] ∧ (SqL K H p ys ∨ SqT K H p ys) ∧ ∀ l, H l = none → Q (.ref l) (upd H l (.lst ys))
abbrev rCTup (K : PySem.W.Frag) : List V → Hp → VK → Prop := fun xs H Q => ∃ p ys, xs = [.ref p] ∧ ((SqL K H p ys ∧ ∀ l, H l = none → Q (.ref l) (upd H l (.tup ys))) ∨ (SqT K H p ys ∧ Q (.ref p) H))
abbrev rJoin (K : PySem.W.Frag) : V → List V → Hp → VK → Prop := fun x xs H Q => ∃ a p, ∃ ys : List Str, x = .str a ∧ xs = [.ref p] ∧ (SqL K H p (ys.map V.str) ∨ SqT K H p (ys.map V.str)) ∧
  (ys.map (·.length)).sum + ys.length * a.length ≤ 16777216 ∧ Q (.str (Txt.join a ys)) H
abbrev rSlQ (K : PySem.W.Frag) : V → Option Int → Option Int → Hp → VK → Prop := fun x lo hi H Q => rSlL K x lo hi H Q ∨ rSlA K x lo hi H Q
theorem sl_seq {X : Cx} : SlR X (rSlQ X.K) := SlR.or sl_list sl_tupA
abbrev tTruth (K : PySem.W.Frag) (ta : TE) : TT := fun σ H Q => ta σ H fun x H' => ∃ k, TruV K x H' k ∧ Q k H'
/-- a list or a tuple walked -/
def iSeq (K : PySem.W.Frag) (t : TE) : TI := fun σ H R => iList K t σ H R ∨ iTup K t σ H R
theorem pi_seq {X : Cx} {tg e : Expr} {t : TE} (h : PE X e t) : PI X tg e (iSeq X.K t) :=
  ⟨fun pins s σ H R I q => q.elim ((pi_list (tg := tg) h).run pins s σ H R I) ((pi_tup (tg := tg) h).run pins s σ H R I)⟩

/-- a new object o: what follows of it -/
def Nw (H : Hp) (o : HO) (Q : VK) : Prop := ∀ p, H p = none → Q (.ref p) (upd H p o)
/-! ### steps -/
section
variable {D : Ends} {σ σ' : L2.St} {H : Hp} {Q : VK} {K : PySem.W.Frag} {t u : TS} {ta tb te : TE} {tt tu : TT} {g : TG} {i j : Nat} {v x y : V} {r : R2} {a : TA}
theorem v_seq (h : t { D with nx := u D } σ H) : tSeq t u D σ H := h
theorem v_next (h : D.nx σ H) : tNext D σ H := h
theorem v_brk (h : D.bk σ H) : tBreak D σ H := h
theorem v_cont (h : D.ct σ H) : tCont D σ H := h
theorem v_asg (h : te σ H fun x H1 => g x σ H1 D.nx) : tAsg te g D σ H := h
theorem v_name {q : L2.St → Hp → Prop} (hs : σ.set i (some v) = σ') (h : q σ' H) : gName i v σ H q := by subst hs; exact h
theorem v_ret (h : te σ H D.rt) : tRet te D σ H := h
theorem v_drop (h : te σ H fun _ H1 => D.nx σ H1) : tDrop te D σ H := h
theorem v_if {w : TS} (h : tt σ H fun b H1 => if b = true then t D σ H1 else w D σ H1) : tIfS tt t w D σ H := h
theorem v_var (e : σ[i]? = some (some v)) (h : Q v H) : tVar i σ H Q := ⟨v, e, h⟩
theorem v_c (h : Q v H) : tC v σ H Q := h
theorem v_op (h : ta σ H fun x H1 => tb σ H1 fun y H2 => r x y H2 Q) : tOp r ta tb σ H Q := h
theorem v_I0 {f : Int → Int → V} {i j : Int} (h : Q (f i j) H) : rI0 f (.int i) (.int j) H Q := ⟨i, j, rfl, rfl, h⟩
theorem v_I {C : Int → Int → Prop} {f : Int → Int → V} {i j : Int} (c : C i j) (h : Q (f i j) H) : rI C f (.int i) (.int j) H Q := ⟨i, j, rfl, rfl, c, h⟩
theorem v_test {q : Bool → Hp → Prop} (h : te σ H fun x H' => ∃ k, x = .bl k ∧ q k H') : tTest te σ H q := h
theorem v_B {q : Bool → Hp → Prop} (h : te σ H fun x H1 => ∃ c, x = .bl c ∧ q c H1) : tB te σ H q := h
theorem v_bl {b : Bool} {q : Bool → Prop} (h : q b) : ∃ k, V.bl b = .bl k ∧ q k := ⟨b, rfl, h⟩
theorem v_not {q : Bool → Hp → Prop} (h : tt σ H fun c H1 => q (!c) H1) : tNot tt σ H q := h
theorem v_and {q : Bool → Hp → Prop} (h : tt σ H fun c H1 => if c = true then tu σ H1 q else q false H1) : tAnd tt tu σ H q := h
theorem v_or {q : Bool → Hp → Prop} (h : tt σ H fun c H1 => if c = true then q true H1 else tu σ H1 q) : tOr tt tu σ H q := h
theorem v_andV (h : ta σ H fun x H1 => ∃ c, x = .bl c ∧ if c = true then tb σ H1 Q else Q (.bl false) H1) : tAndV ta tb σ H Q := h
theorem v_orV (h : ta σ H fun x H1 => ∃ c, x = .bl c ∧ if c = true then Q (.bl true) H1 else tb σ H1 Q) : tOrV ta tb σ H Q := h
theorem v_notV (h : ta σ H fun x H1 => ∃ c, x = .bl c ∧ Q (.bl (!c)) H1) : tNotV ta σ H Q := h
theorem v_ife (h : tt σ H fun c H1 => if c = true then ta σ H1 Q else tb σ H1 Q) : tIf tt ta tb σ H Q := h
theorem v_nil {q : List V → Hp → Prop} (h : q [] H) : tNil σ H q := h
theorem v_cons {b : TA} {q : List V → Hp → Prop} (h : ta σ H fun x H1 => b σ H1 fun xs H2 => q (x :: xs) H2) : tCons ta b σ H q := h
theorem v_tup (h : a σ H fun xs H1 => xs.length ≤ sizeLine ∧ Nw H1 (.tup xs) Q) : tTup a σ H Q := h
theorem v_lst (h : a σ H fun xs H1 => xs.length ≤ sizeLine ∧ Nw H1 (.lst xs) Q) : tLst a σ H Q := h
theorem v_call {sp : Sp} {dvs : List V} {E : XK} (h : a σ H fun vs H1 => sp (vs ++ dvs) H1 Q E) : tCall sp dvs E a σ H Q := h
theorem v_cb {q : List V → Hp → VK → Prop} (h : a σ H fun vs H1 => q vs H1 Q) : tCB q a σ H Q := h
theorem v_int {i : Int} (h : Q (.int i) H) : rCInt [.int i] H Q := .inl ⟨i, rfl, h⟩
theorem v_abs {i : Int} (h : Q (.int (if i < 0 then -i else i)) H) : rCAbs [.int i] H Q := ⟨i, rfl, h⟩
theorem v_eq (hs : scal x y = true) (h : Q (.bl (decide (x = y))) H) : rEq x y H Q := ⟨hs, h⟩
theorem v_ne (hs : scal x y = true) (h : Q (.bl (!decide (x = y))) H) : rNe x y H Q := ⟨hs, h⟩
theorem v_lenS {z : Str} (hz : z.length ≤ sizeLine) (h : Q (.int (z.length : Nat)) H) : rCLen K [.str z] H Q := ⟨.str z, z.length, rfl, ⟨hz, rfl⟩, h⟩
theorem v_lenL {p : Addr} {xs : List V} (hx : SqL K H p xs) (h : Q (.int (xs.length : Nat)) H) : rCLen K [.ref p] H Q := ⟨.ref p, xs.length, rfl, .inl ⟨xs, hx, rfl⟩, h⟩
theorem v_lenT {p : Addr} {xs : List V} (hx : SqT K H p xs) (h : Q (.int (xs.length : Nat)) H) : rCLen K [.ref p] H Q := ⟨.ref p, xs.length, rfl, .inr ⟨xs, hx, rfl⟩, h⟩
theorem v_ixL {p : Addr} {xs : List V} {i : Int} (hx : SqL K H p xs) (ha : atI xs i = some v) (h : Q v H) : rIxL K (.ref p) (.int i) H Q := ⟨p, xs, i, v, rfl, rfl, hx, ha, h⟩
theorem v_ixT {p : Addr} {xs : List V} {i : Int} (hx : SqT K H p xs) (ha : atI xs i = some v) (h : Q v H) : rIxT K (.ref p) (.int i) H Q := ⟨p, xs, i, v, rfl, rfl, hx, ha, h⟩
theorem v_ixS {z : Str} {i : Int} {c : Nat} (hz : z.length ≤ sizeLine) (ha : atI z.cps.toList i = some c) (h : Q (.str ⟨#[c]⟩) H) : rIxS (.str z) (.int i) H Q := ⟨z, i, c, rfl, rfl, hz, ha, h⟩
theorem v_addS {a b : Str} (hz : a.length + b.length ≤ sizeLine) (h : Q (.str (a ++ b)) H) : rAddS (.str a) (.str b) H Q := ⟨a, b, rfl, rfl, hz, h⟩
theorem v_sub {to ti : TE} {s : TSet} {q : L2.St → Hp → Prop} (h : to σ H fun o H1 => ti σ H1 fun i H2 => s o i v H2 fun H3 => q σ H3) : gSub to ti s v σ H q := h
theorem v_setL {p : Addr} {xs : List V} {k : Int} {j : Nat} {q : Hp → Prop} (hx : H p = some (.lst xs)) (hk : ixN xs.length k = some j) (h : q (upd H p (.lst (xs.set j v)))) : rSetL (.ref p) (.int k) v H q := ⟨p, xs, k, j, rfl, rfl, hx, hk, h⟩
theorem v_inSg {c : Nat} {z : Str} (h : Q (.bl (decide (c ∈ z.cps.toList))) H) : rInSg (.str ⟨#[c]⟩) (.str z) H Q := ⟨c, z, rfl, rfl, h⟩
theorem v_notInSg {c : Nat} {z : Str} (h : Q (.bl (!decide (c ∈ z.cps.toList))) H) : rNotInSg (.str ⟨#[c]⟩) (.str z) H Q := ⟨c, z, rfl, rfl, h⟩
theorem v_isN (h : Q (.bl (decide (x = .non))) H) : rIsNn x .non H Q := ⟨rfl, h⟩
theorem v_notN (h : Q (.bl (!decide (x = .non))) H) : rNotNn x .non H Q := ⟨rfl, h⟩
theorem v_part {q : Option Int → Hp → Prop} (h : te σ H fun x H1 => ∃ i, x = .int i ∧ q (some i) H1) : tPart te σ H q := h
theorem v_nopart {q : Option Int → Hp → Prop} (h : q none H) : tNoPart σ H q := h
theorem v_pint {i : Int} {q : Int → Prop} (h : q i) : ∃ k, V.int i = .int k ∧ q k := ⟨i, rfl, h⟩
theorem v_setLE {p : Addr} {xs ys : List V} {k : Int} {j : Nat} {q : Hp → Prop} (hx : H p = some (.lst xs)) (hk : ixN xs.length k = some j) (he : xs.set j v = ys) (h : q (upd H p (.lst ys))) : rSetL (.ref p) (.int k) v H q := ⟨p, xs, k, j, rfl, rfl, hx, hk, by rw [he]; exact h⟩
theorem at_lit {α : Type} {xs : List α} (n : Nat) {v : α} (h : xs[n]? = some v) : atI xs (@OfNat.ofNat Int n _) = some v := atI_nat h
theorem v_modP {i j : Int} (hj : 0 < j) (h : ∀ r, 0 ≤ r → r < j → Q (.int r) H) : rModI (.int i) (.int j) H Q := ⟨i, j, rfl, rfl, by omega, h _ (Int.fmod_nonneg_of_pos _ hj) (Int.fmod_lt_of_pos _ hj)⟩
theorem v_listL {p : Addr} {xs : List V} (hx : SqL K H p xs) (h : Nw H (.lst xs) Q) : rCList K [.ref p] H Q := ⟨p, xs, rfl, .inl hx, h⟩
theorem v_listT {p : Addr} {xs : List V} (hx : SqT K H p xs) (h : Nw H (.lst xs) Q) : rCList K [.ref p] H Q := ⟨p, xs, rfl, .inr hx, h⟩
theorem v_tupleL {p : Addr} {xs : List V} (hx : SqL K H p xs) (h : Nw H (.tup xs) Q) : rCTup K [.ref p] H Q := ⟨p, xs, rfl, .inl ⟨hx, h⟩⟩
theorem v_tupleT {p : Addr} {xs : List V} (hx : SqT K H p xs) (h : Q (.ref p) H) : rCTup K [.ref p] H Q := ⟨p, xs, rfl, .inr ⟨hx, h⟩⟩
theorem v_cat {p q : Addr} {xs zs : List V} (h1 : H p = some (.lst xs)) (h2 : H q = some (.lst zs)) (hl : xs.length + zs.length ≤ sizeLine) (h : Nw H (.lst (xs ++ zs)) Q) : rCat (.ref p) (.ref q) H Q := ⟨p, q, xs, zs, rfl, rfl, h1, h2, hl, h⟩
theorem v_size {xs : List V} {c : Prop} (hl : xs.length ≤ sizeLine) (h : c) : xs.length ≤ sizeLine ∧ c := ⟨hl, h⟩
end
end Sh
set_option Elab.async false
set_option linter.all false
set_option maxRecDepth 100000
/-! new objects, loops and comprehensions over what is known and what changes -/
namespace Sh
open PySem PySem.Spec PyProof.Rows L2
section
variable {B H : Hp} {M : List (Addr × HO)} {Q : VK} {o : HO} {D : Ends} {σ : L2.St} {K : PySem.W.Frag} {g : TG} {tb u : TS} {tt : TT} {te : TE} {wi : TI} {a : TA} {J : It} {n : Nat} {G : Hp → Prop} {Y : Nat → Hp → V → Hp → Prop} {vs : List Nat}
/-- a new object that stays as it is -/
theorem v_newB (hs : Hs B M H) (h : ∀ (p : Addr) (B' H' : Hp), Le B B' → Hs B' M H' → B' p = some o → Q (.ref p) H') : Nw H o Q := fun p hp => by
  obtain ⟨h1, h2⟩ := hs.newB hp o
  exact h p _ _ h2 h1 upd_same
/-- a new object that will change -/
theorem v_newM (hs : Hs B M H) (h : ∀ (p : Addr) (H' : Hp), Hs B ((p, o) :: M) H' → Q (.ref p) H') : Nw H o Q := fun p hp => h p _ (hs.new hp o)
theorem v_slL {q : VK} {p : Addr} {xs : List V} {lo hi : Option Int} (hx : SqL K H p xs) (h : Nw H (.lst (cutV xs lo hi)) q) : rSlL K (.ref p) lo hi H q := ⟨p, xs, rfl, hx, h⟩
theorem v_slS {q : VK} {z : Str} {lo hi : Option Int} (hz : z.length ≤ sizeLine) (h : q (.str (cutS z lo hi)) H) : rSlS (.str z) lo hi H q := ⟨z, rfl, hz, h⟩
theorem v_sl {r : V → Option Int → Option Int → Hp → VK → Prop} {tl th : TO} (h : te σ H fun x H1 => tl σ H1 fun l H2 => th σ H2 fun u H3 => r x l u H3 Q) : tSl r te tl th σ H Q := h

theorem map_some {α β : Type} {f : α → β} {l : List α} {i : Nat} {x : β} (h : (l.map f)[i]? = some x) : ∃ z, l[i]? = some z ∧ x = f z := by
  rw [List.getElem?_map] at h
  cases e : l[i]? with
  | none => rw [e] at h; cases h
  | some z => rw [e] at h; exact ⟨z, rfl, (Option.some.inj h).symm⟩
theorem at_k {α : Type} {xs : List α} {z : Int} {v : α} (h0 : 0 ≤ z) (h : xs[z.toNat]? = some v) : atI xs z = some v := by
  obtain ⟨m, rfl⟩ := Int.eq_ofNat_of_zero_le h0
  exact atI_nat h
theorem sz_of {n : Nat} (h : n ≤ 1000000) : n ≤ sizeLine := Nat.le_trans h (by decide)
theorem sz_lt {n : Nat} (h : n ≤ 1000000) : n < sizeLine := Nat.lt_of_le_of_lt h (by decide)
theorem cut_all (xs : List V) : cutV xs none none = xs := by
  unfold cutV
  rw [HT.sIx_none, HT.sIx_none, List.drop_zero, Nat.sub_zero, List.take_length]
theorem cut_to (xs : List V) (k : Nat) : cutV xs none (some (k : Int)) = xs.take k := by
  unfold cutV
  rw [HT.sIx_none, HT.sIx_nat, List.drop_zero, Nat.sub_zero, List.take_eq_take_iff]
  omega
theorem cut_from (xs : List V) (k : Nat) : cutV xs (some (k : Int)) none = xs.drop k := by
  unfold cutV
  rw [HT.sIx_nat, HT.sIx_none]
  by_cases h : k ≤ xs.length
  · rw [Nat.min_eq_left h]
    exact List.take_of_length_le (by simp)
  · rw [Nat.min_eq_right (by omega), List.drop_eq_nil_of_le (Nat.le_refl _), List.drop_eq_nil_of_le (by omega), List.take_nil]
theorem cut_mid (xs : List V) (k m : Nat) : cutV xs (some (k : Int)) (some (m : Int)) = (xs.drop k).take (m - k) := by
  unfold cutV
  rw [HT.sIx_nat, HT.sIx_nat]
  by_cases h : k ≤ xs.length
  · rw [Nat.min_eq_left h, List.take_eq_take_iff, List.length_drop]
    omega
  · have e1 : min k xs.length = xs.length := by omega
    rw [e1, List.drop_eq_nil_of_le (Nat.le_refl _), List.drop_eq_nil_of_le (show xs.length ≤ k by omega), List.take_nil, List.take_nil]
/-- a statement, then the rest, with a word between them -/
theorem v_seqP (P : L2.St → Hp → Prop) {t1 t2 : TS} (h1 : ∀ N : L2.St → Hp → Prop, (∀ σ' H', P σ' H' → N σ' H') → t1 { D with nx := N } σ H) (h2 : ∀ σ' H', P σ' H' → t2 D σ' H') : tSeq t1 t2 D σ H := h1 (t2 D) h2
/-- an if whose test leaves the heap; C: what its answer tells -/
theorem v_ifC {t1 t2 : TS} (C : Bool → Prop) (ht : ∀ q : Bool → Hp → Prop, (∀ b, C b → q b H) → tt σ H q) (h1 : C true → t1 D σ H) (h2 : C false → t2 D σ H) : tIfS tt t1 t2 D σ H :=
  ht (fun b H1 => if b = true then t1 D σ H1 else t2 D σ H1) fun b hb => by
    cases b with
    | true => rw [if_pos rfl]; exact h1 hb
    | false => rw [if_neg (by decide)]; exact h2 hb
/-! ### loops -/
/-- what a loop's rest is asked, the walked thing known -/
def ForR (g : TG) (tb : TS) (D : Ends) (σ : L2.St) (J : It) (H : Hp) : Prop := ∃ W : Nat → Nat → L2.St → Hp → Prop, (∃ m, W 0 m σ H) ∧ ∀ i m σ H, W i m σ H →
      (J.stop i H ∧ D.nx σ H) ∨ (J.go i H ∧ ∃ N : L2.St → Hp → Prop, (∀ σ' H', N σ' H' → ∃ m', m' < m ∧ W (i + 1) m' σ' H') ∧ ∀ x H', J.yld i H x H' → g x σ H' fun σ2 H2 => tb { D with nx := N, ct := N, bk := D.nx } σ2 H2)
def AtL (K : PySem.W.Frag) (x : V) (H : Hp) (R : It → Hp → Prop) : Prop := ∃ a, x = .ref a ∧ (∃ xs, SqL K H a xs) ∧ R (Itl K a) H
def AtT (K : PySem.W.Frag) (x : V) (H : Hp) (R : It → Hp → Prop) : Prop := ∃ a, x = .ref a ∧ (∃ xs, SqT K H a xs) ∧ R (Itt K a) H
def AtS (x : V) (H : Hp) (R : It → Hp → Prop) : Prop := ∃ z, x = .str z ∧ R (Its z) H
def AtR1 (vs : List V) (H : Hp) (R : It → Hp → Prop) : Prop := ∃ j : Int, vs = [.int j] ∧ -(2 ^ 62) ≤ j ∧ j < 2 ^ 62 ∧ R (Itr 0 j.toNat) H
def AtR2 (vs : List V) (H : Hp) (R : It → Hp → Prop) : Prop := ∃ i j : Int, vs = [.int i, .int j] ∧ (-(2 ^ 62) ≤ i ∧ i < 2 ^ 62 ∧ -(2 ^ 62) ≤ j ∧ j < 2 ^ 62) ∧ R (Itr i (j - i).toNat) H
def IV (B : Hp) (I : Nat → L2.St → Hp → List (Addr × HO) → Prop) (i : Nat) : L2.St → Hp → Prop := fun σ H => ∃ B' M', Le B B' ∧ Hs B' M' H ∧ I i σ B' M'
theorem IV.mk {B B' H : Hp} {M' : List (Addr × HO)} {I : Nat → L2.St → Hp → List (Addr × HO) → Prop} {i : Nat} {σ : L2.St} (l : Le B B') (h : Hs B' M' H) (x : I i σ B' M') : IV B I i σ H := ⟨B', M', l, h, x⟩
theorem v_forW (w : L2.Walk J n G Y) (hs : Hs B M H) (hG : ∀ B' M' H', Le B B' → Hs B' M' H' → G H') (I : Nat → L2.St → Hp → List (Addr × HO) → Prop) (h0 : I 0 σ B M)
    (step : ∀ i x σ' B' M' H' H'', i < n → Le B B' → Hs B' M' H' → I i σ' B' M' → Y i H' x H'' → g x σ' H'' fun σ2 H2 => tb { D with nx := IV B I (i + 1), ct := IV B I (i + 1), bk := D.nx } σ2 H2)
    (done : ∀ σ' B' M' H', Le B B' → Hs B' M' H' → I n σ' B' M' → D.nx σ' H') : ForR g tb D σ J H :=
  L2.for_it w (IV B I) ⟨B, M, Same.refl B, hs, h0⟩ (fun i σ H _ ⟨B', M', l, h, _⟩ => hG B' M' H l h)
    (fun i x σ H H' hi ⟨B', M', l, h, x1⟩ y => step i x σ B' M' H H' hi l h x1 y) (fun σ H ⟨B', M', l, h, x1⟩ => done σ B' M' H l h x1)
theorem v_for (h : wi σ H fun J H1 => ForR g tb D σ J H1) : tFor wi g tb D σ H := h
theorem v_iList {R : It → Hp → Prop} (h : te σ H fun x H1 => AtL K x H1 R) : iList K te σ H R := h
theorem v_iTup {R : It → Hp → Prop} (h : te σ H fun x H1 => AtT K x H1 R) : iTup K te σ H R := h
theorem v_iStr {R : It → Hp → Prop} (h : te σ H fun v H1 => AtS v H1 R) : iStr te σ H R := h
theorem v_iR1 {R : It → Hp → Prop} (h : a σ H fun vs H1 => AtR1 vs H1 R) : iRng1 a σ H R := h
theorem v_iR2 {R : It → Hp → Prop} (h : a σ H fun vs H1 => AtR2 vs H1 R) : iRng2 a σ H R := h
theorem v_atL {p : Addr} {xs : List V} {R : It → Hp → Prop} (hx : SqL K H p xs) (h : R (Itl K p) H) : AtL K (.ref p) H R := ⟨p, rfl, ⟨xs, hx⟩, h⟩
theorem v_atT {p : Addr} {xs : List V} {R : It → Hp → Prop} (hx : SqT K H p xs) (h : R (Itt K p) H) : AtT K (.ref p) H R := ⟨p, rfl, ⟨xs, hx⟩, h⟩
theorem v_atS {z : Str} {R : It → Hp → Prop} (h : R (Its z) H) : AtS (.str z) H R := ⟨z, rfl, h⟩
theorem v_atR1 {j : Int} {R : It → Hp → Prop} (h1 : -(2 ^ 62) ≤ j ∧ j < 2 ^ 62) (h : R (Itr 0 j.toNat) H) : AtR1 [.int j] H R := ⟨j, rfl, h1.1, h1.2, h⟩
theorem v_atR2 {i j : Int} {R : It → Hp → Prop} (h1 : -(2 ^ 62) ≤ i ∧ i < 2 ^ 62 ∧ -(2 ^ 62) ≤ j ∧ j < 2 ^ 62) (h : R (Itr i (j - i).toNat) H) : AtR2 [.int i, .int j] H R := ⟨i, j, rfl, h1, h⟩
/-- over a list that is known -/
theorem v_forL {p : Addr} {xs : List V} (hx : SqL K B p xs) (hs : Hs B M H) (I : Nat → L2.St → Hp → List (Addr × HO) → Prop) (h0 : I 0 σ B M)
    (step : ∀ i x σ' B' M' H', i < xs.length → xs[i]? = some x → Le B B' → Hs B' M' H' → I i σ' B' M' → g x σ' H' fun σ2 H2 => tb { D with nx := IV B I (i + 1), ct := IV B I (i + 1), bk := D.nx } σ2 H2)
    (done : ∀ σ' B' M' H', Le B B' → Hs B' M' H' → I xs.length σ' B' M' → D.nx σ' H') :
    ForR g tb D σ (Itl K p) H :=
  v_forW L2.walk_list hs (fun B' M' H' l h => h.l (le_l l hx)) I h0 (fun i x σ' B' M' H' H'' hi l h x1 y => by obtain ⟨rfl, y⟩ := y; exact step i x σ' B' M' _ hi y l h x1) done
theorem v_forT {p : Addr} {xs : List V} (hx : SqT K B p xs) (hs : Hs B M H) (I : Nat → L2.St → Hp → List (Addr × HO) → Prop) (h0 : I 0 σ B M)
    (step : ∀ i x σ' B' M' H', i < xs.length → xs[i]? = some x → Le B B' → Hs B' M' H' → I i σ' B' M' → g x σ' H' fun σ2 H2 => tb { D with nx := IV B I (i + 1), ct := IV B I (i + 1), bk := D.nx } σ2 H2)
    (done : ∀ σ' B' M' H', Le B B' → Hs B' M' H' → I xs.length σ' B' M' → D.nx σ' H') :
    ForR g tb D σ (Itt K p) H :=
  v_forW L2.walk_tup hs (fun B' M' H' l h => h.t (le_t l hx)) I h0 (fun i x σ' B' M' H' H'' hi l h x1 y => by obtain ⟨rfl, y⟩ := y; exact step i x σ' B' M' _ hi y l h x1) done
theorem v_forS {z : Str} (hs : Hs B M H) (I : Nat → L2.St → Hp → List (Addr × HO) → Prop) (h0 : I 0 σ B M)
    (step : ∀ i c σ' B' M' H', i < z.cps.size → z.cps[i]? = some c → Le B B' → Hs B' M' H' → I i σ' B' M' → g (.str ⟨#[c]⟩) σ' H' fun σ2 H2 => tb { D with nx := IV B I (i + 1), ct := IV B I (i + 1), bk := D.nx } σ2 H2)
    (done : ∀ σ' B' M' H', Le B B' → Hs B' M' H' → I z.cps.size σ' B' M' → D.nx σ' H') :
    ForR g tb D σ (Its z) H :=
  v_forW L2.walk_str hs (fun _ _ _ _ _ => trivial) I h0 (fun i x σ' B' M' H' H'' hi l h x1 y => by obtain ⟨rfl, c, y, rfl⟩ := y; exact step i c σ' B' M' _ hi y l h x1) done
theorem v_forR {lo : Int} (hs : Hs B M H) (I : Nat → L2.St → Hp → List (Addr × HO) → Prop) (h0 : I 0 σ B M)
    (step : ∀ i σ' B' M' H', i < n → Le B B' → Hs B' M' H' → I i σ' B' M' → g (.int (lo + i)) σ' H' fun σ2 H2 => tb { D with nx := IV B I (i + 1), ct := IV B I (i + 1), bk := D.nx } σ2 H2)
    (done : ∀ σ' B' M' H', Le B B' → Hs B' M' H' → I n σ' B' M' → D.nx σ' H') :
    ForR g tb D σ (Itr lo n) H :=
  v_forW L2.walk_range hs (fun _ _ _ _ _ => trivial) I h0 (fun i x σ' B' M' H' H'' hi l h x1 y => by obtain ⟨rfl, rfl⟩ := y; exact step i σ' B' M' _ hi l h x1) done

/-! ### comprehensions: acc, what the new list at p holds -/
def LcR (g : TG) (tt : TT) (te : TE) (vs : List Nat) (σ : L2.St) (Q : VK) (J : It) (H : Hp) : Prop := ∀ D, H D = none → ∃ W : Nat → Nat → Hp → Prop, (∃ m, W 0 m (upd H D (.lst []))) ∧ ∀ i m H, W i m H →
      (J.stop i H ∧ Q (.ref D) H) ∨ (J.go i H ∧ ∃ Nx : Hp → Prop, (∀ H', Nx H' → ∃ m', m' < m ∧ W (i + 1) m' H') ∧ ∀ x H', J.yld i H x H' → g x (wipe σ vs) H' fun σ2 H2 => wipe σ2 vs = wipe σ vs ∧ tt σ2 H2 fun b H3 =>
        if b = true then te σ2 H3 fun y H4 => ∃ acc, H4 D = some (.lst acc) ∧ acc.length < sizeLine ∧ Nx (upd H4 D (.lst (acc ++ [y]))) else Nx H3)
def IP (B : Hp) (I : Nat → List V → Hp → List (Addr × HO) → Prop) (p : Addr) (i : Nat) (H : Hp) : Prop := ∃ acc B' M', acc.length ≤ i ∧ Le B B' ∧ Hs B' ((p, .lst acc) :: M') H ∧ I i acc B' M'
/-- behind a turn whose test fails -/
theorem IP.mk {B B' H : Hp} {M' : List (Addr × HO)} {I : Nat → List V → Hp → List (Addr × HO) → Prop} {p : Addr} {acc : List V} {i : Nat} (ha : acc.length ≤ i) (l : Le B B') (h : Hs B' ((p, .lst acc) :: M') H) (x : I i acc B' M') : IP B I p i H := ⟨acc, B', M', ha, l, h, x⟩
/-- the element y is to be put behind what stands at p -/
def IE (B : Hp) (I : Nat → List V → Hp → List (Addr × HO) → Prop) (p : Addr) (i : Nat) : VK := fun y H => ∃ acc, H p = some (.lst acc) ∧ acc.length < sizeLine ∧ IP B I p i (upd H p (.lst (acc ++ [y])))
theorem IE.mk {B B' H : Hp} {M' : List (Addr × HO)} {I : Nat → List V → Hp → List (Addr × HO) → Prop} {p : Addr} {acc : List V} {i n : Nat} {y : V} (ha : acc.length ≤ i) (hi : i < n) (hn : n ≤ 1000000) (l : Le B B') (h : Hs B' ((p, .lst acc) :: M') H) (x : I (i + 1) (acc ++ [y]) B' M') : IE B I p (i + 1) y H :=
  ⟨acc, h.hd, Nat.lt_of_le_of_lt (show acc.length ≤ 1000000 by omega) (by decide), acc ++ [y], B', M', by simp; omega, l, h.wr _, x⟩
theorem v_lcW (w : L2.Walk J n G Y) (hs : Hs B M H) (hG : ∀ B' M' H', Le B B' → Hs B' M' H' → G H') (I : Nat → List V → Hp → List (Addr × HO) → Prop) (h0 : I 0 [] B M)
    (step : ∀ i x p acc B' M' H' H'', i < n → acc.length ≤ i → Le B B' → Hs B' ((p, .lst acc) :: M') H' → I i acc B' M' → Y i H' x H'' → g x (wipe σ vs) H'' fun σ2 H2 => wipe σ2 vs = wipe σ vs ∧ tt σ2 H2 fun b H3 =>
      if b = true then te σ2 H3 (IE B I p (i + 1)) else IP B I p (i + 1) H3)
    (done : ∀ p acc B' M' H', acc.length ≤ n → Le B B' → Hs B' ((p, .lst acc) :: M') H' → I n acc B' M' → Q (.ref p) H') :
    LcR g tt te vs σ Q J H := by
  intro D hD
  exact L2.lc_it (n := n) w (IP B I D) ⟨[], B, M, Nat.le_refl _, Same.refl B, hs.new hD _, h0⟩
    (fun i H _ ⟨acc, B', M', _, l, h, _⟩ => hG B' _ H l h) (fun i x H H' hi ⟨acc, B', M', ha, l, h, x1⟩ y => step i x D acc B' M' H H' hi ha l h x1 y) (fun H ⟨acc, B', M', ha, l, h, x1⟩ => done D acc B' M' H ha l h x1)
theorem v_lc (h : wi σ H fun J H1 => LcR g tt te vs σ Q J H1) : tLc wi g tt te vs σ H Q := h
theorem v_lcL {p0 : Addr} {xs : List V} (hx : SqL K B p0 xs) (hs : Hs B M H) (I : Nat → List V → Hp → List (Addr × HO) → Prop) (h0 : I 0 [] B M)
    (step : ∀ i x p acc B' M' H', i < xs.length → xs[i]? = some x → acc.length ≤ i → Le B B' → Hs B' ((p, .lst acc) :: M') H' → I i acc B' M' → g x (wipe σ vs) H' fun σ2 H2 => wipe σ2 vs = wipe σ vs ∧ tt σ2 H2 fun b H3 =>
      if b = true then te σ2 H3 (IE B I p (i + 1)) else IP B I p (i + 1) H3)
    (done : ∀ p acc B' M' H', acc.length ≤ xs.length → Le B B' → Hs B' ((p, .lst acc) :: M') H' → I xs.length acc B' M' → Q (.ref p) H') :
    LcR g tt te vs σ Q (Itl K p0) H :=
  v_lcW L2.walk_list hs (fun B' M' H' l h => h.l (le_l l hx)) I h0 (fun i x p acc B' M' H' H'' hi ha l h x1 y => by obtain ⟨rfl, y⟩ := y; exact step i x p acc B' M' _ hi y ha l h x1) done
theorem v_lcT {p0 : Addr} {xs : List V} (hx : SqT K B p0 xs) (hs : Hs B M H) (I : Nat → List V → Hp → List (Addr × HO) → Prop) (h0 : I 0 [] B M)
    (step : ∀ i x p acc B' M' H', i < xs.length → xs[i]? = some x → acc.length ≤ i → Le B B' → Hs B' ((p, .lst acc) :: M') H' → I i acc B' M' → g x (wipe σ vs) H' fun σ2 H2 => wipe σ2 vs = wipe σ vs ∧ tt σ2 H2 fun b H3 =>
      if b = true then te σ2 H3 (IE B I p (i + 1)) else IP B I p (i + 1) H3)
    (done : ∀ p acc B' M' H', acc.length ≤ xs.length → Le B B' → Hs B' ((p, .lst acc) :: M') H' → I xs.length acc B' M' → Q (.ref p) H') :
    LcR g tt te vs σ Q (Itt K p0) H :=
  v_lcW L2.walk_tup hs (fun B' M' H' l h => h.t (le_t l hx)) I h0 (fun i x p acc B' M' H' H'' hi ha l h x1 y => by obtain ⟨rfl, y⟩ := y; exact step i x p acc B' M' _ hi y ha l h x1) done
theorem v_lcS {z : Str} (hs : Hs B M H) (I : Nat → List V → Hp → List (Addr × HO) → Prop) (h0 : I 0 [] B M)
    (step : ∀ i c p acc B' M' H', i < z.cps.size → z.cps[i]? = some c → acc.length ≤ i → Le B B' → Hs B' ((p, .lst acc) :: M') H' → I i acc B' M' → g (.str ⟨#[c]⟩) (wipe σ vs) H' fun σ2 H2 => wipe σ2 vs = wipe σ vs ∧ tt σ2 H2 fun b H3 =>
      if b = true then te σ2 H3 (IE B I p (i + 1)) else IP B I p (i + 1) H3)
    (done : ∀ p acc B' M' H', acc.length ≤ z.cps.size → Le B B' → Hs B' ((p, .lst acc) :: M') H' → I z.cps.size acc B' M' → Q (.ref p) H') :
    LcR g tt te vs σ Q (Its z) H :=
  v_lcW L2.walk_str hs (fun _ _ _ _ _ => trivial) I h0 (fun i x p acc B' M' H' H'' hi ha l h x1 y => by obtain ⟨rfl, c, y, rfl⟩ := y; exact step i c p acc B' M' _ hi y ha l h x1) done
theorem v_lcR {lo : Int} (hs : Hs B M H) (I : Nat → List V → Hp → List (Addr × HO) → Prop) (h0 : I 0 [] B M)
    (step : ∀ i p acc B' M' H', i < n → acc.length ≤ i → Le B B' → Hs B' ((p, .lst acc) :: M') H' → I i acc B' M' → g (.int (lo + i)) (wipe σ vs) H' fun σ2 H2 => wipe σ2 vs = wipe σ vs ∧ tt σ2 H2 fun b H3 =>
      if b = true then te σ2 H3 (IE B I p (i + 1)) else IP B I p (i + 1) H3)
    (done : ∀ p acc B' M' H', acc.length ≤ n → Le B B' → Hs B' ((p, .lst acc) :: M') H' → I n acc B' M' → Q (.ref p) H') :
    LcR g tt te vs σ Q (Itr lo n) H :=
  v_lcW L2.walk_range hs (fun _ _ _ _ _ => trivial) I h0 (fun i x p acc B' M' H' H'' hi ha l h x1 y => by obtain ⟨rfl, rfl⟩ := y; exact step i p acc B' M' _ hi ha l h x1) done
theorem v_yes {q : Bool → Hp → Prop} (h : q true H) : tYes σ H q := h
/-- a while: the measure m is of what the invariant tells -/
def NW (B : Hp) (I : Nat → L2.St → Hp → List (Addr × HO) → Prop) (m : Nat) : L2.St → Hp → Prop := fun σ H => ∃ m', m' < m ∧ IV B I m' σ H
theorem v_turn {I : Nat → L2.St → Hp → List (Addr × HO) → Prop} {m : Nat} (h : tb { D with nx := NW B I m, ct := NW B I m, bk := D.nx } σ H) :
    ∃ N : L2.St → Hp → Prop, (∀ σ' H', N σ' H' → ∃ m', m' < m ∧ IV B I m' σ' H') ∧ tb { D with nx := N, ct := N, bk := D.nx } σ H := ⟨NW B I m, fun _ _ h => h, h⟩
theorem v_while {c : TT} (I : Nat → L2.St → Hp → List (Addr × HO) → Prop) (hs : Hs B M H) (m0 : Nat) (h0 : I m0 σ B M)
    (step : ∀ m σ' B' M' H', Le B B' → Hs B' M' H' → I m σ' B' M' → c σ' H' fun b H1 => if b = true then ∃ N : L2.St → Hp → Prop, (∀ σ' H', N σ' H' → ∃ m', m' < m ∧ IV B I m' σ' H') ∧ tb { D with nx := N, ct := N, bk := D.nx } σ' H1 else D.nx σ' H1) : tWhile c tb D σ H :=
  ⟨IV B I, ⟨m0, B, M, Same.refl B, hs, h0⟩, fun m σ' H' ⟨B', M', l, h, x⟩ => step m σ' B' M' H' l h x⟩
end
end Sh
set_option Elab.async false
set_option linter.all false
set_option maxRecDepth 100000
/-! isinstance of data -/
namespace Sh
open PySem PySem.Spec PyProof.Rows L2
def tyN : PyData → String
  | .none => "NoneType"
  | .bool _ => "bool"
  | .int _ => "int"
  | .str _ => "str"
  | .list _ => "list"
  | .tuple _ => "tuple"
  | .dict _ => "dict"
section
variable {B H : Hp} {M : List (Addr × HO)} {Q : VK} {K : PySem.W.Frag} {v : V} {d : PyData}
theorem rp_ty (h : Rp K H v d) : TyX K H v (.type (tyN d)) := by
  cases h with
  | non => exact .base .non
  | bl b => exact .base (.bl b)
  | int i => exact .base (.int i)
  | str x => exact .base (.str x)
  | lst h _ =>
    rcases h with (h | ⟨o, h⟩) | ⟨o, _, _, h, c, _⟩
    · exact .base (.lst h)
    · exact .base (.frz h)
    · exact .kList h c
  | tup h _ => exact .base (.tup h)
  | emp h =>
    rcases h with h | ⟨o, h⟩
    · exact .base (.dK h)
    · exact .fDict h
def isLT : PyData → Bool
  | .list _ => true
  | .tuple _ => true
  | _ => false
def isStr : PyData → Bool
  | .str _ => true
  | _ => false
def isBool : PyData → Bool
  | .bool _ => true
  | _ => false
def isIntB : PyData → Bool
  | .int _ => true
  | .bool _ => true
  | _ => false
theorem kB (a b : String) (r : Bool) (h : kitB a b = some r) : PySem.W.kitOne K (.type a) (.type b) = some r := kit_ty h
theorem kit_str (d : PyData) : PySem.W.kitOne K (.type (tyN d)) (.type "str") = some (isStr d) := by
  cases d <;> (dsimp only [tyN, isStr, isBool, isIntB]; exact kB _ _ _ (by decide +kernel))
theorem kit_bool (d : PyData) : PySem.W.kitOne K (.type (tyN d)) (.type "bool") = some (isBool d) := by
  cases d <;> (dsimp only [tyN, isStr, isBool, isIntB]; exact kB _ _ _ (by decide +kernel))
theorem kit_int (d : PyData) : PySem.W.kitOne K (.type (tyN d)) (.type "int") = some (isIntB d) := by
  cases d <;> (dsimp only [tyN, isStr, isBool, isIntB]; exact kB _ _ _ (by decide +kernel))
theorem kit_LT (d : PyData) : PySem.W.kitAny K (.type (tyN d)) [.type "tuple", .type "list"] = some (isLT d) := by
  have tup : PySem.W.kitOne K (.type (tyN d)) (.type "tuple") = some (match d with | .tuple _ => true | _ => false) := by
    cases d <;> (dsimp only [tyN, isStr, isBool, isIntB]; exact kB _ _ _ (by decide +kernel))
  have lst : PySem.W.kitOne K (.type (tyN d)) (.type "list") = some (match d with | .list _ => true | _ => false) := by
    cases d <;> (dsimp only [tyN, isStr, isBool, isIntB]; exact kB _ _ _ (by decide +kernel))
  unfold PySem.W.kitAny PySem.W.kitAny PySem.W.kitAny
  rw [tup, lst]
  cases d <;> rfl
theorem v_isiS (hr : Rp K H v d) (h : Q (.bl (isStr d)) H) : rIsi K [v, .ty "str"] H Q := ⟨v, .ty "str", _, .type "str", _, rfl, .ty _, rp_ty hr, kit_str d, h⟩
theorem v_isiB (hr : Rp K H v d) (h : Q (.bl (isBool d)) H) : rIsi K [v, .ty "bool"] H Q := ⟨v, .ty "bool", _, .type "bool", _, rfl, .ty _, rp_ty hr, kit_bool d, h⟩
theorem v_isiI (hr : Rp K H v d) (h : Q (.bl (isIntB d)) H) : rIsi K [v, .ty "int"] H Q := ⟨v, .ty "int", _, .type "int", _, rfl, .ty _, rp_ty hr, kit_int d, h⟩
theorem v_isiT {tp : Addr} (ht : H tp = some (.tup [.ty "tuple", .ty "list"])) (hr : Rp K H v d) (h : Q (.bl (isLT d)) H) : rIsiT K [v, .ref tp] H Q :=
  ⟨v, tp, [.ty "tuple", .ty "list"], _, [.type "tuple", .type "list"], _, rfl, ht, .cons (.ty _) (.cons (.ty _) .nil), rp_ty hr, kit_LT d, h⟩
theorem Hs.r (h : Hs B M H) (s : Rp K B v d) : Rp K H v d := s.up h.sub
end
/-! ### texts -/
open SX (S)
theorem S_size (l : List Nat) : (S l).cps.size = l.length := by simp [S]
theorem S_length (l : List Nat) : (S l).length = l.length := SX.S_len l
theorem S_tl (l : List Nat) : (S l).cps.toList = l := rfl
theorem S_get (l : List Nat) (i : Nat) : (S l).cps[i]? = l[i]? := by simp [S]
theorem S_one (c : Nat) : (⟨#[c]⟩ : Str) = S [c] := rfl
theorem joinL_nil : ∀ ys : List (List Nat), TL.joinL [] ys = ys.flatten
  | [] => rfl
  | [p] => by simp [TL.joinL]
  | p :: q :: r => by
    show p ++ ([] ++ TL.joinL [] (q :: r)) = _
    rw [joinL_nil (q :: r)]
    rfl
theorem join_signs (l : List Nat) : Txt.join (S []) (l.map fun c => S [c]) = S l := by
  have e : (l.map fun c => S [c]) = (l.map fun c => [c]).map S := by rw [List.map_map]; rfl
  rw [e, SX.join_S, joinL_nil]
  congr 1
  induction l with
  | nil => rfl
  | cons x l ih =>
    rw [List.map_cons, List.flatten_cons, ih (by rw [List.map_map]; rfl)]
    rfl
theorem v_join {K : PySem.W.Frag} {Q : VK} {H : Hp} {p : Addr} {l : List Nat} (h : SqL K H p (l.map fun c => V.str (S [c]))) (hl : l.length ≤ 1000000) (q : Q (.str (S l)) H) : rJoin K (.str (S [])) [.ref p] H Q := by
  refine ⟨S [], p, l.map fun c => S [c], rfl, rfl, .inl ?_, ?_, ?_⟩
  · rw [List.map_map]
    exact h
  · rw [List.map_map, List.length_map, S_length]
    have e : ∀ m : List Nat, (m.map ((fun x : Str => x.length) ∘ fun c => S [c])).sum = m.length := by
      intro m
      induction m with
      | nil => rfl
      | cons x m ih =>
        rw [List.map_cons, List.sum_cons, ih]
        show (S [x]).length + m.length = m.length + 1
        rw [S_length]
        simp
        omega
    rw [e]
    simp
    omega
  · rw [join_signs]
    exact q

/-! ### methods, dicts -/
section
variable {B H : Hp} {M : List (Addr × HO)} {Q : VK} {K : PySem.W.Frag} {v x y : V} {σ : L2.St} {D : Ends} {ta tb tc to te td ty tv : TE} {a : TA} {r : V → List V → Hp → VK → Prop} {r1 r2 : R2}
def M1r (r : V → List V → Hp → VK → Prop) (te : TE) (σ : L2.St) (x : V) (H : Hp) (Q : VK) : Prop := (∃ a, x = .str a) ∧ te σ H fun y H2 => r x [y] H2 Q
theorem v_m1 (h : to σ H fun x H1 => M1r r te σ x H1 Q) : tM1 r to te σ H Q := h
theorem v_m1S {z : Str} (h : te σ H fun y H2 => r (.str z) [y] H2 Q) : M1r r te σ (.str z) H Q := ⟨⟨z, rfl⟩, h⟩
def BMr (K : PySem.W.Frag) (T : String) (r : V → List V → Hp → VK → Prop) (a : TA) (σ : L2.St) (x : V) (H : Hp) (Q : VK) : Prop := tyV K T x H ∧ a σ H fun xs H2 => r x xs H2 Q
theorem v_bm {T : String} (h : to σ H fun x H1 => BMr K T r a σ x H1 Q) : tBM K T r to a σ H Q := h
theorem v_bm0 {T : String} (h : to σ H fun x H1 => tyV K T x H1 ∧ r x [] H1 Q) : tBM0 K T r to σ H Q := h
theorem v_bmL {p : Addr} {xs : List V} (hx : H p = some (.lst xs)) (h : a σ H fun ys H2 => r (.ref p) ys H2 Q) : BMr K "list" r a σ (.ref p) H Q := ⟨.inl ⟨rfl, _, SqL.of hx⟩, h⟩
theorem v_append {l : Addr} {xs : List V} (hx : H l = some (.lst xs)) (hl : xs.length ≤ 1000000) (h : Q .non (upd H l (.lst (xs ++ [y])))) : rAppend (.ref l) [y] H Q := ⟨l, xs, y, rfl, rfl, hx, sz_lt hl, h⟩
theorem v_pop {l : Addr} {xs : List V} (hx : H l = some (.lst (xs ++ [y]))) (h : Q y (upd H l (.lst xs))) : tyV K "list" (.ref l) H ∧ rPop (.ref l) [] H Q := ⟨.inl ⟨rfl, _, SqL.of hx⟩, l, xs ++ [y], y, rfl, rfl, hx, by simp, by simpa using h⟩
theorem v_dnewK (h : Nw H (.dK []) Q) : tDNewK σ H Q := h
theorem v_dnewT (h : Nw H (.dT []) Q) : tDNewT σ H Q := h
def DgR (x y : V) (H : Hp) (Q : VK) : Prop := ∃ a v, x = .ref a ∧ DGet H a y (some v) ∧ Q v H
def DiR (y x : V) (H : Hp) (Q : VK) : Prop := ∃ a o, x = .ref a ∧ DGet H a y o ∧ Q (.bl o.isSome) H
def DnR (y x : V) (H : Hp) (Q : VK) : Prop := ∃ a o, x = .ref a ∧ DGet H a y o ∧ Q (.bl (!o.isSome)) H
def DpR (v x y : V) (H : Hp) (q : Hp → Prop) : Prop := ∃ a H4, x = .ref a ∧ DPut H a y v H4 ∧ q H4
theorem v_dget (h : td σ H fun x H1 => ty σ H1 fun y H2 => DgR x y H2 Q) : tDGet td ty σ H Q := h
theorem v_din (h : ty σ H fun y H1 => td σ H1 fun x H2 => DiR y x H2 Q) : tDIn ty td σ H Q := h
theorem v_dnotin (h : ty σ H fun y H1 => td σ H1 fun x H2 => DnR y x H2 Q) : tDNotIn ty td σ H Q := h
theorem v_dput (h : tv σ H fun v H1 => td σ H1 fun x H2 => ty σ H2 fun y H3 => DpR v x y H3 (D.nx σ)) : sDPut td ty tv D σ H := h
theorem v_dgetI {d : Addr} {kvs : List (Key × V)} {k : Int} (e : H d = some (.dK kvs)) (hv : valV kvs (.inl k) = some v) (h : Q v H) : DgR (.ref d) (.int k) H Q := ⟨d, v, rfl, hv ▸ DGet.k (k := .inl k) e, h⟩
theorem v_dgetS {d : Addr} {kvs : List (Key × V)} {k : Str} (e : H d = some (.dK kvs)) (hv : valV kvs (.inr k) = some v) (h : Q v H) : DgR (.ref d) (.str k) H Q := ⟨d, v, rfl, hv ▸ DGet.k (k := .inr k) e, h⟩
theorem v_dgetT {d b : Addr} {kvs : List (List Key × V)} {k : List Key} (e : H d = some (.dT kvs)) (eb : H b = some (.tup (k.map kV))) (hv : valV kvs k = some v) (h : Q v H) : DgR (.ref d) (.ref b) H Q := ⟨d, v, rfl, hv ▸ DGet.t (k := k) e eb, h⟩
theorem v_dinI {d : Addr} {kvs : List (Key × V)} {k : Int} (e : H d = some (.dK kvs)) (h : Q (.bl (valV kvs (.inl k)).isSome) H) : DiR (.int k) (.ref d) H Q := ⟨d, _, rfl, DGet.k (k := .inl k) e, h⟩
theorem v_dinT {d b : Addr} {kvs : List (List Key × V)} {k : List Key} (e : H d = some (.dT kvs)) (eb : H b = some (.tup (k.map kV))) (h : Q (.bl (valV kvs k).isSome) H) : DiR (.ref b) (.ref d) H Q := ⟨d, _, rfl, DGet.t (k := k) e eb, h⟩
theorem v_dninI {d : Addr} {kvs : List (Key × V)} {k : Int} (e : H d = some (.dK kvs)) (h : Q (.bl (!(valV kvs (.inl k)).isSome)) H) : DnR (.int k) (.ref d) H Q := ⟨d, _, rfl, DGet.k (k := .inl k) e, h⟩
theorem v_dninT {d b : Addr} {kvs : List (List Key × V)} {k : List Key} (e : H d = some (.dT kvs)) (eb : H b = some (.tup (k.map kV))) (h : Q (.bl (!(valV kvs k).isSome)) H) : DnR (.ref b) (.ref d) H Q := ⟨d, _, rfl, DGet.t (k := k) e eb, h⟩
theorem v_dputI {d : Addr} {kvs : List (Key × V)} {k : Int} {q : Hp → Prop} (e : H d = some (.dK kvs)) (hl : kvs.length ≤ 1000000) (h : q (upd H d (.dK (putK kvs (.inl k) v)))) : DpR v (.ref d) (.int k) H q := ⟨d, _, rfl, DPut.k (k := .inl k) e (sz_lt hl), h⟩
theorem v_dputS {d : Addr} {kvs : List (Key × V)} {k : Str} {q : Hp → Prop} (e : H d = some (.dK kvs)) (hl : kvs.length ≤ 1000000) (h : q (upd H d (.dK (putK kvs (.inr k) v)))) : DpR v (.ref d) (.str k) H q := ⟨d, _, rfl, DPut.k (k := .inr k) e (sz_lt hl), h⟩
theorem v_dputT {d b : Addr} {kvs : List (List Key × V)} {k : List Key} {q : Hp → Prop} (e : H d = some (.dT kvs)) (eb : H b = some (.tup (k.map kV))) (hl : kvs.length ≤ 1000000) (h : q (upd H d (.dT (putK kvs k v)))) : DpR v (.ref d) (.ref b) H q := ⟨d, _, rfl, DPut.t (k := k) e eb (sz_lt hl), h⟩
theorem v_chain (h : ta σ H fun x H1 => tb σ H1 fun y H2 => r1 x y H2 fun z H3 => ∃ k, z = .bl k ∧ (if k = true then tc σ H3 fun w' H4 => r2 y w' H4 Q else Q (.bl false) H3)) : tChain r1 r2 ta tb tc σ H Q := h
theorem v_un {f : V → Hp → VK → Prop} (h : ta σ H fun x H1 => f x H1 Q) : tUn f ta σ H Q := h
theorem v_neg {i : Int} {f : Int → V} (h : Q (f i) H) : rU f (.int i) H Q := ⟨i, rfl, h⟩
end

/-! ### get of a written dict -/
def tKGet (K : PySem.W.Frag) (d : Addr) (td ty : TE) : TE := fun σ H Q => td σ H fun x H1 => x = .ref d ∧ ty σ H1 fun y H2 => ∃ (z : Str) (r : Option Value) (v0 : V), y = .str z ∧ PySem.W.nsIn K d z = some r ∧ RelV v0 (r.getD .none) ∧ Q v0 H2
theorem pe_kdget {X : Cx} {o e : Expr} {apos cpos : Pos} {td ty : TE} {d : Addr} {es : Array DictEntry} {n : Nat} (D : KDict X.K X.w d es n) (ho : PE X o td) (he : PE X e ty) (m : M1 X o "get" apos e cpos := by exact ⟨rfl, rfl, rfl, rfl⟩) :
    PE X (.Call (.Attribute o "get" apos) [e] [] cpos) (tKGet X.K d td ty) := by
  refine ⟨fun pins s σ H Q I h => ?_⟩
  refine wpAny_Call_method m.base m.few m.line PySem.F.plainAttrs_dict PySem.F.slot_dict_get PySem.F.type_dict_get (thn (ho.run pins s σ H _ I h) fun u s1 hh => ?_)
  obtain ⟨x, H1, I1, rx, ex, q1⟩ := hh
  subst ex
  obtain rfl : u = Value.ref d := rx
  refine ⟨kd_type D I1, fun b q => ?_, ?_⟩
  · cases q
    exact ⟨_, I1.kIn d _ D.at_, rfl⟩
  rw [m.trees]
  refine Calls.callWith_builtin rfl (Calls.evalArgs_plain (Calls.spliced_cons (thn (he.run pins s1 σ H1 _ I1 q1) fun iv s2 hh => ?_)))
  obtain ⟨y, H2, I2, ry, z, r, v0, ey, en, rv, q2⟩ := hh
  refine Calls.spliced_nil ?_
  subst ey
  obtain ⟨t, rfl⟩ := ry
  refine call_meetsIn PySem.F.slot_dict_get (kd_type D I2) PySem.F.entry_dict_get (PySem.F.args_dict_get_2 _ _) (meets_dict_get (PySem.strKind X.prog X.w) d (PySem.strKind_is X.prog X.w z t) D.low) ⟨_, PySem.W.mapOf_K (prog := X.prog) I2.kIn D.at_ D.lit, ?_⟩
  refine ⟨v0, H2, I2.tok _, ?_, q2⟩
  rw [PySem.W.find_K D.at_ en]
  exact rv
end Sh
set_option Elab.async false
set_option linter.all false
set_option maxRecDepth 100000
/-! parts of tense sheets, as plain data -/
namespace Sh
open PySem PySem.Spec PyProof.Rows L2
open SX (S)
inductive U1 where | not | next | prev
  deriving DecidableEq
inductive U2 where | and | or | untl | sinc
  deriving DecidableEq
def U1.nm : U1 → Str | .not => "not" | .next => "next" | .prev => "prev"
def U2.nm : U2 → Str | .and => "and" | .or => "or" | .untl => "until" | .sinc => "since"
inductive Part where
  | c (b : Bool) | letter (a : Nat) | un (u : U1) (i : Nat) | bin (u : U2) (i j : Nat)
  deriving DecidableEq
def cnm (b : Bool) : Str := if b = true then "yes" else "no"
/-- what a part holds -/
def Part.keys : Part → List Key
  | .c b => [.inr (cnm b)]
  | .letter a => [.inr "letter", .inr (S [a])]
  | .un u i => [.inr u.nm, .inl (i : Int)]
  | .bin u i j => [.inr u.nm, .inl (i : Int), .inl (j : Int)]
def Part.vals (p : Part) : List V := p.keys.map kV
def toD : V → PyData
  | .bl b => .bool b
  | .int i => .int i
  | .str x => .str x
  | _ => .none
def kD : Key → PyData
  | .inl i => .int i
  | .inr x => .str x
def Part.dat (p : Part) : List PyData := p.keys.map kD
def mkD (l : Bool) (ds : List PyData) : PyData := if l = true then .list ds else .tuple ds
def partD (l : Bool) (p : Part) : PyData := mkD l p.dat
def sheetD (lo li : Bool) (ps : List Part) : PyData := mkD lo (ps.map (partD li))
section
variable {K : PySem.W.Frag} {B H : Hp} {v : V} {d : PyData}
theorem rp_kV (k : Key) : Rp K B (kV k) (kD k) := by
  cases k with
  | inl i => exact .int i
  | inr x => exact .str x
theorem rp_kVs (ks : List Key) : RpAll K B (ks.map kV) (ks.map kD) := RpAll.map rp_kV ks
theorem rp_kD {k : Key} (h : Rp K B v (kD k)) : v = kV k := by
  cases k with
  | inl i => cases h; rfl
  | inr x => cases h; rfl
theorem rp_kDs : ∀ {ks : List Key} {vs : List V}, RpAll K B vs (ks.map kD) → vs = ks.map kV
  | [], _, h => by cases h; rfl
  | k :: ks, _, h => by
    cases h with
    | cons h1 h2 => rw [rp_kD h1, rp_kDs h2]; rfl
/-- a list, a tuple -/
def SqX (K : PySem.W.Frag) (H : Hp) (l : Bool) (a : Addr) (xs : List V) : Prop := if l = true then SqL K H a xs else H a = some (.tup xs)
theorem SqX.up {l : Bool} {a : Addr} {xs : List V} (e : Le B H) (h : SqX K B l a xs) : SqX K H l a xs := by
  cases l with
  | true => exact le_l e h
  | false => exact e _ _ h
theorem rp_mk {l : Bool} {ds : List PyData} (h : Rp K B v (mkD l ds)) : ∃ a xs, v = .ref a ∧ SqX K B l a xs ∧ RpAll K B xs ds := by
  cases l with
  | true => cases h with | lst h1 h2 => exact ⟨_, _, rfl, h1, h2⟩
  | false => cases h with | tup h1 h2 => exact ⟨_, _, rfl, h1, h2⟩
theorem mk_rp {l : Bool} {a : Addr} {xs : List V} {ds : List PyData} (h : SqX K B l a xs) (r : RpAll K B xs ds) : Rp K B (.ref a) (mkD l ds) := by
  cases l with
  | true => exact .lst h r
  | false => exact .tup h r
theorem rp_part {l : Bool} {p : Part} (h : Rp K B v (partD l p)) : ∃ a, v = .ref a ∧ SqX K B l a p.vals := by
  obtain ⟨a, xs, rfl, h1, h2⟩ := rp_mk h
  have e := rp_kDs h2
  subst e
  exact ⟨a, rfl, h1⟩
theorem part_rp {l : Bool} {p : Part} {a : Addr} (h : SqX K B l a p.vals) : Rp K B (.ref a) (partD l p) := mk_rp h (rp_kVs _)
end
/-- the k-th part refers to parts ahead, its letter is one of al -/
def Part.ok (al : List Nat) (k : Nat) : Part → Prop
  | .c _ => True
  | .letter a => a ∈ al
  | .un _ i => i < k
  | .bin _ i j => i < k ∧ j < k
def WF (al : List Nat) (ps : List Part) : Prop := ∀ (k : Nat) (p : Part), ps[k]? = some p → p.ok al k
theorem WF.nil (al : List Nat) : WF al [] := fun k p h => by simp at h
theorem WF.snoc {al : List Nat} {ps : List Part} {p : Part} (h : WF al ps) (hp : p.ok al ps.length) : WF al (ps ++ [p]) := fun k q e => by
  by_cases hk : k < ps.length
  · rw [List.getElem?_append_left hk] at e
    exact h k q e
  · rw [List.getElem?_append_right (by omega)] at e
    have : k - ps.length = 0 := by
      by_cases z : k - ps.length = 0
      · exact z
      · rw [List.getElem?_eq_none (by simp; omega)] at e
        cases e
    rw [this] at e
    have e' := Option.some.inj e
    subst e'
    have : k = ps.length := by omega
    rw [this]
    exact hp
section
variable {B H : Hp} {M : List (Addr × HO)} {Q : VK} {y : V}
theorem v_appM {l : Addr} {xs : List V} (hs : Hs B ((l, .lst xs) :: M) H) (hl : xs.length ≤ 1000000) (h : ∀ H', Hs B ((l, .lst (xs ++ [y])) :: M) H' → Q .non H') : rAppend (.ref l) [y] H Q := v_append hs.hd hl (h _ (hs.wr _))
theorem v_appM2 {l q : Addr} {o : HO} {xs : List V} (hs : Hs B ((q, o) :: (l, .lst xs) :: M) H) (hl : xs.length ≤ 1000000) (h : ∀ H', Hs B ((q, o) :: (l, .lst (xs ++ [y])) :: M) H' → Q .non H') : rAppend (.ref l) [y] H Q := v_append hs.sw.hd hl (h _ (hs.sw.wr _).sw)
end

theorem iteF' {c : Bool} {A B : Prop} (hc : c = false) (h : B) : if c = true then A else B := by subst hc; exact iteF h
theorem iteT' {c : Bool} {A B : Prop} (hc : c = true) (h : A) : if c = true then A else B := by subst hc; exact iteT h
/-! ### reading -/
section
variable {K : PySem.W.Frag} {B B' H H' : Hp} {M M' : List (Addr × HO)} {Q : VK} {v : V} {a : Addr} {xs : List V} {l : Bool}
theorem v_ixX {i : Int} (hx : SqX K H l a xs) (ha : atI xs i = some v) (h : Q v H) : rIx K (.ref a) (.int i) H Q := by
  cases l with
  | true => exact .inl (v_ixL hx ha h)
  | false => exact .inr (.inl (v_ixT (SqT.of hx) ha h))
theorem Hs.x (h : Hs B M H) (s : SqX K B l a xs) : SqX K H l a xs := s.up h.sub
/-- a list that is known, or one that is being made -/
def Rdl (K : PySem.W.Frag) (B : Hp) (M : List (Addr × HO)) (a : Addr) (xs : List V) : Prop := SqL K B a xs ∨ (a, HO.lst xs) ∈ M
theorem Rdl.sq (r : Rdl K B M a xs) (e : Le B B') (s : ∀ x ∈ M, x ∈ M') (h : Hs B' M' H) : SqL K H a xs := by
  rcases r with r | r
  · exact h.l (le_l e r)
  · exact SqL.of (h.at (s _ r))
def AtX (K : PySem.W.Frag) (x : V) (H : Hp) (R : It → Hp → Prop) : Prop := AtL K x H R ∨ AtT K x H R
end
/-! ### where a part holds, by the definition -/
def lineAt (ls : List (List Bool)) (i k : Nat) : Bool := (ls.getD i []).getD k false
def holds (p : Part) (ls : List (List Bool)) (r : List Nat) (k : Nat) : Bool := match p with
  | .c b => b
  | .letter a => decide (r.getD k 0 = a)
  | .un .not i => !lineAt ls i k
  | .un .next i => decide (k + 1 < r.length) && lineAt ls i (k + 1)
  | .un .prev i => decide (0 < k) && lineAt ls i (k - 1)
  | .bin .and i j => lineAt ls i k && lineAt ls j k
  | .bin .or i j => lineAt ls i k || lineAt ls j k
  | .bin .untl i j => ((List.range (r.length - (k + 1))).map fun m => lineAt ls j (k + 1 + m) && (((ls.getD i []).drop (k + 1)).take (k + 1 + m - (k + 1))).all id).any id
  | .bin .sinc i j => ((List.range k).map fun m => lineAt ls j m && (((ls.getD i []).drop (m + 1)).take (k - (m + 1))).all id).any id
def linesD (ls : List (List Bool)) : List PyData := ls.map fun l => .list (l.map .bool)
theorem rp_bools {K : PySem.W.Frag} {B : Hp} : ∀ {bs : List Bool} {xs : List V}, RpAll K B xs (bs.map PyData.bool) → xs = bs.map V.bl
  | [], _, h => by cases h; rfl
  | b :: bs, _, h => by
    cases h with
    | cons h1 h2 =>
      cases h1
      rw [rp_bools h2]
      rfl
theorem bools_rp {K : PySem.W.Frag} {B : Hp} (bs : List Bool) : RpAll K B (bs.map V.bl) (bs.map PyData.bool) := RpAll.map (fun b => .bl b) bs
theorem rp_line {K : PySem.W.Frag} {B : Hp} {xs : List V} {ls : List (List Bool)} (h : RpAll K B xs (linesD ls)) {i : Nat} (hi : i < ls.length) : ∃ a, xs[i]? = some (.ref a) ∧ SqL K B a ((ls.getD i []).map V.bl) := by
  obtain ⟨v, e, hv⟩ := h.get (i := i) (d := .list ((ls.getD i []).map .bool)) (by
    unfold linesD
    rw [List.getElem?_map, List.getElem?_eq_getElem hi, List.getD_eq_getElem?_getD, List.getElem?_eq_getElem hi]
    rfl)
  cases hv with
  | lst h1 h2 =>
    rw [rp_bools h2] at h1
    exact ⟨_, e, h1⟩
theorem bl_at {bs : List Bool} {k : Nat} (hk : k < bs.length) : (bs.map V.bl)[k]? = some (.bl (bs.getD k false)) := by
  rw [List.getElem?_map, List.getElem?_eq_getElem hk, List.getD_eq_getElem?_getD, List.getElem?_eq_getElem hk]
  rfl

section
variable {K : PySem.W.Frag} {B B' H H' : Hp} {M M' : List (Addr × HO)} {D : Ends} {σ : L2.St} {g : TG} {tb : TS} {p : Addr} {xs : List V} {l : Bool} {i : Nat} {Q : VK} {tt : TT} {te : TE} {vs : List Nat}
theorem v_forX (e : σ[i]? = some (some (.ref p))) (hx : SqX K B l p xs) (hs : Hs B M H) (I : Nat → L2.St → Hp → List (Addr × HO) → Prop) (h0 : I 0 σ B M)
    (step : ∀ i x σ' B' M' H', i < xs.length → xs[i]? = some x → Le B B' → Hs B' M' H' → I i σ' B' M' → g x σ' H' fun σ2 H2 => tb { D with nx := IV B I (i + 1), ct := IV B I (i + 1), bk := D.nx } σ2 H2)
    (done : ∀ σ' B' M' H', Le B B' → Hs B' M' H' → I xs.length σ' B' M' → D.nx σ' H') : tFor (iSeq K (tVar i)) g tb D σ H := by
  cases l with
  | true => exact Or.inl ⟨_, e, v_atL (hs.l hx) (v_forL hx hs I h0 step done)⟩
  | false => exact Or.inr ⟨_, e, v_atT (hs.t (SqT.of hx)) (v_forT (SqT.of hx) hs I h0 step done)⟩
theorem v_lcX (e : σ[i]? = some (some (.ref p))) (hx : SqX K B l p xs) (hs : Hs B M H) (I : Nat → List V → Hp → List (Addr × HO) → Prop) (h0 : I 0 [] B M)
    (step : ∀ i x p acc B' M' H', i < xs.length → xs[i]? = some x → acc.length ≤ i → Le B B' → Hs B' ((p, .lst acc) :: M') H' → I i acc B' M' → g x (wipe σ vs) H' fun σ2 H2 => wipe σ2 vs = wipe σ vs ∧ tt σ2 H2 fun b H3 =>
      if b = true then te σ2 H3 (IE B I p (i + 1)) else IP B I p (i + 1) H3)
    (done : ∀ p acc B' M' H', acc.length ≤ xs.length → Le B B' → Hs B' ((p, .lst acc) :: M') H' → I xs.length acc B' M' → Q (.ref p) H') : tLc (iSeq K (tVar i)) g tt te vs σ H Q := by
  cases l with
  | true => exact Or.inl ⟨_, e, v_atL (hs.l hx) (v_lcL hx hs I h0 step done)⟩
  | false => exact Or.inr ⟨_, e, v_atT (hs.t (SqT.of hx)) (v_lcT (SqT.of hx) hs I h0 step done)⟩
end
/-- the lines of the parts -/
def lineOf (r : List Nat) (ls : List (List Bool)) (p : Part) : List Bool := (List.range r.length).map (holds p ls r)
def linesOf (r : List Nat) (ps : List Part) : List (List Bool) := ps.foldl (fun ls p => ls ++ [lineOf r ls p]) []
theorem linesOf_snoc (r : List Nat) (ps : List Part) (p : Part) : linesOf r (ps ++ [p]) = linesOf r ps ++ [lineOf r (linesOf r ps) p] := by
  unfold linesOf
  rw [List.foldl_append]
  rfl
theorem foldl_len (r : List Nat) : ∀ (ps : List Part) (ls : List (List Bool)), (ps.foldl (fun ls p => ls ++ [lineOf r ls p]) ls).length = ls.length + ps.length
  | [], ls => rfl
  | p :: ps, ls => by
    rw [List.foldl_cons, foldl_len r ps]
    simp
    omega
theorem linesOf_len (r : List Nat) (ps : List Part) : (linesOf r ps).length = ps.length := by
  unfold linesOf
  rw [foldl_len]
  simp
theorem foldl_each (r : List Nat) : ∀ (ps : List Part) (ls : List (List Bool)), (∀ l ∈ ls, l.length = r.length) → ∀ l ∈ ps.foldl (fun ls p => ls ++ [lineOf r ls p]) ls, l.length = r.length
  | [], ls, h => h
  | p :: ps, ls, h => foldl_each r ps _ fun l hl => by
    rcases List.mem_append.mp hl with hl | hl
    · exact h l hl
    · rw [List.mem_singleton.mp hl]
      simp [lineOf]
theorem linesOf_each (r : List Nat) (ps : List Part) : ∀ l ∈ linesOf r ps, l.length = r.length := foldl_each r ps [] (by simp)
end Sh
set_option Elab.async false
set_option linter.all false
set_option maxRecDepth 100000
namespace Sh
open PySem PySem.Spec PyProof.Rows L2
open SX (S)
section
variable {B H : Hp} {M : List (Addr × HO)} {Q : VK} {K : PySem.W.Frag} {v : V} {d : PyData} {σ : L2.St}
theorem v_slAB {p : Addr} {xs : List V} {lo hi : Option Int} (hs : Hs B M H) (hx : B p = some (.tup xs)) (h : ∀ (p' : Addr) (B' H' : Hp), Le B B' → Hs B' M H' → B' p' = some (.tup (cutV xs lo hi)) → Q (.ref p') H') : rSlA K (.ref p) lo hi H Q := by
  refine ⟨p, xs, rfl, hs.t (SqT.of hx), fun hw => ?_, fun _ => v_newB hs fun p' B' H' l h' e => h p' B' H' l h' e⟩
  refine h p B H (Same.refl B) hs ?_
  have e : cutV xs lo hi = xs := by
    unfold cutV
    rw [hw.1, hw.2, List.drop_zero, Nat.sub_zero, List.take_length]
  rw [e]
  exact hx
theorem v_catAB {a b : Addr} {xs ys : List V} (hs : Hs B M H) (hx : B a = some (.tup xs)) (hy : B b = some (.tup ys)) (hl : xs.length + ys.length ≤ sizeLine) (h : ∀ (p' : Addr) (B' H' : Hp), Le B B' → Hs B' M H' → B' p' = some (.tup (xs ++ ys)) → Q (.ref p') H') : rCatA K (.ref a) (.ref b) H Q := by
  refine ⟨a, b, xs, ys, rfl, rfl, hs.t (SqT.of hx), hs.t (SqT.of hy), hl, fun e => ?_, fun _ e => ?_, fun _ _ => v_newB hs fun p' B' H' l h' e => h p' B' H' l h' e⟩
  · subst e
    exact h b B H (Same.refl B) hs hy
  · subst e
    rw [List.append_nil] at h
    exact h a B H (Same.refl B) hs hx
theorem v_tupLB {p : Addr} {xs : List V} (hs : Hs B M H) (hx : SqL K H p xs) (h : ∀ (p' : Addr) (B' H' : Hp), Le B B' → Hs B' M H' → B' p' = some (.tup xs) → Q (.ref p') H') : rCTup K [.ref p] H Q :=
  v_tupleL hx (v_newB hs fun p' B' H' l h' e => h p' B' H' l h' e)
/-- one of two readings -/
def tAlt (t1 t2 : TE) : TE := fun σ H Q => t1 σ H Q ∨ t2 σ H Q
theorem pe_alt {X : Cx} {e : Expr} {t1 t2 : TE} (h1 : PE X e t1) (h2 : PE X e t2) : PE X e (tAlt t1 t2) :=
  ⟨fun pins s σ H Q I q => q.elim (h1.run pins s σ H Q I) (h2.run pins s σ H Q I)⟩
theorem v_all {bs : List Bool} {p : Addr} (hx : SqL K H p (bs.map V.bl)) (h : Q (.bl (bs.all id)) H) : rAll K [.ref p] H Q := ⟨p, bs, rfl, hx, h⟩
theorem v_any {bs : List Bool} {p : Addr} (hx : SqL K H p (bs.map V.bl)) (h : Q (.bl (bs.any id)) H) : rAny K [.ref p] H Q := ⟨p, bs, rfl, hx, h⟩
theorem v_lenX {l : Bool} {p : Addr} {xs : List V} (hx : SqX K H l p xs) (h : Q (.int (xs.length : Nat)) H) : rCLen K [.ref p] H Q := by
  cases l with
  | true => exact v_lenL hx h
  | false => exact v_lenT (SqT.of hx) h
theorem Hs.trx {l : Bool} {p : Addr} {xs : List V} (h : Hs B M H) (s : SqX K B l p xs) : SqX K H l p xs := s.up h.sub
end
end Sh
namespace Sh
open PySem PySem.Spec PyProof.Rows L2
/-- the i-th thing that may change, changed -/
theorem Hs.wrI {B H : Hp} {M : List (Addr × HO)} {p : Addr} {o o' : HO} (h : Hs B M H) (i : Nat) (e : M[i]? = some (p, o)) : Hs B (M.set i (p, o')) (upd H p o') := by
  obtain ⟨hi, e1⟩ := List.getElem?_eq_some_iff.mp e
  have es : M = M.take i ++ (p, o) :: M.drop (i + 1) := by rw [← e1, List.getElem_cons_drop, List.take_append_drop]
  have es2 : M.set i (p, o') = M.take i ++ (p, o') :: M.drop (i + 1) := List.set_eq_take_append_cons_drop.trans (if_pos hi)
  rw [es] at h
  rw [es2]
  exact ((h.perm List.perm_middle).wr o').perm List.perm_middle.symm
theorem Hs.atI {B H : Hp} {M : List (Addr × HO)} {p : Addr} {o : HO} (h : Hs B M H) (i : Nat) (e : M[i]? = some (p, o)) : H p = some o := h.at (List.mem_of_getElem? e)
theorem Hs.pick {B H : Hp} {M M' : List (Addr × HO)} (h : Hs B M H) (s : M'.Sublist M) : Hs B M' H := ⟨h.sub, fun p hp => h.own p (s.subset hp), (s.map (·.1)).nodup h.nd⟩
section
variable {B H : Hp} {M : List (Addr × HO)} {Q : VK} {y v : V} {K : PySem.W.Frag}
theorem v_appI {l : Addr} {xs : List V} (hs : Hs B M H) (i : Nat) (e : M[i]? = some (l, .lst xs)) (hl : xs.length ≤ 1000000) (h : ∀ H', Hs B (M.set i (l, .lst (xs ++ [y]))) H' → Q .non H') : rAppend (.ref l) [y] H Q := v_append (hs.atI i e) hl (h _ (hs.wrI i e))
theorem v_popI {l : Addr} {xs : List V} (hs : Hs B M H) (i : Nat) (e : M[i]? = some (l, .lst (xs ++ [y]))) (h : ∀ H', Hs B (M.set i (l, .lst xs)) H' → Q y H') : tyV K "list" (.ref l) H ∧ rPop (.ref l) [] H Q := v_pop (hs.atI i e) (h _ (hs.wrI i e))
theorem v_dputII {d : Addr} {kvs : List (Key × V)} {k : Int} {q : Hp → Prop} (hs : Hs B M H) (i : Nat) (e : M[i]? = some (d, .dK kvs)) (hl : kvs.length ≤ 1000000) (h : ∀ H', Hs B (M.set i (d, .dK (putK kvs (.inl k) v))) H' → q H') : DpR v (.ref d) (.int k) H q := v_dputI (hs.atI i e) hl (h _ (hs.wrI i e))
theorem v_dputSI {d : Addr} {kvs : List (Key × V)} {k : Str} {q : Hp → Prop} (hs : Hs B M H) (i : Nat) (e : M[i]? = some (d, .dK kvs)) (hl : kvs.length ≤ 1000000) (h : ∀ H', Hs B (M.set i (d, .dK (putK kvs (.inr k) v))) H' → q H') : DpR v (.ref d) (.str k) H q := v_dputS (hs.atI i e) hl (h _ (hs.wrI i e))
theorem v_dputTI {d b : Addr} {kvs : List (List Key × V)} {k : List Key} {q : Hp → Prop} (hs : Hs B M H) (i : Nat) (e : M[i]? = some (d, .dT kvs)) (eb : B b = some (.tup (k.map kV))) (hl : kvs.length ≤ 1000000) (h : ∀ H', Hs B (M.set i (d, .dT (putK kvs k v))) H' → q H') : DpR v (.ref d) (.ref b) H q := v_dputT (hs.atI i e) (hs.sub _ _ eb) hl (h _ (hs.wrI i e))
end
end Sh
set_option Elab.async false
set_option linter.all false
set_option maxRecDepth 100000
set_option maxHeartbeats 2000000
/-! an own exception over ValueError whose __init__ says super().__init__(text); self.field = field -/
namespace PySem
namespace OwnX
open PySem.W PySem.Calls PyProof.Rows PySem.HandSPX
/-! ### the text of __init__ -/
def iA (f : Str) (p1 p2 : Pos) : Arguments := { posonlyargs := [], args := [{ arg := "self", annotation := none, pos := p1 }, { arg := f, annotation := none, pos := p2 }], vararg := none, kwonlyargs := [], kw_defaults := [], kwarg := none, defaults := [] }
def iB (f : Str) (te : Expr) (q1 q2 q3 q4 q5 q6 q7 q8 q9 : Pos) : List Stmt :=
  [.Expr (.Call (.Attribute (.Call (.Name "super" q1) [] [] q2) "__init__" q3) [te] [] q4) q5, .Assign [.Attribute (.Name "self" q6) f q7] (.Name f q8) q9]
def iS (f : Str) : Scope := { kind := .function, names := [(PySem.Str.ofString "self", .local), (f, .local), (PySem.Str.ofString "__class__", .free), (PySem.Str.ofString "super", .globalImplicit)], isGenerator := false, isCoroutine := false, more := [] }
/-- the text that super().__init__ takes can be told, the field's value good -/
def TextEv (te : Expr) (f : Str) (good : Value → Prop) : Prop := ∀ (prog : Program) (w : World) (A : Around) (E : Value → Shared → Prop) (s : Shared) (env : Env) (m : Str → Option Value) (v : Value) (Q : Value → Shared → Prop),
  env.scope.kind = .function → env.kindOf f = some .local → s.heap.Ns env.locals m → m f = some v → good v → (∀ u tk, Q u { s with toks := tk }) → wpAny (model prog w) A (eval te env) Q E s
theorem text_const {z : Str} {k : Nat} {p : Pos} (f : Str) : TextEv (.Constant (.str z) k p) f fun _ => True := fun _ _ _ _ _ _ _ _ _ _ _ _ _ _ q => wpAny_Constant_str (q _ _)
def goodI (v : Value) : Prop := ∃ i t, v = .int i t ∧ i.natAbs.log2 < 1920
def goodS (v : Value) : Prop := ∃ y t, v = .str y t ∧ y.length ≤ 1000
theorem text_int {a b : Str} {k1 k2 : Nat} {p1 p2 p3 p4 p5 : Pos} {f : Str} (ha : a.length ≤ 1000) (hb : b.length ≤ 1000) (hd : (f == ("__debug__" : Str)) = false) :
    TextEv (.JoinedStr [.Constant (.str a) k1 p1, .FormattedValue (.Name f p2) (-1) none p3, .Constant (.str b) k2 p4] p5) f goodI := by
  intro prog w A E s env m v Q hk hl hn hm ⟨i, t, ev, hi⟩ q
  subst ev
  refine wpAny_JoinedStr ?_
  show Joins _ _ _ [eval _ env, eval _ env, eval _ env] _ _ _
  refine wpAny_Constant_str ⟨_, _, rfl, ?_, wpAny_FormattedValue_plain (wpAny_Name (wpAny_loadName_local hk hl hn hm (wpAny_formatField_int hi ⟨_, _, rfl, ?_, wpAny_Constant_str ⟨_, _, rfl, ?_, ?_, q _ _⟩⟩)) hd)⟩
  all_goals have z := int_text_length_le (k := 1920) (by decide) hi
  all_goals rw [sizeLine_eq]
  all_goals try rw [ofString_length]
  all_goals simp only [Str.length_append, ofString_length, show Str.empty.length = 0 from rfl]
  all_goals omega
theorem text_str {a : Str} {k1 : Nat} {p1 p2 p3 p5 : Pos} {f : Str} (ha : a.length ≤ 1000) (hd : (f == ("__debug__" : Str)) = false) :
    TextEv (.JoinedStr [.Constant (.str a) k1 p1, .FormattedValue (.Name f p2) (-1) none p3] p5) f goodS := by
  intro prog w A E s env m v Q hk hl hn hm ⟨y, t, ev, hi⟩ q
  subst ev
  refine wpAny_JoinedStr ?_
  show Joins _ _ _ [eval _ env, eval _ env] _ _ _
  refine wpAny_Constant_str ⟨_, _, rfl, ?_, wpAny_FormattedValue_plain (wpAny_Name (wpAny_loadName_local hk hl hn hm (wpAny_formatField_str ⟨_, _, rfl, ?_, ?_, q _ _⟩ ⟨_, _, rfl, ?_, ?_, q _ _⟩ ?_)) hd)⟩
  all_goals rw [sizeLine_eq]
  all_goals try simp only [Str.length_append, show Str.empty.length = 0 from rfl]
  all_goals omega
theorem init_run {prog : Program} {w : World} {A : Around} {E : Value → Shared → Prop} {h : Heap} {g : Array GenState} {d : Drawn} {t : Nat} {os : OsState} {nm q : Str} {C N u e t0 : Addr} {bs bm : List Value} {hdct : Bool} {sn : List Str} {sub : List Value} {ab : Bool} {col : Option Bool} {dd : Option Addr} {k0 k1 k2 k3 k5 : Option Value} {rest : List Value} {Q : Value → Shared → Prop}
    (hC : h.get? C = some (excClassObj nm q C N bs bm hdct sn sub ab col dd k0 k1 k2 k3 k5 "ValueError.__new__")) (he : h.get? e = some (HandSPX.excO C t0)) (hu : h.get? u = some (kxs_mw "ValueError.__init__" e)) (hrest : rest.length ≤ sizeLine)
    (hq : ∀ h' t1, (∀ b o, b ≠ e → h.get? b = some o → h'.get? b = some o) → h'.get? e = some (HandSPX.excO C t1) → Q .none ⟨h', g, d, t, os⟩) :
    wpAny (model prog w) A (call (.ref u) rest) Q E ⟨h, g, d, t, os⟩ := by
  refine wpAny_call (codeAny_of_tree ?_)
  show wpAny _ A.in1 (callAny (.ref u) ⟨rest, []⟩) _ _ _
  simp only [callAny]
  refine wpAny_bind (wpAny_load hu ?_)
  simp only [kxs_mw, show (Value.type "method-wrapper" == Value.type "method" || Value.type "method-wrapper" == Value.type "builtin_function_or_method" || Value.type "method-wrapper" == Value.type "method-wrapper") = true by decide, if_true]
  refine KFB.if_so (by decide) ?_
  refine wpAny_bind (check_bound_init F.excBase_ValueError.toExcCallFacts hC he rfl ?_)
  refine wpAny_bind (wpAny_pure (wpAny_pure ?_))
  refine ⟨plainId_quiet F.excBase_ValueError.init.plain _, codeAny_builtin F.excBase_ValueError.initEntry ?_⟩
  exact exc_init_tree (cls := .ref C) (t0 := t0) (dv := none) (c2 := .none) (c3 := .none) (b4 := .bool false) he hrest fun h' k e' _ => hq h' _ k e'
/-- the call's text is walked plainly -/
def CallEv (te : Expr) (q1 q2 q3 q4 : Pos) : Prop := ∀ env : Env, starEach [te] env = (false, eval te env) :: starEach [] env ∧ ∃ pl, eval (.Call (.Attribute (.Call (.Name "super" q1) [] [] q2) "__init__" q3) [te] [] q4) env = (do
      let ov ← attributeBase (.Call (.Name "super" q1) [] [] q2) "__init__" env (eval (.Call (.Name "super" q1) [] [] q2) env)
      standAt q3.atName
      let (f, first) ← holding [ov] (getMethod ov "__init__" pl)
      callWith q4 f first (backTo q4 (starEach [te] env)) [])
example : CallEv (.Constant (.str "an argument does not have the form that is asked for") 0 ⟨7, 25, 7, 79⟩) ⟨7, 8, 7, 13⟩ ⟨7, 8, 7, 15⟩ ⟨7, 8, 7, 24⟩ ⟨7, 8, 7, 80⟩ := fun _ => ⟨rfl, _, rfl⟩
/-- what the written part says of the class C, its __init__ at fI (written in the class D, cell cc, code cda), the field f -/
structure OExc (prog : Program) (K : Frag) (C : Addr) (f : Str) (good : Value → Prop) : Prop where
  cls : ∃ nm q N bs bm sn sub ab col dd k0 k1 k2 k3 k5, K.lookup C = some (excClassObj nm q C N bs bm true sn sub ab col dd k0 k1 k2 k3 k5 "ValueError.__new__") ∧ refsVE bm = true
  sa : findIn K (.ref C) "__setattr__" = some (some (.builtin "object.__setattr__"))
  ga : findIn K (.ref C) "__getattribute__" = some (some (.builtin "BaseException.__getattribute__"))
  gg : findIn K (.ref C) "__getattr__" = some none
  noN : findIn K (.ref C) f = some none
  kC : keepIn K (.ref C) = true
  exC : subIn K (.ref C) (.type "BaseException") = some true
  exV : subIn K (.ref C) (.type "ValueError") = some true
  tyC : typeIn K (.ref C) = some (.type "type")
  hdC : hasDictIn K C = true
  opq : nsIn K cStatics "thirdparty.any" = some none
  own : ∃ D fI cc cda : Addr, findIn K (.ref C) "__init__" = some (some (.ref fI)) ∧ typeIn K (.ref fI) = some (.type "function") ∧ (∃ cdD, clsIn K D = some cdD) ∧ mroIn K C (.ref D) = some true ∧ ks_superIn K C D "__init__" = some (some (.builtin "ValueError.__init__")) ∧
    (∃ cl cld csl, K.lookup cc = some ⟨cl, cld, .cell (some (.ref D)), csl⟩) ∧ (∃ ccl cdd vs ccs file tf, K.lookup cda = some ⟨ccl, cdd, .fields vs, ccs⟩ ∧ vs[2]? = some (.str file tf) ∧ ((prog.main.file : Str) == file) = true) ∧
    ∃ (qual : Str) (oc : Value) (od : Option Addr) (doc pm : Value) (an : Option Addr) (ct : Value) (osl : Array (Option Value)) (te : Expr) (p1 p2 q1 q2 q3 q4 q5 q6 q7 q8 q9 : Pos),
      K.lookup fI = some ⟨oc, od, .func (ksFn "__init__" qual (iA f p1 p2) (iB f te q1 q2 q3 q4 q5 q6 q7 q8 q9) (iS f) .none .none doc pm an (.ref cda) ct cc), osl⟩ ∧ codeIn K (.ref cda) qual = true ∧ TextEv te f good ∧
      CallEv te q1 q2 q3 q4
  fS : (f == ("self" : Str)) = false
  fC : (f == ("__class__" : Str)) = false
  fU : (f == ("super" : Str)) = false
  fD : (f == ("__debug__" : Str)) = false
  bd : ∀ (s : Shared) (qual : Str) (body : List Stmt) (doc pm cdv ct : Value) (an : Option Addr) (cc : Addr) (p1 p2 : Pos) (a v : Value), BindsTo s (ksFn "__init__" qual (iA f p1 p2) body (iS f) .none .none doc pm an cdv ct cc) ⟨[a, v], []⟩ [("self", a), (f, v)]
  top : (prog.main.scope.names.lookup ("super" : Str)).isSome = false
/-- what __init__ leaves of a fresh exception at x -/
structure InitEnd (h h' : Heap) (x C dx t1 : Addr) (f : Str) (v : Value) : Prop where
  keep : ∀ b o, b ≠ x → h.get? b = some o → h'.get? b = some o
  obj : h'.get? x = some { cls := .ref C, dict := some dx, data := .fields #[.ref t1, .none, .none, .none, .bool false, .none] }
  dbig : h.objs.size ≤ dx
  dne : dx ≠ x
  ns : h'.Ns1 dx (fun y => if y = f then some v else none)
structure OwnMade (h h' : Heap) (e C d : Addr) (f : Str) (v : Value) : Prop where
  keep : ∀ b o, h.get? b = some o → h'.get? b = some o
  new : h.objs.size ≤ e
  obj : ∃ oe vs, h'.get? e = some oe ∧ oe.cls = .ref C ∧ oe.dict = some d ∧ oe.data = .fields vs ∧ vs[1]? = some .none
  dbig : h.objs.size ≤ d
  dne : d ≠ e
  ns : h'.Ns1 d (fun y => if y = f then some v else none)
section
variable {prog : Program} {w : World} {A : Around} {E : Value → Shared → Prop} {R : Result → Shared → Prop} {s : Shared} {K : Frag} {mg mb : Str → Option Value} {C : Addr} {f : Str} {good : Value → Prop}
theorem own_init (T : OExc prog K C f good) {x t0 fI : Addr} {v : Value} (hfI : findIn K (.ref C) "__init__" = some (some (.ref fI))) (X : K.In s.heap) (G : s.heap.Ns mainGlobals mg) (gs : mg "super" = none) (B : s.heap.Ns builtinsNs mb) (bs : mb "super" = some (.type "super")) (hlim : s.heap.NoLimit) (hx : s.heap.get? x = some (excO C t0))
    (hnx : K.lookup x = none) (hroom : A.depth < recursionLimit) (gv : good v) (hq : ∀ h' tk dx t1, InitEnd s.heap h' x C dx t1 f v → R (.ok (.ret .none)) { s with heap := h', toks := tk }) :
    codeAny (model prog w) A (.call (.ref fI) ⟨[.ref x, v], []⟩) R s := by
  obtain ⟨D, fI', cc, cda, hi, _, ⟨cdD, hD⟩, hm, hsup, ⟨cl, cld, csl, hcell⟩, ⟨ccl, cdd, cvs, ccs, file, tf, hcode, hvs, hfile⟩, qual, oc, od, doc, pm, an, ct, osl, te, p1, p2, q1, q2, q3, q4, q5, q6, q7, q8, q9, ho, hcd, htx, hst⟩ := T.own
  obtain rfl : fI = fI' := by
    have e := hfI.symm.trans hi
    injection e with e
    injection e with e
    injection e
  obtain ⟨nm, q, N, bss, bm, sn, sub, ab, col, dd, k0, k1, k2, k3, k5, hC, hbm⟩ := T.cls
  have hcl : clsIn K C = some { name := nm, bases := bss, mro := .ref C :: bm, ns := N, qualname := q, hasDict := true, slotNames := sn, subclasses := sub, abstract := ab, collection := col, hasDel := false } := by unfold clsIn; rw [hC] <;> rfl
  have fS := T.fS
  have fC := T.fC
  have fU := T.fU
  have kf : (iS f).names.lookup f = some .local := by simp [iS, List.lookup, fS]
  have kc : (iS f).names.lookup ("__class__" : Str) = some .free := by
    have e1 : ((PySem.Str.ofString "__class__") == f) = false := by rw [Bool.beq_comm] <;> exact fC
    simp [iS, List.lookup, e1]
    rfl
  have ku : (iS f).names.lookup ("super" : Str) = some .globalImplicit := by
    have e1 : ((PySem.Str.ofString "super") == f) = false := by rw [Bool.beq_comm] <;> exact fU
    simp [iS, List.lookup, e1]
    rfl
  have fS' : (("self" : Str) == f) = false := by rw [Bool.beq_comm] <;> exact fS
  refine ks_codeAny_call_defAt (fd := ksFn "__init__" qual (iA f p1 p2) (iB f te q1 q2 q3 q4 q5 q6 q7 q8 q9) (iS f) .none .none doc pm an (.ref cda) ct cc) (body := iB f te q1 q2 q3 q4 q5 q6 q7 q8 q9) (binds := [("self", .ref x), (f, v)]) hroom (X _ _ ho) rfl hlim (codeRec_of X hcd) rfl
    (T.bd _ _ _ _ _ _ _ _ _ _ _ _ _) (by intro y hy; simp only [iS, List.mem_cons, List.not_mem_nil, or_false] at hy; rcases hy with rfl | rfl | rfl | rfl <;> exact fun e => by cases e) ?_ (fun h₁ hns k => ?_) rfl rfl rfl
  · intro y hy
    simp only [List.mem_cons, List.not_mem_nil, or_false] at hy
    rcases hy with rfl | rfl
    · rfl
    · exact kf
  have X₁ : K.In h₁ := X.keeps k
  have hx₁ := k _ _ hx
  obtain ⟨oD, hD1, hD2⟩ : ∃ oD, h₁.get? D = some oD ∧ oD.data = .cls cdD := by
    unfold clsIn at hD
    split at hD
    · rename_i c d cd' sl ho
      cases hD
      exact ⟨_, X₁ _ _ ho, rfl⟩
    · cases hD
  have I : InstAt h₁ x (excO C t0) C none := ⟨hx₁, rfl, rfl, trivial⟩
  have mv : (fun y => [(("self" : Str), Value.ref x), (f, v)].reverse.lookup y) f = some v := by simp [List.lookup]
  have ms : (fun y => [(("self" : Str), Value.ref x), (f, v)].reverse.lookup y) "self" = some (Value.ref x) := by simp [List.lookup, fS']
  show wpAt _ _ _ (execs (iB f te q1 q2 q3 q4 q5 q6 q7 q8 q9) (ksEnv qual (iS f) s.heap.objs.size fI (.ref cda) cc)) _ _ _
  unfold iB
  refine ks_wpAt_execs_cons (ks_wpAt_Expr_any ?_)
  obtain ⟨hst, pl, hev⟩ := hst (ksEnv qual (iS f) s.heap.objs.size fI (.ref cda) cc)
  refine ks_wpAt_MethodCall (pl := pl) ?_ hev
  refine ks_wpAt_super_base (env := ksEnv qual (iS f) s.heap.objs.size fI (.ref cda) cc) ku kc rfl rfl (X₁ _ _ ho) rfl rfl rfl (X₁ _ _ hcode) rfl hvs hfile T.top ?_
  · refine ks_loadName_global rfl ku (loadGlobal_builtin (env := ksEnv qual (iS f) s.heap.objs.size fI (.ref cda) cc) (G.keeps k) gs (B.keeps k) bs ⟨rfl, ?_⟩)
    refine wpAny_loadName_free rfl kc rfl ⟨_, X₁ _ _ hcell, rfl⟩ ?_
    refine wpAny_loadName_local rfl (show (iS f).names.lookup ("self" : Str) = some .local from rfl) hns ms ?_
    refine ks_wpAny_isType_cls hD1 hD2 ⟨rfl, ?_⟩
    refine ks_wpAny_call_super hD1 hD2 hx₁ rfl (fun c e => by cases e) (looks_mroIn X₁ hm) (fun h₂ e₂ k₂ => ?_)
    have X₂ : K.In h₂ := X₁.keeps k₂
    have I₂ : InstAt h₂ x (excO C t0) C none := ⟨k₂ _ _ hx₁, rfl, rfl, trivial⟩
    have hsup' := hsup
    unfold ks_superIn at hsup'
    rw [hcl] at hsup'
    refine kxs_getMethod kxs_ValueError e₂ (looks_opaque X₂ T.opq) (l₀ := .ref C :: bm) ?_ rfl X₂ hsup' (I₂.type.andThen (looks_subIn X₂ T.exV)) (ks_ne X₂ I₂ hcl) rfl ?_
    · exact fun A Q E s k q => wpAny_bind ((looks_clsIn X₂ hcl) A _ E s k (wpAny_pure q))
    have k₃ : ∀ b o, s.heap.get? b = some o → (h₂.push (kxs_mw "ValueError.__init__" x)).get? b = some o := fun b o e => Heap.get?_push_of_some _ (k₂ _ _ (k _ _ e))
    have X₃ : K.In (h₂.push (kxs_mw "ValueError.__init__" x)) := X.keeps k₃
    have hn₃ : (h₂.push (kxs_mw "ValueError.__init__" x)).Ns s.heap.objs.size (fun y => [(("self" : Str), Value.ref x), (f, v)].reverse.lookup y) := by
      obtain ⟨oL, es, ep, hL, r⟩ := hns
      exact ⟨oL, es, ep, Heap.get?_push_of_some _ (k₂ _ _ hL), r⟩
    have hu₃ : (h₂.push (kxs_mw "ValueError.__init__" x)).get? h₂.objs.size = some (kxs_mw "ValueError.__init__" x) := Heap.get?_push_at rfl rfl
    show wpAny _ _ (callWith _ (.ref h₂.objs.size) [] (backTo q4 (starEach [te] _)) []) _ _ _
    rw [hst]
    refine kxs_callWith (i := "ValueError.__init__") (x := x) rfl (evalArgs_plain (spliced_cons (htx prog w _ _ _ _ _ v _ rfl kf hn₃ mv gv fun u tk => spliced_nil ⟨hu₃, ?_⟩)))
    refine init_run (C := C) (X₃ _ _ hC) (k₃ _ _ hx) hu₃ (by show 1 ≤ sizeLine; rw [sizeLine_eq]; omega) fun h₄ t1 k₄ hx₄ => ?_
    have xL : s.heap.objs.size ≠ x := Nat.ne_of_gt (Heap.lt_size hx)
    have X₄ : K.In h₄ := fun a o e => k₄ a o (fun z => by rw [z, hnx] at e; cases e) (X₃ a o e)
    have hn₄ : h₄.Ns s.heap.objs.size (fun y => [(("self" : Str), Value.ref x), (f, v)].reverse.lookup y) := by
      obtain ⟨oL, es, ep, hL, r⟩ := hn₃
      exact ⟨oL, es, ep, k₄ _ _ xL hL, r⟩
    refine wpAt_of_wpAny ?_
    show wpAny _ _ (execs _ _) _ _ _
    refine wpAny_execs_cons (plainObj_wpAny_Assign_Attribute ?_)
    refine wpAny_Name (wpAny_loadName_local rfl kf hn₄ mv ?_) T.fD
    refine wpAny_Name (wpAny_loadName_local rfl (show (iS f).names.lookup ("self" : Str) = some .local from rfl) hn₄ ms ?_) (by decide)
    refine set_plain X₄ (ox := excO C t1) (od := none) ⟨hx₄, rfl, rfl, trivial⟩ T.sa ?_
    refine exc_osa X₄ hx₄ hcl (show refsVE (.ref C :: bm) = true from hbm) rfl T.noN (fun h₅ tk₅ dx k₅ dn dne hx₅ hn₅ => ?_)
    show wpAny _ _ (execs _ _) _ _ _
    have z : s.heap.objs.size < h₄.objs.size := by
      obtain ⟨oL, es, ep, hL, r⟩ := hn₄
      exact Heap.lt_size hL
    exact wpAny_execs_nil (hq h₅ tk₅ dx t1 ⟨fun b o hb e => k₅ b o hb (k₄ b o hb (k₃ b o e)), hx₅, Nat.le_of_lt (Nat.lt_of_lt_of_le z dn), dne, hn₅⟩)
theorem own_made (T : OExc prog K C f good) {v : Value} (X : K.In s.heap) (G : s.heap.Ns mainGlobals mg) (gs : mg "super" = none) (B : s.heap.Ns builtinsNs mb) (bs : mb "super" = some (.type "super")) (hlim : s.heap.NoLimit) (hroom : A.depth + 1 < recursionLimit) (gv : good v)
    (hq : ∀ h' tk e d, OwnMade s.heap h' e C d f v → (∃ t1 : Addr, h'.get? e = some { cls := .ref C, dict := some d, data := .fields #[.ref t1, .none, .none, .none, .bool false, .none] }) → R (.ok (.ret (.ref e))) { s with heap := h', toks := tk }) :
    codeAny (model prog w) A (.call (.ref C) ⟨[v], []⟩) R s := by
  obtain ⟨nm, q, N, bss, bm, sn, sub, ab, col, dd, k0, k1, k2, k3, k5, hC, hbm⟩ := T.cls
  obtain ⟨D, fI, cc, cda, hi, hti, _⟩ := T.own
  obtain ⟨hp, g, dr, tk, os⟩ := s
  have k : ∀ b o, hp.get? b = some o → ((hp.push (kdv_tup [v])).push (excO C hp.objs.size)).get? b = some o := fun b o e => Heap.get?_push_of_some _ (Heap.get?_push_of_some _ e)
  have hget : ((hp.push (kdv_tup [v])).push (excO C hp.objs.size)).get? (hp.objs.size + 1) = some (excO C hp.objs.size) := by heap_get
  have hnx : K.lookup (hp.objs.size + 1) = none := by
    cases e : K.lookup (hp.objs.size + 1) with
    | none => rfl
    | some o =>
      have z : hp.get? (hp.objs.size + 1) = some o := X _ _ e
      exact absurd (Nat.lt_of_succ_lt (Heap.lt_size z)) (Nat.lt_irrefl _)
  refine call_own F.excBase_ValueError (fun X => refsVE_contains X bm hbm) (X _ _ hC) (looks_findIn X hi) (fun self => bind_fn X self hti) (by show 1 ≤ sizeLine; rw [sizeLine_eq]; omega) ?_
  refine own_init (s := ⟨(hp.push (kdv_tup [v])).push (excO C hp.objs.size), g, dr, tk, os⟩) T hi (X.keeps k) (G.keeps k) gs (B.keeps k) bs (hlim.keeps k) hget hnx ?_ gv fun h' tk' dx t1 ⟨k', hx, dn, dne, hns⟩ => ?_
  · show A.depth + 1 < recursionLimit
    exact hroom
  · have old : ∀ b o, hp.get? b = some o → h'.get? b = some o := fun b o e => k' b o (Nat.ne_of_lt (Nat.lt_succ_of_lt (Heap.lt_size e))) (k b o e)
    have z : hp.objs.size + 1 + 1 ≤ dx := by
      first
        | (simpa only [Heap.size_push] using dn)
        | exact dn
        | (have q := dn; rw [Heap.size_push, Heap.size_push] at q; exact q)
    exact ⟨rfl, hq h' tk' (hp.objs.size + 1) dx ⟨old, Nat.le_succ _, ⟨_, _, hx, rfl, rfl, rfl, rfl⟩, Nat.le_trans (Nat.le_trans (Nat.le_succ _) (Nat.le_succ _)) z, dne, hns⟩ ⟨t1, hx⟩⟩
end
end OwnX
end PySem
namespace Sh
open PySem PySem.Spec PyProof.Rows L2
theorem relO_one {v : V} {v' : Value} {f0 : Str} (r : RelV v v') (f : Str) : RelO (List.lookup f [(f0, v)]) (if f = f0 then some v' else none) := by
  by_cases hw : f = f0
  · subst hw
    rw [if_pos rfl]
    have q : List.lookup f [(f, v)] = some v := by simp [List.lookup]
    rw [q]
    exact r
  · rw [if_neg hw]
    have qw : (f == f0) = false := by simpa using hw
    have q2 : List.lookup f [(f0, v)] = none := by simp [List.lookup, qw]
    rw [q2]
    trivial
section
variable {X : Cx} {C : Addr} {f : Str} {good : Value → Prop} {gv : V → Prop}
/-- C(e) -/
def tMkX (C : Addr) (f : Str) (gv : V → Prop) (ta : TA) : L2.St → Hp → XK → Prop := fun σ H Q => ta σ H fun vs H1 => ∃ v, vs = [v] ∧ gv v ∧ ∀ d, H1 d = none → Q (.ref C) (some d) (upd H1 d (.xd [(f, v)]))
theorem pmk_x {x : Str} {a : Expr} {ta : TA} {p pos : Pos} (T : OwnX.OExc X.prog X.K C f good) (gC : X.mg x = some (.ref C)) (gs : X.mg "super" = none) (hgv : ∀ v u, gv v → RelV v u → good u) (hr : X.A.depth + 1 < recursionLimit) (ha : PA X [a] ta) (hg : Gl X x)
    (hdb : (x == ("__debug__" : Str)) = false := by decide)
    (he : starEach (a :: []) X.env = (false, eval a X.env) :: starEach [] X.env := by rfl) (hpl : (backTo pos (starEach [] X.env)).any (·.1) = false := by rfl) :
    L2N.PMk X (.Call (.Name x p) [a] [] pos) (tMkX C f gv ta) := by
  intro pins s σ H Q I h
  refine wpAny_Call_Name_kw (ld_glob I hg gC ?_ hdb)
  refine PySem.W.callWith_K (h₀ := X.base) I.ok.mod.kin T.kC (thn (ha.run pos pins s σ H _ I h) fun us s1 hh => ?_) he hpl
  obtain ⟨vs, H1, I1, r1, v, ev, gvv, q1⟩ := hh
  subst ev
  refine ⟨I1.kIn, ?_⟩
  cases r1 with
  | cons rv rn =>
    rename_i v' us'
    cases rn
    show wpAny _ _ (call (.ref C) [v']) _ _ _
    have hlim := I1.nolimit
    obtain ⟨mb, hb1, hb2⟩ := I1.mod.blt
    have hG := I1.mod.glob.keeps I1.bk
    have hB := hb1.keeps I1.bk
    obtain ⟨hp, g, dr, tk, os⟩ := s1
    refine wpAny_call (OwnX.own_made T I1.kIn hG gs hB ((hb2 "super" (by decide)).trans (by decide +kernel)) hlim hr (hgv _ _ gvv rv) fun h' tk' e d M M5 => ?_)
    show L2N.MkP X pins σ Q (.ref e) ⟨h', g, dr, tk', os⟩
    obtain ⟨t1, hoe⟩ := M5
    have hns := M.ns
    obtain ⟨G', g1, g2⟩ := restrict h' fun b => decide (b ≠ e)
    have gk : ∀ b, b ≠ e → G'.get? b = h'.get? b := fun b hb => g1 b (decide_eq_true hb)
    have ge : G'.get? e = none := g2 e (by simp)
    have old : ∀ b o, hp.get? b = some o → G'.get? b = some o := fun b o q => (gk b (Nat.ne_of_lt (Nat.lt_of_lt_of_le (Heap.lt_size q) M.new))).trans (M.keep b o q)
    have ob : ObjOk X.prog X.w (upd H1 d (.xd [(f, v)])) G' d (.xd [(f, v)]) :=
      ⟨_, hns.at (fun o q => (gk d M.dne).trans q), fun f' => relO_one rv f'⟩
    have J : Inv X pins σ (upd H1 d (.xd [(f, v)])) ⟨G', g, dr, tk', os⟩ := I1.laid (t' := tk') old M.dbig ob
    refine ⟨e, _, _, ⟨G', g, dr, tk', os⟩, _, .ref C, some d, rfl, J, fun b o q => ?_, ge, hoe, ⟨rfl, rfl, fun vs e => by cases e; rfl⟩, rfl, rfl, ?_, rfl, I1.bare, raises_own T.exC T.tyC, q1 d (I1.hok.fresh M.dbig)⟩
    · by_cases hb : b = e
      · have q' : G'.get? b = some o := q
        rw [hb, ge] at q'; cases q'
      · exact (gk b hb).symm.trans q
    · rw [upd_ne (Ne.symm M.dne)]
      exact I1.hok.fresh M.new
theorem pmk_z {X : Cx} {e : Expr} {t : L2.St → Hp → XK → Prop} (h : L2N.PMk X e t) : L2.PMk X e t := fun pins s σ H Q I q =>
  wpAny_mono (h pins s σ H Q I q) (fun u s1 ⟨a, oe, vs, sI, H', cls, d, eu, J, k, hne, ha, hz, r⟩ => ⟨a, oe, vs, sI, H', cls, d, eu, J, k, hne, ha, hz.zc, r⟩) fun _ _ z => z
/-- raise C(e) -/
def tRaiseX (C : Addr) (f : Str) (gv : V → Prop) (W : WX) (ta : TA) : TS := fun _ σ H => tMkX C f gv ta σ H fun cls d H' => W cls d σ H'
theorem ps_raiseN {x : Str} {a : Expr} {ta : TA} {W : WX} {p pos pos2 : Pos} (hc : X.calm = true) (T : OwnX.OExc X.prog X.K C f good) (gC : X.mg x = some (.ref C)) (gs : X.mg "super" = none) (hgv : ∀ v u, gv v → RelV v u → good u) (hr : X.A.depth + 1 < recursionLimit) (tk : L2N.Takes X W) (ha : PA X [a] ta) (hg : Gl X x)
    (hdb : (x == ("__debug__" : Str)) = false := by decide)
    (he : starEach (a :: []) X.env = (false, eval a X.env) :: starEach [] X.env := by rfl) (hpl : (backTo pos (starEach [] X.env)).any (·.1) = false := by rfl) :
    PS X (.Raise (some (.Call (.Name x p) [a] [] pos)) none pos2) (tRaiseX C f gv W ta) := L2N.ps_raise hc tk (pmk_x T gC gs hgv hr ha hg hdb he hpl)
theorem ps_raiseZ {x : Str} {a : Expr} {ta : TA} {W : WX} {p pos pos2 : Pos} (hc : X.calm = true) (T : OwnX.OExc X.prog X.K C f good) (gC : X.mg x = some (.ref C)) (gs : X.mg "super" = none) (hgv : ∀ v u, gv v → RelV v u → good u) (hr : X.A.depth + 1 < recursionLimit) (tk : L2.Takes X W) (ha : PA X [a] ta) (hg : Gl X x)
    (hdb : (x == ("__debug__" : Str)) = false := by decide)
    (he : starEach (a :: []) X.env = (false, eval a X.env) :: starEach [] X.env := by rfl) (hpl : (backTo pos (starEach [] X.env)).any (·.1) = false := by rfl) :
    PS X (.Raise (some (.Call (.Name x p) [a] [] pos)) none pos2) (tRaiseX C f gv W ta) := L2.ps_raise hc tk (pmk_z (pmk_x T gC gs hgv hr ha hg hdb he hpl))
/-- in an except suite -/
theorem ps_raiseS {x : Str} {a : Expr} {ta : TA} {W : WX} {p pos pos2 : Pos} (hc : L2H.HotC X) (T : OwnX.OExc X.prog X.K C f good) (gC : X.mg x = some (.ref C)) (gs : X.mg "super" = none) (hgv : ∀ v u, gv v → RelV v u → good u) (hr : X.A.depth + 1 < recursionLimit) (tk : L2.Takes X W) (ha : PA X [a] ta) (hg : Gl X x)
    (hdb : (x == ("__debug__" : Str)) = false := by decide)
    (he : starEach (a :: []) X.env = (false, eval a X.env) :: starEach [] X.env := by rfl) (hpl : (backTo pos (starEach [] X.env)).any (·.1) = false := by rfl) :
    PS X (.Raise (some (.Call (.Name x p) [a] [] pos)) none pos2) (tRaiseX C f gv W ta) := L2H.ps_raiseH hc tk (pmk_x T gC gs hgv hr ha hg hdb he hpl)
end
theorem okN_of {P : Program} {w : World} {K : PySem.W.Frag} {mg : Str → Option Value} {base : Heap} {x qual : Str} {st : Stmt} {f : Addr} {fd : FuncData} {N ps : List Str} {k : Nat} {sp : Sp} (F : Fun K x qual st f fd) (S : FnScope N ps (defScope st)) (len : ∀ vs H Q E, sp vs H Q E → vs.length = ps.length)
    (hbody : ∀ (cdv : Value) (A : Around) (outer : List Env) (s : Shared) (H : Hp) (vs : List V) (Q : VK) (E : XK), Room k (A.deeper (envOfC qual (defScope st) s.heap.objs.size f cdv)) → sp vs H Q E →
      ∃ t, PSs (cxOf (L2N.CX P w) P w K mg base N qual (defScope st) f cdv A outer s H E) (defBody st) t ∧ t { nx := fun _ H' => Q .non H', rt := Q } (start N vs) H) : FnOk P w K mg base (L2N.CX P w) (k + 1) f fd ps sp := by
  obtain ⟨oc, od, kV, doc, pm, an, cdv, ct, osl, rfl, lk, hcd⟩ := F.ex
  exact fn_of lk hcd S len fun A outer s H vs Q E hr hsp => hbody cdv A outer s H vs Q E hr hsp
end Sh
set_option Elab.async false
set_option linter.all false
set_option maxRecDepth 100000
set_option maxHeartbeats 4000000
/-! a comprehension whose element may raise -/
namespace Sh
open PySem PySem.Spec PyProof.Rows L2
section
variable {X : Cx} {pins : List (Addr × Obj)} {σ : L2.St} {H : Hp} {s s' : Shared} {E : XK}
/-- what a call has let out flies over our frames; s without it is a state of ours -/
theorem call_fly (I : Inv X pins σ H s) {u : Value} (c : L2.CX X.prog X.w X.stack H s E u s') : ∃ (a : Addr) (B : Heap) (sI : Shared) (H' : Hp) (cls : Value) (d : Option Addr), u = .ref a ∧ Inv X pins σ H' sI ∧ (∀ b o, sI.heap.get? b = some o → b ∉ frs X.stack → B.get? b = some o) ∧
    (∀ b o, sI.heap.get? b = some o → s'.heap.get? b = some o) ∧ HandSPX.FlyingZ B X.stack a (Zc cls d) s'.heap ∧ H' a = none ∧ s'.os = sI.os ∧ AllBare s'.gens ∧ E cls d H' := by
  obtain ⟨a, B, H', cls, d, eu, fl, hok, ub, na, eos, bare, w⟩ := c
  let keepB : Addr → Bool := fun b => decide (b ∈ frs X.stack) || (B.get? b).isSome
  obtain ⟨G, yes, no⟩ := restrict s'.heap keepB
  have inB : ∀ b o, B.get? b = some o → G.get? b = some o := fun b o e => (yes b (by show (_ || _) = true; rw [e, Option.isSome_some, Bool.or_true])).trans (fl.1 b o e)
  have inF : ∀ b, b ∈ frs X.stack → G.get? b = s'.heap.get? b := fun b hb => yes b (by show (_ || _) = true; rw [decide_eq_true hb, Bool.true_or])
  have out : ∀ b o, G.get? b = some o → s'.heap.get? b = some o ∧ keepB b = true := fun b o e => by
    by_cases q : keepB b = true
    · exact ⟨(yes b q).symm.trans e, q⟩
    · rw [no b (Bool.eq_false_iff.mpr q)] at e
      cases e
  have un : Un (frs X.stack) [] H H' s.heap G := by
    refine ⟨fun b o e n hb _ => inB b o (ub.keep b o e n hb), fun b o e n hb _ => ?_, fun b o e n _ => ub.free b o e n, fun b o e _ => ?_, ub.tups, ub.frzs, ub.tbls⟩
    · obtain ⟨sl, q⟩ := ub.slot b o e hb
      exact ⟨sl, (inF b hb).trans q⟩
    · by_cases hb : b ∈ frs X.stack
      · obtain ⟨sl, q⟩ := ub.slot b o e hb
        exact ⟨_, (inF b hb).trans q⟩
      · obtain ⟨o', q⟩ := ub.there b o e hb
        exact ⟨o', inB b o' q⟩
  refine ⟨a, B, { s with heap := G, gens := s'.gens, drawn := s'.drawn, toks := s'.toks }, H', cls, d, eu, I.call (ch := []) un (hok.kept inB) bare (fun _ z => nomatch z), fun b o e hb => ?_, fun b o e => (out b o e).1, fl, na, eos, bare, w⟩
  obtain ⟨e1, e2⟩ := out b o e
  have e3 : (B.get? b).isSome = true := by
    have e4 : (decide (b ∈ frs X.stack) || (B.get? b).isSome) = true := e2
    rwa [decide_eq_false hb, Bool.false_or] at e4
  obtain ⟨o', q⟩ := Option.isSome_iff_exists.mp e3
  rw [q, ← e1, fl.1 b o' q]
/-- without one object that isn't ours -/
theorem funFrames_cut {h B G : Heap} (k : ∀ b o, G.get? b = some o → B.get? b = some o) : ∀ {l : List Env}, h.FunFrames B l → h.FunFrames G l
  | [], _ => trivial
  | env :: rest, ⟨a, ⟨L, o, e1, e2, e3⟩, r⟩ => by
    have e4 : G.get? L = none := by
      cases q : G.get? L with
      | none => rfl
      | some o' =>
        rw [k _ _ q] at e2
        cases e2
    exact ⟨a, ⟨L, o, e1, e4, e3⟩, funFrames_cut k r⟩
/-- an exception out of the element of a comprehension -/
theorem comp_fail {scope : Scope} {cl : List (Str × Addr)} {fp : List Addr} {pins8 : List (Addr × Obj)} {σ8 : L2.St} {H3 H8 : Hp} {s3 s8 : Shared} {xe : Value → Shared → Prop} {u : Value} (I3 : Inv X pins σ H3 s3)
    (f3 : ∀ b ∈ fp, FpOk X pins H3 b ∧ b < s3.heap.objs.size) (hs : X.stack = X.env :: X.outer) (hf : X.env.frame = some X.env.locals) (tk : L2.Takes X fun cls d _ H => E cls d H)
    (I8 : Inv ((X.blk s3 H3 scope (compEnvC scope cl s3.heap.objs.size X.env) fp).wish xe) pins8 σ8 H8 s8) (c : L2.CX X.prog X.w X.stack H8 s8 E u s') :
    notedBy (model X.prog X.w) X.A (compEnvC scope cl s3.heap.objs.size X.env) (CompFails (model X.prog X.w) X.A X.xe (compEnvC scope cl s3.heap.objs.size X.env)) u s' := by
  obtain ⟨a, B, sI, H', cls, d, rfl, I9, nb, up, fl, na, eos, bare, w⟩ := call_fly I8 c
  have J9 : Inv X pins σ H' sI := I3.call' (ch := fp) I9.os I9.base I9.hok I9.bare fun b hb => ⟨(f3 b hb).1.2.2.2.1, (f3 b hb).1.2.1, (f3 b hb).1.2.2.2.2.1, (f3 b hb).1.2.2.2.2.2⟩
  have nC : H' s3.heap.objs.size = none := I9.free
  obtain ⟨f0, f1, f2, f4, f5, f6⟩ := I3.fpOk (Nat.le_refl _) nC
  have hfr : X.A.frames = some (X.env :: X.outer) := by rw [I3.ok.frames, hs]
  have hst : X.stack = ((X.blk s3 H3 scope (compEnvC scope cl s3.heap.objs.size X.env) fp).wish xe).stack := rfl
  have fl : HandSPX.FlyingZ B (X.env :: X.outer) a (Zc cls d) s'.heap := by rw [← hs]; exact fl
  obtain ⟨m9, hn9, _⟩ := I9.loc
  have hn9 : sI.heap.Ns s3.heap.objs.size m9 := hn9
  have CF : s3.heap.objs.size ∉ frs X.stack := fun z => by
    rcases List.mem_cons.mp (I3.stkSub _ z) with q | q
    · exact f1 q
    · exact f2 q
  -- the ground without the block
  obtain ⟨G, yes, no⟩ := restrict B fun b => decide (b ≠ s3.heap.objs.size)
  have GB : ∀ b o, G.get? b = some o → B.get? b = some o ∧ b ≠ s3.heap.objs.size := fun b o e => by
    by_cases q : b = s3.heap.objs.size
    · rw [no b (decide_eq_false fun z => z q)] at e
      cases e
    · exact ⟨(yes b (decide_eq_true q)).symm.trans e, q⟩
  have GN : ∀ b, B.get? b = none → G.get? b = none := fun b e => by
    cases q : G.get? b with
    | none => rfl
    | some o =>
      rw [(GB b o q).1] at e
      cases e
  have flG : HandSPX.FlyingZ G (X.env :: X.outer) a (Zc cls d) s'.heap := by
    obtain ⟨k1, k2, k3, oe, vs, T, oT, ts, e1, e2, e3, e4, e5, e6⟩ := fl
    exact ⟨fun b o e => k1 b o (GB b o e).1, GN _ k2, funFrames_cut (fun b o e => (GB b o e).1) k3, oe, vs, T, oT, ts, e1, e2, e3, e4, GN _ e5, e6⟩
  show wpAny (model X.prog X.w) X.A (noteFrame (.ref a) (compEnvC scope cl s3.heap.objs.size X.env)) _ _ s'
  rw [noteFrame_env _ (show (compEnvC scope cl s3.heap.objs.size X.env).frame = X.env.frame from rfl)]
  refine HandSPX.looks_onZ Zc.steady hfr hf flG fun h1 hd1 up1 => ?_
  have hn1 : h1.Ns s3.heap.objs.size m9 := by
    obtain ⟨oL, es, ep, g1, g2, g3⟩ := hn9
    obtain ⟨sl, q⟩ := up1 _ _ (up _ _ g1) fun vs z => by rw [g2] at z; cases z
    exact ⟨_, es, ep, q, g2, g3⟩
  refine ⟨m9, hn1, fun h2 m2 hn2 sb => ?_⟩
  obtain ⟨b1, b2, b3, oe, vs, T, oT, ts, e1, e2, e3, e4, e5, e6, e7, e8, e9⟩ := hd1
  have notC : ∀ b o vs, h1.get? b = some o → o.data = .fields vs → b ≠ s3.heap.objs.size := fun b o vs g1 g2 z => by
    obtain ⟨oL, es, ep, q1, q2, _⟩ := hn1
    rw [z, q1] at g1
    cases g1
    rw [g2] at q2
    cases q2
  have t2 : HandSPX.TracedZ h2 G a (Zc cls d) (rawInt X.env.locals) := ⟨oe, vs, T, oT, ts, (sb.2 a (notC _ _ _ e1 e3)).trans e1, e2, e3, e4, e5, e6, (sb.2 T (notC _ _ _ e7 e8)).trans e7, e8, e9⟩
  have st2 : G.StaysIn h2 := fun b o e => (sb.2 b (GB b o e).2).trans (b1 b o e)
  have fr2 : h2.FunFrames G (X.env :: X.outer) := Heap.FunFrames.sameBut sb hn2 b3
  unfold PySem.passOn
  refine wpAny_bind (wpAny_field t2.choose_spec.choose_spec.choose_spec.choose_spec.choose_spec.1 t2.choose_spec.choose_spec.choose_spec.choose_spec.choose_spec.2.2.1 t2.choose_spec.choose_spec.choose_spec.choose_spec.choose_spec.2.2.2.1 ?_)
  rw [if_neg (show ¬ ((Value.ref _ == Value.none) = true) from by simp)]
  refine wpAny_bind (HandSPX.setFlight_anyZ st2 fr2 t2 fun h3 j1 j2 j3 j4 => wpAny_throw ?_)
  -- the state without the exception, without the block
  obtain ⟨G9, yes9, no9⟩ := restrict sI.heap fun b => decide (b ≠ s3.heap.objs.size)
  have G9s : ∀ b o, G9.get? b = some o → sI.heap.get? b = some o ∧ b ≠ s3.heap.objs.size := fun b o e => by
    by_cases q : b = s3.heap.objs.size
    · rw [no9 b (decide_eq_false fun z => z q)] at e
      cases e
    · exact ⟨(yes9 b (decide_eq_true q)).symm.trans e, q⟩
  have K9 := J9.turned (t' := sI.toks) (h' := G9) (it := s3.heap.objs.size) (fun b o hb e => (yes9 b (decide_eq_true hb)).trans e) f0 f1 f4 f5 f6
  refine tk _ _ ⟨a, G, { sI with heap := G9 }, pins, σ, H', cls, d, rfl, K9, fun b o e hb => ?_, fun b o e hnf => ?_, .inr (.inr ?_), na, eos, bare, w⟩
  · obtain ⟨q1, q2⟩ := G9s b o e
    exact (yes b (decide_eq_true q2)).trans (nb b o q1 hb)
  · obtain ⟨q1, q2⟩ := G9s b o e
    obtain ⟨sl, q3⟩ := up1 b o (up b o q1) hnf
    obtain ⟨sl2, q4⟩ := j4 b _ ((sb.2 b q2).trans q3) hnf
    exact ⟨sl2, q4⟩
  · rw [hs]
    refine ⟨j1, GN _ fl.2.1, j2, ?_⟩
    have ef : (compEnvC scope cl s3.heap.objs.size X.env).frame = some X.env.locals := hf
    rw [ef] at j3
    exact j3
/-- what the element may let out is told to what stands around -/
def Lets (X : Cx) (Y : Cx) (E : XK) : Prop := ∀ (pins : List (Addr × Obj)) (σ : L2.St) (H : Hp) (s : Shared) (e : Value) (s' : Shared), Inv Y pins σ H s → L2.CX X.prog X.w X.stack H s E e s' → Y.xe e s'
theorem lc_coreX {Q : VK} {elt tg iter : Expr} {ifs : List Expr} {scope : Scope} {own : List (Str × Nat)} {pos pos' : Pos} {wi : TI} {g : TG} {tt : TT} {te : TE} {use : Option (Value → Sem Unit)} {Qf : Value → Shared → Prop}
    (hc : X.calm = true) (hN : X.N.Nodup) (I : Inv X pins σ H s) (hi : PI X tg iter wi) (ok : BlkOk X.N X.env.scope scope own) (hst : X.stack = X.env :: X.outer) (hfr : X.env.frame = some X.env.locals) (tk : L2.Takes X fun cls d _ H => E cls d H)
    (hg : ∀ (s : Shared) (H : Hp) (C : Addr) (cl : List (Str × Addr)) (fp : List Addr), PG (X.blk s H scope (compEnvC scope cl C X.env) fp) tg g) (ht : ∀ (s : Shared) (H : Hp) (C : Addr) (cl : List (Str × Addr)) (fp : List Addr), PTs (X.blk s H scope (compEnvC scope cl C X.env) fp) ifs tt)
    (he : ∀ (s : Shared) (H : Hp) (C : Addr) (cl : List (Str × Addr)) (fp : List Addr) (xe : Value → Shared → Prop), Lets X ((X.blk s H scope (compEnvC scope cl C X.env) fp).wish xe) E → PE ((X.blk s H scope (compEnvC scope cl C X.env) fp).wish xe) elt te)
    (hs : ∀ x, foldedSetIterable iter X.env x = pure x) (h : tLc wi g tt te (own.map (·.2)) σ H Q)
    (hRR : ∀ D (cl : List (Str × Addr)) C s' m H', Inv X pins σ H' s' → Q (.ref D) H' → s'.heap.Ns C m → FpOk X pins H' C → compEnds (model X.prog X.w) X.A X.xe use Qf (.ref D) (compEnvC scope cl C X.env) (.ok .next) s') :
    wpAny (model X.prog X.w) X.A (comprehension (.ListComp elt [⟨tg, iter, ifs, 0⟩] scope pos) scope X.env pos' (newList []) false (eval iter X.env) use) Qf X.xe s := by
  have frees : ∀ y ∈ scope.names, y.2 = .free → ∃ c, X.env.cells.lookup y.1 = some c := fun y hy e => (ok.free y hy e).elim (fun k => I.ok.has _ (.inl k)) fun k => I.ok.has _ (.inr k)
  refine comprehension_at (use := use) rfl hs (closure_ok frees) ok.kind (fun y hy e => (ok.uniq y hy).trans (by rw [e])) (thn (hi.run pins s σ H _ I h) fun xv s1 hx => thn hx fun itv s2 h2 => ?_)
  obtain ⟨it, fp, tn, J, H2, rfl, I2, T, st2, f2, q⟩ := h2
  refine wpAny_newObj_type (newEnv_comp ?_) (by show 0 ≤ sizeLine; decide)
  generalize hD : s2.heap.objs.size = D
  have hDn : H2 D = none := I2.hok.fresh (Nat.le_of_eq hD)
  obtain ⟨W, ⟨m0, w0⟩, turn⟩ := q D hDn
  generalize hs3 : ({ s2 with heap := s2.heap.push { cls := .type "list", data := .seq ([] : List Value).toArray } } : Shared) = s3
  have e3 : s3.heap = s2.heap.push { cls := .type "list", data := .seq ([] : List Value).toArray } := by rw [← hs3]
  have I3 : Inv X pins σ (upd H2 D (.lst [])) s3 := by
    rw [← hs3]
    refine I2.laid (t' := s2.toks) (fun b o z => Heap.get?_push_of_some _ z) (Nat.le_of_eq hD) ⟨Nat.zero_le _, [], 0, .nil, ?_⟩
    rw [← hD]
    exact Heap.get?_push_size _ rfl
  have f3 : ∀ b ∈ fp, FpOk X pins (upd H2 D (.lst [])) b ∧ b < s3.heap.objs.size := fun b hb => by
    obtain ⟨o, z, _⟩ := T.obj _ _ st2 b hb
    have lt := Heap.lt_size z
    refine ⟨⟨?_, (f2 b hb).2⟩, by rw [e3, Heap.size_push]; exact Nat.lt_succ_of_lt lt⟩
    rw [upd_ne (show b ≠ D from fun y => by rw [y, ← hD] at lt; exact Nat.lt_irrefl _ lt)]
    exact (f2 b hb).1
  have I4 := block_start I3 ok hN f3
  generalize hcl : cellsFrom (s3.heap.objs.size + 1) scope.names (cloFrom X.env.cells scope.names []) = cl at I4
  show codeAny _ _ (.compStart (.ListComp elt [⟨tg, iter, ifs, 0⟩] scope pos) 0 (.ref it) (.ref D) (compEnvC scope cl s3.heap.objs.size X.env))
    (compEnds (model X.prog X.w) X.A X.xe use Qf (.ref D) (compEnvC scope cl s3.heap.objs.size X.env)) { s3 with heap := pushCells (s3.heap.push { cls := .type "dict", data := .dict #[] }) scope.names }
  have pg := hg s3 (upd H2 D (.lst [])) s3.heap.objs.size cl fp
  have pt := ht s3 (upd H2 D (.lst [])) s3.heap.objs.size cl fp
  have pe := he s3 (upd H2 D (.lst [])) s3.heap.objs.size cl fp (notedBy (model X.prog X.w) X.A (compEnvC scope cl s3.heap.objs.size X.env) (CompFails (model X.prog X.w) X.A X.xe (compEnvC scope cl s3.heap.objs.size X.env)))
    (fun pins8 σ8 H8 s8 u s' I8 c => comp_fail I3 f3 hst hfr tk I8 c)
  have nfp : ∀ b ∈ fp, (upd H2 D (.lst [])) b = none := fun b hb => (f3 b hb).1.1
  generalize hH3 : upd H2 D (.lst []) = H3 at I3 I4 pg pt pe w0 nfp f3
  generalize hs4 : ({ s3 with heap := pushCells (s3.heap.push { cls := .type "dict", data := .dict #[] }) scope.names } : Shared) = s4 at I4 ⊢
  have st4 : tn 0 s4.heap := T.keep _ _ _ st2 fun b _ o z => by
    rw [← hs4]
    refine pushCells_keeps _ _ _ _ (Heap.get?_push_of_some _ ?_)
    rw [e3]
    exact Heap.get?_push_of_some _ z
  generalize hce : compEnvC scope cl s3.heap.objs.size X.env = ce at I4 pg pt pe ⊢
  have cL : ce.locals = s3.heap.objs.size := by subst hce; rfl
  have stat : ∀ {σ' : L2.St} {H' : Hp} {s' : Shared}, Inv (X.blk s3 H3 scope ce fp) [] σ' H' s' → (∀ b ∈ fp, H' b = none) → ∀ b ∈ fp, FpOk (X.blk s3 H3 scope ce fp) [] H' b := fun {σ' H' s'} I' hn b hb =>
    ⟨hn b hb, (I'.ok.exf b hb).1, I'.ok.exfs b hb, .inl hb, fun x c z => (I'.ok.exf b hb).2 x c z, fun p hp => nomatch (show p ∈ ([] : List (Addr × Obj)) from hp)⟩
  have loop : codeAny (model X.prog X.w) X.A (.compLoop (.ListComp elt [⟨tg, iter, ifs, 0⟩] scope pos) 0 (.ref it) (.ref D) ce) (compEnds (model X.prog X.w) X.A X.xe use Qf (.ref D) ce) s4 := by
    refine compLoop_any (fun n s' => ∃ i H', Inv (X.blk s3 H3 scope ce fp) [] (wipe σ (own.map (·.2))) H' s' ∧ tn i s'.heap ∧ (∀ b ∈ fp, H' b = none) ∧ W i n H') ?_ m0 ⟨0, H3, I4, st4, nfp, w0⟩
    rintro n s5 ⟨i, H5, I5, st5, n5, w5⟩
    have errs : (notedBy (model X.prog X.w) X.A ce fun e s' => compEnds (model X.prog X.w) X.A X.xe use Qf (.ref D) ce (.error e) s') = notedBy (model X.prog X.w) X.A ce (CompFails (model X.prog X.w) X.A X.xe ce) := by
      cases use <;> rfl
    rw [errs]
    rcases turn i n H5 w5 with ⟨stop, qq⟩ | ⟨go, Nx, hNx, step⟩
    · refine thnF (T.done (X.blk s3 H3 scope ce fp) rfl rfl rfl hc i [] s5 _ H5 (fun _ _ => False) I5 (stat I5 n5) st5 stop) fun r s6 ⟨hr, I6⟩ => ?_
      subst hr
      have I7 : Inv X pins σ H5 s6 := I3.call' (ch := fp) I6.os I6.base I6.hok I6.bare fun b hb =>
        let z := (f3 b hb).1
        ⟨z.2.2.2.1, z.2.1, z.2.2.2.2.1, z.2.2.2.2.2⟩
      have nC : H5 s3.heap.objs.size = none := by
        rw [← cL]
        exact I6.free
      obtain ⟨m, hn, _⟩ := I6.loc
      have hn : s6.heap.Ns s3.heap.objs.size m := by
        rw [← cL]
        exact hn
      show compEnds (model X.prog X.w) X.A X.xe use Qf (.ref D) ce (.ok .next) s6
      rw [← hce]
      exact hRR D cl s3.heap.objs.size s6 m H5 I7 qq hn (I3.fpOk (Nat.le_refl _) nC)
    · refine thnF (T.item (X.blk s3 H3 scope ce fp) rfl rfl rfl hc i [] s5 _ H5 (fun _ _ => False) I5 (stat I5 n5) st5 go) fun r s6 ⟨u, hr, h6⟩ => ?_
      subst hr
      refine thnF h6 fun _ s7 ⟨x, H7, I7, r7, y7, st7, n7⟩ => ?_
      have P7 := I7.pinned (stat I7 n7) (T.obj _ _ st7)
      refine thnF (pg.run _ s7 _ H7 x u _ P7 r7 (step x H7 y7)) fun _ s8 ⟨σ8, H8, I8, hw8, q8⟩ => ?_
      refine thnF (pt.run _ s8 σ8 H8 _ I8 q8) fun b s9 ⟨H9, I9, q9⟩ => ?_
      have fin : ∀ {s' : Shared} {H' : Hp}, Inv (X.blk s3 H3 scope ce fp) ([] ++ pinsAt fp s7.heap) σ8 H' s' → Nx H' → ∃ m, m < n ∧ ∃ i H', Inv (X.blk s3 H3 scope ce fp) [] (wipe σ (own.map (·.2))) H' s' ∧ tn i s'.heap ∧ (∀ b ∈ fp, H' b = none) ∧ W i m H' := fun {s' H'} I' nx => by
        obtain ⟨m', hm, w'⟩ := hNx H' nx
        have pin' : ∀ b ∈ fp, ∀ o, s7.heap.get? b = some o → s'.heap.get? b = some o ∧ H' b = none := fun b hb o z =>
          let y := I'.pin (b, o) (List.mem_append_right _ (List.mem_append_right _ (mem_pinsAt hb z)))
          ⟨y.1, y.2.1⟩
        refine ⟨m', hm, i + 1, H', (I'.unpinned (pins := [])).weak (by rw [← hw8, wipe_length]) (fun j v z => ?_), T.keep _ _ _ st7 fun b hb o z => (pin' b hb o z).1, fun b hb => ?_, w'⟩
        · rw [← hw8] at z
          exact (wipe_some z).1
        · obtain ⟨o, z, _⟩ := T.obj _ _ st7 b hb
          exact (pin' b hb o z).2
      cases b with
      | false =>
        simp only [Bool.false_eq_true, if_false] at q9 ⊢
        exact fin I9 q9
      | true =>
        simp only [if_true] at q9 ⊢
        refine thn (pe.run _ s9 σ8 H9 _ (I9.wish _) q9) fun z s10 ⟨yv, H10, I10, r10, acc, hD10, hz10, nx⟩ => ?_
        exact app_ok (X := X.blk s3 H3 scope ce fp) I10.unwish hD10 hz10 r10 fun s11 I11 => fin I11 nx
  exact codeAny_compStart_list loop (T.self X.A 0 _ _ _ st4 loop)
/-- name = [..] on one line, the name a local, the element raising -/
theorem ps_setLcX {i : Nat} {y : Str} {py : Pos} {elt tg iter : Expr} {ifs : List Expr} {scope : Scope} {own : List (Str × Nat)} {pos spos : Pos} {wi : TI} {g : TG} {tt : TT} {te : TE} (hst : X.stack = X.env :: X.outer) (hfr : X.env.frame = some X.env.locals) (tk : L2.Takes X fun cls d _ H => E cls d H)
    (hc : X.calm = true) (hN : X.N.Nodup) (hy : X.N[i]? = some y) (hyl : X.env.scope.names.lookup y = some .local)
    (hsw : swapsWith (.ListComp elt [⟨tg, iter, ifs, 0⟩] scope pos) (some (.Name y py)) spos.line X.env = pure true) (hi : PI X tg iter wi) (ok : BlkOk X.N X.env.scope scope own)
    (hg : ∀ (s : Shared) (H : Hp) (C : Addr) (cl : List (Str × Addr)) (fp : List Addr), PG (X.blk s H scope (compEnvC scope cl C X.env) fp) tg g) (ht : ∀ (s : Shared) (H : Hp) (C : Addr) (cl : List (Str × Addr)) (fp : List Addr), PTs (X.blk s H scope (compEnvC scope cl C X.env) fp) ifs tt)
    (he : ∀ (s : Shared) (H : Hp) (C : Addr) (cl : List (Str × Addr)) (fp : List Addr) (xe : Value → Shared → Prop), Lets X ((X.blk s H scope (compEnvC scope cl C X.env) fp).wish xe) E → PE ((X.blk s H scope (compEnvC scope cl C X.env) fp).wish xe) elt te)
    (hs : ∀ x, foldedSetIterable iter X.env x = pure x := by intro _; rfl) :
    PS X (.Assign [.Name y py] (.ListComp elt [⟨tg, iter, ifs, 0⟩] scope pos) spos) (tAsg (tLc wi g tt te (own.map (·.2))) (gName i)) := by
  refine ⟨fun pins s σ H D I h => ?_⟩
  rw [exec_Assign_Name_used _ _ _ _ hsw]
  refine wpAny_bind (wpAny_standAt (wpAny_bind ?_))
  show wpAny _ X.A (do let _ ← comprehension (.ListComp elt [⟨tg, iter, ifs, 0⟩] scope pos) scope X.env (firstIterPos [⟨tg, iter, ifs, 0⟩] pos) (newList []) false (eval iter X.env) (some (assign (.Name y py) X.env))) _ _ s
  have h : tLc wi g tt te (own.map (·.2)) σ H (fun x H1 => gName i x σ H1 D.nx) := h
  refine wpAny_bind (thn (lc_coreX (Qf := fun _ s' => SP X pins D .next s') hc hN I hi ok hst hfr tk hg ht he hs h fun L cl C s' m H' I' q hn f => ?_) fun _ s' hq => wpAny_pure (wpAny_pure hq))
  show wpAny _ _ (assign (.Name y py) X.env (.ref L)) _ _ _
  refine wpAny_assign_Name (store_ok2 (v := V.ref L) I' hN hy (.inl hyl) rfl (fun s2 I2 ⟨a, sb, ha⟩ => ?_) (.inr hyl))
  obtain ⟨f0, f1, f2, f3, f4, f5⟩ := f
  have haC : C ≠ a := by
    rcases ha with z | z
    · rw [z]
      exact f1
    · exact fun e => f4 y a z e.symm
  refine ⟨m, hn.sameBut sb haC, fun h3 sb3 => ?_⟩
  exact ⟨_, H', I2.turned (t' := s2.toks) (fun b o hb e => (sb3.2 b hb).trans e) f0 f1 f3 f4 f5, q⟩
end
end Sh
set_option Elab.async false
set_option linter.all false
set_option maxRecDepth 100000
set_option maxHeartbeats 4000000
/-! isinstance of a caught own error that bears a dict -/
namespace Sh
open PySem PySem.Spec PyProof.Rows L2 PySem.W PySem.Calls
section
variable {prog : Program} {w : World} {Ar : Around} {Er : Value → Shared → Prop} {st : Shared} {KK : Frag} {xa cl : Addr} {xo : Obj}
theorem cls_of {odd : Option Obj} {R : Option Value → Shared → Prop} (C : L2.ExcC KK cl) (X : KK.In st.heap) (I : PySem.W.InstAt st.heap xa xo cl odd) (q : R (some (.ref cl)) { st with toks := st.toks + 1 }) : wpAny (model prog w) Ar (getAttr? (.ref xa) "__class__") R Er st := by
  have fd : findObj KK cl odd "__class__" = some (.bind (.builtin "getset_descriptor.__get__") (.builtin "object.__class__")) := by
    obtain ⟨cd, hcd, _⟩ := any_some C.hd
    unfold findObj
    rw [hcd, Option.bind_some, C.ha, Option.bind_some]
    simp [C.hn, C.ht]
  obtain ⟨hh, gg, dd, tt, oo⟩ := st
  have a0 := I.type (M := model prog w)
  have a1 := looks_findIn (M := model prog w) X C.hg
  have a2 := looks_findIn (M := model prog w) X C.hk
  have a3 := looks_find (M := model prog w) X I fd
  have a4 : Looks (model prog w) hh (isInstance (.ref xa) (.type "BaseException")) true := a0.andThen (looks_subIn X C.hs)
  have b1 : (onTheHeap (Value.ref cl) && Value.builtin "BaseException.__getattribute__" == Value.builtin "object.__getattribute__") = false := (congrArg (_ && ·) (show (Value.builtin "BaseException.__getattribute__" == Value.builtin "object.__getattribute__") = false by decide +kernel)).trans (Bool.and_false _)
  unfold getAttr? getAttrBy? getAttrBy
  refine wpAny_bind (wpAny_mkText (wpAny_bind (wpAny_attempt (wpAny_holding (wpAny_bind (a0.at (wpAny_bind (a1.at ?_))))))))
  show wpAny _ _ (if (onTheHeap (Value.ref cl) && Value.builtin "BaseException.__getattribute__" == Value.builtin "object.__getattribute__") = true then _ else _) _ _ _
  rw [b1, if_neg Bool.false_ne_true]; unfold getAttrByItsOwn hookBefore
  refine wpAny_bind ?_
  rw [if_pos (show onTheHeap (Value.ref cl) = true from rfl)]
  refine a2.at (wpAny_bind (wpAny_attempt (wpAny_holding ?_)))
  unfold callGetattribute
  rw [show (false && onTheHeap (Value.builtin "BaseException.__getattribute__")) = false from rfl, if_neg Bool.false_ne_true]; unfold boundAndCalled
  rw [PySem.F.excAttr_ValueError.ga.bind (.ref xa)]
  refine wpAny_bind (wpAny_pure ?_)
  show wpAny _ _ (call (.builtin "BaseException.__getattribute__") [.ref xa, .str "__class__" tt]) _ _ _
  refine wpAny_call (codeAny_call_builtin PySem.F.excAttr_ValueError.ga.plain PySem.F.entry_bexc_ga (@check_slot (model prog w) _ _ ⟨hh, gg, dd, tt + 1, oo⟩ "BaseException.__getattribute__" "BaseException" "__getattribute__" (.ref xa) [.str "__class__" tt] [] _ (by decide +kernel) (by decide +kernel) a4 (PySem.F.args_bexc_ga (.ref xa) (.str "__class__" tt)) ?_))
  unfold Builtin.«object.__getattribute__»
  refine wpAny_bind (wpAny_of_eq (a := ((Value.ref xa : Value), [Value.str "__class__" tt])) (by first | rfl | (simp only [slotArgs]; rfl)) (wpAny_bind (wpAny_pure (wpAny_bind (a0.at (wpAny_bind (a3.at ?_)))))))
  show wpAny _ _ (holding [Value.builtin "object.__class__"] (call (.builtin "getset_descriptor.__get__") [.builtin "object.__class__", .ref xa, .ref cl]) >>= ret) _ _ _
  refine wpAny_bind (wpAny_holding (wpAny_call (class_get (s := ⟨hh, gg, dd, tt + 1, oo⟩) (ox := xo) (od := odd) X I C.hm (wpAny_pure ?_))))
  show wpAny _ _ (handedOut (.ref cl)) _ _ _
  rw [handedOut_of (v := .ref cl) rfl]
  first
    | exact wpAny_pure (wpAny_pure q)
    | exact wpAny_pure q
    | exact wpAny_pure (wpAny_bind (wpAny_pure (wpAny_pure q)))
theorem kitx_excD (C : L2.ExcC KK cl) : KitX KK (.ref xa) (.ref cl) (fun h => ∃ odd, PySem.W.InstAt h xa xo cl odd) := by
  obtain ⟨cd, hcd, _⟩ := any_some C.hd
  have hob : ∃ o, KK.lookup cl = some o ∧ o.data = .cls cd := by
    unfold clsIn at hcd
    split at hcd
    · rename_i a b c d ho
      cases hcd
      exact ⟨_, ho, rfl⟩
    · cases hcd
  obtain ⟨oc, ho, hd⟩ := hob
  refine ⟨fun _ _ _ ⟨_, I⟩ => I.type, fun _ h X _ Aa Qq Ee s k q => ?_, fun h tp dd its n sl X htp => Bool.eq_false_iff.mpr fun e => ?_, fun X ⟨_, I⟩ k => cls_of C X I k⟩
  · unfold isType loadHead
    refine wpAny_bind (wpAny_loadPart (k _ _ (X _ _ ho)) ?_)
    rw [hd]
    exact wpAny_pure q
  · obtain rfl : cl = tp := Value.ref.inj (beq_iff_eq.mp e)
    rw [X _ _ ho] at htp
    cases htp
    cases hd
end
/-- isinstance(e, c), e the own error that the suite holds, its class cls, its dict d -/
def rIsD (K : PySem.W.Frag) (a : Addr) (cls : Value) (d : Option Addr) : List V → Hp → VK → Prop := fun xs H Q => ∃ (c : V) (cv : Value) (D dd : Addr) (fs : List (Str × V)) (b : Bool), xs = [.ref a, c] ∧ (∀ u, RelV c u → u = cv) ∧ cls = .ref D ∧ d = some dd ∧ ExcC K D ∧ H dd = some (.xd fs) ∧ PySem.W.kitOne K (.ref D) cv = some b ∧ Q (.bl b) H
theorem call_isD {X : Cx} {a : Addr} {cls : Value} {d : Option Addr} {oe : Obj} {pn : List (Addr × Obj)} (hz : Zc cls d oe) (hf : ∃ vs, oe.data = .fields vs) : CallR (X.suite a ((a, oe) :: pn)) (.builtin "isinstance") (rIsD X.K a cls d) := by
  intro pins s σ H xs us Q I r h
  obtain ⟨c, cv, D, dd, fs, b, rfl, hcv, ec, ed, C, hdd, e, q⟩ := h
  subst ec ed
  cases r with
  | cons rx rr =>
    cases rr with
    | cons rt rr =>
      cases rr
      cases rx
      obtain rfl := hcv _ rt
      have hget := (I.pin (a, oe) (List.mem_append.mpr (.inl List.mem_cons_self))).1
      obtain ⟨vs, hv⟩ := hf
      obtain ⟨mA, hns, _⟩ := (show ObjOk X.prog X.w H s.heap dd (.xd fs) from I.hok dd _ hdd)
      obtain ⟨od, ho, _⟩ := lookIn_ns hns
      have J : ∃ odd, PySem.W.InstAt s.heap a oe D odd := ⟨some od, hget, hz.1, by unfold PySem.W.notCls; rw [hv] <;> rfl, by rw [hz.2]; exact ho⟩
      exact kia_one (kitx_excD C) I.kIn J e (fun z => nomatch z) fun tk => ⟨.bl b, H, I.kept (t' := tk) fun _ _ z => z, rfl, q⟩
end Sh
set_option Elab.async false
set_option linter.all false
set_option maxRecDepth 100000
set_option maxHeartbeats 4000000
/-! defs that show data: no repr is running around them (the guards are known to be none) -/
namespace Sh
open PySem PySem.Spec PyProof.Rows L2
/-- what flies with its context told may fly without -/
theorem toZ {P : Program} {w : World} {K : PySem.W.Frag} {mg : Str → Option Value} {base : Heap} {k : Nat} {f : Addr} {fd : FuncData} {ps : List Str} {sp : Sp} (F : FnOk P w K mg base (L2N.CX P w) k f fd ps sp) : FnOk P w K mg base (L2.CX P w) k f fd ps sp :=
  ⟨F.len, fun A outer s H args us vs Q E hr e0 hb r h => codeAny_mono (F.run A outer s H args us vs Q E hr e0 hb r h) fun r s' hq => by
    cases r with
    | ok fl =>
      cases fl with
      | ret u => exact hq
      | next => exact hq.elim
      | brk => exact hq.elim
      | cont => exact hq.elim
    | error e =>
      obtain ⟨a, B, H', cls, d, eu, fl, r⟩ := hq
      exact ⟨a, B, H', cls, d, eu, L2H.flyingZ_imp (fun _ z => z.zc) fl, r⟩⟩
/-- what a def promises where no repr runs -/
structure FnG (P : Program) (w : World) (K : PySem.W.Frag) (mg : Str → Option Value) (base : Heap) (CX : CXT) (k : Nat) (f : Addr) (fd : FuncData) (ps : List Str) (sp : Sp) : Prop where
  len : ∀ vs H Q E, sp vs H Q E → vs.length = ps.length
  run : ∀ (A : Around) (outer : List Env) (s : Shared) (H : Hp) (args : Args) (us : List Value) (vs : List V) (Q : VK) (E : XK), A.guards = some [] → Room k A → Env0 P w K mg base A outer s H → BindsTo s fd args (ps.zip us) → Vals vs us → sp vs H Q E →
    codeAny (model P w) A (.call (.ref f) args) (CR CX outer P w H s Q E) s
theorem okG_of {P : Program} {w : World} {K : PySem.W.Frag} {mg : Str → Option Value} {base : Heap} {x qual : Str} {st : Stmt} {f : Addr} {fd : FuncData} {N ps : List Str} {k : Nat} {sp : Sp} (F : Fun K x qual st f fd) (S : FnScope N ps (defScope st)) (len : ∀ vs H Q E, sp vs H Q E → vs.length = ps.length)
    (hbody : ∀ (cdv : Value) (A : Around) (outer : List Env) (s : Shared) (H : Hp) (vs : List V) (Q : VK) (E : XK), A.guards = some [] → Room k (A.deeper (envOfC qual (defScope st) s.heap.objs.size f cdv)) → sp vs H Q E →
      ∃ t, PSs (cxOf CX0 P w K mg base N qual (defScope st) f cdv A outer s H E) (defBody st) t ∧ t { nx := fun _ H' => Q .non H', rt := Q } (start N vs) H) : FnG P w K mg base CX0 (k + 1) f fd ps sp := by
  obtain ⟨oc, od, kV, doc, pm, an, cdv, ct, osl, rfl, lk, hcd⟩ := F.ex
  refine ⟨len, fun A outer s H args us vs Q E hgd hr e0 hb r hsp => ?_⟩
  have ofB := fun b o (e : base.get? b = some o) => (e0.bs b o e).1
  have X0 : K.In s.heap := e0.mod.kin.keeps ofB
  have kinds : ∀ y ∈ ps.zip us, (defScope st).names.lookup y.1 = some .local ∨ ((defScope st).names.lookup y.1 = some .cell ∧ ((cellsFrom (s.heap.objs.size + 1) (defScope st).names []).lookup y.1).isSome = true) := fun y hy =>
    (S.par y.1 (List.of_mem_zip (a := y.1) (b := y.2) hy).1).elim Or.inl fun q => Or.inr ⟨q, PySem.W.cellsFrom_some _ _ _ (.inl q)⟩
  refine codeAny_call_function hr.depth (X0 _ _ lk) rfl S.co S.gen rfl (PySem.W.codeRec_of X0 hcd) (hb _ _ _ _ (wpAny_newFunctionEnv_cells S.kind kinds fun env he s1 x => ?_))
  subst he
  refine ⟨(e0.mod.nolimit.keeps ofB).keeps x.toInCall.keep, codeAny_func ?_⟩
  obtain ⟨t, ht, hq⟩ := hbody cdv A outer s H vs Q E hgd (hr.deeper _) hsp
  have I := inv_start (CX := CX0) (K := K) (mg := mg) (base := base) (E := E) S hr.hd e0 (len _ _ _ _ hsp) r x
  refine wpAny_mono (ht.run [] s1 (start N vs) H _ I hq) (fun fl s' hs => ?_) fun _ _ z => z
  have fin : ∀ {σ' : L2.St} {H' : Hp} {v : V} {u : Value}, Inv (cxOf CX0 P w K mg base N qual (defScope st) f cdv A outer s H E) [] σ' H' s' → RelV v u → Q v H' → CE outer P w H s Q u s' := fun J rv q => ⟨_, _, J.os, J.bare, J.base, J.hok, rv, q⟩
  cases fl with
  | ret u =>
    obtain ⟨v, _, _, J, rv, q⟩ := hs
    exact fin J rv q
  | next =>
    obtain ⟨_, _, J, q⟩ := hs
    exact fin (v := V.non) (u := Value.none) J rfl q
  | brk => exact hs.choose_spec.choose_spec.2.elim
  | cont => exact hs.choose_spec.choose_spec.2.elim
section
variable {X : Cx} {k : Nat} {f : Addr} {fd : FuncData} {ps : List Str} {sp : Sp} {E : XK} {x : Str} {p pos : Pos} {e : Expr} {es : List Expr} {t : TA}
theorem pe_callG (F : FnG X.prog X.w X.K X.mg X.base CX0 k f fd ps sp) (hgd : X.A.guards = some []) (hr : Room k X.A) (hg : Gl X x) (hm : X.mg x = some (.ref f)) (hk : PySem.W.keepIn X.K (.ref f) = true) (hb : Binds X.K fd ps [])
    (ha : PA X (e :: es) t) (hdb : (x == ("__debug__" : Str)) = false := by decide) (he : starEach (e :: es) X.env = (false, eval e X.env) :: starEach es X.env := by rfl) (hpl : (backTo pos (starEach es X.env)).any (·.1) = false := by rfl) :
    PE X (.Call (.Name x p) (e :: es) [] pos) (tCall sp [] E t) := by
  refine ⟨fun pins s σ H Q I h => wpAny_Call_Name_kw (ld_glob I hg hm ?_ hdb)⟩
  refine PySem.W.callWith_K (h₀ := X.base) I.ok.mod.kin hk (thn (ha.run pos pins s σ H _ I h) fun us s1 ⟨vs, H1, I1, r, q⟩ => ⟨I1.kIn, ?_⟩) he hpl
  have q : sp (vs ++ []) H1 Q E := q
  rw [List.append_nil] at q
  have hl : us.length = ps.length := by rw [← r.length]; exact F.len _ _ _ _ q
  have b := hb s1 us I1.kIn (by rw [List.append_nil]; exact hl)
  rw [List.append_nil] at b
  refine wpAny_call (codeAny_mono (F.run X.A X.stack s1 H1 ⟨us, []⟩ us vs Q E hgd hr I1.env0 b r q) fun r s' hq => ?_)
  rcases r with e | (_ | _ | _ | u) <;> first | exact hq.elim | exact I1.after hq
/-- repr of data without dicts -/
def rRepr (K : PySem.W.Frag) : List V → Hp → VK → Prop := fun xs H Q => ∃ (v : V) (d : PyData), xs = [v] ∧ Dp K H v d ∧ d.showable = true ∧ d.hasDict = false ∧ d.depth ≤ 60 ∧ d.shown.length ≤ sizeLine ∧ Q (.str d.shown) H
theorem cr_repr (hgd : X.A.guards = some []) (hu : X.A.units + 70 < cLine) : CallR X (.builtin "repr") (rRepr X.K) := by
  intro pins s σ H vs us Q I r h
  obtain ⟨v, d, rfl, hd, hs, hn, hdp, hz, q⟩ := h
  cases r with
  | cons rv rn =>
    rename_i u us'
    cases rn
    obtain ⟨as, rd⟩ := Dp.reads I d v u hd rv
    cases d with
    | list ds =>
      cases hd
      cases rv
      exact repr_of_reads' rd hs (PyData.noDict_hsm hn) hgd (by omega) (fun _ _ e => e) (fun h' u tk k => ⟨.str _, H, I.kept (t' := tk) k, ⟨_, rfl⟩, q⟩) hz
    | tuple ds =>
      cases hd
      cases rv
      exact repr_of_reads' rd hs (PyData.noDict_hsm hn) hgd (by omega) (fun _ _ e => e) (fun h' u tk k => ⟨.str _, H, I.kept (t' := tk) k, ⟨_, rfl⟩, q⟩) hz
    | int i =>
      cases hd
      obtain ⟨t, rfl⟩ := rv
      have hi : i.natAbs.log2 < 1920 := by simpa [PyData.showable] using hs
      exact PySem.P.repr_of_int hi ⟨.str (toString i), H, I.tok _, ⟨_, rfl⟩, by have q' := q; unfold PyData.shown at q'; exact q'⟩
    | str x =>
      cases hd
      obtain ⟨t, rfl⟩ := rv
      have hz' : (reprText x).length ≤ sizeLine := by have z := hz; unfold PyData.shown at z; exact z
      exact PySem.P.repr_of_str ⟨.str (reprText x), H, I.tok _, ⟨_, rfl⟩, by have q' := q; unfold PyData.shown at q'; exact q'⟩ hz'
    | none =>
      cases hd
      cases rv
      exact PySem.P.repr_of_none ⟨.str "None", H, I.tok _, ⟨_, rfl⟩, by have q' := q; unfold PyData.shown at q'; exact q'⟩
    | bool b =>
      cases hd
      cases rv
      exact PySem.P.repr_of_bool ⟨.str (if b then "True" else "False"), H, I.tok _, ⟨_, by cases b <;> rfl⟩, by have q' := q; unfold PyData.shown at q'; cases b <;> exact q'⟩
    | dict x => simp [PyData.hasDict] at hn
end
/-! ### the law's own end -/
theorem call_top {P : Program} {w : World} {K : PySem.W.Frag} {mg mb : Str → Option Value} {k : Nat} {fa a : Addr} {fd : FuncData} {x : Str} {sp : Sp} {s₁ : Shared} {vs : List Value} {ns : List Int} (KX : K.In s₁.heap) (hns : s₁.heap.Ns mainGlobals mg) (hb : s₁.heap.Ns builtinsNs mb)
    (hbb : ∀ x : Str, x ≠ "__name__" → mb x = bootBuiltins x) (hlim : s₁.heap.NoLimit) (hg : s₁.gens = #[]) (ha : s₁.heap.get? a = some { cls := .type "list", data := .seq vs.toArray }) (hi : IntsAre vs ns) (hl : ns.length ≤ sizeLine) (hgd : callerA.guards = some []) (hr : Room k callerA)
    (F : ∀ base : Heap, K.In base → base.Ns mainGlobals mg → FnG P w K mg base CX0 k fa fd [x] sp) (hbind : ∀ (s : Shared) (u : Value), BindsTo s fd ⟨[u], []⟩ [(x, u)]) (hsp : ∀ H : Hp, Only H → SqL K H a (ns.map V.int) → sp [.ref a] H (fun v _ => v = .bl true) fun _ _ _ => False) :
    codeAny (model P w) callerA (.call (.ref fa) ⟨[.ref a], []⟩) (fun r s' => r = .ok (.ret (.bool true)) ∧ OldK s₁.heap s'.heap ∧ s'.os = s₁.os ∧ AllBare s'.gens) s₁ := by
  have rv := vals_ints hi
  have main : ∀ H : Hp, Only H → SqL K H a (ns.map V.int) → HOk P w H s₁.heap → (∀ b u, H b = some u → b = a ∧ K.lookup a = none) →
      codeAny (model P w) callerA (.call (.ref fa) ⟨[.ref a], []⟩) (fun r s' => r = .ok (.ret (.bool true)) ∧ OldK s₁.heap s'.heap ∧ s'.os = s₁.os ∧ AllBare s'.gens) s₁ := by
    intro H hO hS hok hA
    have ns' : ∀ {b : Addr} {m : Str → Option Value}, s₁.heap.Ns b m → (hidT s₁.heap H).Ns b m := fun {b m} ⟨o, es, ep, e, d, r⟩ => by
      have nb : H b = none := by
        cases q : H b with
        | none => rfl
        | some u =>
          obtain ⟨rfl, _⟩ := hA b u q
          rw [ha] at e
          cases e
          cases d
      exact ⟨o, es, ep, hidT_get e nb, d, r⟩
    have Kb : K.In (hidT s₁.heap H) := fun b o e => by
      have nb : H b = none := by
        cases q : H b with
        | none => rfl
        | some u =>
          obtain ⟨rfl, z⟩ := hA b u q
          rw [z] at e
          cases e
      exact hidT_get (KX b o e) nb
    obtain ⟨mc, l1, l2⟩ := hlim
    have e0 : Env0 P w K mg (hidT s₁.heap H) callerA [] s₁ H := ⟨rfl, ⟨Kb, ns' hns, ⟨mb, ns' hb, hbb⟩, ⟨mc, ns' l1, l2⟩⟩, fun b o e => of_hidT e, Nat.le_of_eq (hidT_size _ _), trivial, (fun b hb => nomatch (show b ∈ ([] : List Addr) from hb)), hok, .of_eq hg⟩
    refine codeAny_mono ((F _ Kb (ns' hns)).run callerA [] s₁ H ⟨[.ref a], []⟩ [.ref a] [.ref a] _ _ hgd hr e0 (hbind s₁ (.ref a)) (.cons rfl .nil) (hsp H hO hS)) fun r s' h => ?_
    rcases r with e | (_ | _ | _ | u)
    · exact h.elim
    · exact h.elim
    · exact h.elim
    · exact h.elim
    · obtain ⟨v, H', os, bare, un, hok', r', q⟩ := h
      have q' : v = .bl true := q
      subst q'
      obtain rfl : u = Value.bool true := r'
      refine ⟨rfl, OldK.of_keep fun b o e => ?_, os, bare⟩
      rcases hO b with z | ⟨ob, xs, z⟩
      · exact un.keep b o e z (fun y => nomatch (show b ∈ ([] : List Addr) from y)) (fun y => nomatch y)
      · obtain ⟨e1, _⟩ := hok b _ z
        obtain ⟨e2, _⟩ := hok' b _ (un.frzs b ob _ z)
        rw [e2, ← e1, e]
  cases hk : K.lookup a with
  | some o =>
    obtain rfl : o = { cls := .type "list", data := .seq vs.toArray } := Option.some.inj ((KX a o hk).symm.trans ha)
    exact main (fun _ => none) (fun _ => .inl rfl) (.inr ⟨_, vs.toArray, _, hk, rfl, rfl, rfl, by rw [List.size_toArray, hi.length]; exact hl, rv⟩) (fun b u z => nomatch z) fun b u z => nomatch z
  | none =>
    have up : ∀ b u, (if b = a then some (HO.frz { cls := .type "list", data := .seq vs.toArray } (.lst (ns.map V.int))) else none) = some u → b = a ∧ u = .frz { cls := .type "list", data := .seq vs.toArray } (.lst (ns.map V.int)) := fun b u z => by
      by_cases hb : b = a
      · rw [if_pos hb] at z
        exact ⟨hb, (Option.some.inj z).symm⟩
      · rw [if_neg hb] at z
        cases z
    refine main (fun b => if b = a then some (.frz { cls := .type "list", data := .seq vs.toArray } (.lst (ns.map V.int))) else none) (fun b => ?_) (.inl (.inr ⟨_, if_pos rfl⟩)) (fun b u z => ?_) fun b u z => ⟨(up b u z).1, hk⟩
    · by_cases hb : b = a
      · exact .inr ⟨_, _, if_pos hb⟩
      · exact .inl (if_neg hb)
    · obtain ⟨rfl, rfl⟩ := up b u z
      exact ⟨ha, by rw [List.length_map]; exact hl, vs, _, rv, ha⟩
theorem walk_ofG {l : PySem.W.OpenLaw} {n k : Nat} {q : Program} {loose : List Str} {XP : (Str → Option Value) → Heap → Prop} {YP : World → Heap → Prop} {d : DefRec} {K : Params → PySem.W.Frag} {sp : World → Sp} {x : Str} (hn : l.most = some n) (hn2 : n ≤ sizeLine) (hdf : d.params.defaults = [])
    (hgd : callerA.guards = some []) (hr : Room k callerA) (hY : ∀ (w : World) (h : Heap), YP w h → (K w.params).In h)
    (F : ∀ (w : World) (mg : Str → Option Value) (fa : Addr) (h : Heap), (K w.params).In h → h.Ns mainGlobals mg → mg d.name = some (.ref fa) → ∃ fd : FuncData, (∀ (s : Shared) (u : Value), BindsTo s fd ⟨[u], []⟩ [(x, u)]) ∧
      ∀ base : Heap, (K w.params).In base → base.Ns mainGlobals mg → FnG l.prog w (K w.params) mg base CX0 k fa fd [x] (sp w))
    (hsp : ∀ (w : World) (H : Hp) (a : Addr) (ns : List Int), ns.length ≤ n → (∀ z ∈ ns, Builtin.Int.intBits z ≤ 1048576) → Only H → SqL (K w.params) H a (ns.map V.int) → sp w [.ref a] H (fun v _ => v = .bl true) fun _ _ _ => False) :
    PySem.W.WalkO q loose XP YP l.row.toRowW d [] (fun f vs => PySem.call f vs) := by
  refine Att.attach_callB hn hdf fun w s₀ s₁ mg mb fa o pm cd doc a vs ns G Y ho hd hcd hmg hobj hints hlen hbits hg => ?_
  obtain ⟨fd, hb, hF⟩ := F w mg fa _ (hY w _ Y) G.T.g hmg
  exact call_top (hY w _ Y) G.T.g G.T.b G.T.builtins G.T.nolimit hg hobj hints (Nat.le_trans hlen hn2) hgd hr hF hb fun H hO hS => hsp w H a ns hlen hbits hO hS
example : callerA.guards = some [] := rfl
end Sh
set_option Elab.async false
set_option linter.all false
set_option maxRecDepth 100000
set_option maxHeartbeats 4000000
/-! iterators that hand out pairs: enumerate over a list or a tuple, zip of a text and a list -/
namespace Sh
open PySem PySem.Spec PyProof.Rows L2
/-- n pairs; G: what stands while they are walked -/
def ItP (G : Hp → Prop) (n : Nat) (xs ys : Nat → Option V) : It :=
  ⟨fun i H => i < n ∧ G H, fun i H v H' => ∃ T x y, v = .ref T ∧ H T = none ∧ H' = upd H T (.tup [x, y]) ∧ xs i = some x ∧ ys i = some y, fun i H => i = n ∧ G H⟩
theorem walk_pairs {G : Hp → Prop} {n : Nat} {xs ys : Nat → Option V} : L2.Walk (ItP G n xs ys) n G (YPair xs ys) := ⟨fun _ _ hi g => ⟨hi, g⟩, fun _ g => ⟨rfl, g⟩, fun _ _ _ _ _ _ y => y⟩
theorem turn_of {P : Program} {w : World} {K : PySem.W.Frag} {elts : List Expr} {kk : Nat} {tpos : Pos} {G : Hp → Prop} {n : Nat} {xs ys : Nat → Option V} {fp : List Addr} {e : Addr} {tn : Nat → Heap → Prop} (mem : e ∈ fp) (obj : ∀ i h, tn i h → ∀ b ∈ fp, ∃ o, h.get? b = some o ∧ ∀ v, o.data ≠ .cell v)
    (keep : ∀ i h h', tn i h → (∀ b ∈ fp, ∀ o, h.get? b = some o → h'.get? b = some o) → tn i h')
    (self : ∀ (A : Around) (i : Nat) (s : Shared) (Q : Value → Shared → Prop) (E : Value → Shared → Prop), tn i s.heap → Q (.ref e) s → wpAny (model P w) A (pyIter (.ref e)) Q E s)
    (W : ∀ (X : Cx), X.prog = P → X.w = w → X.K = K → X.calm = true → ∀ (i : Nat) (pins : List (Addr × Obj)) (s : Shared) (σ : L2.St) (H : Hp), Inv X pins σ H s → (∀ b ∈ fp, FpOk X pins H b) → tn i s.heap → G H → i ≤ n → ∃ (fw wr : List Addr) (Pt : Nat → Array Value → Prop) (St : Nat → Heap → Prop) (Mid : Nat → Addr → Heap → Prop),
      WalksT P w X.A e fw wr n Pt St Mid ∧ St i s.heap ∧ (∀ b ∈ wr, b ∈ fp) ∧ (∀ vals, i < n → Pt i vals → ∃ x y u v, vals = #[u, v] ∧ RelV x u ∧ RelV y v ∧ xs i = some x ∧ ys i = some y) ∧ ∀ h', St (i + 1) h' → tn (i + 1) h') :
    Turn P w K (.Tuple elts kk tpos) (ItP G n xs ys) fp e tn where
  mem := mem
  obj := obj
  keep := keep
  self := self
  item := by
    intro X hP hw hK hc i pins s σ H E I hf st hg
    obtain ⟨hi, hG⟩ := hg
    obtain ⟨fw, wr, Pt, St, Mid, Wk, hS, hwr, hv, hnx⟩ := W X hP hw hK hc i pins s σ H I hf st hG (Nat.le_of_lt hi)
    refine Wk.item i s _ E hi hS fun T vals h' tk hp hT hIs hM hk => ⟨_, rfl, ?_⟩
    refine Wk.go elts kk tpos i T { s with heap := h', toks := tk } _ _ hM fun h'' hS' hk2 => ?_
    obtain ⟨x, y, u, v, rfl, rx, ry, ex, ey⟩ := hv vals hi hp
    have lt : ∀ b ∈ fp, b < s.heap.objs.size := fun b hb => by
      obtain ⟨o, z, _⟩ := obj i _ st b hb
      exact Heap.lt_size z
    obtain ⟨o, o1, o2, m, o3⟩ := hIs
    have oT : h''.get? T = some o := hk2 T o (Wk.apart i T h' hM) o1
    have nT : H T = none := I.hok.fresh hT
    have new : ObjOk X.prog X.w (upd H T (.tup [x, y])) h'' T (.tup [x, y]) := ⟨by show 2 ≤ sizeLine; decide, [u, v], .cons rx (.cons ry .nil), ⟨o, oT, o2, m, o3⟩⟩
    have J : Inv X pins σ (upd H T (.tup [x, y])) { s with heap := h'', toks := tk } := I.turnedNew (ch := fp) (fun b o hb z => hk2 b o (fun q => hb (hwr b q)) (hk b o (fun q => hb (hwr b q)) z)) hf hT new
    refine ⟨.ref T, _, J, rfl, ⟨T, x, y, rfl, nT, rfl, ex, ey⟩, hnx h'' hS', fun b hb => ?_⟩
    rw [upd_ne (Nat.ne_of_lt (Nat.lt_of_lt_of_le (lt b hb) hT))]
    exact (hf b hb).1
  done := by
    intro X hP hw hK hc i pins s σ H E I hf st hg
    obtain ⟨rfl, hG⟩ := hg
    obtain ⟨fw, wr, Pt, St, Mid, Wk, hS, hwr, _⟩ := W X hP hw hK hc i pins s σ H I hf st hG (Nat.le_refl _)
    exact Wk.done s _ E hS fun h' tk hk => ⟨rfl, I.turnedL (ch := fp) (fun b o hb z => hk b o (fun q => hb (hwr b q)) z) hf⟩
theorem rv_back {xs : List V} {us : List Value} {i : Nat} {u : Value} (r : Vals xs us) (h : us[i]? = some u) : ∃ x, xs[i]? = some x ∧ RelV x u := by
  have hl := r.length
  have hi : i < xs.length := by
    have := (List.getElem?_eq_some_iff.mp h).1
    omega
  obtain ⟨u', e, ru⟩ := r.get (List.getElem?_eq_getElem hi)
  rw [h] at e
  cases e
  exact ⟨_, List.getElem?_eq_getElem hi, ru⟩
/-! ### enumerate -/
abbrev enumXs (i : Nat) : Option V := some (.int (i : Int))
def iEnumQ (K : PySem.W.Frag) (ta : TA) : TI := fun σ H R => ta σ H fun vs H1 => ∃ a xs, vs = [.ref a] ∧ ((SqL K H1 a xs ∧ R (ItP (fun H => SqL K H a xs) xs.length enumXs (fun i => xs[i]?)) H1) ∨ (SqT K H1 a xs ∧ R (ItP (fun H => SqT K H a xs) xs.length enumXs (fun i => xs[i]?)) H1))
theorem turn_enumL {P : Program} {w : World} {K : PySem.W.Frag} {elts : List Expr} {kk : Nat} {tpos : Pos} {a e it : Addr} {xs : List V} (h1 : e ≠ it) (h2 : a ≠ it) (h3 : e ≠ a) :
    Turn P w K (.Tuple elts kk tpos) (ItP (fun H => SqL K H a xs) xs.length enumXs (fun i => xs[i]?)) [e, it] e (fun i h => (∃ old, IsEnum h e it (0 + ((i : Nat) : Int)) old) ∧ h.IsListIter it a i) := by
  refine turn_of (by simp) (fun i h st b hb => ?_) (fun i h h' st k => ?_) (fun A i s Q E st q => ?_) fun X hP hw hK hc i pins s σ H I hf st hG hi => ?_
  · obtain ⟨⟨old, g1⟩, o, g2, _, g3⟩ := st
    rcases List.mem_cons.mp hb with rfl | hb
    · exact ⟨_, g1, fun v q => nomatch q⟩
    · rw [List.mem_singleton.mp hb]
      exact ⟨o, g2, fun v q => by rw [g3] at q; cases q⟩
  · obtain ⟨⟨old, g1⟩, o, g2, g3⟩ := st
    exact ⟨⟨old, k e (by simp) _ g1⟩, o, k it (by simp) _ g2, g3⟩
  · obtain ⟨⟨old, g1⟩, _⟩ := st
    exact wpAny_pyIter_enum g1 q
  · subst hP hw hK
    obtain ⟨its, rv, p, hz⟩ := I.list hG
    have hl : its.toArray.size = xs.length := by rw [List.size_toArray]; exact rv.length.symm
    have D := Draws.list (prog := X.prog) (w := X.w) (A := X.A.in1) (show X.A.in1.handled = none from I.ok.hd hc) it a h2 its.toArray
    rw [hl] at D
    refine ⟨_, _, _, _, _, WalksT.enumFrom 0 D e h1 (by simp [h1, h3]) (by simp), ⟨st.1, st.2, p.isList⟩, fun b hb => hb, fun vals hi hp => ?_, fun h' hs => ⟨hs.1, hs.2.1⟩⟩
    obtain ⟨t, u, hu, rfl⟩ := hp
    obtain ⟨x, ex, rx⟩ := rv_back rv (show its[i]? = some u by simpa using hu)
    exact ⟨.int (i : Int), x, _, u, rfl, ⟨t, by rw [show (0 : Int) + (i : Int) = (i : Int) by omega]⟩, rx, rfl, ex⟩
theorem turn_enumT {P : Program} {w : World} {K : PySem.W.Frag} {elts : List Expr} {kk : Nat} {tpos : Pos} {a e it : Addr} {xs : List V} (h1 : e ≠ it) (h2 : a ≠ it) (h3 : e ≠ a) :
    Turn P w K (.Tuple elts kk tpos) (ItP (fun H => SqT K H a xs) xs.length enumXs (fun i => xs[i]?)) [e, it] e (fun i h => (∃ old, IsEnum h e it (0 + ((i : Nat) : Int)) old) ∧ h.IsTupleIter it a i) := by
  refine turn_of (by simp) (fun i h st b hb => ?_) (fun i h h' st k => ?_) (fun A i s Q E st q => ?_) fun X hP hw hK hc i pins s σ H I hf st hG hi => ?_
  · obtain ⟨⟨old, g1⟩, o, g2, _, g3⟩ := st
    rcases List.mem_cons.mp hb with rfl | hb
    · exact ⟨_, g1, fun v q => nomatch q⟩
    · rw [List.mem_singleton.mp hb]
      exact ⟨o, g2, fun v q => by rw [g3] at q; cases q⟩
  · obtain ⟨⟨old, g1⟩, o, g2, g3⟩ := st
    exact ⟨⟨old, k e (by simp) _ g1⟩, o, k it (by simp) _ g2, g3⟩
  · obtain ⟨⟨old, g1⟩, _⟩ := st
    exact wpAny_pyIter_enum g1 q
  · subst hP hw hK
    obtain ⟨its, rv, p, hz⟩ := I.tuple hG
    have hl : its.toArray.size = xs.length := by rw [List.size_toArray]; exact rv.length.symm
    have D := Draws.tuple (prog := X.prog) (w := X.w) (A := X.A.in1) (show X.A.in1.handled = none from I.ok.hd hc) it a h2 its.toArray
    rw [hl] at D
    refine ⟨_, _, _, _, _, WalksT.enumFrom 0 D e h1 (by simp [h1, h3]) (by simp), ⟨st.1, st.2, p⟩, fun b hb => hb, fun vals hi hp => ?_, fun h' hs => ⟨hs.1, hs.2.1⟩⟩
    obtain ⟨t, u, hu, rfl⟩ := hp
    obtain ⟨x, ex, rx⟩ := rv_back rv (show its[i]? = some u by simpa using hu)
    exact ⟨.int (i : Int), x, _, u, rfl, ⟨t, by rw [show (0 : Int) + (i : Int) = (i : Int) by omega]⟩, rx, rfl, ex⟩
theorem enum_one {v : Value} {o : Obj} {G : Heap → Prop} (B : Begins v o G) : Meets (Builtin.«enumerate.__new__» ⟨[.type "enumerate", v], []⟩) (fun _ R s => G s.heap ∧ R (.ok (.ret (.ref (s.heap.push o).objs.size)))
    { s with heap := (s.heap.push o).push { cls := .type "enumerate", data := .fields #[.none, .bool false, .ref s.heap.objs.size, rawInt 0, .none, .none] } }) :=
  .of_wp fun prog w A R s hh => by
    obtain ⟨hp, g, d, tk, os⟩ := s
    obtain ⟨g1, h⟩ := hh
    have hsub := sub_enumerate
    have itr : ∀ {A' : Around} {E : Value → Shared → Prop} {Q : Value → Shared → Prop}, Q (.ref hp.objs.size) ⟨hp.push o, g, d, tk, os⟩ → wpAny (model prog w) A' (pyIter v) Q E ⟨hp, g, d, tk, os⟩ := fun q => B.iter prog w _ _ ⟨hp, g, d, tk, os⟩ _ g1 q
    wp_walk using itr
    refine wpAny_stack_any fun st => wpAny_pure ?_
    split
    · rename_i c _ _ _ _ _
      cases (c == Value.type "enumerate") <;> (wp_walk using itr; exact ⟨_, rfl, h⟩)
    · wp_walk using itr
      exact ⟨_, rfl, h⟩
section
variable {prog : Program} {w : World} {A : Around} {E : Value → Shared → Prop} {s : Shared}
theorem enum_call {v : Value} {o : Obj} {G : Heap → Prop} {Q : Value → Shared → Prop} (B : Begins v o G) (g1 : G s.heap)
    (h : ∀ h', IsEnum h' (s.heap.objs.size + 1) s.heap.objs.size 0 .none → h'.get? s.heap.objs.size = some o → (∀ b o, s.heap.get? b = some o → h'.get? b = some o) → Q (.ref (s.heap.objs.size + 1)) { s with heap := h' }) :
    wpAny (model prog w) A (call (.type "enumerate") [v]) Q E s := by
  refine callType_new F.called_enumerate (by decide) (F.typeCall_enumerate_1 _) (F.newCall_enumerate_1 _) (fun obj => F.args_object_init_2 obj _) F.entry_enumerate_new (enum_one B) ⟨g1, ?_⟩
  have hz : (s.heap.push o).objs.size = s.heap.objs.size + 1 := Heap.size_push ..
  show _ ∧ _
  rw [hz]
  have he : ((s.heap.push o).push { cls := .type "enumerate", data := .fields #[.none, .bool false, .ref s.heap.objs.size, rawInt 0, .none, .none] }).get? (s.heap.objs.size + 1) = some { cls := .type "enumerate", data := .fields #[.none, .bool false, .ref s.heap.objs.size, rawInt 0, .none, .none] } := by
    rw [← hz]
    exact Heap.get?_push_size _ rfl
  exact ⟨⟨_, he, rfl⟩, h _ he (Heap.get?_push_of_some _ (Heap.get?_push_size _ B.free)) fun b o x => Heap.get?_push_of_some _ (Heap.get?_push_of_some _ x)⟩
end
theorem pi_enumQ {X : Cx} {e : Expr} {ta : TA} {p pos tpos : Pos} {elts : List Expr} {kk : Nat} (hg : Gl X "enumerate") (hm : X.mg "enumerate" = none) (ha : PA X [e] ta) (hs : starEach [e] X.env = [(false, eval e X.env)] := by rfl) :
    PI X (.Tuple elts kk tpos) (.Call (.Name "enumerate" p) [e] [] pos) (iEnumQ X.K ta) := by
  refine ⟨fun pins s σ H R I h => Call_ (ld_blt I hg hm boot_enumerate (PyProof.Rows.callWith_type1 (thn (ha.run pos pins s σ H _ I h) fun us s1 ⟨vs, H1, I1, r1, q1⟩ => ?_) hs rfl))⟩
  obtain ⟨a, xs, rfl, q1⟩ := q1
  cases r1 with
  | cons r rr =>
    cases rr
    cases r
    have fresh : ∀ b ∈ [s1.heap.objs.size + 1, s1.heap.objs.size], FpOk X pins H1 b := fun b hb => by
      have hle : s1.heap.objs.size ≤ b := by
        rcases List.mem_cons.mp hb with rfl | hb
        · exact Nat.le_succ _
        · rw [List.mem_singleton.mp hb]
          exact Nat.le_refl _
      exact I1.fpOk hle (I1.hok.fresh hle)
    rcases q1 with ⟨hq, q⟩ | ⟨hq, q⟩
    · obtain ⟨its, rv, p', _⟩ := I1.list hq
      have la : a < s1.heap.objs.size := p'.lt
      refine enum_call (begins_list a its.toArray) p'.isList fun h' he ho hk => wpAny_pyIter_enum he ⟨_, _, _, _, H1, rfl, I1.kept (t' := s1.toks) hk, turn_enumL (Nat.succ_ne_self _) (Nat.ne_of_lt la) (Nat.ne_of_gt (Nat.lt_succ_of_lt la)), ⟨⟨.none, ?_⟩, _, ho, rfl, rfl⟩, fresh, q⟩
      exact he
    · obtain ⟨its, rv, p', _⟩ := I1.tuple hq
      obtain ⟨ot, hot, _⟩ := id p'
      have la : a < s1.heap.objs.size := Heap.lt_size hot
      refine enum_call (begins_tuple a its.toArray) p' fun h' he ho hk => wpAny_pyIter_enum he ⟨_, _, _, _, H1, rfl, I1.kept (t' := s1.toks) hk, turn_enumT (Nat.succ_ne_self _) (Nat.ne_of_lt la) (Nat.ne_of_gt (Nat.lt_succ_of_lt la)), ⟨⟨.none, ?_⟩, _, ho, rfl, rfl⟩, fresh, q⟩
      exact he
/-! ### zip of a text and a list -/
abbrev zipXs (z : Str) (i : Nat) : Option V := z.cps[i]?.map fun c => V.str ⟨#[c]⟩
def iZipS (K : PySem.W.Frag) (ta : TA) : TI := fun σ H R => ta σ H fun vs H1 => ∃ (z : Str) (b : Addr) (ys : List V), vs = [.str z, .ref b] ∧ SqL K H1 b ys ∧ R (ItP (fun H => SqL K H b ys) (min z.cps.size ys.length) (zipXs z) (fun i => ys[i]?)) H1
theorem turn_zipS {P : Program} {w : World} {K : PySem.W.Frag} {elts : List Expr} {kk : Nat} {tpos : Pos} {b I0 : Addr} {x : Str} {t : Tok} {ys : List V} (hb : b < I0) :
    Turn P w K (.Tuple elts kk tpos) (ItP (fun H => SqL K H b ys) (min x.cps.size ys.length) (zipXs x) (fun i => ys[i]?)) [I0 + 4, I0 + 2, I0 + 3, I0, I0 + 1] (I0 + 4)
      (fun i h => IsZip h (I0 + 4) (I0 + 2) (I0 + 3) .none ∧ IsTupOf2 h (I0 + 2) (.ref I0) (.ref (I0 + 1)) ∧ (∃ a1 a2, IsTupOf2 h (I0 + 3) a1 a2) ∧ h.IsStrIter I0 (strIterType x) x t i ∧ h.IsListIter (I0 + 1) b i) := by
  refine turn_of (by simp) (fun i h st c hc => ?_) (fun i h h' st k => ?_) (fun A i s Q E st q => ?_) fun X hP hw hK hc i pins s σ H I hf st hG hi => ?_
  · obtain ⟨g1, g2, ⟨a1, a2, g3⟩, g4, o5, g5, _, g6⟩ := st
    simp only [List.mem_cons, List.not_mem_nil, or_false] at hc
    rcases hc with rfl | rfl | rfl | rfl | rfl
    · exact ⟨_, g1, fun v q => nomatch q⟩
    · exact ⟨_, g2, fun v q => nomatch q⟩
    · exact ⟨_, g3, fun v q => nomatch q⟩
    · unfold Heap.IsStrIter at g4
      obtain ⟨o4, g4, _, g7⟩ := g4
      exact ⟨o4, g4, fun v q => by rw [g7] at q; cases q⟩
    · exact ⟨o5, g5, fun v q => by rw [g6] at q; cases q⟩
  · obtain ⟨g1, g2, ⟨a1, a2, g3⟩, g4, o5, g5, g6⟩ := st
    unfold Heap.IsStrIter at g4 ⊢
    obtain ⟨o4, g4, g7⟩ := g4
    exact ⟨k _ (by simp) _ g1, k _ (by simp) _ g2, ⟨a1, a2, k _ (by simp) _ g3⟩, ⟨o4, k _ (by simp) _ g4, g7⟩, o5, k _ (by simp) _ g5, g6⟩
  · exact wpAny_pyIter_zip st.1 q
  · subst hP hw hK
    obtain ⟨its, rv, p, hz⟩ := I.list hG
    have hl : its.toArray.size = ys.length := by rw [List.size_toArray]; exact rv.length.symm
    have hh : X.A.in1.handled = none := I.ok.hd hc
    have D1 := Draws.text (prog := X.prog) (w := X.w) (A := X.A.in1) hh I0 x t
    have D2 := Draws.list (prog := X.prog) (w := X.w) (A := X.A.in1) hh (I0 + 1) b (Nat.ne_of_lt (Nat.lt_succ_of_lt hb)) its.toArray
    rw [hl] at D2
    have S : ZipSep2 (I0 + 4) (I0 + 2) (I0 + 3) I0 (I0 + 1) [I0] [I0 + 1, b] := by
      have gt : ∀ {m k : Nat}, k < m → (I0 + m : Nat) ≠ I0 + k := fun h z => absurd (Nat.add_left_cancel z) (Nat.ne_of_gt h)
      have nb : ∀ m : Nat, (I0 + m : Nat) ≠ b := fun m z => absurd (show I0 ≤ b from z ▸ Nat.le_add_right I0 m) (Nat.not_le_of_lt hb)
      have n2 : ∀ {c : Nat}, c ≠ I0 + 1 → c ≠ b → (c : Addr) ∉ ([I0 + 1, b] : List Addr) := fun h1 h2 z => by
        rcases List.mem_cons.mp z with z | z
        · exact h1 z
        · exact h2 (List.mem_singleton.mp z)
      have n1 : ∀ {m : Nat}, 0 < m → (I0 + m : Addr) ∉ ([I0] : List Addr) := fun h z => gt h (List.mem_singleton.mp z)
      exact ⟨fun z => gt (by decide) z.symm, fun z => gt (by decide) z.symm, fun z => gt (by decide) z.symm, gt (k := 0) (by decide), by simp, n1 (by decide), n1 (by decide), gt (by decide), by simp, n2 (gt (by decide)) (nb 4), n2 (gt (by decide)) (nb 3), n2 (fun z => gt (m := 1) (k := 0) (by decide) z.symm) (nb 0), n1 (by decide)⟩
    refine ⟨_, _, _, _, _, WalksT.zipD2 S D1 D2, ⟨st.1, st.2.1, st.2.2.1, st.2.2.2.1, st.2.2.2.2, p.isList⟩, fun c hc => ?_, fun vals hi hp => ?_, fun h' hs => ⟨hs.1, hs.2.1, hs.2.2.1, hs.2.2.2.1, hs.2.2.2.2.1⟩⟩
    · simp only [List.mem_cons, List.not_mem_nil, or_false] at hc ⊢
      rcases hc with h | h | h | h <;> simp [h]
    · obtain ⟨u1, u2, ⟨c, tc, hc1, rfl⟩, hu, rfl⟩ := hp
      obtain ⟨y, ey, ry⟩ := rv_back rv (show its[i]? = some u2 by simpa using hu)
      exact ⟨.str ⟨#[c]⟩, y, _, u2, rfl, ⟨tc, rfl⟩, ry, by show x.cps[i]?.map _ = _; rw [hc1]; rfl, ey⟩
theorem pi_zipS {X : Cx} {e e2 : Expr} {ta : TA} {p pos tpos : Pos} {elts : List Expr} {kk : Nat} (hg : Gl X "zip") (hm : X.mg "zip" = none) (ha : PA X [e, e2] ta)
    (hs : starEach [e, e2] X.env = (false, eval e X.env) :: starEach [e2] X.env := by rfl) (hpl : (backTo pos (starEach [e2] X.env)).any (·.1) = false := by rfl) :
    PI X (.Tuple elts kk tpos) (.Call (.Name "zip" p) [e, e2] [] pos) (iZipS X.K ta) := by
  refine ⟨fun pins s σ H R I h => Call_ (ld_blt I hg hm PyProof.Rows.boot_zip (PyProof.Rows.callWith_type1 (thn (ha.run pos pins s σ H _ I h) fun us s1 ⟨vs, H1, I1, r1, q1⟩ => ?_) hs hpl))⟩
  obtain ⟨z, b, ys, rfl, hq, q⟩ := q1
  cases r1 with
  | cons r rr =>
    cases rr with
    | cons r' rr =>
      cases rr
      cases r'
      obtain ⟨t, rfl⟩ := r
      obtain ⟨its, rv, p', _⟩ := I1.list hq
      have lb : b < s1.heap.objs.size := p'.lt
      refine zip_begins2 (begins_text z t) (begins_list b its.toArray) trivial p'.isList fun h' g1 g2 g3 g4 g5 g6 hk => wpAny_pyIter_zip g1 ⟨_, _, _, _, H1, rfl, I1.kept (t' := s1.toks) hk, turn_zipS (t := t) lb, ⟨g1, g2, ⟨_, _, g3⟩, ?_, _, g5, rfl, rfl⟩, fun c hc => ?_, q⟩
      · unfold Heap.IsStrIter
        exact ⟨_, g4, rfl, rfl⟩
      · have hle : s1.heap.objs.size ≤ c := by
          simp only [List.mem_cons, List.not_mem_nil, or_false] at hc
          rcases hc with h | h | h | h | h <;> (rw [h]; first | exact Nat.le_refl _ | exact Nat.le_add_right _ _)
        exact I1.fpOk hle (I1.hok.fresh hle)
end Sh
set_option Elab.async false
set_option linter.all false
set_option maxRecDepth 100000
namespace Sh
open PySem PySem.Spec PyProof.Rows L2
def gvA : V → Prop := fun _ => True
def gvI : V → Prop := fun v => ∃ i : Int, v = .int i ∧ i.natAbs ≤ 1000000
def gvS : V → Prop := fun v => ∃ z : Str, v = .str z ∧ z.length ≤ 1000
theorem gvA_ok : ∀ (v : V) (u : Value), gvA v → RelV v u → (fun _ : Value => True) u := fun _ _ _ _ => trivial
theorem gvI_ok : ∀ (v : V) (u : Value), gvI v → RelV v u → OwnX.goodI u := by
  rintro v u ⟨i, rfl, hi⟩ r
  obtain ⟨t, rfl⟩ := r
  refine ⟨i, t, rfl, ?_⟩
  by_cases h0 : i.natAbs = 0
  · rw [h0]
    decide
  · have := (Nat.log2_lt h0).mpr (Nat.lt_of_le_of_lt hi (show 1000000 < 2 ^ 20 by decide))
    omega
theorem gvS_ok : ∀ (v : V) (u : Value), gvS v → RelV v u → OwnX.goodS u := by
  rintro v u ⟨z, rfl, hz⟩ r
  obtain ⟨t, rfl⟩ := r
  exact ⟨z, t, rfl, hz⟩
theorem depth_of {k : Nat} {A : Around} (r : Room k A) : A.depth + 1 < recursionLimit := by have := r.dp; omega
theorem depth_mark {k : Nat} {A : Around} {hd : Option Value} (r : Room k A) : (A.mark hd).depth + 1 < recursionLimit := by
  have := r.dp
  show A.depth + 1 < recursionLimit
  omega
/-- an error leaves: C its class, f its field, v the field's value -/
def Thr (B : Hp) (M : List (Addr × HO)) (E : XK) (C : Addr) (f : Str) (v : V) : Prop := ∀ (d : Addr) (B' H' : Hp), Le B B' → Hs B' M H' → B' d = some (.xd [(f, v)]) → E (.ref C) (some d) H'
theorem v_raise {B H : Hp} {M : List (Addr × HO)} {σ : L2.St} {D : Ends} {C : Addr} {f : Str} {gv : V → Prop} {ta : TA} {E : XK} {v : V} (hs : Hs B M H) (g : gv v) (h : Thr B M E C f v) (ha : ∀ q : List V → Hp → Prop, q [v] H → ta σ H q) : tRaiseX C f gv (fun cls d _ H => E cls d H) ta D σ H := by
  refine ha (fun vs H1 => ∃ v, vs = [v] ∧ gv v ∧ ∀ d, H1 d = none → E (.ref C) (some d) (upd H1 d (.xd [(f, v)]))) ⟨v, rfl, g, fun d hd => ?_⟩
  obtain ⟨h1, h2⟩ := hs.newB hd (.xd [(f, v)])
  exact h d _ _ h2 h1 upd_same
theorem Thr.le {B B' : Hp} {M : List (Addr × HO)} {E : XK} {C : Addr} {f : Str} {v : V} (h : Thr B M E C f v) (l : Le B B') : Thr B' M E C f v := fun d B2 H2 l2 h2 e => h d B2 H2 (l.trans l2) h2 e
/-! ### steps over pairs -/
section
variable {K : PySem.W.Frag} {B H : Hp} {M : List (Addr × HO)} {D : Ends} {σ : L2.St} {g : TG} {tb : TS} {tt : TT} {te : TE} {vs : List Nat} {Q : VK} {a : TA}
def AtQ (K : PySem.W.Frag) (vs : List V) (H : Hp) (R : It → Hp → Prop) : Prop := ∃ a xs, vs = [.ref a] ∧ ((SqL K H a xs ∧ R (ItP (fun H => SqL K H a xs) xs.length enumXs (fun i => xs[i]?)) H) ∨ (SqT K H a xs ∧ R (ItP (fun H => SqT K H a xs) xs.length enumXs (fun i => xs[i]?)) H))
theorem v_enumQ {R : It → Hp → Prop} (h : a σ H fun vs H1 => AtQ K vs H1 R) : iEnumQ K a σ H R := h
def AtZ (K : PySem.W.Frag) (vs : List V) (H : Hp) (R : It → Hp → Prop) : Prop := ∃ (z : Str) (b : Addr) (ys : List V), vs = [.str z, .ref b] ∧ SqL K H b ys ∧ R (ItP (fun H => SqL K H b ys) (min z.cps.size ys.length) (zipXs z) (fun i => ys[i]?)) H
theorem v_zipS {R : It → Hp → Prop} (h : a σ H fun vs H1 => AtZ K vs H1 R) : iZipS K a σ H R := h
/-- pairs walked: the pair is at T -/
theorem v_forP {G : Hp → Prop} {n : Nat} {xs ys : Nat → Option V} (hs : Hs B M H) (hG : ∀ B' M' H', Le B B' → Hs B' M' H' → G H') (I : Nat → L2.St → Hp → List (Addr × HO) → Prop) (h0 : I 0 σ B M)
    (step : ∀ i T x y σ' B' M' H', i < n → xs i = some x → ys i = some y → Le B B' → B' T = some (.tup [x, y]) → Hs B' M' H' → (∃ B2, Le B B2 ∧ Le B2 B' ∧ I i σ' B2 M') → g (.ref T) σ' H' fun σ2 H2 => tb { D with nx := IV B I (i + 1), ct := IV B I (i + 1), bk := D.nx } σ2 H2)
    (done : ∀ σ' B' M' H', Le B B' → Hs B' M' H' → I n σ' B' M' → D.nx σ' H') : ForR g tb D σ (ItP G n xs ys) H :=
  v_forW walk_pairs hs hG I h0 (fun i v σ' B' M' H' H'' hi l h x1 y => by
    obtain ⟨T, x, y, rfl, nT, rfl, ex, ey⟩ := y
    obtain ⟨h1, h2⟩ := h.newB nT (.tup [x, y])
    exact step i T x y σ' _ M' _ hi ex ey (l.trans h2) upd_same h1 ⟨B', l, h2, x1⟩) done
theorem v_lcP {G : Hp → Prop} {n : Nat} {xs ys : Nat → Option V} (hs : Hs B M H) (hG : ∀ B' M' H', Le B B' → Hs B' M' H' → G H') (I : Nat → List V → Hp → List (Addr × HO) → Prop) (h0 : I 0 [] B M)
    (step : ∀ i T x y p acc B' M' H', i < n → xs i = some x → ys i = some y → acc.length ≤ i → Le B B' → B' T = some (.tup [x, y]) → Hs B' ((p, .lst acc) :: M') H' → (∃ B2, Le B B2 ∧ Le B2 B' ∧ I i acc B2 M') → g (.ref T) (wipe σ vs) H' fun σ2 H2 => wipe σ2 vs = wipe σ vs ∧ tt σ2 H2 fun b H3 =>
      if b = true then te σ2 H3 (IE B I p (i + 1)) else IP B I p (i + 1) H3)
    (done : ∀ p acc B' M' H', acc.length ≤ n → Le B B' → Hs B' ((p, .lst acc) :: M') H' → I n acc B' M' → Q (.ref p) H') : LcR g tt te vs σ Q (ItP G n xs ys) H :=
  v_lcW walk_pairs hs hG I h0 (fun i v p acc B' M' H' H'' hi ha l h x1 y => by
    obtain ⟨T, x, y, rfl, nT, rfl, ex, ey⟩ := y
    obtain ⟨h1, h2⟩ := h.newB nT (.tup [x, y])
    exact step i T x y p acc _ M' _ hi ex ey ha (l.trans h2) upd_same h1 ⟨B', l, h2, x1⟩) done
/-- a, b = a pair -/
theorem v_gTup2 {i j : Nat} {T : Addr} {x y : V} {q : L2.St → Hp → Prop} (e : SqT K H T [x, y]) (h : gName i x σ H fun σ1 H1 => gName j y σ1 H1 q) : gTup K 2 (gCons (gName i) (gCons (gName j) gNil)) (.ref T) σ H q := ⟨T, [x, y], rfl, e, rfl, x, [y], rfl, show gName i x σ H _ from (h : gName i x σ H fun σ1 H1 => gName j y σ1 H1 q) |> fun z => show (gCons (gName j) gNil [y] (σ.set i (some x)) H q) from ⟨y, [], rfl, show gName j y (σ.set i (some x)) H _ from ⟨rfl, z⟩⟩⟩
end
/-! ### text * int -/
def rRepS : R2 := fun x y H Q => ∃ (z : Str) (n : Int), x = .str z ∧ y = .int n ∧ MulOk z n ∧ Q (.str (Txt.mul z n)) H
theorem op_repS {X : Cx} : OpR X (binaryOp .Mult) rRepS := by
  intro pins s σ H x y v u Q I rx ry h
  obtain ⟨z, n, rfl, rfl, ok, q⟩ := h
  obtain ⟨t, rfl⟩ := rx
  obtain ⟨t2, rfl⟩ := ry
  exact PySem.SB.mul ok fun t' k => ⟨.str (Txt.mul z n), H, I.tok _, ⟨_, rfl⟩, q⟩
/-! ### try -/
def tTryOnly (K : PySem.W.Frag) (c : Value) (tb : WX → TS) (ts : Addr → Value → Option Addr → TS) (Wout : WX) : TS := fun D σ H => tb (wOnly K c ts Wout D) D σ H
def tTryAs (K : PySem.W.Frag) (c : Value) (i : Nat) (tb : WX → TS) (ts : Addr → Value → Option Addr → TS) (Wout : WX) : TS := fun D σ H => tb (wAs K c i ts Wout D) D σ H
theorem takes_none {X : Cx} : L2.Takes X (fun _ _ _ _ => False) := fun _ _ ⟨_, _, _, _, _, _, _, _, _, _, _, _, _, _, _, _, w⟩ => w.elim
theorem xf_of {P : Program} {K : PySem.W.Frag} {C : Addr} {f : Str} {good : Value → Prop} (x : OwnX.OExc P K C f good) : XfC K C := ⟨x.ga, x.gg, x.exC, x.hdC⟩
theorem room70 {k : Nat} {A : Around} (r : Room k A) : A.units + 70 < cLine := by have := r.un; omega
theorem room70m {k : Nat} {A : Around} {hd : Option Value} (r : Room k A) : (A.mark hd).units + 70 < cLine := by
  have := r.un
  show A.units + 70 < cLine
  omega
/-- data that repr shows -/
structure ShowOk (d : PyData) : Prop where
  nd : hasD d = false
  show_ : d.showable = true
  dict : d.hasDict = false
  deep : d.depth ≤ 60
  len : d.shown.length ≤ sizeLine
theorem v_repr {K : PySem.W.Frag} {B H : Hp} {M : List (Addr × HO)} {v : V} {d : PyData} {Q : VK} (hs : Hs B M H) (h : Rp K B v d) (o : ShowOk d) (q : Q (.str d.shown) H) : rRepr K [v] H Q := ⟨v, d, rfl, (hs.r h).dp o.nd, o.show_, o.dict, o.deep, o.len, q⟩
end Sh
set_option Elab.async false
set_option linter.all false
set_option maxRecDepth 100000
namespace K71
open PySem PySem.Spec PyProof.Rows L2 Sh
def topS (i : Nat) : Stmt := PySem.Challenge.pw_saidhere_k71_put_in.main.body.getD i (.Pass ⟨0, 0, 0, 0⟩)
/-! is_integer: slots 0 thing, 1 low, 2 high -/
abbrev s_p_is_integer : Stmt := topS 10
abbrev n_p_is_integer : List Str := ["thing", "low", "high"]
theorem sc_p_is_integer : FnScope n_p_is_integer ["thing", "low", "high"] (defScope s_p_is_integer) := ⟨rfl, rfl, rfl, by decide +kernel, rfl, by decide +kernel, by decide +kernel⟩
/-! is_listed: slots 0 thing -/
abbrev s_p_is_listed : Stmt := topS 11
abbrev n_p_is_listed : List Str := ["thing"]
theorem sc_p_is_listed : FnScope n_p_is_listed ["thing"] (defScope s_p_is_listed) := ⟨rfl, rfl, rfl, by decide +kernel, rfl, by decide +kernel, by decide +kernel⟩
/-! is_alphabet: slots 0 thing, 1 letter, 2 k -/
abbrev s_p_is_alphabet : Stmt := topS 12
abbrev n_p_is_alphabet : List Str := ["thing", "letter", "k"]
theorem sc_p_is_alphabet : FnScope n_p_is_alphabet ["thing"] (defScope s_p_is_alphabet) := ⟨rfl, rfl, rfl, by decide +kernel, rfl, by decide +kernel, by decide +kernel⟩
/-! check_alphabet: slots 0 thing -/
abbrev s_p_check_alphabet : Stmt := topS 13
abbrev n_p_check_alphabet : List Str := ["thing"]
theorem sc_p_check_alphabet : FnScope n_p_check_alphabet ["thing"] (defScope s_p_check_alphabet) := ⟨rfl, rfl, rfl, by decide +kernel, rfl, by decide +kernel, by decide +kernel⟩
/-! is_letter: slots 0 alphabet, 1 thing -/
abbrev s_p_is_letter : Stmt := topS 14
abbrev n_p_is_letter : List Str := ["alphabet", "thing"]
theorem sc_p_is_letter : FnScope n_p_is_letter ["alphabet", "thing"] (defScope s_p_is_letter) := ⟨rfl, rfl, rfl, by decide +kernel, rfl, by decide +kernel, by decide +kernel⟩
/-! is_sheet_like: slots 0 sheet -/
abbrev s_p_is_sheet_like : Stmt := topS 18
abbrev n_p_is_sheet_like : List Str := ["sheet"]
theorem sc_p_is_sheet_like : FnScope n_p_is_sheet_like ["sheet"] (defScope s_p_is_sheet_like) := ⟨rfl, rfl, rfl, by decide +kernel, rfl, by decide +kernel, by decide +kernel⟩
/-! is_worded: slots 0 part -/
abbrev s_p_is_worded : Stmt := topS 19
abbrev n_p_is_worded : List Str := ["part"]
theorem sc_p_is_worded : FnScope n_p_is_worded ["part"] (defScope s_p_is_worded) := ⟨rfl, rfl, rfl, by decide +kernel, rfl, by decide +kernel, by decide +kernel⟩
/-! refers_well: slots 0 part, 1 number, 2 width, 3 one -/
abbrev s_p_refers_well : Stmt := topS 20
abbrev n_p_refers_well : List Str := ["part", "number", "width", "one"]
theorem sc_p_refers_well : FnScope n_p_refers_well ["part", "number", "width"] (defScope s_p_refers_well) := ⟨rfl, rfl, rfl, by decide +kernel, rfl, by decide +kernel, by decide +kernel⟩
/-! is_tense_part: slots 0 alphabet, 1 part, 2 number -/
abbrev s_p_is_tense_part : Stmt := topS 21
abbrev n_p_is_tense_part : List Str := ["alphabet", "part", "number"]
theorem sc_p_is_tense_part : FnScope n_p_is_tense_part ["alphabet", "part", "number"] (defScope s_p_is_tense_part) := ⟨rfl, rfl, rfl, by decide +kernel, rfl, by decide +kernel, by decide +kernel⟩
/-! tense_sheet: slots 0 alphabet, 1 sheet, 2 number, 3 part -/
abbrev s_p_tense_sheet : Stmt := topS 22
abbrev n_p_tense_sheet : List Str := ["alphabet", "sheet", "number", "part"]
theorem sc_p_tense_sheet : FnScope n_p_tense_sheet ["alphabet", "sheet"] (defScope s_p_tense_sheet) := ⟨rfl, rfl, rfl, by decide +kernel, rfl, by decide +kernel, by decide +kernel⟩
/-! referred: slots 0 part -/
abbrev s_p_referred : Stmt := topS 25
abbrev n_p_referred : List Str := ["part"]
theorem sc_p_referred : FnScope n_p_referred ["part"] (defScope s_p_referred) := ⟨rfl, rfl, rfl, by decide +kernel, rfl, by decide +kernel, by decide +kernel⟩
/-! renumbered: slots 0 part, 1 numbers, 2 first, 3 one -/
abbrev s_p_renumbered : Stmt := topS 26
abbrev n_p_renumbered : List Str := ["part", "numbers", "first", "one"]
theorem sc_p_renumbered : FnScope n_p_renumbered ["part", "numbers"] (defScope s_p_renumbered) := ⟨rfl, rfl, rfl, by decide +kernel, rfl, by decide +kernel, by decide +kernel⟩
/-! tidied: slots 0 sheet, 1 last, 2 numbers, 3 places, 4 told, 5 pile, 6 one, 7 waiting, 8 other, 9 part -/
abbrev s_p_tidied : Stmt := topS 27
abbrev n_p_tidied : List Str := ["sheet", "last", "numbers", "places", "told", "pile", "one", "waiting", "other", "part"]
theorem sc_p_tidied : FnScope n_p_tidied ["sheet", "last"] (defScope s_p_tidied) := ⟨rfl, rfl, rfl, by decide +kernel, rfl, by decide +kernel, by decide +kernel⟩
/-! given_sheet: slots 0 alphabet, 1 number, 2 sheet -/
abbrev s_p_given_sheet : Stmt := topS 29
abbrev n_p_given_sheet : List Str := ["alphabet", "number", "sheet"]
theorem sc_p_given_sheet : FnScope n_p_given_sheet ["alphabet", "number", "sheet"] (defScope s_p_given_sheet) := ⟨rfl, rfl, rfl, by decide +kernel, rfl, by decide +kernel, by decide +kernel⟩
/-! put_in: slots 0 alphabet, 1 target, 2 sheets, 3 sheet, 4 given, 5 number, 6 one, 7 kept, 8 parts, 9 lasts, 10 letter, 11 numbers, 12 k, 13 part, 14 told -/
abbrev s_p_put_in : Stmt := topS 30
abbrev n_p_put_in : List Str := ["alphabet", "target", "sheets", "sheet", "given", "number", "one", "kept", "parts", "lasts", "letter", "numbers", "k", "part", "told"]
theorem sc_p_put_in : FnScope n_p_put_in ["alphabet", "target", "sheets", "sheet"] (defScope s_p_put_in) := ⟨rfl, rfl, rfl, by decide +kernel, rfl, by decide +kernel, by decide +kernel⟩
/-! _law_source: slots 0 _law_script, 1 _law_place, 2 _law_cell, 3 _law_seed, 4 _law_one, 5 _law_number -/
abbrev s_source : Stmt := topS 32
abbrev n_source : List Str := ["_law_script", "_law_place", "_law_cell", "_law_seed", "_law_one", "_law_number"]
theorem sc_source : FnScope n_source ["_law_script", "_law_place"] (defScope s_source) := ⟨rfl, rfl, rfl, by decide +kernel, rfl, by decide +kernel, by decide +kernel⟩
/-! _law_pick: slots 0 _law_source_here, 1 _law_many, 2 _law_digit, 3 _law_mixed -/
abbrev s_pick : Stmt := topS 33
abbrev n_pick : List Str := ["_law_source_here", "_law_many", "_law_digit", "_law_mixed"]
theorem sc_pick : FnScope n_pick ["_law_source_here", "_law_many"] (defScope s_pick) := ⟨rfl, rfl, rfl, by decide +kernel, rfl, by decide +kernel, by decide +kernel⟩
/-! _law_word: slots 0 _law_source_here, 1 _law_alphabet, 2 _law_most, 3 _law_size, 4 _law_k -/
abbrev s_word : Stmt := topS 34
abbrev n_word : List Str := ["_law_source_here", "_law_alphabet", "_law_most", "_law_size", "_law_k"]
theorem sc_word : FnScope n_word ["_law_source_here", "_law_alphabet", "_law_most"] (defScope s_word) := ⟨rfl, rfl, rfl, by decide +kernel, rfl, by decide +kernel, by decide +kernel⟩
/-! _law_rows: slots 0 _law_alphabet, 1 _law_most, 2 _law_level, 3 _law_told, 4 _law_k, 5 _law_later, 6 _law_row, 7 _law_letter -/
abbrev s_rows : Stmt := topS 35
abbrev n_rows : List Str := ["_law_alphabet", "_law_most", "_law_level", "_law_told", "_law_k", "_law_later", "_law_row", "_law_letter"]
theorem sc_rows : FnScope n_rows ["_law_alphabet", "_law_most"] (defScope s_rows) := ⟨rfl, rfl, rfl, by decide +kernel, rfl, by decide +kernel, by decide +kernel⟩
/-! _law_tense: slots 0 _law_source_here, 1 _law_alphabet, 2 _law_parts, 3 _law_menu, 4 _law_told, 5 _law_k, 6 _law_way, 7 _law_word_here, 8 _law_one, 9 _law_other -/
abbrev s_tense : Stmt := topS 36
abbrev n_tense : List Str := ["_law_source_here", "_law_alphabet", "_law_parts", "_law_menu", "_law_told", "_law_k", "_law_way", "_law_word_here", "_law_one", "_law_other"]
theorem sc_tense : FnScope n_tense ["_law_source_here", "_law_alphabet", "_law_parts"] (defScope s_tense) := ⟨rfl, rfl, rfl, by decide +kernel, rfl, by decide +kernel, by decide +kernel⟩
/-! _law_tense_lines: slots 0 _law_sheet, 1 _law_row, 2 _law_told, 3 _law_size, 4 _law_part, 5 _law_line, 6 _law_k -/
abbrev s_tense_lines : Stmt := topS 37
abbrev n_tense_lines : List Str := ["_law_sheet", "_law_row", "_law_told", "_law_size", "_law_part", "_law_line", "_law_k"]
theorem sc_tense_lines : FnScope n_tense_lines ["_law_sheet", "_law_row"] (defScope s_tense_lines) := ⟨rfl, rfl, rfl, by decide +kernel, rfl, by decide +kernel, by decide +kernel⟩
/-! _law_tense_holds: slots 0 _law_part, 1 _law_told, 2 _law_row, 3 _law_k, 4 _law_word_here, 5 _law_first, 6 _law_second, 7 _law_m -/
abbrev s_tense_holds : Stmt := topS 38
abbrev n_tense_holds : List Str := ["_law_part", "_law_told", "_law_row", "_law_k", "_law_word_here", "_law_first", "_law_second", "_law_m"]
theorem sc_tense_holds : FnScope n_tense_holds ["_law_part", "_law_told", "_law_row", "_law_k"] (defScope s_tense_holds) := ⟨rfl, rfl, rfl, by decide +kernel, rfl, by decide +kernel, by decide +kernel⟩
/-! _law_put: slots 0 _law_alphabet, 1 _law_target, 2 _law_sheets, 3 _law_sheet, 4 error -/
abbrev s_put : Stmt := topS 39
abbrev n_put : List Str := ["_law_alphabet", "_law_target", "_law_sheets", "_law_sheet", "error"]
theorem sc_put : FnScope n_put ["_law_alphabet", "_law_target", "_law_sheets", "_law_sheet"] (defScope s_put) := ⟨rfl, rfl, rfl, by decide +kernel, rfl, by decide +kernel, by decide +kernel⟩
/-! _law_list: slots 0 _law_sheet, 1 _law_number, 2 _law_letters, 3 _law_told, 4 _law_known, 5 _law_part, 6 _law_given, 7 _law_inner, 8 _law_index, 9 _law_new, 10 _law_one -/
abbrev s_list : Stmt := topS 40
abbrev n_list : List Str := ["_law_sheet", "_law_number", "_law_letters", "_law_told", "_law_known", "_law_part", "_law_given", "_law_inner", "_law_index", "_law_new", "_law_one"]
theorem sc_list : FnScope n_list ["_law_sheet", "_law_number", "_law_letters", "_law_told", "_law_known"] (defScope s_list) := ⟨rfl, rfl, rfl, by decide +kernel, rfl, by decide +kernel, by decide +kernel⟩
/-! _law_put_due: slots 0 _law_target, 1 _law_sheets, 2 _law_sheet, 3 _law_letters, 4 _law_k, 5 _law_told -/
abbrev s_put_due : Stmt := topS 41
abbrev n_put_due : List Str := ["_law_target", "_law_sheets", "_law_sheet", "_law_letters", "_law_k", "_law_told"]
theorem sc_put_due : FnScope n_put_due ["_law_target", "_law_sheets", "_law_sheet"] (defScope s_put_due) := ⟨rfl, rfl, rfl, by decide +kernel, rfl, by decide +kernel, by decide +kernel⟩
/-! _law_put_line: slots 0 _law_target, 1 _law_sheets, 2 _law_sheet, 3 _law_row, 4 _law_lines, 5 _law_one, 6 _law_told, 7 _law_part, 8 _law_k -/
abbrev s_put_line : Stmt := topS 42
abbrev n_put_line : List Str := ["_law_target", "_law_sheets", "_law_sheet", "_law_row", "_law_lines", "_law_one", "_law_told", "_law_part", "_law_k"]
theorem sc_put_line : FnScope n_put_line ["_law_target", "_law_sheets", "_law_sheet", "_law_row"] (defScope s_put_line) := ⟨rfl, rfl, rfl, by decide +kernel, rfl, by decide +kernel, by decide +kernel⟩
/-! _law_spoilt: slots 0 _law_source_here, 1 _law_alphabet, 2 _law_sheet, 3 _law_at, 4 _law_strange, 5 _law_one, 6 _law_double, 7 _law_menu, 8 _law_copied -/
abbrev s_spoilt : Stmt := topS 43
abbrev n_spoilt : List Str := ["_law_source_here", "_law_alphabet", "_law_sheet", "_law_at", "_law_strange", "_law_one", "_law_double", "_law_menu", "_law_copied"]
theorem sc_spoilt : FnScope n_spoilt ["_law_source_here", "_law_alphabet", "_law_sheet"] (defScope s_spoilt) := ⟨rfl, rfl, rfl, by decide +kernel, rfl, by decide +kernel, by decide +kernel⟩
/-! _law_put_refused: slots 0 _law_source_here, 1 _law_alphabet, 2 _law_target, 3 _law_sheets, 4 _law_sheet, 5 _law_odd, 6 _law_k, 7 _law_spoilt_here, 8 _law_whole, 9 _law_bad, 10 _law_number, 11 _law_asked, 12 _law_given, 13 _law_due -/
abbrev s_put_refused : Stmt := topS 44
abbrev n_put_refused : List Str := ["_law_source_here", "_law_alphabet", "_law_target", "_law_sheets", "_law_sheet", "_law_odd", "_law_k", "_law_spoilt_here", "_law_whole", "_law_bad", "_law_number", "_law_asked", "_law_given", "_law_due"]
theorem sc_put_refused : FnScope n_put_refused ["_law_source_here", "_law_alphabet", "_law_target", "_law_sheets", "_law_sheet"] (defScope s_put_refused) := ⟨rfl, rfl, rfl, by decide +kernel, rfl, by decide +kernel, by decide +kernel⟩
/-! _law_chains: slots 0 _law_alphabet, 1 _law_target, 2 _law_more, 3 _law_given, 4 _law_k, 5 _law_sheet, 6 _law_sheets, 7 _law_letter, 8 _law_kind, 9 _law_told, 10 _law_longer -/
abbrev s_chains : Stmt := topS 45
abbrev n_chains : List Str := ["_law_alphabet", "_law_target", "_law_more", "_law_given", "_law_k", "_law_sheet", "_law_sheets", "_law_letter", "_law_kind", "_law_told", "_law_longer"]
theorem sc_chains : FnScope n_chains ["_law_alphabet", "_law_target", "_law_more"] (defScope s_chains) := ⟨rfl, rfl, rfl, by decide +kernel, rfl, by decide +kernel, by decide +kernel⟩
/-! law: slots 0 _law_script, 1 _law_source_here, 2 _law_names, 3 _law_alphabet, 4 _law_target, 5 _law_other, 6 _law_sheets, 7 _law_letter, 8 _law_third, 9 _law_sheet, 10 _law_due, 11 _law_part, 12 _law_one, 13 _law_before, 14 _law_rows_here, 15 _law_row, 16 _law_rare -/
abbrev s_law : Stmt := topS 46
abbrev n_law : List Str := ["_law_script", "_law_source_here", "_law_names", "_law_alphabet", "_law_target", "_law_other", "_law_sheets", "_law_letter", "_law_third", "_law_sheet", "_law_due", "_law_part", "_law_one", "_law_before", "_law_rows_here", "_law_row", "_law_rare"]
theorem sc_law : FnScope n_law ["_law_script"] (defScope s_law) := ⟨rfl, rfl, rfl, by decide +kernel, rfl, by decide +kernel, by decide +kernel⟩
/-- what a written dict tells of a key -/
def KdAt (K : PySem.W.Frag) (d : Addr) (z : Str) (r : Option Int) : Prop := match r with
  | some i => ∃ t, PySem.W.nsIn K d z = some (some (.int i t))
  | none => PySem.W.nsIn K d z = some none
def widthO : List (Str × Option Int) := [("yes", some 0), ("no", some 0), ("not", some 1), ("and", some 2), ("or", some 2), ("next", some 1), ("prev", some 1), ("until", some 2), ("since", some 2), ("letter", none), ("some", none)]
def referO : List (Str × Option Int) := [("yes", none), ("no", none), ("letter", none), ("not", some 1), ("and", some 1), ("or", some 1), ("next", some 1), ("prev", some 1), ("until", some 1), ("since", some 1)]
/-- what the top has left -/
structure Txt (K : PySem.W.Frag) (mg : Str → Option Value) (w : World) where
  a_p_is_integer : Addr
  fd_p_is_integer : FuncData
  F_p_is_integer : Fun K "is_integer" "is_integer" s_p_is_integer a_p_is_integer fd_p_is_integer
  g_p_is_integer : mg "is_integer" = some (.ref a_p_is_integer)
  b_p_is_integer : Binds K fd_p_is_integer ["thing", "low", "high"] []
  a_p_is_listed : Addr
  fd_p_is_listed : FuncData
  F_p_is_listed : Fun K "is_listed" "is_listed" s_p_is_listed a_p_is_listed fd_p_is_listed
  g_p_is_listed : mg "is_listed" = some (.ref a_p_is_listed)
  b_p_is_listed : Binds K fd_p_is_listed ["thing"] []
  a_p_is_alphabet : Addr
  fd_p_is_alphabet : FuncData
  F_p_is_alphabet : Fun K "is_alphabet" "is_alphabet" s_p_is_alphabet a_p_is_alphabet fd_p_is_alphabet
  g_p_is_alphabet : mg "is_alphabet" = some (.ref a_p_is_alphabet)
  b_p_is_alphabet : Binds K fd_p_is_alphabet ["thing"] []
  a_p_check_alphabet : Addr
  fd_p_check_alphabet : FuncData
  F_p_check_alphabet : Fun K "check_alphabet" "check_alphabet" s_p_check_alphabet a_p_check_alphabet fd_p_check_alphabet
  g_p_check_alphabet : mg "check_alphabet" = some (.ref a_p_check_alphabet)
  b_p_check_alphabet : Binds K fd_p_check_alphabet ["thing"] []
  a_p_is_letter : Addr
  fd_p_is_letter : FuncData
  F_p_is_letter : Fun K "is_letter" "is_letter" s_p_is_letter a_p_is_letter fd_p_is_letter
  g_p_is_letter : mg "is_letter" = some (.ref a_p_is_letter)
  b_p_is_letter : Binds K fd_p_is_letter ["alphabet", "thing"] []
  a_p_is_sheet_like : Addr
  fd_p_is_sheet_like : FuncData
  F_p_is_sheet_like : Fun K "is_sheet_like" "is_sheet_like" s_p_is_sheet_like a_p_is_sheet_like fd_p_is_sheet_like
  g_p_is_sheet_like : mg "is_sheet_like" = some (.ref a_p_is_sheet_like)
  b_p_is_sheet_like : Binds K fd_p_is_sheet_like ["sheet"] []
  a_p_is_worded : Addr
  fd_p_is_worded : FuncData
  F_p_is_worded : Fun K "is_worded" "is_worded" s_p_is_worded a_p_is_worded fd_p_is_worded
  g_p_is_worded : mg "is_worded" = some (.ref a_p_is_worded)
  b_p_is_worded : Binds K fd_p_is_worded ["part"] []
  a_p_refers_well : Addr
  fd_p_refers_well : FuncData
  F_p_refers_well : Fun K "refers_well" "refers_well" s_p_refers_well a_p_refers_well fd_p_refers_well
  g_p_refers_well : mg "refers_well" = some (.ref a_p_refers_well)
  b_p_refers_well : Binds K fd_p_refers_well ["part", "number", "width"] []
  a_p_is_tense_part : Addr
  fd_p_is_tense_part : FuncData
  F_p_is_tense_part : Fun K "is_tense_part" "is_tense_part" s_p_is_tense_part a_p_is_tense_part fd_p_is_tense_part
  g_p_is_tense_part : mg "is_tense_part" = some (.ref a_p_is_tense_part)
  b_p_is_tense_part : Binds K fd_p_is_tense_part ["alphabet", "part", "number"] []
  a_p_tense_sheet : Addr
  fd_p_tense_sheet : FuncData
  F_p_tense_sheet : Fun K "tense_sheet" "tense_sheet" s_p_tense_sheet a_p_tense_sheet fd_p_tense_sheet
  g_p_tense_sheet : mg "tense_sheet" = some (.ref a_p_tense_sheet)
  b_p_tense_sheet : Binds K fd_p_tense_sheet ["alphabet", "sheet"] []
  a_p_referred : Addr
  fd_p_referred : FuncData
  F_p_referred : Fun K "referred" "referred" s_p_referred a_p_referred fd_p_referred
  g_p_referred : mg "referred" = some (.ref a_p_referred)
  b_p_referred : Binds K fd_p_referred ["part"] []
  a_p_renumbered : Addr
  fd_p_renumbered : FuncData
  F_p_renumbered : Fun K "renumbered" "renumbered" s_p_renumbered a_p_renumbered fd_p_renumbered
  g_p_renumbered : mg "renumbered" = some (.ref a_p_renumbered)
  b_p_renumbered : Binds K fd_p_renumbered ["part", "numbers"] []
  a_p_tidied : Addr
  fd_p_tidied : FuncData
  F_p_tidied : Fun K "tidied" "tidied" s_p_tidied a_p_tidied fd_p_tidied
  g_p_tidied : mg "tidied" = some (.ref a_p_tidied)
  b_p_tidied : Binds K fd_p_tidied ["sheet", "last"] []
  a_p_given_sheet : Addr
  fd_p_given_sheet : FuncData
  F_p_given_sheet : Fun K "given_sheet" "given_sheet" s_p_given_sheet a_p_given_sheet fd_p_given_sheet
  g_p_given_sheet : mg "given_sheet" = some (.ref a_p_given_sheet)
  b_p_given_sheet : Binds K fd_p_given_sheet ["alphabet", "number", "sheet"] []
  a_p_put_in : Addr
  fd_p_put_in : FuncData
  F_p_put_in : Fun K "put_in" "put_in" s_p_put_in a_p_put_in fd_p_put_in
  g_p_put_in : mg "put_in" = some (.ref a_p_put_in)
  b_p_put_in : Binds K fd_p_put_in ["alphabet", "target", "sheets", "sheet"] []
  a_source : Addr
  fd_source : FuncData
  F_source : Fun K "_law_source" "_law_source" s_source a_source fd_source
  g_source : mg "_law_source" = some (.ref a_source)
  b_source : Binds K fd_source ["_law_script", "_law_place"] []
  a_pick : Addr
  fd_pick : FuncData
  F_pick : Fun K "_law_pick" "_law_pick" s_pick a_pick fd_pick
  g_pick : mg "_law_pick" = some (.ref a_pick)
  b_pick : Binds K fd_pick ["_law_source_here", "_law_many"] []
  a_word : Addr
  fd_word : FuncData
  F_word : Fun K "_law_word" "_law_word" s_word a_word fd_word
  g_word : mg "_law_word" = some (.ref a_word)
  b_word : Binds K fd_word ["_law_source_here", "_law_alphabet", "_law_most"] []
  a_rows : Addr
  fd_rows : FuncData
  F_rows : Fun K "_law_rows" "_law_rows" s_rows a_rows fd_rows
  g_rows : mg "_law_rows" = some (.ref a_rows)
  b_rows : Binds K fd_rows ["_law_alphabet", "_law_most"] []
  a_tense : Addr
  fd_tense : FuncData
  F_tense : Fun K "_law_tense" "_law_tense" s_tense a_tense fd_tense
  g_tense : mg "_law_tense" = some (.ref a_tense)
  b_tense : Binds K fd_tense ["_law_source_here", "_law_alphabet", "_law_parts"] []
  a_tense_lines : Addr
  fd_tense_lines : FuncData
  F_tense_lines : Fun K "_law_tense_lines" "_law_tense_lines" s_tense_lines a_tense_lines fd_tense_lines
  g_tense_lines : mg "_law_tense_lines" = some (.ref a_tense_lines)
  b_tense_lines : Binds K fd_tense_lines ["_law_sheet", "_law_row"] []
  a_tense_holds : Addr
  fd_tense_holds : FuncData
  F_tense_holds : Fun K "_law_tense_holds" "_law_tense_holds" s_tense_holds a_tense_holds fd_tense_holds
  g_tense_holds : mg "_law_tense_holds" = some (.ref a_tense_holds)
  b_tense_holds : Binds K fd_tense_holds ["_law_part", "_law_told", "_law_row", "_law_k"] []
  a_put : Addr
  fd_put : FuncData
  F_put : Fun K "_law_put" "_law_put" s_put a_put fd_put
  g_put : mg "_law_put" = some (.ref a_put)
  b_put : Binds K fd_put ["_law_alphabet", "_law_target", "_law_sheets", "_law_sheet"] []
  a_list : Addr
  fd_list : FuncData
  F_list : Fun K "_law_list" "_law_list" s_list a_list fd_list
  g_list : mg "_law_list" = some (.ref a_list)
  b_list : Binds K fd_list ["_law_sheet", "_law_number", "_law_letters", "_law_told", "_law_known"] []
  a_put_due : Addr
  fd_put_due : FuncData
  F_put_due : Fun K "_law_put_due" "_law_put_due" s_put_due a_put_due fd_put_due
  g_put_due : mg "_law_put_due" = some (.ref a_put_due)
  b_put_due : Binds K fd_put_due ["_law_target", "_law_sheets", "_law_sheet"] []
  a_put_line : Addr
  fd_put_line : FuncData
  F_put_line : Fun K "_law_put_line" "_law_put_line" s_put_line a_put_line fd_put_line
  g_put_line : mg "_law_put_line" = some (.ref a_put_line)
  b_put_line : Binds K fd_put_line ["_law_target", "_law_sheets", "_law_sheet", "_law_row"] []
  a_spoilt : Addr
  fd_spoilt : FuncData
  F_spoilt : Fun K "_law_spoilt" "_law_spoilt" s_spoilt a_spoilt fd_spoilt
  g_spoilt : mg "_law_spoilt" = some (.ref a_spoilt)
  b_spoilt : Binds K fd_spoilt ["_law_source_here", "_law_alphabet", "_law_sheet"] []
  a_put_refused : Addr
  fd_put_refused : FuncData
  F_put_refused : Fun K "_law_put_refused" "_law_put_refused" s_put_refused a_put_refused fd_put_refused
  g_put_refused : mg "_law_put_refused" = some (.ref a_put_refused)
  b_put_refused : Binds K fd_put_refused ["_law_source_here", "_law_alphabet", "_law_target", "_law_sheets", "_law_sheet"] []
  a_chains : Addr
  fd_chains : FuncData
  F_chains : Fun K "_law_chains" "_law_chains" s_chains a_chains fd_chains
  g_chains : mg "_law_chains" = some (.ref a_chains)
  b_chains : Binds K fd_chains ["_law_alphabet", "_law_target", "_law_more"] []
  a_law : Addr
  fd_law : FuncData
  F_law : Fun K "law" "law" s_law a_law fd_law
  g_law : mg "law" = some (.ref a_law)
  b_law : Binds K fd_law ["_law_script"] []
  free_len : mg "len" = none
  free_range : mg "range" = none
  free_int : mg "int" = none
  free_str : mg "str" = none
  free_bool : mg "bool" = none
  free_list : mg "list" = none
  free_tuple : mg "tuple" = none
  free_isinstance : mg "isinstance" = none
  free_abs : mg "abs" = none
  free_all : mg "all" = none
  free_any : mg "any" = none
  free_repr : mg "repr" = none
  free_enumerate : mg "enumerate" = none
  free_zip : mg "zip" = none
  free_super : mg "super" = none
  t_LETTERS : Tok
  c_LETTERS : mg "LETTERS" = some (.str "abcdefgh" t_LETTERS)
  t_MOST : Tok
  c_MOST : mg "MOST_PARTS" = some (.int 6000 t_MOST)
  a_WIDTHS : Addr
  g_WIDTHS : mg "WIDTHS" = some (.ref a_WIDTHS)
  e_WIDTHS : Array DictEntry
  n_WIDTHS : Nat
  d_WIDTHS : KDict K w a_WIDTHS e_WIDTHS n_WIDTHS
  widths : ∀ p ∈ widthO, KdAt K a_WIDTHS p.1 p.2
  a_REF : Addr
  g_REF : mg "REFERRING" = some (.ref a_REF)
  e_REF : Array DictEntry
  n_REF : Nat
  d_REF : KDict K w a_REF e_REF n_REF
  refers : ∀ p ∈ referO, KdAt K a_REF p.1 p.2
  a_SaidError : Addr
  g_SaidError : mg "SaidError" = some (.ref a_SaidError)
  a_WrongThing : Addr
  g_WrongThing : mg "WrongThing" = some (.ref a_WrongThing)
  a_WrongItem : Addr
  g_WrongItem : mg "WrongItem" = some (.ref a_WrongItem)
  a_BadAlphabet : Addr
  g_BadAlphabet : mg "BadAlphabet" = some (.ref a_BadAlphabet)
  a_BadSheet : Addr
  g_BadSheet : mg "BadSheet" = some (.ref a_BadSheet)
  a_BadSheets : Addr
  g_BadSheets : mg "BadSheets" = some (.ref a_BadSheets)
  a_TooMany : Addr
  g_TooMany : mg "TooMany" = some (.ref a_TooMany)
/-- the own errors, as the program has them -/
structure TxtX {K : PySem.W.Frag} {mg : Str → Option Value} {w : World} (T : Txt K mg w) (P : Program) : Prop where
  x_BadAlphabet : OwnX.OExc P K T.a_BadAlphabet "thing" (fun _ => True)
  x_BadSheet : OwnX.OExc P K T.a_BadSheet "number" OwnX.goodI
  x_BadSheets : OwnX.OExc P K T.a_BadSheets "number" OwnX.goodI
  x_TooMany : OwnX.OExc P K T.a_TooMany "word" OwnX.goodS
  c_BadAlphabet : ExcC K T.a_BadAlphabet
  c_BadSheet : ExcC K T.a_BadSheet
  c_BadSheets : ExcC K T.a_BadSheets
  c_TooMany : ExcC K T.a_TooMany
  said : ∀ C ∈ [T.a_BadAlphabet, T.a_BadSheet, T.a_BadSheets, T.a_TooMany], PySem.W.exmOne K (.ref C) (.ref T.a_SaidError) = some true
  sheet : ∀ p ∈ [(T.a_BadAlphabet, false), (T.a_BadSheet, true)], PySem.W.exmOne K (.ref p.1) (.ref T.a_BadSheet) = some p.2
  kits : ∀ p ∈ [(T.a_BadAlphabet, T.a_WrongThing, true), (T.a_BadAlphabet, T.a_BadAlphabet, true), (T.a_BadSheet, T.a_WrongThing, false), (T.a_BadSheet, T.a_BadSheets, false), (T.a_BadSheet, T.a_BadSheet, true), (T.a_BadSheet, T.a_WrongItem, true),
    (T.a_BadSheets, T.a_WrongThing, false), (T.a_BadSheets, T.a_BadSheets, true), (T.a_BadSheets, T.a_WrongItem, true), (T.a_TooMany, T.a_WrongThing, false), (T.a_TooMany, T.a_BadSheets, false), (T.a_TooMany, T.a_BadSheet, false), (T.a_TooMany, T.a_TooMany, true)],
    PySem.W.kitOne K (.ref p.1) (.ref p.2.1) = some p.2.2
end K71
set_option Elab.async false
set_option linter.all false
set_option maxRecDepth 100000
set_option maxHeartbeats 4000000
namespace K71
open PySem PySem.Spec PyProof.Rows L2 Sh
open SX (S)
local macro_rules | `(tactic| walk_at "v1") => `(tactic| first
  | with_reducible refine v_seq ?_ | with_reducible refine v_asg ?_ | ((with_reducible refine' v_name ?e ?_); (case e => exact rfl)) | with_reducible refine v_ret ?_ | with_reducible refine v_drop ?_ | with_reducible refine v_next ?_
  | with_reducible refine v_if ?_ | with_reducible refine v_op ?_ | with_reducible refine v_c ?_ | ((with_reducible refine' v_var ?e ?_); (case e => exact rfl))
  | with_reducible refine v_I0 ?_ | with_reducible refine v_test ?_ | with_reducible refine v_B ?_ | with_reducible refine v_bl ?_ | with_reducible refine v_not ?_ | with_reducible refine v_and ?_ | with_reducible refine v_or ?_
  | with_reducible refine v_andV ?_ | with_reducible refine v_orV ?_ | with_reducible refine v_notV ?_ | with_reducible refine v_ife ?_
  | with_reducible refine v_nil ?_ | with_reducible refine v_cons ?_ | with_reducible refine v_tup ?_ | with_reducible refine v_lst ?_ | with_reducible refine v_call ?_ | with_reducible refine v_cb ?_ | with_reducible refine v_int ?_ | with_reducible refine v_abs ?_
  | ((with_reducible refine' v_eq ?e ?_); (case e => exact rfl)) | ((with_reducible refine' v_ne ?e ?_); (case e => exact rfl)) | with_reducible refine v_sub ?_ | with_reducible refine v_isN ?_ | with_reducible refine v_notN ?_
  | with_reducible refine v_part ?_ | with_reducible refine v_nopart ?_ | with_reducible refine v_pint ?_ | with_reducible refine v_inSg ?_ | with_reducible refine v_notInSg ?_
  | ((with_reducible refine' v_ixL ?l ?a ?_); (case l => assumption); (case a => exact at_lit _ rfl)) | ((with_reducible refine' v_ixT ?l ?a ?_); (case l => assumption); (case a => exact at_lit _ rfl))
  | ((with_reducible refine v_I ?c ?_); (case c => (first | omega | (unfold CMul; omega) | (unfold CDivN; omega) | (unfold CPow; omega))))
  | with_reducible refine v_for ?_ | with_reducible refine v_iList ?_ | with_reducible refine v_iTup ?_ | with_reducible refine v_iStr ?_ | with_reducible refine v_iR1 ?_ | with_reducible refine v_iR2 ?_ | with_reducible refine v_atS ?_ | with_reducible refine v_sl ?_ | with_reducible refine v_lc ?_ | with_reducible refine v_yes ?_
  | with_reducible refine v_m1 ?_ | with_reducible refine v_m1S ?_ | with_reducible refine v_bm ?_ | with_reducible refine v_bm0 ?_ | with_reducible refine v_dnewK ?_ | with_reducible refine v_dnewT ?_ | with_reducible refine v_dget ?_ | with_reducible refine v_din ?_ | with_reducible refine v_dnotin ?_ | with_reducible refine v_dput ?_ | with_reducible refine v_chain ?_ | with_reducible refine v_un ?_ | with_reducible refine v_neg ?_
  | with_reducible refine v_brk ?_ | with_reducible refine v_cont ?_)
local macro_rules | `(tactic| walk_at "v") => `(tactic| repeat (walk_at "v1"))
local macro_rules | `(tactic| walk_at "vm") => `(tactic| repeat (first | ((with_reducible refine v_modP ?c ?_); (case c => omega); (intro _ _ _)) | walk_at "v1"))
local macro_rules | `(tactic| walk_at "iv") => `(tactic| (try dsimp only; refine IV.mk (by assumption) (by assumption) ?_))
local macro_rules | `(tactic| walk_at "n") => `(tactic| dsimp only [List.set_cons_zero, List.set_cons_succ])
/-! ### is_integer -/
def isIntIn (lo hi : Int) : PyData → Bool
  | .int i => decide (lo ≤ i) && decide (i ≤ hi)
  | _ => false
def sp_p_is_integer (K : PySem.W.Frag) : Sp := fun vs H Q _ => ∃ (v : V) (d : PyData) (lo hi : Int), vs = [v, .int lo, .int hi] ∧ Rp K H v d ∧ Q (.bl (isIntIn lo hi d)) H
def t_p_is_integer (K : PySem.W.Frag) : TS := (tRet (tAndV (tCB (rIsi K) (tCons (tVar 0) (tCons (tC (.ty "int")) tNil))) (tAndV (tNotV (tCB (rIsi K) (tCons (tVar 0) (tCons (tC (.ty "bool")) tNil)))) (tChain rLeI rLeI (tVar 1) (tVar 0) (tVar 2)))))
theorem pure_p_is_integer {K : PySem.W.Frag} (vs : List V) (H : Hp) (Q : VK) (E : XK) (h : sp_p_is_integer K vs H Q E) : t_p_is_integer K { nx := fun _ H' => Q .non H', rt := Q } (start n_p_is_integer vs) H := by
  obtain ⟨v, d, lo, hi, rfl, hv, q⟩ := h
  show t_p_is_integer K _ [some v, some (V.int lo), some (V.int hi)] H
  unfold t_p_is_integer
  walk_at "v"
  refine v_isiI hv ?_
  walk_at "v"
  cases d with
  | int i =>
    cases hv
    refine iteT' rfl ?_
    walk_at "v"
    refine v_isiB (.int i) ?_
    walk_at "v"
    refine iteT' rfl ?_
    walk_at "v"
    refine ite2 (fun c0 => ?_) (fun c0 => ?_)
    · walk_at "v"
      have e : isIntIn lo hi (.int i) = decide (i ≤ hi) := by
        show (decide (lo ≤ i) && decide (i ≤ hi)) = _
        rw [c0, Bool.true_and]
      rw [← e]
      exact q
    · have e : isIntIn lo hi (.int i) = false := by
        show (decide (lo ≤ i) && decide (i ≤ hi)) = _
        rw [Bool.eq_false_iff.mpr c0, Bool.false_and]
      rw [← e]
      exact q
  | bool b =>
    refine iteT' rfl ?_
    walk_at "v"
    refine v_isiB hv ?_
    walk_at "v"
    exact iteF' rfl q
  | none => exact iteF' rfl q
  | str x => exact iteF' rfl q
  | list x => exact iteF' rfl q
  | tuple x => exact iteF' rfl q
  | dict x => exact iteF' rfl q
/-! ### is_listed -/
def sp_p_is_listed (K : PySem.W.Frag) : Sp := fun vs H Q _ => ∃ (B : Hp) (M : List (Addr × HO)) (v : V) (d : PyData), vs = [v] ∧ Hs B M H ∧ Rp K B v d ∧ ∀ (B' H' : Hp), Le B B' → Hs B' M H' → Q (.bl (isLT d)) H'
def t_p_is_listed (K : PySem.W.Frag) : TS := (tRet (tCB (rIsiT K) (tCons (tVar 0) (tCons (tTup (tCons (tC (.ty "tuple")) (tCons (tC (.ty "list")) tNil))) tNil))))
theorem pure_p_is_listed {K : PySem.W.Frag} (vs : List V) (H : Hp) (Q : VK) (E : XK) (h : sp_p_is_listed K vs H Q E) : t_p_is_listed K { nx := fun _ H' => Q .non H', rt := Q } (start n_p_is_listed vs) H := by
  obtain ⟨B, M, v, d, rfl, hs, hv, q⟩ := h
  show t_p_is_listed K _ [some v] H
  unfold t_p_is_listed
  walk_at "v"
  refine v_size (by show 2 ≤ sizeLine; decide) (v_newB hs fun t B1 H1 l1 hs1 e1 => ?_)
  walk_at "v"
  refine v_isiT (hs1.sub _ _ e1) (hs1.r (hv.up l1)) ?_
  exact q _ _ l1 hs1
/-! ### is_letter -/
def isLetterD (al : List Nat) : PyData → Bool
  | .str z => decide (z.length = 1) && z.cps.toList.all fun c => decide (c ∈ al)
  | _ => false
def sp_p_is_letter (K : PySem.W.Frag) : Sp := fun vs H Q _ => ∃ (v : V) (d : PyData) (al : List Nat), vs = [.str (S al), v] ∧ Rp K H v d ∧ (∀ z, d = .str z → z.length ≤ 1000000) ∧ Q (.bl (isLetterD al d)) H
def t_p_is_letter (K : PySem.W.Frag) : TS := (tRet (tAndV (tCB (rIsi K) (tCons (tVar 1) (tCons (tC (.ty "str")) tNil))) (tAndV (tOp rEq (tCB (rCLen K) (tCons (tVar 1) tNil)) (tC (.int 1))) (tOp rInSg (tVar 1) (tVar 0)))))
theorem pure_p_is_letter {K : PySem.W.Frag} (vs : List V) (H : Hp) (Q : VK) (E : XK) (h : sp_p_is_letter K vs H Q E) : t_p_is_letter K { nx := fun _ H' => Q .non H', rt := Q } (start n_p_is_letter vs) H := by
  obtain ⟨v, d, al, rfl, hv, hz, q⟩ := h
  show t_p_is_letter K _ [some (V.str (S al)), some v] H
  unfold t_p_is_letter
  walk_at "v"
  refine v_isiS hv ?_
  walk_at "v"
  cases d with
  | str z =>
    cases hv
    refine iteT' rfl ?_
    walk_at "v"
    refine v_lenS (sz_of (hz z rfl)) ?_
    walk_at "v"
    have e0 : decide (V.int (z.length : Nat) = V.int 1) = decide (z.length = 1) := decide_eq_decide.mpr ⟨fun e => by injection e with e; omega, fun e => by rw [e]; rfl⟩
    rw [e0]
    refine ite2 (fun c0 => ?_) (fun c0 => ?_)
    · have c1 := of_decide_eq_true c0
      obtain ⟨c, hc⟩ : ∃ c, z = S [c] := by
        have e1 : z.cps.toList.length = 1 := c1
        match h : z.cps.toList with
        | [c] => exact ⟨c, by rw [← SX.S_tl z, h]⟩
        | [] => rw [h] at e1; cases e1
        | _ :: _ :: _ => rw [h] at e1; simp at e1
      subst hc
      walk_at "v"
      have e : isLetterD al (.str (S [c])) = decide (c ∈ (S al).cps.toList) := by
        show (decide ((S [c]).length = 1) && _) = _
        rw [c0, Bool.true_and]
        simp
      rw [← e]
      exact q
    · have e : isLetterD al (.str z) = false := by
        show (decide (z.length = 1) && _) = _
        rw [Bool.eq_false_iff.mpr c0, Bool.false_and]
      rw [← e]
      exact q
  | bool b => exact iteF' rfl q
  | none => exact iteF' rfl q
  | int x => exact iteF' rfl q
  | list x => exact iteF' rfl q
  | tuple x => exact iteF' rfl q
  | dict x => exact iteF' rfl q
section
variable {P : Program} {w : World} {K : PySem.W.Frag} {mg : Str → Option Value} {base : Heap}
theorem ok_p_is_integer (T : Txt K mg w) : FnOk P w K mg base CX0 1 T.a_p_is_integer T.fd_p_is_integer ["thing", "low", "high"] (sp_p_is_integer K) := by
  refine T.F_p_is_integer.ok sc_p_is_integer (fun vs H Q E h => ?_) (fun cdv A outer s H vs Q E hr h => ⟨t_p_is_integer K, ?_, pure_p_is_integer vs H Q E h⟩)
  · obtain ⟨v, d, lo, hi, rfl, _⟩ := h
    rfl
  · exact (pss_one (ps_ret (pe_and (pe_callB call_isi (by rfl) (T.free_isinstance) PyProof.Rows.boot_isinstance (pa_cons (pv 0) (pa_cons (pe_bltn (by rfl) (T.free_int) (by decide +kernel) rfl) pa_nil))) (pe_and (pe_not (pe_callB call_isi (by rfl) (T.free_isinstance) PyProof.Rows.boot_isinstance (pa_cons (pv 0) (pa_cons (pe_bltn (by rfl) (T.free_bool) (by decide +kernel) rfl) pa_nil)))) (pe_one (pe_chain op_le op_le (pv 1) (pv 0) (pv 2)))))))
theorem ok_p_is_listed (T : Txt K mg w) : FnOk P w K mg base CX0 1 T.a_p_is_listed T.fd_p_is_listed ["thing"] (sp_p_is_listed K) := by
  refine T.F_p_is_listed.ok sc_p_is_listed (fun vs H Q E h => ?_) (fun cdv A outer s H vs Q E hr h => ⟨t_p_is_listed K, ?_, pure_p_is_listed vs H Q E h⟩)
  · obtain ⟨B, M, v, d, rfl, _⟩ := h
    rfl
  · exact (pss_one (ps_ret (pe_callB call_isiT (by rfl) (T.free_isinstance) PyProof.Rows.boot_isinstance (pa_cons (pv 0) (pa_cons (pe_tup (pa_cons (pe_bltn (by rfl) (T.free_tuple) (by decide +kernel) rfl) (pa_cons (pe_bltn (by rfl) (T.free_list) (by decide +kernel) rfl) pa_nil))) pa_nil)))))
theorem ok_p_is_letter (T : Txt K mg w) : FnOk P w K mg base CX0 1 T.a_p_is_letter T.fd_p_is_letter ["alphabet", "thing"] (sp_p_is_letter K) := by
  refine T.F_p_is_letter.ok sc_p_is_letter (fun vs H Q E h => ?_) (fun cdv A outer s H vs Q E hr h => ⟨t_p_is_letter K, ?_, pure_p_is_letter vs H Q E h⟩)
  · obtain ⟨v, d, al, rfl, _⟩ := h
    rfl
  · exact (pss_one (ps_ret (pe_and (pe_callB call_isi (by rfl) (T.free_isinstance) PyProof.Rows.boot_isinstance (pa_cons (pv 1) (pa_cons (pe_bltn (by rfl) (T.free_str) (by decide +kernel) rfl) pa_nil))) (pe_and (pe_cmpR op_eq (pe_callB call_len (by rfl) (T.free_len) (by decide +kernel) (pa_cons (pv 1) pa_nil)) pe_int (nomark _)) (pe_one (pe_cmpR op_in_sign (pv 1) (pv 0) (by rfl)))))))
end
end K71
set_option Elab.async false
set_option linter.all false
set_option maxRecDepth 100000
set_option maxHeartbeats 4000000
namespace K71
open PySem PySem.Spec PyProof.Rows L2 Sh
open SX (S)
local macro_rules | `(tactic| walk_at "v1") => `(tactic| first
  | with_reducible refine v_seq ?_ | with_reducible refine v_asg ?_ | ((with_reducible refine' v_name ?e ?_); (case e => exact rfl)) | with_reducible refine v_ret ?_ | with_reducible refine v_drop ?_ | with_reducible refine v_next ?_
  | with_reducible refine v_if ?_ | with_reducible refine v_op ?_ | with_reducible refine v_c ?_ | ((with_reducible refine' v_var ?e ?_); (case e => exact rfl))
  | with_reducible refine v_I0 ?_ | with_reducible refine v_test ?_ | with_reducible refine v_B ?_ | with_reducible refine v_bl ?_ | with_reducible refine v_not ?_ | with_reducible refine v_and ?_ | with_reducible refine v_or ?_
  | with_reducible refine v_andV ?_ | with_reducible refine v_orV ?_ | with_reducible refine v_notV ?_ | with_reducible refine v_ife ?_
  | with_reducible refine v_nil ?_ | with_reducible refine v_cons ?_ | with_reducible refine v_tup ?_ | with_reducible refine v_lst ?_ | with_reducible refine v_call ?_ | with_reducible refine v_cb ?_ | with_reducible refine v_int ?_ | with_reducible refine v_abs ?_
  | ((with_reducible refine' v_eq ?e ?_); (case e => exact rfl)) | ((with_reducible refine' v_ne ?e ?_); (case e => exact rfl)) | with_reducible refine v_sub ?_ | with_reducible refine v_isN ?_ | with_reducible refine v_notN ?_
  | with_reducible refine v_part ?_ | with_reducible refine v_nopart ?_ | with_reducible refine v_pint ?_ | with_reducible refine v_inSg ?_ | with_reducible refine v_notInSg ?_
  | ((with_reducible refine' v_ixL ?l ?a ?_); (case l => assumption); (case a => exact at_lit _ rfl)) | ((with_reducible refine' v_ixT ?l ?a ?_); (case l => assumption); (case a => exact at_lit _ rfl))
  | ((with_reducible refine v_I ?c ?_); (case c => (first | omega | (unfold CMul; omega) | (unfold CDivN; omega) | (unfold CPow; omega))))
  | with_reducible refine v_for ?_ | with_reducible refine v_iList ?_ | with_reducible refine v_iTup ?_ | with_reducible refine v_iStr ?_ | with_reducible refine v_iR1 ?_ | with_reducible refine v_iR2 ?_ | with_reducible refine v_atS ?_ | with_reducible refine v_sl ?_ | with_reducible refine v_lc ?_ | with_reducible refine v_yes ?_
  | with_reducible refine v_m1 ?_ | with_reducible refine v_m1S ?_ | with_reducible refine v_bm ?_ | with_reducible refine v_bm0 ?_ | with_reducible refine v_dnewK ?_ | with_reducible refine v_dnewT ?_ | with_reducible refine v_dget ?_ | with_reducible refine v_din ?_ | with_reducible refine v_dnotin ?_ | with_reducible refine v_dput ?_ | with_reducible refine v_chain ?_ | with_reducible refine v_un ?_ | with_reducible refine v_neg ?_
  | with_reducible refine v_brk ?_ | with_reducible refine v_cont ?_)
local macro_rules | `(tactic| walk_at "v") => `(tactic| repeat (walk_at "v1"))
local macro_rules | `(tactic| walk_at "vm") => `(tactic| repeat (first | ((with_reducible refine v_modP ?c ?_); (case c => omega); (intro _ _ _)) | walk_at "v1"))
local macro_rules | `(tactic| walk_at "iv") => `(tactic| (try dsimp only; refine IV.mk (by assumption) (by assumption) ?_))
local macro_rules | `(tactic| walk_at "n") => `(tactic| dsimp only [List.set_cons_zero, List.set_cons_succ])
/-! ### is_alphabet -/
def lettersL : List Nat := [97, 98, 99, 100, 101, 102, 103, 104]
theorem letters_eq : (("abcdefgh" : Str)) = S lettersL := by decide +kernel
def isAlphaD : PyData → Bool
  | .str z => (decide (1 ≤ z.cps.toList.length) && decide (z.cps.toList.length ≤ 8)) && ((z.cps.toList.map fun c => decide (c ∈ lettersL)).all id &&
      ((List.range (z.cps.toList.length - 1)).map fun k => decide ([z.cps.toList.getD k 0] < [z.cps.toList.getD (k + 1) 0])).all id)
  | _ => false
def sp_p_is_alphabet (K : PySem.W.Frag) : Sp := fun vs H Q _ => ∃ (B : Hp) (M : List (Addr × HO)) (v : V) (d : PyData), vs = [v] ∧ Hs B M H ∧ Rp K B v d ∧ (∀ z, d = .str z → z.length ≤ 1000000) ∧ ∀ (B' H' : Hp), Le B B' → Hs B' M H' → Q (.bl (isAlphaD d)) H'
def t_p_is_alphabet (K : PySem.W.Frag) : TS := (tSeq (tIfS (tOr (tNot (tB (tCB (rIsi K) (tCons (tVar 0) (tCons (tC (.ty "str")) tNil))))) (tNot (tTest (tChain rLeI rLeI (tC (.int 1)) (tCB (rCLen K) (tCons (tVar 0) tNil)) (tCB (rCLen K) (tCons (tC (.str "abcdefgh")) tNil)))))) (tRet (tC (.bl false))) tNext)
    (tSeq (tIfS (tNot (tB (tCB (rAll K) (tCons (tLc (iStr (tVar 0)) (gName 1) tYes (tOp rInSg (tVar 1) (tC (.str "abcdefgh"))) [1]) tNil)))) (tRet (tC (.bl false))) tNext)
    (tRet (tCB (rAll K) (tCons (tLc (iRng1 (tCons (tOp rSubI (tCB (rCLen K) (tCons (tVar 0) tNil)) (tC (.int 1))) tNil)) (gName 2) tYes (tOp rLtS (tOp rIxS (tVar 0) (tVar 2)) (tOp rIxS (tVar 0) (tOp rAddI (tVar 2) (tC (.int 1))))) [2]) tNil)))))
theorem pure_p_is_alphabet {K : PySem.W.Frag} (vs : List V) (H : Hp) (Q : VK) (E : XK) (h : sp_p_is_alphabet K vs H Q E) : t_p_is_alphabet K { nx := fun _ H' => Q .non H', rt := Q } (start n_p_is_alphabet vs) H := by
  obtain ⟨B, M, v, d, rfl, hs, hv, hz, q⟩ := h
  show t_p_is_alphabet K _ [some v, none, none] H
  unfold t_p_is_alphabet
  walk_at "v"
  refine v_isiS (hs.r hv) ?_
  walk_at "v"
  cases d with
  | str z0 =>
    obtain ⟨l, rfl⟩ : ∃ l, z0 = S l := ⟨z0.cps.toList, (SX.S_tl z0).symm⟩
    cases hv
    have hz0 := hz _ rfl
    rw [S_length] at hz0
    refine iteF' rfl ?_
    walk_at "v"
    refine v_lenS (by rw [S_length]; exact sz_of hz0) ?_
    rw [S_length]
    walk_at "v"
    have eD : isAlphaD (.str (S l)) = ((decide (1 ≤ l.length) && decide (l.length ≤ 8)) && ((l.map fun c => decide (c ∈ lettersL)).all id && ((List.range (l.length - 1)).map fun k => decide ([l.getD k 0] < [l.getD (k + 1) 0])).all id)) := rfl
    have e1 : decide ((1 : Int) ≤ (l.length : Nat)) = decide (1 ≤ l.length) := decide_eq_decide.mpr (by omega)
    rw [e1]
    refine ite2 (fun c0 => ?_) (fun c0 => ?_)
    · have c1 := of_decide_eq_true c0
      walk_at "v"
      refine v_lenS (z := "abcdefgh") (by decide) ?_
      walk_at "v"
      have e2 : decide ((l.length : Int) ≤ ((("abcdefgh" : Str).length : Nat) : Int)) = decide (l.length ≤ 8) := decide_eq_decide.mpr (by rw [show ("abcdefgh" : Str).length = 8 from by decide +kernel]; omega)
      rw [e2]
      by_cases c2 : l.length ≤ 8
      · rw [decide_eq_true c2]
        refine iteF' rfl ?_
        walk_at "v"
        refine v_lcS hs (fun i acc B' M' => M' = M ∧ acc = ((l.take i).map fun c => decide (c ∈ lettersL)).map V.bl) ⟨rfl, rfl⟩ ?_ ?_
        · rintro i c p acc B1 M' H1 hi hc ha l1 h1 ⟨rfl, rfl⟩
          rw [S_get] at hc
          walk_at "v"
          refine ⟨rfl, ?_⟩
          walk_at "v"
          refine iteT ?_
          walk_at "v"
          refine IE.mk ha hi (by rw [S_size]; omega) l1 h1 ⟨rfl, ?_⟩
          rw [List.take_add_one, hc, List.map_append, List.map_append, letters_eq]
          rfl
        · rintro p acc B1 M' H1 ha l1 h1 ⟨rfl, rfl⟩
          walk_at "v"
          refine ⟨p, _, rfl, SqL.of h1.hd, ?_⟩
          rw [S_size, List.take_length]
          have h2 := h1.drop
          walk_at "v"
          by_cases c3 : (l.map fun c => decide (c ∈ lettersL)).all id = true
          · rw [c3]
            refine iteF' rfl ?_
            walk_at "v"
            refine v_lenS (by rw [S_length]; exact sz_of hz0) ?_
            rw [S_length]
            walk_at "v"
            refine v_atR1 (by omega) ?_
            refine v_lcR h2 (fun i acc B' M2 => M2 = M' ∧ acc = ((List.range i).map fun k => decide ([l.getD k 0] < [l.getD (k + 1) 0])).map V.bl) ⟨rfl, rfl⟩ ?_ ?_
            · rintro i p acc B2 M' H2 hi ha l2 h2 ⟨rfl, rfl⟩
              have hi2 : i + 1 < l.length := by omega
              walk_at "v"
              refine ⟨rfl, ?_⟩
              walk_at "v"
              refine iteT ?_
              walk_at "v"
              refine v_ixS (c := l.getD i 0) (by rw [S_length]; exact sz_of hz0) (at_k (by omega) ?_) ?_
              · rw [show (0 + (i : Int)).toNat = i by omega]
                show l[i]? = _
                rw [List.getD_eq_getElem?_getD, List.getElem?_eq_getElem (by omega)]
                rfl
              walk_at "v"
              refine v_ixS (c := l.getD (i + 1) 0) (by rw [S_length]; exact sz_of hz0) (at_k (by omega) ?_) ?_
              · rw [show (0 + (i : Int) + 1).toNat = i + 1 by omega]
                show l[i + 1]? = _
                rw [List.getD_eq_getElem?_getD, List.getElem?_eq_getElem hi2]
                rfl
              refine ⟨_, _, rfl, rfl, ?_⟩
              refine IE.mk ha hi (by omega) l2 h2 ⟨rfl, ?_⟩
              rw [List.range_succ, List.map_append, List.map_append]
              rfl
            · rintro p acc B2 M' H2 ha l2 h2 ⟨rfl, rfl⟩
              walk_at "v"
              refine ⟨p, _, rfl, SqL.of h2.hd, ?_⟩
              rw [show ((l.length : Int) - 1).toNat = l.length - 1 by omega]
              rw [c0, decide_eq_true c2, c3, Bool.true_and, Bool.true_and, Bool.true_and] at eD
              rw [← eD]
              exact q _ _ (l1.trans l2) h2.drop
          · rw [Bool.eq_false_iff.mpr c3]
            refine iteT' rfl ?_
            walk_at "v"
            rw [c0, decide_eq_true c2, Bool.eq_false_iff.mpr c3] at eD
            rw [show (false : Bool) = isAlphaD (.str (S l)) by rw [eD]; rfl]
            exact q _ _ l1 h2
      · rw [decide_eq_false c2]
        refine iteT' rfl ?_
        walk_at "v"
        rw [c0, decide_eq_false c2] at eD
        rw [show (false : Bool) = isAlphaD (.str (S l)) by rw [eD]; rfl]
        exact q _ _ (Same.refl B) hs
    · walk_at "v"
      refine iteT' rfl ?_
      walk_at "v"
      rw [Bool.eq_false_iff.mpr c0] at eD
      rw [show (false : Bool) = isAlphaD (.str (S l)) by rw [eD]; rfl]
      exact q _ _ (Same.refl B) hs
  | bool b => exact iteT' rfl (iteT (q _ _ (Same.refl B) hs))
  | none => exact iteT' rfl (iteT (q _ _ (Same.refl B) hs))
  | int x => exact iteT' rfl (iteT (q _ _ (Same.refl B) hs))
  | list x => exact iteT' rfl (iteT (q _ _ (Same.refl B) hs))
  | tuple x => exact iteT' rfl (iteT (q _ _ (Same.refl B) hs))
  | dict x => exact iteT' rfl (iteT (q _ _ (Same.refl B) hs))
section
variable {P : Program} {w : World} {K : PySem.W.Frag} {mg : Str → Option Value} {base : Heap}
theorem ok_p_is_alphabet (T : Txt K mg w) : FnOk P w K mg base CX0 1 T.a_p_is_alphabet T.fd_p_is_alphabet ["thing"] (sp_p_is_alphabet K) := by
  refine T.F_p_is_alphabet.ok sc_p_is_alphabet (fun vs H Q E h => ?_) (fun cdv A outer s H vs Q E hr h => ⟨t_p_is_alphabet K, ?_, pure_p_is_alphabet vs H Q E h⟩)
  · obtain ⟨B, M, v, d, rfl, _⟩ := h
    rfl
  · exact (pss_cons (ps_if (PW.pt (pw_or (pt_not (pt_val (pe_callB call_isi (by rfl) (T.free_isinstance) PyProof.Rows.boot_isinstance (pa_cons (pv 0) (pa_cons (pe_bltn (by rfl) (T.free_str) (by decide +kernel) rfl) pa_nil))))) (pw_or1 (pt_not (pt_chain op_le op_le pe_int (pe_callB call_len (by rfl) (T.free_len) (by decide +kernel) (pa_cons (pv 0) pa_nil)) (pe_callB call_len (by rfl) (T.free_len) (by decide +kernel) (pa_cons (pe_glob rfl T.c_LETTERS ⟨_, rfl⟩) pa_nil))))))) (pss_one (ps_ret pe_bl)) pss_nil)
      (pss_cons (ps_if (pt_not (pt_val (pe_callB (cr_all rfl) (by rfl) (T.free_all) (by decide +kernel) (pa_cons (pe_lc (own := [("letter", 1)]) (g := (gName 1)) (tt := tYes) rfl sc_p_is_alphabet.nd (pi_str (pv 0)) (blkOk_by (own := [("letter", 1)]) (N := n_p_is_alphabet) (sc := defScope s_p_is_alphabet) (by decide +kernel)) (fun _ _ _ _ _ => (pg_name (i := 1) sc_p_is_alphabet.nd rfl (Or.inl rfl))) (fun _ _ _ _ _ => pts_nil) (fun _ _ _ _ _ => (pe_cmpR op_in_sign (pv 1) (pe_glob rfl T.c_LETTERS ⟨_, rfl⟩) (by rfl)))) pa_nil)))) (pss_one (ps_ret pe_bl)) pss_nil)
      (pss_one (ps_ret (pe_callB (cr_all rfl) (by rfl) (T.free_all) (by decide +kernel) (pa_cons (pe_lc (own := [("k", 2)]) (g := (gName 2)) (tt := tYes) rfl sc_p_is_alphabet.nd (pi_range1 (by rfl) (T.free_range) (pa_cons (pe_op op_sub (pe_callB call_len (by rfl) (T.free_len) (by decide +kernel) (pa_cons (pv 0) pa_nil)) pe_int) pa_nil)) (blkOk_by (own := [("k", 2)]) (N := n_p_is_alphabet) (sc := defScope s_p_is_alphabet) (by decide +kernel)) (fun _ _ _ _ _ => (pg_name (i := 2) sc_p_is_alphabet.nd rfl (Or.inl rfl))) (fun _ _ _ _ _ => pts_nil) (fun _ _ _ _ _ => (pe_cmpR op_lt_str (pe_ix ix_str (pv 0) (pv 2) (fun _ _ => rfl)) (pe_ix ix_str (pv 0) (pe_op op_add (pv 2) pe_int) (fun _ _ => rfl)) (nomark _)))) pa_nil))))))
end
end K71
set_option Elab.async false
set_option linter.all false
set_option maxRecDepth 100000
set_option maxHeartbeats 4000000
namespace K71
open PySem PySem.Spec PyProof.Rows L2 Sh
open SX (S)
local macro_rules | `(tactic| walk_at "v1") => `(tactic| first
  | with_reducible refine v_seq ?_ | with_reducible refine v_asg ?_ | ((with_reducible refine' v_name ?e ?_); (case e => exact rfl)) | with_reducible refine v_ret ?_ | with_reducible refine v_drop ?_ | with_reducible refine v_next ?_
  | with_reducible refine v_if ?_ | with_reducible refine v_op ?_ | with_reducible refine v_c ?_ | ((with_reducible refine' v_var ?e ?_); (case e => exact rfl))
  | with_reducible refine v_I0 ?_ | with_reducible refine v_test ?_ | with_reducible refine v_B ?_ | with_reducible refine v_bl ?_ | with_reducible refine v_not ?_ | with_reducible refine v_and ?_ | with_reducible refine v_or ?_
  | with_reducible refine v_andV ?_ | with_reducible refine v_orV ?_ | with_reducible refine v_notV ?_ | with_reducible refine v_ife ?_
  | with_reducible refine v_nil ?_ | with_reducible refine v_cons ?_ | with_reducible refine v_tup ?_ | with_reducible refine v_lst ?_ | with_reducible refine v_call ?_ | with_reducible refine v_cb ?_ | with_reducible refine v_int ?_ | with_reducible refine v_abs ?_
  | ((with_reducible refine' v_eq ?e ?_); (case e => exact rfl)) | ((with_reducible refine' v_ne ?e ?_); (case e => exact rfl)) | with_reducible refine v_sub ?_ | with_reducible refine v_isN ?_ | with_reducible refine v_notN ?_
  | with_reducible refine v_part ?_ | with_reducible refine v_nopart ?_ | with_reducible refine v_pint ?_ | with_reducible refine v_inSg ?_ | with_reducible refine v_notInSg ?_
  | ((with_reducible refine' v_ixL ?l ?a ?_); (case l => assumption); (case a => exact at_lit _ rfl)) | ((with_reducible refine' v_ixT ?l ?a ?_); (case l => assumption); (case a => exact at_lit _ rfl))
  | ((with_reducible refine v_I ?c ?_); (case c => (first | omega | (unfold CMul; omega) | (unfold CDivN; omega) | (unfold CPow; omega))))
  | with_reducible refine v_for ?_ | with_reducible refine v_iList ?_ | with_reducible refine v_iTup ?_ | with_reducible refine v_iStr ?_ | with_reducible refine v_iR1 ?_ | with_reducible refine v_iR2 ?_ | with_reducible refine v_atS ?_ | with_reducible refine v_sl ?_ | with_reducible refine v_lc ?_ | with_reducible refine v_yes ?_
  | with_reducible refine v_m1 ?_ | with_reducible refine v_m1S ?_ | with_reducible refine v_bm ?_ | with_reducible refine v_bm0 ?_ | with_reducible refine v_dnewK ?_ | with_reducible refine v_dnewT ?_ | with_reducible refine v_dget ?_ | with_reducible refine v_din ?_ | with_reducible refine v_dnotin ?_ | with_reducible refine v_dput ?_ | with_reducible refine v_chain ?_ | with_reducible refine v_un ?_ | with_reducible refine v_neg ?_
  | with_reducible refine v_brk ?_ | with_reducible refine v_cont ?_)
local macro_rules | `(tactic| walk_at "v") => `(tactic| repeat (walk_at "v1"))
local macro_rules | `(tactic| walk_at "vm") => `(tactic| repeat (first | ((with_reducible refine v_modP ?c ?_); (case c => omega); (intro _ _ _)) | walk_at "v1"))
local macro_rules | `(tactic| walk_at "iv") => `(tactic| (try dsimp only; refine IV.mk (by assumption) (by assumption) ?_))
local macro_rules | `(tactic| walk_at "n") => `(tactic| dsimp only [List.set_cons_zero, List.set_cons_succ])
theorem isLT_mk {d : PyData} (h : isLT d = true) : ∃ l ds, d = mkD l ds := by
  cases d with
  | list ds => exact ⟨true, ds, rfl⟩
  | tuple ds => exact ⟨false, ds, rfl⟩
  | _ => cases h
theorem isLT_of (l : Bool) (ds : List PyData) : isLT (mkD l ds) = true := by cases l <;> rfl
/-! ### is_sheet_like -/
def itemsD : PyData → List PyData
  | .list ds => ds
  | .tuple ds => ds
  | _ => []
theorem items_mk (l : Bool) (ds : List PyData) : itemsD (mkD l ds) = ds := by cases l <;> rfl
def sheetLikeD (d : PyData) : Bool := isLT d && (decide (1 ≤ (itemsD d).length) && decide ((itemsD d).length ≤ 6000))
def sp_p_is_sheet_like (K : PySem.W.Frag) : Sp := fun vs H Q _ => ∃ (B : Hp) (M : List (Addr × HO)) (v : V) (d : PyData), vs = [v] ∧ Hs B M H ∧ Rp K B v d ∧ ∀ (B' H' : Hp), Le B B' → Hs B' M H' → Q (.bl (sheetLikeD d)) H'
def t_p_is_sheet_like (K : PySem.W.Frag) : TS := (tRet (tAndV (tCall (sp_p_is_listed K) [] E0 (tCons (tVar 0) tNil)) (tChain rLeI rLeI (tC (.int 1)) (tCB (rCLen K) (tCons (tVar 0) tNil)) (tC (.int 6000)))))
theorem pure_p_is_sheet_like {K : PySem.W.Frag} (vs : List V) (H : Hp) (Q : VK) (E : XK) (h : sp_p_is_sheet_like K vs H Q E) : t_p_is_sheet_like K { nx := fun _ H' => Q .non H', rt := Q } (start n_p_is_sheet_like vs) H := by
  obtain ⟨B, M, v, d, rfl, hs, hv, q⟩ := h
  show t_p_is_sheet_like K _ [some v] H
  unfold t_p_is_sheet_like
  walk_at "v"
  refine ⟨B, M, v, d, rfl, hs, hv, fun B1 H1 l1 hs1 => ?_⟩
  walk_at "v"
  by_cases c0 : isLT d = true
  · obtain ⟨l, ds, rfl⟩ := isLT_mk c0
    rw [c0]
    refine iteT' rfl ?_
    obtain ⟨a, xs, rfl, hX, hA⟩ := rp_mk hv
    walk_at "v"
    refine v_lenX (hs1.trx (hX.up l1)) ?_
    walk_at "v"
    have e : sheetLikeD (mkD l ds) = (decide (1 ≤ ds.length) && decide (ds.length ≤ 6000)) := by unfold sheetLikeD; rw [c0, items_mk, Bool.true_and]
    rw [hA.length, show decide ((1 : Int) ≤ (ds.length : Nat)) = decide (1 ≤ ds.length) from decide_eq_decide.mpr (by omega)]
    refine ite2 (fun c1 => ?_) (fun c1 => ?_)
    · walk_at "v"
      rw [show decide (((ds.length : Nat) : Int) ≤ 6000) = decide (ds.length ≤ 6000) from decide_eq_decide.mpr (by omega)]
      rw [c1, Bool.true_and] at e
      rw [← e]
      exact q _ _ l1 hs1
    · rw [Bool.eq_false_iff.mpr c1, Bool.false_and] at e
      rw [← e]
      exact q _ _ l1 hs1
  · rw [Bool.eq_false_iff.mpr c0]
    refine iteF' rfl ?_
    have e : sheetLikeD d = false := by unfold sheetLikeD; rw [Bool.eq_false_iff.mpr c0, Bool.false_and]
    rw [← e]
    exact q _ _ l1 hs1
/-! ### parts as they are given -/
inductive RawP where
  | other (d : PyData) | nil (l : Bool) | mk (l : Bool) (z : Str) (o : Option Int) (r : List PyData)
def RawP.d : RawP → PyData
  | .other d => d
  | .nil l => mkD l []
  | .mk l z _ r => mkD l (.str z :: r)
def flatD : PyData → Bool
  | .str z => decide (z.length ≤ 1000000)
  | .int _ => true
  | .bool _ => true
  | .none => true
  | _ => false
def RawP.ok : RawP → Prop
  | .other d => isLT d = false
  | .nil _ => True
  | .mk _ z o r => (z, o) ∈ widthO ∧ (∀ x ∈ r, flatD x = true) ∧ r.length ≤ 1000
def refersD (n : Nat) (o : Option Int) (r : List PyData) : Bool := match o with
  | none => false
  | some w => decide ((r.length : Int) = w) && (r.map (isIntIn 0 ((n : Int) - 1))).all id
def RawP.good (al : List Nat) (n : Nat) : RawP → Bool
  | .mk _ z o r => if r.length = 1 ∧ z = "letter" then isLetterD al (r.getD 0 .none) else refersD n o r
  | _ => false
/-! ### is_worded -/
def wordedD (p : RawP) : Bool := match p with
  | .mk _ _ _ _ => true
  | _ => false
def sp_p_is_worded (K : PySem.W.Frag) : Sp := fun vs H Q _ => ∃ (B : Hp) (M : List (Addr × HO)) (v : V) (p : RawP), vs = [v] ∧ Hs B M H ∧ Rp K B v p.d ∧ p.ok ∧ ∀ (B' H' : Hp), Le B B' → Hs B' M H' → Q (.bl (wordedD p)) H'
def t_p_is_worded (K : PySem.W.Frag) : TS := (tRet (tAndV (tCall (sp_p_is_listed K) [] E0 (tCons (tVar 0) tNil)) (tAndV (tOp rGtI (tCB (rCLen K) (tCons (tVar 0) tNil)) (tC (.int 0))) (tCB (rIsi K) (tCons (tOp (rIx K) (tVar 0) (tC (.int 0))) (tCons (tC (.ty "str")) tNil))))))
theorem pure_p_is_worded {K : PySem.W.Frag} (vs : List V) (H : Hp) (Q : VK) (E : XK) (h : sp_p_is_worded K vs H Q E) : t_p_is_worded K { nx := fun _ H' => Q .non H', rt := Q } (start n_p_is_worded vs) H := by
  obtain ⟨B, M, v, p, rfl, hs, hv, hk, q⟩ := h
  show t_p_is_worded K _ [some v] H
  unfold t_p_is_worded
  walk_at "v"
  refine ⟨B, M, v, p.d, rfl, hs, hv, fun B1 H1 l1 hs1 => ?_⟩
  walk_at "v"
  cases p with
  | other d =>
    rw [show isLT (RawP.other d).d = false from hk]
    exact iteF' rfl (q _ _ l1 hs1)
  | nil l =>
    rw [show isLT (RawP.nil l).d = true from isLT_of l []]
    refine iteT' rfl ?_
    obtain ⟨a, xs, rfl, hX, hA⟩ := rp_mk hv
    walk_at "v"
    refine v_lenX (hs1.trx (hX.up l1)) ?_
    walk_at "v"
    rw [hA.length]
    exact iteF' rfl (q _ _ l1 hs1)
  | mk l z o r =>
    rw [show isLT (RawP.mk l z o r).d = true from isLT_of l _]
    refine iteT' rfl ?_
    obtain ⟨a, xs, rfl, hX, hA⟩ := rp_mk hv
    walk_at "v"
    refine v_lenX (hs1.trx (hX.up l1)) ?_
    walk_at "v"
    rw [hA.length]
    refine iteT' (decide_eq_true (by simp)) ?_
    walk_at "v"
    obtain ⟨x0, e0, r0⟩ := hA.get (i := 0) rfl
    refine v_ixX (hs1.trx (hX.up l1)) (at_lit 0 e0) ?_
    walk_at "v"
    refine v_isiS (hs1.r (r0.up l1)) ?_
    exact q _ _ l1 hs1
/-! ### refers_well -/
def oV : Option Int → V
  | none => .non
  | some i => .int i
def sp_p_refers_well (K : PySem.W.Frag) : Sp := fun vs H Q _ => ∃ (B : Hp) (M : List (Addr × HO)) (v : V) (l : Bool) (d0 : PyData) (r : List PyData) (n : Nat) (o : Option Int), vs = [v, .int (n : Int), oV o] ∧ Hs B M H ∧ Rp K B v (mkD l (d0 :: r)) ∧ r.length ≤ 1000 ∧ ∀ (B' H' : Hp), Le B B' → Hs B' M H' → Q (.bl (refersD n o r)) H'
def t_p_refers_well (K : PySem.W.Frag) : TS := (tSeq (tIfS (tOr (tTest (tOp rIsNn (tVar 2) (tC .non))) (tTest (tOp rNe (tCB (rCLen K) (tCons (tVar 0) tNil)) (tOp rAddI (tC (.int 1)) (tVar 2))))) (tRet (tC (.bl false))) tNext)
    (tRet (tCB (rAll K) (tCons (tLc (iSeq K (tSl (rSlQ K) (tVar 0) (tPart (tC (.int 1))) tNoPart)) (gName 3) tYes (tCall (sp_p_is_integer K) [] E0 (tCons (tVar 3) (tCons (tC (.int 0)) (tCons (tOp rSubI (tVar 1) (tC (.int 1))) tNil)))) [3]) tNil))))
theorem pure_p_refers_well {K : PySem.W.Frag} (vs : List V) (H : Hp) (Q : VK) (E : XK) (h : sp_p_refers_well K vs H Q E) : t_p_refers_well K { nx := fun _ H' => Q .non H', rt := Q } (start n_p_refers_well vs) H := by
  obtain ⟨B, M, v, l, d0, r, n, o, rfl, hs, hv, hr, q⟩ := h
  obtain ⟨a, xs, rfl, hX, hA⟩ := rp_mk hv
  have hxl : xs.length = r.length + 1 := hA.length
  show t_p_refers_well K _ [some (V.ref a), some (V.int (n : Int)), some (oV o), none] H
  unfold t_p_refers_well
  walk_at "v"
  cases o with
  | none =>
    refine iteT' rfl ?_
    walk_at "v"
    exact iteT (q _ _ (Same.refl B) hs)
  | some w =>
    rw [show oV (some w) = V.int w from rfl]
    refine iteF' rfl ?_
    walk_at "v"
    refine v_lenX (hs.trx hX) ?_
    walk_at "v"
    have e0 : (!decide (V.int (xs.length : Nat) = V.int (1 + w))) = !decide ((r.length : Int) = w) := by
      congr 1
      exact decide_eq_decide.mpr ⟨fun e => by injection e with e; omega, fun e => by rw [hxl]; congr 1; omega⟩
    rw [e0]
    by_cases c0 : (r.length : Int) = w
    · rw [decide_eq_true c0]
      refine iteF' rfl ?_
      walk_at "v"
      have hd : RpAll K B (xs.drop 1) r := hA.drop 1
      have e1 : refersD n (some w) r = (r.map (isIntIn 0 ((n : Int) - 1))).all id := by
        show (decide ((r.length : Int) = w) && _) = _
        rw [decide_eq_true c0, Bool.true_and]
      rw [e1] at q
      have hdl : (xs.drop 1).length = r.length := hd.length
      have hcut : cutV xs (some (1 : Int)) none = xs.drop 1 := cut_from xs 1
      have stp : ∀ (i : Nat) (x : V) (p : Addr) (acc : List V) (B' B1 : Hp) (M' : List (Addr × HO)) (H' : Hp), i < (xs.drop 1).length → (xs.drop 1)[i]? = some x → acc.length ≤ i → Le B B1 → Le B1 B' → Hs B' ((p, .lst acc) :: M') H' → M' = M ∧ acc = ((r.take i).map (isIntIn 0 ((n : Int) - 1))).map V.bl →
          gName 3 x (wipe [some (V.ref a), some (V.int (n : Int)), some (V.int w), none] [3]) H' fun σ2 H2 => wipe σ2 [3] = wipe [some (V.ref a), some (V.int (n : Int)), some (V.int w), none] [3] ∧ tYes σ2 H2 fun b H3 =>
            if b = true then tCall (sp_p_is_integer K) [] E0 (tCons (tVar 3) (tCons (tC (.int 0)) (tCons (tOp rSubI (tVar 1) (tC (.int 1))) tNil))) σ2 H3 (IE B1 (fun i acc B' M' => M' = M ∧ acc = ((r.take i).map (isIntIn 0 ((n : Int) - 1))).map V.bl) p (i + 1))
            else IP B1 (fun i acc B' M' => M' = M ∧ acc = ((r.take i).map (isIntIn 0 ((n : Int) - 1))).map V.bl) p (i + 1) H3 := by
        rintro i x p acc B' B1 M' H' hi hx ha lb l1 h1 ⟨rfl, rfl⟩
        obtain ⟨d, hd1, hd2⟩ := hd.getV hx
        refine v_name rfl ?_
        refine ⟨rfl, ?_⟩
        walk_at "v"
        refine iteT ?_
        walk_at "v"
        refine ⟨x, d, 0, (n : Int) - 1, rfl, h1.r (hd2.up (lb.trans l1)), ?_⟩
        refine IE.mk ha hi (by omega) l1 h1 ⟨rfl, ?_⟩
        rw [List.take_add_one, hd1, List.map_append, List.map_append]
        rfl
      have fin : ∀ (p : Addr) (acc : List V) (B' B1 : Hp) (M' : List (Addr × HO)) (H' : Hp), Le B B1 → Le B1 B' → Hs B' ((p, .lst acc) :: M') H' → M' = M ∧ acc = ((r.take (xs.drop 1).length).map (isIntIn 0 ((n : Int) - 1))).map V.bl → rAll K [.ref p] H' Q := by
        rintro p acc B' B1 M' H' lb l1 h1 ⟨rfl, rfl⟩
        rw [hdl, List.take_length] at h1
        exact v_all (SqL.of h1.hd) (q _ _ (lb.trans l1) h1.drop)
      cases l with
      | true =>
        refine Or.inl ?_
        walk_at "v"
        refine Or.inl (v_slL (hs.l hX) (v_newB hs fun sl B1 H1 l1 hs1 e1 => ?_))
        rw [hcut] at e1
        refine v_atL (hs1.l (SqL.of e1)) ?_
        refine v_lcL (SqL.of e1) hs1 (fun i acc B' M' => M' = M ∧ acc = ((r.take i).map (isIntIn 0 ((n : Int) - 1))).map V.bl) ⟨rfl, rfl⟩ ?_ ?_
        · intro i x p acc B' M' H' hi hx ha l2 h2 I
          exact stp i x p acc B' B1 M' H' hi hx ha l1 l2 h2 I
        · intro p acc B' M' H' _ l2 h2 I
          walk_at "v"
          exact fin p acc B' B1 M' H' l1 l2 h2 I
      | false =>
        refine Or.inr ?_
        walk_at "v"
        refine Or.inr (v_slAB hs hX fun sl B1 H1 l1 hs1 e1 => ?_)
        rw [hcut] at e1
        refine v_atT (hs1.t (SqT.of e1)) ?_
        refine v_lcT (SqT.of e1) hs1 (fun i acc B' M' => M' = M ∧ acc = ((r.take i).map (isIntIn 0 ((n : Int) - 1))).map V.bl) ⟨rfl, rfl⟩ ?_ ?_
        · intro i x p acc B' M' H' hi hx ha l2 h2 I
          exact stp i x p acc B' B1 M' H' hi hx ha l1 l2 h2 I
        · intro p acc B' M' H' _ l2 h2 I
          walk_at "v"
          exact fin p acc B' B1 M' H' l1 l2 h2 I
    · rw [decide_eq_false c0]
      refine iteT' rfl ?_
      walk_at "v"
      have e1 : refersD n (some w) r = false := by
        show (decide ((r.length : Int) = w) && _) = _
        rw [decide_eq_false c0, Bool.false_and]
      rw [e1] at q
      exact q _ _ (Same.refl B) hs
/-! ### is_tense_part -/
def sp_p_is_tense_part (K : PySem.W.Frag) : Sp := fun vs H Q _ => ∃ (B : Hp) (M : List (Addr × HO)) (v : V) (p : RawP) (al : List Nat) (n : Nat), vs = [.str (S al), v, .int (n : Int)] ∧ Hs B M H ∧ Rp K B v p.d ∧ p.ok ∧ ∀ (B' H' : Hp), Le B B' → Hs B' M H' → Q (.bl (p.good al n)) H'
section
variable {P : Program} {w : World} {K : PySem.W.Frag} {mg : Str → Option Value} {base : Heap}
def t_p_is_tense_part (T : Txt K mg w) : TS := (tSeq (tIfS (tAnd (tB (tCall (sp_p_is_listed K) [] E0 (tCons (tVar 1) tNil))) (tAnd (tTest (tOp rEq (tCB (rCLen K) (tCons (tVar 1) tNil)) (tC (.int 2)))) (tTest (tOp rEq (tOp (rIx K) (tVar 1) (tC (.int 0))) (tC (.str "letter")))))) (tRet (tCall (sp_p_is_letter K) [] E0 (tCons (tVar 0) (tCons (tOp (rIx K) (tVar 1) (tC (.int 1))) tNil)))) tNext)
    (tRet (tAndV (tCall (sp_p_is_worded K) [] E0 (tCons (tVar 1) tNil)) (tCall (sp_p_refers_well K) [] E0 (tCons (tVar 1) (tCons (tVar 2) (tCons (tKGet K T.a_WIDTHS (tC (.ref T.a_WIDTHS)) (tOp (rIx K) (tVar 1) (tC (.int 0)))) tNil)))))))
theorem pure_p_is_tense_part (T : Txt K mg w) (vs : List V) (H : Hp) (Q : VK) (E : XK) (h : sp_p_is_tense_part K vs H Q E) : t_p_is_tense_part T { nx := fun _ H' => Q .non H', rt := Q } (start n_p_is_tense_part vs) H := by
  obtain ⟨B, M, v, p, al, n, rfl, hs, hv, hk, q⟩ := h
  show t_p_is_tense_part T _ [some (V.str (S al)), some v, some (V.int (n : Int))] H
  unfold t_p_is_tense_part
  walk_at "v"
  refine ⟨B, M, v, p.d, rfl, hs, hv, fun B1 H1 l1 hs1 => ?_⟩
  walk_at "v"
  have rest : ∀ (B1 H1 : Hp), Le B B1 → Hs B1 M H1 → (∀ l z o r, p = .mk l z o r → p.good al n = refersD n o r) → tAndV (tCall (sp_p_is_worded K) [] E0 (tCons (tVar 1) tNil)) (tCall (sp_p_refers_well K) [] E0 (tCons (tVar 1) (tCons (tVar 2) (tCons (tKGet K T.a_WIDTHS (tC (.ref T.a_WIDTHS)) (tOp (rIx K) (tVar 1) (tC (.int 0)))) tNil)))) [some (V.str (S al)), some v, some (V.int (n : Int))] H1 Q := by
    intro B1 H1 l1 hs1 hg
    walk_at "v"
    refine ⟨B1, M, v, p, rfl, hs1, hv.up l1, hk, fun B2 H2 l2 hs2 => ?_⟩
    walk_at "v"
    cases p with
    | other d => exact iteF' rfl (q _ _ (l1.trans l2) hs2)
    | nil l => exact iteF' rfl (q _ _ (l1.trans l2) hs2)
    | mk l z o r =>
      refine iteT' rfl ?_
      obtain ⟨a, xs, rfl, hX, hA⟩ := rp_mk hv
      walk_at "v"
      refine ⟨rfl, ?_⟩
      walk_at "v"
      obtain ⟨x0, e0, r0⟩ := hA.get (i := 0) rfl
      cases r0
      refine v_ixX (hs2.trx (hX.up (l1.trans l2))) (at_lit 0 e0) ?_
      have hw := T.widths (z, o) hk.1
      have key : ∃ rv : Option Value, PySem.W.nsIn K T.a_WIDTHS z = some rv ∧ RelV (oV o) (rv.getD .none) := by
        cases o with
        | none => exact ⟨none, hw, rfl⟩
        | some i =>
          obtain ⟨t, ht⟩ := hw
          exact ⟨some (.int i t), ht, ⟨t, rfl⟩⟩
      obtain ⟨rv, en, er⟩ := key
      refine ⟨z, rv, oV o, rfl, en, er, ?_⟩
      walk_at "v"
      refine ⟨B2, M, V.ref a, l, .str z, r, n, o, rfl, hs2, hv.up (l1.trans l2), hk.2.2, fun B3 H3 l3 hs3 => ?_⟩
      have := q _ _ (l1.trans (l2.trans l3)) hs3
      rw [hg l z o r rfl] at this
      exact this
  cases p with
  | other d =>
    rw [show isLT (RawP.other d).d = false from hk]
    refine iteF' rfl (iteF ?_)
    walk_at "v1"
    exact rest _ _ l1 hs1 (fun _ _ _ _ e => by cases e)
  | nil l =>
    rw [show isLT (RawP.nil l).d = true from isLT_of l []]
    refine iteT' rfl ?_
    obtain ⟨a, xs, rfl, hX, hA⟩ := rp_mk hv
    walk_at "v"
    refine v_lenX (hs1.trx (hX.up l1)) ?_
    walk_at "v"
    rw [hA.length]
    refine iteF' rfl (iteF ?_)
    walk_at "v1"
    exact rest _ _ l1 hs1 (fun _ _ _ _ e => by cases e)
  | mk l z o r =>
    rw [show isLT (RawP.mk l z o r).d = true from isLT_of l _]
    refine iteT' rfl ?_
    obtain ⟨a, xs, rfl, hX, hA⟩ := rp_mk hv
    walk_at "v"
    refine v_lenX (hs1.trx (hX.up l1)) ?_
    walk_at "v"
    rw [hA.length]
    have e2 : decide (V.int (((PyData.str z :: r).length : Nat) : Int) = V.int 2) = decide (r.length = 1) := decide_eq_decide.mpr ⟨fun e => by injection e with e; simp at e; omega, fun e => by simp [e]⟩
    rw [e2]
    obtain ⟨x0, e0, r0⟩ := hA.get (i := 0) rfl
    cases r0
    by_cases c1 : r.length = 1
    · rw [decide_eq_true c1]
      refine iteT' rfl ?_
      walk_at "v"
      refine v_ixX (hs1.trx (hX.up l1)) (at_lit 0 e0) ?_
      walk_at "v"
      have e3 : decide (V.str z = V.str "letter") = decide (z = "letter") := decide_eq_decide.mpr ⟨fun e => by injection e, fun e => by rw [e]⟩
      rw [e3]
      by_cases c2 : z = "letter"
      · rw [decide_eq_true c2]
        refine iteT' rfl ?_
        walk_at "v"
        obtain ⟨d, rfl⟩ : ∃ d, r = [d] := by
          match r, c1 with
          | [d], _ => exact ⟨d, rfl⟩
        obtain ⟨x1, e1, r1⟩ := hA.get (i := 1) rfl
        refine v_ixX (hs1.trx (hX.up l1)) (at_lit 1 e1) ?_
        walk_at "v"
        refine ⟨x1, d, al, rfl, hs1.r (r1.up l1), fun z e => ?_, ?_⟩
        · have := hk.2.1 d (by simp)
          rw [e] at this
          exact of_decide_eq_true this
        · have := q _ _ l1 hs1
          have e4 : RawP.good al n (.mk l z o [d]) = isLetterD al d := if_pos ⟨rfl, c2⟩
          rw [e4] at this
          exact this
      · rw [decide_eq_false c2]
        refine iteF' rfl ?_
        walk_at "v1"
        refine rest _ _ l1 hs1 (fun l' z' o' r' e => ?_)
        injection e with e1 e2 e3 e4
        subst e1 e2 e3 e4
        exact if_neg fun h => c2 h.2
    · rw [decide_eq_false c1]
      refine iteF' rfl (iteF ?_)
      walk_at "v1"
      refine rest _ _ l1 hs1 (fun l' z' o' r' e => ?_)
      injection e with e1 e2 e3 e4
      subst e1 e2 e3 e4
      exact if_neg fun h => c1 h.1
theorem ok_p_is_sheet_like (T : Txt K mg w) : FnOk P w K mg base CX0 2 T.a_p_is_sheet_like T.fd_p_is_sheet_like ["sheet"] (sp_p_is_sheet_like K) := by
  refine T.F_p_is_sheet_like.ok sc_p_is_sheet_like (fun vs H Q E h => ?_) (fun cdv A outer s H vs Q E hr h => ⟨t_p_is_sheet_like K, ?_, pure_p_is_sheet_like vs H Q E h⟩)
  · obtain ⟨B, M, v, d, rfl, _⟩ := h
    rfl
  · exact (pss_one (ps_ret (pe_and (pe_call (ok_p_is_listed T) hr (by rfl) T.g_p_is_listed T.F_p_is_listed.kp T.b_p_is_listed .nil pass0 (pa_cons (pv 0) pa_nil)) (pe_one (pe_chain op_le op_le pe_int (pe_callB call_len (by rfl) (T.free_len) (by decide +kernel) (pa_cons (pv 0) pa_nil)) (pe_glob rfl T.c_MOST ⟨_, rfl⟩))))))
theorem ok_p_is_worded (T : Txt K mg w) : FnOk P w K mg base CX0 2 T.a_p_is_worded T.fd_p_is_worded ["part"] (sp_p_is_worded K) := by
  refine T.F_p_is_worded.ok sc_p_is_worded (fun vs H Q E h => ?_) (fun cdv A outer s H vs Q E hr h => ⟨t_p_is_worded K, ?_, pure_p_is_worded vs H Q E h⟩)
  · obtain ⟨B, M, v, d, rfl, _⟩ := h
    rfl
  · exact (pss_one (ps_ret (pe_and (pe_call (ok_p_is_listed T) hr (by rfl) T.g_p_is_listed T.F_p_is_listed.kp T.b_p_is_listed .nil pass0 (pa_cons (pv 0) pa_nil)) (pe_and (pe_cmpR op_gt (pe_callB call_len (by rfl) (T.free_len) (by decide +kernel) (pa_cons (pv 0) pa_nil)) pe_int (nomark _)) (pe_one (pe_callB call_isi (by rfl) (T.free_isinstance) PyProof.Rows.boot_isinstance (pa_cons (pe_ix ix_seq (pv 0) pe_int (fun _ _ => rfl)) (pa_cons (pe_bltn (by rfl) (T.free_str) (by decide +kernel) rfl) pa_nil))))))))
theorem ok_p_refers_well (T : Txt K mg w) : FnOk P w K mg base CX0 2 T.a_p_refers_well T.fd_p_refers_well ["part", "number", "width"] (sp_p_refers_well K) := by
  refine T.F_p_refers_well.ok sc_p_refers_well (fun vs H Q E h => ?_) (fun cdv A outer s H vs Q E hr h => ⟨t_p_refers_well K, ?_, pure_p_refers_well vs H Q E h⟩)
  · obtain ⟨B, M, v, l, d0, r, n, o, rfl, _⟩ := h
    rfl
  · exact (pss_cons (ps_if (PW.pt (pw_or (pt_cmpR op_isN (pv 2) pe_non (nomark _)) (pw_or1 (pt_cmpR op_ne (pe_callB call_len (by rfl) (T.free_len) (by decide +kernel) (pa_cons (pv 0) pa_nil)) (pe_op op_add pe_int (pv 2)) (nomark _))))) (pss_one (ps_ret pe_bl)) pss_nil)
      (pss_one (ps_ret (pe_callB (cr_all rfl) (by rfl) (T.free_all) (by decide +kernel) (pa_cons (pe_lc (own := [("one", 3)]) (g := (gName 3)) (tt := tYes) rfl sc_p_refers_well.nd (pi_seq (pe_slice sl_seq (pv 0) (po_some pe_int) po_none)) (blkOk_by (own := [("one", 3)]) (N := n_p_refers_well) (sc := defScope s_p_refers_well) (by decide +kernel)) (fun _ _ _ _ _ => (pg_name (i := 3) sc_p_refers_well.nd rfl (Or.inl rfl))) (fun _ _ _ _ _ => pts_nil) (fun _ _ _ _ _ => (pe_call (ok_p_is_integer T) hr (by rfl) T.g_p_is_integer T.F_p_is_integer.kp T.b_p_is_integer .nil pass0 (pa_cons (pv 3) (pa_cons pe_int (pa_cons (pe_op op_sub (pv 1) pe_int) pa_nil)))))) pa_nil)))))
theorem ok_p_is_tense_part (T : Txt K mg w) : FnOk P w K mg base CX0 3 T.a_p_is_tense_part T.fd_p_is_tense_part ["alphabet", "part", "number"] (sp_p_is_tense_part K) := by
  refine T.F_p_is_tense_part.ok sc_p_is_tense_part (fun vs H Q E h => ?_) (fun cdv A outer s H vs Q E hr h => ⟨t_p_is_tense_part T, ?_, pure_p_is_tense_part T vs H Q E h⟩)
  · obtain ⟨B, M, v, p, al, n, rfl, _⟩ := h
    rfl
  · exact (pss_cons (ps_if (PW.pt (pw_and (pt_val (pe_call (ok_p_is_listed T) (hr.mono (by decide)) (by rfl) T.g_p_is_listed T.F_p_is_listed.kp T.b_p_is_listed .nil pass0 (pa_cons (pv 1) pa_nil))) (pw_and (pt_cmpR op_eq (pe_callB call_len (by rfl) (T.free_len) (by decide +kernel) (pa_cons (pv 1) pa_nil)) pe_int (nomark _)) (pw_and1 (pt_cmpR op_eq (pe_ix ix_seq (pv 1) pe_int (fun _ _ => rfl)) pe_str (nomark _)))))) (pss_one (ps_ret (pe_call (ok_p_is_letter T) (hr.mono (by decide)) (by rfl) T.g_p_is_letter T.F_p_is_letter.kp T.b_p_is_letter .nil pass0 (pa_cons (pv 0) (pa_cons (pe_ix ix_seq (pv 1) pe_int (fun _ _ => rfl)) pa_nil))))) pss_nil)
      (pss_one (ps_ret (pe_and (pe_call (ok_p_is_worded T) hr (by rfl) T.g_p_is_worded T.F_p_is_worded.kp T.b_p_is_worded .nil pass0 (pa_cons (pv 1) pa_nil)) (pe_one (pe_call (ok_p_refers_well T) hr (by rfl) T.g_p_refers_well T.F_p_refers_well.kp T.b_p_refers_well .nil pass0 (pa_cons (pv 1) (pa_cons (pv 2) (pa_cons (pe_kdget T.d_WIDTHS (pe_glob rfl T.g_WIDTHS rfl) (pe_ix ix_seq (pv 1) pe_int (fun _ _ => rfl))) pa_nil)))))))))
end
end K71
set_option Elab.async false
set_option linter.all false
set_option maxRecDepth 100000
/-! sheets as trees; each tree told once -/
namespace Sh
open PySem PySem.Spec PyProof.Rows L2
open SX (S)
abbrev intV (i : Nat) : V := V.int (i : Int)
def Part.refs : Part → List Nat
  | .un _ i => [i]
  | .bin _ i j => [i, j]
  | _ => []
def Part.mapR (f : Nat → Nat) : Part → Part
  | .un u i => .un u (f i)
  | .bin u i j => .bin u (f i) (f j)
  | p => p
def Part.nm : Part → Str
  | .c b => cnm b
  | .letter _ => "letter"
  | .un u _ => u.nm
  | .bin u _ _ => u.nm
def Part.isRef : Part → Bool
  | .un _ _ => true
  | .bin _ _ _ => true
  | _ => false
inductive Tr where
  | c (b : Bool) | letter (a : Nat) | un (u : U1) (t : Tr) | bin (u : U2) (t s : Tr)
def putP (L : List Part) (p : Part) : List Part × Nat := if p ∈ L then (L, L.idxOf p) else (L ++ [p], L.length)
def ins : Tr → List Part → List Part × Nat
  | .c b, L => putP L (.c b)
  | .letter a, L => putP L (.letter a)
  | .un u t, L => putP (ins t L).1 (.un u (ins t L).2)
  | .bin u t s, L => putP (ins s (ins t L).1).1 (.bin u (ins t L).2 (ins s (ins t L).1).2)
def Loc (L : List Part) : Tr → Nat → Prop
  | .c b, k => L[k]? = some (.c b)
  | .letter a, k => L[k]? = some (.letter a)
  | .un u t, k => ∃ i, Loc L t i ∧ L[k]? = some (.un u i)
  | .bin u t s, k => ∃ i j, Loc L t i ∧ Loc L s j ∧ L[k]? = some (.bin u i j)
theorem putP_pre (L : List Part) (p : Part) : ∃ ys, (putP L p).1 = L ++ ys := by
  unfold putP
  split
  · exact ⟨[], by simp⟩
  · exact ⟨[p], rfl⟩
theorem idx_get {L : List Part} {p : Part} (h : p ∈ L) : L[L.idxOf p]? = some p := by
  have hl := List.idxOf_lt_length_of_mem h
  rw [List.getElem?_eq_getElem hl, List.getElem_idxOf hl]
theorem putP_get (L : List Part) (p : Part) : (putP L p).1[(putP L p).2]? = some p := by
  unfold putP
  split
  · rename_i h
    exact idx_get h
  · simp
theorem nd_snoc {α : Type} {L : List α} {p : α} (h : L.Nodup) (hp : p ∉ L) : (L ++ [p]).Nodup := by
  rw [List.nodup_append]
  refine ⟨h, by simp, fun a ha b hb e => ?_⟩
  rw [List.mem_singleton] at hb
  subst hb
  subst e
  exact hp ha
theorem putP_nd {L : List Part} (p : Part) (h : L.Nodup) : (putP L p).1.Nodup := by
  unfold putP
  split
  · exact h
  · rename_i n
    exact nd_snoc h n
theorem nd_get {α : Type} {L : List α} (h : L.Nodup) {i j : Nat} {p : α} (hi : L[i]? = some p) (hj : L[j]? = some p) : i = j := by
  obtain ⟨h1, e1⟩ := List.getElem?_eq_some_iff.mp hi
  obtain ⟨h2, e2⟩ := List.getElem?_eq_some_iff.mp hj
  rw [List.nodup_iff_pairwise_ne, List.pairwise_iff_getElem] at h
  rcases Nat.lt_trichotomy i j with c | c | c
  · exact absurd (e1.trans e2.symm) (h i j h1 h2 c)
  · exact c
  · exact absurd (e2.trans e1.symm) (h j i h2 h1 c)
theorem putP_old {L : List Part} {p : Part} {k : Nat} (h : L.Nodup) (e : L[k]? = some p) : putP L p = (L, k) := by
  have m : p ∈ L := List.mem_of_getElem? e
  unfold putP
  rw [if_pos m, nd_get h (idx_get m) e]
theorem Loc.mono {L : List Part} (ys : List Part) : ∀ {t : Tr} {k : Nat}, Loc L t k → Loc (L ++ ys) t k := by
  have g : ∀ {k : Nat} {p : Part}, L[k]? = some p → (L ++ ys)[k]? = some p := fun {k p} e => by
    have hl := (List.getElem?_eq_some_iff.mp e).1
    rw [List.getElem?_append_left hl]
    exact e
  intro t
  induction t with
  | c b => intro k h; exact g h
  | letter a => intro k h; exact g h
  | un u t ih => rintro k ⟨i, h1, h2⟩; exact ⟨i, ih h1, g h2⟩
  | bin u t s ih1 ih2 => rintro k ⟨i, j, h1, h2, h3⟩; exact ⟨i, j, ih1 h1, ih2 h2, g h3⟩
theorem ins_pre : ∀ (t : Tr) (L : List Part), ∃ ys, (ins t L).1 = L ++ ys
  | .c b, L => putP_pre L _
  | .letter a, L => putP_pre L _
  | .un u t, L => by
    obtain ⟨ys, e⟩ := ins_pre t L
    obtain ⟨zs, e2⟩ := putP_pre (ins t L).1 (.un u (ins t L).2)
    refine ⟨ys ++ zs, ?_⟩
    rw [ins, e2, e, List.append_assoc]
  | .bin u t s, L => by
    obtain ⟨ys, e⟩ := ins_pre t L
    obtain ⟨xs, e1⟩ := ins_pre s (ins t L).1
    obtain ⟨zs, e2⟩ := putP_pre (ins s (ins t L).1).1 (.bin u (ins t L).2 (ins s (ins t L).1).2)
    refine ⟨ys ++ (xs ++ zs), ?_⟩
    rw [ins, e2, e1, e, List.append_assoc, List.append_assoc]
theorem Loc.ins {L : List Part} {t : Tr} {k : Nat} (h : Loc L t k) (s : Tr) : Loc (ins s L).1 t k := by
  obtain ⟨ys, e⟩ := ins_pre s L
  rw [e]
  exact h.mono ys
theorem Loc.put {L : List Part} {t : Tr} {k : Nat} (h : Loc L t k) (p : Part) : Loc (putP L p).1 t k := by
  obtain ⟨ys, e⟩ := putP_pre L p
  rw [e]
  exact h.mono ys
theorem ins_loc : ∀ (t : Tr) (L : List Part), Loc (ins t L).1 t (ins t L).2
  | .c b, L => putP_get L _
  | .letter a, L => putP_get L _
  | .un u t, L => ⟨(Sh.ins t L).2, (ins_loc t L).put _, putP_get _ _⟩
  | .bin u t s, L => ⟨(Sh.ins t L).2, (Sh.ins s (Sh.ins t L).1).2, ((ins_loc t L).ins s).put _, (ins_loc s _).put _, putP_get _ _⟩
theorem ins_nd : ∀ (t : Tr) {L : List Part}, L.Nodup → (ins t L).1.Nodup
  | .c b, L, h => putP_nd _ h
  | .letter a, L, h => putP_nd _ h
  | .un u t, L, h => putP_nd _ (ins_nd t h)
  | .bin u t s, L, h => putP_nd _ (ins_nd s (ins_nd t h))
theorem ins_old {L : List Part} (hn : L.Nodup) : ∀ {t : Tr} {k : Nat}, Loc L t k → ins t L = (L, k)
  | .c b, k, h => putP_old hn h
  | .letter a, k, h => putP_old hn h
  | .un u t, k, ⟨i, h1, h2⟩ => by rw [ins, ins_old hn h1]; exact putP_old hn h2
  | .bin u t s, k, ⟨i, j, h1, h2, h3⟩ => by rw [ins, ins_old hn h1, ins_old hn h2]; exact putP_old hn h3
theorem Loc.inj {L : List Part} : ∀ {t s : Tr} {k : Nat}, Loc L t k → Loc L s k → t = s := by
  intro t
  induction t with
  | c b =>
    intro s k h1 h2
    cases s with
    | c b2 => have e := h1.symm.trans h2; injection e with e; injection e with e; rw [e]
    | letter a => have e := h1.symm.trans h2; injection e with e; cases e
    | un u t => obtain ⟨i, _, h2⟩ := h2; have e := h1.symm.trans h2; injection e with e; cases e
    | bin u t s => obtain ⟨i, j, _, _, h2⟩ := h2; have e := h1.symm.trans h2; injection e with e; cases e
  | letter a =>
    intro s k h1 h2
    cases s with
    | c b2 => have e := h1.symm.trans h2; injection e with e; cases e
    | letter a => have e := h1.symm.trans h2; injection e with e; injection e with e; rw [e]
    | un u t => obtain ⟨i, _, h2⟩ := h2; have e := h1.symm.trans h2; injection e with e; cases e
    | bin u t s => obtain ⟨i, j, _, _, h2⟩ := h2; have e := h1.symm.trans h2; injection e with e; cases e
  | un u t ih =>
    rintro s k ⟨i, hi, h1⟩ h2
    cases s with
    | c b2 => have e := h1.symm.trans h2; injection e with e; cases e
    | letter a => have e := h1.symm.trans h2; injection e with e; cases e
    | un u2 t2 =>
      obtain ⟨i2, hi2, h2⟩ := h2
      have e := h1.symm.trans h2
      injection e with e
      injection e with e1 e2
      subst e1 e2
      rw [ih hi hi2]
    | bin u t s => obtain ⟨i, j, _, _, h2⟩ := h2; have e := h1.symm.trans h2; injection e with e; cases e
  | bin u t1 t2 ih1 ih2 =>
    rintro s k ⟨i, j, hi, hj, h1⟩ h2
    cases s with
    | c b2 => have e := h1.symm.trans h2; injection e with e; cases e
    | letter a => have e := h1.symm.trans h2; injection e with e; cases e
    | un u2 t2 => obtain ⟨i2, hi2, h2⟩ := h2; have e := h1.symm.trans h2; injection e with e; cases e
    | bin u t s =>
      obtain ⟨i2, j2, hi2, hj2, h2⟩ := h2
      have e := h1.symm.trans h2
      injection e with e
      injection e with e1 e2 e3
      subst e1 e2 e3
      rw [ih1 hi hi2, ih2 hj hj2]
theorem Loc.get {L : List Part} {t : Tr} {k : Nat} (h : Loc L t k) : k < L.length := by
  cases t with
  | c b => exact (List.getElem?_eq_some_iff.mp h).1
  | letter a => exact (List.getElem?_eq_some_iff.mp h).1
  | un u t => obtain ⟨_, _, h⟩ := h; exact (List.getElem?_eq_some_iff.mp h).1
  | bin u t s => obtain ⟨_, _, _, _, h⟩ := h; exact (List.getElem?_eq_some_iff.mp h).1
/-! ### sheets -/
def node (ts : List Tr) : Part → Tr
  | .c b => .c b
  | .letter a => .letter a
  | .un u i => .un u (ts.getD i (.c true))
  | .bin u i j => .bin u (ts.getD i (.c true)) (ts.getD j (.c true))
def treesOf (ps : List Part) : List Tr := ps.foldl (fun ts p => ts ++ [node ts p]) []
abbrev treeAt (ps : List Part) (i : Nat) : Tr := (treesOf ps).getD i (.c true)
theorem treesOf_snoc (ps : List Part) (p : Part) : treesOf (ps ++ [p]) = treesOf ps ++ [node (treesOf ps) p] := by
  unfold treesOf
  rw [List.foldl_append]
  rfl
theorem snoc_ind {α : Type} {P : List α → Prop} (h0 : P []) (h1 : ∀ l x, P l → P (l ++ [x])) (l : List α) : P l := by
  have : ∀ n (l : List α), l.length = n → P l := by
    intro n
    induction n with
    | zero => intro l hl; rw [List.length_eq_zero_iff.mp hl]; exact h0
    | succ n ih =>
      intro l hl
      have hne : l ≠ [] := by intro e; rw [e] at hl; cases hl
      rw [← List.dropLast_concat_getLast hne]
      exact h1 _ _ (ih _ (by rw [List.length_dropLast, hl]; rfl))
  exact this _ l rfl
theorem treesOf_len (ps : List Part) : (treesOf ps).length = ps.length := by
  refine snoc_ind (P := fun ps => (treesOf ps).length = ps.length) rfl (fun l x ih => ?_) ps
  rw [treesOf_snoc, List.length_append, List.length_append, ih]
  rfl
theorem treesOf_app (ps qs : List Part) : ∃ ts, treesOf (ps ++ qs) = treesOf ps ++ ts := by
  refine snoc_ind (P := fun qs => ∃ ts, treesOf (ps ++ qs) = treesOf ps ++ ts) ⟨[], by simp⟩ (fun l x ih => ?_) qs
  obtain ⟨ts, e⟩ := ih
  refine ⟨ts ++ [node (treesOf (ps ++ l)) x], ?_⟩
  rw [← List.append_assoc, treesOf_snoc, e, List.append_assoc]
theorem treeAt_app {ps : List Part} (qs : List Part) {i : Nat} (h : i < ps.length) : treeAt (ps ++ qs) i = treeAt ps i := by
  obtain ⟨ts, e⟩ := treesOf_app ps qs
  unfold treeAt
  rw [e, List.getD_eq_getElem?_getD, List.getElem?_append_left (by rw [treesOf_len]; exact h), ← List.getD_eq_getElem?_getD]
/-- references are to parts ahead -/
def Refd (n : Nat) (p : Part) : Prop := ∀ i ∈ Part.refs p, i < n
def WR (ps : List Part) : Prop := ∀ (k : Nat) (p : Part), ps[k]? = some p → Refd k p
theorem node_eq {ts us : List Tr} {n : Nat} {p : Part} (h : ∀ i, i < n → ts.getD i (.c true) = us.getD i (.c true)) (hp : Refd n p) : node ts p = node us p := by
  cases p with
  | c b => rfl
  | letter a => rfl
  | un u i => rw [node, node, h i (hp i (by simp [Part.refs]))]
  | bin u i j => rw [node, node, h i (hp i (by simp [Part.refs])), h j (hp j (by simp [Part.refs]))]
theorem treeAt_get {ps : List Part} (wf : WR ps) {k : Nat} {p : Part} (e : ps[k]? = some p) : treeAt ps k = node (treesOf ps) p := by
  obtain ⟨hk, ek⟩ := List.getElem?_eq_some_iff.mp e
  have e1 : ps = (ps.take k ++ [p]) ++ ps.drop (k + 1) := by
    rw [List.append_assoc, List.singleton_append, ← ek, List.getElem_cons_drop, List.take_append_drop]
  have hlt : (ps.take k).length = k := by rw [List.length_take]; omega
  have e2 : treeAt ps k = node (treesOf (ps.take k)) p := by
    have e4 : treeAt ps k = treeAt (ps.take k ++ [p]) k := by
      have := treeAt_app (ps := ps.take k ++ [p]) (ps.drop (k + 1)) (i := k) (by rw [List.length_append, hlt]; exact Nat.lt_succ_self k)
      rw [← e1] at this
      exact this
    rw [e4]
    unfold treeAt
    rw [treesOf_snoc, List.getD_eq_getElem?_getD, List.getElem?_append_right (by rw [treesOf_len, hlt]; exact Nat.le_refl _), treesOf_len, hlt, Nat.sub_self]
    rfl
  rw [e2]
  refine node_eq (n := k) (fun i hi => ?_) (wf k p e)
  have e3 : treeAt ps i = treeAt (ps.take k) i := by
    have := treeAt_app (ps := ps.take k) (ps.drop k) (i := i) (by rw [hlt]; exact hi)
    rw [List.take_append_drop] at this
    exact this
  exact e3.symm
/-! ### numbers and places as the program keeps them -/
def numOf (nums : List (Nat × Nat)) (i : Nat) : Option Nat := (nums.find? fun p => decide (p.1 = i)).map (·.2)
def numsK (nums : List (Nat × Nat)) : List (Key × V) := nums.map fun p => (.inl (p.1 : Int), intV p.2)
theorem numsK_val (i : Nat) : ∀ nums : List (Nat × Nat), valV (numsK nums) (.inl (i : Int)) = (numOf nums i).map intV
  | [] => rfl
  | p :: nums => by
    unfold numsK numOf
    rw [List.map_cons, List.find?_cons]
    by_cases h : p.1 = i
    · rw [valV_pos (by rw [h]), decide_eq_true h]
      rfl
    · rw [valV_neg (by intro e; injection e with e; omega), decide_eq_false h]
      exact numsK_val i nums
theorem numsK_put {nums : List (Nat × Nat)} {i : Nat} (k : Nat) (h : numOf nums i = none) : putK (numsK nums) (.inl (i : Int)) (intV k) = numsK (nums ++ [(i, k)]) := by
  rw [putK_new _ (by rw [numsK_val, h]; rfl)]
  unfold numsK
  rw [List.map_append]
  rfl
theorem numOf_mem {nums : List (Nat × Nat)} {i k : Nat} (h : numOf nums i = some k) : (i, k) ∈ nums := by
  unfold numOf at h
  cases e : nums.find? fun p => decide (p.1 = i) with
  | none => rw [e] at h; cases h
  | some q =>
    rw [e] at h
    have h1 := List.find?_some e
    have h2 := List.mem_of_find?_eq_some e
    injection h with h
    rw [← of_decide_eq_true h1, ← h]
    exact h2
theorem numOf_none {nums : List (Nat × Nat)} {i : Nat} (h : numOf nums i = none) : i ∉ nums.map (·.1) := by
  unfold numOf at h
  rw [Option.map_eq_none_iff, List.find?_eq_none] at h
  intro hm
  obtain ⟨q, hq, e⟩ := List.mem_map.mp hm
  exact h q hq (decide_eq_true e)
theorem none_numOf {nums : List (Nat × Nat)} {i : Nat} (h : i ∉ nums.map (·.1)) : numOf nums i = none := by
  unfold numOf
  rw [Option.map_eq_none_iff, List.find?_eq_none]
  intro q hq e
  exact h (List.mem_map.mpr ⟨q, hq, of_decide_eq_true e⟩)
theorem U1.nm_inj : ∀ {u v : U1}, u.nm = v.nm → u = v := by
  intro u v
  cases u <;> cases v <;> first | exact fun _ => rfl | exact fun h => absurd h (by decide +kernel)
theorem U2.nm_inj : ∀ {u v : U2}, u.nm = v.nm → u = v := by
  intro u v
  cases u <;> cases v <;> first | exact fun _ => rfl | exact fun h => absurd h (by decide +kernel)
theorem keys_inj {p q : Part} (h : p.keys = q.keys) : p = q := by
  have cnI : ∀ {a b : Bool}, cnm a = cnm b → a = b := by
    intro a b
    cases a <;> cases b <;> first | exact fun _ => rfl | exact fun h => absurd h (by decide +kernel)
  have n1 : ∀ u : U1, ("letter" : Str) ≠ u.nm := by intro u; cases u <;> decide +kernel
  cases p with
  | c a =>
    cases q with
    | c b => simp only [Part.keys, List.cons.injEq, Sum.inr.injEq, and_true] at h; rw [cnI h]
    | letter b => simp [Part.keys] at h
    | un u i => simp [Part.keys] at h
    | bin u i j => simp [Part.keys] at h
  | letter a =>
    cases q with
    | c b => simp [Part.keys] at h
    | letter b =>
      simp only [Part.keys, List.cons.injEq, Sum.inr.injEq, and_true, true_and] at h
      have := SX.S_inj h
      simp only [List.cons.injEq, and_true] at this
      rw [this]
    | un u i => simp [Part.keys] at h
    | bin u i j => simp [Part.keys] at h
  | un u i =>
    cases q with
    | c b => simp [Part.keys] at h
    | letter b => simp [Part.keys] at h
    | un v j =>
      simp only [Part.keys, List.cons.injEq, Sum.inr.injEq, Sum.inl.injEq, and_true] at h
      rw [U1.nm_inj h.1, show i = j by omega]
    | bin v j k => simp [Part.keys] at h
  | bin u i j =>
    cases q with
    | c b => simp [Part.keys] at h
    | letter b => simp [Part.keys] at h
    | un v k => simp [Part.keys] at h
    | bin v k m =>
      simp only [Part.keys, List.cons.injEq, Sum.inr.injEq, Sum.inl.injEq, and_true] at h
      rw [U2.nm_inj h.1, show i = k by omega, show j = m by omega]
def placesF (n : Nat) : List Part → List (List Key × V)
  | [] => []
  | p :: L => (p.keys, intV n) :: placesF (n + 1) L
theorem placesF_app : ∀ (n : Nat) (L : List Part) (p : Part), placesF n (L ++ [p]) = placesF n L ++ [(p.keys, intV (n + L.length))]
  | n, [], p => rfl
  | n, q :: L, p => by
    rw [List.cons_append, placesF, placesF, placesF_app (n + 1) L p, List.cons_append, List.length_cons]
    congr 5
    omega
theorem placesF_val : ∀ (n : Nat) (L : List Part) (p : Part), valV (placesF n L) p.keys = if p ∈ L then some (intV (n + L.idxOf p)) else none
  | n, [], p => by simp [placesF, valV_nil]
  | n, q :: L, p => by
    unfold placesF
    by_cases h : q = p
    · subst h
      rw [valV_pos rfl, if_pos (by simp), List.idxOf_cons_self]
      rfl
    · rw [valV_neg (fun e => h (keys_inj e)), placesF_val (n + 1) L p]
      have hp : ¬ p = q := fun e => h e.symm
      by_cases m : p ∈ L
      · rw [if_pos m, if_pos (List.mem_cons_of_mem _ m), show (q :: L).idxOf p = L.idxOf p + 1 by rw [List.idxOf_cons, show (q == p) = false from beq_false_of_ne h]; rfl]
        congr 2
        omega
      · rw [if_neg m, if_neg (by simp [hp, m])]
abbrev placesOf (L : List Part) : List (List Key × V) := placesF 0 L
theorem placesOf_val (L : List Part) (p : Part) : valV (placesOf L) p.keys = if p ∈ L then some (intV (L.idxOf p)) else none := by
  rw [placesF_val, Nat.zero_add]
theorem placesOf_put {L : List Part} {p : Part} (h : p ∉ L) : putK (placesOf L) p.keys (intV L.length) = placesOf (L ++ [p]) := by
  rw [putK_new _ (by rw [placesOf_val, if_neg h]), show placesOf (L ++ [p]) = _ from placesF_app 0 L p, Nat.zero_add]
theorem placesF_len : ∀ (n : Nat) (L : List Part), (placesF n L).length = L.length
  | _, [] => rfl
  | n, _ :: L => by rw [placesF, List.length_cons, List.length_cons, placesF_len]
/-- different numbers below n -/
theorem nd_len : ∀ {n : Nat} {l : List Nat}, l.Nodup → (∀ x ∈ l, x < n) → l.length ≤ n
  | 0, l, _, h => by
    cases l with
    | nil => exact Nat.le_refl _
    | cons x l => exact absurd (h x (by simp)) (by omega)
  | n + 1, l, hd, h => by
    have h1 := nd_len (n := n) (l := l.erase n) (hd.erase n) (fun x hx => by
      have := (List.Nodup.mem_erase_iff hd).mp hx
      have := h x this.2
      omega)
    rw [List.length_erase] at h1
    split at h1
    · omega
    · omega
end Sh
set_option Elab.async false
set_option linter.all false
set_option maxRecDepth 100000
set_option maxHeartbeats 4000000
namespace K71
open PySem PySem.Spec PyProof.Rows L2 Sh
open SX (S)
local macro_rules | `(tactic| walk_at "v1") => `(tactic| first
  | with_reducible refine v_seq ?_ | with_reducible refine v_asg ?_ | ((with_reducible refine' v_name ?e ?_); (case e => exact rfl)) | with_reducible refine v_ret ?_ | with_reducible refine v_drop ?_ | with_reducible refine v_next ?_
  | with_reducible refine v_if ?_ | with_reducible refine v_op ?_ | with_reducible refine v_c ?_ | ((with_reducible refine' v_var ?e ?_); (case e => exact rfl))
  | with_reducible refine v_I0 ?_ | with_reducible refine v_test ?_ | with_reducible refine v_B ?_ | with_reducible refine v_bl ?_ | with_reducible refine v_not ?_ | with_reducible refine v_and ?_ | with_reducible refine v_or ?_
  | with_reducible refine v_andV ?_ | with_reducible refine v_orV ?_ | with_reducible refine v_notV ?_ | with_reducible refine v_ife ?_
  | with_reducible refine v_nil ?_ | with_reducible refine v_cons ?_ | with_reducible refine v_tup ?_ | with_reducible refine v_lst ?_ | with_reducible refine v_call ?_ | with_reducible refine v_cb ?_ | with_reducible refine v_int ?_ | with_reducible refine v_abs ?_
  | ((with_reducible refine' v_eq ?e ?_); (case e => exact rfl)) | ((with_reducible refine' v_ne ?e ?_); (case e => exact rfl)) | with_reducible refine v_sub ?_ | with_reducible refine v_isN ?_ | with_reducible refine v_notN ?_
  | with_reducible refine v_part ?_ | with_reducible refine v_nopart ?_ | with_reducible refine v_pint ?_ | with_reducible refine v_inSg ?_ | with_reducible refine v_notInSg ?_
  | ((with_reducible refine' v_ixL ?l ?a ?_); (case l => assumption); (case a => exact at_lit _ rfl)) | ((with_reducible refine' v_ixT ?l ?a ?_); (case l => assumption); (case a => exact at_lit _ rfl))
  | ((with_reducible refine v_I ?c ?_); (case c => (first | omega | (unfold CMul; omega) | (unfold CDivN; omega) | (unfold CPow; omega))))
  | with_reducible refine v_for ?_ | with_reducible refine v_iList ?_ | with_reducible refine v_iTup ?_ | with_reducible refine v_iStr ?_ | with_reducible refine v_iR1 ?_ | with_reducible refine v_iR2 ?_ | with_reducible refine v_atS ?_ | with_reducible refine v_sl ?_ | with_reducible refine v_lc ?_ | with_reducible refine v_yes ?_
  | with_reducible refine v_m1 ?_ | with_reducible refine v_m1S ?_ | with_reducible refine v_bm ?_ | with_reducible refine v_bm0 ?_ | with_reducible refine v_dnewK ?_ | with_reducible refine v_dnewT ?_ | with_reducible refine v_dget ?_ | with_reducible refine v_din ?_ | with_reducible refine v_dnotin ?_ | with_reducible refine v_dput ?_ | with_reducible refine v_chain ?_ | with_reducible refine v_un ?_ | with_reducible refine v_neg ?_
  | with_reducible refine v_brk ?_ | with_reducible refine v_cont ?_)
local macro_rules | `(tactic| walk_at "v") => `(tactic| repeat (walk_at "v1"))
local macro_rules | `(tactic| walk_at "vm") => `(tactic| repeat (first | ((with_reducible refine v_modP ?c ?_); (case c => omega); (intro _ _ _)) | walk_at "v1"))
local macro_rules | `(tactic| walk_at "iv") => `(tactic| (try dsimp only; refine IV.mk (by assumption) (by assumption) ?_))
local macro_rules | `(tactic| walk_at "n") => `(tactic| dsimp only [List.set_cons_zero, List.set_cons_succ])
theorem vals_hd (p : Part) : p.vals[0]? = some (.str (Part.nm p)) := by cases p <;> rfl
theorem vals_ref {p : Part} (h : Part.isRef p = true) : p.vals = .str (Part.nm p) :: (Part.refs p).map intV := by cases p <;> first | rfl | cases h
theorem refs_no {p : Part} (h : Part.isRef p = false) : Part.refs p = [] := by cases p <;> first | rfl | cases h
theorem mapR_no {p : Part} (f : Nat → Nat) (h : Part.isRef p = false) : Part.mapR f p = p := by cases p <;> first | rfl | cases h
theorem mapR_ref {p : Part} (f : Nat → Nat) (h : Part.isRef p = true) : (Part.mapR f p).vals = .str (Part.nm p) :: ((Part.refs p).map f).map intV := by cases p <;> first | rfl | cases h
theorem refs_len (p : Part) : (Part.refs p).length ≤ 2 := by cases p <;> simp [Part.refs]
section
variable {P : Program} {w : World} {K : PySem.W.Frag} {mg : Str → Option Value} {base : Heap}
theorem ref_none (T : Txt K mg w) {p : Part} (h : Part.isRef p = false) : PySem.W.nsIn K T.a_REF (Part.nm p) = some none := by
  cases p with
  | c b =>
    cases b with
    | true => exact T.refers ("yes", none) (by decide +kernel)
    | false => exact T.refers ("no", none) (by decide +kernel)
  | letter a => exact T.refers ("letter", none) (by decide +kernel)
  | _ => cases h
theorem ref_one (T : Txt K mg w) {p : Part} (h : Part.isRef p = true) : ∃ t, PySem.W.nsIn K T.a_REF (Part.nm p) = some (some (.int 1 t)) := by
  cases p with
  | un u i => cases u <;> first | exact T.refers ("not", some 1) (by decide +kernel) | exact T.refers ("next", some 1) (by decide +kernel) | exact T.refers ("prev", some 1) (by decide +kernel)
  | bin u i j => cases u <;> first | exact T.refers ("and", some 1) (by decide +kernel) | exact T.refers ("or", some 1) (by decide +kernel) | exact T.refers ("until", some 1) (by decide +kernel) | exact T.refers ("since", some 1) (by decide +kernel)
  | _ => cases h
theorem ref_kd (T : Txt K mg w) {p : Part} (h : Part.isRef p = true) : KDct K w T.a_REF (Part.nm p) (.int 1) := by
  obtain ⟨t, ht⟩ := ref_one T h
  exact ⟨_, _, _, T.d_REF.at_, T.d_REF.lit, ht, ⟨t, rfl⟩⟩
/-! ### referred -/
def sp_p_referred (K : PySem.W.Frag) : Sp := fun vs H Q _ => ∃ (B : Hp) (M : List (Addr × HO)) (v : V) (p : Part), vs = [v] ∧ Hs B M H ∧ Rp K B v (partD false p) ∧ ∀ (a : Addr) (B' H' : Hp), Le B B' → Hs B' M H' → B' a = some (.tup ((Part.refs p).map intV)) → Q (.ref a) H'
def t_p_referred (T : Txt K mg w) : TS := (tSeq (tIfS (tTest (tOp (rNotInKd K T.a_REF) (tOp (rIxT K) (tVar 0) (tC (.int 0))) (tC (.ref T.a_REF)))) (tRet (tTup tNil)) tNext)
    (tRet (tCB (rCTup K) (tCons (tSl (rSlA K) (tVar 0) (tPart (tOp (rIxD K w) (tC (.ref T.a_REF)) (tOp (rIxT K) (tVar 0) (tC (.int 0))))) tNoPart) tNil))))
theorem pure_p_referred (T : Txt K mg w) (vs : List V) (H : Hp) (Q : VK) (E : XK) (h : sp_p_referred K vs H Q E) : t_p_referred T { nx := fun _ H' => Q .non H', rt := Q } (start n_p_referred vs) H := by
  obtain ⟨B, M, v, p, rfl, hs, hv, q⟩ := h
  obtain ⟨pa, rfl, hP⟩ := rp_part hv
  show t_p_referred T _ [some (V.ref pa)] H
  unfold t_p_referred
  walk_at "v"
  refine v_ixT (hs.t (SqT.of hP)) (at_lit 0 (vals_hd p)) ?_
  walk_at "v"
  cases c0 : Part.isRef p with
  | false =>
    refine ⟨_, _, rfl, rfl, ref_none T c0, ?_⟩
    walk_at "v"
    refine iteT' rfl ?_
    walk_at "v"
    refine v_size (by show 0 ≤ sizeLine; decide) (v_newB hs fun tp B1 H1 l1 hs1 e1 => ?_)
    refine q tp _ _ l1 hs1 ?_
    rw [refs_no c0]
    exact e1
  | true =>
    obtain ⟨t, ht⟩ := ref_one T c0
    refine ⟨_, _, rfl, rfl, ht, ?_⟩
    walk_at "v"
    refine iteF' rfl ?_
    walk_at "v"
    refine v_ixT (hs.t (SqT.of hP)) (at_lit 0 (vals_hd p)) ?_
    refine ⟨_, _, _, rfl, rfl, ref_kd T c0, ?_⟩
    walk_at "v"
    refine v_slAB hs hP fun sl B1 H1 l1 hs1 e1 => ?_
    rw [show cutV p.vals (some (1 : Int)) none = p.vals.drop 1 from cut_from p.vals 1, vals_ref c0, List.drop_succ_cons, List.drop_zero] at e1
    walk_at "v"
    exact v_tupleT (hs1.t (SqT.of e1)) (q sl _ _ l1 hs1 e1)
/-! ### renumbered -/
def sp_p_renumbered (K : PySem.W.Frag) : Sp := fun vs H Q _ => ∃ (B : Hp) (M : List (Addr × HO)) (v : V) (p : Part) (nn : Addr) (f : Nat → Nat), vs = [v, .ref nn] ∧ Hs B M H ∧ Rp K B v (partD false p) ∧
  ((∃ xs, Rdl K B M nn xs ∧ ∀ i ∈ Part.refs p, xs[i]? = some (intV (f i))) ∨ (∃ kvs, (nn, HO.dK kvs) ∈ M ∧ ∀ i ∈ Part.refs p, valV kvs (.inl (i : Int)) = some (intV (f i)))) ∧
  ∀ (v' : V) (B' H' : Hp), Le B B' → Hs B' M H' → Rp K B' v' (partD false (Part.mapR f p)) → Q v' H'
def t_p_renumbered (T : Txt K mg w) : TS := (tSeq (tIfS (tTest (tOp (rNotInKd K T.a_REF) (tOp (rIxT K) (tVar 0) (tC (.int 0))) (tC (.ref T.a_REF)))) (tRet (tVar 0)) tNext)
    (tSeq (tAsg (tOp (rIxD K w) (tC (.ref T.a_REF)) (tOp (rIxT K) (tVar 0) (tC (.int 0)))) (gName 2))
    (tRet (tOp (rCatA K) (tCB (rCTup K) (tCons (tSl (rSlA K) (tVar 0) tNoPart (tPart (tVar 2))) tNil)) (tCB (rCTup K) (tCons (tLc (iTup K (tSl (rSlA K) (tVar 0) (tPart (tVar 2)) tNoPart)) (gName 3) tYes (tAlt (tOp (rIxL K) (tVar 1) (tVar 3)) (tDGet (tVar 1) (tVar 3))) [3]) tNil))))))
theorem pure_p_renumbered (T : Txt K mg w) (vs : List V) (H : Hp) (Q : VK) (E : XK) (h : sp_p_renumbered K vs H Q E) : t_p_renumbered T { nx := fun _ H' => Q .non H', rt := Q } (start n_p_renumbered vs) H := by
  obtain ⟨B, M, v, p, nn, f, rfl, hs, hv, hn, q⟩ := h
  obtain ⟨pa, rfl, hP⟩ := rp_part hv
  show t_p_renumbered T _ [some (V.ref pa), some (V.ref nn), none, none] H
  unfold t_p_renumbered
  walk_at "v"
  refine v_ixT (hs.t (SqT.of hP)) (at_lit 0 (vals_hd p)) ?_
  walk_at "v"
  cases c0 : Part.isRef p with
  | false =>
    refine ⟨_, _, rfl, rfl, ref_none T c0, ?_⟩
    walk_at "v"
    refine iteT' rfl ?_
    walk_at "v"
    refine q _ _ _ (Same.refl B) hs ?_
    rw [mapR_no f c0]
    exact hv
  | true =>
    obtain ⟨t, ht⟩ := ref_one T c0
    refine ⟨_, _, rfl, rfl, ht, ?_⟩
    walk_at "v"
    refine iteF' rfl ?_
    walk_at "v"
    refine v_ixT (hs.t (SqT.of hP)) (at_lit 0 (vals_hd p)) ?_
    refine ⟨_, _, _, rfl, rfl, ref_kd T c0, ?_⟩
    walk_at "v"
    refine v_slAB hs hP fun s1 B1 H1 l1 hs1 e1 => ?_
    rw [show cutV p.vals none (some (1 : Int)) = p.vals.take 1 from cut_to p.vals 1, vals_ref c0, List.take_succ_cons, List.take_zero] at e1
    walk_at "v"
    refine v_tupleT (hs1.t (SqT.of e1)) ?_
    walk_at "v"
    refine v_slAB hs1 (l1 _ _ hP) fun s2 B2 H2 l2 hs2 e2 => ?_
    rw [show cutV p.vals (some (1 : Int)) none = p.vals.drop 1 from cut_from p.vals 1, vals_ref c0, List.drop_succ_cons, List.drop_zero] at e2
    refine v_atT (hs2.t (SqT.of e2)) ?_
    refine v_lcT (SqT.of e2) hs2 (fun i acc B' M' => M' = M ∧ acc = (((Part.refs p).take i).map f).map intV) ⟨rfl, rfl⟩ ?_ ?_
    · rintro i x p1 acc B3 M' H3 hi hx ha l3 h3 ⟨rfl, rfl⟩
      obtain ⟨j, hj, rfl⟩ := map_some hx
      have hjm : j ∈ Part.refs p := List.mem_of_getElem? hj
      have hl2 := refs_len p
      rw [List.length_map] at hi
      walk_at "v"
      refine ⟨rfl, ?_⟩
      walk_at "v"
      refine iteT ?_
      have fin : IE B2 (fun i acc B' M'' => M'' = M' ∧ acc = (((Part.refs p).take i).map f).map intV) p1 (i + 1) (intV (f j)) H3 := by
        refine IE.mk ha hi (by omega) l3 h3 ⟨rfl, ?_⟩
        rw [List.take_add_one, hj, List.map_append, List.map_append]
        rfl
      rcases hn with ⟨xs, hr, hf⟩ | ⟨kvs, hr, hf⟩
      · refine Or.inl ?_
        walk_at "v"
        exact v_ixL (hr.sq (l1.trans (l2.trans l3)) (fun x hx => List.mem_cons_of_mem _ hx) h3) (atI_nat (hf j hjm)) fin
      · refine Or.inr ?_
        walk_at "v"
        exact v_dgetI (h3.at (List.mem_cons_of_mem _ hr)) (hf j hjm) fin
    · rintro p1 acc B3 M' H3 ha l3 h3 ⟨rfl, rfl⟩
      walk_at "v"
      rw [List.length_map, List.take_length] at h3
      have hl2 := refs_len p
      refine v_tupLB h3.drop (SqL.of h3.hd) fun s3 B4 H4 l4 h4 e4 => ?_
      have l14 := l2.trans (l3.trans l4)
      refine v_catAB h4 (l14 _ _ e1) e4 (by simp; exact sz_of (by omega)) fun s4 B5 H5 l5 h5 e5 => ?_
      refine q _ _ _ (l1.trans (l14.trans l5)) h5 ?_
      refine part_rp (l := false) ?_
      rw [mapR_ref f c0]
      exact e5
theorem ok_p_referred (T : Txt K mg w) : FnOk P w K mg base CX0 1 T.a_p_referred T.fd_p_referred ["part"] (sp_p_referred K) := by
  refine T.F_p_referred.ok sc_p_referred (fun vs H Q E h => ?_) (fun cdv A outer s H vs Q E hr h => ⟨t_p_referred T, ?_, pure_p_referred T vs H Q E h⟩)
  · obtain ⟨B, M, v, p, rfl, _⟩ := h
    rfl
  · exact (pss_cons (ps_if (pt_cmpR (op_notIn_kd T.d_REF) (pe_ix ix_tup (pv 0) pe_int (fun _ _ => rfl)) (pe_glob rfl T.g_REF rfl) (by rfl)) (pss_one (ps_ret (pe_tup pa_nil))) pss_nil)
      (pss_one (ps_ret (pe_callTy call_tuple_of (by rfl) (T.free_tuple) (by decide +kernel) (pa_cons (pe_slice sl_tupA (pv 0) (po_some (pe_ix ix_kdict (pe_glob rfl T.g_REF rfl) (pe_ix ix_tup (pv 0) pe_int (fun _ _ => rfl)) (fun _ _ => rfl))) po_none) pa_nil)))))
theorem ok_p_renumbered (T : Txt K mg w) : FnOk P w K mg base CX0 1 T.a_p_renumbered T.fd_p_renumbered ["part", "numbers"] (sp_p_renumbered K) := by
  refine T.F_p_renumbered.ok sc_p_renumbered (fun vs H Q E h => ?_) (fun cdv A outer s H vs Q E hr h => ⟨t_p_renumbered T, ?_, pure_p_renumbered T vs H Q E h⟩)
  · obtain ⟨B, M, v, p, nn, f, rfl, _⟩ := h
    rfl
  · exact (pss_cons (ps_if (pt_cmpR (op_notIn_kd T.d_REF) (pe_ix ix_tup (pv 0) pe_int (fun _ _ => rfl)) (pe_glob rfl T.g_REF rfl) (by rfl)) (pss_one (ps_ret (pv 0))) pss_nil)
      (pss_cons (ps_set (i := 2) sc_p_renumbered.nd rfl (by first | exact Or.inl rfl | exact Or.inr rfl) (pe_ix ix_kdict (pe_glob rfl T.g_REF rfl) (pe_ix ix_tup (pv 0) pe_int (fun _ _ => rfl)) (fun _ _ => rfl)))
      (pss_one (ps_ret (pe_op op_catA (pe_callTy call_tuple_of (by rfl) (T.free_tuple) (by decide +kernel) (pa_cons (pe_slice sl_tupA (pv 0) po_none (po_some (pv 2))) pa_nil)) (pe_callTy call_tuple_of (by rfl) (T.free_tuple) (by decide +kernel) (pa_cons (pe_lc (own := [("one", 3)]) (g := (gName 3)) (tt := tYes) rfl sc_p_renumbered.nd (pi_tup (pe_slice sl_tupA (pv 0) (po_some (pv 2)) po_none)) (blkOk_by (own := [("one", 3)]) (N := n_p_renumbered) (sc := defScope s_p_renumbered) (by decide +kernel)) (fun _ _ _ _ _ => (pg_name (i := 3) sc_p_renumbered.nd rfl (Or.inl rfl))) (fun _ _ _ _ _ => pts_nil) (fun _ _ _ _ _ => (pe_alt (pe_ix ix_list (pv 1) (pv 3) (fun _ _ => rfl)) (pe_dget (hu_of hr) (pv 1) (pv 3) (fun _ _ => rfl))))) pa_nil)))))))
end
end K71
set_option Elab.async false
set_option linter.all false
set_option maxRecDepth 100000
/-! the pile's loop in plain words -/
namespace Sh
open PySem PySem.Spec PyProof.Rows L2
open SX (S)
structure TI (ps : List Part) (last : Nat) (nums : List (Nat × Nat)) (L : List Part) (st : List Nat) : Prop where
  nd : L.Nodup
  loc : ∀ q ∈ nums, Loc L (treeAt ps q.1) q.2
  knd : (nums.map (·.1)).Nodup
  kle : ∀ q ∈ nums, q.1 ≤ last
  lt : st.Pairwise (· < ·)
  le : ∀ x ∈ st, x ≤ last
  new : ∀ x ∈ st, numOf nums x = none
  fold : st.foldl (fun L x => (ins (treeAt ps x) L).1) L = (ins (treeAt ps last) []).1
  len : L.length ≤ nums.length
def TI.top (st : List Nat) : Nat := match st with
  | [] => 0
  | x :: _ => x + 1
def TI.mea (last : Nat) (nums : List (Nat × Nat)) (st : List Nat) : Nat := (last + 1 - nums.length) * (last + 1) + TI.top st
theorem TI.start (ps : List Part) (last : Nat) : TI ps last [] [] [last] :=
  ⟨by simp, by simp, by simp, by simp, by simp, by simp, by intro x _; rfl, rfl, by simp⟩
section
variable {ps : List Part} {last x : Nat} {nums : List (Nat × Nat)} {L : List Part} {st : List Nat}
theorem TI.num {i k : Nat} (h : TI ps last nums L st) (e : numOf nums i = some k) : Loc L (treeAt ps i) k := h.loc _ (numOf_mem e)
theorem TI.push (h : TI ps last nums L (x :: st)) (wf : WR ps) {p : Part} (e : ps[x]? = some p) {y : Nat} {ys : List Nat} (hf : (Part.refs p).filter (fun i => (numOf nums i).isNone) = y :: ys) :
    TI ps last nums L (y :: x :: st) ∧ TI.mea last nums (y :: x :: st) < TI.mea last nums (x :: st) := by
  have hy : y ∈ (Part.refs p).filter (fun i => (numOf nums i).isNone) := by rw [hf]; simp
  rw [List.mem_filter, Option.isNone_iff_eq_none] at hy
  have hyx : y < x := wf x p e y hy.1
  refine ⟨⟨h.nd, h.loc, h.knd, h.kle, ?_, ?_, ?_, ?_, h.len⟩, ?_⟩
  · rw [List.pairwise_cons]
    refine ⟨fun z hz => ?_, h.lt⟩
    rcases List.mem_cons.mp hz with rfl | hz
    · exact hyx
    · exact Nat.lt_trans hyx ((List.pairwise_cons.mp h.lt).1 z hz)
  · intro z hz
    rcases List.mem_cons.mp hz with rfl | hz
    · exact Nat.le_trans (Nat.le_of_lt hyx) (h.le x (by simp))
    · exact h.le z hz
  · intro z hz
    rcases List.mem_cons.mp hz with rfl | hz
    · exact hy.2
    · exact h.new z hz
  · rw [← h.fold, List.foldl_cons, List.foldl_cons, List.foldl_cons]
    congr 1
    have ex := treeAt_get wf e
    rw [ex]
    have ndi := ins_nd (treeAt ps y) h.nd
    have o1 := ins_old ndi (ins_loc (treeAt ps y) L)
    cases p with
    | c b => simp [Part.refs] at hf
    | letter a => simp [Part.refs] at hf
    | un u i =>
      have ey : y = i := by simpa [Part.refs] using hy.1
      subst ey
      show (putP (ins (treeAt ps y) (ins (treeAt ps y) L).1).1 (.un u (ins (treeAt ps y) (ins (treeAt ps y) L).1).2)).1 = (putP (ins (treeAt ps y) L).1 (.un u (ins (treeAt ps y) L).2)).1
      rw [o1]
    | bin u i j =>
      show (ins (.bin u (treeAt ps i) (treeAt ps j)) (ins (treeAt ps y) L).1).1 = (ins (.bin u (treeAt ps i) (treeAt ps j)) L).1
      rw [ins, ins]
      by_cases ci : numOf nums i = none
      · have ey : y = i := by
          rw [Part.refs, List.filter_cons_of_pos (by rw [ci]; rfl)] at hf
          injection hf with h1 _
          exact h1.symm
        subst ey
        rw [o1]
      · obtain ⟨k, ek⟩ := Option.ne_none_iff_exists'.mp ci
        have ey : y = j := by
          rw [Part.refs, List.filter_cons_of_neg (by rw [ek]; exact Bool.false_ne_true), List.filter_cons] at hf
          split at hf
          · injection hf with h1 _
            exact h1.symm
          · cases hf
        subst ey
        have li := h.num ek
        rw [ins_old ndi (li.ins (treeAt ps y)), ins_old h.nd li, o1]
  · unfold TI.mea TI.top
    dsimp only
    omega
/-- the new number of a reference -/
abbrev newN (nums : List (Nat × Nat)) (i : Nat) : Nat := (numOf nums i).getD 0
theorem TI.all (hf : (Part.refs p).filter (fun i => (numOf nums i).isNone) = []) {i : Nat} (hi : i ∈ Part.refs p) : numOf nums i = some (newN nums i) := by
  rw [List.filter_eq_nil_iff] at hf
  have := hf i hi
  unfold newN
  cases e : numOf nums i with
  | none => rw [e] at this; exact absurd rfl this
  | some k => rfl
theorem TI.put (h : TI ps last nums L (x :: st)) (wf : WR ps) {p : Part} (e : ps[x]? = some p) (hf : (Part.refs p).filter (fun i => (numOf nums i).isNone) = []) :
    TI ps last (nums ++ [(x, (putP L (Part.mapR (newN nums) p)).2)]) (putP L (Part.mapR (newN nums) p)).1 st ∧ TI.mea last (nums ++ [(x, (putP L (Part.mapR (newN nums) p)).2)]) st < TI.mea last nums (x :: st) := by
  have ei : ins (treeAt ps x) L = putP L (Part.mapR (newN nums) p) := by
    rw [treeAt_get wf e]
    cases p with
    | c b => rfl
    | letter a => rfl
    | un u i =>
      show putP (ins (treeAt ps i) L).1 (.un u (ins (treeAt ps i) L).2) = putP L (.un u (newN nums i))
      rw [ins_old h.nd (h.num (TI.all hf (i := i) (by simp [Part.refs])))]
    | bin u i j =>
      show ins (.bin u (treeAt ps i) (treeAt ps j)) L = putP L (.bin u (newN nums i) (newN nums j))
      rw [ins, ins_old h.nd (h.num (TI.all hf (i := i) (by simp [Part.refs]))), ins_old h.nd (h.num (TI.all hf (i := j) (by simp [Part.refs])))]
  rw [← ei]
  have hx := h.new x (by simp)
  have hn := numOf_none hx
  have lt := List.pairwise_cons.mp h.lt
  have knd : ((nums ++ [(x, (ins (treeAt ps x) L).2)]).map (·.1)).Nodup := by rw [List.map_append]; exact nd_snoc h.knd hn
  have kle : ∀ q ∈ nums ++ [(x, (ins (treeAt ps x) L).2)], q.1 ≤ last := by
    intro q hq
    rcases List.mem_append.mp hq with hq | hq
    · exact h.kle q hq
    · rw [List.mem_singleton.mp hq]
      exact h.le x (by simp)
  have nl : (nums ++ [(x, (ins (treeAt ps x) L).2)]).length ≤ last + 1 := by
    rw [← List.length_map (f := (·.1))]
    refine nd_len knd fun z hz => ?_
    obtain ⟨q, hq, rfl⟩ := List.mem_map.mp hz
    exact Nat.lt_succ_of_le (kle q hq)
  refine ⟨⟨ins_nd _ h.nd, ?_, knd, kle, lt.2, fun z hz => h.le z (List.mem_cons_of_mem _ hz), ?_, ?_, ?_⟩, ?_⟩
  · intro q hq
    rcases List.mem_append.mp hq with hq | hq
    · exact (h.loc q hq).ins _
    · rw [List.mem_singleton.mp hq]
      exact ins_loc _ _
  · intro z hz
    refine none_numOf fun hm => ?_
    rw [List.map_append] at hm
    rcases List.mem_append.mp hm with hm | hm
    · exact numOf_none (h.new z (List.mem_cons_of_mem _ hz)) hm
    · have ez : z = x := by simpa using hm
      have := lt.1 z hz
      omega
  · rw [← h.fold, List.foldl_cons]
  · rw [ei, List.length_append]
    have := h.len
    unfold putP
    split <;> simp <;> omega
  · have hle : ∀ y ∈ st, y ≤ last := fun y hy => h.le y (List.mem_cons_of_mem _ hy)
    unfold TI.mea
    rw [List.length_append] at nl ⊢
    have t1 : TI.top st ≤ last + 1 := by
      cases st with
      | nil => exact Nat.zero_le _
      | cons y st => exact Nat.succ_le_succ (hle y (by simp))
    have e1 : last + 1 - nums.length = (last + 1 - (nums.length + [(x, (ins (treeAt ps x) L).2)].length)) + 1 := by simp at nl ⊢; omega
    rw [e1, Nat.succ_mul]
    show _ + TI.top st < _ + (x + 1)
    omega
theorem TI.done (h : TI ps last nums L []) : L = (ins (treeAt ps last) []).1 := h.fold
theorem TI.nums_len (h : TI ps last nums L st) : nums.length ≤ last + 1 := by
  rw [← List.length_map (f := (·.1))]
  refine nd_len h.knd fun z hz => ?_
  obtain ⟨q, hq, rfl⟩ := List.mem_map.mp hz
  exact Nat.lt_succ_of_le (h.kle q hq)
theorem TI.st_len (h : TI ps last nums L st) : st.length ≤ last + 1 :=
  nd_len (h.lt.imp fun h => Nat.ne_of_lt h) fun z hz => Nat.lt_succ_of_le (h.le z hz)
end
end Sh
set_option Elab.async false
set_option linter.all false
set_option maxRecDepth 100000
set_option maxHeartbeats 4000000
namespace K71
open PySem PySem.Spec PyProof.Rows L2 Sh
open SX (S)
local macro_rules | `(tactic| walk_at "v1") => `(tactic| first
  | with_reducible refine v_seq ?_ | with_reducible refine v_asg ?_ | ((with_reducible refine' v_name ?e ?_); (case e => exact rfl)) | with_reducible refine v_ret ?_ | with_reducible refine v_drop ?_ | with_reducible refine v_next ?_
  | with_reducible refine v_if ?_ | with_reducible refine v_op ?_ | with_reducible refine v_c ?_ | ((with_reducible refine' v_var ?e ?_); (case e => exact rfl))
  | with_reducible refine v_I0 ?_ | with_reducible refine v_test ?_ | with_reducible refine v_B ?_ | with_reducible refine v_bl ?_ | with_reducible refine v_not ?_ | with_reducible refine v_and ?_ | with_reducible refine v_or ?_
  | with_reducible refine v_andV ?_ | with_reducible refine v_orV ?_ | with_reducible refine v_notV ?_ | with_reducible refine v_ife ?_
  | with_reducible refine v_nil ?_ | with_reducible refine v_cons ?_ | with_reducible refine v_tup ?_ | with_reducible refine v_lst ?_ | with_reducible refine v_call ?_ | with_reducible refine v_cb ?_ | with_reducible refine v_int ?_ | with_reducible refine v_abs ?_
  | ((with_reducible refine' v_eq ?e ?_); (case e => exact rfl)) | ((with_reducible refine' v_ne ?e ?_); (case e => exact rfl)) | with_reducible refine v_sub ?_ | with_reducible refine v_isN ?_ | with_reducible refine v_notN ?_
  | with_reducible refine v_part ?_ | with_reducible refine v_nopart ?_ | with_reducible refine v_pint ?_ | with_reducible refine v_inSg ?_ | with_reducible refine v_notInSg ?_
  | ((with_reducible refine' v_ixL ?l ?a ?_); (case l => assumption); (case a => exact at_lit _ rfl)) | ((with_reducible refine' v_ixT ?l ?a ?_); (case l => assumption); (case a => exact at_lit _ rfl))
  | ((with_reducible refine v_I ?c ?_); (case c => (first | omega | (unfold CMul; omega) | (unfold CDivN; omega) | (unfold CPow; omega))))
  | with_reducible refine v_for ?_ | with_reducible refine v_iList ?_ | with_reducible refine v_iTup ?_ | with_reducible refine v_iStr ?_ | with_reducible refine v_iR1 ?_ | with_reducible refine v_iR2 ?_ | with_reducible refine v_atS ?_ | with_reducible refine v_sl ?_ | with_reducible refine v_lc ?_ | with_reducible refine v_yes ?_
  | with_reducible refine v_m1 ?_ | with_reducible refine v_m1S ?_ | with_reducible refine v_bm ?_ | with_reducible refine v_bm0 ?_ | with_reducible refine v_dnewK ?_ | with_reducible refine v_dnewT ?_ | with_reducible refine v_dget ?_ | with_reducible refine v_din ?_ | with_reducible refine v_dnotin ?_ | with_reducible refine v_dput ?_ | with_reducible refine v_chain ?_ | with_reducible refine v_un ?_ | with_reducible refine v_neg ?_
  | with_reducible refine v_brk ?_ | with_reducible refine v_cont ?_)
local macro_rules | `(tactic| walk_at "v") => `(tactic| repeat (walk_at "v1"))
local macro_rules | `(tactic| walk_at "vm") => `(tactic| repeat (first | ((with_reducible refine v_modP ?c ?_); (case c => omega); (intro _ _ _)) | walk_at "v1"))
local macro_rules | `(tactic| walk_at "iv") => `(tactic| (try dsimp only; refine IV.mk (by assumption) (by assumption) ?_))
local macro_rules | `(tactic| walk_at "n") => `(tactic| dsimp only [List.set_cons_zero, List.set_cons_succ])
def sp_p_tidied (K : PySem.W.Frag) : Sp := fun vs H Q _ => ∃ (B : Hp) (M : List (Addr × HO)) (sa : Addr) (xs : List V) (ps : List Part) (last : Nat), vs = [.ref sa, .int (last : Int)] ∧ Hs B M H ∧ SqL K B sa xs ∧ RpAll K B xs (ps.map (partD false)) ∧ WR ps ∧ last < ps.length ∧ ps.length ≤ 100000 ∧
  ∀ (v' : V) (B' H' : Hp), Le B B' → Hs B' M H' → Rp K B' v' (sheetD false false (ins (treeAt ps last) []).1) → Q v' H'
section
variable {P : Program} {w : World} {K : PySem.W.Frag} {mg : Str → Option Value} {base : Heap}
def t_p_tidied (K : PySem.W.Frag) : TS := (tSeq (tAsg tDNewK (gName 2))
    (tSeq (tAsg tDNewT (gName 3))
    (tSeq (tAsg (tLst tNil) (gName 4))
    (tSeq (tAsg (tLst (tCons (tVar 1) tNil)) (gName 5))
    (tSeq (tWhile (tTest (tOp rGtI (tCB (rCLen K) (tCons (tVar 5) tNil)) (tC (.int 0)))) (tSeq (tAsg (tOp (rIxL K) (tVar 5) (tUn (rU fun i => .int (-i)) (tC (.int 1)))) (gName 6))
    (tSeq (tAsg (tLc (iTup K (tCall (sp_p_referred K) [] E0 (tCons (tOp (rIxL K) (tVar 0) (tVar 6)) tNil))) (gName 8) (tB (tDNotIn (tVar 8) (tVar 2))) (tVar 8) [8]) (gName 7))
    (tIfS (tB (tDIn (tVar 6) (tVar 2))) (tDrop (tBM0 K "list" rPop (tVar 5))) (tIfS (tTest (tOp rGtI (tCB (rCLen K) (tCons (tVar 7) tNil)) (tC (.int 0)))) (tDrop (tBM K "list" rAppend (tVar 5) (tCons (tOp (rIxL K) (tVar 7) (tC (.int 0))) tNil))) (tSeq (tDrop (tBM0 K "list" rPop (tVar 5)))
    (tSeq (tAsg (tCall (sp_p_renumbered K) [] E0 (tCons (tOp (rIxL K) (tVar 0) (tVar 6)) (tCons (tVar 2) tNil))) (gName 9))
    (tSeq (tIfS (tB (tDNotIn (tVar 9) (tVar 3))) (tSeq (sDPut (tVar 3) (tVar 9) (tCB (rCLen K) (tCons (tVar 4) tNil)))
    (tDrop (tBM K "list" rAppend (tVar 4) (tCons (tVar 9) tNil)))) tNext)
    (sDPut (tVar 2) (tVar 6) (tDGet (tVar 3) (tVar 9)))))))))))
    (tRet (tCB (rCTup K) (tCons (tVar 4) tNil))))))))
theorem pure_p_tidied {K : PySem.W.Frag} (vs : List V) (H : Hp) (Q : VK) (E : XK) (h : sp_p_tidied K vs H Q E) : t_p_tidied K { nx := fun _ H' => Q .non H', rt := Q } (start n_p_tidied vs) H := by
  obtain ⟨B, M, sa, xs, ps, last, rfl, hs, hS, hX, wf, hl, hn, q⟩ := h
  have hxl : xs.length = ps.length := by rw [hX.length, List.length_map]
  show t_p_tidied K _ [some (V.ref sa), some (V.int (last : Int)), none, none, none, none, none, none, none, none] H
  unfold t_p_tidied
  walk_at "v"
  refine v_newM hs fun na H1 hs1 => ?_
  walk_at "v"
  refine v_newM hs1 fun pa H2 hs2 => ?_
  walk_at "v"
  refine v_size (by show 0 ≤ sizeLine; decide) (v_newM hs2 fun ta H3 hs3 => ?_)
  walk_at "v"
  refine v_size (by show 1 ≤ sizeLine; decide) (v_newM hs3 fun la H4 hs4 => ?_)
  walk_at "v"
  refine v_while (fun m σ B' M' => ∃ (nums : List (Nat × Nat)) (L : List Part) (st : List Nat) (ts : List V) (y6 y7 y8 y9 : Option V), TI ps last nums L st ∧ m = TI.mea last nums st ∧ RpAll K B' ts (L.map (partD false)) ∧
    M' = (la, .lst (st.reverse.map intV)) :: (ta, .lst ts) :: (pa, .dT (placesOf L)) :: (na, .dK (numsK nums)) :: M ∧
    σ = [some (V.ref sa), some (V.int (last : Int)), some (V.ref na), some (V.ref pa), some (V.ref ta), some (V.ref la), y6, y7, y8, y9]) hs4 (TI.mea last [] [last])
    ⟨[], [], [last], [], _, _, _, _, TI.start ps last, rfl, .nil, rfl, rfl⟩ ?_
  rintro m σ' B1 M' H5 l1 h1 ⟨nums, L, st, ts, y6, y7, y8, y9, ti, rfl, hts, rfl, rfl⟩
  have nl := ti.nums_len
  have tl : ts.length = L.length := by rw [hts.length, List.length_map]
  have Ll := ti.len
  walk_at "v"
  refine v_lenL (SqL.of h1.hd) ?_
  walk_at "v"
  cases st with
  | nil =>
    refine iteF' rfl ?_
    walk_at "v"
    refine v_tupLB h1 (SqL.of (h1.atI 1 rfl)) fun rp B2 H6 l2 h2 e2 => ?_
    refine q _ _ _ (l1.trans l2) h2.drop.drop.drop.drop ?_
    rw [← ti.done]
    exact mk_rp (l := false) e2 (hts.up l2)
  | cons x st =>
    have xle := ti.le x (by simp)
    have hxp : x < ps.length := by omega
    obtain ⟨p, ep⟩ : ∃ p, ps[x]? = some p := ⟨_, List.getElem?_eq_getElem hxp⟩
    obtain ⟨pv, e1, hp1⟩ := hX.get (i := x) (d := partD false p) (by rw [List.getElem?_map, ep]; rfl)
    have er : (x :: st).reverse.map intV = st.reverse.map intV ++ [intV x] := by rw [List.reverse_cons, List.map_append]; rfl
    have hnx := ti.new x (by simp)
    refine iteT' (decide_eq_true (by simp)) ?_
    refine v_turn ?_
    walk_at "v"
    refine v_ixL (SqL.of h1.hd) (by rw [er]; exact atI_last _ _) ?_
    walk_at "v"
    refine v_ixL (h1.l (le_l l1 hS)) (atI_nat e1) ?_
    walk_at "v"
    refine ⟨B1, _, pv, p, rfl, h1, hp1.up l1, fun ra B2 H6 l2 h2 e2 => ?_⟩
    refine v_atT (h2.t (SqT.of e2)) ?_
    refine v_lcT (SqT.of e2) h2 (fun i acc B' M' => M' = (la, .lst ((x :: st).reverse.map intV)) :: (ta, .lst ts) :: (pa, .dT (placesOf L)) :: (na, .dK (numsK nums)) :: M ∧ acc = (((Part.refs p).take i).filter fun i => (numOf nums i).isNone).map intV) ⟨rfl, rfl⟩ ?_ ?_
    · rintro i z p1 acc B3 M' H7 hi hz ha l3 h3 ⟨rfl, rfl⟩
      obtain ⟨j, hj, rfl⟩ := map_some hz
      have rl := refs_len p
      rw [List.length_map] at hi
      walk_at "v"
      refine ⟨rfl, ?_⟩
      walk_at "v"
      refine v_dninI (h3.atI 4 rfl) ?_
      rw [numsK_val, Option.isSome_map]
      cases c0 : numOf nums j with
      | none =>
        refine ⟨true, rfl, iteT ?_⟩
        walk_at "v"
        refine IE.mk ha hi (by omega) l3 h3 ⟨rfl, ?_⟩
        rw [List.take_add_one, hj, List.filter_append, List.map_append, show (some j).toList = [j] from rfl, List.filter_cons_of_pos (by rw [c0]; rfl)]
        rfl
      | some k =>
        refine ⟨false, rfl, iteF ?_⟩
        refine IP.mk (Nat.le_succ_of_le ha) l3 h3 ⟨rfl, ?_⟩
        rw [List.take_add_one, hj, List.filter_append, List.map_append, show (some j).toList = [j] from rfl, List.filter_cons_of_neg (by rw [c0]; exact Bool.false_ne_true)]
        simp
    · rintro p1 acc B3 M' H7 ha l3 h3 ⟨rfl, rfl⟩
      rw [List.length_map, List.take_length] at h3
      walk_at "v"
      refine v_dinI (h3.atI 4 rfl) ?_
      rw [numsK_val, hnx]
      refine ⟨false, rfl, iteF ?_⟩
      walk_at "v"
      refine v_lenL (SqL.of h3.hd) ?_
      walk_at "v"
      have l123 := l1.trans (l2.trans l3)
      cases hf : (Part.refs p).filter fun i => (numOf nums i).isNone with
      | cons y ys =>
        rw [hf] at h3
        refine iteT' (decide_eq_true (by simp)) ?_
        walk_at "v"
        refine v_bmL (h3.atI 1 rfl) ?_
        walk_at "v"
        refine v_ixL (v := intV y) (SqL.of h3.hd) (at_lit 0 rfl) ?_
        walk_at "v"
        have stl := ti.st_len
        refine v_appI h3 1 rfl (by rw [List.length_map, List.length_reverse]; omega) fun H8 h4 => ?_
        walk_at "v"
        obtain ⟨t1, t2⟩ := ti.push wf ep hf
        refine ⟨_, t2, IV.mk l123 h4.drop ⟨nums, L, y :: x :: st, ts, _, _, _, _, t1, rfl, (hts.up (l2.trans l3)), ?_, rfl⟩⟩
        rw [List.reverse_cons (a := y), List.map_append]
        rfl
      | nil =>
        rw [hf] at h3
        refine iteF' rfl ?_
        walk_at "v"
        refine v_popI h3 1 (by rw [er]; rfl) fun H8 h4 => ?_
        walk_at "v"
        refine v_ixL (h4.l (le_l l123 hS)) (atI_nat e1) ?_
        walk_at "v"
        refine ⟨B3, _, pv, p, na, newN nums, rfl, h4, hp1.up l123, .inr ⟨numsK nums, by simp, fun i hi => by rw [numsK_val, TI.all hf hi]; rfl⟩, fun v' B4 H9 l4 h5 hv' => ?_⟩
        obtain ⟨b, rfl, eb⟩ := rp_part hv'
        have eb' : B4 b = some (.tup ((Part.mapR (newN nums) p).keys.map kV)) := eb
        obtain ⟨t1, t2⟩ := ti.put wf ep hf
        walk_at "v"
        refine v_dninT (h5.atI 3 rfl) (h5.sub _ _ eb') ?_
        rw [placesOf_val]
        by_cases cm : Part.mapR (newN nums) p ∈ L
        · rw [if_pos cm]
          refine ⟨false, rfl, iteF ?_⟩
          walk_at "v"
          refine v_dgetT (h5.atI 3 rfl) (h5.sub _ _ eb') (by rw [placesOf_val, if_pos cm]) ?_
          walk_at "v"
          refine v_dputII h5 4 rfl (by unfold numsK; rw [List.length_map]; omega) fun H10 h6 => ?_
          walk_at "v"
          have e5 : putP L (Part.mapR (newN nums) p) = (L, L.idxOf (Part.mapR (newN nums) p)) := if_pos cm
          rw [e5] at t1 t2
          refine ⟨_, t2, IV.mk (l123.trans l4) h6.drop ⟨_, L, st, ts, _, _, _, _, t1, rfl, (hts.up (l2.trans (l3.trans l4))), ?_, rfl⟩⟩
          rw [← numsK_put _ hnx]
          rfl
        · rw [if_neg cm]
          refine ⟨true, rfl, iteT ?_⟩
          walk_at "v"
          refine v_lenL (SqL.of (h5.atI 2 rfl)) ?_
          walk_at "v"
          refine v_dputTI h5 3 rfl eb' (by rw [placesF_len]; omega) fun H10 h6 => ?_
          walk_at "v"
          refine v_bmL (h6.atI 2 rfl) ?_
          walk_at "v"
          refine v_appI h6 2 rfl (by omega) fun H11 h7 => ?_
          walk_at "v"
          rw [tl, show putK (placesOf L) (Part.mapR (newN nums) p).keys (V.int ((L.length : Nat) : Int)) = placesOf (L ++ [Part.mapR (newN nums) p]) from placesOf_put cm] at h7
          refine v_dgetT (h7.atI 3 rfl) (h7.sub _ _ eb') (by rw [placesOf_val, if_pos (by simp)]) ?_
          walk_at "v"
          refine v_dputII h7 4 rfl (by unfold numsK; rw [List.length_map]; omega) fun H12 h8 => ?_
          walk_at "v"
          have e5 : putP L (Part.mapR (newN nums) p) = (L ++ [Part.mapR (newN nums) p], L.length) := if_neg cm
          rw [e5] at t1 t2
          have ei : (L ++ [Part.mapR (newN nums) p]).idxOf (Part.mapR (newN nums) p) = L.length := by
            exact nd_get t1.nd (idx_get (by simp)) (by simp)
          refine ⟨_, t2, IV.mk (l123.trans l4) h8.drop ⟨_, _, st, ts ++ [V.ref b], _, _, _, _, t1, rfl, ?_, ?_, rfl⟩⟩
          · rw [List.map_append]
            exact (hts.up (l2.trans (l3.trans l4))).append (.one hv')
          · rw [← numsK_put _ hnx, ei]
            rfl
theorem ok_p_tidied (T : Txt K mg w) : FnOk P w K mg base CX0 2 T.a_p_tidied T.fd_p_tidied ["sheet", "last"] (sp_p_tidied K) := by
  refine T.F_p_tidied.ok sc_p_tidied (fun vs H Q E h => ?_) (fun cdv A outer s H vs Q E hr h => ⟨t_p_tidied K, ?_, pure_p_tidied vs H Q E h⟩)
  · obtain ⟨B, M, sa, xs, ps, last, rfl, _⟩ := h
    rfl
  · exact (pss_cons (ps_set (i := 2) sc_p_tidied.nd rfl (by first | exact Or.inl rfl | exact Or.inr rfl) pe_dnewK)
      (pss_cons (ps_set (i := 3) sc_p_tidied.nd rfl (by first | exact Or.inl rfl | exact Or.inr rfl) pe_dnewT)
      (pss_cons (ps_set (i := 4) sc_p_tidied.nd rfl (by first | exact Or.inl rfl | exact Or.inr rfl) (pe_lst pa_nil))
      (pss_cons (ps_set (i := 5) sc_p_tidied.nd rfl (by first | exact Or.inl rfl | exact Or.inr rfl) (pe_lst (pa_cons (pv 1) pa_nil)))
      (pss_cons (ps_while PassesOwn.never (pt_cmpR op_gt (pe_callB call_len (by rfl) (T.free_len) (by decide +kernel) (pa_cons (pv 5) pa_nil)) pe_int (nomark _)) (pss_cons (ps_set (i := 6) sc_p_tidied.nd rfl (by first | exact Or.inl rfl | exact Or.inr rfl) (pe_ix ix_list (pv 5) (pe_un un_neg pe_int) (fun _ _ => rfl)))
      (pss_cons (ps_setLc (i := 7) (own := [("other", 8)]) (g := (gName 8)) (tt := (tB (tDNotIn (tVar 8) (tVar 2)))) rfl sc_p_tidied.nd rfl rfl (sw_true rfl rfl rfl (by decide +kernel)) (pi_tup (pe_call (ok_p_referred T) hr (by rfl) T.g_p_referred T.F_p_referred.kp T.b_p_referred .nil pass0 (pa_cons (pe_ix ix_list (pv 0) (pv 6) (fun _ _ => rfl)) pa_nil))) (blkOk_by (own := [("other", 8)]) (N := n_p_tidied) (sc := defScope s_p_tidied) (by decide +kernel)) (fun _ _ _ _ _ => (pg_name (i := 8) sc_p_tidied.nd rfl (Or.inl rfl))) (fun _ _ _ _ _ => (pts_one (pt_cmp (pc_dnotin (hu_of hr) (pv 8) (pv 2))))) (fun _ _ _ _ _ => (pv 8)))
      (pss_one (ps_if (pt_cmp (pc_din (hu_of hr) (pv 6) (pv 2))) (pss_one (ps_expr (pe_bm0 PySem.F.plainAttrs_list PySem.F.slot_list_pop PySem.F.type_list_pop mt_pop (pv 5)))) (pss_one (ps_if (pt_cmpR op_gt (pe_callB call_len (by rfl) (T.free_len) (by decide +kernel) (pa_cons (pv 7) pa_nil)) pe_int (nomark _)) (pss_one (ps_expr (pe_bm PySem.F.plainAttrs_list PySem.F.slot_list_append PySem.F.type_list_append mt_append (pv 5) (pa_cons (pe_ix ix_list (pv 7) pe_int (fun _ _ => rfl)) pa_nil)))) (pss_cons (ps_expr (pe_bm0 PySem.F.plainAttrs_list PySem.F.slot_list_pop PySem.F.type_list_pop mt_pop (pv 5)))
      (pss_cons (ps_set (i := 9) sc_p_tidied.nd rfl (by first | exact Or.inl rfl | exact Or.inr rfl) (pe_call (ok_p_renumbered T) hr (by rfl) T.g_p_renumbered T.F_p_renumbered.kp T.b_p_renumbered .nil pass0 (pa_cons (pe_ix ix_list (pv 0) (pv 6) (fun _ _ => rfl)) (pa_cons (pv 2) pa_nil))))
      (pss_cons (ps_if (pt_cmp (pc_dnotin (hu_of hr) (pv 9) (pv 3))) (pss_cons (ps_dput (hu_of hr) (pv 3) (pv 9) (pe_callB call_len (by rfl) (T.free_len) (by decide +kernel) (pa_cons (pv 4) pa_nil)) rfl)
      (pss_one (ps_expr (pe_bm PySem.F.plainAttrs_list PySem.F.slot_list_append PySem.F.type_list_append mt_append (pv 4) (pa_cons (pv 9) pa_nil))))) pss_nil)
      (pss_one (ps_dput (hu_of hr) (pv 2) (pv 6) (pe_dget (hu_of hr) (pv 3) (pv 9) (fun _ _ => rfl)) rfl))))))))))))
      (pss_one (ps_ret (pe_callTy call_tuple_of (by rfl) (T.free_tuple) (by decide +kernel) (pa_cons (pv 4) pa_nil)))))))))
end
end K71
set_option Elab.async false
set_option linter.all false
set_option maxRecDepth 100000
set_option maxHeartbeats 4000000
namespace K71
open PySem PySem.Spec PyProof.Rows L2 Sh
open SX (S)
local macro_rules | `(tactic| walk_at "v1") => `(tactic| first
  | with_reducible refine v_seq ?_ | with_reducible refine v_asg ?_ | ((with_reducible refine' v_name ?e ?_); (case e => exact rfl)) | with_reducible refine v_ret ?_ | with_reducible refine v_drop ?_ | with_reducible refine v_next ?_
  | with_reducible refine v_if ?_ | with_reducible refine v_op ?_ | with_reducible refine v_c ?_ | ((with_reducible refine' v_var ?e ?_); (case e => exact rfl))
  | with_reducible refine v_I0 ?_ | with_reducible refine v_test ?_ | with_reducible refine v_B ?_ | with_reducible refine v_bl ?_ | with_reducible refine v_not ?_ | with_reducible refine v_and ?_ | with_reducible refine v_or ?_
  | with_reducible refine v_andV ?_ | with_reducible refine v_orV ?_ | with_reducible refine v_notV ?_ | with_reducible refine v_ife ?_
  | with_reducible refine v_nil ?_ | with_reducible refine v_cons ?_ | with_reducible refine v_tup ?_ | with_reducible refine v_lst ?_ | with_reducible refine v_call ?_ | with_reducible refine v_cb ?_ | with_reducible refine v_int ?_ | with_reducible refine v_abs ?_
  | ((with_reducible refine' v_eq ?e ?_); (case e => exact rfl)) | ((with_reducible refine' v_ne ?e ?_); (case e => exact rfl)) | with_reducible refine v_sub ?_ | with_reducible refine v_isN ?_ | with_reducible refine v_notN ?_
  | with_reducible refine v_part ?_ | with_reducible refine v_nopart ?_ | with_reducible refine v_pint ?_ | with_reducible refine v_inSg ?_ | with_reducible refine v_notInSg ?_
  | ((with_reducible refine' v_ixL ?l ?a ?_); (case l => assumption); (case a => exact at_lit _ rfl)) | ((with_reducible refine' v_ixT ?l ?a ?_); (case l => assumption); (case a => exact at_lit _ rfl))
  | ((with_reducible refine v_I ?c ?_); (case c => (first | omega | (unfold CMul; omega) | (unfold CDivN; omega) | (unfold CPow; omega))))
  | with_reducible refine v_for ?_ | with_reducible refine v_iList ?_ | with_reducible refine v_iTup ?_ | with_reducible refine v_iStr ?_ | with_reducible refine v_iR1 ?_ | with_reducible refine v_iR2 ?_ | with_reducible refine v_atS ?_ | with_reducible refine v_sl ?_ | with_reducible refine v_lc ?_ | with_reducible refine v_yes ?_
  | with_reducible refine v_m1 ?_ | with_reducible refine v_m1S ?_ | with_reducible refine v_bm ?_ | with_reducible refine v_bm0 ?_ | with_reducible refine v_dnewK ?_ | with_reducible refine v_dnewT ?_ | with_reducible refine v_dget ?_ | with_reducible refine v_din ?_ | with_reducible refine v_dnotin ?_ | with_reducible refine v_dput ?_ | with_reducible refine v_chain ?_ | with_reducible refine v_un ?_ | with_reducible refine v_neg ?_
  | with_reducible refine v_brk ?_ | with_reducible refine v_cont ?_)
local macro_rules | `(tactic| walk_at "v") => `(tactic| repeat (walk_at "v1"))
local macro_rules | `(tactic| walk_at "vm") => `(tactic| repeat (first | ((with_reducible refine v_modP ?c ?_); (case c => omega); (intro _ _ _)) | walk_at "v1"))
local macro_rules | `(tactic| walk_at "iv") => `(tactic| (try dsimp only; refine IV.mk (by assumption) (by assumption) ?_))
local macro_rules | `(tactic| walk_at "n") => `(tactic| dsimp only [List.set_cons_zero, List.set_cons_succ])
section
variable {P : Program} {w : World} {K : PySem.W.Frag} {mg : Str → Option Value} {base : Heap}
/-! ### check_alphabet -/
def sp_p_check_alphabet (T : Txt K mg w) : Sp := fun vs H Q E => ∃ (B : Hp) (M : List (Addr × HO)) (v : V) (d : PyData), vs = [v] ∧ Hs B M H ∧ Rp K B v d ∧ (∀ z, d = .str z → z.length ≤ 1000000) ∧
  (isAlphaD d = true → ∀ (B' H' : Hp), Le B B' → Hs B' M H' → Q .non H') ∧ (isAlphaD d = false → Thr B M E T.a_BadAlphabet "thing" v)
def t_p_check_alphabet (T : Txt K mg w) (E : XK) : TS := (tIfS (tNot (tB (tCall (sp_p_is_alphabet K) [] E0 (tCons (tVar 0) tNil)))) (tRaiseX T.a_BadAlphabet "thing" gvA (fun cls d _ H => E cls d H) (tCons (tVar 0) tNil)) tNext)
theorem pure_p_check_alphabet (T : Txt K mg w) (vs : List V) (H : Hp) (Q : VK) (E : XK) (h : sp_p_check_alphabet T vs H Q E) : t_p_check_alphabet T E { nx := fun _ H' => Q .non H', rt := Q } (start n_p_check_alphabet vs) H := by
  obtain ⟨B, M, v, d, rfl, hs, hv, hz, q, x⟩ := h
  show t_p_check_alphabet T E _ [some v] H
  unfold t_p_check_alphabet
  walk_at "v"
  refine ⟨B, M, v, d, rfl, hs, hv, hz, fun B1 H1 l1 hs1 => ?_⟩
  walk_at "v"
  cases c0 : isAlphaD d with
  | true =>
    refine iteF' rfl ?_
    walk_at "v"
    exact q c0 B1 H1 l1 hs1
  | false =>
    refine iteT' rfl ?_
    exact v_raise hs1 trivial ((x c0).le l1) fun q h => ⟨_, rfl, h⟩
/-! ### parts of sheets, as given -/
def Part.wid : Part → Option Int
  | .c _ => some 0
  | .letter _ => none
  | .un _ _ => some 1
  | .bin _ _ _ => some 2
def ofPart (li : Bool) (p : Part) : RawP := .mk li (Part.nm p) (Part.wid p) (p.dat.drop 1)
theorem ofPart_d (li : Bool) (p : Part) : (ofPart li p).d = partD li p := by cases p <;> rfl
theorem ofPart_ok (li : Bool) (p : Part) : (ofPart li p).ok := by
  refine ⟨?_, ?_, ?_⟩
  · cases p with
    | c b => cases b <;> exact (by decide +kernel)
    | letter a => exact (by decide +kernel : (("letter" : Str), (none : Option Int)) ∈ widthO)
    | un u i => cases u <;> first | exact (by decide +kernel : (("not" : Str), some (1 : Int)) ∈ widthO) | exact (by decide +kernel : (("next" : Str), some (1 : Int)) ∈ widthO) | exact (by decide +kernel : (("prev" : Str), some (1 : Int)) ∈ widthO)
    | bin u i j => cases u <;> first | exact (by decide +kernel : (("and" : Str), some (2 : Int)) ∈ widthO) | exact (by decide +kernel : (("or" : Str), some (2 : Int)) ∈ widthO) | exact (by decide +kernel : (("until" : Str), some (2 : Int)) ∈ widthO) | exact (by decide +kernel : (("since" : Str), some (2 : Int)) ∈ widthO)
  · cases p with
    | c b => intro x hx; cases hx
    | letter a =>
      intro x hx
      obtain rfl : x = .str (S [a]) := by simpa [Part.dat, Part.keys, kD] using hx
      show decide ((S [a]).length ≤ 1000000) = true
      exact decide_eq_true (by rw [S_length]; show 1 ≤ 1000000; decide)
    | un u i =>
      intro x hx
      obtain rfl : x = .int (i : Int) := by simpa [Part.dat, Part.keys, kD] using hx
      rfl
    | bin u i j =>
      intro x hx
      have h : x = .int (i : Int) ∨ x = .int (j : Int) := by simpa [Part.dat, Part.keys, kD] using hx
      rcases h with rfl | rfl <;> rfl
  · cases p <;> simp [Part.dat, Part.keys]
theorem ofPart_good {li : Bool} {p : Part} {al : List Nat} {k : Nat} (h : p.ok al k) : (ofPart li p).good al k = true := by
  have rin : ∀ i : Nat, i < k → isIntIn 0 ((k : Int) - 1) (.int (i : Int)) = true := fun i hi => by
    show (decide ((0 : Int) ≤ (i : Int)) && decide ((i : Int) ≤ (k : Int) - 1)) = true
    rw [decide_eq_true (by omega), decide_eq_true (by omega)]
    rfl
  cases p with
  | c b => cases b <;> rfl
  | letter a =>
    have e : (ofPart li (.letter a)).good al k = isLetterD al (.str (S [a])) := by
      show (if [PyData.str (S [a])].length = 1 ∧ ("letter" : Str) = "letter" then isLetterD al ([PyData.str (S [a])].getD 0 .none) else refersD k none [PyData.str (S [a])]) = _
      rw [if_pos ⟨rfl, rfl⟩]
      rfl
    rw [e]
    show (decide ((S [a]).length = 1) && (S [a]).cps.toList.all fun c => decide (c ∈ al)) = true
    rw [decide_eq_true (by rw [S_length]; rfl), Bool.true_and]
    show ([a].all fun c => decide (c ∈ al)) = true
    have h' : a ∈ al := h
    simp [h']
  | un u i =>
    have e : (ofPart li (.un u i)).good al k = refersD k (some 1) [.int (i : Int)] := by
      show (if [PyData.int (i : Int)].length = 1 ∧ u.nm = "letter" then isLetterD al ([PyData.int (i : Int)].getD 0 .none) else refersD k (some 1) [PyData.int (i : Int)]) = _
      rw [if_neg fun z => by
        have z2 : u.nm = "letter" := z.2
        cases u <;> revert z2 <;> decide +kernel]
    rw [e]
    show (decide ((1 : Int) = 1) && ([isIntIn 0 ((k : Int) - 1) (.int (i : Int))]).all id) = true
    rw [rin i h]
    rfl
  | bin u i j =>
    have e : (ofPart li (.bin u i j)).good al k = refersD k (some 2) [.int (i : Int), .int (j : Int)] := by
      show (if [PyData.int (i : Int), PyData.int (j : Int)].length = 1 ∧ u.nm = "letter" then isLetterD al ([PyData.int (i : Int), PyData.int (j : Int)].getD 0 .none) else refersD k (some 2) [PyData.int (i : Int), PyData.int (j : Int)]) = _
      rw [if_neg fun z => by have z1 : (2 : Nat) = 1 := z.1; omega]
    rw [e]
    show (decide ((2 : Int) = 2) && ([isIntIn 0 ((k : Int) - 1) (.int (i : Int)), isIntIn 0 ((k : Int) - 1) (.int (j : Int))]).all id) = true
    rw [rin i h.1, rin j h.2]
    rfl
/-! ### tense_sheet -/
def sp_p_tense_sheet (T : Txt K mg w) : Sp := fun vs H Q E => ∃ (B : Hp) (M : List (Addr × HO)) (v : V) (al : List Nat), vs = [.str (S al), v] ∧ Hs B M H ∧ isAlphaD (.str (S al)) = true ∧
  ((∃ d, Rp K B v d ∧ sheetLikeD d = false ∧ Thr B M E T.a_BadSheet "number" (.int (-1))) ∨
   (∃ (l : Bool) (rs : List RawP) (k : Nat) (r0 : RawP), Rp K B v (mkD l (rs.map RawP.d)) ∧ 1 ≤ rs.length ∧ rs.length ≤ 6000 ∧ (∀ p ∈ rs, p.ok) ∧ (∀ (j : Nat) (p : RawP), j < k → rs[j]? = some p → p.good al j = true) ∧ rs[k]? = some r0 ∧ r0.good al k = false ∧ Thr B M E T.a_BadSheet "number" (.int (k : Int))) ∨
   (∃ (l li : Bool) (ps : List Part), Rp K B v (sheetD l li ps) ∧ WF al ps ∧ 1 ≤ ps.length ∧ ps.length ≤ 6000 ∧ ∀ (v' : V) (B' H' : Hp), Le B B' → Hs B' M H' → Rp K B' v' (sheetD false false ps) → Q v' H'))
def t_p_tense_sheet (T : Txt K mg w) (E : XK) : TS := (tSeq (tDrop (tCall (sp_p_check_alphabet T) [] E (tCons (tVar 0) tNil)))
    (tSeq (tIfS (tNot (tB (tCall (sp_p_is_sheet_like K) [] E0 (tCons (tVar 1) tNil)))) (tRaiseX T.a_BadSheet "number" gvI (fun cls d _ H => E cls d H) (tCons (tUn (rU fun i => .int (-i)) (tC (.int 1))) tNil)) tNext)
    (tSeq (tFor (iEnumQ K (tCons (tVar 1) tNil)) (gTup K 2 (gCons (gName 2) (gCons (gName 3) gNil))) (tIfS (tNot (tB (tCall (sp_p_is_tense_part K) [] E0 (tCons (tVar 0) (tCons (tVar 3) (tCons (tVar 2) tNil)))))) (tRaiseX T.a_BadSheet "number" gvI (fun cls d _ H => E cls d H) (tCons (tVar 2) tNil)) tNext))
    (tRet (tCB (rCTup K) (tCons (tLc (iSeq K (tVar 1)) (gName 3) tYes (tCB (rCTup K) (tCons (tVar 3) tNil)) [3]) tNil))))))
theorem v_tupX {B H : Hp} {M : List (Addr × HO)} {Q : VK} {l : Bool} {p : Addr} {xs : List V} (hs : Hs B M H) (hx : SqX K B l p xs) (h : ∀ (p' : Addr) (B' H' : Hp), Le B B' → Hs B' M H' → B' p' = some (.tup xs) → Q (.ref p') H') : rCTup K [.ref p] H Q := by
  cases l with
  | true => exact v_tupLB hs (hs.l hx) h
  | false => exact v_tupleT (hs.t (SqT.of hx)) (h p B H (Same.refl B) hs hx)
theorem v_atQ {B H : Hp} {M : List (Addr × HO)} {l : Bool} {p : Addr} {xs : List V} {R : It → Hp → Prop} (hs : Hs B M H) (hx : SqX K B l p xs) (h : ∀ G : Hp → Prop, (∀ B' M' H', Le B B' → Hs B' M' H' → G H') → R (ItP G xs.length enumXs (fun i => xs[i]?)) H) : AtQ K [.ref p] H R := by
  cases l with
  | true => exact ⟨p, xs, rfl, .inl ⟨hs.l hx, h _ fun B' M' H' l h' => h'.l (le_l l hx)⟩⟩
  | false => exact ⟨p, xs, rfl, .inr ⟨hs.t (SqT.of hx), h _ fun B' M' H' l h' => h'.t (le_t l (SqT.of hx))⟩⟩
theorem pure_p_tense_sheet (T : Txt K mg w) (vs : List V) (H : Hp) (Q : VK) (E : XK) (h : sp_p_tense_sheet T vs H Q E) : t_p_tense_sheet T E { nx := fun _ H' => Q .non H', rt := Q } (start n_p_tense_sheet vs) H := by
  obtain ⟨B, M, v, al, rfl, hs, hal, alts⟩ := h
  have hall : al.length ≤ 1000000 := by
    have h1 := hal
    have h2 : isAlphaD (.str (S al)) = ((decide (1 ≤ al.length) && decide (al.length ≤ 8)) && ((al.map fun c => decide (c ∈ lettersL)).all id && ((List.range (al.length - 1)).map fun k => decide ([al.getD k 0] < [al.getD (k + 1) 0])).all id)) := rfl
    rw [h2, Bool.and_eq_true, Bool.and_eq_true] at h1
    have := of_decide_eq_true h1.1.2
    omega
  have alt : (∃ d, Rp K B v d ∧ sheetLikeD d = false ∧ Thr B M E T.a_BadSheet "number" (.int (-1))) ∨
      ∃ (l : Bool) (rs : List RawP) (k : Nat), Rp K B v (mkD l (rs.map RawP.d)) ∧ 1 ≤ rs.length ∧ rs.length ≤ 6000 ∧ (∀ p ∈ rs, p.ok) ∧ (∀ (j : Nat) (p : RawP), j < k → rs[j]? = some p → p.good al j = true) ∧ k ≤ rs.length ∧
        (∀ r0, rs[k]? = some r0 → r0.good al k = false ∧ Thr B M E T.a_BadSheet "number" (.int (k : Int))) ∧
        (k = rs.length → ∃ (li : Bool) (ps : List Part), rs = ps.map (ofPart li) ∧ ∀ (v' : V) (B' H' : Hp), Le B B' → Hs B' M H' → Rp K B' v' (sheetD false false ps) → Q v' H') := by
    rcases alts with h | ⟨l, rs, k, r0, h1, h2, h3, h4, h5, h6, h7, h8⟩ | ⟨l, li, ps, h1, h2, h3, h4, h5⟩
    · exact .inl h
    · have hk := (List.getElem?_eq_some_iff.mp h6).1
      refine .inr ⟨l, rs, k, h1, h2, h3, h4, h5, Nat.le_of_lt hk, fun r e => ?_, fun e => by omega⟩
      rw [h6] at e
      cases e
      exact ⟨h7, h8⟩
    · refine .inr ⟨l, ps.map (ofPart li), ps.length, ?_, by rw [List.length_map]; exact h3, by rw [List.length_map]; exact h4, fun p hp => ?_, fun j p hj e => ?_, by rw [List.length_map]; exact Nat.le_refl _, fun r e => ?_, fun _ => ⟨li, ps, rfl, h5⟩⟩
      · rw [List.map_map, show (RawP.d ∘ ofPart li) = partD li from funext (ofPart_d li)]
        exact h1
      · obtain ⟨q, _, rfl⟩ := List.mem_map.mp hp
        exact ofPart_ok li q
      · rw [List.getElem?_map] at e
        cases e2 : ps[j]? with
        | none => rw [e2] at e; cases e
        | some q =>
          rw [e2] at e
          cases e
          exact ofPart_good (h2 j q e2)
      · rw [List.getElem?_eq_none (by rw [List.length_map]; exact Nat.le_refl _)] at e
        cases e
  show t_p_tense_sheet T E _ [some (V.str (S al)), some v, none, none] H
  unfold t_p_tense_sheet
  walk_at "v"
  refine ⟨B, M, _, _, rfl, hs, .str _, fun z e => by cases e; rw [S_length]; exact hall, fun _ B1 H1 l1 hs1 => ?_, fun e => by rw [hal] at e; cases e⟩
  walk_at "v"
  rcases alt with ⟨d, hv, hd, x⟩ | ⟨l, rs, k, hv, n1, n6, hok, hgd, hk, hbad, hall⟩
  · refine ⟨B1, M, v, d, rfl, hs1, hv.up l1, fun B2 H2 l2 hs2 => ?_⟩
    walk_at "v"
    rw [hd]
    refine iteT' rfl ?_
    exact v_raise hs2 ⟨-1, rfl, by decide⟩ (x.le (l1.trans l2)) fun q h => ⟨1, rfl, h⟩
  · obtain ⟨sa, xs, rfl, hX, hA⟩ := rp_mk hv
    have hxl : xs.length = rs.length := by rw [hA.length, List.length_map]
    refine ⟨B1, M, _, _, rfl, hs1, hv.up l1, fun B2 H2 l2 hs2 => ?_⟩
    walk_at "v"
    have e0 : sheetLikeD (mkD l (rs.map RawP.d)) = true := by
      unfold sheetLikeD
      rw [isLT_of, items_mk, List.length_map, decide_eq_true n1, decide_eq_true n6]
      rfl
    rw [e0]
    refine iteF' rfl ?_
    walk_at "v"
    refine v_enumQ ?_
    walk_at "v"
    refine v_atQ hs2 (hX.up (l1.trans l2)) fun G hG => ?_
    refine v_forP hs2 hG (fun i σ B' M' => M' = M ∧ i ≤ k ∧ ∃ y2 y3 : Option V, σ = [some (V.str (S al)), some (V.ref sa), y2, y3]) ⟨rfl, Nat.zero_le _, _, _, rfl⟩ ?_ ?_
    · rintro i tp x y σ' B3 M' H3 hi hx hy l3 e3 h3 ⟨B4, l4, l5, rfl, hik, y2, y3, rfl⟩
      cases hx
      have l13 := l1.trans (l2.trans l3)
      obtain ⟨r, hr, hr2⟩ : ∃ r, rs[i]? = some r ∧ Rp K B y r.d := by
        obtain ⟨d, hd, hp⟩ := hA.getV hy
        rw [List.getElem?_map] at hd
        cases e : rs[i]? with
        | none => rw [e] at hd; cases hd
        | some r => rw [e] at hd; cases hd; exact ⟨r, rfl, hp⟩
      refine v_gTup2 (h3.t (SqT.of e3)) ?_
      refine v_name rfl (v_name rfl ?_)
      walk_at "n"
      walk_at "v"
      refine ⟨B3, _, y, r, al, i, rfl, h3, hr2.up l13, hok r (List.mem_of_getElem? hr), fun B5 H5 l6 h5 => ?_⟩
      walk_at "v"
      by_cases hlt : i < k
      · rw [hgd i r hlt hr]
        refine iteF' rfl ?_
        walk_at "v"
        try dsimp only
        exact IV.mk (l3.trans l6) h5 ⟨rfl, hlt, _, _, rfl⟩
      · obtain rfl : i = k := by omega
        obtain ⟨b1, b2⟩ := hbad r hr
        rw [b1]
        refine iteT' rfl ?_
        exact v_raise h5 ⟨(i : Int), rfl, by omega⟩ (b2.le (l13.trans l6)) fun q h => ⟨_, rfl, h⟩
    · rintro σ' B3 M' H3 l3 h3 ⟨rfl, hik, y2, y3, rfl⟩
      obtain ⟨li, ps, rfl, q⟩ := hall (by omega)
      have l13 := l1.trans (l2.trans l3)
      rw [List.map_map, show (RawP.d ∘ ofPart li) = partD li from funext (ofPart_d li)] at hA
      rw [List.length_map] at hxl n6
      (with_reducible refine v_ret ?_)
      (with_reducible refine v_cb ?_)
      (with_reducible refine v_cons ?_)
      refine v_lcX (i := 1) rfl (hX.up l13) h3 (fun i acc B' M2 => M2 = M' ∧ RpAll K B' acc ((ps.take i).map (partD false))) ⟨rfl, .nil⟩ ?_ ?_
      · rintro i x p acc B4 M2 H4 hi hx ha l4 h4 ⟨rfl, hacc⟩
        obtain ⟨d, hd, hp⟩ := hA.getV hx
        have hip : i < ps.length := by omega
        obtain rfl : d = partD li ps[i] := by
          rw [List.getElem?_map, List.getElem?_eq_getElem hip] at hd
          exact (Option.some.inj hd).symm
        obtain ⟨pa, rfl, hP⟩ := rp_part (hp.up (l13.trans l4))
        refine v_name rfl ?_
        refine ⟨rfl, ?_⟩
        walk_at "v"
        refine iteT ?_
        walk_at "v"
        refine v_tupX h4 hP fun p' B5 H5 l5 h5 e5 => ?_
        refine IE.mk ha hi (by omega) (l4.trans l5) h5 ⟨rfl, ?_⟩
        rw [List.take_add_one, List.getElem?_eq_getElem hip, show (some ps[i]).toList = [ps[i]] from rfl, List.map_append]
        exact (hacc.up l5).append (.one (part_rp (l := false) e5))
      · rintro p acc B4 M2 H4 ha l4 h4 ⟨rfl, hacc⟩
        walk_at "v"
        rw [hxl, List.take_length] at hacc
        refine v_tupLB h4.drop (SqL.of h4.hd) fun p' B5 H5 l5 h5 e5 => ?_
        exact q _ _ _ (l13.trans (l4.trans l5)) h5 (mk_rp (l := false) e5 (hacc.up l5))
theorem ok_p_check_alphabet (T : Txt K mg w) (TX : TxtX T P) : FnOk P w K mg base (L2N.CX P w) 4 T.a_p_check_alphabet T.fd_p_check_alphabet ["thing"] (sp_p_check_alphabet T) := by
  refine okN_of T.F_p_check_alphabet sc_p_check_alphabet (fun vs H Q E h => ?_) (fun cdv A outer s H vs Q E hr h => ⟨t_p_check_alphabet T E, ?_, pure_p_check_alphabet T vs H Q E h⟩)
  · obtain ⟨B, M, v, d, rfl, _⟩ := h
    rfl
  · exact (pss_one (ps_if (pt_not (pt_val (pe_call (ok_p_is_alphabet T) (hr.mono (by decide)) (by rfl) T.g_p_is_alphabet T.F_p_is_alphabet.kp T.b_p_is_alphabet .nil pass0 (pa_cons (pv 0) pa_nil)))) (pss_one (ps_raiseN rfl TX.x_BadAlphabet T.g_BadAlphabet T.free_super gvA_ok (depth_of hr) (L2N.takes_of rfl rfl rfl rfl) (pa_cons (pv 0) pa_nil) (by rfl))) pss_nil))
theorem ok_p_tense_sheet (T : Txt K mg w) (TX : TxtX T P) : FnOk P w K mg base (L2N.CX P w) 5 T.a_p_tense_sheet T.fd_p_tense_sheet ["alphabet", "sheet"] (sp_p_tense_sheet T) := by
  refine okN_of T.F_p_tense_sheet sc_p_tense_sheet (fun vs H Q E h => ?_) (fun cdv A outer s H vs Q E hr h => ⟨t_p_tense_sheet T E, ?_, pure_p_tense_sheet T vs H Q E h⟩)
  · obtain ⟨B, M, v, al, rfl, _⟩ := h
    rfl
  · exact (pss_cons (ps_expr (pe_call (ok_p_check_alphabet T TX) hr (by rfl) T.g_p_check_alphabet T.F_p_check_alphabet.kp T.b_p_check_alphabet .nil (L2N.passes_call (L2N.takes_of rfl rfl rfl rfl) (fun _ _ _ _ h => h)) (pa_cons (pv 0) pa_nil)))
      (pss_cons (ps_if (pt_not (pt_val (pe_call (ok_p_is_sheet_like T) (hr.mono (by decide)) (by rfl) T.g_p_is_sheet_like T.F_p_is_sheet_like.kp T.b_p_is_sheet_like .nil pass0 (pa_cons (pv 1) pa_nil)))) (pss_one (ps_raiseN rfl TX.x_BadSheet T.g_BadSheet T.free_super gvI_ok (depth_of hr) (L2N.takes_of rfl rfl rfl rfl) (pa_cons (pe_un un_neg pe_int) pa_nil) (by rfl))) pss_nil)
      (pss_cons (ps_for (passes_of rfl) rfl (pi_enumQ (by rfl) (T.free_enumerate) (pa_cons (pv 1) pa_nil)) (pg_tup rfl (pgs_cons (pg_name (i := 2) sc_p_tense_sheet.nd rfl (by first | exact Or.inl rfl | exact Or.inr rfl)) (pgs_cons (pg_name (i := 3) sc_p_tense_sheet.nd rfl (by first | exact Or.inl rfl | exact Or.inr rfl)) pgs_nil))) (pss_one (ps_if (pt_not (pt_val (pe_call (ok_p_is_tense_part T) (hr.mono (by decide)) (by rfl) T.g_p_is_tense_part T.F_p_is_tense_part.kp T.b_p_is_tense_part .nil pass0 (pa_cons (pv 0) (pa_cons (pv 3) (pa_cons (pv 2) pa_nil)))))) (pss_one (ps_raiseN rfl TX.x_BadSheet T.g_BadSheet T.free_super gvI_ok (depth_of hr) (L2N.takes_of rfl rfl rfl rfl) (pa_cons (pv 2) pa_nil) (by rfl))) pss_nil)))
      (pss_one (ps_ret (pe_callTy call_tuple_of (by rfl) (T.free_tuple) (by decide +kernel) (pa_cons (pe_lc (own := [("part", 3)]) (g := (gName 3)) (tt := tYes) rfl sc_p_tense_sheet.nd (pi_seq (pv 1)) (blkOk_by (own := [("part", 3)]) (N := n_p_tense_sheet) (sc := defScope s_p_tense_sheet) (by decide +kernel)) (fun _ _ _ _ _ => (pg_name (i := 3) sc_p_tense_sheet.nd rfl (Or.inl rfl))) (fun _ _ _ _ _ => pts_nil) (fun _ _ _ _ _ => (pe_callTy call_tuple_of (by rfl) (T.free_tuple) (by decide +kernel) (pa_cons (pv 3) pa_nil)))) pa_nil)))))))
end
end K71
set_option Elab.async false
set_option linter.all false
set_option maxRecDepth 100000
/-! sheets put into one another, as trees -/
namespace Sh
open PySem PySem.Spec PyProof.Rows L2
open SX (S)
def substT (f : Nat → Tr) : Tr → Tr
  | .c b => .c b
  | .letter a => f a
  | .un u t => .un u (substT f t)
  | .bin u t s => .bin u (substT f t) (substT f s)
def rootT (ps : List Part) : Tr := treeAt ps (ps.length - 1)
def shiftP (b : Nat) (g : List Part) : List Part := g.map (Part.mapR fun k => b + k)
theorem node_mapR {us ts : List Tr} {f : Nat → Nat} {p : Part} (h : ∀ i ∈ Part.refs p, us.getD (f i) (.c true) = ts.getD i (.c true)) : node us (Part.mapR f p) = node ts p := by
  cases p with
  | c b => rfl
  | letter a => rfl
  | un u i => rw [Part.mapR, node, node, h i (by simp [Part.refs])]
  | bin u i j => rw [Part.mapR, node, node, h i (by simp [Part.refs]), h j (by simp [Part.refs])]
theorem refs_mapR (f : Nat → Nat) (p : Part) : Part.refs (Part.mapR f p) = (Part.refs p).map f := by cases p <;> rfl
theorem WR.app {P Q : List Part} (h1 : WR P) (h2 : ∀ (k : Nat) (p : Part), Q[k]? = some p → Refd (P.length + k) p) : WR (P ++ Q) := fun k p e => by
  by_cases hk : k < P.length
  · rw [List.getElem?_append_left hk] at e
    exact h1 k p e
  · rw [List.getElem?_append_right (by omega)] at e
    have := h2 _ p e
    rwa [show P.length + (k - P.length) = k by omega] at this
theorem WR.shift {P g : List Part} (h1 : WR P) (h2 : WR g) : WR (P ++ shiftP P.length g) := h1.app fun k p e => by
  unfold shiftP at e
  rw [List.getElem?_map] at e
  cases e2 : g[k]? with
  | none => rw [e2] at e; cases e
  | some q =>
    rw [e2] at e
    cases e
    intro i hi
    rw [refs_mapR] at hi
    obtain ⟨j, hj, rfl⟩ := List.mem_map.mp hi
    have := h2 k q e2 j hj
    omega
theorem treeAt_shift {P g : List Part} (h1 : WR P) (h2 : WR g) : ∀ k, k < g.length → treeAt (P ++ shiftP P.length g) (P.length + k) = treeAt g k := by
  intro k
  induction k using Nat.strongRecOn with
  | ind k ih =>
    intro hk
    obtain ⟨p, e⟩ : ∃ p, g[k]? = some p := ⟨_, List.getElem?_eq_getElem hk⟩
    have e2 : (P ++ shiftP P.length g)[P.length + k]? = some (Part.mapR (fun k => P.length + k) p) := by
      rw [List.getElem?_append_right (by omega), Nat.add_sub_cancel_left]
      unfold shiftP
      rw [List.getElem?_map, e]
      rfl
    rw [treeAt_get (h1.shift h2) e2, treeAt_get h2 e]
    exact node_mapR fun i hi => ih i (h2 k p e i hi) (Nat.lt_trans (h2 k p e i hi) hk)
theorem WF.wr {al : List Nat} {ps : List Part} (h : WF al ps) : WR ps := fun k p e i hi => by
  have := h k p e
  cases p with
  | c b => simp [Part.refs] at hi
  | letter a => simp [Part.refs] at hi
  | un u j =>
    obtain rfl : i = j := by simpa [Part.refs] using hi
    exact this
  | bin u j m =>
    have h : i = j ∨ i = m := by simpa [Part.refs] using hi
    rcases h with rfl | rfl
    · exact this.1
    · exact this.2
/-! ### the given sheets, one behind the other -/
def joinP (gs : List (List Part)) : List Part := gs.foldl (fun P g => P ++ shiftP P.length g) []
theorem joinP_snoc (gs : List (List Part)) (g : List Part) : joinP (gs ++ [g]) = joinP gs ++ shiftP (joinP gs).length g := by
  unfold joinP
  rw [List.foldl_append]
  rfl
theorem shiftP_len (b : Nat) (g : List Part) : (shiftP b g).length = g.length := List.length_map ..
theorem joinP_wr {gs : List (List Part)} (h : ∀ g ∈ gs, WR g) : WR (joinP gs) := by
  refine snoc_ind (P := fun gs => (∀ g ∈ gs, WR g) → WR (joinP gs)) (fun _ k p e => by simp [joinP] at e) (fun l x ih h => ?_) gs h
  rw [joinP_snoc]
  exact (ih fun g hg => h g (by simp [hg])).shift (h x (by simp))
theorem joinP_len {gs : List (List Part)} {m : Nat} (h : ∀ g ∈ gs, g.length ≤ m) : (joinP gs).length ≤ gs.length * m := by
  refine snoc_ind (P := fun gs => (∀ g ∈ gs, g.length ≤ m) → (joinP gs).length ≤ gs.length * m) (fun _ => by simp [joinP]) (fun l x ih h => ?_) gs h
  have h1 := ih fun g hg => h g (by simp [hg])
  have h2 := h x (by simp)
  rw [joinP_snoc, List.length_append, shiftP_len, List.length_append, List.length_singleton, Nat.succ_mul]
  omega
/-- where the root of the i-th given sheet stands -/
def lastAt (gs : List (List Part)) (i : Nat) : Nat := (joinP (gs.take (i + 1))).length - 1
theorem joinP_pre (gs : List (List Part)) (i : Nat) : ∃ ys, joinP gs = joinP (gs.take i) ++ ys := by
  have e : gs = gs.take i ++ gs.drop i := (List.take_append_drop i gs).symm
  have : ∀ (l m : List (List Part)), ∃ ys, joinP (l ++ m) = joinP l ++ ys := by
    intro l m
    refine snoc_ind (P := fun m => ∃ ys, joinP (l ++ m) = joinP l ++ ys) ⟨[], by simp⟩ (fun m x ih => ?_) m
    obtain ⟨ys, e⟩ := ih
    rw [← List.append_assoc, joinP_snoc, e, List.append_assoc]
    exact ⟨_, rfl⟩
  obtain ⟨ys, e2⟩ := this (gs.take i) (gs.drop i)
  rw [← e] at e2
  exact ⟨ys, e2⟩
theorem lastAt_tree {gs : List (List Part)} (h : ∀ g ∈ gs, WR g) (hn : ∀ g ∈ gs, 1 ≤ g.length) {i : Nat} {g : List Part} (e : gs[i]? = some g) : lastAt gs i < (joinP gs).length ∧ treeAt (joinP gs) (lastAt gs i) = rootT g := by
  have hi := (List.getElem?_eq_some_iff.mp e).1
  have et : gs.take (i + 1) = gs.take i ++ [g] := by rw [List.take_add_one, e]; rfl
  have hm := List.mem_of_getElem? e
  have hg := hn g hm
  obtain ⟨ys, ep⟩ := joinP_pre gs (i + 1)
  have el : lastAt gs i = (joinP (gs.take i)).length + (g.length - 1) := by
    unfold lastAt
    rw [et, joinP_snoc, List.length_append, shiftP_len]
    omega
  have lt : lastAt gs i < (joinP (gs.take (i + 1))).length := by
    rw [el, et, joinP_snoc, List.length_append, shiftP_len]
    omega
  refine ⟨by rw [ep, List.length_append]; omega, ?_⟩
  rw [ep, treeAt_app _ lt, el, et, joinP_snoc]
  exact treeAt_shift (joinP_wr fun g hg => h g (List.mem_of_mem_take hg)) (h g hm) _ (by omega)
/-! ### the outer sheet put behind them -/
structure KI (kept : List Part) (f : Nat → Tr) (Q : List Part) (N : List Nat) : Prop where
  wr : WR Q
  at_ : ∀ (j n : Nat), N[j]? = some n → n < Q.length ∧ treeAt Q n = substT f (treeAt kept j)
theorem getN {N : List Nat} {i : Nat} (h : i < N.length) : N[i]? = some (N.getD i 0) := by rw [List.getD_eq_getElem?_getD, List.getElem?_eq_getElem h]; rfl
theorem KI.letter {kept Q : List Part} {N : List Nat} {f : Nat → Tr} (h : KI kept f Q N) (wk : WR kept) {a n : Nat} (e : kept[N.length]? = some (.letter a)) (hn : n < Q.length) (ht : treeAt Q n = f a) : KI kept f Q (N ++ [n]) := by
  refine ⟨h.wr, fun j m ej => ?_⟩
  by_cases hj : j < N.length
  · rw [List.getElem?_append_left hj] at ej
    exact h.at_ j m ej
  · have hj2 := (List.getElem?_eq_some_iff.mp ej).1
    rw [List.length_append, List.length_singleton] at hj2
    obtain rfl : j = N.length := by omega
    rw [List.getElem?_append_right (Nat.le_refl _), Nat.sub_self] at ej
    cases ej
    refine ⟨hn, ?_⟩
    rw [ht, treeAt_get wk e]
    rfl
theorem KI.part {kept Q : List Part} {N : List Nat} {f : Nat → Tr} (h : KI kept f Q N) (wk : WR kept) {p : Part} (e : kept[N.length]? = some p) (hp : ∀ a, p ≠ .letter a) : KI kept f (Q ++ [Part.mapR (fun i => N.getD i 0) p]) (N ++ [Q.length]) := by
  have rf := wk _ p e
  have wr : WR (Q ++ [Part.mapR (fun i => N.getD i 0) p]) := h.wr.app fun k q ek => by
    have hk := (List.getElem?_eq_some_iff.mp ek).1
    rw [List.length_singleton] at hk
    obtain rfl : k = 0 := by omega
    cases ek
    intro i hi
    rw [refs_mapR] at hi
    obtain ⟨j, hj, rfl⟩ := List.mem_map.mp hi
    exact (h.at_ j _ (getN (rf j hj))).1
  refine ⟨wr, fun j m ej => ?_⟩
  by_cases hj : j < N.length
  · rw [List.getElem?_append_left hj] at ej
    obtain ⟨h1, h2⟩ := h.at_ j m ej
    exact ⟨by rw [List.length_append]; omega, by rw [treeAt_app _ h1]; exact h2⟩
  · have hj2 := (List.getElem?_eq_some_iff.mp ej).1
    rw [List.length_append, List.length_singleton] at hj2
    obtain rfl : j = N.length := by omega
    rw [List.getElem?_append_right (Nat.le_refl _), Nat.sub_self] at ej
    cases ej
    refine ⟨by rw [List.length_append]; exact Nat.lt_succ_self _, ?_⟩
    rw [treeAt_get wr (p := Part.mapR (fun i => N.getD i 0) p) (by rw [List.getElem?_append_right (Nat.le_refl _), Nat.sub_self]; rfl), treeAt_get wk e]
    have kid : ∀ i ∈ Part.refs p, (treesOf (Q ++ [Part.mapR (fun i => N.getD i 0) p])).getD (N.getD i 0) (.c true) = substT f ((treesOf kept).getD i (.c true)) := fun i hi => by
      obtain ⟨h1, h2⟩ := h.at_ i _ (getN (rf i hi))
      exact (treeAt_app _ h1).trans h2
    generalize treesOf (Q ++ [Part.mapR (fun i => N.getD i 0) p]) = us at kid ⊢
    cases p with
    | c b => rfl
    | letter a => exact absurd rfl (hp a)
    | un u i => rw [Part.mapR, node, node, substT, kid i (by simp [Part.refs])]
    | bin u i j => rw [Part.mapR, node, node, substT, kid i (by simp [Part.refs]), kid j (by simp [Part.refs])]
end Sh
set_option Elab.async false
set_option linter.all false
set_option maxRecDepth 100000
set_option maxHeartbeats 4000000
namespace K71
open PySem PySem.Spec PyProof.Rows L2 Sh
open SX (S)
local macro_rules | `(tactic| walk_at "v1") => `(tactic| first
  | with_reducible refine v_seq ?_ | with_reducible refine v_asg ?_ | ((with_reducible refine' v_name ?e ?_); (case e => exact rfl)) | with_reducible refine v_ret ?_ | with_reducible refine v_drop ?_ | with_reducible refine v_next ?_
  | with_reducible refine v_if ?_ | with_reducible refine v_op ?_ | with_reducible refine v_c ?_ | ((with_reducible refine' v_var ?e ?_); (case e => exact rfl))
  | with_reducible refine v_I0 ?_ | with_reducible refine v_test ?_ | with_reducible refine v_B ?_ | with_reducible refine v_bl ?_ | with_reducible refine v_not ?_ | with_reducible refine v_and ?_ | with_reducible refine v_or ?_
  | with_reducible refine v_andV ?_ | with_reducible refine v_orV ?_ | with_reducible refine v_notV ?_ | with_reducible refine v_ife ?_
  | with_reducible refine v_nil ?_ | with_reducible refine v_cons ?_ | with_reducible refine v_tup ?_ | with_reducible refine v_lst ?_ | with_reducible refine v_call ?_ | with_reducible refine v_cb ?_ | with_reducible refine v_int ?_ | with_reducible refine v_abs ?_
  | ((with_reducible refine' v_eq ?e ?_); (case e => exact rfl)) | ((with_reducible refine' v_ne ?e ?_); (case e => exact rfl)) | with_reducible refine v_sub ?_ | with_reducible refine v_isN ?_ | with_reducible refine v_notN ?_
  | with_reducible refine v_part ?_ | with_reducible refine v_nopart ?_ | with_reducible refine v_pint ?_ | with_reducible refine v_inSg ?_ | with_reducible refine v_notInSg ?_
  | ((with_reducible refine' v_ixL ?l ?a ?_); (case l => assumption); (case a => exact at_lit _ rfl)) | ((with_reducible refine' v_ixT ?l ?a ?_); (case l => assumption); (case a => exact at_lit _ rfl))
  | ((with_reducible refine v_I ?c ?_); (case c => (first | omega | (unfold CMul; omega) | (unfold CDivN; omega) | (unfold CPow; omega))))
  | with_reducible refine v_for ?_ | with_reducible refine v_iList ?_ | with_reducible refine v_iTup ?_ | with_reducible refine v_iStr ?_ | with_reducible refine v_iR1 ?_ | with_reducible refine v_iR2 ?_ | with_reducible refine v_atS ?_ | with_reducible refine v_sl ?_ | with_reducible refine v_lc ?_ | with_reducible refine v_yes ?_
  | with_reducible refine v_m1 ?_ | with_reducible refine v_m1S ?_ | with_reducible refine v_bm ?_ | with_reducible refine v_bm0 ?_ | with_reducible refine v_dnewK ?_ | with_reducible refine v_dnewT ?_ | with_reducible refine v_dget ?_ | with_reducible refine v_din ?_ | with_reducible refine v_dnotin ?_ | with_reducible refine v_dput ?_ | with_reducible refine v_chain ?_ | with_reducible refine v_un ?_ | with_reducible refine v_neg ?_
  | with_reducible refine v_brk ?_ | with_reducible refine v_cont ?_)
local macro_rules | `(tactic| walk_at "v") => `(tactic| repeat (walk_at "v1"))
local macro_rules | `(tactic| walk_at "vm") => `(tactic| repeat (first | ((with_reducible refine v_modP ?c ?_); (case c => omega); (intro _ _ _)) | walk_at "v1"))
local macro_rules | `(tactic| walk_at "iv") => `(tactic| (try dsimp only; refine IV.mk (by assumption) (by assumption) ?_))
local macro_rules | `(tactic| walk_at "n") => `(tactic| dsimp only [List.set_cons_zero, List.set_cons_succ])
/-! ### sheets as they are given -/
inductive GS where
  | good (l li : Bool) (ps : List Part) | bad (d : PyData) | spoilt (l : Bool) (rs : List RawP) (k : Nat)
def GS.d : GS → PyData
  | .good l li ps => sheetD l li ps
  | .bad d => d
  | .spoilt l rs _ => mkD l (rs.map RawP.d)
def GS.ok (al : List Nat) : GS → Prop
  | .good _ _ ps => WF al ps ∧ 1 ≤ ps.length ∧ ps.length ≤ 6000
  | .bad d => sheetLikeD d = false
  | .spoilt _ rs k => 1 ≤ rs.length ∧ rs.length ≤ 6000 ∧ (∀ p ∈ rs, p.ok) ∧ (∀ (j : Nat) (p : RawP), j < k → rs[j]? = some p → p.good al j = true) ∧ ∃ r0, rs[k]? = some r0 ∧ r0.good al k = false
def GS.num : GS → Option Int
  | .good _ _ _ => none
  | .bad _ => some (-1)
  | .spoilt _ _ k => some (k : Int)
def GS.ps : GS → List Part
  | .good _ _ ps => ps
  | _ => []
section
variable {P : Program} {w : World} {K : PySem.W.Frag} {mg : Str → Option Value} {base : Heap}
theorem ts_of {T : Txt K mg w} {B H : Hp} {M : List (Addr × HO)} {v : V} {al : List Nat} {g : GS} {Q : VK} {E : XK} (hs : Hs B M H) (ha : isAlphaD (.str (S al)) = true) (hv : Rp K B v g.d) (ok : g.ok al) (x : ∀ n, g.num = some n → Thr B M E T.a_BadSheet "number" (.int n))
    (q : g.num = none → ∀ (v' : V) (B' H' : Hp), Le B B' → Hs B' M H' → Rp K B' v' (sheetD false false g.ps) → Q v' H') : sp_p_tense_sheet T [.str (S al), v] H Q E := by
  refine ⟨B, M, v, al, rfl, hs, ha, ?_⟩
  cases g with
  | good l li ps => exact .inr (.inr ⟨l, li, ps, hv, ok.1, ok.2.1, ok.2.2, q rfl⟩)
  | bad d => exact .inl ⟨d, hv, ok, x _ rfl⟩
  | spoilt l rs k =>
    obtain ⟨h1, h2, h3, h4, r0, h5, h6⟩ := ok
    exact .inr (.inl ⟨l, rs, k, r0, hv, h1, h2, h3, h4, h5, h6, x _ rfl⟩)
/-! ### given_sheet -/
def sp_p_given_sheet (T : Txt K mg w) : Sp := fun vs H Q E => ∃ (B : Hp) (M : List (Addr × HO)) (v : V) (al : List Nat) (g : GS) (nv : Int), vs = [.str (S al), .int nv, v] ∧ Hs B M H ∧ isAlphaD (.str (S al)) = true ∧ Rp K B v g.d ∧ g.ok al ∧ nv.natAbs ≤ 1000000 ∧
  (g.num ≠ none → Thr B M E T.a_BadSheets "number" (.int nv)) ∧ (g.num = none → ∀ (v' : V) (B' H' : Hp), Le B B' → Hs B' M H' → Rp K B' v' (sheetD false false g.ps) → Q v' H')
def t_p_given_sheet (T : Txt K mg w) (E : XK) : TS := (tTryOnly K (.ref T.a_BadSheet) (fun W => (tRet (tCallS (sp_p_tense_sheet T) (L2.WE W) (tCons (tVar 0) (tCons (tVar 2) tNil))))) (fun a cls d => (tRaiseX T.a_BadSheets "number" gvI (fun cls d _ H => E cls d H) (tCons (tVar 1) tNil))) (fun cls d _ H => E cls d H))
theorem pure_p_given_sheet (T : Txt K mg w) (TX : TxtX T P) (vs : List V) (H : Hp) (Q : VK) (E : XK) (h : sp_p_given_sheet T vs H Q E) : t_p_given_sheet T E { nx := fun _ H' => Q .non H', rt := Q } (start n_p_given_sheet vs) H := by
  obtain ⟨B, M, v, al, g, nv, rfl, hs, ha, hv, ok, hn, x, q⟩ := h
  show t_p_given_sheet T E _ [some (V.str (S al)), some (V.int nv), some v] H
  unfold t_p_given_sheet tTryOnly
  walk_at "v"
  refine ⟨_, rfl, _, rfl, ?_⟩
  show sp_p_tense_sheet T [V.str (S al), v] H _ _
  refine ts_of hs ha hv ok (fun n e d B' H' l h2 e2 => ?_) (fun e => q e)
  refine ⟨true, TX.sheet (T.a_BadSheet, true) (by simp), fun _ a _ => ?_, fun z => Bool.noConfusion z⟩
  exact v_raise h2 ⟨nv, rfl, hn⟩ ((x (by rw [e]; exact fun z => nomatch z)).le l) fun q h => ⟨_, rfl, h⟩
theorem ok_p_given_sheet (T : Txt K mg w) (TX : TxtX T P) : FnOk P w K mg base (L2.CX P w) 6 T.a_p_given_sheet T.fd_p_given_sheet ["alphabet", "number", "sheet"] (sp_p_given_sheet T) := by
  refine T.F_p_given_sheet.okX sc_p_given_sheet (fun vs H Q E h => ?_) (fun cdv A outer s H vs Q E hr h => ⟨t_p_given_sheet T E, ?_, pure_p_given_sheet T TX vs H Q E h⟩)
  · obtain ⟨B, M, v, al, g, nv, rfl, _⟩ := h
    rfl
  · exact (pss_one (L2H.ps_try_onlyX rfl rfl ⟨by rfl, by decide, .inl T.g_BadSheet⟩ (fun hd => L2H.passesAt_of rfl hd) (L2.takes_of rfl rfl rfl rfl) (fun W pn xe tk _ _ => (pss_one (ps_ret (pe_callS (ok_p_tense_sheet T TX) hr (by rfl) T.g_p_tense_sheet T.F_p_tense_sheet.kp T.b_p_tense_sheet (fun σ => L2N.passAt tk σ) (pa_cons (pv 0) (pa_cons (pv 2) pa_nil)))))) (fun a oe cls d pn _ _ htk hhot => (pss_one (ps_raiseS hhot TX.x_BadSheets T.g_BadSheets T.free_super gvI_ok (depth_mark hr) htk (pa_cons (pv 1) pa_nil) (by rfl))))))
end
end K71
set_option Elab.async false
set_option linter.all false
set_option maxRecDepth 100000
set_option maxHeartbeats 8000000
namespace K71
open PySem PySem.Spec PyProof.Rows L2 Sh
open SX (S)
local macro_rules | `(tactic| walk_at "v1") => `(tactic| first
  | with_reducible refine v_seq ?_ | with_reducible refine v_asg ?_ | ((with_reducible refine' v_name ?e ?_); (case e => exact rfl)) | with_reducible refine v_ret ?_ | with_reducible refine v_drop ?_ | with_reducible refine v_next ?_
  | with_reducible refine v_if ?_ | with_reducible refine v_op ?_ | with_reducible refine v_c ?_ | ((with_reducible refine' v_var ?e ?_); (case e => exact rfl))
  | with_reducible refine v_I0 ?_ | with_reducible refine v_test ?_ | with_reducible refine v_B ?_ | with_reducible refine v_bl ?_ | with_reducible refine v_not ?_ | with_reducible refine v_and ?_ | with_reducible refine v_or ?_
  | with_reducible refine v_andV ?_ | with_reducible refine v_orV ?_ | with_reducible refine v_notV ?_ | with_reducible refine v_ife ?_
  | with_reducible refine v_nil ?_ | with_reducible refine v_cons ?_ | with_reducible refine v_tup ?_ | with_reducible refine v_lst ?_ | with_reducible refine v_call ?_ | with_reducible refine v_cb ?_ | with_reducible refine v_int ?_ | with_reducible refine v_abs ?_
  | ((with_reducible refine' v_eq ?e ?_); (case e => exact rfl)) | ((with_reducible refine' v_ne ?e ?_); (case e => exact rfl)) | with_reducible refine v_sub ?_ | with_reducible refine v_isN ?_ | with_reducible refine v_notN ?_
  | with_reducible refine v_part ?_ | with_reducible refine v_nopart ?_ | with_reducible refine v_pint ?_ | with_reducible refine v_inSg ?_ | with_reducible refine v_notInSg ?_
  | ((with_reducible refine' v_ixL ?l ?a ?_); (case l => assumption); (case a => exact at_lit _ rfl)) | ((with_reducible refine' v_ixT ?l ?a ?_); (case l => assumption); (case a => exact at_lit _ rfl))
  | ((with_reducible refine v_I ?c ?_); (case c => (first | omega | (unfold CMul; omega) | (unfold CDivN; omega) | (unfold CPow; omega))))
  | with_reducible refine v_for ?_ | with_reducible refine v_iList ?_ | with_reducible refine v_iTup ?_ | with_reducible refine v_iStr ?_ | with_reducible refine v_iR1 ?_ | with_reducible refine v_iR2 ?_ | with_reducible refine v_atS ?_ | with_reducible refine v_sl ?_ | with_reducible refine v_lc ?_ | with_reducible refine v_yes ?_
  | with_reducible refine v_m1 ?_ | with_reducible refine v_m1S ?_ | with_reducible refine v_bm ?_ | with_reducible refine v_bm0 ?_ | with_reducible refine v_dnewK ?_ | with_reducible refine v_dnewT ?_ | with_reducible refine v_dget ?_ | with_reducible refine v_din ?_ | with_reducible refine v_dnotin ?_ | with_reducible refine v_dput ?_ | with_reducible refine v_chain ?_ | with_reducible refine v_un ?_ | with_reducible refine v_neg ?_
  | with_reducible refine v_brk ?_ | with_reducible refine v_cont ?_)
local macro_rules | `(tactic| walk_at "v") => `(tactic| repeat (walk_at "v1"))
local macro_rules | `(tactic| walk_at "vm") => `(tactic| repeat (first | ((with_reducible refine v_modP ?c ?_); (case c => omega); (intro _ _ _)) | walk_at "v1"))
local macro_rules | `(tactic| walk_at "iv") => `(tactic| (try dsimp only; refine IV.mk (by assumption) (by assumption) ?_))
local macro_rules | `(tactic| walk_at "n") => `(tactic| dsimp only [List.set_cons_zero, List.set_cons_succ])
/-! ### the dict of the letters' last parts -/
def lf (m : Nat → Nat) : Nat → List Nat → List (Key × V)
  | _, [] => []
  | n, a :: l => (.inr (S [a]), intV (m n)) :: lf m (n + 1) l
theorem lf_app (m : Nat → Nat) : ∀ (n : Nat) (l : List Nat) (a : Nat), lf m n (l ++ [a]) = lf m n l ++ [(.inr (S [a]), intV (m (n + l.length)))]
  | n, [], a => rfl
  | n, b :: l, a => by
    rw [List.cons_append, lf, lf, lf_app m (n + 1) l a, List.cons_append, List.length_cons, show n + 1 + l.length = n + (l.length + 1) by omega]
theorem S1_inj {a b : Nat} (h : S [a] = S [b]) : a = b := by simpa using SX.S_inj h
theorem lf_val (m : Nat → Nat) : ∀ (n : Nat) (l : List Nat) (a : Nat), valV (lf m n l) (.inr (S [a])) = if a ∈ l then some (intV (m (n + l.idxOf a))) else none
  | n, [], a => by simp [lf, valV_nil]
  | n, b :: l, a => by
    unfold lf
    by_cases h : b = a
    · subst h
      rw [valV_pos rfl, if_pos (by simp), List.idxOf_cons_self]
      rfl
    · rw [valV_neg (fun e => h (S1_inj (Sum.inr.inj e))), lf_val m (n + 1) l a]
      have h' : ¬ a = b := fun e => h e.symm
      by_cases ml : a ∈ l
      · rw [if_pos ml, if_pos (List.mem_cons_of_mem _ ml), show (b :: l).idxOf a = l.idxOf a + 1 by rw [List.idxOf_cons, show (b == a) = false from beq_false_of_ne h]; rfl]
        congr 3
        omega
      · rw [if_neg ml, if_neg (by simp [h', ml])]
theorem lf_len (m : Nat → Nat) : ∀ (n : Nat) (l : List Nat), (lf m n l).length = l.length
  | _, [] => rfl
  | n, _ :: l => by rw [lf, List.length_cons, List.length_cons, lf_len]
theorem lf_put {m : Nat → Nat} {tg : List Nat} {i a : Nat} (nd : tg.Nodup) (e : tg[i]? = some a) : putK (lf m 0 (tg.take i)) (.inr (S [a])) (intV (m i)) = lf m 0 (tg.take (i + 1)) := by
  have hi := (List.getElem?_eq_some_iff.mp e).1
  have na : a ∉ tg.take i := fun h => by
    obtain ⟨j, ej⟩ := List.getElem?_of_mem h
    have hj := (List.getElem?_eq_some_iff.mp ej).1
    rw [List.length_take] at hj
    rw [List.getElem?_take, if_pos (by omega)] at ej
    have := nd_get nd ej e
    omega
  rw [putK_new _ (by rw [lf_val, if_neg na]), List.take_add_one, e]
  show _ = lf m 0 (tg.take i ++ [a])
  rw [lf_app, Nat.zero_add, List.length_take, Nat.min_eq_left (by omega)]
theorem mapR_congr {f g : Nat → Nat} {p : Part} (h : ∀ i ∈ Part.refs p, f i = g i) : Part.mapR f p = Part.mapR g p := by
  cases p with
  | c b => rfl
  | letter a => rfl
  | un u i => rw [Part.mapR, Part.mapR, h i (by simp [Part.refs])]
  | bin u i j => rw [Part.mapR, Part.mapR, h i (by simp [Part.refs]), h j (by simp [Part.refs])]
theorem idxOf_get {l : List Nat} {a : Nat} (h : a ∈ l) : l[l.idxOf a]? = some a := by
  have hl := List.idxOf_lt_length_of_mem h
  rw [List.getElem?_eq_getElem hl, List.getElem_idxOf hl]
theorem alpha_len {l : List Nat} (h : isAlphaD (.str (S l)) = true) : 1 ≤ l.length ∧ l.length ≤ 8 := by
  have h2 : isAlphaD (.str (S l)) = ((decide (1 ≤ l.length) && decide (l.length ≤ 8)) && ((l.map fun c => decide (c ∈ lettersL)).all id && ((List.range (l.length - 1)).map fun k => decide ([l.getD k 0] < [l.getD (k + 1) 0])).all id)) := rfl
  rw [h2, Bool.and_eq_true, Bool.and_eq_true] at h
  exact ⟨of_decide_eq_true h.1.1, of_decide_eq_true h.1.2⟩
/-- what a sheet put in is -/
def toldT (tg : List Nat) (gs : List (List Part)) (kept : List Part) : List Part := (ins (substT (fun a => rootT (gs.getD (tg.idxOf a) [])) (rootT kept)) []).1
section
variable {P : Program} {w : World} {K : PySem.W.Frag} {mg : Str → Option Value} {base : Heap}
def sp_p_put_in (T : Txt K mg w) : Sp := fun vs H Q E => ∃ (B : Hp) (M : List (Addr × HO)) (va vt v2 v3 : V) (da dt : PyData), vs = [va, vt, v2, v3] ∧ Hs B M H ∧ Rp K B va da ∧ Rp K B vt dt ∧ (∀ z, da = .str z → z.length ≤ 1000000) ∧ (∀ z, dt = .str z → z.length ≤ 1000000) ∧
  ((isAlphaD da = false ∧ Thr B M E T.a_BadAlphabet "thing" va) ∨ (isAlphaD da = true ∧ isAlphaD dt = false ∧ Thr B M E T.a_BadAlphabet "thing" vt) ∨
   ∃ al tg : List Nat, da = .str (S al) ∧ dt = .str (S tg) ∧ isAlphaD da = true ∧ isAlphaD dt = true ∧ tg.Nodup ∧
    ((∃ d2, Rp K B v2 d2 ∧ (isLT d2 = false ∨ (itemsD d2).length ≠ tg.length) ∧ Thr B M E T.a_BadSheets "number" (.int (-1))) ∨
     ∃ (l : Bool) (gs : List GS), Rp K B v2 (mkD l (gs.map GS.d)) ∧ gs.length = tg.length ∧ (∀ g ∈ gs, g.ok al) ∧
      ((∃ (k : Nat) (g : GS), gs[k]? = some g ∧ g.num ≠ none ∧ (∀ (j : Nat) (g : GS), j < k → gs[j]? = some g → g.num = none) ∧ Thr B M E T.a_BadSheets "number" (.int (k : Int))) ∨
       ((∀ g ∈ gs, g.num = none) ∧ ∃ h : GS, Rp K B v3 h.d ∧ h.ok tg ∧
        ((∃ n, h.num = some n ∧ Thr B M E T.a_BadSheet "number" (.int n)) ∨
         (h.num = none ∧ (6000 < (toldT tg (gs.map GS.ps) h.ps).length → Thr B M E T.a_TooMany "word" (.str "part")) ∧
          ((toldT tg (gs.map GS.ps) h.ps).length ≤ 6000 → ∀ (v' : V) (B' H' : Hp), Le B B' → Hs B' M H' → Rp K B' v' (sheetD false false (toldT tg (gs.map GS.ps) h.ps)) → Q v' H')))))))
def t_p_put_in (T : Txt K mg w) (E : XK) : TS := (tSeq (tDrop (tCall (sp_p_check_alphabet T) [] E (tCons (tVar 0) tNil)))
    (tSeq (tDrop (tCall (sp_p_check_alphabet T) [] E (tCons (tVar 1) tNil)))
    (tSeq (tIfS (tOr (tNot (tB (tCall (sp_p_is_listed K) [] E0 (tCons (tVar 2) tNil)))) (tTest (tOp rNe (tCB (rCLen K) (tCons (tVar 2) tNil)) (tCB (rCLen K) (tCons (tVar 1) tNil))))) (tRaiseX T.a_BadSheets "number" gvI (fun cls d _ H => E cls d H) (tCons (tUn (rU fun i => .int (-i)) (tC (.int 1))) tNil)) tNext)
    (tSeq (tAsg (tLc (iEnumQ K (tCons (tVar 2) tNil)) (gTup K 2 (gCons (gName 5) (gCons (gName 6) gNil))) tYes (tCall (sp_p_given_sheet T) [] E (tCons (tVar 0) (tCons (tVar 5) (tCons (tVar 6) tNil)))) [5, 6]) (gName 4))
    (tSeq (tAsg (tCall (sp_p_tense_sheet T) [] E (tCons (tVar 1) (tCons (tVar 3) tNil))) (gName 7))
    (tSeq (tAsg (tLst tNil) (gName 8))
    (tSeq (tAsg tDNewK (gName 9))
    (tSeq (tFor (iZipS K (tCons (tVar 1) (tCons (tVar 4) tNil))) (gTup K 2 (gCons (gName 10) (gCons (gName 6) gNil))) (tSeq (tAsg (tLc (iRng1 (tCons (tCB (rCLen K) (tCons (tVar 6) tNil)) tNil)) (gName 12) tYes (tOp rAddI (tCB (rCLen K) (tCons (tVar 8) tNil)) (tVar 12)) [12]) (gName 11))
    (tSeq (tAsg (tOp rCat (tVar 8) (tLc (iTup K (tVar 6)) (gName 13) tYes (tCall (sp_p_renumbered K) [] E0 (tCons (tVar 13) (tCons (tVar 11) tNil))) [13])) (gName 8))
    (sDPut (tVar 9) (tVar 10) (tOp rSubI (tCB (rCLen K) (tCons (tVar 8) tNil)) (tC (.int 1)))))))
    (tSeq (tAsg (tLst tNil) (gName 11))
    (tSeq (tFor (iTup K (tVar 7)) (gName 13) (tIfS (tTest (tOp rEq (tOp (rIxT K) (tVar 13) (tC (.int 0))) (tC (.str "letter")))) (tDrop (tBM K "list" rAppend (tVar 11) (tCons (tDGet (tVar 9) (tOp (rIxT K) (tVar 13) (tC (.int 1)))) tNil))) (tSeq (tDrop (tBM K "list" rAppend (tVar 11) (tCons (tCB (rCLen K) (tCons (tVar 8) tNil)) tNil)))
    (tDrop (tBM K "list" rAppend (tVar 8) (tCons (tCall (sp_p_renumbered K) [] E0 (tCons (tVar 13) (tCons (tVar 11) tNil))) tNil))))))
    (tSeq (tAsg (tCall (sp_p_tidied K) [] E0 (tCons (tVar 8) (tCons (tOp (rIxL K) (tVar 11) (tUn (rU fun i => .int (-i)) (tC (.int 1)))) tNil))) (gName 14))
    (tSeq (tIfS (tTest (tOp rGtI (tCB (rCLen K) (tCons (tVar 14) tNil)) (tC (.int 6000)))) (tRaiseX T.a_TooMany "word" gvS (fun cls d _ H => E cls d H) (tCons (tC (.str "part")) tNil)) tNext)
    (tRet (tVar 14))))))))))))))
theorem gs_all {al : List Nat} {g : GS} (ok : g.ok al) (h : g.num = none) : WF al g.ps ∧ 1 ≤ g.ps.length ∧ g.ps.length ≤ 6000 := by
  cases g with
  | good l li ps => exact ok
  | bad d => cases h
  | spoilt l rs k => cases h
theorem pure_p_put_in (T : Txt K mg w) (vs : List V) (H : Hp) (Q : VK) (E : XK) (h : sp_p_put_in T vs H Q E) : t_p_put_in T E { nx := fun _ H' => Q .non H', rt := Q } (start n_p_put_in vs) H := by
  obtain ⟨B, M, va, vt, v2, v3, da, dt, rfl, hs, hva, hvt, za, zt, alts⟩ := h
  show t_p_put_in T E _ [some va, some vt, some v2, some v3, none, none, none, none, none, none, none, none, none, none, none] H
  unfold t_p_put_in
  walk_at "v"
  refine ⟨B, M, va, da, rfl, hs, hva, za, fun ea B1 H1 l1 hs1 => ?_, fun ea => ?_⟩
  rotate_left
  · rcases alts with ⟨_, x⟩ | ⟨e, _⟩ | ⟨_, _, _, _, e, _⟩
    · exact x
    · rw [ea] at e; cases e
    · rw [ea] at e; cases e
  walk_at "v"
  refine ⟨B1, M, vt, dt, rfl, hs1, hvt.up l1, zt, fun et B2 H2 l2 hs2 => ?_, fun et => ?_⟩
  rotate_left
  · rcases alts with ⟨e, _⟩ | ⟨_, _, x⟩ | ⟨_, _, _, _, _, e, _⟩
    · rw [ea] at e; cases e
    · exact x.le l1
    · rw [et] at e; cases e
  have l12 := l1.trans l2
  rcases alts with ⟨e, _⟩ | ⟨_, e, _⟩ | ⟨al, tg, rfl, rfl, -, -, ndt, alts⟩
  · rw [ea] at e; cases e
  · rw [et] at e; cases e
  cases hva
  cases hvt
  have tl := alpha_len et
  walk_at "v"
  rcases alts with ⟨d2, hv2, hd2, x⟩ | ⟨l, gs, hv2, hgl, gok, alts⟩
  · -- sheets is no list of so many
    refine ⟨B2, M, v2, d2, rfl, hs2, hv2.up l12, fun B3 H3 l3 hs3 => ?_⟩
    walk_at "v"
    have l13 := l12.trans l3
    have out : ∀ H4, Hs B3 M H4 → tRaiseX T.a_BadSheets "number" gvI (fun cls d _ H => E cls d H) (tCons (tUn (rU fun i => V.int (-i)) (tC (V.int 1))) tNil) { nx := fun _ _ => True, rt := Q } [some (V.str (S al)), some (V.str (S tg)), some v2, some v3, none, none, none, none, none, none, none, none, none, none, none] H4 := fun H4 h4 => v_raise h4 ⟨-1, rfl, by decide⟩ (x.le l13) fun q h => ⟨1, rfl, h⟩
    cases c0 : isLT d2 with
    | false =>
      refine iteT' rfl ?_
      exact out H3 hs3
    | true =>
      obtain ⟨lb, ds, rfl⟩ := isLT_mk c0
      have hlen : ds.length ≠ tg.length := by
        rcases hd2 with h | h
        · rw [c0] at h; cases h
        · rwa [items_mk] at h
      obtain ⟨sa, xs, rfl, hX, hA⟩ := rp_mk hv2
      refine iteF' rfl ?_
      walk_at "v"
      refine v_lenX (hs3.trx (hX.up l13)) ?_
      walk_at "v"
      refine v_lenS (z := S tg) (by rw [S_length]; exact sz_of (by omega)) ?_
      rw [S_length, hA.length]
      walk_at "v"
      refine iteT' ?_ (out H3 hs3)
      simp
      omega
  · obtain ⟨sa, xs, rfl, hX, hA⟩ := rp_mk hv2
    have hxl : xs.length = gs.length := by rw [hA.length, List.length_map]
    refine ⟨B2, M, _, _, rfl, hs2, hv2.up l12, fun B3 H3 l3 hs3 => ?_⟩
    have l13 := l12.trans l3
    walk_at "v"
    rw [isLT_of]
    refine iteF' rfl ?_
    walk_at "v"
    refine v_lenX (hs3.trx (hX.up l13)) ?_
    walk_at "v"
    refine v_lenS (z := S tg) (by rw [S_length]; exact sz_of (by omega)) ?_
    rw [S_length, hA.length, List.length_map, hgl]
    walk_at "v"
    refine iteF' (by simp) ?_
    walk_at "v"
    refine v_enumQ ?_
    walk_at "v"
    refine v_atQ hs3 (hX.up l13) fun G hG => ?_
    -- the given sheets
    refine v_lcP hs3 hG (fun i acc B' M' => M' = M ∧ (∀ (j : Nat) (g : GS), j < i → gs[j]? = some g → g.num = none) ∧ RpAll K B' acc (((gs.take i).map GS.ps).map (sheetD false false))) ⟨rfl, fun j g hj => absurd hj (by omega), .nil⟩ ?_ ?_
    · rintro i tp x y p acc B4 M' H4 hi hx hy ha l4 e4 h4 ⟨B5, l5, l6, rfl, hgd, hacc⟩
      cases hx
      have l14 := l13.trans l4
      obtain ⟨g, hg, hgp⟩ : ∃ g, gs[i]? = some g ∧ Rp K B y g.d := by
        obtain ⟨d, hd, hp⟩ := hA.getV hy
        rw [List.getElem?_map] at hd
        cases e : gs[i]? with
        | none => rw [e] at hd; cases hd
        | some r => rw [e] at hd; cases hd; exact ⟨r, rfl, hp⟩
      refine v_gTup2 (h4.t (SqT.of e4)) ?_
      refine v_name rfl (v_name rfl ?_)
      refine ⟨rfl, ?_⟩
      walk_at "v"
      refine iteT ?_
      walk_at "v"
      refine ⟨B4, _, y, al, g, (i : Int), rfl, h4, ea, hgp.up l14, gok g (List.mem_of_getElem? hg), by omega, fun hnum => ?_, fun hnum v' B6 H6 l7 h6 hv' => ?_⟩
      · rcases alts with ⟨k, gk, e1, e2, e3, x⟩ | ⟨all, _⟩
        · have ek : k = i := by
            rcases Nat.lt_trichotomy k i with c | c | c
            · exact absurd (hgd k gk c e1) e2
            · exact c
            · exact absurd (e3 i g c hg) hnum
          subst ek
          exact fun d B' H' l h e => x d B' H' (l14.trans l) h.drop e
        · exact absurd (all g (List.mem_of_getElem? hg)) hnum
      · refine IE.mk ha hi (by omega) (l4.trans l7) h6 ⟨rfl, fun j g' hj hg' => ?_, ?_⟩
        · by_cases hji : j < i
          · exact hgd j g' hji hg'
          · obtain rfl : j = i := by omega
            rw [hg] at hg'
            cases hg'
            exact hnum
        · rw [List.take_add_one, hg, show (some g).toList = [g] from rfl, List.map_append, List.map_append]
          exact (hacc.up (l6.trans l7)).append (.one hv')
    · rintro ga acc B4 M' H4 ha l4 h4 ⟨rfl, hgd, hacc⟩
      rw [hxl, List.take_length] at hacc
      have l14 := l13.trans l4
      obtain ⟨h5, l5⟩ := h4.fix
      have hga : SqL K (upd B4 ga (.lst acc)) ga acc := SqL.of upd_same
      have hacc := hacc.up l5
      have l15 := l14.trans l5
      rcases alts with ⟨k, gk, e1, e2, _⟩ | ⟨all, h, hv3, hok, alts⟩
      · exact absurd (hgd k gk (by have := (List.getElem?_eq_some_iff.mp e1).1; omega) e1) e2
      walk_at "v"
      refine ts_of h5 et (hv3.up l15) hok (fun n hn => ?_) (fun hn v' B6 H6 l6 h6 hv' => ?_)
      · rcases alts with ⟨n', e, x⟩ | ⟨e, _⟩
        · rw [hn] at e
          cases e
          exact x.le l15
        · rw [hn] at e; cases e
      rcases alts with ⟨n', e, x⟩ | ⟨_, big, q⟩
      · rw [hn] at e; cases e
      obtain ⟨wfh, h1, h6000⟩ := gs_all hok hn
      have gsw : ∀ g ∈ gs.map GS.ps, WR g := fun g hg => by
        obtain ⟨g, hg2, rfl⟩ := List.mem_map.mp hg
        exact (gs_all (gok g hg2) (all g hg2)).1.wr
      have gs1 : ∀ g ∈ gs.map GS.ps, 1 ≤ g.length := fun g hg => by
        obtain ⟨g, hg2, rfl⟩ := List.mem_map.mp hg
        exact (gs_all (gok g hg2) (all g hg2)).2.1
      have gs6 : ∀ g ∈ gs.map GS.ps, g.length ≤ 6000 := fun g hg => by
        obtain ⟨g, hg2, rfl⟩ := List.mem_map.mp hg
        exact (gs_all (gok g hg2) (all g hg2)).2.2
      have gl8 : gs.length ≤ 8 := by omega
      have jl : ∀ i, (joinP ((gs.map GS.ps).take i)).length ≤ 48000 := fun i => by
        have := joinP_len (gs := (gs.map GS.ps).take i) (m := 6000) fun g hg => gs6 g (List.mem_of_mem_take hg)
        rw [List.length_take, List.length_map] at this
        have : min i gs.length * 6000 ≤ 8 * 6000 := Nat.mul_le_mul_right _ (by omega)
        omega
      obtain ⟨ka, kxs, rfl, hKX, hKA⟩ := rp_mk (l := false) hv'
      have l16 := l15.trans l6
      have hga := le_l l6 hga
      have hacc := hacc.up l6
      have hal : acc.length = gs.length := by rw [hacc.length, List.length_map, List.length_map]
      walk_at "v"
      refine v_size (by show 0 ≤ sizeLine; decide) (v_newM h6 fun pa H7 h7 => ?_)
      walk_at "v"
      refine v_newM h7 fun la H8 h8 => ?_
      walk_at "v"
      refine v_zipS ?_
      walk_at "v"
      refine ⟨S tg, ga, acc, rfl, h8.l hga, ?_⟩
      refine v_forP h8 (fun B' M' H' l h' => h'.l (le_l l hga)) (fun i σ B' M2 => ∃ (pa : Addr) (vs : List V) (y5 y6 y10 y11 y12 y13 y14 : Option V), RpAll K B' vs ((joinP ((gs.map GS.ps).take i)).map (partD false)) ∧
        M2 = (la, .dK (lf (lastAt (gs.map GS.ps)) 0 (tg.take i))) :: (pa, .lst vs) :: M' ∧ σ = [some (V.str (S al)), some (V.str (S tg)), some (V.ref sa), some v3, some (V.ref ga), y5, y6, some (V.ref ka), some (V.ref pa), some (V.ref la), y10, y11, y12, y13, y14])
        ⟨pa, [], _, _, _, _, _, _, _, .nil, rfl, rfl⟩ ?_ ?_
      · rintro i tp x y σ' B7 M2 H9 hi hx hy l7 e7 h9 ⟨B8, l8, l9, pa, vs, y5, y6, y10, y11, y12, y13, y14, hvs, rfl, rfl⟩
        have hvs := hvs.up l9
        have hig : i < gs.length := by omega
        obtain ⟨a, ha, rfl⟩ : ∃ a, tg[i]? = some a ∧ x = V.str (S [a]) := by
          have hx' : ((S tg).cps[i]?.map fun c => V.str ⟨#[c]⟩) = some x := hx
          rw [S_get] at hx'
          cases e : tg[i]? with
          | none => rw [e] at hx'; cases hx'
          | some a => rw [e] at hx'; exact ⟨a, rfl, (Option.some.inj hx').symm⟩
        have hgi : (gs.map GS.ps)[i]? = some gs[i].ps := by rw [List.getElem?_map, List.getElem?_eq_getElem hig]; rfl
        have gpm : gs[i].ps ∈ gs.map GS.ps := List.mem_of_getElem? hgi
        have hy2 : Rp K B7 y (sheetD false false gs[i].ps) := by
          obtain ⟨d, hd, hp⟩ := (hacc.up l7).getV hy
          rw [List.getElem?_map, hgi] at hd
          cases hd
          exact hp
        obtain ⟨oa, oxs, rfl, hOX, hOA⟩ := rp_mk (l := false) hy2
        have oxl : oxs.length = gs[i].ps.length := by rw [hOA.length, List.length_map]
        have g6 := gs6 _ gpm
        have g1 := gs1 _ gpm
        have vl : vs.length = (joinP ((gs.map GS.ps).take i)).length := by rw [hvs.length, List.length_map]
        have jli := jl i
        have jl1 := jl (i + 1)
        have jsn : joinP ((gs.map GS.ps).take (i + 1)) = joinP ((gs.map GS.ps).take i) ++ shiftP vs.length gs[i].ps := by
          rw [List.take_add_one, hgi, show (some gs[i].ps).toList = [gs[i].ps] from rfl, joinP_snoc, vl]
        refine v_gTup2 (h9.t (SqT.of e7)) ?_
        refine v_name rfl (v_name rfl ?_)
        walk_at "n"
        walk_at "v"
        refine v_lenT (h9.t (SqT.of hOX)) ?_
        walk_at "v"
        refine v_atR1 (by omega) ?_
        refine v_lcR h9 (fun j acc2 B' M3 => M3 = (la, .dK (lf (lastAt (gs.map GS.ps)) 0 (tg.take i))) :: (pa, .lst vs) :: M' ∧ acc2 = (List.range j).map fun k => intV (vs.length + k)) ⟨rfl, rfl⟩ ?_ ?_
        · rintro j p acc2 B9 M3 H10 hj ha2 l10 h10 ⟨rfl, rfl⟩
          walk_at "v"
          refine ⟨rfl, ?_⟩
          walk_at "v"
          refine iteT ?_
          walk_at "v"
          refine v_lenL (SqL.of (h10.atI 2 rfl)) ?_
          walk_at "v"
          refine IE.mk ha2 hj (by omega) l10 h10 ⟨rfl, ?_⟩
          rw [List.range_succ, List.map_append]
          show _ = _ ++ [V.int ((vs.length + j : Nat) : Int)]
          congr 2
          show V.int _ = V.int _
          congr 1
          omega
        · rintro nb acc2 B9 M3 H10 ha2 l10 h10 ⟨rfl, rfl⟩
          rw [show ((oxs.length : Nat) : Int).toNat = oxs.length by omega] at h10
          obtain ⟨h11, l11⟩ := h10.fix
          have hnb : SqL K (upd B9 nb (.lst ((List.range oxs.length).map fun k => intV (vs.length + k)))) nb ((List.range oxs.length).map fun k => intV (vs.length + k)) := SqL.of upd_same
          have l1011 := l10.trans l11
          walk_at "v"
          refine v_atT (h11.t (le_t l1011 (SqT.of hOX))) ?_
          refine v_lcT (le_t l1011 (SqT.of hOX)) h11 (fun j acc3 B' M3 => M3 = (la, .dK (lf (lastAt (gs.map GS.ps)) 0 (tg.take i))) :: (pa, .lst vs) :: M' ∧ RpAll K B' acc3 ((shiftP vs.length (gs[i].ps.take j)).map (partD false))) ⟨rfl, .nil⟩ ?_ ?_
          · rintro j x p acc3 B10 M3 H11 hj hxj ha3 l12' h12 ⟨rfl, hacc3⟩
            obtain ⟨d, hd, hp⟩ := hOA.getV hxj
            have hjp : j < gs[i].ps.length := by omega
            obtain rfl : d = partD false gs[i].ps[j] := by
              rw [List.getElem?_map, List.getElem?_eq_getElem hjp] at hd
              exact (Option.some.inj hd).symm
            walk_at "v"
            refine ⟨rfl, ?_⟩
            walk_at "v"
            refine iteT ?_
            walk_at "v"
            refine ⟨B10, _, x, gs[i].ps[j], nb, fun k => vs.length + k, rfl, h12, hp.up (l1011.trans l12'), .inl ⟨_, .inl (le_l l12' hnb), fun k hk => ?_⟩, fun v' B11 H12 l13' h13 hv' => ?_⟩
            · have := gsw _ gpm j gs[i].ps[j] (List.getElem?_eq_getElem hjp) k hk
              rw [List.getElem?_map, List.getElem?_range (by omega)]
              rfl
            · refine IE.mk ha3 hj (by omega) (l12'.trans l13') h13 ⟨rfl, ?_⟩
              unfold shiftP at hacc3 ⊢
              rw [List.take_add_one, List.getElem?_eq_getElem hjp, show (some gs[i].ps[j]).toList = [gs[i].ps[j]] from rfl, List.map_append, List.map_append]
              exact (hacc3.up l13').append (.one hv')
          · rintro ra acc3 B10 M3 H11 ha3 l12' h12 ⟨rfl, hacc3⟩
            rw [oxl, List.take_length] at hacc3
            have a3l : acc3.length = gs[i].ps.length := by rw [hacc3.length, List.length_map, shiftP_len]
            walk_at "v"
            refine v_cat (h12.atI 2 rfl) h12.hd (by exact sz_of (by omega)) (v_newM h12 fun na H12 h13 => ?_)
            walk_at "v"
            refine v_lenL (SqL.of h13.hd) ?_
            walk_at "v"
            refine v_dputSI h13 2 rfl (by rw [lf_len, List.length_take]; omega) fun H13 h14 => ?_
            walk_at "v"
            try dsimp only
            have h15 := (h14.pick (M' := (na, _) :: (la, _) :: M') (.cons₂ _ (.cons _ (.cons₂ _ (.cons _ (List.Sublist.refl _)))))).sw
            refine IV.mk (l7.trans (l1011.trans l12')) h15 ⟨na, vs ++ acc3, _, _, _, _, _, _, _, ?_, ?_, rfl⟩
            · rw [jsn, List.map_append]
              exact (hvs.up (l1011.trans l12')).append hacc3
            · have e1 : V.int (((vs ++ acc3).length : Nat) - 1 : Int) = intV (lastAt (gs.map GS.ps) i) := by
                show V.int _ = V.int _
                congr 1
                unfold lastAt
                rw [jsn, List.length_append, List.length_append, shiftP_len, a3l, ← vl]
                omega
              rw [e1, lf_put ndt ha]
      · rintro σ' B7 M2 H9 l7 h9 ⟨pa, vs, y5, y6, y10, y11, y12, y13, y14, hvs, rfl, rfl⟩
        have hmin : min (S tg).cps.size acc.length = gs.length := by rw [S_size]; omega
        rw [hmin] at hvs h9
        rw [List.take_of_length_le (by rw [List.length_map]; exact Nat.le_refl _)] at hvs
        rw [List.take_of_length_le (by omega)] at h9
        walk_at "v"
        refine v_size (by show 0 ≤ sizeLine; decide) (v_newM h9 fun na H10 h10 => ?_)
        have hKX7 : SqT K B7 ka kxs := le_t l7 (SqT.of hKX)
        have kxl : kxs.length = h.ps.length := by rw [hKA.length, List.length_map]
        walk_at "v"
        refine v_atT (h10.t hKX7) ?_
        have wk := wfh.wr
        refine v_forT hKX7 h10 (fun i σ B' M3 => ∃ (Q N : _) (ys : List Part) (vs : List V) (y5 y6 y10 y12 y13 y14 : Option V), KI h.ps (fun a => rootT ((gs.map GS.ps).getD (tg.idxOf a) [])) Q N ∧ N.length = i ∧ Q = joinP (gs.map GS.ps) ++ ys ∧ ys.length ≤ i ∧ RpAll K B' vs (Q.map (partD false)) ∧
          M3 = (na, .lst (N.map intV)) :: (la, .dK (lf (lastAt (gs.map GS.ps)) 0 tg)) :: (pa, .lst vs) :: M' ∧ σ = [some (V.str (S al)), some (V.str (S tg)), some (V.ref sa), some v3, some (V.ref ga), y5, y6, some (V.ref ka), some (V.ref pa), some (V.ref la), y10, some (V.ref na), y12, y13, y14])
          ⟨joinP (gs.map GS.ps), [], [], vs, _, _, _, _, _, _, ⟨joinP_wr gsw, fun j n e => by simp at e⟩, rfl, by simp, Nat.le_refl _, hvs, rfl, rfl⟩ ?_ ?_
        · rintro i x σ' B8 M3 H11 hi hx l8 h11 ⟨Q', N, ys, vs, y5, y6, y10, y12, y13, y14, ki, rfl, rfl, hys, hvs, rfl, rfl⟩
          have hip : N.length < h.ps.length := by omega
          obtain ⟨p, ep⟩ : ∃ p, h.ps[N.length]? = some p := ⟨_, List.getElem?_eq_getElem hip⟩
          obtain ⟨d, hd, hp⟩ := hKA.getV hx
          obtain rfl : d = partD false p := by
            rw [List.getElem?_map, ep] at hd
            exact (Option.some.inj hd).symm
          have hp8 := hp.up (l7.trans l8)
          obtain ⟨xa, rfl, hP⟩ := rp_part hp8
          have jl' : (joinP (gs.map GS.ps)).length ≤ 48000 := by
            have := jl gs.length
            rwa [List.take_of_length_le (by rw [List.length_map]; exact Nat.le_refl _)] at this
          have vl : vs.length = (joinP (gs.map GS.ps)).length + ys.length := by rw [hvs.length, List.length_map, List.length_append]
          refine v_name rfl ?_
          walk_at "n"
          walk_at "v"
          refine v_ixT (h11.t (SqT.of hP)) (at_lit 0 (vals_hd p)) ?_
          walk_at "v"
          have other : (∀ a, p ≠ .letter a) → tSeq (tDrop (tBM K "list" rAppend (tVar 11) (tCons (tCB (rCLen K) (tCons (tVar 8) tNil)) tNil))) (tDrop (tBM K "list" rAppend (tVar 8) (tCons (tCall (sp_p_renumbered K) [] E0 (tCons (tVar 13) (tCons (tVar 11) tNil))) tNil)))
              { nx := IV B7 (fun i σ B' M3 => ∃ (Q N : _) (ys : List Part) (vs : List V) (y5 y6 y10 y12 y13 y14 : Option V), KI h.ps (fun a => rootT ((gs.map GS.ps).getD (tg.idxOf a) [])) Q N ∧ N.length = i ∧ Q = joinP (gs.map GS.ps) ++ ys ∧ ys.length ≤ i ∧ RpAll K B' vs (Q.map (partD false)) ∧
          M3 = (na, .lst (N.map intV)) :: (la, .dK (lf (lastAt (gs.map GS.ps)) 0 tg)) :: (pa, .lst vs) :: M' ∧ σ = [some (V.str (S al)), some (V.str (S tg)), some (V.ref sa), some v3, some (V.ref ga), y5, y6, some (V.ref ka), some (V.ref pa), some (V.ref la), y10, some (V.ref na), y12, y13, y14]) (N.length + 1), rt := Q } [some (V.str (S al)), some (V.str (S tg)), some (V.ref sa), some v3, some (V.ref ga), y5, y6, some (V.ref ka), some (V.ref pa), some (V.ref la), y10, some (V.ref na), y12, some (V.ref xa), y14] H11 := by
            intro np
            walk_at "v"
            refine v_bmL (h11.atI 0 rfl) ?_
            walk_at "v"
            refine v_lenL (SqL.of (h11.atI 2 rfl)) ?_
            walk_at "v"
            refine v_appI h11 0 rfl (by rw [List.length_map]; omega) fun H12 h12 => ?_
            walk_at "v"
            refine v_bmL (h12.atI 2 rfl) ?_
            walk_at "v"
            rw [vl] at h12
            have rf := wk _ p ep
            refine ⟨B8, _, V.ref xa, p, na, fun i => (N ++ [(joinP (gs.map GS.ps) ++ ys).length]).getD i 0, rfl, h12, hp8, .inl ⟨(N ++ [(joinP (gs.map GS.ps) ++ ys).length]).map intV, .inr ?_, fun k hk => ?_⟩, fun v' B9 H13 l9 h13 hv' => ?_⟩
            · refine List.mem_cons.mpr (.inl ?_)
              rw [List.map_append, List.length_append]
              rfl
            · have := rf k hk
              rw [List.getElem?_map, getN (by rw [List.length_append]; omega)]
              rfl
            · have em : Part.mapR (fun i => (N ++ [(joinP (gs.map GS.ps) ++ ys).length]).getD i 0) p = Part.mapR (fun i => N.getD i 0) p := mapR_congr fun k hk => by
                have := rf k hk
                rw [List.getD_eq_getElem?_getD, List.getD_eq_getElem?_getD, List.getElem?_append_left this]
              rw [em] at hv'
              walk_at "v"
              refine v_appI h13 2 rfl (by omega) fun H14 h14 => ?_
              walk_at "v"
              try dsimp only
              refine IV.mk (l8.trans l9) h14 ⟨_, _, ys ++ [Part.mapR (fun i => N.getD i 0) p], vs ++ [v'], _, _, _, _, _, _, ki.part wk ep np, by simp, by rw [List.append_assoc], by simp; omega, ?_, ?_, rfl⟩
              · rw [List.map_append]
                exact (hvs.up l9).append (.one hv')
              · rw [List.map_append, List.length_append]
                rfl
          cases p with
          | letter a =>
            refine iteT' rfl ?_
            have ha : a ∈ tg := wfh _ _ ep
            have hax := idxOf_get ha
            walk_at "v"
            refine v_bmL (h11.atI 0 rfl) ?_
            walk_at "v"
            refine v_ixT (v := .str (S [a])) (h11.t (SqT.of hP)) (at_lit 1 rfl) ?_
            refine v_dgetS (h11.atI 1 rfl) (by rw [lf_val, if_pos ha, Nat.zero_add]) ?_
            walk_at "v"
            refine v_appI h11 0 rfl (by rw [List.length_map]; omega) fun H12 h12 => ?_
            walk_at "v"
            try dsimp only
            have hgx : (gs.map GS.ps)[tg.idxOf a]? = some ((gs.map GS.ps).getD (tg.idxOf a) []) := by
              have := (List.getElem?_eq_some_iff.mp hax).1
              rw [List.getD_eq_getElem?_getD, List.getElem?_eq_getElem (by rw [List.length_map]; omega)]
              rfl
            obtain ⟨t1, t2⟩ := lastAt_tree gsw gs1 hgx
            refine IV.mk l8 h12 ⟨_, N ++ [lastAt (gs.map GS.ps) (tg.idxOf a)], ys, vs, _, _, _, _, _, _, ki.letter wk ep (by rw [List.length_append]; omega) (by rw [treeAt_app _ t1]; exact t2), by simp, rfl, by omega, hvs, ?_, rfl⟩
            rw [List.map_append]
            rfl
          | c b => exact iteF' (by cases b <;> rfl) (other fun a z => by cases z)
          | un u i => exact iteF' (by cases u <;> rfl) (other fun a z => by cases z)
          | bin u i j => exact iteF' (by cases u <;> rfl) (other fun a z => by cases z)
        · rintro σ' B8 M3 H11 l8 h11 ⟨Q', N, ys, vs, y5, y6, y10, y12, y13, y14, ki, hN, rfl, hys, hvs, rfl, rfl⟩
          have l17 := l16.trans (l7.trans l8)
          have jl' : (joinP (gs.map GS.ps)).length ≤ 48000 := by
            have := jl gs.length
            rwa [List.take_of_length_le (by rw [List.length_map]; exact Nat.le_refl _)] at this
          obtain ⟨N', n, rfl⟩ : ∃ N' n, N = N' ++ [n] := ⟨N.dropLast, _, (List.dropLast_concat_getLast (by intro e; rw [e] at hN; simp at hN; omega)).symm⟩
          obtain ⟨k1, k2⟩ := ki.at_ (h.ps.length - 1) n (by
            rw [List.length_append, List.length_singleton] at hN
            rw [List.getElem?_append_right (by omega), show h.ps.length - 1 - N'.length = 0 by omega]
            rfl)
          obtain ⟨h12, l12'⟩ := (h11.pick (M' := (pa, _) :: M') (.cons _ (.cons _ (List.Sublist.refl _)))).fix
          walk_at "v"
          refine v_ixL (v := intV n) (SqL.of (h11.atI 0 rfl)) (by rw [List.map_append]; exact atI_last _ _) ?_
          walk_at "v"
          refine ⟨_, M', pa, vs, _, n, rfl, h12, SqL.of upd_same, hvs.up l12', ki.wr, k1, by rw [List.length_append]; omega, fun v' B9 H12 l9 h13 hv' => ?_⟩
          have l18 := l17.trans (l12'.trans l9)
          rw [k2] at hv'
          obtain ⟨ta, txs, rfl, hTX, hTA⟩ := rp_mk (l := false) hv'
          have txl : txs.length = (toldT tg (gs.map GS.ps) h.ps).length := by rw [hTA.length, List.length_map]; rfl
          walk_at "v"
          refine v_lenT (h13.t (SqT.of hTX)) ?_
          rw [txl]
          walk_at "v"
          by_cases c : 6000 < (toldT tg (gs.map GS.ps) h.ps).length
          · refine iteT' (decide_eq_true (by omega)) ?_
            exact v_raise h13 ⟨"part", rfl, by decide⟩ ((big c).le l18) fun q h => h
          · refine iteF' (decide_eq_false (by omega)) ?_
            walk_at "v"
            exact q (by omega) _ _ _ l18 h13 hv'
theorem ok_p_put_in (T : Txt K mg w) (TX : TxtX T P) : FnOk P w K mg base (L2.CX P w) 7 T.a_p_put_in T.fd_p_put_in ["alphabet", "target", "sheets", "sheet"] (sp_p_put_in T) := by
  refine T.F_p_put_in.okX sc_p_put_in (fun vs H Q E h => ?_) (fun cdv A outer s H vs Q E hr h => ⟨t_p_put_in T E, ?_, pure_p_put_in T vs H Q E h⟩)
  · obtain ⟨B, M, va, vt, v2, v3, da, dt, rfl, _⟩ := h
    rfl
  · exact (pss_cons (ps_expr (pe_call (toZ (ok_p_check_alphabet T TX)) (hr.mono (by decide)) (by rfl) T.g_p_check_alphabet T.F_p_check_alphabet.kp T.b_p_check_alphabet .nil (L2.passes_call (L2.takes_of rfl rfl rfl rfl) (fun _ _ _ _ h => h)) (pa_cons (pv 0) pa_nil)))
      (pss_cons (ps_expr (pe_call (toZ (ok_p_check_alphabet T TX)) (hr.mono (by decide)) (by rfl) T.g_p_check_alphabet T.F_p_check_alphabet.kp T.b_p_check_alphabet .nil (L2.passes_call (L2.takes_of rfl rfl rfl rfl) (fun _ _ _ _ h => h)) (pa_cons (pv 1) pa_nil)))
      (pss_cons (ps_if (PW.pt (pw_or (pt_not (pt_val (pe_call (ok_p_is_listed T) (hr.mono (by decide)) (by rfl) T.g_p_is_listed T.F_p_is_listed.kp T.b_p_is_listed .nil pass0 (pa_cons (pv 2) pa_nil)))) (pw_or1 (pt_cmpR op_ne (pe_callB call_len (by rfl) (T.free_len) (by decide +kernel) (pa_cons (pv 2) pa_nil)) (pe_callB call_len (by rfl) (T.free_len) (by decide +kernel) (pa_cons (pv 1) pa_nil)) (nomark _))))) (pss_one (ps_raiseZ rfl TX.x_BadSheets T.g_BadSheets T.free_super gvI_ok (depth_of hr) (L2.takes_of rfl rfl rfl rfl) (pa_cons (pe_un un_neg pe_int) pa_nil) (by rfl))) pss_nil)
      (pss_cons (ps_setLcX (i := 4) (own := [("number", 5), ("one", 6)]) (g := (gTup K 2 (gCons (gName 5) (gCons (gName 6) gNil)))) (tt := tYes) rfl rfl (L2.takes_of rfl rfl rfl rfl) rfl sc_p_put_in.nd rfl rfl (sw_true rfl rfl rfl (by decide +kernel)) (pi_enumQ (by rfl) (T.free_enumerate) (pa_cons (pv 2) pa_nil)) (blkOk_by (own := [("number", 5), ("one", 6)]) (N := n_p_put_in) (sc := defScope s_p_put_in) (by decide +kernel)) (fun _ _ _ _ _ => (pg_tup rfl (pgs_cons (pg_name (i := 5) sc_p_put_in.nd rfl (Or.inl rfl)) (pgs_cons (pg_name (i := 6) sc_p_put_in.nd rfl (Or.inl rfl)) pgs_nil)))) (fun _ _ _ _ _ => pts_nil) (fun _ _ _ _ _ _ hL => (pe_call (ok_p_given_sheet T TX) hr (by rfl) T.g_p_given_sheet T.F_p_given_sheet.kp T.b_p_given_sheet .nil hL (pa_cons (pv 0) (pa_cons (pv 5) (pa_cons (pv 6) pa_nil))))))
      (pss_cons (ps_set (i := 7) sc_p_put_in.nd rfl (by first | exact Or.inl rfl | exact Or.inr rfl) (pe_call (toZ (ok_p_tense_sheet T TX)) (hr.mono (by decide)) (by rfl) T.g_p_tense_sheet T.F_p_tense_sheet.kp T.b_p_tense_sheet .nil (L2.passes_call (L2.takes_of rfl rfl rfl rfl) (fun _ _ _ _ h => h)) (pa_cons (pv 1) (pa_cons (pv 3) pa_nil))))
      (pss_cons (ps_set (i := 8) sc_p_put_in.nd rfl (by first | exact Or.inl rfl | exact Or.inr rfl) (pe_lst pa_nil))
      (pss_cons (ps_set (i := 9) sc_p_put_in.nd rfl (by first | exact Or.inl rfl | exact Or.inr rfl) pe_dnewK)
      (pss_cons (ps_for (passes_of rfl) rfl (pi_zipS (by rfl) (T.free_zip) (pa_cons (pv 1) (pa_cons (pv 4) pa_nil))) (pg_tup rfl (pgs_cons (pg_name (i := 10) sc_p_put_in.nd rfl (by first | exact Or.inl rfl | exact Or.inr rfl)) (pgs_cons (pg_name (i := 6) sc_p_put_in.nd rfl (by first | exact Or.inl rfl | exact Or.inr rfl)) pgs_nil))) (pss_cons (ps_set (i := 11) sc_p_put_in.nd rfl (by first | exact Or.inl rfl | exact Or.inr rfl) (pe_lc (own := [("k", 12)]) (g := (gName 12)) (tt := tYes) rfl sc_p_put_in.nd (pi_range1 (by rfl) (T.free_range) (pa_cons (pe_callB call_len (by rfl) (T.free_len) (by decide +kernel) (pa_cons (pv 6) pa_nil)) pa_nil)) (blkOk_by (own := [("k", 12)]) (N := n_p_put_in) (sc := defScope s_p_put_in) (by decide +kernel)) (fun _ _ _ _ _ => (pg_name (i := 12) sc_p_put_in.nd rfl (Or.inl rfl))) (fun _ _ _ _ _ => pts_nil) (fun _ _ _ _ _ => (pe_op op_add (pe_callB call_len (by rfl) (T.free_len) (by decide +kernel) (pa_cons (pv 8) pa_nil)) (pv 12)))))
      (pss_cons (ps_set (i := 8) sc_p_put_in.nd rfl (by first | exact Or.inl rfl | exact Or.inr rfl) (pe_op op_cat (pv 8) (pe_lc (own := [("part", 13)]) (g := (gName 13)) (tt := tYes) rfl sc_p_put_in.nd (pi_tup (pv 6)) (blkOk_by (own := [("part", 13)]) (N := n_p_put_in) (sc := defScope s_p_put_in) (by decide +kernel)) (fun _ _ _ _ _ => (pg_name (i := 13) sc_p_put_in.nd rfl (Or.inl rfl))) (fun _ _ _ _ _ => pts_nil) (fun _ _ _ _ _ => (pe_call (ok_p_renumbered T) (hr.mono (by decide)) (by rfl) T.g_p_renumbered T.F_p_renumbered.kp T.b_p_renumbered .nil pass0 (pa_cons (pv 13) (pa_cons (pv 11) pa_nil)))))))
      (pss_one (ps_dput (hu_of hr) (pv 9) (pv 10) (pe_op op_sub (pe_callB call_len (by rfl) (T.free_len) (by decide +kernel) (pa_cons (pv 8) pa_nil)) pe_int) rfl)))))
      (pss_cons (ps_set (i := 11) sc_p_put_in.nd rfl (by first | exact Or.inl rfl | exact Or.inr rfl) (pe_lst pa_nil))
      (pss_cons (ps_for (passes_of rfl) rfl (pi_tup (pv 7)) (pg_name (i := 13) sc_p_put_in.nd rfl (by first | exact Or.inl rfl | exact Or.inr rfl)) (pss_one (ps_if (pt_cmpR op_eq (pe_ix ix_tup (pv 13) pe_int (fun _ _ => rfl)) pe_str (nomark _)) (pss_one (ps_expr (pe_bm PySem.F.plainAttrs_list PySem.F.slot_list_append PySem.F.type_list_append mt_append (pv 11) (pa_cons (pe_dget (hu_of hr) (pv 9) (pe_ix ix_tup (pv 13) pe_int (fun _ _ => rfl)) (fun _ _ => rfl)) pa_nil)))) (pss_cons (ps_expr (pe_bm PySem.F.plainAttrs_list PySem.F.slot_list_append PySem.F.type_list_append mt_append (pv 11) (pa_cons (pe_callB call_len (by rfl) (T.free_len) (by decide +kernel) (pa_cons (pv 8) pa_nil)) pa_nil)))
      (pss_one (ps_expr (pe_bm PySem.F.plainAttrs_list PySem.F.slot_list_append PySem.F.type_list_append mt_append (pv 8) (pa_cons (pe_call (ok_p_renumbered T) (hr.mono (by decide)) (by rfl) T.g_p_renumbered T.F_p_renumbered.kp T.b_p_renumbered .nil pass0 (pa_cons (pv 13) (pa_cons (pv 11) pa_nil))) pa_nil))))))))
      (pss_cons (ps_set (i := 14) sc_p_put_in.nd rfl (by first | exact Or.inl rfl | exact Or.inr rfl) (pe_call (ok_p_tidied T) (hr.mono (by decide)) (by rfl) T.g_p_tidied T.F_p_tidied.kp T.b_p_tidied .nil pass0 (pa_cons (pv 8) (pa_cons (pe_ix ix_list (pv 11) (pe_un un_neg pe_int) (fun _ _ => rfl)) pa_nil))))
      (pss_cons (ps_if (pt_cmpR op_gt (pe_callB call_len (by rfl) (T.free_len) (by decide +kernel) (pa_cons (pv 14) pa_nil)) (pe_glob rfl T.c_MOST ⟨_, rfl⟩) (nomark _)) (pss_one (ps_raiseZ rfl TX.x_TooMany T.g_TooMany T.free_super gvS_ok (depth_of hr) (L2.takes_of rfl rfl rfl rfl) (pa_cons pe_str pa_nil) (by rfl))) pss_nil)
      (pss_one (ps_ret (pv 14)))))))))))))))
end
end K71
set_option Elab.async false
set_option linter.all false
set_option maxRecDepth 100000
set_option maxHeartbeats 8000000
namespace K71
open PySem PySem.Spec PyProof.Rows L2 Sh
open SX (S)
local macro_rules | `(tactic| walk_at "v1") => `(tactic| first
  | with_reducible refine v_seq ?_ | with_reducible refine v_asg ?_ | ((with_reducible refine' v_name ?e ?_); (case e => exact rfl)) | with_reducible refine v_ret ?_ | with_reducible refine v_drop ?_ | with_reducible refine v_next ?_
  | with_reducible refine v_if ?_ | with_reducible refine v_op ?_ | with_reducible refine v_c ?_ | ((with_reducible refine' v_var ?e ?_); (case e => exact rfl))
  | with_reducible refine v_I0 ?_ | with_reducible refine v_test ?_ | with_reducible refine v_B ?_ | with_reducible refine v_bl ?_ | with_reducible refine v_not ?_ | with_reducible refine v_and ?_ | with_reducible refine v_or ?_
  | with_reducible refine v_andV ?_ | with_reducible refine v_orV ?_ | with_reducible refine v_notV ?_ | with_reducible refine v_ife ?_
  | with_reducible refine v_nil ?_ | with_reducible refine v_cons ?_ | with_reducible refine v_tup ?_ | with_reducible refine v_lst ?_ | with_reducible refine v_call ?_ | with_reducible refine v_cb ?_ | with_reducible refine v_int ?_ | with_reducible refine v_abs ?_
  | ((with_reducible refine' v_eq ?e ?_); (case e => exact rfl)) | ((with_reducible refine' v_ne ?e ?_); (case e => exact rfl)) | with_reducible refine v_sub ?_ | with_reducible refine v_isN ?_ | with_reducible refine v_notN ?_
  | with_reducible refine v_part ?_ | with_reducible refine v_nopart ?_ | with_reducible refine v_pint ?_ | with_reducible refine v_inSg ?_ | with_reducible refine v_notInSg ?_
  | ((with_reducible refine' v_ixL ?l ?a ?_); (case l => assumption); (case a => exact at_lit _ rfl)) | ((with_reducible refine' v_ixT ?l ?a ?_); (case l => assumption); (case a => exact at_lit _ rfl))
  | ((with_reducible refine v_I ?c ?_); (case c => (first | omega | (unfold CMul; omega) | (unfold CDivN; omega) | (unfold CPow; omega))))
  | with_reducible refine v_for ?_ | with_reducible refine v_iList ?_ | with_reducible refine v_iTup ?_ | with_reducible refine v_iStr ?_ | with_reducible refine v_iR1 ?_ | with_reducible refine v_iR2 ?_ | with_reducible refine v_atS ?_ | with_reducible refine v_sl ?_ | with_reducible refine v_lc ?_ | with_reducible refine v_yes ?_
  | with_reducible refine v_m1 ?_ | with_reducible refine v_m1S ?_ | with_reducible refine v_bm ?_ | with_reducible refine v_bm0 ?_ | with_reducible refine v_dnewK ?_ | with_reducible refine v_dnewT ?_ | with_reducible refine v_dget ?_ | with_reducible refine v_din ?_ | with_reducible refine v_dnotin ?_ | with_reducible refine v_dput ?_ | with_reducible refine v_chain ?_ | with_reducible refine v_un ?_ | with_reducible refine v_neg ?_
  | with_reducible refine v_brk ?_ | with_reducible refine v_cont ?_)
local macro_rules | `(tactic| walk_at "v") => `(tactic| repeat (walk_at "v1"))
local macro_rules | `(tactic| walk_at "vm") => `(tactic| repeat (first | ((with_reducible refine v_modP ?c ?_); (case c => omega); (intro _ _ _)) | walk_at "v1"))
local macro_rules | `(tactic| walk_at "iv") => `(tactic| (try dsimp only; refine IV.mk (by assumption) (by assumption) ?_))
local macro_rules | `(tactic| walk_at "n") => `(tactic| dsimp only [List.set_cons_zero, List.set_cons_succ])
inductive Out where
  | thing (d : PyData) | sheets (n : Int) | sheet (n : Int) | many | told (ps : List Part)
def Out.k : Out → Str
  | .thing _ => "thing"
  | .sheets _ => "sheets"
  | .sheet _ => "sheet"
  | .many => "many"
  | .told _ => "told"
def Out.t : Out → Str
  | .thing d => d.shown
  | .sheets n => (PyData.int n).shown
  | .sheet n => (PyData.int n).shown
  | .many => "part"
  | .told ps => (sheetD false false ps).shown
def PutD (da dt d2 d3 : PyData) (o : Out) : Prop :=
  (isAlphaD da = false ∧ ShowOk da ∧ o = .thing da) ∨ (isAlphaD da = true ∧ isAlphaD dt = false ∧ ShowOk dt ∧ o = .thing dt) ∨
  ∃ al tg : List Nat, da = .str (S al) ∧ dt = .str (S tg) ∧ isAlphaD da = true ∧ isAlphaD dt = true ∧ tg.Nodup ∧
    (((isLT d2 = false ∨ (itemsD d2).length ≠ tg.length) ∧ o = .sheets (-1)) ∨
     ∃ (l : Bool) (gs : List GS), d2 = mkD l (gs.map GS.d) ∧ gs.length = tg.length ∧ (∀ g ∈ gs, g.ok al) ∧
      ((∃ (k : Nat) (g : GS), gs[k]? = some g ∧ g.num ≠ none ∧ (∀ (j : Nat) (g : GS), j < k → gs[j]? = some g → g.num = none) ∧ o = .sheets (k : Int)) ∨
       ((∀ g ∈ gs, g.num = none) ∧ ∃ h : GS, d3 = h.d ∧ h.ok tg ∧
        ((∃ n, h.num = some n ∧ n.natAbs ≤ 1000000 ∧ o = .sheet n) ∨
         (h.num = none ∧ ((6000 < (toldT tg (gs.map GS.ps) h.ps).length ∧ o = .many) ∨
          ((toldT tg (gs.map GS.ps) h.ps).length ≤ 6000 ∧ ShowOk (sheetD false false (toldT tg (gs.map GS.ps) h.ps)) ∧ o = .told (toldT tg (gs.map GS.ps) h.ps))))))))
theorem int_showOk {n : Int} (h : n.natAbs ≤ 1000000) : ShowOk (.int n) := by
  have hl : n.natAbs.log2 < 1920 := by
    by_cases h0 : n.natAbs = 0
    · rw [h0]; decide
    · have := (Nat.log2_lt h0).mpr (Nat.lt_of_le_of_lt h (show 1000000 < 2 ^ 20 by decide))
      omega
  exact ⟨rfl, by simp only [PyData.showable]; exact decide_eq_true hl, by simp only [PyData.hasDict], by simp only [PyData.depth]; omega, by unfold PyData.shown; exact int_text_fits hl⟩
section
variable {P : Program} {w : World} {K : PySem.W.Frag} {mg : Str → Option Value} {base : Heap}
def sp_put (T : Txt K mg w) : Sp := fun vs H Q _ => ∃ (B : Hp) (M : List (Addr × HO)) (va vt v2 v3 : V) (da dt d2 d3 : PyData) (o : Out), vs = [va, vt, v2, v3] ∧ Hs B M H ∧ Rp K B va da ∧ Rp K B vt dt ∧ Rp K B v2 d2 ∧ Rp K B v3 d3 ∧
  (∀ z, da = .str z → z.length ≤ 1000000) ∧ (∀ z, dt = .str z → z.length ≤ 1000000) ∧ PutD da dt d2 d3 o ∧ ∀ (v' : V) (B' H' : Hp), Le B B' → Hs B' M H' → Rp K B' v' (.tuple [.str o.k, .str o.t]) → Q v' H'
def t_put (T : Txt K mg w) : TS := (tTryAs K (.ref T.a_SaidError) 4 (fun W => (tRet (tTup (tCons (tC (.str "told")) (tCons (tCB (rRepr K) (tCons (tCallS (sp_p_put_in T) (L2.WE W) (tCons (tVar 0) (tCons (tVar 1) (tCons (tVar 2) (tCons (tVar 3) tNil))))) tNil)) tNil))))) (fun a cls d => (tSeq (tIfS (tB (tCB (rIsD K a cls d) (tCons (tVar 4) (tCons (tC (.ref T.a_WrongThing)) tNil)))) (tRet (tTup (tCons (tIf (tB (tCB (rIsD K a cls d) (tCons (tVar 4) (tCons (tC (.ref T.a_BadAlphabet)) tNil)))) (tC (.str "thing")) (tC (.str "other"))) (tCons (tCB (rRepr K) (tCons (tXf a cls d T.a_BadAlphabet "thing" (tVar 4)) tNil)) tNil)))) tNext)
    (tSeq (tIfS (tB (tCB (rIsD K a cls d) (tCons (tVar 4) (tCons (tC (.ref T.a_BadSheets)) tNil)))) (tRet (tTup (tCons (tIf (tB (tCB (rIsD K a cls d) (tCons (tVar 4) (tCons (tC (.ref T.a_WrongItem)) tNil)))) (tC (.str "sheets")) (tC (.str "other"))) (tCons (tCB (rRepr K) (tCons (tXf a cls d T.a_BadSheets "number" (tVar 4)) tNil)) tNil)))) tNext)
    (tSeq (tIfS (tB (tCB (rIsD K a cls d) (tCons (tVar 4) (tCons (tC (.ref T.a_BadSheet)) tNil)))) (tRet (tTup (tCons (tIf (tB (tCB (rIsD K a cls d) (tCons (tVar 4) (tCons (tC (.ref T.a_WrongItem)) tNil)))) (tC (.str "sheet")) (tC (.str "other"))) (tCons (tCB (rRepr K) (tCons (tXf a cls d T.a_BadSheet "number" (tVar 4)) tNil)) tNil)))) tNext)
    (tSeq (tIfS (tB (tCB (rIsD K a cls d) (tCons (tVar 4) (tCons (tC (.ref T.a_TooMany)) tNil)))) (tRet (tTup (tCons (tC (.str "many")) (tCons (tXf a cls d T.a_TooMany "word" (tVar 4)) tNil)))) tNext)
    (tRet (tTup (tCons (tC (.str "other")) (tCons (tC (.str "")) tNil))))))))) (fun _ _ _ _ => False))
def suite_put (T : Txt K mg w) (a : Addr) (cls : Value) (d : Option Addr) : TS := (tSeq (tIfS (tB (tCB (rIsD K a cls d) (tCons (tVar 4) (tCons (tC (.ref T.a_WrongThing)) tNil)))) (tRet (tTup (tCons (tIf (tB (tCB (rIsD K a cls d) (tCons (tVar 4) (tCons (tC (.ref T.a_BadAlphabet)) tNil)))) (tC (.str "thing")) (tC (.str "other"))) (tCons (tCB (rRepr K) (tCons (tXf a cls d T.a_BadAlphabet "thing" (tVar 4)) tNil)) tNil)))) tNext)
    (tSeq (tIfS (tB (tCB (rIsD K a cls d) (tCons (tVar 4) (tCons (tC (.ref T.a_BadSheets)) tNil)))) (tRet (tTup (tCons (tIf (tB (tCB (rIsD K a cls d) (tCons (tVar 4) (tCons (tC (.ref T.a_WrongItem)) tNil)))) (tC (.str "sheets")) (tC (.str "other"))) (tCons (tCB (rRepr K) (tCons (tXf a cls d T.a_BadSheets "number" (tVar 4)) tNil)) tNil)))) tNext)
    (tSeq (tIfS (tB (tCB (rIsD K a cls d) (tCons (tVar 4) (tCons (tC (.ref T.a_BadSheet)) tNil)))) (tRet (tTup (tCons (tIf (tB (tCB (rIsD K a cls d) (tCons (tVar 4) (tCons (tC (.ref T.a_WrongItem)) tNil)))) (tC (.str "sheet")) (tC (.str "other"))) (tCons (tCB (rRepr K) (tCons (tXf a cls d T.a_BadSheet "number" (tVar 4)) tNil)) tNil)))) tNext)
    (tSeq (tIfS (tB (tCB (rIsD K a cls d) (tCons (tVar 4) (tCons (tC (.ref T.a_TooMany)) tNil)))) (tRet (tTup (tCons (tC (.str "many")) (tCons (tXf a cls d T.a_TooMany "word" (tVar 4)) tNil)))) tNext)
    (tRet (tTup (tCons (tC (.str "other")) (tCons (tC (.str "")) tNil))))))))
theorem v_isD {a : Addr} {cls : Value} {d : Option Addr} {H : Hp} {Q : VK} {D C dd : Addr} {fs : List (Str × V)} {b : Bool} (ec : cls = .ref D) (ed : d = some dd) (C0 : ExcC K D) (hd : H dd = some (.xd fs)) (k : PySem.W.kitOne K (.ref D) (.ref C) = some b) (q : Q (.bl b) H) : rIsD K a cls d [.ref a, .ref C] H Q :=
  ⟨.ref C, .ref C, D, dd, fs, b, rfl, fun _ r => r, ec, ed, C0, hd, k, q⟩
theorem v_two {B H : Hp} {M : List (Addr × HO)} {x y : V} {dx dy : PyData} {Q : VK} (hs : Hs B M H) (hx : Rp K B x dx) (hy : Rp K B y dy) (q : ∀ (v' : V) (B' H' : Hp), Le B B' → Hs B' M H' → Rp K B' v' (.tuple [dx, dy]) → Q v' H') : [x, y].length ≤ sizeLine ∧ Nw H (.tup [x, y]) Q :=
  v_size (by show 2 ≤ sizeLine; decide) (v_newB hs fun p B' H' l h e => q _ _ _ l h (.tup e (.cons (hx.up l) (.cons (hy.up l) .nil))))
theorem pure_put (T : Txt K mg w) (TX : TxtX T P) (vs : List V) (H : Hp) (Q : VK) (E : XK) (h : sp_put T vs H Q E) : t_put T { nx := fun _ H' => Q .non H', rt := Q } (start n_put vs) H := by
  obtain ⟨B, M, va, vt, v2, v3, da, dt, d2, d3, o, rfl, hs, hva, hvt, hv2, hv3, za, zt, put, q⟩ := h
  show t_put T _ [some va, some vt, some v2, some v3, none] H
  unfold t_put tTryAs
  walk_at "v"
  refine ⟨_, rfl, _, rfl, _, rfl, _, rfl, ?_⟩
  show sp_p_put_in T [va, vt, v2, v3] H _ _
  refine ⟨B, M, va, vt, v2, v3, da, dt, rfl, hs, hva, hvt, za, zt, ?_⟩
  have err : ∀ (C : Addr) (f : Str) (v : V), C ∈ [T.a_BadAlphabet, T.a_BadSheet, T.a_BadSheets, T.a_TooMany] →
      (∀ (a dd : Addr) (B' H' : Hp), Le B B' → Hs B' M H' → B' dd = some (.xd [(f, v)]) → suite_put T a (.ref C) (some dd) { nx := fun _ H' => Q .non H', rt := Q, bk := fun _ _ => False, ct := fun _ _ => False } [some va, some vt, some v2, some v3, some (.ref a)] H') →
      Thr B M (L2.WE (wAs K (.ref T.a_SaidError) 4 (fun a cls d => suite_put T a cls d) (fun _ _ _ _ => False) { nx := fun _ H' => Q .non H', rt := Q }) [some va, some vt, some v2, some v3, none]) C f v := by
    intro C f v hC hq d B' H' l h e
    exact ⟨true, TX.said C hC, fun _ a _ => hq a d B' H' l h e, fun z => Bool.noConfusion z⟩
  have thing : ∀ (v : V) (d : PyData), Rp K B v d → ShowOk d → o = .thing d → Thr B M (L2.WE (wAs K (.ref T.a_SaidError) 4 (fun a cls d => suite_put T a cls d) (fun _ _ _ _ => False) { nx := fun _ H' => Q .non H', rt := Q }) [some va, some vt, some v2, some v3, none]) T.a_BadAlphabet "thing" v := by
    rintro v d hv sd rfl
    refine err _ _ _ (by simp) fun a dd B' H' l h e => ?_
    have hx := h.sub _ _ e
    unfold suite_put
    walk_at "v"
    refine v_isD rfl rfl TX.c_BadAlphabet hx (TX.kits (T.a_BadAlphabet, T.a_WrongThing, true) (by simp)) ?_
    walk_at "v"
    refine iteT' rfl ?_
    walk_at "v"
    refine v_isD rfl rfl TX.c_BadAlphabet hx (TX.kits (T.a_BadAlphabet, T.a_BadAlphabet, true) (by simp)) ?_
    walk_at "v"
    refine iteT' rfl ?_
    walk_at "v"
    refine ⟨_, rfl, rfl, rfl, dd, _, v, rfl, hx, by simp [List.lookup], ?_⟩
    walk_at "v"
    refine v_repr h (hv.up l) sd ?_
    walk_at "v"
    exact v_two h (.str _) (.str _) fun v' B2 H2 l2 h2 r => q _ _ _ (l.trans l2) h2 r
  have sheets : ∀ n : Int, n.natAbs ≤ 1000000 → o = .sheets n → Thr B M (L2.WE (wAs K (.ref T.a_SaidError) 4 (fun a cls d => suite_put T a cls d) (fun _ _ _ _ => False) { nx := fun _ H' => Q .non H', rt := Q }) [some va, some vt, some v2, some v3, none]) T.a_BadSheets "number" (.int n) := by
    rintro n hn rfl
    refine err _ _ _ (by simp) fun a dd B' H' l h e => ?_
    have hx := h.sub _ _ e
    unfold suite_put
    walk_at "v"
    refine v_isD rfl rfl TX.c_BadSheets hx (TX.kits (T.a_BadSheets, T.a_WrongThing, false) (by simp)) ?_
    walk_at "v"
    refine iteF' rfl ?_
    walk_at "v"
    refine v_isD rfl rfl TX.c_BadSheets hx (TX.kits (T.a_BadSheets, T.a_BadSheets, true) (by simp)) ?_
    walk_at "v"
    refine iteT' rfl ?_
    walk_at "v"
    refine v_isD rfl rfl TX.c_BadSheets hx (TX.kits (T.a_BadSheets, T.a_WrongItem, true) (by simp)) ?_
    walk_at "v"
    refine iteT' rfl ?_
    walk_at "v"
    refine ⟨_, rfl, rfl, rfl, dd, _, V.int n, rfl, hx, by simp [List.lookup], ?_⟩
    walk_at "v"
    refine v_repr h (.int n) (int_showOk hn) ?_
    walk_at "v"
    exact v_two h (.str _) (.str _) fun v' B2 H2 l2 h2 r => q _ _ _ (l.trans l2) h2 r
  have sheet : ∀ n : Int, n.natAbs ≤ 1000000 → o = .sheet n → Thr B M (L2.WE (wAs K (.ref T.a_SaidError) 4 (fun a cls d => suite_put T a cls d) (fun _ _ _ _ => False) { nx := fun _ H' => Q .non H', rt := Q }) [some va, some vt, some v2, some v3, none]) T.a_BadSheet "number" (.int n) := by
    rintro n hn rfl
    refine err _ _ _ (by simp) fun a dd B' H' l h e => ?_
    have hx := h.sub _ _ e
    unfold suite_put
    walk_at "v"
    refine v_isD rfl rfl TX.c_BadSheet hx (TX.kits (T.a_BadSheet, T.a_WrongThing, false) (by simp)) ?_
    walk_at "v"
    refine iteF' rfl ?_
    walk_at "v"
    refine v_isD rfl rfl TX.c_BadSheet hx (TX.kits (T.a_BadSheet, T.a_BadSheets, false) (by simp)) ?_
    walk_at "v"
    refine iteF' rfl ?_
    walk_at "v"
    refine v_isD rfl rfl TX.c_BadSheet hx (TX.kits (T.a_BadSheet, T.a_BadSheet, true) (by simp)) ?_
    walk_at "v"
    refine iteT' rfl ?_
    walk_at "v"
    refine v_isD rfl rfl TX.c_BadSheet hx (TX.kits (T.a_BadSheet, T.a_WrongItem, true) (by simp)) ?_
    walk_at "v"
    refine iteT' rfl ?_
    walk_at "v"
    refine ⟨_, rfl, rfl, rfl, dd, _, V.int n, rfl, hx, by simp [List.lookup], ?_⟩
    walk_at "v"
    refine v_repr h (.int n) (int_showOk hn) ?_
    walk_at "v"
    exact v_two h (.str _) (.str _) fun v' B2 H2 l2 h2 r => q _ _ _ (l.trans l2) h2 r
  have many : o = .many → Thr B M (L2.WE (wAs K (.ref T.a_SaidError) 4 (fun a cls d => suite_put T a cls d) (fun _ _ _ _ => False) { nx := fun _ H' => Q .non H', rt := Q }) [some va, some vt, some v2, some v3, none]) T.a_TooMany "word" (.str "part") := by
    rintro rfl
    refine err _ _ _ (by simp) fun a dd B' H' l h e => ?_
    have hx := h.sub _ _ e
    unfold suite_put
    walk_at "v"
    refine v_isD rfl rfl TX.c_TooMany hx (TX.kits (T.a_TooMany, T.a_WrongThing, false) (by simp)) ?_
    walk_at "v"
    refine iteF' rfl ?_
    walk_at "v"
    refine v_isD rfl rfl TX.c_TooMany hx (TX.kits (T.a_TooMany, T.a_BadSheets, false) (by simp)) ?_
    walk_at "v"
    refine iteF' rfl ?_
    walk_at "v"
    refine v_isD rfl rfl TX.c_TooMany hx (TX.kits (T.a_TooMany, T.a_BadSheet, false) (by simp)) ?_
    walk_at "v"
    refine iteF' rfl ?_
    walk_at "v"
    refine v_isD rfl rfl TX.c_TooMany hx (TX.kits (T.a_TooMany, T.a_TooMany, true) (by simp)) ?_
    walk_at "v"
    refine iteT' rfl ?_
    walk_at "v"
    refine ⟨_, rfl, rfl, rfl, dd, _, V.str "part", rfl, hx, by simp [List.lookup], ?_⟩
    walk_at "v"
    exact v_two h (.str _) (.str _) fun v' B2 H2 l2 h2 r => q _ _ _ (l.trans l2) h2 r
  rcases put with ⟨a1, a2, a3⟩ | ⟨a1, a2, a3, a4⟩ | ⟨al, tg, rfl, rfl, ea, et, nd, r⟩
  · exact .inl ⟨a1, thing va da hva a2 a3⟩
  · exact .inr (.inl ⟨a1, a2, thing vt dt hvt a3 a4⟩)
  · refine .inr (.inr ⟨al, tg, rfl, rfl, ea, et, nd, ?_⟩)
    rcases r with ⟨a1, a2⟩ | ⟨l, gs, rfl, hgl, gok, r⟩
    · exact .inl ⟨d2, hv2, a1, sheets _ (by decide) a2⟩
    · refine .inr ⟨l, gs, hv2, hgl, gok, ?_⟩
      rcases r with ⟨k, g, e1, e2, e3, e4⟩ | ⟨all, hh, rfl, hok, r⟩
      · have hk := (List.getElem?_eq_some_iff.mp e1).1
        have := alpha_len et
        exact .inl ⟨k, g, e1, e2, e3, sheets _ (by omega) e4⟩
      · refine .inr ⟨all, hh, hv3, hok, ?_⟩
        rcases r with ⟨n, e1, e2, e3⟩ | ⟨e1, r⟩
        · exact .inl ⟨n, e1, sheet n e2 e3⟩
        · refine .inr ⟨e1, fun c => ?_, fun c v' B' H' l' h' r' => ?_⟩
          · rcases r with ⟨_, e⟩ | ⟨c2, _⟩
            · exact many e
            · omega
          · rcases r with ⟨c2, _⟩ | ⟨_, sd, rfl⟩
            · omega
            · walk_at "v"
              refine v_repr h' r' sd ?_
              walk_at "v"
              exact v_two h' (.str _) (.str _) fun v' B2 H2 l2 h2 r => q _ _ _ (l'.trans l2) h2 r
theorem ok_put (T : Txt K mg w) (TX : TxtX T P) : FnG P w K mg base CX0 8 T.a_put T.fd_put ["_law_alphabet", "_law_target", "_law_sheets", "_law_sheet"] (sp_put T) := by
  refine okG_of T.F_put sc_put (fun vs H Q E h => ?_) (fun cdv A outer s H vs Q E hgd hr h => ⟨t_put T, ?_, pure_put T TX vs H Q E h⟩)
  · obtain ⟨B, M, va, vt, v2, v3, da, dt, d2, d3, o, rfl, _⟩ := h
    rfl
  · exact (pss_one (L2.ps_try_as (i := 4) rfl rfl sc_put.nd rfl rfl ⟨by rfl, by decide, .inl T.g_SaidError⟩ takes_none (fun W pn xe tk _ => (pss_one (ps_ret (pe_tup (pa_cons pe_str (pa_cons (pe_callB (cr_repr hgd (room70 hr)) (by rfl) (T.free_repr) (by decide +kernel) (pa_cons (pe_callS (ok_p_put_in T TX) hr (by rfl) T.g_p_put_in T.F_p_put_in.kp T.b_p_put_in (fun σ => L2.passAt tk σ) (pa_cons (pv 0) (pa_cons (pv 1) (pa_cons (pv 2) (pa_cons (pv 3) pa_nil))))) pa_nil)) pa_nil)))))) (fun a oe cls d pn hz hf => (pss_cons (ps_if (pt_val (pe_callB (call_isD hz hf) (by rfl) (T.free_isinstance) PyProof.Rows.boot_isinstance (pa_cons (pv 4) (pa_cons (pe_glob rfl T.g_WrongThing rfl) pa_nil)))) (pss_one (ps_ret (pe_tup (pa_cons (pe_ifExp (pt_val (pe_callB (call_isD hz hf) (by rfl) (T.free_isinstance) PyProof.Rows.boot_isinstance (pa_cons (pv 4) (pa_cons (pe_glob rfl T.g_BadAlphabet rfl) pa_nil)))) pe_str pe_str) (pa_cons (pe_callB (cr_repr hgd (room70m hr)) (by rfl) (T.free_repr) (by decide +kernel) (pa_cons (pe_xf (xf_of TX.x_BadAlphabet) TX.x_BadAlphabet.noN hz hf (pv 4)) pa_nil)) pa_nil))))) pss_nil)
      (pss_cons (ps_if (pt_val (pe_callB (call_isD hz hf) (by rfl) (T.free_isinstance) PyProof.Rows.boot_isinstance (pa_cons (pv 4) (pa_cons (pe_glob rfl T.g_BadSheets rfl) pa_nil)))) (pss_one (ps_ret (pe_tup (pa_cons (pe_ifExp (pt_val (pe_callB (call_isD hz hf) (by rfl) (T.free_isinstance) PyProof.Rows.boot_isinstance (pa_cons (pv 4) (pa_cons (pe_glob rfl T.g_WrongItem rfl) pa_nil)))) pe_str pe_str) (pa_cons (pe_callB (cr_repr hgd (room70m hr)) (by rfl) (T.free_repr) (by decide +kernel) (pa_cons (pe_xf (xf_of TX.x_BadSheets) TX.x_BadSheets.noN hz hf (pv 4)) pa_nil)) pa_nil))))) pss_nil)
      (pss_cons (ps_if (pt_val (pe_callB (call_isD hz hf) (by rfl) (T.free_isinstance) PyProof.Rows.boot_isinstance (pa_cons (pv 4) (pa_cons (pe_glob rfl T.g_BadSheet rfl) pa_nil)))) (pss_one (ps_ret (pe_tup (pa_cons (pe_ifExp (pt_val (pe_callB (call_isD hz hf) (by rfl) (T.free_isinstance) PyProof.Rows.boot_isinstance (pa_cons (pv 4) (pa_cons (pe_glob rfl T.g_WrongItem rfl) pa_nil)))) pe_str pe_str) (pa_cons (pe_callB (cr_repr hgd (room70m hr)) (by rfl) (T.free_repr) (by decide +kernel) (pa_cons (pe_xf (xf_of TX.x_BadSheet) TX.x_BadSheet.noN hz hf (pv 4)) pa_nil)) pa_nil))))) pss_nil)
      (pss_cons (ps_if (pt_val (pe_callB (call_isD hz hf) (by rfl) (T.free_isinstance) PyProof.Rows.boot_isinstance (pa_cons (pv 4) (pa_cons (pe_glob rfl T.g_TooMany rfl) pa_nil)))) (pss_one (ps_ret (pe_tup (pa_cons pe_str (pa_cons (pe_xf (xf_of TX.x_TooMany) TX.x_TooMany.noN hz hf (pv 4)) pa_nil))))) pss_nil)
      (pss_one (ps_ret (pe_tup (pa_cons pe_str (pa_cons pe_str pa_nil))))))))))))
end
end K71
set_option Elab.async false
set_option linter.all false
set_option maxRecDepth 100000
/-! the listing of trees, as the law does it -/
namespace Sh
open PySem PySem.Spec PyProof.Rows L2
open SX (S)
def Tr.size : Tr → Nat
  | .c _ => 1
  | .letter _ => 1
  | .un _ t => t.size + 1
  | .bin _ t s => t.size + s.size + 1
theorem putP_len (L : List Part) (p : Part) : (putP L p).1.length ≤ L.length + 1 := by unfold putP; split <;> simp
theorem ins_len : ∀ (t : Tr) (L : List Part), (ins t L).1.length ≤ L.length + t.size
  | .c _, L => putP_len L _
  | .letter _, L => putP_len L _
  | .un u t, L => by
    have h1 := ins_len t L
    have h2 := putP_len (ins t L).1 (.un u (ins t L).2)
    show (putP (ins t L).1 (.un u (ins t L).2)).1.length ≤ _
    simp only [Tr.size]
    omega
  | .bin u t s, L => by
    have h1 := ins_len t L
    have h2 := ins_len s (ins t L).1
    have h3 := putP_len (ins s (ins t L).1).1 (.bin u (ins t L).2 (ins s (ins t L).1).2)
    show (putP (ins s (ins t L).1).1 (.bin u (ins t L).2 (ins s (ins t L).1).2)).1.length ≤ _
    simp only [Tr.size]
    omega
theorem substT_id : ∀ t : Tr, substT .letter t = t
  | .c _ => rfl
  | .letter _ => rfl
  | .un u t => by rw [substT, substT_id t]
  | .bin u t s => by rw [substT, substT_id t, substT_id s]
/-- several trees, one behind the other -/
def stepF (r : List Part × List Nat) (t : Tr) : List Part × List Nat := ((ins t r.1).1, r.2 ++ [(ins t r.1).2])
def insF (ts : List Tr) (L : List Part) : List Part × List Nat := ts.foldl stepF (L, [])
theorem insF_snoc (ts : List Tr) (t : Tr) (L : List Part) : insF (ts ++ [t]) L = stepF (insF ts L) t := by unfold insF; rw [List.foldl_append]; rfl
def rePart (p : Part) (l : List Nat) : Part := match p with
  | .un u _ => .un u (l.getD 0 0)
  | .bin u _ _ => .bin u (l.getD 0 0) (l.getD 1 0)
  | p => p
def kids (f : Nat → Tr) (ts : List Tr) (p : Part) : List Tr := (Part.refs p).map fun i => substT f (ts.getD i (.c true))
theorem ins_node (f : Nat → Tr) (ts : List Tr) (p : Part) (L : List Part) (h : ∀ a, p = .letter a → f a = .letter a) : ins (substT f (node ts p)) L = putP (insF (kids f ts p) L).1 (rePart p (insF (kids f ts p) L).2) := by
  cases p with
  | c b => rfl
  | letter a => rw [node, substT, h a rfl]; rfl
  | un u i => rfl
  | bin u i j => rfl
theorem kids_size (f : Nat → Tr) (ts : List Tr) (p : Part) (j : Nat) : (((kids f ts p).take j).map Tr.size).sum + ((kids f ts p)[j]?.map Tr.size).getD 0 ≤ (substT f (node ts p)).size := by
  cases p with
  | c b => simp [kids, Part.refs]
  | letter a => simp [kids, Part.refs]
  | un u i =>
    rcases j with _ | j <;> simp [kids, Part.refs, node, substT, Tr.size]
  | bin u i k =>
    rcases j with _ | _ | j <;> simp [kids, Part.refs, node, substT, Tr.size] <;> omega
theorem insF_len (ts : List Tr) (L : List Part) : (insF ts L).1.length ≤ L.length + (ts.map Tr.size).sum := by
  refine snoc_ind (P := fun ts => (insF ts L).1.length ≤ L.length + (ts.map Tr.size).sum) (Nat.le_refl _) (fun l x ih => ?_) ts
  rw [insF_snoc, List.map_append, List.sum_append]
  have := ins_len x (insF l L).1
  simp only [stepF, List.map_cons, List.map_nil, List.sum_cons, List.sum_nil]
  omega
theorem treeAt_size {ps : List Part} (wf : WR ps) : ∀ i, i < ps.length → (treeAt ps i).size < 2 ^ (i + 1) := by
  intro i
  induction i using Nat.strongRecOn with
  | ind i ih =>
    intro hi
    obtain ⟨p, e⟩ : ∃ p, ps[i]? = some p := ⟨_, List.getElem?_eq_getElem hi⟩
    have kid : ∀ j ∈ Part.refs p, (treeAt ps j).size < 2 ^ i := fun j hj => by
      have hji := wf i p e j hj
      have h1 := ih j hji (Nat.lt_trans hji hi)
      exact Nat.lt_of_lt_of_le h1 (Nat.pow_le_pow_right (by decide) hji)
    have h2 : 2 ≤ 2 ^ (i + 1) := by rw [Nat.pow_succ]; have := Nat.one_le_two_pow (n := i); omega
    rw [treeAt_get wf e]
    cases p with
    | c b => show 1 < _; omega
    | letter a => show 1 < _; omega
    | un u j =>
      have := kid j (by simp [Part.refs])
      show (treeAt ps j).size + 1 < _
      rw [Nat.pow_succ]
      have := Nat.one_le_two_pow (n := i)
      omega
    | bin u j k =>
      have h3 := kid j (by simp [Part.refs])
      have h4 := kid k (by simp [Part.refs])
      show (treeAt ps j).size + (treeAt ps k).size + 1 < _
      rw [Nat.pow_succ]
      omega
theorem substT_size {f : Nat → Tr} {m : Nat} (h : ∀ a, (f a).size ≤ m) (hm : 1 ≤ m) : ∀ t : Tr, (substT f t).size ≤ t.size * m
  | .c _ => by simp [substT, Tr.size]; exact hm
  | .letter a => by simp [substT, Tr.size]; exact h a
  | .un u t => by
    have := substT_size h hm t
    simp only [substT, Tr.size, Nat.succ_mul]
    omega
  | .bin u t s => by
    have h1 := substT_size h hm t
    have h2 := substT_size h hm s
    simp only [substT, Tr.size, Nat.succ_mul, Nat.add_mul]
    omega
/-! ### what is known already -/
def putNums (nums : List (Nat × Nat)) (i k : Nat) : List (Nat × Nat) := if (nums.any fun q => decide (q.1 = i)) = true then nums.map (fun q => if q.1 = i then (q.1, k) else q) else nums ++ [(i, k)]
theorem numsK_putN (nums : List (Nat × Nat)) (i k : Nat) : putK (numsK nums) (.inl (i : Int)) (intV k) = numsK (putNums nums i k) := by
  have e : ((numsK nums).any fun kv => decide (kv.1 = Sum.inl (i : Int))) = (nums.any fun q => decide (q.1 = i)) := by
    unfold numsK
    rw [List.any_map]
    congr 1
    funext q
    show decide ((Sum.inl (q.1 : Int) : Key) = Sum.inl (i : Int)) = decide (q.1 = i)
    by_cases h : q.1 = i
    · rw [h]; simp
    · rw [decide_eq_false h, decide_eq_false fun z => h (by injection z with z; omega)]
  unfold putK putNums
  rw [e]
  split
  · unfold numsK
    rw [List.map_map, List.map_map]
    refine List.map_congr_left fun q _ => ?_
    show (if (Sum.inl (q.1 : Int) : Key) = Sum.inl (i : Int) then _ else _) = _
    by_cases h : q.1 = i
    · simp [h]
    · have : ¬ (Sum.inl (q.1 : Int) : Key) = Sum.inl (i : Int) := fun z => h (by injection z with z; omega)
      rw [if_neg this]
      simp [h]
  · unfold numsK
    rw [List.map_append]
    rfl
theorem putNums_mem {nums : List (Nat × Nat)} {i k : Nat} {q : Nat × Nat} (h : q ∈ putNums nums i k) : q = (i, k) ∨ q ∈ nums := by
  unfold putNums at h
  split at h
  · obtain ⟨r, hr, rfl⟩ := List.mem_map.mp h
    by_cases c : r.1 = i
    · left; rw [if_pos c, c]
    · right; rw [if_neg c]; exact hr
  · rcases List.mem_append.mp h with h | h
    · exact .inr h
    · exact .inl (List.mem_singleton.mp h)
theorem putNums_nd {nums : List (Nat × Nat)} {i k : Nat} (h : (nums.map (·.1)).Nodup) : ((putNums nums i k).map (·.1)).Nodup := by
  unfold putNums
  split
  · rw [List.map_map]
    have e : ((fun q : Nat × Nat => q.1) ∘ fun q : Nat × Nat => if q.1 = i then (q.1, k) else q) = fun q => q.1 := by
      funext q
      show (if q.1 = i then (q.1, k) else q).1 = q.1
      split <;> rfl
    rw [e]
    exact h
  · rename_i hn
    rw [List.map_append]
    refine nd_snoc h fun hm => hn ?_
    obtain ⟨q, hq, e⟩ := List.mem_map.mp hm
    rw [List.any_eq_true]
    exact ⟨q, hq, decide_eq_true e⟩
/-! ### small parts -/
theorem ins_small {m : Nat} : ∀ (t : Tr) (L : List Part), True := fun _ _ => trivial
end Sh
set_option Elab.async false
set_option linter.all false
set_option maxRecDepth 100000
/-! sheets as data: equality, repr -/
namespace Sh
open PySem PySem.Spec PyProof.Rows L2
open SX (S)
theorem eqv_kD (a b : Key) : PyData.eqv (kD a) (kD b) = decide (a = b) := by
  cases a with
  | inl i =>
    cases b with
    | inl j =>
      show PyData.eqv (.int i) (.int j) = _
      unfold PyData.eqv
      by_cases h : i = j
      · subst h; simp
      · simp [h]
    | inr y => show PyData.eqv (.int i) (.str y) = _; unfold PyData.eqv; simp
  | inr x =>
    cases b with
    | inl j => show PyData.eqv (.str x) (.int j) = _; unfold PyData.eqv; simp
    | inr y =>
      show PyData.eqv (.str x) (.str y) = _
      unfold PyData.eqv
      by_cases h : x = y
      · subst h; simp
      · simp [h]
theorem eqv_kDs : ∀ as bs : List Key, PyData.eqvAll (as.map kD) (bs.map kD) = decide (as = bs)
  | [], [] => rfl
  | [], b :: bs => rfl
  | a :: as, [] => rfl
  | a :: as, b :: bs => by
    show (PyData.eqv (kD a) (kD b) && PyData.eqvAll (as.map kD) (bs.map kD)) = _
    rw [eqv_kD, eqv_kDs as bs]
    by_cases h1 : a = b
    · subst h1
      by_cases h2 : as = bs
      · subst h2; simp
      · simp [h2]
    · simp [h1]
theorem part_eqv (l : Bool) (p q : Part) : PyData.eqv (partD l p) (partD l q) = decide (p = q) := by
  have e : PyData.eqv (partD l p) (partD l q) = PyData.eqvAll (p.keys.map kD) (q.keys.map kD) := by
    cases l
    · show PyData.eqv (.tuple (p.keys.map kD)) (.tuple (q.keys.map kD)) = _
      unfold PyData.eqv
      rfl
    · show PyData.eqv (.list (p.keys.map kD)) (.list (q.keys.map kD)) = _
      unfold PyData.eqv
      rfl
  rw [e, eqv_kDs]
  by_cases h : p = q
  · subst h; simp
  · rw [decide_eq_false h, decide_eq_false fun z => h (keys_inj z)]
theorem part_any (l : Bool) (L : List Part) (p : Part) : ((L.map (partD l)).any fun z => PyData.eqv z (partD l p)) = decide (p ∈ L) := by
  rw [List.any_map]
  have e : ((fun z => PyData.eqv z (partD l p)) ∘ partD l) = fun q => decide (q = p) := funext fun q => part_eqv l q p
  rw [e]
  by_cases h : p ∈ L
  · rw [decide_eq_true h, List.any_eq_true]
    exact ⟨p, h, decide_eq_true rfl⟩
  · rw [decide_eq_false h, List.any_eq_false]
    intro q hq z
    exact h (of_decide_eq_true z ▸ hq)
/-! ### shapes -/
def smallK : Key → Prop
  | .inl i => i.natAbs ≤ 1000000
  | .inr x => x.length ≤ 20 ∧ ∀ c ∈ x.cps.toList, c < 1000
def Part.small : Part → Prop
  | .c _ => True
  | .letter a => a < 1000
  | .un _ i => i ≤ 1000000
  | .bin _ i j => i ≤ 1000000 ∧ j ≤ 1000000
theorem small_nm (p : Part) : smallK (.inr (Part.nm p)) := by
  have all : ∀ z ∈ [("yes" : Str), "no", "letter", "not", "next", "prev", "and", "or", "until", "since"], z.length ≤ 20 ∧ ∀ c ∈ z.cps.toList, c < 1000 := by decide +kernel
  cases p with
  | c b => cases b <;> exact all _ (by simp [Part.nm, cnm])
  | letter a => exact all _ (by simp [Part.nm])
  | un u i => cases u <;> exact all _ (by simp [Part.nm, U1.nm])
  | bin u i j => cases u <;> exact all _ (by simp [Part.nm, U2.nm])
theorem small_keys {p : Part} (h : p.small) : ∀ k ∈ p.keys, smallK k := by
  have hd := small_nm p
  intro k hk
  cases p with
  | c b =>
    obtain rfl : k = .inr (cnm b) := by simpa [Part.keys] using hk
    exact hd
  | letter a =>
    have h2 : k = .inr "letter" ∨ k = .inr (S [a]) := by simpa [Part.keys] using hk
    rcases h2 with rfl | rfl
    · exact hd
    · refine ⟨by rw [S_length]; show 1 ≤ 20; decide, fun c hc => ?_⟩
      obtain rfl : c = a := by simpa using hc
      exact h
  | un u i =>
    have h2 : k = .inr u.nm ∨ k = .inl (i : Int) := by simpa [Part.keys] using hk
    rcases h2 with rfl | rfl
    · exact hd
    · have : i ≤ 1000000 := h
      show (i : Int).natAbs ≤ 1000000
      omega
  | bin u i j =>
    have h2 : k = .inr u.nm ∨ k = .inl (i : Int) ∨ k = .inl (j : Int) := by simpa [Part.keys] using hk
    rcases h2 with rfl | rfl | rfl
    · exact hd
    · have : i ≤ 1000000 := h.1
      show (i : Int).natAbs ≤ 1000000
      omega
    · have : j ≤ 1000000 := h.2
      show (j : Int).natAbs ≤ 1000000
      omega
theorem natAbs_log {i : Int} (h : i.natAbs ≤ 1000000) : i.natAbs.log2 < 20 := by
  by_cases h0 : i.natAbs = 0
  · rw [h0]; decide
  · exact (Nat.log2_lt h0).mpr (Nat.lt_of_le_of_lt h (show 1000000 < 2 ^ 20 by decide))
structure Fine (d : PyData) (m n : Nat) : Prop where
  nd : hasD d = false
  show_ : d.showable = true
  dict : d.hasDict = false
  lay : d.canLay0 = true
  deep : d.depth ≤ m
  len : d.shown.length ≤ n
theorem Fine.ok {d : PyData} {m n : Nat} (f : Fine d m n) (hm : m ≤ 60) (hn : n ≤ 16000000) : ShowOk d := ⟨f.nd, f.show_, f.dict, Nat.le_trans f.deep hm, Nat.le_trans f.len (Nat.le_trans hn (by rw [sizeLine_eq]; decide))⟩
theorem Fine.shaped {d : PyData} {m n : Nat} (f : Fine d m n) (hm : m ≤ 60) : SeqAt.shaped d = true := by
  unfold SeqAt.shaped
  rw [f.lay, decide_eq_true (Nat.le_trans f.deep (by omega))]
  rfl
theorem fine_kD {k : Key} (h : smallK k) : Fine (kD k) 0 202 := by
  cases k with
  | inl i =>
    have hl := natAbs_log h
    refine ⟨rfl, ?_, ?_, ?_, ?_, ?_⟩
    · show PyData.showable (.int i) = true
      simp only [PyData.showable]
      exact decide_eq_true (by omega)
    · show PyData.hasDict (.int i) = false
      simp only [PyData.hasDict]
    · show PyData.canLay0 (.int i) = true
      simp only [PyData.canLay0]
    · show PyData.depth (.int i) ≤ 0
      simp only [PyData.depth]
      exact Nat.le_refl _
    · show (PyData.shown (.int i)).length ≤ 202
      unfold PyData.shown
      rw [PySem.ofString_length]
      have := int_text_length_le (k := 20) (by decide) hl
      omega
  | inr x =>
    obtain ⟨h1, h2⟩ := h
    refine ⟨rfl, ?_, ?_, ?_, ?_, ?_⟩
    · show PyData.showable (.str x) = true
      simp only [PyData.showable]
    · show PyData.hasDict (.str x) = false
      simp only [PyData.hasDict]
    · show PyData.canLay0 (.str x) = true
      simp only [PyData.canLay0]
      unfold PyData.strOk
      rw [← Array.all_toList, List.all_eq_true]
      intro c hc
      exact decide_eq_true (Nat.lt_trans (h2 c hc) (by decide))
    · show PyData.depth (.str x) ≤ 0
      simp only [PyData.depth]
      exact Nat.le_refl _
    · show (PyData.shown (.str x)).length ≤ 202
      unfold PyData.shown
      have := StrLaws.reprText_len x fun c hc => Nat.lt_trans (h2 c hc) (by decide)
      omega
theorem piled_le {ts : List Str} {n : Nat} (h : ∀ t ∈ ts, t.length ≤ n) : piled ts ≤ ts.length * (n + 2) := by
  induction ts with
  | nil => exact Nat.zero_le _
  | cons t ts ih =>
    rw [piled_cons, List.length_cons, Nat.succ_mul]
    have h1 := h t (by simp)
    have h2 := ih fun t ht => h t (by simp [ht])
    omega
theorem tupleText_le {ts : List Str} {n : Nat} (h : ∀ t ∈ ts, t.length ≤ n) : (tupleText ts).length ≤ ts.length * (n + 2) + 3 := by
  have e : (tupleText ts).length = 1 + (Str.join ", " ts).length + (if ts.length == 1 then 2 else 1) := by
    unfold tupleText
    rw [Str.length_append, Str.length_append]
    cases ts.length == 1 <;> rfl
  have e2 : (Str.join ", " ts).length ≤ piled ts := by
    by_cases hn : ts = []
    · subst hn
      exact Nat.le_refl _
    · have := join_length_add ts hn
      omega
  have := piled_le h
  rw [e]
  split <;> omega
theorem textFrom_le {n : Nat} : ∀ (ts : List Str) (k : Nat) (acc : Str), (∀ t ∈ ts, t.length ≤ n) → (textFrom k acc ts).length ≤ acc.length + ts.length * (n + 2)
  | [], _, acc, _ => by show acc.length ≤ _; simp
  | t :: ts, k, acc, h => by
    have ih := textFrom_le ts (k + 1) (acc ++ (if k > 0 then ", " else "" : String) ++ t) fun t ht => h t (by simp [ht])
    have h1 := h t (by simp)
    have e : (acc ++ (if k > 0 then ", " else "" : String) ++ t : Str).length ≤ acc.length + 2 + t.length := by
      rw [Str.length_append, Str.length_append]
      have : ((if k > 0 then ", " else "" : String) : Str).length ≤ 2 := by split <;> decide +kernel
      omega
    rw [List.length_cons, Nat.succ_mul]
    show (textFrom (k + 1) (acc ++ (if k > 0 then ", " else "" : String) ++ t) ts).length ≤ _
    omega
theorem listText_le {ts : List Str} {n : Nat} (h : ∀ t ∈ ts, t.length ≤ n) : (listText ts).length ≤ ts.length * (n + 2) + 3 := by
  unfold listText
  rw [Str.length_append]
  have := textFrom_le ts 0 "[" h
  have e1 : ("[" : Str).length = 1 := by decide +kernel
  have e2 : ("]" : Str).length = 1 := by decide +kernel
  omega
theorem fine_all {ds : List PyData} {m n : Nat} (h : ∀ d ∈ ds, Fine d m n) : hasD.hasDs ds = false ∧ PyData.showableAll ds = true ∧ PyData.hasDictAll ds = false ∧ PyData.canLayAll0 ds = true ∧ PyData.depthAll ds ≤ m ∧ (∀ t ∈ PyData.shownAll ds, t.length ≤ n) ∧ (PyData.shownAll ds).length = ds.length := by
  induction ds with
  | nil => exact ⟨rfl, by simp only [PyData.showableAll], by simp only [PyData.hasDictAll], by simp only [PyData.canLayAll0], by simp only [PyData.depthAll]; exact Nat.zero_le _, fun t ht => by simp [PyData.shownAll] at ht, by simp [PyData.shownAll]⟩
  | cons d ds ih =>
    obtain ⟨i1, i2, i3, i4, i5, i6, i7⟩ := ih fun d hd => h d (by simp [hd])
    have f := h d (by simp)
    refine ⟨by show (hasD d || hasD.hasDs ds) = false; rw [f.nd, i1]; rfl, by simp only [PyData.showableAll]; rw [f.show_, i2]; rfl, by simp only [PyData.hasDictAll]; rw [f.dict, i3]; rfl, by simp only [PyData.canLayAll0]; rw [f.lay, i4]; rfl, ?_, ?_, ?_⟩
    · simp only [PyData.depthAll]
      exact Nat.max_le.mpr ⟨f.deep, i5⟩
    · intro t ht
      simp only [PyData.shownAll, List.mem_cons] at ht
      rcases ht with rfl | ht
      · exact f.len
      · exact i6 t ht
    · simp only [PyData.shownAll, List.length_cons, i7]
theorem fine_mk {l : Bool} {ds : List PyData} {m n : Nat} (h : ∀ d ∈ ds, Fine d m n) : Fine (mkD l ds) (m + 1) (ds.length * (n + 2) + 3) := by
  obtain ⟨i1, i2, i3, i4, i5, i6, i7⟩ := fine_all h
  cases l with
  | true =>
    refine ⟨i1, ?_, ?_, ?_, ?_, ?_⟩
    · show PyData.showable (.list ds) = true
      simp only [PyData.showable, i2]
    · show PyData.hasDict (.list ds) = false
      simp only [PyData.hasDict, i3]
    · show PyData.canLay0 (.list ds) = true
      simp only [PyData.canLay0, i4]
    · show PyData.depth (.list ds) ≤ m + 1
      simp only [PyData.depth]
      omega
    · show (PyData.shown (.list ds)).length ≤ _
      simp only [PyData.shown]
      rw [← i7]
      exact listText_le i6
  | false =>
    refine ⟨i1, ?_, ?_, ?_, ?_, ?_⟩
    · show PyData.showable (.tuple ds) = true
      simp only [PyData.showable, i2]
    · show PyData.hasDict (.tuple ds) = false
      simp only [PyData.hasDict, i3]
    · show PyData.canLay0 (.tuple ds) = true
      simp only [PyData.canLay0, i4]
    · show PyData.depth (.tuple ds) ≤ m + 1
      simp only [PyData.depth]
      omega
    · show (PyData.shown (.tuple ds)).length ≤ _
      simp only [PyData.shown]
      rw [← i7]
      exact tupleText_le i6
theorem fine_part {l : Bool} {p : Part} (h : p.small) : Fine (partD l p) 1 700 := by
  have f : Fine (mkD l (p.keys.map kD)) 1 ((p.keys.map kD).length * (202 + 2) + 3) := fine_mk fun d hd => by
    obtain ⟨k, hk, rfl⟩ := List.mem_map.mp hd
    exact fine_kD (small_keys h k hk)
  have hl : (p.keys.map kD).length ≤ 3 := by cases p <;> simp [Part.keys]
  exact ⟨f.nd, f.show_, f.dict, f.lay, f.deep, Nat.le_trans f.len (by omega)⟩
theorem fine_sheet {l li : Bool} {ps : List Part} (h : ∀ p ∈ ps, p.small) : Fine (sheetD l li ps) 2 (ps.length * 702 + 3) := by
  have f : Fine (mkD l (ps.map (partD li))) 2 ((ps.map (partD li)).length * (700 + 2) + 3) := fine_mk fun d hd => by
    obtain ⟨p, hp, rfl⟩ := List.mem_map.mp hd
    exact fine_part (h p hp)
  rw [List.length_map] at f
  exact f
end Sh
set_option Elab.async false
set_option linter.all false
set_option maxRecDepth 100000
/-! letters, lines, the last part of a listing -/
namespace Sh
open PySem PySem.Spec PyProof.Rows L2
open SX (S)
def Tr.lok (al : List Nat) : Tr → Prop
  | .c _ => True
  | .letter a => a ∈ al
  | .un _ t => t.lok al
  | .bin _ t s => t.lok al ∧ s.lok al
theorem putP_wf {al : List Nat} {L : List Part} {p : Part} (h : WF al L) (hp : p.ok al L.length) : WF al (putP L p).1 := by
  unfold putP
  split
  · exact h
  · exact h.snoc hp
theorem ins_wf {al : List Nat} : ∀ {t : Tr} {L : List Part}, t.lok al → WF al L → WF al (ins t L).1
  | .c b, L, _, h => putP_wf h trivial
  | .letter a, L, hl, h => putP_wf h hl
  | .un u t, L, hl, h => putP_wf (ins_wf hl h) (ins_loc t L).get
  | .bin u t s, L, hl, h => putP_wf (ins_wf hl.2 (ins_wf hl.1 h)) ⟨((ins_loc t L).ins s).get, (ins_loc s _).get⟩
theorem node_lok {al : List Nat} {ts : List Tr} {p : Part} {k : Nat} (hp : p.ok al k) (h : ∀ i ∈ Part.refs p, (ts.getD i (.c true)).lok al) : (node ts p).lok al := by
  cases p with
  | c b => trivial
  | letter a => exact hp
  | un u i => exact h i (by simp [Part.refs])
  | bin u i j => exact ⟨h i (by simp [Part.refs]), h j (by simp [Part.refs])⟩
theorem treeAt_lok {al : List Nat} {ps : List Part} (wf : WF al ps) : ∀ i, i < ps.length → (treeAt ps i).lok al := by
  intro i
  induction i using Nat.strongRecOn with
  | ind i ih =>
    intro hi
    obtain ⟨p, e⟩ : ∃ p, ps[i]? = some p := ⟨_, List.getElem?_eq_getElem hi⟩
    rw [treeAt_get wf.wr e]
    exact node_lok (wf i p e) fun j hj => ih j (wf.wr i p e j hj) (Nat.lt_trans (wf.wr i p e j hj) hi)
theorem substT_lok {al bl : List Nat} {f : Nat → Tr} (h : ∀ a ∈ bl, (f a).lok al) : ∀ {t : Tr}, t.lok bl → (substT f t).lok al
  | .c _, _ => trivial
  | .letter a, hl => h a hl
  | .un _ t, hl => substT_lok (t := t) h hl
  | .bin _ t s, hl => ⟨substT_lok (t := t) h hl.1, substT_lok (t := s) h hl.2⟩
theorem wf_small {al : List Nat} {L : List Part} (h : WF al L) (ha : ∀ a ∈ al, a < 1000) (hl : L.length ≤ 1000000) : ∀ p ∈ L, p.small := fun p hp => by
  obtain ⟨k, e⟩ := List.getElem?_of_mem hp
  have hk := (List.getElem?_eq_some_iff.mp e).1
  have := h k p e
  cases p with
  | c b => trivial
  | letter a => exact ha a this
  | un u i => have h2 : i < k := this; show i ≤ 1000000; omega
  | bin u i j => have h2 : i < k ∧ j < k := this; exact ⟨by omega, by omega⟩
/-! ### lines -/
theorem lineOf_1 {r : List Nat} {ls ms : List (List Bool)} {u : U1} {i j : Nat} (h : ls.getD i [] = ms.getD j []) : lineOf r ls (.un u i) = lineOf r ms (.un u j) := by
  unfold lineOf
  congr 1
  funext k
  cases u <;> simp only [holds, lineAt, h]
theorem lineOf_2 {r : List Nat} {ls ms : List (List Bool)} {u : U2} {i j m n : Nat} (h : ls.getD i [] = ms.getD m []) (g : ls.getD j [] = ms.getD n []) : lineOf r ls (.bin u i j) = lineOf r ms (.bin u m n) := by
  unfold lineOf
  congr 1
  funext k
  cases u <;> simp only [holds, lineAt, h, g]
theorem lineOf_0 {r : List Nat} {ls ms : List (List Bool)} {p : Part} (h : Part.isRef p = false) : lineOf r ls p = lineOf r ms p := by
  cases p with
  | c b => rfl
  | letter a => rfl
  | un u i => cases h
  | bin u i j => cases h
def evalT (r : List Nat) : Tr → List Bool
  | .c b => lineOf r [] (.c b)
  | .letter a => lineOf r [] (.letter a)
  | .un u t => lineOf r [evalT r t] (.un u 0)
  | .bin u t s => lineOf r [evalT r t, evalT r s] (.bin u 0 1)
theorem linesOf_app (r : List Nat) (ps qs : List Part) : ∃ ls, linesOf r (ps ++ qs) = linesOf r ps ++ ls := by
  refine snoc_ind (P := fun qs => ∃ ls, linesOf r (ps ++ qs) = linesOf r ps ++ ls) ⟨[], by simp⟩ (fun l x ih => ?_) qs
  obtain ⟨ls, e⟩ := ih
  refine ⟨ls ++ [lineOf r (linesOf r (ps ++ l)) x], ?_⟩
  rw [← List.append_assoc, linesOf_snoc, e, List.append_assoc]
theorem line_app (r : List Nat) {ps : List Part} (qs : List Part) {i : Nat} (h : i < ps.length) : (linesOf r (ps ++ qs)).getD i [] = (linesOf r ps).getD i [] := by
  obtain ⟨ls, e⟩ := linesOf_app r ps qs
  rw [e, List.getD_eq_getElem?_getD, List.getElem?_append_left (by rw [linesOf_len]; exact h), ← List.getD_eq_getElem?_getD]
theorem line_get {r : List Nat} {ps : List Part} (wf : WR ps) {k : Nat} {p : Part} (e : ps[k]? = some p) : (linesOf r ps).getD k [] = lineOf r (linesOf r ps) p := by
  obtain ⟨hk, ek⟩ := List.getElem?_eq_some_iff.mp e
  have e1 : ps = (ps.take k ++ [p]) ++ ps.drop (k + 1) := by rw [List.append_assoc, List.singleton_append, ← ek, List.getElem_cons_drop, List.take_append_drop]
  have hlt : (ps.take k).length = k := by rw [List.length_take]; omega
  have e4 : (linesOf r ps).getD k [] = (linesOf r (ps.take k ++ [p])).getD k [] := by
    have := line_app r (ps := ps.take k ++ [p]) (ps.drop (k + 1)) (i := k) (by rw [List.length_append, hlt]; exact Nat.lt_succ_self k)
    rw [← e1] at this
    exact this
  have e5 : (linesOf r (ps.take k ++ [p])).getD k [] = lineOf r (linesOf r (ps.take k)) p := by
    rw [linesOf_snoc, List.getD_eq_getElem?_getD, List.getElem?_append_right (by rw [linesOf_len, hlt]; exact Nat.le_refl _), linesOf_len, hlt, Nat.sub_self]
    rfl
  have kid : ∀ i, i < k → (linesOf r (ps.take k)).getD i [] = (linesOf r ps).getD i [] := fun i hi => by
    have := line_app r (ps := ps.take k) (ps.drop k) (i := i) (by rw [hlt]; exact hi)
    rw [List.take_append_drop] at this
    exact this.symm
  rw [e4, e5]
  have rf := wf k p e
  cases p with
  | c b => rfl
  | letter a => rfl
  | un u i => exact lineOf_1 (kid i (rf i (by simp [Part.refs])))
  | bin u i j => exact lineOf_2 (kid i (rf i (by simp [Part.refs]))) (kid j (rf j (by simp [Part.refs])))
theorem line_tree {r : List Nat} {ps : List Part} (wf : WR ps) : ∀ i, i < ps.length → (linesOf r ps).getD i [] = evalT r (treeAt ps i) := by
  intro i
  induction i using Nat.strongRecOn with
  | ind i ih =>
    intro hi
    obtain ⟨p, e⟩ : ∃ p, ps[i]? = some p := ⟨_, List.getElem?_eq_getElem hi⟩
    have kid : ∀ j ∈ Part.refs p, (linesOf r ps).getD j [] = evalT r (treeAt ps j) := fun j hj => ih j (wf i p e j hj) (Nat.lt_trans (wf i p e j hj) hi)
    rw [line_get wf e, treeAt_get wf e]
    cases p with
    | c b => rfl
    | letter a => rfl
    | un u j => exact lineOf_1 (kid j (by simp [Part.refs]))
    | bin u j k => exact lineOf_2 (kid j (by simp [Part.refs])) (kid k (by simp [Part.refs]))
theorem line_loc {r : List Nat} {L : List Part} (wf : WR L) : ∀ {t : Tr} {k : Nat}, Loc L t k → (linesOf r L).getD k [] = evalT r t
  | .c b, k, h => line_get wf h
  | .letter a, k, h => line_get wf h
  | .un u t, k, ⟨i, h1, h2⟩ => by
    rw [line_get wf h2]
    exact lineOf_1 (line_loc wf h1)
  | .bin u t s, k, ⟨i, j, h1, h2, h3⟩ => by
    rw [line_get wf h3]
    exact lineOf_2 (line_loc wf h1) (line_loc wf h2)
/-! ### the root stands last -/
def Held (L : List Part) (m : Nat) : Prop := ∀ k, k < L.length → ∃ s, Loc L s k ∧ s.size ≤ m
theorem putP_held {L : List Part} {m : Nat} {p : Part} {s : Tr} (h : Held L m) (hs : Loc (putP L p).1 s (putP L p).2) (hz : s.size ≤ m) : Held (putP L p).1 m := by
  unfold putP at hs ⊢
  split
  · exact h
  · rename_i hn
    rw [if_neg hn] at hs
    intro k hk
    rw [List.length_append, List.length_singleton] at hk
    by_cases hk2 : k < L.length
    · obtain ⟨s', h1, h2⟩ := h k hk2
      exact ⟨s', h1.mono _, h2⟩
    · obtain rfl : k = L.length := by omega
      exact ⟨s, hs, hz⟩
theorem Held.le {L : List Part} {m n : Nat} (h : Held L m) (hm : m ≤ n) : Held L n := fun k hk => let ⟨s, h1, h2⟩ := h k hk; ⟨s, h1, Nat.le_trans h2 hm⟩
theorem ins_held : ∀ (t : Tr) {L : List Part} {m : Nat}, Held L m → t.size ≤ m → Held (ins t L).1 m
  | .c b, L, m, h, hz => putP_held h (ins_loc (.c b) L) hz
  | .letter a, L, m, h, hz => putP_held h (ins_loc (.letter a) L) hz
  | .un u t, L, m, h, hz => putP_held (ins_held t h (by simp only [Tr.size] at hz; omega)) (ins_loc (.un u t) L) hz
  | .bin u t s, L, m, h, hz => putP_held (ins_held s (ins_held t h (by simp only [Tr.size] at hz; omega)) (by simp only [Tr.size] at hz; omega)) (ins_loc (.bin u t s) L) hz
theorem putP_last {L : List Part} {m : Nat} {p : Part} {s : Tr} (h : Held L m) (hs : ∀ k, L[k]? = some p → Loc L s k) (hz : m < s.size) : (putP L p).2 + 1 = (putP L p).1.length := by
  have hn : p ∉ L := fun hm => by
    obtain ⟨k, e⟩ := List.getElem?_of_mem hm
    obtain ⟨s', h1, h2⟩ := h k (List.getElem?_eq_some_iff.mp e).1
    have := Loc.inj (hs k e) h1
    subst this
    omega
  unfold putP
  rw [if_neg hn, List.length_append]
  rfl
theorem root_last (t : Tr) : (ins t []).2 + 1 = (ins t []).1.length := by
  have e0 : ∀ m, Held [] m := fun m k hk => absurd hk (by simp)
  cases t with
  | c b => rfl
  | letter a => rfl
  | un u t => exact putP_last (s := .un u t) (ins_held t (e0 _) (Nat.le_refl _)) (fun k e => ⟨_, ins_loc t [], e⟩) (Nat.lt_succ_self _)
  | bin u t s =>
    refine putP_last (s := .bin u t s) (m := t.size + s.size) (ins_held s (ins_held t (e0 _) (by omega)) (by omega)) (fun k e => ⟨_, _, (ins_loc t []).ins s, ins_loc s _, e⟩) (Nat.lt_succ_self _)
/-- the last line of the listing -/
theorem last_line {r : List Nat} {t : Tr} {al : List Nat} (h : t.lok al) : (linesOf r (ins t []).1).getD ((ins t []).1.length - 1) [] = evalT r t := by
  have e := root_last t
  rw [show (ins t []).1.length - 1 = (ins t []).2 by omega]
  exact line_loc (ins_wf h (WF.nil al)).wr (ins_loc t [])
end Sh
set_option Elab.async false
set_option linter.all false
set_option maxRecDepth 100000
set_option maxHeartbeats 8000000
namespace K71
open PySem PySem.Spec PyProof.Rows L2 Sh
open SX (S)
local macro_rules | `(tactic| walk_at "v1") => `(tactic| first
  | with_reducible refine v_seq ?_ | with_reducible refine v_asg ?_ | ((with_reducible refine' v_name ?e ?_); (case e => exact rfl)) | with_reducible refine v_ret ?_ | with_reducible refine v_drop ?_ | with_reducible refine v_next ?_
  | with_reducible refine v_if ?_ | with_reducible refine v_op ?_ | with_reducible refine v_c ?_ | ((with_reducible refine' v_var ?e ?_); (case e => exact rfl))
  | with_reducible refine v_I0 ?_ | with_reducible refine v_test ?_ | with_reducible refine v_B ?_ | with_reducible refine v_bl ?_ | with_reducible refine v_not ?_ | with_reducible refine v_and ?_ | with_reducible refine v_or ?_
  | with_reducible refine v_andV ?_ | with_reducible refine v_orV ?_ | with_reducible refine v_notV ?_ | with_reducible refine v_ife ?_
  | with_reducible refine v_nil ?_ | with_reducible refine v_cons ?_ | with_reducible refine v_tup ?_ | with_reducible refine v_lst ?_ | with_reducible refine v_call ?_ | with_reducible refine v_cb ?_ | with_reducible refine v_int ?_ | with_reducible refine v_abs ?_
  | ((with_reducible refine' v_eq ?e ?_); (case e => exact rfl)) | ((with_reducible refine' v_ne ?e ?_); (case e => exact rfl)) | with_reducible refine v_sub ?_ | with_reducible refine v_isN ?_ | with_reducible refine v_notN ?_
  | with_reducible refine v_part ?_ | with_reducible refine v_nopart ?_ | with_reducible refine v_pint ?_ | with_reducible refine v_inSg ?_ | with_reducible refine v_notInSg ?_
  | ((with_reducible refine' v_ixL ?l ?a ?_); (case l => assumption); (case a => exact at_lit _ rfl)) | ((with_reducible refine' v_ixT ?l ?a ?_); (case l => assumption); (case a => exact at_lit _ rfl))
  | ((with_reducible refine v_I ?c ?_); (case c => (first | omega | (unfold CMul; omega) | (unfold CDivN; omega) | (unfold CPow; omega))))
  | with_reducible refine v_for ?_ | with_reducible refine v_iList ?_ | with_reducible refine v_iTup ?_ | with_reducible refine v_iStr ?_ | with_reducible refine v_iR1 ?_ | with_reducible refine v_iR2 ?_ | with_reducible refine v_atS ?_ | with_reducible refine v_sl ?_ | with_reducible refine v_lc ?_ | with_reducible refine v_yes ?_
  | with_reducible refine v_m1 ?_ | with_reducible refine v_m1S ?_ | with_reducible refine v_bm ?_ | with_reducible refine v_bm0 ?_ | with_reducible refine v_dnewK ?_ | with_reducible refine v_dnewT ?_ | with_reducible refine v_dget ?_ | with_reducible refine v_din ?_ | with_reducible refine v_dnotin ?_ | with_reducible refine v_dput ?_ | with_reducible refine v_chain ?_ | with_reducible refine v_un ?_ | with_reducible refine v_neg ?_
  | with_reducible refine v_brk ?_ | with_reducible refine v_cont ?_)
local macro_rules | `(tactic| walk_at "v") => `(tactic| repeat (walk_at "v1"))
local macro_rules | `(tactic| walk_at "vm") => `(tactic| repeat (first | ((with_reducible refine v_modP ?c ?_); (case c => omega); (intro _ _ _)) | walk_at "v1"))
local macro_rules | `(tactic| walk_at "iv") => `(tactic| (try dsimp only; refine IV.mk (by assumption) (by assumption) ?_))
local macro_rules | `(tactic| walk_at "n") => `(tactic| dsimp only [List.set_cons_zero, List.set_cons_succ])
structure Dk where
  a : Addr
  nums : List (Nat × Nat)
  tr : Nat → Tr
def Dk.ok (L : List Part) (d : Dk) : Prop := (∀ q ∈ d.nums, Loc L (d.tr q.1) q.2) ∧ (d.nums.map (·.1)).Nodup ∧ ∀ q ∈ d.nums, q.1 < 1000
def DM (ds : List Dk) : List (Addr × HO) := ds.map fun d => (d.a, .dK (numsK d.nums))
def Sim (ds ds' : List Dk) : Prop := ds'.map (fun d => (d.a, d.tr)) = ds.map (fun d => (d.a, d.tr))
theorem Sim.refl (ds : List Dk) : Sim ds ds := rfl
theorem Sim.trans {a b c : List Dk} (h : Sim a b) (g : Sim b c) : Sim a c := Eq.trans g h
theorem Sim.at_ {ds ds' : List Dk} (h : Sim ds ds') {q : Nat} {d : Dk} (e : ds[q]? = some d) : ∃ d', ds'[q]? = some d' ∧ d'.a = d.a ∧ d'.tr = d.tr := by
  have h1 : (ds'.map (fun d => (d.a, d.tr)))[q]? = (ds.map (fun d => (d.a, d.tr)))[q]? := by rw [show ds'.map (fun d => (d.a, d.tr)) = ds.map (fun d => (d.a, d.tr)) from h]
  rw [List.getElem?_map, List.getElem?_map, e] at h1
  cases e2 : ds'[q]? with
  | none => rw [e2] at h1; cases h1
  | some d' =>
    rw [e2] at h1
    have h2 : (d'.a, d'.tr) = (d.a, d.tr) := Option.some.inj h1
    exact ⟨d', rfl, congrArg Prod.fst h2, congrArg Prod.snd h2⟩
theorem DM_get {ds : List Dk} {M0 : List (Addr × HO)} {x : Addr × HO} {q : Nat} {d : Dk} (e : ds[q]? = some d) : (x :: (DM ds ++ M0))[q + 1]? = some (d.a, .dK (numsK d.nums)) := by
  have hq := (List.getElem?_eq_some_iff.mp e).1
  rw [List.getElem?_cons_succ, List.getElem?_append_left (by unfold DM; rw [List.length_map]; exact hq)]
  unfold DM
  rw [List.getElem?_map, e]
  rfl
theorem DM_set {ds : List Dk} {M0 : List (Addr × HO)} {x : Addr × HO} {q : Nat} {d : Dk} (hq : q < ds.length) : (x :: (DM ds ++ M0)).set (q + 1) (d.a, .dK (numsK d.nums)) = x :: (DM (ds.set q d) ++ M0) := by
  rw [List.set_cons_succ, List.set_append_left _ _ (by unfold DM; rw [List.length_map]; exact hq)]
  unfold DM
  rw [List.map_set]
structure LS (K : PySem.W.Frag) (B : Hp) (al : List Nat) (ds : List Dk) (ts : List V) (L : List Part) : Prop where
  rp : RpAll K B ts (L.map (partD false))
  nd : L.Nodup
  wf : WF al L
  ok : ∀ d ∈ ds, d.ok L
theorem LS.up {K : PySem.W.Frag} {B B' : Hp} {al : List Nat} {ds : List Dk} {ts : List V} {L : List Part} (h : LS K B al ds ts L) (l : Le B B') : LS K B' al ds ts L := ⟨h.rp.up l, h.nd, h.wf, h.ok⟩
def Lts (K : PySem.W.Frag) (B : Hp) (lv : V) (f : Nat → Tr) (ds : List Dk) (ps : List Part) (i n : Nat) : Prop := (lv = .non ∧ f = .letter ∧ i < n) ∨
  ∃ (la : Addr) (kvs : List (Key × V)) (m : Nat), lv = .ref la ∧ B la = some (.dK kvs) ∧ i + m < n ∧ m ≤ 1000 ∧ ∀ a, (∃ k : Nat, ps[k]? = some (.letter a)) → ∃ (pr ga : Addr) (gxs : List V) (gps : List Part) (ia : Addr) (q : Nat) (d : Dk),
    valV kvs (.inr (S [a])) = some (.ref pr) ∧ B pr = some (.tup [.ref ga, .ref ia]) ∧ SqL K B ga gxs ∧ RpAll K B gxs (gps.map (partD false)) ∧ WR gps ∧ 1 ≤ gps.length ∧ gps.length ≤ m ∧ f a = rootT gps ∧ ds[q]? = some d ∧ d.a = ia ∧ d.tr = treeAt gps
theorem Lts.next {K : PySem.W.Frag} {B B' : Hp} {lv : V} {f : Nat → Tr} {ds ds' : List Dk} {ps : List Part} {i j n : Nat} (h : Lts K B lv f ds ps i (n + 1)) (hj : j < i) (l : Le B B') (s : Sim ds ds') : Lts K B' lv f ds' ps j n := by
  rcases h with ⟨h1, h2, h3⟩ | ⟨la, kvs, m, h1, h2, h3, h4, h5⟩
  · exact .inl ⟨h1, h2, by omega⟩
  · refine .inr ⟨la, kvs, m, h1, l _ _ h2, by omega, h4, fun a ha => ?_⟩
    obtain ⟨pr, ga, gxs, gps, ia, q, d, e1, e2, e3, e4, e5, e6, e7, e8, e9, e10, e11⟩ := h5 a ha
    obtain ⟨d', g1, g2, g3⟩ := s.at_ e9
    exact ⟨pr, ga, gxs, gps, ia, q, d', e1, l _ _ e2, le_l l e3, e4.up l, e5, e6, e7, e8, g1, g2.trans e10, g3.trans e11⟩
def sp_list (K : PySem.W.Frag) (n : Nat) : Sp := fun vs H Q _ => ∃ (B : Hp) (M0 : List (Addr × HO)) (al : List Nat) (ds : List Dk) (sa : Addr) (xs : List V) (ps : List Part) (i : Nat) (lv : V) (f : Nat → Tr) (ta : Addr) (ts : List V) (L : List Part) (kn : Addr) (q : Nat) (d : Dk),
  vs = [.ref sa, .int (i : Int), lv, .ref ta, .ref kn] ∧ Hs B ((ta, .lst ts) :: (DM ds ++ M0)) H ∧ SqL K B sa xs ∧ RpAll K B xs (ps.map (partD false)) ∧ WR ps ∧ i < ps.length ∧ ps.length ≤ 1000 ∧ LS K B al ds ts L ∧ (∀ a ∈ al, a < 1000) ∧
  (substT f (treeAt ps i)).lok al ∧ L.length + (substT f (treeAt ps i)).size ≤ 900000 ∧ ds[q]? = some d ∧ d.a = kn ∧ (d.tr = fun i => substT f (treeAt ps i)) ∧ Lts K B lv f ds ps i n ∧
  ∀ (B' H' : Hp) (ds' : List Dk) (ts' : List V), Le B B' → Hs B' ((ta, .lst ts') :: (DM ds' ++ M0)) H' → Sim ds ds' → LS K B' al ds' ts' (ins (substT f (treeAt ps i)) L).1 → Q (.int ((ins (substT f (treeAt ps i)) L).2 : Nat)) H'
def t_list (K : PySem.W.Frag) (sp : Sp) : TS := (tSeq (tIfS (tB (tDIn (tVar 1) (tVar 4))) (tRet (tDGet (tVar 4) (tVar 1))) tNext)
    (tSeq (tAsg (tOp (rIxL K) (tVar 0) (tVar 1)) (gName 5))
    (tSeq (tIfS (tAnd (tTest (tOp rEq (tOp (rIxT K) (tVar 5) (tC (.int 0))) (tC (.str "letter")))) (tTest (tOp rNotNn (tVar 2) (tC .non)))) (tSeq (tAsg (tDGet (tVar 2) (tOp (rIxT K) (tVar 5) (tC (.int 1)))) (gTup K 2 (gCons (gName 6) (gCons (gName 7) gNil))))
    (tAsg (tCall sp [] E0 (tCons (tVar 6) (tCons (tOp rSubI (tCB (rCLen K) (tCons (tVar 6) tNil)) (tC (.int 1))) (tCons (tC .non) (tCons (tVar 3) (tCons (tVar 7) tNil)))))) (gName 8))) (tSeq (tAsg (tCB (rCTup K) (tCons (tVar 5) tNil)) (gName 9))
    (tSeq (tIfS (tTest (tOp (rIn K true) (tOp (rIxT K) (tVar 5) (tC (.int 0))) (tTup (tCons (tC (.str "yes")) (tCons (tC (.str "no")) (tCons (tC (.str "letter")) tNil)))))) (tAsg (tCB (rCTup K) (tCons (tOp rCat (tLst (tCons (tOp (rIxT K) (tVar 5) (tC (.int 0))) tNil)) (tLc (iTup K (tSl (rSlA K) (tVar 5) (tPart (tC (.int 1))) tNoPart)) (gName 10) tYes (tCall sp [] E0 (tCons (tVar 0) (tCons (tVar 10) (tCons (tVar 2) (tCons (tVar 3) (tCons (tVar 4) tNil)))))) [10])) tNil)) (gName 9)) tNext)
    (tSeq (tIfS (tTest (tOp (rNotInD K) (tVar 9) (tVar 3))) (tDrop (tBM K "list" rAppend (tVar 3) (tCons (tVar 9) tNil))) tNext)
    (tAsg (tBM K "list" (rIndexD K) (tVar 3) (tCons (tVar 9) tNil)) (gName 8))))))
    (tSeq (sDPut (tVar 4) (tVar 1) (tVar 8))
    (tRet (tVar 8))))))
def tail_list (K : PySem.W.Frag) : TS := tSeq (tIfS (tTest (tOp (rNotInD K) (tVar 9) (tVar 3))) (tDrop (tBM K "list" rAppend (tVar 3) (tCons (tVar 9) tNil))) tNext) (tAsg (tBM K "list" (rIndexD K) (tVar 3) (tCons (tVar 9) tNil)) (gName 8))
def end_list : TS := tSeq (sDPut (tVar 4) (tVar 1) (tVar 8)) (tRet (tVar 8))
theorem rePart_vals {p : Part} {l : List Nat} (h : Part.isRef p = true) (hl : l.length = (Part.refs p).length) : (rePart p l).vals = .str (Part.nm p) :: l.map intV := by
  cases p with
  | c b => cases h
  | letter a => cases h
  | un u i =>
    match l, hl with
    | [x], _ => rfl
  | bin u i j =>
    match l, hl with
    | [x, y], _ => rfl
theorem insF_len2 (ts : List Tr) (L : List Part) : (insF ts L).2.length = ts.length := by
  refine snoc_ind (P := fun ts => (insF ts L).2.length = ts.length) rfl (fun l x ih => ?_) ts
  rw [insF_snoc]
  simp only [stepF, List.length_append, ih, List.length_singleton]
theorem pure_list {K : PySem.W.Frag} (n : Nat) (vs : List V) (H : Hp) (Q : VK) (E : XK) (h : sp_list K (n + 1) vs H Q E) : t_list K (sp_list K n) { nx := fun _ H' => Q .non H', rt := Q } (start n_list vs) H := by
  obtain ⟨B, M0, al, ds, sa, xs, ps, i, lv, f, ta, ts, L, kn, q, d, rfl, hs, hS, hX, wf, hi, hn, ls, hal, hlok, hsz, hq, rfl, hdt, hlt, fin⟩ := h
  have hql := (List.getElem?_eq_some_iff.mp hq).1
  obtain ⟨p, ep⟩ : ∃ p, ps[i]? = some p := ⟨_, List.getElem?_eq_getElem hi⟩
  have tree : treeAt ps i = node (treesOf ps) p := treeAt_get wf ep
  show t_list K (sp_list K n) _ [some (V.ref sa), some (V.int (i : Int)), some lv, some (V.ref ta), some (V.ref d.a), none, none, none, none, none, none] H
  -- known[number] = index; return index
  have last : ∀ (B1 H1 : Hp) (ds1 : List Dk) (ts1 : List V) (k : Nat) (y5 y6 y7 y9 y10 : Option V), Le B B1 → Hs B1 ((ta, .lst ts1) :: (DM ds1 ++ M0)) H1 → Sim ds ds1 → LS K B1 al ds1 ts1 (ins (substT f (treeAt ps i)) L).1 → k = (ins (substT f (treeAt ps i)) L).2 →
      end_list { nx := fun _ H' => Q .non H', rt := Q } [some (V.ref sa), some (V.int (i : Int)), some lv, some (V.ref ta), some (V.ref d.a), y5, y6, y7, some (V.int (k : Nat)), y9, y10] H1 := by
    rintro B1 H1 ds1 ts1 k y5 y6 y7 y9 y10 l1 h1 s1 ls1 rfl
    obtain ⟨d1, g1, g2, g3⟩ := s1.at_ hq
    have hq1 := (List.getElem?_eq_some_iff.mp g1).1
    have ok1 := ls1.ok d1 (List.mem_of_getElem? g1)
    unfold end_list
    walk_at "v"
    rw [← g2]
    refine v_dputII h1 (q + 1) (DM_get g1) ?_ fun H2 h2 => ?_
    · unfold numsK
      rw [List.length_map]
      have := nd_len ok1.2.1 (n := 1000) fun z hz => by
        obtain ⟨r, hr, rfl⟩ := List.mem_map.mp hz
        exact ok1.2.2 r hr
      rw [List.length_map] at this
      omega
    · walk_at "v"
      rw [show putK (numsK d1.nums) (.inl (i : Int)) (V.int ((ins (substT f (treeAt ps i)) L).2 : Nat)) = numsK (putNums d1.nums i (ins (substT f (treeAt ps i)) L).2) from numsK_putN _ _ _] at h2
      rw [DM_set (d := ⟨d1.a, putNums d1.nums i (ins (substT f (treeAt ps i)) L).2, d1.tr⟩) hq1] at h2
      refine fin B1 H2 _ ts1 l1 h2 (s1.trans ?_) ⟨ls1.rp, ls1.nd, ls1.wf, fun x hx => ?_⟩
      · show (ds1.set q _).map (fun d => (d.a, d.tr)) = ds1.map (fun d => (d.a, d.tr))
        rw [List.map_set]
        refine List.ext_getElem? fun j => ?_
        rw [List.getElem?_set]
        split
        · rename_i e
          subst e
          rw [if_pos (by rw [List.length_map]; exact hq1), List.getElem?_map, g1]
          rfl
        · rfl
      · rcases List.mem_or_eq_of_mem_set hx with hx | rfl
        · exact ls1.ok x hx
        · refine ⟨fun r hr => ?_, putNums_nd ok1.2.1, fun r hr => ?_⟩
          · rcases putNums_mem hr with rfl | hr
            · show Loc _ (d1.tr i) _
              rw [g3, hdt]
              exact ins_loc _ _
            · exact ok1.1 r hr
          · rcases putNums_mem hr with rfl | hr
            · show i < 1000
              omega
            · exact ok1.2.2 r hr
  -- a new part told, or found
  have tail : ∀ (B1 H1 : Hp) (ds1 : List Dk) (ts1 : List V) (L1 : List Part) (np : Part) (na : Addr) (y5 y6 y7 y8 y10 : Option V), Le B B1 → Hs B1 ((ta, .lst ts1) :: (DM ds1 ++ M0)) H1 → Sim ds ds1 → LS K B1 al ds1 ts1 L1 → B1 na = some (.tup np.vals) → L1.length ≤ 900000 →
      putP L1 np = ins (substT f (treeAt ps i)) L →
      tail_list K { nx := fun σ H => end_list { nx := fun _ H' => Q .non H', rt := Q } σ H, rt := Q } [some (V.ref sa), some (V.int (i : Int)), some lv, some (V.ref ta), some (V.ref d.a), y5, y6, y7, y8, some (V.ref na), y10] H1 := by
    intro B1 H1 ds1 ts1 L1 np na y5 y6 y7 y8 y10 l1 h1 s1 ls1 ena hL1 eput
    have wf2 : WF al (putP L1 np).1 := by
      rw [eput]
      exact ins_wf hlok ls.wf
    have len2 : (putP L1 np).1.length ≤ 900001 := Nat.le_trans (putP_len L1 np) (by omega)
    have npm : np ∈ (putP L1 np).1 := List.mem_of_getElem? (putP_get L1 np)
    have fnp : Fine (partD false np) 1 700 := fine_part (wf_small wf2 hal (by omega) np npm)
    have fL : ∀ M : List Part, (∀ x ∈ M, x ∈ (putP L1 np).1) → Fine (sheetD true false M) 2 (M.length * 702 + 3) := fun M hM => fine_sheet fun x hx => wf_small wf2 hal (by omega) x (hM x hx)
    obtain ⟨ys, eys⟩ := putP_pre L1 np
    have f1 := fL L1 fun x hx => by rw [eys]; exact List.mem_append_left _ hx
    have f2 := fL (putP L1 np).1 fun x hx => hx
    have rnp : Rp K B1 (.ref na) (partD false np) := part_rp (l := false) ena
    have tl : ts1.length = L1.length := by rw [ls1.rp.length, List.length_map]
    have ok2 : ∀ x ∈ ds1, x.ok (putP L1 np).1 := fun x hx => ⟨fun r hr => ((ls1.ok x hx).1 r hr).put np, (ls1.ok x hx).2⟩
    -- index
    have idx : ∀ (H2 : Hp) (ts2 : List V), Hs B1 ((ta, .lst ts2) :: (DM ds1 ++ M0)) H2 → RpAll K B1 ts2 ((putP L1 np).1.map (partD false)) →
        tAsg (tBM K "list" (rIndexD K) (tVar 3) (tCons (tVar 9) tNil)) (gName 8) { nx := fun σ H => end_list { nx := fun _ H' => Q .non H', rt := Q } σ H, rt := Q } [some (V.ref sa), some (V.int (i : Int)), some lv, some (V.ref ta), some (V.ref d.a), y5, y6, y7, y8, some (V.ref na), y10] H2 := by
      intro H2 ts2 h2 r2
      have nd2 := putP_nd np ls1.nd
      walk_at "v"
      refine v_bmL h2.hd ?_
      walk_at "v"
      have rT : Rp K H2 (.ref ta) (sheetD true false (putP L1 np).1) := .lst (SqL.of h2.hd) (r2.up h2.sub)
      refine ⟨ta, _, partD false np, (putP L1 np).1.map (partD false), (putP L1 np).2, partD false np, rfl, rfl, rT.dp f2.nd, (h2.r rnp).dp fnp.nd, f2.shaped (by decide), fnp.shaped (by decide), ?_, ?_, fun m z' hm hz' => ?_, ?_⟩
      · rw [List.getElem?_map, putP_get]
        rfl
      · rw [part_eqv]
        exact decide_eq_true rfl
      · rw [List.getElem?_map] at hz'
        cases e : (putP L1 np).1[m]? with
        | none => rw [e] at hz'; cases hz'
        | some x =>
          rw [e] at hz'
          cases hz'
          rw [part_eqv]
          refine decide_eq_false fun z => ?_
          subst z
          have := nd_get nd2 e (putP_get L1 x)
          omega
      · walk_at "v"
        refine last B1 H2 ds1 ts2 _ _ _ _ _ _ l1 h2 s1 ⟨?_, ?_, ?_, ?_⟩ (by rw [eput])
        · rw [← eput]; exact r2
        · rw [← eput]; exact nd2
        · rw [← eput]; exact wf2
        · rw [← eput]; exact ok2
    unfold tail_list
    walk_at "v"
    have rT1 : Rp K H1 (.ref ta) (sheetD true false L1) := .lst (SqL.of h1.hd) (ls1.rp.up h1.sub)
    refine ⟨partD false np, L1.map (partD false), (h1.r rnp).dp fnp.nd, rT1.dp f1.nd, fnp.shaped (by decide), f1.shaped (by decide), ?_⟩
    rw [part_any]
    walk_at "v"
    by_cases c : np ∈ L1
    · rw [decide_eq_true c]
      refine iteF' rfl ?_
      walk_at "v1"
      refine idx H1 ts1 h1 ?_
      rw [show putP L1 np = (L1, L1.idxOf np) from if_pos c]
      exact ls1.rp
    · rw [decide_eq_false c]
      refine iteT' rfl ?_
      walk_at "v"
      refine v_bmL h1.hd ?_
      walk_at "v"
      refine v_appI h1 0 rfl (by omega) fun H2 h2 => ?_
      walk_at "v1"
      refine idx H2 (ts1 ++ [V.ref na]) h2 ?_
      rw [show putP L1 np = (L1 ++ [np], L1.length) from if_neg c, List.map_append]
      exact ls1.rp.append (.one rnp)
  unfold t_list
  walk_at "v"
  refine v_dinI (hs.atI (q + 1) (DM_get hq)) ?_
  rw [numsK_val, Option.isSome_map]
  have ok0 := ls.ok d (List.mem_of_getElem? hq)
  cases c0 : numOf d.nums i with
  | some k =>
    refine ⟨true, rfl, iteT ?_⟩
    walk_at "v"
    refine v_dgetI (hs.atI (q + 1) (DM_get hq)) (by rw [numsK_val, c0]; rfl) ?_
    have hl : Loc L (substT f (treeAt ps i)) k := by
      have := ok0.1 (i, k) (numOf_mem c0)
      rw [hdt] at this
      exact this
    have e := ins_old ls.nd hl
    have := fin B H ds ts (Same.refl B) hs (Sim.refl ds) (by rw [e]; exact ls)
    rw [e] at this
    exact this
  | none =>
    refine ⟨false, rfl, iteF ?_⟩
    walk_at "v"
    obtain ⟨pv, e1, hp1⟩ := hX.get (i := i) (d := partD false p) (by rw [List.getElem?_map, ep]; rfl)
    obtain ⟨xa, rfl, hP⟩ := rp_part hp1
    refine v_ixL (hs.l hS) (atI_nat e1) ?_
    walk_at "v"
    refine v_ixT (hs.t (SqT.of hP)) (at_lit 0 (vals_hd p)) ?_
    walk_at "v"
    have wk := wf i p ep
    -- a part that is told as it is
    have plain : ∀ (np : Part), np.vals = p.vals → putP L np = ins (substT f (treeAt ps i)) L → (∃ b, Part.nm p = cnm b) ∨ Part.nm p = "letter" →
        tSeq (tAsg (tCB (rCTup K) (tCons (tVar 5) tNil)) (gName 9)) (tSeq (tIfS (tTest (tOp (rIn K true) (tOp (rIxT K) (tVar 5) (tC (.int 0))) (tTup (tCons (tC (.str "yes")) (tCons (tC (.str "no")) (tCons (tC (.str "letter")) tNil)))))) (tAsg (tCB (rCTup K) (tCons (tOp rCat (tLst (tCons (tOp (rIxT K) (tVar 5) (tC (.int 0))) tNil)) (tLc (iTup K (tSl (rSlA K) (tVar 5) (tPart (tC (.int 1))) tNoPart)) (gName 10) tYes (tCall (sp_list K n) [] E0 (tCons (tVar 0) (tCons (tVar 10) (tCons (tVar 2) (tCons (tVar 3) (tCons (tVar 4) tNil)))))) [10])) tNil)) (gName 9)) tNext) (tail_list K))
          { nx := fun σ H => end_list { nx := fun _ H' => Q .non H', rt := Q } σ H, rt := Q } [some (V.ref sa), some (V.int (i : Int)), some lv, some (V.ref ta), some (V.ref d.a), some (V.ref xa), none, none, none, none, none] H := by
      intro np ev eput hnm
      walk_at "v"
      refine v_tupleT (hs.t (SqT.of hP)) ?_
      walk_at "v"
      refine v_ixT (hs.t (SqT.of hP)) (at_lit 0 (vals_hd p)) ?_
      walk_at "v"
      refine v_size (by show 3 ≤ sizeLine; decide) (v_newB hs fun tp B1 H1 l1 hs1 e2 => ?_)
      refine ⟨tp, _, rfl, .inr (hs1.t (SqT.of e2)), rfl, rfl, false, by rcases hnm with ⟨b, e⟩ | e <;> rw [e] <;> first | rfl | (cases b <;> rfl), iteF ?_⟩
      walk_at "v1"
      exact tail B1 H1 ds ts L np xa _ _ _ _ _ l1 hs1 (Sim.refl ds) (ls.up l1) (by rw [ev]; exact l1 _ _ hP) (by omega) eput
    -- a part that refers to others
    have refer : Part.isRef p = true →
        tSeq (tAsg (tCB (rCTup K) (tCons (tVar 5) tNil)) (gName 9)) (tSeq (tIfS (tTest (tOp (rIn K true) (tOp (rIxT K) (tVar 5) (tC (.int 0))) (tTup (tCons (tC (.str "yes")) (tCons (tC (.str "no")) (tCons (tC (.str "letter")) tNil)))))) (tAsg (tCB (rCTup K) (tCons (tOp rCat (tLst (tCons (tOp (rIxT K) (tVar 5) (tC (.int 0))) tNil)) (tLc (iTup K (tSl (rSlA K) (tVar 5) (tPart (tC (.int 1))) tNoPart)) (gName 10) tYes (tCall (sp_list K n) [] E0 (tCons (tVar 0) (tCons (tVar 10) (tCons (tVar 2) (tCons (tVar 3) (tCons (tVar 4) tNil)))))) [10])) tNil)) (gName 9)) tNext) (tail_list K))
          { nx := fun σ H => end_list { nx := fun _ H' => Q .non H', rt := Q } σ H, rt := Q } [some (V.ref sa), some (V.int (i : Int)), some lv, some (V.ref ta), some (V.ref d.a), some (V.ref xa), none, none, none, none, none] H := by
      intro hr
      walk_at "v"
      refine v_tupleT (hs.t (SqT.of hP)) ?_
      walk_at "v"
      refine v_ixT (hs.t (SqT.of hP)) (at_lit 0 (vals_hd p)) ?_
      walk_at "v"
      refine v_size (by show 3 ≤ sizeLine; decide) (v_newB hs fun tp B1 H1 l1 hs1 e2 => ?_)
      refine ⟨tp, _, rfl, .inr (hs1.t (SqT.of e2)), rfl, rfl, true, by cases p with | c b => cases hr | letter a => cases hr | un u j => cases u <;> rfl | bin u j k => cases u <;> rfl, iteT ?_⟩
      walk_at "v"
      refine v_ixT (hs1.t (SqT.of (l1 _ _ hP))) (at_lit 0 (vals_hd p)) ?_
      walk_at "v"
      refine v_size (by show 1 ≤ sizeLine; decide) (v_newB hs1 fun hd B2 H2 l2 hs2 e3 => ?_)
      walk_at "v"
      have l12 := l1.trans l2
      refine v_slAB hs2 (l12 _ _ hP) fun sl B3 H3 l3 hs3 e4 => ?_
      rw [show cutV p.vals (some (1 : Int)) none = p.vals.drop 1 from cut_from p.vals 1, vals_ref hr, List.drop_succ_cons, List.drop_zero] at e4
      have l13 := l12.trans l3
      have ksl : (kids f (treesOf ps) p).length = (Part.refs p).length := List.length_map ..
      have rl := refs_len p
      refine v_atT (hs3.t (SqT.of e4)) ?_
      refine v_lcT (SqT.of e4) hs3 (fun j acc B' M' => ∃ (ds1 : List Dk) (ts1 : List V), M' = (ta, .lst ts1) :: (DM ds1 ++ M0) ∧ acc = (insF ((kids f (treesOf ps) p).take j) L).2.map intV ∧ Sim ds ds1 ∧ LS K B' al ds1 ts1 (insF ((kids f (treesOf ps) p).take j) L).1)
        ⟨ds, ts, rfl, rfl, Sim.refl ds, ls.up l13⟩ ?_ ?_
      · rintro j x p1 acc B4 M' H4 hj hx ha l4 h4 ⟨ds1, ts1, rfl, rfl, s1, ls1⟩
        obtain ⟨m, hm, rfl⟩ := map_some hx
        have hmm : m ∈ Part.refs p := List.mem_of_getElem? hm
        have hmi := wk m hmm
        have hkj : (kids f (treesOf ps) p)[j]? = some (substT f (treeAt ps m)) := by
          unfold kids
          rw [List.getElem?_map, hm]
          rfl
        obtain ⟨d1, g1, g2, g3⟩ := s1.at_ hq
        have szj := kids_size f (treesOf ps) p j
        rw [hkj] at szj
        have lenj := insF_len ((kids f (treesOf ps) p).take j) L
        rw [tree] at hsz
        have klok : (substT f (treeAt ps m)).lok al := by
          rw [tree] at hlok
          cases p with
          | c b => cases hr
          | letter a => cases hr
          | un u j' =>
            obtain rfl : m = j' := by simpa [Part.refs] using hmm
            exact hlok
          | bin u j' k' =>
            have h' : m = j' ∨ m = k' := by simpa [Part.refs] using hmm
            rcases h' with rfl | rfl
            · exact hlok.1
            · exact hlok.2
        walk_at "v"
        refine ⟨rfl, ?_⟩
        walk_at "v"
        refine iteT ?_
        walk_at "v"
        have h5 : Hs B4 ((ta, .lst ts1) :: (DM ds1 ++ ((p1, _) :: M0))) H4 := h4.perm ((List.Perm.swap _ _ _).trans (.cons _ List.perm_middle.symm))
        refine ⟨B4, _, al, ds1, sa, xs, ps, m, lv, f, ta, ts1, _, d.a, q, d1, rfl, h5, le_l (l13.trans l4) hS, hX.up (l13.trans l4), wf, Nat.lt_trans hmi hi, hn, ls1, hal, klok, ?_, g1, g2, g3.trans hdt, hlt.next hmi (l13.trans l4) s1, fun B5 H5 ds2 ts2 l5 h6 s2 ls2 => ?_⟩
        · simp only [Option.map_some, Option.getD_some] at szj
          omega
        · have h7 : Hs B5 ((p1, _) :: (ta, .lst ts2) :: (DM ds2 ++ M0)) H5 := h6.perm ((List.Perm.cons _ List.perm_middle).trans (List.Perm.swap _ _ _))
          refine IE.mk ha hj (by rw [List.length_map]; omega) (l4.trans l5) h7 ⟨ds2, ts2, rfl, ?_, s1.trans s2, ?_⟩
          · rw [List.take_add_one, hkj, show (some (substT f (treeAt ps m))).toList = [substT f (treeAt ps m)] from rfl, insF_snoc]
            simp only [stepF, List.map_append]
            rfl
          · rw [List.take_add_one, hkj, show (some (substT f (treeAt ps m))).toList = [substT f (treeAt ps m)] from rfl, insF_snoc]
            exact ls2
      · rintro p1 acc B4 M' H4 ha l4 h4 ⟨ds1, ts1, rfl, rfl, s1, ls1⟩
        rw [List.length_map, ← ksl, List.take_length] at h4 ls1
        have i2 := insF_len2 (kids f (treesOf ps) p) L
        walk_at "v"
        refine v_cat (h4.sub _ _ ((l3.trans l4) _ _ e3)) h4.hd (by rw [List.length_map, i2, ksl]; exact sz_of (by simp; omega)) (v_newB h4 fun ct B5 H5 l5 h5 e5 => ?_)
        walk_at "v"
        refine v_tupLB h5 (h5.l (SqL.of e5)) fun na B6 H6 l6 h6 e6 => ?_
        walk_at "v"
        have szt := kids_size f (treesOf ps) p (kids f (treesOf ps) p).length
        have lent := insF_len (kids f (treesOf ps) p) L
        rw [List.take_length, List.getElem?_eq_none (Nat.le_refl _)] at szt
        simp only [Option.map_none, Option.getD_none] at szt
        refine tail B6 H6 ds1 ts1 _ (rePart p (insF (kids f (treesOf ps) p) L).2) na _ _ _ _ _ (l13.trans (l4.trans (l5.trans l6))) h6.drop s1 (ls1.up (l5.trans l6)) ?_ ?_ ?_
        · rw [rePart_vals hr (by rw [i2, ksl])]
          exact e6
        · rw [tree] at hsz
          omega
        · rw [tree, ins_node f (treesOf ps) p L fun a z => by subst z; cases hr]
    cases p with
    | letter a =>
      have en : node (treesOf ps) (.letter a) = .letter a := rfl
      rcases hlt with ⟨rfl, rfl, _⟩ | ⟨la, kvs, m, rfl, eB, hm, hm1, hf⟩
      · refine iteT' (by rfl) ?_
        walk_at "v"
        refine iteF' (by rfl) (plain (.letter a) rfl ?_ (.inr rfl))
        rw [tree, en]
        rfl
      · refine iteT' (by rfl) ?_
        walk_at "v"
        refine iteT' (by rfl) ?_
        obtain ⟨pr, ga, gxs, gps, ia, q2, d2, k1, k2, k3, k4, k5, k6, k7, k8, k9, k10, k11⟩ := hf a ⟨i, ep⟩
        walk_at "v"
        refine v_ixT (hs.t (SqT.of hP)) (at_lit 1 rfl) ?_
        walk_at "v"
        refine v_dgetS (hs.sub _ _ eB) k1 ?_
        walk_at "v"
        refine v_gTup2 (hs.t (SqT.of k2)) ?_
        walk_at "v"
        refine v_lenL (hs.l k3) ?_
        walk_at "v"
        have gl : gxs.length = gps.length := by rw [k4.length, List.length_map]
        have es : substT f (treeAt ps i) = rootT gps := by rw [tree, en]; exact k8
        have e0 : substT .letter (treeAt gps (gps.length - 1)) = rootT gps := substT_id _
        rw [es] at hlok hsz
        refine ⟨B, M0, al, ds, ga, gxs, gps, gps.length - 1, .non, .letter, ta, ts, L, ia, q2, d2, ?_, hs, k3, k4, k5, by omega, by omega, ls, hal, by rw [e0]; exact hlok, by rw [e0]; exact hsz, k9, k10, ?_, .inl ⟨rfl, rfl, by omega⟩, fun B5 H5 ds5 ts5 l5 h5 s5 ls5 => ?_⟩
        · rw [gl, show ((gps.length : Nat) : Int) - 1 = ((gps.length - 1 : Nat) : Int) by omega]
          rfl
        · rw [k11]
          funext j
          exact (substT_id _).symm
        · rw [e0] at ls5
          walk_at "v1"
          refine last B5 H5 ds5 ts5 _ _ _ _ _ _ l5 h5 s5 ?_ ?_
          · rw [es]; exact ls5
          · rw [es, e0]
    | c b => exact iteF' (by cases b <;> rfl) (plain (.c b) rfl (by rw [tree]; rfl) (.inl ⟨b, rfl⟩))
    | un u j => exact iteF' (by cases u <;> rfl) (refer rfl)
    | bin u j k => exact iteF' (by cases u <;> rfl) (refer rfl)
theorem room65 {k : Nat} {A : Around} (r : Room k A) : A.units + 65 < cLine := by have := r.un; omega
theorem sp_list_0 {K : PySem.W.Frag} {vs : List V} {H : Hp} {Q : VK} {E : XK} (h : sp_list K 0 vs H Q E) : False := by
  obtain ⟨B, M0, al, ds, sa, xs, ps, i, lv, f, ta, ts, L, kn, q, d, rfl, hs, hS, hX, wf, hi, hn, ls, hal, hlok, hsz, hq, rfl, hdt, hlt, fin⟩ := h
  rcases hlt with ⟨_, _, h⟩ | ⟨_, _, _, _, _, h, _⟩ <;> omega
section
variable {P : Program} {w : World} {K : PySem.W.Frag} {mg : Str → Option Value} {base : Heap}
theorem ok_list (T : Txt K mg w) : ∀ n, FnOk P w K mg base CX0 (n + 2) T.a_list T.fd_list ["_law_sheet", "_law_number", "_law_letters", "_law_told", "_law_known"] (sp_list K n)
  | 0 => by
    exact ⟨fun vs H Q E h => (sp_list_0 h).elim, fun A outer s H args us vs Q E _ _ _ _ h => (sp_list_0 h).elim⟩
  | n + 1 => by
    have IH := ok_list T n
    refine T.F_list.ok sc_list (fun vs H Q E h => ?_) (fun cdv A outer s H vs Q E hr h => ⟨t_list K (sp_list K n), ?_, pure_list n vs H Q E h⟩)
    · obtain ⟨B, M0, al, ds, sa, xs, ps, i, lv, f, ta, ts, L, kn, q, d, rfl, _⟩ := h
      rfl
    · exact (pss_cons (ps_if (pt_cmp (pc_din (hu_of hr) (pv 1) (pv 4))) (pss_one (ps_ret (pe_dget (hu_of hr) (pv 4) (pv 1) (fun _ _ => rfl)))) pss_nil)
      (pss_cons (ps_set (i := 5) sc_list.nd rfl (by first | exact Or.inl rfl | exact Or.inr rfl) (pe_ix ix_list (pv 0) (pv 1) (fun _ _ => rfl)))
      (pss_cons (ps_if (PW.pt (pw_and (pt_cmpR op_eq (pe_ix ix_tup (pv 5) pe_int (fun _ _ => rfl)) pe_str (nomark _)) (pw_and1 (pt_cmpR op_notN (pv 2) pe_non (nomark _))))) (pss_cons (ps_asg (pe_dget (hu_of hr) (pv 2) (pe_ix ix_tup (pv 5) pe_int (fun _ _ => rfl)) (fun _ _ => rfl)) (pg_tup rfl (pgs_cons (pg_name (i := 6) sc_list.nd rfl (by first | exact Or.inl rfl | exact Or.inr rfl)) (pgs_cons (pg_name (i := 7) sc_list.nd rfl (by first | exact Or.inl rfl | exact Or.inr rfl)) pgs_nil))))
      (pss_one (ps_set (i := 8) sc_list.nd rfl (by first | exact Or.inl rfl | exact Or.inr rfl) (pe_call IH hr (by rfl) T.g_list T.F_list.kp T.b_list .nil pass0 (pa_cons (pv 6) (pa_cons (pe_op op_sub (pe_callB call_len (by rfl) (T.free_len) (by decide +kernel) (pa_cons (pv 6) pa_nil)) pe_int) (pa_cons pe_non (pa_cons (pv 3) (pa_cons (pv 7) pa_nil))))))))) (pss_cons (ps_set (i := 9) sc_list.nd rfl (by first | exact Or.inl rfl | exact Or.inr rfl) (pe_callTy call_tuple_of (by rfl) (T.free_tuple) (by decide +kernel) (pa_cons (pv 5) pa_nil)))
      (pss_cons (ps_if (pt_cmpR op_notIn_seq (pe_ix ix_tup (pv 5) pe_int (fun _ _ => rfl)) (pe_tup (pa_cons pe_str (pa_cons pe_str (pa_cons pe_str pa_nil)))) (by rfl)) (pss_one (ps_set (i := 9) sc_list.nd rfl (by first | exact Or.inl rfl | exact Or.inr rfl) (pe_callTy call_tuple_of (by rfl) (T.free_tuple) (by decide +kernel) (pa_cons (pe_op op_cat (pe_lst (pa_cons (pe_ix ix_tup (pv 5) pe_int (fun _ _ => rfl)) pa_nil)) (pe_lc (own := [("_law_one", 10)]) (g := (gName 10)) (tt := tYes) rfl sc_list.nd (pi_tup (pe_slice sl_tupA (pv 5) (po_some pe_int) po_none)) (blkOk_by (own := [("_law_one", 10)]) (N := n_list) (sc := defScope s_list) (by decide +kernel)) (fun _ _ _ _ _ => (pg_name (i := 10) sc_list.nd rfl (Or.inl rfl))) (fun _ _ _ _ _ => pts_nil) (fun _ _ _ _ _ => (pe_call IH hr (by rfl) T.g_list T.F_list.kp T.b_list .nil pass0 (pa_cons (pv 0) (pa_cons (pv 10) (pa_cons (pv 2) (pa_cons (pv 3) (pa_cons (pv 4) pa_nil))))))))) pa_nil)))) pss_nil)
      (pss_cons (ps_if (pt_cmpR (op_notInD (room65 hr)) (pv 9) (pv 3) (by rfl)) (pss_one (ps_expr (pe_bm PySem.F.plainAttrs_list PySem.F.slot_list_append PySem.F.type_list_append mt_append (pv 3) (pa_cons (pv 9) pa_nil)))) pss_nil)
      (pss_one (ps_set (i := 8) sc_list.nd rfl (by first | exact Or.inl rfl | exact Or.inr rfl) (pe_bm PySem.F.plainAttrs_list PySem.F.slot_list_index PySem.F.type_list_index (mt_indexD (room65 hr)) (pv 3) (pa_cons (pv 9) pa_nil))))))))
      (pss_cons (ps_dput (hu_of hr) (pv 4) (pv 1) (pv 8) rfl)
      (pss_one (ps_ret (pv 8)))))))
end
end K71
set_option Elab.async false
set_option linter.all false
set_option maxRecDepth 100000
set_option maxHeartbeats 8000000
namespace K71
open PySem PySem.Spec PyProof.Rows L2 Sh
open SX (S)
local macro_rules | `(tactic| walk_at "v1") => `(tactic| first
  | with_reducible refine v_seq ?_ | with_reducible refine v_asg ?_ | ((with_reducible refine' v_name ?e ?_); (case e => exact rfl)) | with_reducible refine v_ret ?_ | with_reducible refine v_drop ?_ | with_reducible refine v_next ?_
  | with_reducible refine v_if ?_ | with_reducible refine v_op ?_ | with_reducible refine v_c ?_ | ((with_reducible refine' v_var ?e ?_); (case e => exact rfl))
  | with_reducible refine v_I0 ?_ | with_reducible refine v_test ?_ | with_reducible refine v_B ?_ | with_reducible refine v_bl ?_ | with_reducible refine v_not ?_ | with_reducible refine v_and ?_ | with_reducible refine v_or ?_
  | with_reducible refine v_andV ?_ | with_reducible refine v_orV ?_ | with_reducible refine v_notV ?_ | with_reducible refine v_ife ?_
  | with_reducible refine v_nil ?_ | with_reducible refine v_cons ?_ | with_reducible refine v_tup ?_ | with_reducible refine v_lst ?_ | with_reducible refine v_call ?_ | with_reducible refine v_cb ?_ | with_reducible refine v_int ?_ | with_reducible refine v_abs ?_
  | ((with_reducible refine' v_eq ?e ?_); (case e => exact rfl)) | ((with_reducible refine' v_ne ?e ?_); (case e => exact rfl)) | with_reducible refine v_sub ?_ | with_reducible refine v_isN ?_ | with_reducible refine v_notN ?_
  | with_reducible refine v_part ?_ | with_reducible refine v_nopart ?_ | with_reducible refine v_pint ?_ | with_reducible refine v_inSg ?_ | with_reducible refine v_notInSg ?_
  | ((with_reducible refine' v_ixL ?l ?a ?_); (case l => assumption); (case a => exact at_lit _ rfl)) | ((with_reducible refine' v_ixT ?l ?a ?_); (case l => assumption); (case a => exact at_lit _ rfl))
  | ((with_reducible refine v_I ?c ?_); (case c => (first | omega | (unfold CMul; omega) | (unfold CDivN; omega) | (unfold CPow; omega))))
  | with_reducible refine v_for ?_ | with_reducible refine v_iList ?_ | with_reducible refine v_iTup ?_ | with_reducible refine v_iStr ?_ | with_reducible refine v_iR1 ?_ | with_reducible refine v_iR2 ?_ | with_reducible refine v_atS ?_ | with_reducible refine v_sl ?_ | with_reducible refine v_lc ?_ | with_reducible refine v_yes ?_
  | with_reducible refine v_m1 ?_ | with_reducible refine v_m1S ?_ | with_reducible refine v_bm ?_ | with_reducible refine v_bm0 ?_ | with_reducible refine v_dnewK ?_ | with_reducible refine v_dnewT ?_ | with_reducible refine v_dget ?_ | with_reducible refine v_din ?_ | with_reducible refine v_dnotin ?_ | with_reducible refine v_dput ?_ | with_reducible refine v_chain ?_ | with_reducible refine v_un ?_ | with_reducible refine v_neg ?_
  | with_reducible refine v_brk ?_ | with_reducible refine v_cont ?_)
local macro_rules | `(tactic| walk_at "v") => `(tactic| repeat (walk_at "v1"))
local macro_rules | `(tactic| walk_at "vm") => `(tactic| repeat (first | ((with_reducible refine v_modP ?c ?_); (case c => omega); (intro _ _ _)) | walk_at "v1"))
local macro_rules | `(tactic| walk_at "iv") => `(tactic| (try dsimp only; refine IV.mk (by assumption) (by assumption) ?_))
local macro_rules | `(tactic| walk_at "n") => `(tactic| dsimp only [List.set_cons_zero, List.set_cons_succ])
theorem node_size {ts : List Tr} {p : Part} {i : Nat} (h : ∀ j ∈ Part.refs p, j < i ∧ (ts.getD j (.c true)).size + 1 ≤ 2 ^ (j + 1)) : (node ts p).size + 1 ≤ 2 ^ (i + 1) := by
  have h1 : 1 ≤ 2 ^ i := Nat.one_le_two_pow
  have up : ∀ j, j < i → 2 ^ (j + 1) ≤ 2 ^ i := fun j hj => Nat.pow_le_pow_right (by decide) hj
  rw [Nat.pow_succ]
  cases p with
  | c b => show 1 + 1 ≤ _; omega
  | letter a => show 1 + 1 ≤ _; omega
  | un u j =>
    obtain ⟨a, b⟩ := h j (by simp [Part.refs])
    have := up j a
    show (ts.getD j (.c true)).size + 1 + 1 ≤ _
    omega
  | bin u j k =>
    obtain ⟨a, b⟩ := h j (by simp [Part.refs])
    obtain ⟨a2, b2⟩ := h k (by simp [Part.refs])
    have := up j a
    have := up k a2
    show (ts.getD j (.c true)).size + (ts.getD k (.c true)).size + 1 + 1 ≤ _
    omega
theorem treeAt_size {ps : List Part} (wf : WR ps) : ∀ i, i < ps.length → (treeAt ps i).size + 1 ≤ 2 ^ (i + 1) := by
  intro i
  induction i using Nat.strongRecOn with
  | ind i ih =>
    intro hi
    obtain ⟨p, e⟩ : ∃ p, ps[i]? = some p := ⟨_, List.getElem?_eq_getElem hi⟩
    rw [treeAt_get wf e]
    exact node_size fun j hj => ⟨wf i p e j hj, ih j (wf i p e j hj) (Nat.lt_trans (wf i p e j hj) hi)⟩
theorem substT_size {f : Nat → Tr} {m : Nat} (m1 : 1 ≤ m) (h : ∀ a, (f a).size ≤ m) : ∀ t : Tr, (substT f t).size ≤ t.size * m
  | .c _ => by show 1 ≤ 1 * m; omega
  | .letter a => by show (f a).size ≤ 1 * m; rw [Nat.one_mul]; exact h a
  | .un u t => by
    have := substT_size m1 h t
    show (substT f t).size + 1 ≤ (t.size + 1) * m
    rw [Nat.add_mul]
    omega
  | .bin u t s => by
    have h1 := substT_size m1 h t
    have h2 := substT_size m1 h s
    show (substT f t).size + (substT f s).size + 1 ≤ (t.size + s.size + 1) * m
    rw [Nat.add_mul, Nat.add_mul]
    omega
theorem root_size {ps : List Part} (wf : WR ps) (h : ps.length ≤ 8) : (rootT ps).size ≤ 255 := by
  by_cases h0 : ps.length = 0
  · obtain rfl := List.length_eq_zero_iff.mp h0
    decide
  · have h1 := treeAt_size wf (ps.length - 1) (by omega)
    have h2 : 2 ^ (ps.length - 1 + 1) ≤ 2 ^ 8 := Nat.pow_le_pow_right (by decide) (by omega)
    show (treeAt ps (ps.length - 1)).size ≤ 255
    omega
def fT (tg : List Nat) (gs : List (List Part)) : Nat → Tr := fun a => rootT (gs.getD (tg.idxOf a) [])
theorem fT_size {tg : List Nat} {gs : List (List Part)} (h : ∀ g ∈ gs, WR g ∧ g.length ≤ 8) (a : Nat) : (fT tg gs a).size ≤ 255 := by
  unfold fT
  rw [List.getD_eq_getElem?_getD]
  cases e : gs[tg.idxOf a]? with
  | none => decide
  | some g => exact root_size (h g (List.mem_of_getElem? e)).1 (h g (List.mem_of_getElem? e)).2
theorem fT_lok {al tg : List Nat} {gs : List (List Part)} (h : ∀ g ∈ gs, WF al g ∧ 1 ≤ g.length) (hl : gs.length = tg.length) : ∀ a ∈ tg, (fT tg gs a).lok al := fun a ha => by
  have hi := List.idxOf_lt_length_of_mem ha
  have e : gs[tg.idxOf a]? = some (gs[tg.idxOf a]'(by omega)) := List.getElem?_eq_getElem _
  unfold fT
  rw [List.getD_eq_getElem?_getD, e]
  obtain ⟨h1, h2⟩ := h _ (List.mem_of_getElem? e)
  exact treeAt_lok h1 _ (by show _ - 1 < _; simp only [Option.getD_some]; omega)
def sp_put_due (K : PySem.W.Frag) : Sp := fun vs H Q _ => ∃ (B : Hp) (M : List (Addr × HO)) (al tg : List Nat) (gs : List (List Part)) (ps : List Part) (v2 v3 : V), vs = [.str (S tg), v2, v3] ∧ Hs B M H ∧ Rp K B v2 (.list (gs.map (sheetD true false))) ∧ Rp K B v3 (sheetD true false ps) ∧
  gs.length = tg.length ∧ tg.length ≤ 8 ∧ tg.Nodup ∧ (∀ g ∈ gs, WF al g ∧ 1 ≤ g.length ∧ g.length ≤ 8) ∧ WF tg ps ∧ 1 ≤ ps.length ∧ ps.length ≤ 8 ∧ (∀ a ∈ al, a < 1000) ∧
  ∀ (v' : V) (B' H' : Hp), Le B B' → Hs B' M H' → Rp K B' v' (sheetD false false (toldT tg gs ps)) → Q v' H'
def t_put_due (K : PySem.W.Frag) : TS := (tSeq (tAsg tDNewK (gName 3))
    (tSeq (tFor (iRng1 (tCons (tCB (rCLen K) (tCons (tVar 0) tNil)) tNil)) (gName 4) (sDPut (tVar 3) (tOp rIxS (tVar 0) (tVar 4)) (tTup (tCons (tOp (rIxL K) (tVar 1) (tVar 4)) (tCons tDNewK tNil)))))
    (tSeq (tAsg (tLst tNil) (gName 5))
    (tSeq (tDrop (tCall (sp_list K 20) [] E0 (tCons (tVar 2) (tCons (tOp rSubI (tCB (rCLen K) (tCons (tVar 2) tNil)) (tC (.int 1))) (tCons (tVar 3) (tCons (tVar 5) (tCons tDNewK tNil)))))))
    (tRet (tCB (rCTup K) (tCons (tVar 5) tNil)))))))
structure DI (K : PySem.W.Frag) (B : Hp) (kvs : List (Key × V)) (ds : List Dk) (tg : List Nat) (gs : List (List Part)) (i : Nat) : Prop where
  len : ds.length = i
  kl : kvs.length ≤ i
  nums : ∀ d ∈ ds, d.nums = []
  at_ : ∀ (j a : Nat), j < i → tg[j]? = some a → ∃ (pr ga : Addr) (gxs : List V) (d : Dk) (g : List Part), valV kvs (.inr (S [a])) = some (.ref pr) ∧ B pr = some (.tup [.ref ga, .ref d.a]) ∧ SqL K B ga gxs ∧ gs[j]? = some g ∧ RpAll K B gxs (g.map (partD false)) ∧ ds[j]? = some d ∧ d.tr = treeAt g
theorem pure_put_due {K : PySem.W.Frag} (vs : List V) (H : Hp) (Q : VK) (E : XK) (h : sp_put_due K vs H Q E) : t_put_due K { nx := fun _ H' => Q .non H', rt := Q } (start n_put_due vs) H := by
  obtain ⟨B, M, al, tg, gs, ps, v2, v3, rfl, hs, hv2, hv3, gl, t8, nd, gw, wf, p1, p8, hal, q⟩ := h
  obtain ⟨sa, xs, rfl, hS, hX⟩ := rp_mk (l := true) hv2
  obtain ⟨ka, kxs, rfl, hK, hKX⟩ := rp_mk (l := true) hv3
  show t_put_due K _ [some (V.str (S tg)), some (V.ref sa), some (V.ref ka), none, none, none] H
  unfold t_put_due
  walk_at "v"
  refine v_newM hs fun la H1 h1 => ?_
  walk_at "v"
  refine v_lenS (z := S tg) (by rw [S_length]; exact sz_of (by omega)) ?_
  rw [S_length]
  walk_at "v"
  refine v_atR1 (by omega) ?_
  refine v_forR h1 (fun i σ B' M' => ∃ (kvs : List (Key × V)) (ds : List Dk) (y4 : Option V), M' = (la, .dK kvs) :: (DM ds ++ M) ∧ DI K B' kvs ds tg gs i ∧ σ = [some (V.str (S tg)), some (V.ref sa), some (V.ref ka), some (V.ref la), y4, none])
    ⟨[], [], _, rfl, ⟨rfl, Nat.le_refl _, fun d h => by simp at h, fun j a hj => absurd hj (by omega)⟩, rfl⟩ ?_ ?_
  · rintro i σ' B1 M' H2 hi l1 h2 ⟨kvs, ds, y4, rfl, di, rfl⟩
    have hit : i < tg.length := by omega
    obtain ⟨a, ea⟩ : ∃ a, tg[i]? = some a := ⟨_, List.getElem?_eq_getElem hit⟩
    obtain ⟨g, eg⟩ : ∃ g, gs[i]? = some g := ⟨_, List.getElem?_eq_getElem (by omega)⟩
    obtain ⟨gv, ev, hgv⟩ := hX.get (i := i) (d := sheetD true false g) (by rw [List.getElem?_map, eg]; rfl)
    obtain ⟨ga, gxs, rfl, hG, hGX⟩ := rp_mk (l := true) hgv
    walk_at "v"
    refine v_ixL (h2.l (le_l l1 hS)) (by rw [show (0 : Int) + (i : Int) = (i : Int) by omega]; exact atI_nat ev) ?_
    walk_at "v"
    refine v_newM h2 fun da H3 h3 => ?_
    walk_at "v"
    refine v_size (by show 2 ≤ sizeLine; decide) (v_newB h3 fun pr B4 H4 l4 h4 e4 => ?_)
    walk_at "v"
    refine v_ixS (by rw [S_length]; exact sz_of (by omega)) (c := a) (by rw [show (0 : Int) + (i : Int) = (i : Int) by omega]; exact atI_nat (show tg[i]? = some a from ea)) ?_
    have hla : ((da, HO.dK []) :: (la, .dK kvs) :: (DM ds ++ M))[1]? = some (la, .dK kvs) := rfl
    have l14 := l1.trans l4
    refine v_dputSI h4 1 hla (by have := di.kl; omega) fun H5 h5 => ?_
    have h6 : Hs B4 ((la, .dK (putK kvs (.inr (S [a])) (.ref pr))) :: (DM (ds ++ [⟨da, [], treeAt g⟩]) ++ M)) H5 := by
      refine h5.perm ?_
      unfold DM
      rw [List.map_append, List.append_assoc]
      refine (List.Perm.swap _ _ _).trans (.cons _ ?_)
      exact List.perm_middle.symm
    have len := di.len
    try dsimp only
    refine IV.mk l14 h6 ⟨_, _, _, rfl, ⟨by rw [List.length_append, len]; rfl, Nat.le_trans (length_putK _ _ _) (Nat.succ_le_succ di.kl), fun d hd => ?_, fun j b hj eb => ?_⟩, rfl⟩
    · rcases List.mem_append.mp hd with hd | hd
      · exact di.nums d hd
      · obtain rfl := List.mem_singleton.mp hd
        rfl
    · by_cases hji : j < i
      · obtain ⟨pr', ga', gxs', d', g', e1, e2, e3, e3', e5, e6, e7⟩ := di.at_ j b hji eb
        have ne : ¬ (Sum.inr (S [b]) : Key) = .inr (S [a]) := fun e => by
          obtain rfl := S1_inj (Sum.inr.inj e)
          have := nd_get nd eb ea
          omega
        refine ⟨pr', ga', gxs', d', g', by rw [valV_put, if_neg ne]; exact e1, l4 _ _ e2, le_l l4 e3, e3', e5.up l4, ?_, e7⟩
        rw [List.getElem?_append_left (by omega)]
        exact e6
      · obtain rfl : j = i := by omega
        rw [ea] at eb
        cases eb
        refine ⟨pr, ga, gxs, ⟨da, [], treeAt g⟩, g, by rw [valV_put, if_pos rfl], e4, le_l l14 hG, eg, hGX.up l14, ?_, rfl⟩
        rw [List.getElem?_append_right (by omega), len, Nat.sub_self]
        rfl
  · rintro σ' B1 M' H2 l1 h2 ⟨kvs, ds, y4, rfl, di, rfl⟩
    rw [show ((tg.length : Nat) : Int).toNat = tg.length by omega] at di
    have kxl : kxs.length = ps.length := by rw [hKX.length, List.length_map]
    walk_at "v"
    refine v_size (by show 0 ≤ sizeLine; decide) (v_newM h2 fun ta H3 h3 => ?_)
    walk_at "v"
    refine v_lenL (h3.l (le_l l1 hK)) ?_
    walk_at "v"
    refine v_newM h3 fun kn H4 h4 => ?_
    obtain ⟨h5, l5⟩ := (h4.perm (show List.Perm _ ((la, .dK kvs) :: (ta, .lst []) :: (kn, .dK []) :: (DM ds ++ M)) from by
      refine (List.Perm.swap _ _ _).trans ?_
      refine (List.Perm.cons _ (List.Perm.swap _ _ _)).trans ?_
      exact List.Perm.swap _ _ _)).fix
    have l15 := l1.trans l5
    have gws : ∀ g ∈ gs, WR g ∧ g.length ≤ 8 := fun g hg => ⟨(gw g hg).1.wr, (gw g hg).2.2⟩
    have szr := root_size wf.wr p8
    have szt := substT_size (m := 255) (by decide) (fT_size (tg := tg) gws) (rootT ps)
    have szm : (rootT ps).size * 255 ≤ 255 * 255 := Nat.mul_le_mul_right _ szr
    walk_at "v"
    refine ⟨_, M, al, ⟨kn, [], fun i => substT (fT tg gs) (treeAt ps i)⟩ :: ds, ka, kxs, ps, ps.length - 1, .ref la, fT tg gs, ta, [], [], kn, 0, ⟨kn, [], fun i => substT (fT tg gs) (treeAt ps i)⟩, ?_, h5, le_l l15 hK, hKX.up l15, wf.wr, by omega, by omega,
      ⟨.nil, List.nodup_nil, WF.nil _, fun d hd => ?_⟩, hal, ?_, ?_, rfl, rfl, rfl, .inr ⟨la, kvs, 8, rfl, upd_same, by omega, by omega, fun a ⟨k, ek⟩ => ?_⟩, fun B' H' ds' ts' l' h' s' ls' => ?_⟩
    · rw [kxl, show ((ps.length : Nat) : Int) - 1 = ((ps.length - 1 : Nat) : Int) by omega]
      rfl
    · have hn : d.nums = [] := by
        rcases List.mem_cons.mp hd with rfl | hd
        · rfl
        · exact di.nums d hd
      refine ⟨fun z hz => ?_, ?_, fun z hz => ?_⟩
      · rw [hn] at hz; cases hz
      · rw [hn]; exact List.nodup_nil
      · rw [hn] at hz; cases hz
    · exact substT_lok (fT_lok (fun g hg => ⟨(gw g hg).1, (gw g hg).2.1⟩) gl) (treeAt_lok wf _ (by omega))
    · show 0 + (substT (fT tg gs) (rootT ps)).size ≤ 900000
      omega
    · have ha : a ∈ tg := wf k _ ek
      have hi := List.idxOf_lt_length_of_mem ha
      obtain ⟨pr, ga, gxs, d, g, e1, e2, e3, e4, e5, e6, e7⟩ := di.at_ (tg.idxOf a) a hi (idxOf_get ha)
      obtain ⟨g1, g2, g3⟩ := gw g (List.mem_of_getElem? e4)
      refine ⟨pr, ga, gxs, g, d.a, tg.idxOf a + 1, d, e1, l5 _ _ e2, le_l l5 e3, e5.up l5, g1.wr, g2, g3, ?_, e6, rfl, e7⟩
      unfold fT
      rw [List.getD_eq_getElem?_getD, e4]
      rfl
    · walk_at "v"
      refine v_tupLB h' (SqL.of h'.hd) fun na B6 H6 l6 h6 e6 => ?_
      refine q _ B6 H6 (l15.trans (l'.trans l6)) (h6.pick ((List.sublist_append_right _ _).cons _)) ?_
      have hr := ls'.rp.up l6
      exact .tup e6 hr
section
variable {P : Program} {w : World} {K : PySem.W.Frag} {mg : Str → Option Value} {base : Heap}
theorem ok_put_due (T : Txt K mg w) : FnOk P w K mg base CX0 23 T.a_put_due T.fd_put_due ["_law_target", "_law_sheets", "_law_sheet"] (sp_put_due K) := by
  refine T.F_put_due.ok sc_put_due (fun vs H Q E h => ?_) (fun cdv A outer s H vs Q E hr h => ⟨t_put_due K, ?_, pure_put_due vs H Q E h⟩)
  · obtain ⟨B, M, al, tg, gs, ps, v2, v3, rfl, _⟩ := h
    rfl
  · exact (pss_cons (ps_set (i := 3) sc_put_due.nd rfl (by first | exact Or.inl rfl | exact Or.inr rfl) pe_dnewK)
      (pss_cons (ps_for PassesOwn.never rfl (pi_range1 (by rfl) (T.free_range) (pa_cons (pe_callB call_len (by rfl) (T.free_len) (by decide +kernel) (pa_cons (pv 0) pa_nil)) pa_nil)) (pg_name (i := 4) sc_put_due.nd rfl (by first | exact Or.inl rfl | exact Or.inr rfl)) (pss_one (ps_dput (hu_of hr) (pv 3) (pe_ix ix_str (pv 0) (pv 4) (fun _ _ => rfl)) (pe_tup (pa_cons (pe_ix ix_list (pv 1) (pv 4) (fun _ _ => rfl)) (pa_cons pe_dnewK pa_nil))) rfl)))
      (pss_cons (ps_set (i := 5) sc_put_due.nd rfl (by first | exact Or.inl rfl | exact Or.inr rfl) (pe_lst pa_nil))
      (pss_cons (ps_expr (pe_call (ok_list T 20) hr (by rfl) T.g_list T.F_list.kp T.b_list .nil pass0 (pa_cons (pv 2) (pa_cons (pe_op op_sub (pe_callB call_len (by rfl) (T.free_len) (by decide +kernel) (pa_cons (pv 2) pa_nil)) pe_int) (pa_cons (pv 3) (pa_cons (pv 5) (pa_cons pe_dnewK pa_nil)))))))
      (pss_one (ps_ret (pe_callTy call_tuple_of (by rfl) (T.free_tuple) (by decide +kernel) (pa_cons (pv 5) pa_nil))))))))
end
end K71
set_option Elab.async false
set_option linter.all false
set_option maxRecDepth 100000
set_option maxHeartbeats 4000000
namespace K71
open PySem PySem.Spec PyProof.Rows L2 Sh
open SX (S)
local macro_rules | `(tactic| walk_at "v1") => `(tactic| first
  | with_reducible refine v_seq ?_ | with_reducible refine v_asg ?_ | ((with_reducible refine' v_name ?e ?_); (case e => exact rfl)) | with_reducible refine v_ret ?_ | with_reducible refine v_drop ?_ | with_reducible refine v_next ?_
  | with_reducible refine v_if ?_ | with_reducible refine v_op ?_ | with_reducible refine v_c ?_ | ((with_reducible refine' v_var ?e ?_); (case e => exact rfl))
  | with_reducible refine v_I0 ?_ | with_reducible refine v_test ?_ | with_reducible refine v_B ?_ | with_reducible refine v_bl ?_ | with_reducible refine v_not ?_ | with_reducible refine v_and ?_ | with_reducible refine v_or ?_
  | with_reducible refine v_andV ?_ | with_reducible refine v_orV ?_ | with_reducible refine v_notV ?_ | with_reducible refine v_ife ?_
  | with_reducible refine v_nil ?_ | with_reducible refine v_cons ?_ | with_reducible refine v_tup ?_ | with_reducible refine v_lst ?_ | with_reducible refine v_call ?_ | with_reducible refine v_cb ?_ | with_reducible refine v_int ?_ | with_reducible refine v_abs ?_
  | ((with_reducible refine' v_eq ?e ?_); (case e => exact rfl)) | ((with_reducible refine' v_ne ?e ?_); (case e => exact rfl)) | with_reducible refine v_sub ?_ | with_reducible refine v_isN ?_ | with_reducible refine v_notN ?_
  | with_reducible refine v_part ?_ | with_reducible refine v_nopart ?_ | with_reducible refine v_pint ?_ | with_reducible refine v_inSg ?_ | with_reducible refine v_notInSg ?_
  | ((with_reducible refine' v_ixL ?l ?a ?_); (case l => assumption); (case a => exact at_lit _ rfl)) | ((with_reducible refine' v_ixT ?l ?a ?_); (case l => assumption); (case a => exact at_lit _ rfl))
  | ((with_reducible refine v_I ?c ?_); (case c => (first | omega | (unfold CMul; omega) | (unfold CDivN; omega) | (unfold CPow; omega))))
  | with_reducible refine v_for ?_ | with_reducible refine v_iList ?_ | with_reducible refine v_iTup ?_ | with_reducible refine v_iStr ?_ | with_reducible refine v_iR1 ?_ | with_reducible refine v_iR2 ?_ | with_reducible refine v_atS ?_ | with_reducible refine v_sl ?_ | with_reducible refine v_lc ?_ | with_reducible refine v_yes ?_
  | with_reducible refine v_m1 ?_ | with_reducible refine v_m1S ?_ | with_reducible refine v_bm ?_ | with_reducible refine v_bm0 ?_ | with_reducible refine v_dnewK ?_ | with_reducible refine v_dnewT ?_ | with_reducible refine v_dget ?_ | with_reducible refine v_din ?_ | with_reducible refine v_dnotin ?_ | with_reducible refine v_dput ?_ | with_reducible refine v_chain ?_ | with_reducible refine v_un ?_ | with_reducible refine v_neg ?_
  | with_reducible refine v_brk ?_ | with_reducible refine v_cont ?_)
local macro_rules | `(tactic| walk_at "v") => `(tactic| repeat (walk_at "v1"))
local macro_rules | `(tactic| walk_at "vm") => `(tactic| repeat (first | ((with_reducible refine v_modP ?c ?_); (case c => omega); (intro _ _ _)) | walk_at "v1"))
local macro_rules | `(tactic| walk_at "iv") => `(tactic| (try dsimp only; refine IV.mk (by assumption) (by assumption) ?_))
local macro_rules | `(tactic| walk_at "n") => `(tactic| dsimp only [List.set_cons_zero, List.set_cons_succ])
/-- a source of draws -/
abbrev SrcO (d sd c : Int) : HO := .lst [.int d, .int sd, .int c]
def sp_pick (K : PySem.W.Frag) : Sp := fun vs H Q _ => ∃ (B : Hp) (M : List (Addr × HO)) (a : Addr) (d sd c m : Int), vs = [.ref a, .int m] ∧ Hs B ((a, SrcO d sd c) :: M) H ∧ 0 < m ∧ m < 2 ^ 30 ∧
  ∀ (r d' c' : Int) (H' : Hp), 0 ≤ r → r < m → Hs B ((a, SrcO d' sd c') :: M) H' → Q (.int r) H'
def t_pick (K : PySem.W.Frag) : TS := (tSeq (tIfS (tTest (tOp rGtI (tOp (rIxL K) (tVar 0) (tC (.int 0))) (tC (.int 0)))) (tSeq (tAsg (tOp rModI (tCB rCInt (tCons (tOp (rIxL K) (tVar 0) (tC (.int 0))) tNil)) (tVar 1)) (gName 2))
    (tSeq (tAsg (tOp rFdvI (tOp (rIxL K) (tVar 0) (tC (.int 0))) (tVar 1)) (gSub (tVar 0) (tC (.int 0)) rSetL))
    (tRet (tVar 2)))) tNext)
    (tSeq (tAsg (tOp rAddI (tOp (rIxL K) (tVar 0) (tC (.int 2))) (tC (.int 1))) (gSub (tVar 0) (tC (.int 2)) rSetL))
    (tSeq (tAsg (tOp rModI (tCB rCInt (tCons (tOp rMulI (tOp rAddI (tOp (rIxL K) (tVar 0) (tC (.int 1))) (tOp rMulI (tC (.int 7919)) (tOp (rIxL K) (tVar 0) (tC (.int 2))))) (tC (.int 48271))) tNil)) (tC (.int 2147483647))) (gName 3))
    (tSeq (tAsg (tOp rModI (tCB rCInt (tCons (tOp rAddI (tOp rAddI (tOp rMulI (tVar 3) (tVar 3)) (tOp rMulI (tC (.int 69621)) (tOp (rIxL K) (tVar 0) (tC (.int 2))))) (tOp (rIxL K) (tVar 0) (tC (.int 1)))) tNil)) (tC (.int 2147483629))) (gName 3))
    (tSeq (tAsg (tOp rModI (tCB rCInt (tCons (tOp rAddI (tOp rMulI (tVar 3) (tC (.int 16807))) (tC (.int 11))) tNil)) (tC (.int 2147483647))) (gName 3))
    (tSeq (tAsg (tOp rModI (tCB rCInt (tCons (tOp rAddI (tOp rMulI (tVar 3) (tVar 3)) (tVar 3)) tNil)) (tC (.int 2147483587))) (gName 3))
    (tRet (tOp rModI (tCB rCInt (tCons (tOp rFdvI (tVar 3) (tC (.int 3))) tNil)) (tVar 1)))))))))
theorem pure_pick {K : PySem.W.Frag} (vs : List V) (H : Hp) (Q : VK) (E : XK) (h : sp_pick K vs H Q E) : t_pick K { nx := fun _ H' => Q .non H', rt := Q } (start n_pick vs) H := by
  obtain ⟨B, M, a, d, sd, c, m, rfl, hs, m0, m1, q⟩ := h
  show t_pick K _ [some (V.ref a), some (V.int m), none, none] H
  unfold t_pick
  have e0 : H a = some (.lst [.int d, .int sd, .int c]) := hs.hd
  have l0 : SqL K H a [.int d, .int sd, .int c] := SqL.of e0
  walk_at "v"
  refine ite2 (fun c0 => ?_) (fun c0 => ?_)
  · walk_at "v"
    refine v_setL (j := 0) e0 rfl ?_
    walk_at "v"
    exact q _ (d.fdiv m) c _ (Int.fmod_nonneg_of_pos _ m0) (Int.fmod_lt_of_pos _ m0) (hs.wr _)
  · walk_at "v"
    refine v_setLE (j := 2) (ys := [.int d, .int sd, .int (c + 1)]) e0 rfl rfl ?_
    have hs2 := hs.wr (.lst [.int d, .int sd, .int (c + 1)])
    have e2 := hs2.hd
    have l2 : SqL K (upd H a (.lst [.int d, .int sd, .int (c + 1)])) a [.int d, .int sd, .int (c + 1)] := SqL.of e2
    generalize upd H a (.lst [.int d, .int sd, .int (c + 1)]) = H2 at hs2 e2 l2 ⊢
    walk_at "vm"
    exact q _ d (c + 1) H2 (by omega) (by omega) hs2
section
variable {P : Program} {w : World} {K : PySem.W.Frag} {mg : Str → Option Value} {base : Heap}
theorem ok_pick (T : Txt K mg w) : FnOk P w K mg base CX0 1 T.a_pick T.fd_pick ["_law_source_here", "_law_many"] (sp_pick K) := by
  refine T.F_pick.ok sc_pick (fun vs H Q E h => ?_) (fun cdv A outer s H vs Q E hr h => ⟨t_pick K, ?_, pure_pick vs H Q E h⟩)
  · obtain ⟨B, M, a, d, sd, c, m, rfl, _⟩ := h
    rfl
  · exact (pss_cons (ps_if (pt_cmpR op_gt (pe_ix ix_list (pv 0) pe_int (fun _ _ => rfl)) pe_int (nomark _)) (pss_cons (ps_set (i := 2) sc_pick.nd rfl (by first | exact Or.inl rfl | exact Or.inr rfl) (pe_op op_modN (pe_callTy call_int1 (by rfl) (T.free_int) (by decide +kernel) (pa_cons (pe_ix ix_list (pv 0) pe_int (fun _ _ => rfl)) pa_nil)) (pv 1)))
      (pss_cons (ps_asg (pe_op op_fdivN (pe_ix ix_list (pv 0) pe_int (fun _ _ => rfl)) (pv 1)) (pg_sub (pv 0) pe_int set_list))
      (pss_one (ps_ret (pv 2))))) pss_nil)
      (pss_cons (ps_asg (pe_op op_add (pe_ix ix_list (pv 0) pe_int (fun _ _ => rfl)) pe_int) (pg_sub (pv 0) pe_int set_list))
      (pss_cons (ps_set (i := 3) sc_pick.nd rfl (by first | exact Or.inl rfl | exact Or.inr rfl) (pe_op op_modN (pe_callTy call_int1 (by rfl) (T.free_int) (by decide +kernel) (pa_cons (pe_op op_mul (pe_op op_add (pe_ix ix_list (pv 0) pe_int (fun _ _ => rfl)) (pe_op op_mul pe_int (pe_ix ix_list (pv 0) pe_int (fun _ _ => rfl)))) pe_int) pa_nil)) pe_int))
      (pss_cons (ps_set (i := 3) sc_pick.nd rfl (by first | exact Or.inl rfl | exact Or.inr rfl) (pe_op op_modN (pe_callTy call_int1 (by rfl) (T.free_int) (by decide +kernel) (pa_cons (pe_op op_add (pe_op op_add (pe_op op_mul (pv 3) (pv 3)) (pe_op op_mul pe_int (pe_ix ix_list (pv 0) pe_int (fun _ _ => rfl)))) (pe_ix ix_list (pv 0) pe_int (fun _ _ => rfl))) pa_nil)) pe_int))
      (pss_cons (ps_set (i := 3) sc_pick.nd rfl (by first | exact Or.inl rfl | exact Or.inr rfl) (pe_op op_modN (pe_callTy call_int1 (by rfl) (T.free_int) (by decide +kernel) (pa_cons (pe_op op_add (pe_op op_mul (pv 3) pe_int) pe_int) pa_nil)) pe_int))
      (pss_cons (ps_set (i := 3) sc_pick.nd rfl (by first | exact Or.inl rfl | exact Or.inr rfl) (pe_op op_modN (pe_callTy call_int1 (by rfl) (T.free_int) (by decide +kernel) (pa_cons (pe_op op_add (pe_op op_mul (pv 3) (pv 3)) (pv 3)) pa_nil)) pe_int))
      (pss_one (ps_ret (pe_op op_modN (pe_callTy call_int1 (by rfl) (T.free_int) (by decide +kernel) (pa_cons (pe_op op_fdivN (pv 3) pe_int) pa_nil)) (pv 1))))))))))
end
end K71
set_option Elab.async false
set_option linter.all false
set_option maxRecDepth 100000
set_option maxHeartbeats 4000000
namespace K71
open PySem PySem.Spec PyProof.Rows L2 Sh
open SX (S)
local macro_rules | `(tactic| walk_at "v1") => `(tactic| first
  | with_reducible refine v_seq ?_ | with_reducible refine v_asg ?_ | ((with_reducible refine' v_name ?e ?_); (case e => exact rfl)) | with_reducible refine v_ret ?_ | with_reducible refine v_drop ?_ | with_reducible refine v_next ?_
  | with_reducible refine v_if ?_ | with_reducible refine v_op ?_ | with_reducible refine v_c ?_ | ((with_reducible refine' v_var ?e ?_); (case e => exact rfl))
  | with_reducible refine v_I0 ?_ | with_reducible refine v_test ?_ | with_reducible refine v_B ?_ | with_reducible refine v_bl ?_ | with_reducible refine v_not ?_ | with_reducible refine v_and ?_ | with_reducible refine v_or ?_
  | with_reducible refine v_andV ?_ | with_reducible refine v_orV ?_ | with_reducible refine v_notV ?_ | with_reducible refine v_ife ?_
  | with_reducible refine v_nil ?_ | with_reducible refine v_cons ?_ | with_reducible refine v_tup ?_ | with_reducible refine v_lst ?_ | with_reducible refine v_call ?_ | with_reducible refine v_cb ?_ | with_reducible refine v_int ?_ | with_reducible refine v_abs ?_
  | ((with_reducible refine' v_eq ?e ?_); (case e => exact rfl)) | ((with_reducible refine' v_ne ?e ?_); (case e => exact rfl)) | with_reducible refine v_sub ?_ | with_reducible refine v_isN ?_ | with_reducible refine v_notN ?_
  | with_reducible refine v_part ?_ | with_reducible refine v_nopart ?_ | with_reducible refine v_pint ?_ | with_reducible refine v_inSg ?_ | with_reducible refine v_notInSg ?_
  | ((with_reducible refine' v_ixL ?l ?a ?_); (case l => assumption); (case a => exact at_lit _ rfl)) | ((with_reducible refine' v_ixT ?l ?a ?_); (case l => assumption); (case a => exact at_lit _ rfl))
  | ((with_reducible refine v_I ?c ?_); (case c => (first | omega | (unfold CMul; omega) | (unfold CDivN; omega) | (unfold CPow; omega))))
  | with_reducible refine v_for ?_ | with_reducible refine v_iList ?_ | with_reducible refine v_iTup ?_ | with_reducible refine v_iStr ?_ | with_reducible refine v_iR1 ?_ | with_reducible refine v_iR2 ?_ | with_reducible refine v_atS ?_ | with_reducible refine v_sl ?_ | with_reducible refine v_lc ?_ | with_reducible refine v_yes ?_
  | with_reducible refine v_m1 ?_ | with_reducible refine v_m1S ?_ | with_reducible refine v_bm ?_ | with_reducible refine v_bm0 ?_ | with_reducible refine v_dnewK ?_ | with_reducible refine v_dnewT ?_ | with_reducible refine v_dget ?_ | with_reducible refine v_din ?_ | with_reducible refine v_dnotin ?_ | with_reducible refine v_dput ?_ | with_reducible refine v_chain ?_ | with_reducible refine v_un ?_ | with_reducible refine v_neg ?_
  | with_reducible refine v_brk ?_ | with_reducible refine v_cont ?_)
local macro_rules | `(tactic| walk_at "v") => `(tactic| repeat (walk_at "v1"))
local macro_rules | `(tactic| walk_at "vm") => `(tactic| repeat (first | ((with_reducible refine v_modP ?c ?_); (case c => omega); (intro _ _ _)) | walk_at "v1"))
local macro_rules | `(tactic| walk_at "iv") => `(tactic| (try dsimp only; refine IV.mk (by assumption) (by assumption) ?_))
local macro_rules | `(tactic| walk_at "n") => `(tactic| dsimp only [List.set_cons_zero, List.set_cons_succ])
theorem bits_le {i : Int} {n : Nat} (h : Builtin.Int.intBits i ≤ n) : i.natAbs < 2 ^ n := by
  unfold Builtin.Int.intBits at h
  split at h
  · rename_i e
    have e' : i = 0 := by simpa using e
    subst e'
    simp
    exact Nat.pos_of_ne_zero (by simp)
  · exact (Nat.log2_lt (by rename_i e; intro z; apply e; simp; omega)).mp (by omega)
theorem bits_of {i : Int} {n : Nat} (h : i.natAbs < 2 ^ n) : Builtin.Int.intBits i ≤ n := by
  unfold Builtin.Int.intBits
  split
  · omega
  · rename_i e
    have e' : i.natAbs ≠ 0 := by intro z; apply e; simp; omega
    have := (Nat.log2_lt e').mpr h
    omega
theorem bits_half {i : Int} {n k : Nat} (h0 : 0 ≤ i) (h : Builtin.Int.intBits i ≤ n) : Builtin.Int.intBits (i / 2 ^ k) ≤ n := by
  refine bits_of (Nat.lt_of_le_of_lt ?_ (bits_le h))
  obtain ⟨m, rfl⟩ := Int.eq_ofNat_of_zero_le h0
  have e : ((m : Int) / 2 ^ k) = ((m / 2 ^ k : Nat) : Int) := by simp
  rw [e]
  simp only [Int.natAbs_natCast]
  exact Nat.div_le_self _ _
theorem bits_abs {i : Int} : Builtin.Int.intBits (if i < 0 then -i else i) = Builtin.Int.intBits i := by
  by_cases h : i < 0
  · rw [if_pos h]
    unfold Builtin.Int.intBits
    simp
  · rw [if_neg h]
theorem abs_pos (i : Int) : 0 ≤ (if i < 0 then -i else i) := by split <;> omega
def sp_source (K : PySem.W.Frag) : Sp := fun vs H Q _ => ∃ (B : Hp) (M : List (Addr × HO)) (a : Addr) (ns : List Int) (pl : Int), vs = [.ref a, .int pl] ∧ Hs B M H ∧ SqL K B a (ns.map V.int) ∧ ns.length ≤ 63 ∧ (∀ z ∈ ns, Builtin.Int.intBits z ≤ 1048576) ∧ 0 ≤ pl ∧ pl ≤ 100 ∧
  ∀ (p : Addr) (d sd c : Int) (H' : Hp), Hs B ((p, SrcO d sd c) :: M) H' → Q (.ref p) H'
def t_source (K : PySem.W.Frag) : TS := (tSeq (tAsg (tIf (tTest (tOp rLtI (tVar 1) (tCB (rCLen K) (tCons (tVar 0) tNil)))) (tOp (rIxL K) (tVar 0) (tVar 1)) (tOp rAddI (tOp rMulI (tC (.int 5)) (tVar 1)) (tC (.int 3)))) (gName 2))
    (tSeq (tAsg (tOp rAddI (tOp rMulI (tC (.int 1009)) (tVar 1)) (tC (.int 17))) (gName 3))
    (tSeq (tFor (iList K (tSl (rSlL K) (tVar 0) tNoPart (tPart (tC (.int 3))))) (gName 4) (tAsg (tOp rModI (tCB rCInt (tCons (tOp rAddI (tOp rMulI (tVar 3) (tC (.int 31))) (tOp rModI (tCB rCInt (tCons (tVar 4) tNil)) (tC (.int 2147483629)))) tNil)) (tC (.int 2147483629))) (gName 3)))
    (tSeq (tAsg (tOp rModI (tCB rCInt (tCons (tOp rAddI (tOp rMulI (tVar 3) (tC (.int 31))) (tOp rModI (tCB rCInt (tCons (tVar 2) tNil)) (tC (.int 2147483587)))) tNil)) (tC (.int 2147483629))) (gName 3))
    (tSeq (tAsg (tCB rCAbs (tCons (tVar 2) tNil)) (gName 5))
    (tSeq (tIfS (tTest (tOp rLtI (tVar 5) (tOp rPowI (tC (.int 10)) (tC (.int 18))))) (tRet (tLst (tCons (tC (.int 0)) (tCons (tVar 3) (tCons (tC (.int 0)) tNil))))) tNext)
    (tSeq (tIfS (tTest (tOp rGtI (tOp rShrI (tVar 5) (tC (.int 3000))) (tC (.int 0)))) (tAsg (tOp rSubI (tVar 5) (tOp rShlI (tOp rShrI (tVar 5) (tC (.int 3000))) (tC (.int 3000)))) (gName 5)) tNext)
    (tRet (tLst (tCons (tVar 5) (tCons (tVar 3) (tCons (tC (.int 0)) tNil))))))))))))
theorem pure_source {K : PySem.W.Frag} (vs : List V) (H : Hp) (Q : VK) (E : XK) (h : sp_source K vs H Q E) : t_source K { nx := fun _ H' => Q .non H', rt := Q } (start n_source vs) H := by
  obtain ⟨B, M, a, ns, pl, rfl, hs, hS, hl, hb, p0, p1, q⟩ := h
  show t_source K _ [some (V.ref a), some (V.int pl), none, none, none, none] H
  unfold t_source
  have l0 : SqL K H a (ns.map V.int) := hs.l hS
  refine v_seqP (fun σ' H' => Hs B M H' ∧ ∃ cell : Int, Builtin.Int.intBits cell ≤ 1048576 ∧ σ' = [some (V.ref a), some (V.int pl), some (V.int cell), none, none, none]) (fun N hN => ?_) ?_
  · walk_at "v"
    refine v_lenL l0 ?_
    walk_at "v"
    refine ite2 (fun c0 => ?_) (fun c0 => ?_)
    · have c1 := of_decide_eq_true c0
      have h2 : pl.toNat < ns.length := by
        rw [List.length_map] at c1
        omega
      walk_at "v"
      refine v_ixL (v := .int ns[pl.toNat]) l0 (at_of (j := pl.toNat) (by omega) ?_) ?_
      · rw [List.getElem?_map, List.getElem?_eq_getElem h2]
        rfl
      · walk_at "v"
        exact hN _ _ ⟨hs, _, hb _ (List.getElem_mem _), rfl⟩
    · walk_at "v"
      exact hN _ _ ⟨hs, _, bits_of (Nat.lt_of_lt_of_le (show (5 * pl + 3).natAbs < 2 ^ 20 by omega) (Nat.pow_le_pow_right (by decide) (by decide))), rfl⟩
  clear hs l0
  rintro _ H ⟨hs, cell, hcb, rfl⟩
  have l0 : SqL K H a (ns.map V.int) := hs.l hS
  walk_at "v"
  refine v_slL l0 (v_newB hs fun c B1 H1 l1 hs1 e1 => ?_)
  refine v_atL (SqL.of (hs1.sub _ _ e1)) ?_
  rw [show ((some 3 : Option Int)) = some ((3 : Nat) : Int) from rfl, cut_to, ← List.map_take] at e1
  refine v_forL (SqL.of e1) hs1 (fun i σ B' M' => M' = M ∧ ∃ sd y, σ = [some (V.ref a), some (V.int pl), some (V.int cell), some (V.int sd), y, none]) ⟨rfl, _, _, rfl⟩ ?_ ?_
  · rintro i x σ' B' M' H' hi hx l h ⟨rfl, sd, y, rfl⟩
    obtain ⟨z, hz, rfl⟩ := map_some hx
    walk_at "vm"
    walk_at "iv"
    exact ⟨rfl, _, _, rfl⟩
  · rintro σ' B' M' H' l h ⟨rfl, sd, y, rfl⟩
    have h := h.le (l1.trans l)
    walk_at "vm"
    refine ite2 (fun c0 => ?_) (fun c0 => ?_)
    · walk_at "v"
      refine v_size (by show 3 ≤ sizeLine; decide) (v_newM h fun p H2 h2 => ?_)
      exact q _ _ _ _ _ h2
    · walk_at "v"
      refine ite2 (fun c1 => ?_) (fun c1 => ?_)
      · walk_at "v"
        refine v_I ⟨by decide, ?_⟩ ?_
        · have hz := bits_half (k := 3000) (abs_pos cell) (Nat.le_trans (Nat.le_of_eq bits_abs) hcb)
          show ((Builtin.Int.intBits ((if cell < 0 then -cell else cell) / 2 ^ 3000) : Nat) : Int) + 3000 ≤ 2 ^ 27
          generalize (Builtin.Int.intBits ((if cell < 0 then -cell else cell) / 2 ^ 3000)) = bb at hz ⊢
          omega
        walk_at "v"
        refine v_size (by show 3 ≤ sizeLine; decide) (v_newM h fun p H2 h2 => ?_)
        exact q _ _ _ _ _ h2
      · walk_at "v"
        refine v_size (by show 3 ≤ sizeLine; decide) (v_newM h fun p H2 h2 => ?_)
        exact q _ _ _ _ _ h2
section
variable {P : Program} {w : World} {K : PySem.W.Frag} {mg : Str → Option Value} {base : Heap}
theorem ok_source (T : Txt K mg w) : FnOk P w K mg base CX0 1 T.a_source T.fd_source ["_law_script", "_law_place"] (sp_source K) := by
  refine T.F_source.ok sc_source (fun vs H Q E h => ?_) (fun cdv A outer s H vs Q E hr h => ⟨t_source K, ?_, pure_source vs H Q E h⟩)
  · obtain ⟨B, M, a, ns, pl, rfl, _⟩ := h
    rfl
  · exact (pss_cons (ps_set (i := 2) sc_source.nd rfl (by first | exact Or.inl rfl | exact Or.inr rfl) (pe_ifExp (pt_cmpR op_lt (pv 1) (pe_callB call_len (by rfl) (T.free_len) (by decide +kernel) (pa_cons (pv 0) pa_nil)) (nomark _)) (pe_ix ix_list (pv 0) (pv 1) (fun _ _ => rfl)) (pe_op op_add (pe_op op_mul pe_int (pv 1)) pe_int)))
      (pss_cons (ps_set (i := 3) sc_source.nd rfl (by first | exact Or.inl rfl | exact Or.inr rfl) (pe_op op_add (pe_op op_mul pe_int (pv 1)) pe_int))
      (pss_cons (ps_for PassesOwn.never rfl (pi_list (pe_slice sl_list (pv 0) po_none (po_some pe_int))) (pg_name (i := 4) sc_source.nd rfl (by first | exact Or.inl rfl | exact Or.inr rfl)) (pss_one (ps_set (i := 3) sc_source.nd rfl (by first | exact Or.inl rfl | exact Or.inr rfl) (pe_op op_modN (pe_callTy call_int1 (by rfl) (T.free_int) (by decide +kernel) (pa_cons (pe_op op_add (pe_op op_mul (pv 3) pe_int) (pe_op op_modN (pe_callTy call_int1 (by rfl) (T.free_int) (by decide +kernel) (pa_cons (pv 4) pa_nil)) pe_int)) pa_nil)) pe_int))))
      (pss_cons (ps_set (i := 3) sc_source.nd rfl (by first | exact Or.inl rfl | exact Or.inr rfl) (pe_op op_modN (pe_callTy call_int1 (by rfl) (T.free_int) (by decide +kernel) (pa_cons (pe_op op_add (pe_op op_mul (pv 3) pe_int) (pe_op op_modN (pe_callTy call_int1 (by rfl) (T.free_int) (by decide +kernel) (pa_cons (pv 2) pa_nil)) pe_int)) pa_nil)) pe_int))
      (pss_cons (ps_set (i := 5) sc_source.nd rfl (by first | exact Or.inl rfl | exact Or.inr rfl) (pe_callB call_abs (by rfl) (T.free_abs) (by decide +kernel) (pa_cons (pv 2) pa_nil)))
      (pss_cons (ps_if (pt_cmpR op_lt (pv 5) (pe_op op_pow pe_int pe_int) (nomark _)) (pss_one (ps_ret (pe_lst (pa_cons pe_int (pa_cons (pv 3) (pa_cons pe_int pa_nil)))))) pss_nil)
      (pss_cons (ps_if (pt_cmpR op_gt (pe_op op_shr (pv 5) pe_int) pe_int (nomark _)) (pss_one (ps_set (i := 5) sc_source.nd rfl (by first | exact Or.inl rfl | exact Or.inr rfl) (pe_op op_sub (pv 5) (pe_op op_shlW (pe_op op_shr (pv 5) pe_int) pe_int)))) pss_nil)
      (pss_one (ps_ret (pe_lst (pa_cons (pv 5) (pa_cons (pv 3) (pa_cons pe_int pa_nil)))))))))))))
end
end K71
set_option Elab.async false
set_option linter.all false
set_option maxRecDepth 100000
set_option maxHeartbeats 4000000
namespace K71
open PySem PySem.Spec PyProof.Rows L2 Sh
open SX (S)
local macro_rules | `(tactic| walk_at "v1") => `(tactic| first
  | with_reducible refine v_seq ?_ | with_reducible refine v_asg ?_ | ((with_reducible refine' v_name ?e ?_); (case e => exact rfl)) | with_reducible refine v_ret ?_ | with_reducible refine v_drop ?_ | with_reducible refine v_next ?_
  | with_reducible refine v_if ?_ | with_reducible refine v_op ?_ | with_reducible refine v_c ?_ | ((with_reducible refine' v_var ?e ?_); (case e => exact rfl))
  | with_reducible refine v_I0 ?_ | with_reducible refine v_test ?_ | with_reducible refine v_B ?_ | with_reducible refine v_bl ?_ | with_reducible refine v_not ?_ | with_reducible refine v_and ?_ | with_reducible refine v_or ?_
  | with_reducible refine v_andV ?_ | with_reducible refine v_orV ?_ | with_reducible refine v_notV ?_ | with_reducible refine v_ife ?_
  | with_reducible refine v_nil ?_ | with_reducible refine v_cons ?_ | with_reducible refine v_tup ?_ | with_reducible refine v_lst ?_ | with_reducible refine v_call ?_ | with_reducible refine v_cb ?_ | with_reducible refine v_int ?_ | with_reducible refine v_abs ?_
  | ((with_reducible refine' v_eq ?e ?_); (case e => exact rfl)) | ((with_reducible refine' v_ne ?e ?_); (case e => exact rfl)) | with_reducible refine v_sub ?_ | with_reducible refine v_isN ?_ | with_reducible refine v_notN ?_
  | with_reducible refine v_part ?_ | with_reducible refine v_nopart ?_ | with_reducible refine v_pint ?_ | with_reducible refine v_inSg ?_ | with_reducible refine v_notInSg ?_
  | ((with_reducible refine' v_ixL ?l ?a ?_); (case l => assumption); (case a => exact at_lit _ rfl)) | ((with_reducible refine' v_ixT ?l ?a ?_); (case l => assumption); (case a => exact at_lit _ rfl))
  | ((with_reducible refine v_I ?c ?_); (case c => (first | omega | (unfold CMul; omega) | (unfold CDivN; omega) | (unfold CPow; omega))))
  | with_reducible refine v_for ?_ | with_reducible refine v_iList ?_ | with_reducible refine v_iTup ?_ | with_reducible refine v_iStr ?_ | with_reducible refine v_iR1 ?_ | with_reducible refine v_iR2 ?_ | with_reducible refine v_atS ?_ | with_reducible refine v_sl ?_ | with_reducible refine v_lc ?_ | with_reducible refine v_yes ?_
  | with_reducible refine v_m1 ?_ | with_reducible refine v_m1S ?_ | with_reducible refine v_bm ?_ | with_reducible refine v_bm0 ?_ | with_reducible refine v_dnewK ?_ | with_reducible refine v_dnewT ?_ | with_reducible refine v_dget ?_ | with_reducible refine v_din ?_ | with_reducible refine v_dnotin ?_ | with_reducible refine v_dput ?_ | with_reducible refine v_chain ?_ | with_reducible refine v_un ?_ | with_reducible refine v_neg ?_
  | with_reducible refine v_brk ?_ | with_reducible refine v_cont ?_)
local macro_rules | `(tactic| walk_at "v") => `(tactic| repeat (walk_at "v1"))
local macro_rules | `(tactic| walk_at "vm") => `(tactic| repeat (first | ((with_reducible refine v_modP ?c ?_); (case c => omega); (intro _ _ _)) | walk_at "v1"))
local macro_rules | `(tactic| walk_at "iv") => `(tactic| (try dsimp only; refine IV.mk (by assumption) (by assumption) ?_))
local macro_rules | `(tactic| walk_at "n") => `(tactic| dsimp only [List.set_cons_zero, List.set_cons_succ])
def sp_word (K : PySem.W.Frag) : Sp := fun vs H Q _ => ∃ (B : Hp) (M : List (Addr × HO)) (a : Addr) (d sd c : Int) (al : List Nat) (most : Int), vs = [.ref a, .str (S al), .int most] ∧ Hs B ((a, SrcO d sd c) :: M) H ∧ 1 ≤ al.length ∧ al.length ≤ 8 ∧ 0 ≤ most ∧ most ≤ 100 ∧
  ∀ (r : List Nat) (d' c' : Int) (B' H' : Hp), Le B B' → (∀ x ∈ r, x ∈ al) → (r.length : Int) ≤ most → Hs B' ((a, SrcO d' sd c') :: M) H' → Q (.str (S r)) H'
def t_word (K : PySem.W.Frag) : TS := (tSeq (tAsg (tCall (sp_pick K) [] E0 (tCons (tVar 0) (tCons (tOp rAddI (tVar 2) (tC (.int 1))) tNil))) (gName 3))
    (tRet (tM1 (rJoin K) (tC (.str "")) (tLc (iRng1 (tCons (tVar 3) tNil)) (gName 4) tYes (tOp rIxS (tVar 1) (tCall (sp_pick K) [] E0 (tCons (tVar 0) (tCons (tCB (rCLen K) (tCons (tVar 1) tNil)) tNil)))) [4]))))
theorem pure_word {K : PySem.W.Frag} (vs : List V) (H : Hp) (Q : VK) (E : XK) (h : sp_word K vs H Q E) : t_word K { nx := fun _ H' => Q .non H', rt := Q } (start n_word vs) H := by
  obtain ⟨B, M, a, d, sd, c, al, most, rfl, hs, a1, a8, m0, m1, q⟩ := h
  show t_word K _ [some (V.ref a), some (V.str (S al)), some (V.int most), none, none] H
  unfold t_word
  walk_at "v"
  refine ⟨B, M, a, d, sd, c, _, rfl, hs, by omega, by omega, fun n d' c' H' n0 n1 hs' => ?_⟩
  clear hs
  walk_at "v"
  refine v_atR1 (by omega) ?_
  refine v_lcR hs' (fun i acc B' M' => ∃ d c, M' = (a, SrcO d sd c) :: M ∧ ∃ l : List Nat, acc = l.map (fun c => V.str (S [c])) ∧ (∀ x ∈ l, x ∈ al) ∧ l.length = i) ⟨_, _, rfl, [], rfl, by simp, rfl⟩ ?_ ?_
  · rintro i p acc B1 M1 H1 hi ha l1 h1 ⟨d1, c1, rfl, l, rfl, hl, rfl⟩
    walk_at "v"
    refine ⟨rfl, ?_⟩
    walk_at "v"
    refine iteT ?_
    walk_at "v"
    refine v_lenS (by rw [S_length]; exact sz_of (by omega)) ?_
    walk_at "v"
    refine ⟨B1, _, a, d1, sd, c1, _, rfl, h1.sw, by rw [S_length]; omega, by rw [S_length]; omega, fun k d2 c2 H2 k0 k1 h2 => ?_⟩
    rw [S_length] at k1
    have hk : k.toNat < al.length := by omega
    have h3 : atI (S al).cps.toList k = some al[k.toNat] := at_k k0 (List.getElem?_eq_getElem hk)
    refine v_ixS (by rw [S_length]; exact sz_of (by omega)) h3 ?_
    refine IE.mk ha hi (by omega) l1 h2.sw ?_
    refine ⟨_, _, rfl, l ++ [al[k.toNat]], by simp, fun x hx => ?_, by simp⟩
    rcases List.mem_append.mp hx with hx | hx
    · exact hl x hx
    · rw [List.mem_singleton.mp hx]
      exact List.getElem_mem _
  · rintro p acc B1 M1 H1 ha l1 h1 ⟨d1, c1, rfl, l, rfl, hl, hn⟩
    walk_at "v"
    refine v_join (SqL.of h1.hd) (by omega) ?_
    exact q l d1 c1 B1 H1 l1 hl (by omega) h1.drop
section
variable {P : Program} {w : World} {K : PySem.W.Frag} {mg : Str → Option Value} {base : Heap}
theorem ok_word (T : Txt K mg w) : FnOk P w K mg base CX0 2 T.a_word T.fd_word ["_law_source_here", "_law_alphabet", "_law_most"] (sp_word K) := by
  refine T.F_word.ok sc_word (fun vs H Q E h => ?_) (fun cdv A outer s H vs Q E hr h => ⟨t_word K, ?_, pure_word vs H Q E h⟩)
  · obtain ⟨B, M, a, d, sd, c, al, m, rfl, _⟩ := h
    rfl
  · exact (pss_cons (ps_set (i := 3) sc_word.nd rfl (by first | exact Or.inl rfl | exact Or.inr rfl) (pe_call (ok_pick T) hr (by rfl) T.g_pick T.F_pick.kp T.b_pick .nil pass0 (pa_cons (pv 0) (pa_cons (pe_op op_add (pv 2) pe_int) pa_nil))))
      (pss_one (ps_ret (pe_join pe_str (pe_lc (own := [("_law_k", 4)]) (g := (gName 4)) (tt := tYes) rfl sc_word.nd (pi_range1 (by rfl) (T.free_range) (pa_cons (pv 3) pa_nil)) (blkOk_by (own := [("_law_k", 4)]) (N := n_word) (sc := defScope s_word) (by decide +kernel)) (fun _ _ _ _ _ => (pg_name (i := 4) sc_word.nd rfl (Or.inl rfl))) (fun _ _ _ _ _ => pts_nil) (fun _ _ _ _ _ => (pe_ix ix_str (pv 1) (pe_call (ok_pick T) hr (by rfl) T.g_pick T.F_pick.kp T.b_pick .nil pass0 (pa_cons (pv 0) (pa_cons (pe_callB call_len (by rfl) (T.free_len) (by decide +kernel) (pa_cons (pv 1) pa_nil)) pa_nil))) (fun _ _ => rfl))))))))
end
end K71
set_option Elab.async false
set_option linter.all false
set_option maxRecDepth 100000
set_option maxHeartbeats 4000000
namespace K71
open PySem PySem.Spec PyProof.Rows L2 Sh
open SX (S)
local macro_rules | `(tactic| walk_at "v1") => `(tactic| first
  | with_reducible refine v_seq ?_ | with_reducible refine v_asg ?_ | ((with_reducible refine' v_name ?e ?_); (case e => exact rfl)) | with_reducible refine v_ret ?_ | with_reducible refine v_drop ?_ | with_reducible refine v_next ?_
  | with_reducible refine v_if ?_ | with_reducible refine v_op ?_ | with_reducible refine v_c ?_ | ((with_reducible refine' v_var ?e ?_); (case e => exact rfl))
  | with_reducible refine v_I0 ?_ | with_reducible refine v_test ?_ | with_reducible refine v_B ?_ | with_reducible refine v_bl ?_ | with_reducible refine v_not ?_ | with_reducible refine v_and ?_ | with_reducible refine v_or ?_
  | with_reducible refine v_andV ?_ | with_reducible refine v_orV ?_ | with_reducible refine v_notV ?_ | with_reducible refine v_ife ?_
  | with_reducible refine v_nil ?_ | with_reducible refine v_cons ?_ | with_reducible refine v_tup ?_ | with_reducible refine v_lst ?_ | with_reducible refine v_call ?_ | with_reducible refine v_cb ?_ | with_reducible refine v_int ?_ | with_reducible refine v_abs ?_
  | ((with_reducible refine' v_eq ?e ?_); (case e => exact rfl)) | ((with_reducible refine' v_ne ?e ?_); (case e => exact rfl)) | with_reducible refine v_sub ?_ | with_reducible refine v_isN ?_ | with_reducible refine v_notN ?_
  | with_reducible refine v_part ?_ | with_reducible refine v_nopart ?_ | with_reducible refine v_pint ?_ | with_reducible refine v_inSg ?_ | with_reducible refine v_notInSg ?_
  | ((with_reducible refine' v_ixL ?l ?a ?_); (case l => assumption); (case a => exact at_lit _ rfl)) | ((with_reducible refine' v_ixT ?l ?a ?_); (case l => assumption); (case a => exact at_lit _ rfl))
  | ((with_reducible refine v_I ?c ?_); (case c => (first | omega | (unfold CMul; omega) | (unfold CDivN; omega) | (unfold CPow; omega))))
  | with_reducible refine v_for ?_ | with_reducible refine v_iList ?_ | with_reducible refine v_iTup ?_ | with_reducible refine v_iStr ?_ | with_reducible refine v_iR1 ?_ | with_reducible refine v_iR2 ?_ | with_reducible refine v_atS ?_ | with_reducible refine v_sl ?_ | with_reducible refine v_lc ?_ | with_reducible refine v_yes ?_
  | with_reducible refine v_m1 ?_ | with_reducible refine v_m1S ?_ | with_reducible refine v_bm ?_ | with_reducible refine v_bm0 ?_ | with_reducible refine v_dnewK ?_ | with_reducible refine v_dnewT ?_ | with_reducible refine v_dget ?_ | with_reducible refine v_din ?_ | with_reducible refine v_dnotin ?_ | with_reducible refine v_dput ?_ | with_reducible refine v_chain ?_ | with_reducible refine v_un ?_ | with_reducible refine v_neg ?_
  | with_reducible refine v_brk ?_ | with_reducible refine v_cont ?_)
local macro_rules | `(tactic| walk_at "v") => `(tactic| repeat (walk_at "v1"))
local macro_rules | `(tactic| walk_at "vm") => `(tactic| repeat (first | ((with_reducible refine v_modP ?c ?_); (case c => omega); (intro _ _ _)) | walk_at "v1"))
local macro_rules | `(tactic| walk_at "iv") => `(tactic| (try dsimp only; refine IV.mk (by assumption) (by assumption) ?_))
local macro_rules | `(tactic| walk_at "n") => `(tactic| dsimp only [List.set_cons_zero, List.set_cons_succ])
theorem v_pick {K : PySem.W.Frag} {B : Hp} {M : List (Addr × HO)} {a : Addr} {d sd c m : Int} {H : Hp} {Q : VK} {E : XK} (hs : Hs B ((a, SrcO d sd c) :: M) H) (m0 : 0 < m) (m1 : m < 2 ^ 30)
    (h : ∀ (r d' c' : Int) (H' : Hp), 0 ≤ r → r < m → Hs B ((a, SrcO d' sd c') :: M) H' → Q (.int r) H') : sp_pick K ([.ref a, .int m] ++ []) H Q E := ⟨B, M, a, d, sd, c, m, rfl, hs, m0, m1, h⟩
def sp_tense (K : PySem.W.Frag) : Sp := fun vs H Q _ => ∃ (B : Hp) (M : List (Addr × HO)) (a : Addr) (d sd c : Int) (al : List Nat) (n : Nat), vs = [.ref a, .str (S al), .int (n : Int)] ∧ Hs B ((a, SrcO d sd c) :: M) H ∧ 1 ≤ al.length ∧ al.length ≤ 8 ∧ n ≤ 100 ∧
  ∀ (ps : List Part) (v : V) (d' c' : Int) (B' H' : Hp), Le B B' → ps.length = n → WF al ps → Rp K B' v (sheetD true false ps) → Hs B' ((a, SrcO d' sd c') :: M) H' → Q v H'
def t_tense (K : PySem.W.Frag) : TS := (tSeq (tAsg (tLst (tCons (tC (.str "not")) (tCons (tC (.str "and")) (tCons (tC (.str "or")) (tCons (tC (.str "next")) (tCons (tC (.str "prev")) (tCons (tC (.str "until")) (tCons (tC (.str "since")) (tCons (tC (.str "until")) (tCons (tC (.str "since")) tNil)))))))))) (gName 3))
    (tSeq (tAsg (tLst tNil) (gName 4))
    (tSeq (tFor (iRng1 (tCons (tVar 2) tNil)) (gName 5) (tSeq (tAsg (tCall (sp_pick K) [] E0 (tCons (tVar 0) (tCons (tC (.int 12)) tNil))) (gName 6))
    (tIfS (tOr (tTest (tOp rEq (tVar 5) (tC (.int 0)))) (tAnd (tTest (tOp rLtI (tVar 6) (tC (.int 3)))) (tTest (tOp rLtI (tVar 5) (tOp rSubI (tVar 2) (tC (.int 1))))))) (tIfS (tTest (tOp rEq (tCall (sp_pick K) [] E0 (tCons (tVar 0) (tCons (tC (.int 7)) tNil))) (tC (.int 0)))) (tDrop (tBM K "list" rAppend (tVar 4) (tCons (tTup (tCons (tOp (rIxL K) (tLst (tCons (tC (.str "yes")) (tCons (tC (.str "no")) tNil))) (tCall (sp_pick K) [] E0 (tCons (tVar 0) (tCons (tC (.int 2)) tNil)))) tNil)) tNil))) (tDrop (tBM K "list" rAppend (tVar 4) (tCons (tTup (tCons (tC (.str "letter")) (tCons (tOp rIxS (tVar 1) (tCall (sp_pick K) [] E0 (tCons (tVar 0) (tCons (tCB (rCLen K) (tCons (tVar 1) tNil)) tNil)))) tNil))) tNil)))) (tSeq (tAsg (tOp (rIxL K) (tVar 3) (tOp rModI (tCB rCInt (tCons (tVar 6) tNil)) (tCB (rCLen K) (tCons (tVar 3) tNil)))) (gName 7))
    (tSeq (tAsg (tIf (tTest (tOp rGtI (tCall (sp_pick K) [] E0 (tCons (tVar 0) (tCons (tC (.int 3)) tNil))) (tC (.int 0)))) (tOp rSubI (tVar 5) (tC (.int 1))) (tCall (sp_pick K) [] E0 (tCons (tVar 0) (tCons (tVar 5) tNil)))) (gName 8))
    (tSeq (tAsg (tIf (tTest (tOp rEq (tCall (sp_pick K) [] E0 (tCons (tVar 0) (tCons (tC (.int 4)) tNil))) (tC (.int 0)))) (tOp rSubI (tVar 5) (tC (.int 1))) (tCall (sp_pick K) [] E0 (tCons (tVar 0) (tCons (tVar 5) tNil)))) (gName 9))
    (tIfS (tTest (tOp (rIn K false) (tVar 7) (tTup (tCons (tC (.str "not")) (tCons (tC (.str "next")) (tCons (tC (.str "prev")) tNil)))))) (tDrop (tBM K "list" rAppend (tVar 4) (tCons (tTup (tCons (tVar 7) (tCons (tVar 8) tNil))) tNil))) (tIfS (tTest (tOp rEq (tCall (sp_pick K) [] E0 (tCons (tVar 0) (tCons (tC (.int 2)) tNil))) (tC (.int 0)))) (tDrop (tBM K "list" rAppend (tVar 4) (tCons (tTup (tCons (tVar 7) (tCons (tVar 8) (tCons (tVar 9) tNil)))) tNil))) (tDrop (tBM K "list" rAppend (tVar 4) (tCons (tTup (tCons (tVar 7) (tCons (tVar 9) (tCons (tVar 8) tNil)))) tNil)))))))))))
    (tRet (tVar 4)))))
def wnm : U1 ⊕ U2 → Str | .inl u => u.nm | .inr u => u.nm
def menu9 : List V := ["not", "and", "or", "next", "prev", "until", "since", "until", "since"].map fun x : String => V.str x
theorem pure_tense {K : PySem.W.Frag} (vs : List V) (H : Hp) (Q : VK) (E : XK) (h : sp_tense K vs H Q E) : t_tense K { nx := fun _ H' => Q .non H', rt := Q } (start n_tense vs) H := by
  obtain ⟨B, M, a, d, sd, c, al, n, rfl, hs, a1, a8, hn, q⟩ := h
  show t_tense K _ [some (V.ref a), some (V.str (S al)), some (V.int n), none, none, none, none, none, none, none] H
  unfold t_tense
  walk_at "v"
  refine v_size (by show 9 ≤ sizeLine; decide) (v_newB hs fun m B1 H1 l1 hs1 e1 => ?_)
  walk_at "v"
  refine v_size (by show 0 ≤ sizeLine; decide) (v_newM hs1 fun t H2 hs2 => ?_)
  clear hs hs1 H1
  have hs3 := hs2.sw
  walk_at "v"
  refine v_atR1 (by omega) ?_
  refine v_forR hs3 (fun i σ B' M' => ∃ (d c : Int) (ps : List Part) (xs : List V) (y5 y6 y7 y8 y9 : Option V), M' = (a, SrcO d sd c) :: (t, .lst xs) :: M ∧ ps.length = i ∧ WF al ps ∧ RpAll K B' xs (ps.map (partD false)) ∧
    σ = [some (V.ref a), some (V.str (S al)), some (V.int n), some (V.ref m), some (V.ref t), y5, y6, y7, y8, y9]) ⟨d, c, [], [], _, _, _, _, _, rfl, rfl, WF.nil _, .nil, rfl⟩ ?_ ?_
  · rintro i σ' B2 M' H3 hi l2 h3 ⟨d1, c1, ps, xs, y5, y6, y7, y8, y9, rfl, hps, wf, hr, rfl⟩
    walk_at "v"
    refine v_pick h3 (by omega) (by omega) fun way d2 c2 H4 w0 w1 h4 => ?_
    clear h3
    (with_reducible refine v_name rfl ?_)
    walk_at "n"
    have fin : ∀ (B3 H5 : Hp) (d c : Int) (p : Part) (v : V) (y5 y6 y7 y8 y9 : Option V), Le B2 B3 → p.ok al i → Rp K B3 v (partD false p) → Hs B3 ((a, SrcO d sd c) :: (t, .lst (xs ++ [v])) :: M) H5 →
        IV B1 (fun i σ B' M' => ∃ (d c : Int) (ps : List Part) (xs : List V) (y5 y6 y7 y8 y9 : Option V), M' = (a, SrcO d sd c) :: (t, .lst xs) :: M ∧ ps.length = i ∧ WF al ps ∧ RpAll K B' xs (ps.map (partD false)) ∧
          σ = [some (V.ref a), some (V.str (S al)), some (V.int n), some (V.ref m), some (V.ref t), y5, y6, y7, y8, y9]) (i + 1) [some (V.ref a), some (V.str (S al)), some (V.int n), some (V.ref m), some (V.ref t), y5, y6, y7, y8, y9] H5 := by
      intro B3 H5 d c p v y5 y6 y7 y8 y9 l3 ok rp h5
      refine IV.mk (l2.trans l3) h5 ⟨d, c, ps ++ [p], xs ++ [v], y5, y6, y7, y8, y9, rfl, by simp [hps], wf.snoc (hps ▸ ok), ?_, rfl⟩
      rw [List.map_append]
      exact (hr.up l3).append (.one rp)
    have sx : xs.length ≤ 1000000 := by
      have := hr.length
      rw [List.length_map] at this
      omega
    refine v_ifC (fun b => b = false → 0 < i) (fun q hq => ?_) (fun _ => ?_) (fun hi0 => ?_)
    · walk_at "v"
      refine ite2 (fun c0 => ?_) (fun c0 => ?_)
      · exact hq _ (fun z => by cases z)
      · have i0 : 0 < i := Nat.pos_of_ne_zero fun z => c0 (by rw [z]; rfl)
        walk_at "v"
        refine ite2 (fun c1 => ?_) (fun c1 => ?_)
        · walk_at "v"
          exact hq _ fun _ => i0
        · exact hq _ fun _ => i0
    · walk_at "v"
      refine v_pick h4 (by omega) (by omega) fun r1 d3 c3 H5 r0 r1' h5 => ?_
      clear h4
      walk_at "v"
      refine ite2 (fun c1 => ?_) (fun c1 => ?_)
      · walk_at "v"
        refine v_bmL h5.sw.hd ?_
        walk_at "v"
        refine v_size (by show 2 ≤ sizeLine; decide) (v_newB h5 fun yn B3 H6 l3 h6 e6 => ?_)
        walk_at "v"
        refine v_pick h6 (by omega) (by omega) fun r2 d4 c4 H7 s0 s1 h7 => ?_
        refine v_ixL (h7.l (SqL.of e6)) (v := .str (cnm (decide (r2 = 0)))) ?_ ?_
        · have : r2 = 0 ∨ r2 = 1 := by omega
          rcases this with e | e <;> (subst e; rfl)
        walk_at "v"
        refine v_size (by show 1 ≤ sizeLine; decide) (v_newB h7 fun pt B4 H8 l4 h8 e8 => ?_)
        walk_at "v"
        refine v_appM2 h8 sx fun H9 h9 => ?_
        walk_at "v"
        exact fin B4 H9 d4 c4 (.c (decide (r2 = 0))) (.ref pt) _ _ _ _ _ (l3.trans l4) trivial (part_rp (show SqX K B4 false pt _ from e8)) h9
      · walk_at "v"
        refine v_bmL h5.sw.hd ?_
        walk_at "v"
        refine v_lenS (by rw [S_length]; exact sz_of (by omega)) ?_
        walk_at "v"
        refine v_pick h5 (by rw [S_length]; omega) (by rw [S_length]; omega) fun k d4 c4 H7 s0 s1 h7 => ?_
        rw [S_length] at s1
        have hk : k.toNat < al.length := by omega
        refine v_ixS (by rw [S_length]; exact sz_of (by omega)) (at_k s0 (List.getElem?_eq_getElem (show k.toNat < (S al).cps.toList.length from hk))) ?_
        walk_at "v"
        refine v_size (by show 2 ≤ sizeLine; decide) (v_newB h7 fun pt B4 H8 l4 h8 e8 => ?_)
        walk_at "v"
        refine v_appM2 h8 sx fun H9 h9 => ?_
        walk_at "v"
        exact fin B4 H9 d4 c4 (.letter al[k.toNat]) (.ref pt) _ _ _ _ _ l4 (List.getElem_mem _) (part_rp (show SqX K B4 false pt _ from e8)) h9
    · have i0 := hi0 rfl
      walk_at "v"
      refine v_lenL (h4.l (le_l l2 (SqL.of e1))) ?_
      walk_at "v"
      have hw : ∃ u : U1 ⊕ U2, [V.str "not", V.str "and", V.str "or", V.str "next", V.str "prev", V.str "until", V.str "since", V.str "until", V.str "since"][(way.fmod 9).toNat]? = some (V.str (wnm u)) := by
        have : way = 0 ∨ way = 1 ∨ way = 2 ∨ way = 3 ∨ way = 4 ∨ way = 5 ∨ way = 6 ∨ way = 7 ∨ way = 8 ∨ way = 9 ∨ way = 10 ∨ way = 11 := by omega
        rcases this with e | e | e | e | e | e | e | e | e | e | e | e <;> subst e
        · exact ⟨.inl .not, rfl⟩
        · exact ⟨.inr .and, rfl⟩
        · exact ⟨.inr .or, rfl⟩
        · exact ⟨.inl .next, rfl⟩
        · exact ⟨.inl .prev, rfl⟩
        · exact ⟨.inr .untl, rfl⟩
        · exact ⟨.inr .sinc, rfl⟩
        · exact ⟨.inr .untl, rfl⟩
        · exact ⟨.inr .sinc, rfl⟩
        · exact ⟨.inl .not, rfl⟩
        · exact ⟨.inr .and, rfl⟩
        · exact ⟨.inr .or, rfl⟩
      obtain ⟨u, hu⟩ := hw
      have f0 : 0 ≤ way.fmod 9 := Int.fmod_nonneg_of_pos _ (by decide)
      have f1 : way.fmod 9 < 9 := Int.fmod_lt_of_pos _ (by decide)
      refine v_I (show ((9 : Nat) : Int) ≠ 0 by decide) ?_
      show rIxL K (V.ref m) (V.int (way.fmod 9)) H4 _
      refine v_ixL (h4.l (le_l l2 (SqL.of e1))) (at_k f0 hu) ?_
      clear hu f0 f1
      (with_reducible refine v_name rfl ?_)
      walk_at "n"
      refine v_seqP (fun σ' H' => ∃ (one : Nat) (d c : Int), one < i ∧ Hs B2 ((a, SrcO d sd c) :: (t, .lst xs) :: M) H' ∧ σ' = [some (V.ref a), some (V.str (S al)), some (V.int n), some (V.ref m), some (V.ref t), some (V.int (0 + (i : Int))), some (V.int way), some (V.str (wnm u)), some (V.int (one : Int)), y9]) (fun N hN => ?_) ?_
      · walk_at "v"
        refine v_pick h4 (by omega) (by omega) fun r1 d3 c3 H5 r0 r1' h5 => ?_
        walk_at "v"
        refine ite2 (fun c1 => ?_) (fun c1 => ?_)
        · walk_at "v"
          refine hN _ _ ⟨i - 1, d3, c3, by omega, h5, ?_⟩
          walk_at "n"
          rw [show (0 + (i : Int) - 1) = ((i - 1 : Nat) : Int) by omega]
        · walk_at "v"
          refine v_pick h5 (by omega) (by omega) fun r2 d4 c4 H6 s0 s1 h6 => ?_
          walk_at "v"
          refine hN _ _ ⟨r2.toNat, d4, c4, by omega, h6, ?_⟩
          walk_at "n"
          rw [show r2 = ((r2.toNat : Nat) : Int) by omega]
          rfl
      clear h4
      rintro _ H5 ⟨one, d3, c3, ho1, h5, rfl⟩
      refine v_seqP (fun σ' H' => ∃ (two : Nat) (d c : Int), two < i ∧ Hs B2 ((a, SrcO d sd c) :: (t, .lst xs) :: M) H' ∧ σ' = [some (V.ref a), some (V.str (S al)), some (V.int n), some (V.ref m), some (V.ref t), some (V.int (0 + (i : Int))), some (V.int way), some (V.str (wnm u)), some (V.int (one : Int)), some (V.int (two : Int))]) (fun N hN => ?_) ?_
      · walk_at "v"
        refine v_pick h5 (by omega) (by omega) fun r1 d4 c4 H6 r0 r1' h6 => ?_
        walk_at "v"
        refine ite2 (fun c1 => ?_) (fun c1 => ?_)
        · walk_at "v"
          refine hN _ _ ⟨i - 1, d4, c4, by omega, h6, ?_⟩
          walk_at "n"
          rw [show (0 + (i : Int) - 1) = ((i - 1 : Nat) : Int) by omega]
        · walk_at "v"
          refine v_pick h6 (by omega) (by omega) fun r2 d5 c5 H7 s0 s1 h7 => ?_
          walk_at "v"
          refine hN _ _ ⟨r2.toNat, d5, c5, by omega, h7, ?_⟩
          walk_at "n"
          rw [show r2 = ((r2.toNat : Nat) : Int) by omega]
          rfl
      clear h5
      rintro _ H6 ⟨two, d4, c4, ho2, h6, rfl⟩
      walk_at "v"
      refine v_size (by show 3 ≤ sizeLine; decide) (v_newB h6 fun tp B3 H7 l3 h7 e7 => ?_)
      cases u with
      | inl u =>
        refine ⟨tp, _, rfl, .inr (h7.t (SqT.of e7)), rfl, by cases u <;> rfl, true, by cases u <;> rfl, iteT ?_⟩
        walk_at "v"
        refine v_bmL h7.sw.hd ?_
        walk_at "v"
        refine v_size (by show 2 ≤ sizeLine; decide) (v_newB h7 fun pt B4 H8 l4 h8 e8 => ?_)
        walk_at "v"
        refine v_appM2 h8 sx fun H9 h9 => ?_
        walk_at "v"
        exact fin B4 H9 d4 c4 (.un u one) (.ref pt) _ _ _ _ _ (l3.trans l4) ho1 (part_rp (show SqX K B4 false pt _ from e8)) h9
      | inr u =>
        refine ⟨tp, _, rfl, .inr (h7.t (SqT.of e7)), rfl, by cases u <;> rfl, false, by cases u <;> rfl, iteF ?_⟩
        walk_at "v"
        refine v_pick h7 (by omega) (by omega) fun r1 d5 c5 H8 r0 r1' h8 => ?_
        walk_at "v"
        refine ite2 (fun c1 => ?_) (fun c1 => ?_)
        · walk_at "v"
          refine v_bmL h8.sw.hd ?_
          walk_at "v"
          refine v_size (by show 3 ≤ sizeLine; decide) (v_newB h8 fun pt B4 H9 l4 h9 e9 => ?_)
          walk_at "v"
          refine v_appM2 h9 sx fun H10 h10 => ?_
          walk_at "v"
          exact fin B4 H10 d5 c5 (.bin u one two) (.ref pt) _ _ _ _ _ (l3.trans l4) ⟨ho1, ho2⟩ (part_rp (show SqX K B4 false pt _ from e9)) h10
        · walk_at "v"
          refine v_bmL h8.sw.hd ?_
          walk_at "v"
          refine v_size (by show 3 ≤ sizeLine; decide) (v_newB h8 fun pt B4 H9 l4 h9 e9 => ?_)
          walk_at "v"
          refine v_appM2 h9 sx fun H10 h10 => ?_
          walk_at "v"
          exact fin B4 H10 d5 c5 (.bin u two one) (.ref pt) _ _ _ _ _ (l3.trans l4) ⟨ho2, ho1⟩ (part_rp (show SqX K B4 false pt _ from e9)) h10
  · rintro σ' B2 M' H3 l2 h3 ⟨d1, c1, ps, xs, y5, y6, y7, y8, y9, rfl, hps, wf, hr, rfl⟩
    walk_at "v"
    obtain ⟨h4, l4⟩ := h3.sw.fix
    refine q ps (.ref t) d1 c1 _ _ ((l1.trans l2).trans l4) (by rw [hps]; omega) wf ?_ h4
    exact mk_rp (show SqX K _ true t xs from SqL.of upd_same) (hr.up l4)
section
variable {P : Program} {w : World} {K : PySem.W.Frag} {mg : Str → Option Value} {base : Heap}
theorem ok_tense (T : Txt K mg w) : FnOk P w K mg base CX0 2 T.a_tense T.fd_tense ["_law_source_here", "_law_alphabet", "_law_parts"] (sp_tense K) := by
  refine T.F_tense.ok sc_tense (fun vs H Q E h => ?_) (fun cdv A outer s H vs Q E hr h => ⟨t_tense K, ?_, pure_tense vs H Q E h⟩)
  · obtain ⟨B, M, a, d, sd, c, al, n, rfl, _⟩ := h
    rfl
  · exact (pss_cons (ps_set (i := 3) sc_tense.nd rfl (by first | exact Or.inl rfl | exact Or.inr rfl) (pe_lst (pa_cons pe_str (pa_cons pe_str (pa_cons pe_str (pa_cons pe_str (pa_cons pe_str (pa_cons pe_str (pa_cons pe_str (pa_cons pe_str (pa_cons pe_str pa_nil)))))))))))
      (pss_cons (ps_set (i := 4) sc_tense.nd rfl (by first | exact Or.inl rfl | exact Or.inr rfl) (pe_lst pa_nil))
      (pss_cons (ps_for PassesOwn.never rfl (pi_range1 (by rfl) (T.free_range) (pa_cons (pv 2) pa_nil)) (pg_name (i := 5) sc_tense.nd rfl (by first | exact Or.inl rfl | exact Or.inr rfl)) (pss_cons (ps_set (i := 6) sc_tense.nd rfl (by first | exact Or.inl rfl | exact Or.inr rfl) (pe_call (ok_pick T) hr (by rfl) T.g_pick T.F_pick.kp T.b_pick .nil pass0 (pa_cons (pv 0) (pa_cons pe_int pa_nil))))
      (pss_one (ps_if (PW.pt (pw_or (pt_cmpR op_eq (pv 5) pe_int (nomark _)) (pw_or1 (PW.pt (pw_and (pt_cmpR op_lt (pv 6) pe_int (nomark _)) (pw_and1 (pt_cmpR op_lt (pv 5) (pe_op op_sub (pv 2) pe_int) (nomark _)))))))) (pss_one (ps_if (pt_cmpR op_eq (pe_call (ok_pick T) hr (by rfl) T.g_pick T.F_pick.kp T.b_pick .nil pass0 (pa_cons (pv 0) (pa_cons pe_int pa_nil))) pe_int (nomark _)) (pss_one (ps_expr (pe_bm PySem.F.plainAttrs_list PySem.F.slot_list_append PySem.F.type_list_append mt_append (pv 4) (pa_cons (pe_tup (pa_cons (pe_ix ix_list (pe_lst (pa_cons pe_str (pa_cons pe_str pa_nil))) (pe_call (ok_pick T) hr (by rfl) T.g_pick T.F_pick.kp T.b_pick .nil pass0 (pa_cons (pv 0) (pa_cons pe_int pa_nil))) (fun _ _ => rfl)) pa_nil)) pa_nil)))) (pss_one (ps_expr (pe_bm PySem.F.plainAttrs_list PySem.F.slot_list_append PySem.F.type_list_append mt_append (pv 4) (pa_cons (pe_tup (pa_cons pe_str (pa_cons (pe_ix ix_str (pv 1) (pe_call (ok_pick T) hr (by rfl) T.g_pick T.F_pick.kp T.b_pick .nil pass0 (pa_cons (pv 0) (pa_cons (pe_callB call_len (by rfl) (T.free_len) (by decide +kernel) (pa_cons (pv 1) pa_nil)) pa_nil))) (fun _ _ => rfl)) pa_nil))) pa_nil)))))) (pss_cons (ps_set (i := 7) sc_tense.nd rfl (by first | exact Or.inl rfl | exact Or.inr rfl) (pe_ix ix_list (pv 3) (pe_op op_modN (pe_callTy call_int1 (by rfl) (T.free_int) (by decide +kernel) (pa_cons (pv 6) pa_nil)) (pe_callB call_len (by rfl) (T.free_len) (by decide +kernel) (pa_cons (pv 3) pa_nil))) (fun _ _ => rfl)))
      (pss_cons (ps_set (i := 8) sc_tense.nd rfl (by first | exact Or.inl rfl | exact Or.inr rfl) (pe_ifExp (pt_cmpR op_gt (pe_call (ok_pick T) hr (by rfl) T.g_pick T.F_pick.kp T.b_pick .nil pass0 (pa_cons (pv 0) (pa_cons pe_int pa_nil))) pe_int (nomark _)) (pe_op op_sub (pv 5) pe_int) (pe_call (ok_pick T) hr (by rfl) T.g_pick T.F_pick.kp T.b_pick .nil pass0 (pa_cons (pv 0) (pa_cons (pv 5) pa_nil)))))
      (pss_cons (ps_set (i := 9) sc_tense.nd rfl (by first | exact Or.inl rfl | exact Or.inr rfl) (pe_ifExp (pt_cmpR op_eq (pe_call (ok_pick T) hr (by rfl) T.g_pick T.F_pick.kp T.b_pick .nil pass0 (pa_cons (pv 0) (pa_cons pe_int pa_nil))) pe_int (nomark _)) (pe_op op_sub (pv 5) pe_int) (pe_call (ok_pick T) hr (by rfl) T.g_pick T.F_pick.kp T.b_pick .nil pass0 (pa_cons (pv 0) (pa_cons (pv 5) pa_nil)))))
      (pss_one (ps_if (pt_cmpR op_in_seq (pv 7) (pe_tup (pa_cons pe_str (pa_cons pe_str (pa_cons pe_str pa_nil)))) (by rfl)) (pss_one (ps_expr (pe_bm PySem.F.plainAttrs_list PySem.F.slot_list_append PySem.F.type_list_append mt_append (pv 4) (pa_cons (pe_tup (pa_cons (pv 7) (pa_cons (pv 8) pa_nil))) pa_nil)))) (pss_one (ps_if (pt_cmpR op_eq (pe_call (ok_pick T) hr (by rfl) T.g_pick T.F_pick.kp T.b_pick .nil pass0 (pa_cons (pv 0) (pa_cons pe_int pa_nil))) pe_int (nomark _)) (pss_one (ps_expr (pe_bm PySem.F.plainAttrs_list PySem.F.slot_list_append PySem.F.type_list_append mt_append (pv 4) (pa_cons (pe_tup (pa_cons (pv 7) (pa_cons (pv 8) (pa_cons (pv 9) pa_nil)))) pa_nil)))) (pss_one (ps_expr (pe_bm PySem.F.plainAttrs_list PySem.F.slot_list_append PySem.F.type_list_append mt_append (pv 4) (pa_cons (pe_tup (pa_cons (pv 7) (pa_cons (pv 9) (pa_cons (pv 8) pa_nil)))) pa_nil)))))))))))))))
      (pss_one (ps_ret (pv 4))))))
end
end K71
set_option Elab.async false
set_option linter.all false
set_option maxRecDepth 100000
set_option maxHeartbeats 4000000
namespace K71
open PySem PySem.Spec PyProof.Rows L2 Sh
open SX (S)
local macro_rules | `(tactic| walk_at "v1") => `(tactic| first
  | with_reducible refine v_seq ?_ | with_reducible refine v_asg ?_ | ((with_reducible refine' v_name ?e ?_); (case e => exact rfl)) | with_reducible refine v_ret ?_ | with_reducible refine v_drop ?_ | with_reducible refine v_next ?_
  | with_reducible refine v_if ?_ | with_reducible refine v_op ?_ | with_reducible refine v_c ?_ | ((with_reducible refine' v_var ?e ?_); (case e => exact rfl))
  | with_reducible refine v_I0 ?_ | with_reducible refine v_test ?_ | with_reducible refine v_B ?_ | with_reducible refine v_bl ?_ | with_reducible refine v_not ?_ | with_reducible refine v_and ?_ | with_reducible refine v_or ?_
  | with_reducible refine v_andV ?_ | with_reducible refine v_orV ?_ | with_reducible refine v_notV ?_ | with_reducible refine v_ife ?_
  | with_reducible refine v_nil ?_ | with_reducible refine v_cons ?_ | with_reducible refine v_tup ?_ | with_reducible refine v_lst ?_ | with_reducible refine v_call ?_ | with_reducible refine v_cb ?_ | with_reducible refine v_int ?_ | with_reducible refine v_abs ?_
  | ((with_reducible refine' v_eq ?e ?_); (case e => exact rfl)) | ((with_reducible refine' v_ne ?e ?_); (case e => exact rfl)) | with_reducible refine v_sub ?_ | with_reducible refine v_isN ?_ | with_reducible refine v_notN ?_
  | with_reducible refine v_part ?_ | with_reducible refine v_nopart ?_ | with_reducible refine v_pint ?_ | with_reducible refine v_inSg ?_ | with_reducible refine v_notInSg ?_
  | ((with_reducible refine' v_ixL ?l ?a ?_); (case l => assumption); (case a => exact at_lit _ rfl)) | ((with_reducible refine' v_ixT ?l ?a ?_); (case l => assumption); (case a => exact at_lit _ rfl))
  | ((with_reducible refine v_I ?c ?_); (case c => (first | omega | (unfold CMul; omega) | (unfold CDivN; omega) | (unfold CPow; omega))))
  | with_reducible refine v_for ?_ | with_reducible refine v_iList ?_ | with_reducible refine v_iTup ?_ | with_reducible refine v_iStr ?_ | with_reducible refine v_iR1 ?_ | with_reducible refine v_iR2 ?_ | with_reducible refine v_atS ?_ | with_reducible refine v_sl ?_ | with_reducible refine v_lc ?_ | with_reducible refine v_yes ?_
  | with_reducible refine v_m1 ?_ | with_reducible refine v_m1S ?_ | with_reducible refine v_bm ?_ | with_reducible refine v_bm0 ?_ | with_reducible refine v_dnewK ?_ | with_reducible refine v_dnewT ?_ | with_reducible refine v_dget ?_ | with_reducible refine v_din ?_ | with_reducible refine v_dnotin ?_ | with_reducible refine v_dput ?_ | with_reducible refine v_chain ?_ | with_reducible refine v_un ?_ | with_reducible refine v_neg ?_
  | with_reducible refine v_brk ?_ | with_reducible refine v_cont ?_)
local macro_rules | `(tactic| walk_at "v") => `(tactic| repeat (walk_at "v1"))
local macro_rules | `(tactic| walk_at "vm") => `(tactic| repeat (first | ((with_reducible refine v_modP ?c ?_); (case c => omega); (intro _ _ _)) | walk_at "v1"))
local macro_rules | `(tactic| walk_at "iv") => `(tactic| (try dsimp only; refine IV.mk (by assumption) (by assumption) ?_))
local macro_rules | `(tactic| walk_at "n") => `(tactic| dsimp only [List.set_cons_zero, List.set_cons_succ])
/-- a part's references are below n -/
def refsOk (n : Nat) : Part → Prop
  | .un _ i => i < n
  | .bin _ i j => i < n ∧ j < n
  | _ => True
def sp_holds (K : PySem.W.Frag) : Sp := fun vs H Q _ => ∃ (B : Hp) (M : List (Addr × HO)) (li : Bool) (p : Part) (v : V) (t : Addr) (xs : List V) (ls : List (List Bool)) (r : List Nat) (k : Nat), vs = [v, .ref t, .str (S r), .int (k : Int)] ∧ Hs B M H ∧
  Rp K B v (partD li p) ∧ Rdl K B M t xs ∧ RpAll K B xs (linesD ls) ∧ (∀ l ∈ ls, l.length = r.length) ∧ refsOk ls.length p ∧ k < r.length ∧ r.length ≤ 1000 ∧
  ∀ (B' H' : Hp), Le B B' → Hs B' M H' → Q (.bl (holds p ls r k)) H'
def t_tense_holds (K : PySem.W.Frag) : TS := (tSeq (tAsg (tOp (rIx K) (tVar 0) (tC (.int 0))) (gName 4))
    (tSeq (tIfS (tTest (tOp (rIn K false) (tVar 4) (tTup (tCons (tC (.str "yes")) (tCons (tC (.str "no")) tNil))))) (tRet (tOp rEq (tVar 4) (tC (.str "yes")))) tNext)
    (tSeq (tIfS (tTest (tOp rEq (tVar 4) (tC (.str "letter")))) (tRet (tOp rEq (tOp rIxS (tVar 2) (tVar 3)) (tOp (rIx K) (tVar 0) (tC (.int 1))))) tNext)
    (tSeq (tAsg (tOp (rIxL K) (tVar 1) (tOp (rIx K) (tVar 0) (tC (.int 1)))) (gName 5))
    (tSeq (tIfS (tTest (tOp rEq (tVar 4) (tC (.str "not")))) (tRet (tNotV (tOp (rIxL K) (tVar 5) (tVar 3)))) tNext)
    (tSeq (tIfS (tTest (tOp rEq (tVar 4) (tC (.str "next")))) (tRet (tAndV (tOp rLtI (tOp rAddI (tVar 3) (tC (.int 1))) (tCB (rCLen K) (tCons (tVar 2) tNil))) (tOp (rIxL K) (tVar 5) (tOp rAddI (tVar 3) (tC (.int 1)))))) tNext)
    (tSeq (tIfS (tTest (tOp rEq (tVar 4) (tC (.str "prev")))) (tRet (tAndV (tOp rGtI (tVar 3) (tC (.int 0))) (tOp (rIxL K) (tVar 5) (tOp rSubI (tVar 3) (tC (.int 1)))))) tNext)
    (tSeq (tAsg (tOp (rIxL K) (tVar 1) (tOp (rIx K) (tVar 0) (tC (.int 2)))) (gName 6))
    (tSeq (tIfS (tTest (tOp rEq (tVar 4) (tC (.str "and")))) (tRet (tAndV (tOp (rIxL K) (tVar 5) (tVar 3)) (tOp (rIxL K) (tVar 6) (tVar 3)))) tNext)
    (tSeq (tIfS (tTest (tOp rEq (tVar 4) (tC (.str "or")))) (tRet (tOrV (tOp (rIxL K) (tVar 5) (tVar 3)) (tOp (rIxL K) (tVar 6) (tVar 3)))) tNext)
    (tSeq (tIfS (tTest (tOp rEq (tVar 4) (tC (.str "until")))) (tRet (tCB (rAny K) (tCons (tLc (iRng2 (tCons (tOp rAddI (tVar 3) (tC (.int 1))) (tCons (tCB (rCLen K) (tCons (tVar 2) tNil)) tNil))) (gName 7) tYes (tAndV (tOp (rIxL K) (tVar 6) (tVar 7)) (tCB (rAll K) (tCons (tSl (rSlL K) (tVar 5) (tPart (tOp rAddI (tVar 3) (tC (.int 1)))) (tPart (tVar 7))) tNil))) [7]) tNil))) tNext)
    (tRet (tCB (rAny K) (tCons (tLc (iRng1 (tCons (tVar 3) tNil)) (gName 7) tYes (tAndV (tOp (rIxL K) (tVar 6) (tVar 7)) (tCB (rAll K) (tCons (tSl (rSlL K) (tVar 5) (tPart (tOp rAddI (tVar 7) (tC (.int 1)))) (tPart (tVar 3))) tNil))) [7]) tNil))))))))))))))
theorem pure_tense_holds {K : PySem.W.Frag} (vs : List V) (H : Hp) (Q : VK) (E : XK) (h : sp_holds K vs H Q E) : t_tense_holds K { nx := fun _ H' => Q .non H', rt := Q } (start n_tense_holds vs) H := by
  obtain ⟨B, M, li, p, v, t, xs, ls, r, k, rfl, hs, hp, ht, hx, hls, ho, hk, hr, q⟩ := h
  obtain ⟨pa, rfl, hP⟩ := rp_part hp
  show t_tense_holds K _ [some (V.ref pa), some (V.ref t), some (V.str (S r)), some (V.int (k : Int)), none, none, none, none] H
  unfold t_tense_holds
  walk_at "v"
  cases p with
  | c b =>
    refine v_ixX (v := .str (cnm b)) (hs.x hP) (at_lit 0 rfl) ?_
    walk_at "v"
    refine v_size (by show 2 ≤ sizeLine; decide) (v_newB hs fun tp B1 H1 l1 hs1 e1 => ?_)
    refine ⟨tp, _, rfl, .inr (hs1.t (SqT.of e1)), rfl, rfl, true, by cases b <;> rfl, iteT ?_⟩
    walk_at "v"
    have e : decide (V.str (cnm b) = V.str "yes") = holds (.c b) ls r k := by cases b <;> rfl
    rw [e]
    exact q _ _ l1 hs1
  | letter a =>
    refine v_ixX (v := .str "letter") (hs.x hP) (at_lit 0 rfl) ?_
    walk_at "v"
    refine v_size (by show 2 ≤ sizeLine; decide) (v_newB hs fun tp B1 H1 l1 hs1 e1 => ?_)
    refine ⟨tp, _, rfl, .inr (hs1.t (SqT.of e1)), rfl, rfl, false, rfl, iteF ?_⟩
    walk_at "v"
    refine iteT' rfl ?_
    walk_at "v"
    refine v_ixS (by rw [S_length]; exact sz_of (by omega)) (atI_nat (show r[k]? = some r[k] from List.getElem?_eq_getElem hk)) ?_
    walk_at "v"
    refine v_ixX (v := .str (S [a])) (hs1.x (hP.up l1)) (at_lit 1 rfl) ?_
    walk_at "v"
    have e : decide (V.str (S [r[k]]) = V.str (S [a])) = holds (.letter a) ls r k := by
      unfold holds
      rw [List.getD_eq_getElem?_getD, List.getElem?_eq_getElem hk]
      show _ = decide (r[k] = a)
      refine decide_eq_decide.mpr ⟨fun e => ?_, fun e => by rw [e]⟩
      injection e with e
      have := SX.S_inj e
      simpa using this
    rw [show V.str ⟨#[r[k]]⟩ = V.str (S [r[k]]) from rfl, e]
    exact q _ _ l1 hs1
  | un u i =>
    have hi : i < ls.length := ho
    obtain ⟨fa, ef, hf⟩ := rp_line hx hi
    have hl : (ls.getD i []).length = r.length := by
      rw [List.getD_eq_getElem?_getD, List.getElem?_eq_getElem hi]
      exact hls _ (List.getElem_mem _)
    refine v_ixX (v := .str u.nm) (hs.x hP) (at_lit 0 rfl) ?_
    walk_at "v"
    refine v_size (by show 2 ≤ sizeLine; decide) (v_newB hs fun tp B1 H1 l1 hs1 e1 => ?_)
    refine ⟨tp, _, rfl, .inr (hs1.t (SqT.of e1)), rfl, rfl, false, by cases u <;> rfl, iteF ?_⟩
    walk_at "v"
    refine iteF' (by cases u <;> rfl) ?_
    walk_at "v"
    refine v_ixX (v := .int (i : Int)) (hs1.x (hP.up l1)) (at_lit 1 rfl) ?_
    refine v_ixL (ht.sq l1 (fun _ h => h) hs1) (atI_nat ef) ?_
    have hf1 := hs1.l (le_l l1 hf)
    have hal : ∀ m : Nat, m < r.length → atI ((ls.getD i []).map V.bl) (m : Int) = some (.bl (lineAt ls i m)) := fun m hm => atI_nat (bl_at (by omega))
    walk_at "v"
    cases u with
    | not =>
      refine iteT' rfl ?_
      walk_at "v"
      refine v_ixL hf1 (hal k hk) ?_
      walk_at "v"
      exact q _ _ l1 hs1
    | next =>
      refine iteF' rfl ?_
      walk_at "v"
      refine iteT' rfl ?_
      walk_at "v"
      refine v_lenS (by rw [S_length]; exact sz_of (by omega)) ?_
      walk_at "v"
      have e : holds (.un .next i) ls r k = (decide ((k : Int) + 1 < ((S r).length : Nat)) && lineAt ls i (k + 1)) := by
        rw [S_length]
        show (decide (k + 1 < r.length) && _) = _
        congr 1
        exact decide_eq_decide.mpr (by omega)
      refine ite2 (fun c0 => ?_) (fun c0 => ?_)
      · walk_at "v"
        have c1 := of_decide_eq_true c0
        rw [S_length] at c1
        refine v_ixL hf1 (hal (k + 1) (by omega)) ?_
        rw [c0, Bool.true_and] at e
        rw [← e]
        exact q _ _ l1 hs1
      · rw [Bool.eq_false_iff.mpr c0, Bool.false_and] at e
        rw [← e]
        exact q _ _ l1 hs1
    | prev =>
      refine iteF' rfl ?_
      walk_at "v"
      refine iteF' rfl ?_
      walk_at "v"
      refine iteT' rfl ?_
      walk_at "v"
      have e : holds (.un .prev i) ls r k = (decide (0 < (k : Int)) && lineAt ls i (k - 1)) := by
        show (decide (0 < k) && _) = _
        congr 1
        exact decide_eq_decide.mpr (by omega)
      refine ite2 (fun c0 => ?_) (fun c0 => ?_)
      · walk_at "v"
        have c1 := of_decide_eq_true c0
        have z := hal (k - 1) (by omega)
        rw [show ((k - 1 : Nat) : Int) = (k : Int) - 1 by omega] at z
        refine v_ixL hf1 z ?_
        rw [c0, Bool.true_and] at e
        rw [← e]
        exact q _ _ l1 hs1
      · rw [Bool.eq_false_iff.mpr c0, Bool.false_and] at e
        rw [← e]
        exact q _ _ l1 hs1
  | bin u i j =>
    obtain ⟨hi, hj⟩ : i < ls.length ∧ j < ls.length := ho
    obtain ⟨fa, ef, hf⟩ := rp_line hx hi
    obtain ⟨ga, eg, hg⟩ := rp_line hx hj
    have hl : (ls.getD i []).length = r.length := by
      rw [List.getD_eq_getElem?_getD, List.getElem?_eq_getElem hi]
      exact hls _ (List.getElem_mem _)
    have hl2 : (ls.getD j []).length = r.length := by
      rw [List.getD_eq_getElem?_getD, List.getElem?_eq_getElem hj]
      exact hls _ (List.getElem_mem _)
    refine v_ixX (v := .str u.nm) (hs.x hP) (at_lit 0 rfl) ?_
    walk_at "v"
    refine v_size (by show 2 ≤ sizeLine; decide) (v_newB hs fun tp B1 H1 l1 hs1 e1 => ?_)
    refine ⟨tp, _, rfl, .inr (hs1.t (SqT.of e1)), rfl, rfl, false, by cases u <;> rfl, iteF ?_⟩
    walk_at "v"
    refine iteF' (by cases u <;> rfl) ?_
    walk_at "v"
    refine v_ixX (v := .int (i : Int)) (hs1.x (hP.up l1)) (at_lit 1 rfl) ?_
    refine v_ixL (ht.sq l1 (fun _ h => h) hs1) (atI_nat ef) ?_
    walk_at "v"
    refine iteF' (by cases u <;> rfl) ?_
    walk_at "v"
    refine iteF' (by cases u <;> rfl) ?_
    walk_at "v"
    refine iteF' (by cases u <;> rfl) ?_
    walk_at "v"
    refine v_ixX (v := .int (j : Int)) (hs1.x (hP.up l1)) (at_lit 2 rfl) ?_
    refine v_ixL (ht.sq l1 (fun _ h => h) hs1) (atI_nat eg) ?_
    have hf0 := le_l l1 hf
    have hg0 := le_l l1 hg
    have hf1 := hs1.l hf0
    have hg1 := hs1.l hg0
    have hal : ∀ m : Nat, m < r.length → atI ((ls.getD i []).map V.bl) (m : Int) = some (.bl (lineAt ls i m)) := fun m hm => atI_nat (bl_at (by omega))
    have hbl : ∀ m : Nat, m < r.length → atI ((ls.getD j []).map V.bl) (m : Int) = some (.bl (lineAt ls j m)) := fun m hm => atI_nat (bl_at (by omega))
    walk_at "v"
    cases u with
    | and =>
      refine iteT' rfl ?_
      walk_at "v"
      refine v_ixL hf1 (hal k hk) ?_
      have e : holds (.bin .and i j) ls r k = (lineAt ls i k && lineAt ls j k) := rfl
      refine ⟨_, rfl, ite2 (fun c0 => ?_) (fun c0 => ?_)⟩
      · walk_at "v"
        refine v_ixL hg1 (hbl k hk) ?_
        rw [c0, Bool.true_and] at e
        rw [← e]
        exact q _ _ l1 hs1
      · rw [Bool.eq_false_iff.mpr c0, Bool.false_and] at e
        rw [← e]
        exact q _ _ l1 hs1
    | or =>
      refine iteF' rfl ?_
      walk_at "v"
      refine iteT' rfl ?_
      walk_at "v"
      refine v_ixL hf1 (hal k hk) ?_
      have e : holds (.bin .or i j) ls r k = (lineAt ls i k || lineAt ls j k) := rfl
      refine ⟨_, rfl, ite2 (fun c0 => ?_) (fun c0 => ?_)⟩
      · rw [c0, Bool.true_or] at e
        rw [← e]
        exact q _ _ l1 hs1
      · walk_at "v"
        refine v_ixL hg1 (hbl k hk) ?_
        rw [Bool.eq_false_iff.mpr c0, Bool.false_or] at e
        rw [← e]
        exact q _ _ l1 hs1
    | untl =>
      refine iteF' rfl ?_
      walk_at "v"
      refine iteF' rfl ?_
      walk_at "v"
      refine iteT' rfl ?_
      walk_at "v"
      refine v_lenS (by rw [S_length]; exact sz_of (by omega)) ?_
      rw [S_length]
      walk_at "v"
      refine v_atR2 (by omega) ?_
      refine v_lcR hs1 (fun n acc B' M' => M' = M ∧ acc = ((List.range n).map fun m => lineAt ls j (k + 1 + m) && (((ls.getD i []).drop (k + 1)).take (k + 1 + m - (k + 1))).all id).map V.bl) ⟨rfl, rfl⟩ ?_ ?_
      · rintro m p acc B2 M' H2 hm ha l2 h2 ⟨rfl, rfl⟩
        walk_at "v"
        refine ⟨rfl, ?_⟩
        walk_at "v"
        refine iteT ?_
        walk_at "v"
        have z := hbl (k + 1 + m) (by omega)
        rw [show ((k + 1 + m : Nat) : Int) = (k : Int) + 1 + (m : Int) by omega] at z
        refine v_ixL (h2.l (le_l l2 hg0)) z ?_
        refine ⟨_, rfl, ite2 (fun c0 => ?_) (fun c0 => ?_)⟩
        · walk_at "v"
          refine v_slL (h2.l (le_l l2 hf0)) (v_newB h2 fun c B3 H3 l3 h3 e3 => ?_)
          rw [show (k : Int) + 1 = ((k + 1 : Nat) : Int) by omega, show ((k + 1 : Nat) : Int) + (m : Int) = ((k + 1 + m : Nat) : Int) by omega, cut_mid, ← List.map_drop, ← List.map_take] at e3
          refine ⟨c, _, rfl, h3.l (SqL.of e3), ?_⟩
          refine IE.mk ha hm (by omega) (l2.trans l3) h3 ⟨rfl, ?_⟩
          rw [List.range_succ, List.map_append, List.map_append, List.map_singleton, List.map_singleton, c0, Bool.true_and]
        · refine IE.mk ha hm (by omega) l2 h2 ⟨rfl, ?_⟩
          rw [List.range_succ, List.map_append, List.map_append, List.map_singleton, List.map_singleton, Bool.eq_false_iff.mpr c0, Bool.false_and]
      · rintro p acc B2 M' H2 ha l2 h2 ⟨rfl, rfl⟩
        walk_at "v"
        refine ⟨p, _, rfl, SqL.of h2.hd, ?_⟩
        rw [show ((r.length : Int) - ((k : Int) + 1)).toNat = r.length - (k + 1) by omega]
        exact q _ _ (l1.trans l2) h2.drop
    | sinc =>
      refine iteF' rfl ?_
      walk_at "v"
      refine iteF' rfl ?_
      walk_at "v"
      refine iteF' rfl ?_
      walk_at "v"
      refine v_atR1 (by omega) ?_
      refine v_lcR hs1 (fun n acc B' M' => M' = M ∧ acc = ((List.range n).map fun m => lineAt ls j m && (((ls.getD i []).drop (m + 1)).take (k - (m + 1))).all id).map V.bl) ⟨rfl, rfl⟩ ?_ ?_
      · rintro m p acc B2 M' H2 hm ha l2 h2 ⟨rfl, rfl⟩
        walk_at "v"
        refine ⟨rfl, ?_⟩
        walk_at "v"
        refine iteT ?_
        walk_at "v"
        have z := hbl m (by omega)
        rw [show ((m : Nat) : Int) = 0 + (m : Int) by omega] at z
        refine v_ixL (h2.l (le_l l2 hg0)) z ?_
        refine ⟨_, rfl, ite2 (fun c0 => ?_) (fun c0 => ?_)⟩
        · walk_at "v"
          refine v_slL (h2.l (le_l l2 hf0)) (v_newB h2 fun c B3 H3 l3 h3 e3 => ?_)
          rw [show (0 : Int) + (m : Int) + 1 = ((m + 1 : Nat) : Int) by omega, cut_mid, ← List.map_drop, ← List.map_take] at e3
          refine ⟨c, _, rfl, h3.l (SqL.of e3), ?_⟩
          refine IE.mk ha hm (by omega) (l2.trans l3) h3 ⟨rfl, ?_⟩
          rw [List.range_succ, List.map_append, List.map_append, List.map_singleton, List.map_singleton, c0, Bool.true_and]
        · refine IE.mk ha hm (by omega) l2 h2 ⟨rfl, ?_⟩
          rw [List.range_succ, List.map_append, List.map_append, List.map_singleton, List.map_singleton, Bool.eq_false_iff.mpr c0, Bool.false_and]
      · rintro p acc B2 M' H2 ha l2 h2 ⟨rfl, rfl⟩
        walk_at "v"
        refine ⟨p, _, rfl, SqL.of h2.hd, ?_⟩
        rw [show ((k : Int)).toNat = k by omega]
        exact q _ _ (l1.trans l2) h2.drop
section
variable {P : Program} {w : World} {K : PySem.W.Frag} {mg : Str → Option Value} {base : Heap}
theorem ok_tense_holds (T : Txt K mg w) : FnOk P w K mg base CX0 1 T.a_tense_holds T.fd_tense_holds ["_law_part", "_law_told", "_law_row", "_law_k"] (sp_holds K) := by
  refine T.F_tense_holds.ok sc_tense_holds (fun vs H Q E h => ?_) (fun cdv A outer s H vs Q E hr h => ⟨t_tense_holds K, ?_, pure_tense_holds vs H Q E h⟩)
  · obtain ⟨B, M, li, p, v, t, xs, ls, r, k, rfl, _⟩ := h
    rfl
  · exact (pss_cons (ps_set (i := 4) sc_tense_holds.nd rfl (by first | exact Or.inl rfl | exact Or.inr rfl) (pe_ix ix_seq (pv 0) pe_int (fun _ _ => rfl)))
      (pss_cons (ps_if (pt_cmpR op_in_seq (pv 4) (pe_tup (pa_cons pe_str (pa_cons pe_str pa_nil))) (by rfl)) (pss_one (ps_ret (pe_cmpR op_eq (pv 4) pe_str (nomark _)))) pss_nil)
      (pss_cons (ps_if (pt_cmpR op_eq (pv 4) pe_str (nomark _)) (pss_one (ps_ret (pe_cmpR op_eq (pe_ix ix_str (pv 2) (pv 3) (fun _ _ => rfl)) (pe_ix ix_seq (pv 0) pe_int (fun _ _ => rfl)) (nomark _)))) pss_nil)
      (pss_cons (ps_set (i := 5) sc_tense_holds.nd rfl (by first | exact Or.inl rfl | exact Or.inr rfl) (pe_ix ix_list (pv 1) (pe_ix ix_seq (pv 0) pe_int (fun _ _ => rfl)) (fun _ _ => rfl)))
      (pss_cons (ps_if (pt_cmpR op_eq (pv 4) pe_str (nomark _)) (pss_one (ps_ret (pe_not (pe_ix ix_list (pv 5) (pv 3) (fun _ _ => rfl))))) pss_nil)
      (pss_cons (ps_if (pt_cmpR op_eq (pv 4) pe_str (nomark _)) (pss_one (ps_ret (pe_and (pe_cmpR op_lt (pe_op op_add (pv 3) pe_int) (pe_callB call_len (by rfl) (T.free_len) (by decide +kernel) (pa_cons (pv 2) pa_nil)) (nomark _)) (pe_one (pe_ix ix_list (pv 5) (pe_op op_add (pv 3) pe_int) (fun _ _ => rfl)))))) pss_nil)
      (pss_cons (ps_if (pt_cmpR op_eq (pv 4) pe_str (nomark _)) (pss_one (ps_ret (pe_and (pe_cmpR op_gt (pv 3) pe_int (nomark _)) (pe_one (pe_ix ix_list (pv 5) (pe_op op_sub (pv 3) pe_int) (fun _ _ => rfl)))))) pss_nil)
      (pss_cons (ps_set (i := 6) sc_tense_holds.nd rfl (by first | exact Or.inl rfl | exact Or.inr rfl) (pe_ix ix_list (pv 1) (pe_ix ix_seq (pv 0) pe_int (fun _ _ => rfl)) (fun _ _ => rfl)))
      (pss_cons (ps_if (pt_cmpR op_eq (pv 4) pe_str (nomark _)) (pss_one (ps_ret (pe_and (pe_ix ix_list (pv 5) (pv 3) (fun _ _ => rfl)) (pe_one (pe_ix ix_list (pv 6) (pv 3) (fun _ _ => rfl)))))) pss_nil)
      (pss_cons (ps_if (pt_cmpR op_eq (pv 4) pe_str (nomark _)) (pss_one (ps_ret (pe_or (pe_ix ix_list (pv 5) (pv 3) (fun _ _ => rfl)) (pe_one (pe_ix ix_list (pv 6) (pv 3) (fun _ _ => rfl)))))) pss_nil)
      (pss_cons (ps_if (pt_cmpR op_eq (pv 4) pe_str (nomark _)) (pss_one (ps_ret (pe_callB (cr_any rfl) (by rfl) (T.free_any) (by decide +kernel) (pa_cons (pe_lc (own := [("_law_m", 7)]) (g := (gName 7)) (tt := tYes) rfl sc_tense_holds.nd (pi_range2 (by rfl) (T.free_range) (pa_cons (pe_op op_add (pv 3) pe_int) (pa_cons (pe_callB call_len (by rfl) (T.free_len) (by decide +kernel) (pa_cons (pv 2) pa_nil)) pa_nil))) (blkOk_by (own := [("_law_m", 7)]) (N := n_tense_holds) (sc := defScope s_tense_holds) (by decide +kernel)) (fun _ _ _ _ _ => (pg_name (i := 7) sc_tense_holds.nd rfl (Or.inl rfl))) (fun _ _ _ _ _ => pts_nil) (fun _ _ _ _ _ => (pe_and (pe_ix ix_list (pv 6) (pv 7) (fun _ _ => rfl)) (pe_one (pe_callB (cr_all rfl) (by rfl) (T.free_all) (by decide +kernel) (pa_cons (pe_slice sl_list (pv 5) (po_some (pe_op op_add (pv 3) pe_int)) (po_some (pv 7))) pa_nil)))))) pa_nil)))) pss_nil)
      (pss_one (ps_ret (pe_callB (cr_any rfl) (by rfl) (T.free_any) (by decide +kernel) (pa_cons (pe_lc (own := [("_law_m", 7)]) (g := (gName 7)) (tt := tYes) rfl sc_tense_holds.nd (pi_range1 (by rfl) (T.free_range) (pa_cons (pv 3) pa_nil)) (blkOk_by (own := [("_law_m", 7)]) (N := n_tense_holds) (sc := defScope s_tense_holds) (by decide +kernel)) (fun _ _ _ _ _ => (pg_name (i := 7) sc_tense_holds.nd rfl (Or.inl rfl))) (fun _ _ _ _ _ => pts_nil) (fun _ _ _ _ _ => (pe_and (pe_ix ix_list (pv 6) (pv 7) (fun _ _ => rfl)) (pe_one (pe_callB (cr_all rfl) (by rfl) (T.free_all) (by decide +kernel) (pa_cons (pe_slice sl_list (pv 5) (po_some (pe_op op_add (pv 7) pe_int)) (po_some (pv 3))) pa_nil)))))) pa_nil)))))))))))))))
end
end K71
set_option Elab.async false
set_option linter.all false
set_option maxRecDepth 100000
set_option maxHeartbeats 4000000
namespace K71
open PySem PySem.Spec PyProof.Rows L2 Sh
open SX (S)
local macro_rules | `(tactic| walk_at "v1") => `(tactic| first
  | with_reducible refine v_seq ?_ | with_reducible refine v_asg ?_ | ((with_reducible refine' v_name ?e ?_); (case e => exact rfl)) | with_reducible refine v_ret ?_ | with_reducible refine v_drop ?_ | with_reducible refine v_next ?_
  | with_reducible refine v_if ?_ | with_reducible refine v_op ?_ | with_reducible refine v_c ?_ | ((with_reducible refine' v_var ?e ?_); (case e => exact rfl))
  | with_reducible refine v_I0 ?_ | with_reducible refine v_test ?_ | with_reducible refine v_B ?_ | with_reducible refine v_bl ?_ | with_reducible refine v_not ?_ | with_reducible refine v_and ?_ | with_reducible refine v_or ?_
  | with_reducible refine v_andV ?_ | with_reducible refine v_orV ?_ | with_reducible refine v_notV ?_ | with_reducible refine v_ife ?_
  | with_reducible refine v_nil ?_ | with_reducible refine v_cons ?_ | with_reducible refine v_tup ?_ | with_reducible refine v_lst ?_ | with_reducible refine v_call ?_ | with_reducible refine v_cb ?_ | with_reducible refine v_int ?_ | with_reducible refine v_abs ?_
  | ((with_reducible refine' v_eq ?e ?_); (case e => exact rfl)) | ((with_reducible refine' v_ne ?e ?_); (case e => exact rfl)) | with_reducible refine v_sub ?_ | with_reducible refine v_isN ?_ | with_reducible refine v_notN ?_
  | with_reducible refine v_part ?_ | with_reducible refine v_nopart ?_ | with_reducible refine v_pint ?_ | with_reducible refine v_inSg ?_ | with_reducible refine v_notInSg ?_
  | ((with_reducible refine' v_ixL ?l ?a ?_); (case l => assumption); (case a => exact at_lit _ rfl)) | ((with_reducible refine' v_ixT ?l ?a ?_); (case l => assumption); (case a => exact at_lit _ rfl))
  | ((with_reducible refine v_I ?c ?_); (case c => (first | omega | (unfold CMul; omega) | (unfold CDivN; omega) | (unfold CPow; omega))))
  | with_reducible refine v_for ?_ | with_reducible refine v_iList ?_ | with_reducible refine v_iTup ?_ | with_reducible refine v_iStr ?_ | with_reducible refine v_iR1 ?_ | with_reducible refine v_iR2 ?_ | with_reducible refine v_atS ?_ | with_reducible refine v_sl ?_ | with_reducible refine v_lc ?_ | with_reducible refine v_yes ?_
  | with_reducible refine v_m1 ?_ | with_reducible refine v_m1S ?_ | with_reducible refine v_bm ?_ | with_reducible refine v_bm0 ?_ | with_reducible refine v_dnewK ?_ | with_reducible refine v_dnewT ?_ | with_reducible refine v_dget ?_ | with_reducible refine v_din ?_ | with_reducible refine v_dnotin ?_ | with_reducible refine v_dput ?_ | with_reducible refine v_chain ?_ | with_reducible refine v_un ?_ | with_reducible refine v_neg ?_
  | with_reducible refine v_brk ?_ | with_reducible refine v_cont ?_)
local macro_rules | `(tactic| walk_at "v") => `(tactic| repeat (walk_at "v1"))
local macro_rules | `(tactic| walk_at "vm") => `(tactic| repeat (first | ((with_reducible refine v_modP ?c ?_); (case c => omega); (intro _ _ _)) | walk_at "v1"))
local macro_rules | `(tactic| walk_at "iv") => `(tactic| (try dsimp only; refine IV.mk (by assumption) (by assumption) ?_))
local macro_rules | `(tactic| walk_at "n") => `(tactic| dsimp only [List.set_cons_zero, List.set_cons_succ])
abbrev sp_tense_holds := sp_holds
theorem refs_of {al : List Nat} {k : Nat} {p : Part} (h : p.ok al k) : refsOk k p := by
  cases p with
  | c b => trivial
  | letter a => trivial
  | un u i => exact h
  | bin u i j => exact h
def sp_tense_lines (K : PySem.W.Frag) : Sp := fun vs H Q _ => ∃ (B : Hp) (M : List (Addr × HO)) (lo li : Bool) (ps : List Part) (al : List Nat) (v : V) (r : List Nat), vs = [v, .str (S r)] ∧ Hs B M H ∧ Rp K B v (sheetD lo li ps) ∧ WF al ps ∧ r.length ≤ 1000 ∧ ps.length ≤ 10000 ∧
  ∀ (v' : V) (B' H' : Hp), Le B B' → Rp K B' v' (.list (linesD (linesOf r ps))) → Hs B' M H' → Q v' H'
def t_tense_lines (K : PySem.W.Frag) : TS := (tSeq (tAsg (tLst tNil) (gName 2))
    (tSeq (tAsg (tCB (rCLen K) (tCons (tVar 1) tNil)) (gName 3))
    (tSeq (tFor (iSeq K (tVar 0)) (gName 4) (tSeq (tAsg (tLst tNil) (gName 5))
    (tSeq (tFor (iRng1 (tCons (tVar 3) tNil)) (gName 6) (tDrop (tBM K "list" rAppend (tVar 5) (tCons (tCall (sp_tense_holds K) [] E0 (tCons (tVar 4) (tCons (tVar 2) (tCons (tVar 1) (tCons (tVar 6) tNil))))) tNil))))
    (tDrop (tBM K "list" rAppend (tVar 2) (tCons (tVar 5) tNil))))))
    (tRet (tVar 2)))))
theorem pure_tense_lines {K : PySem.W.Frag} (vs : List V) (H : Hp) (Q : VK) (E : XK) (h : sp_tense_lines K vs H Q E) : t_tense_lines K { nx := fun _ H' => Q .non H', rt := Q } (start n_tense_lines vs) H := by
  obtain ⟨B, M, lo, li, ps, al, v, r, rfl, hs, hv, wf, hr, hn, q⟩ := h
  obtain ⟨sa, xs, rfl, hS, hX⟩ := rp_mk hv
  have hxl : xs.length = ps.length := by rw [hX.length, List.length_map]
  show t_tense_lines K _ [some (V.ref sa), some (V.str (S r)), none, none, none, none, none] H
  unfold t_tense_lines
  walk_at "v"
  refine v_size (by show 0 ≤ sizeLine; decide) (v_newM hs fun t H1 hs1 => ?_)
  walk_at "v"
  refine v_lenS (by rw [S_length]; exact sz_of (by omega)) ?_
  rw [S_length]
  (with_reducible refine v_name rfl ?_)
  walk_at "n"
  (with_reducible refine v_seq ?_)
  refine v_forX (i := 0) rfl hS hs1 (fun i σ B' M' => ∃ (ys : List V) (y4 y5 y6 : Option V), M' = (t, .lst ys) :: M ∧ RpAll K B' ys (linesD (linesOf r (ps.take i))) ∧
    σ = [some (V.ref sa), some (V.str (S r)), some (V.ref t), some (V.int (r.length : Nat)), y4, y5, y6]) ⟨[], _, _, _, rfl, .nil, rfl⟩ ?_ ?_
  · rintro i x σ' B1 M' H2 hi hx l1 h2 ⟨ys, y4, y5, y6, rfl, hys, rfl⟩
    have hip : i < ps.length := by omega
    obtain ⟨d, hd, hp⟩ := hX.getV hx
    have ed : d = partD li ps[i] := by
      rw [List.getElem?_map, List.getElem?_eq_getElem hip] at hd
      exact (Option.some.inj hd).symm
    subst ed
    walk_at "v"
    refine v_size (by show 0 ≤ sizeLine; decide) (v_newM h2 fun ln H3 h3 => ?_)
    walk_at "v"
    refine v_atR1 (by omega) ?_
    refine v_forR h3 (fun k σ B' M' => ∃ (y6 : Option V), M' = (ln, .lst (((List.range k).map (holds ps[i] (linesOf r (ps.take i)) r)).map V.bl)) :: (t, .lst ys) :: M ∧
      σ = [some (V.ref sa), some (V.str (S r)), some (V.ref t), some (V.int (r.length : Nat)), some x, some (V.ref ln), y6]) ⟨_, rfl, rfl⟩ ?_ ?_
    · rintro k σ' B2 M' H4 hk l2 h4 ⟨y6, rfl, rfl⟩
      have hk' : k < r.length := by omega
      walk_at "v"
      refine v_bmL h4.hd ?_
      walk_at "v"
      rw [show (0 : Int) + (k : Int) = (k : Int) by omega]
      refine ⟨B2, _, li, ps[i], x, t, ys, linesOf r (ps.take i), r, k, rfl, h4, hp.up (l1.trans l2), .inr (by simp), hys.up l2, linesOf_each r _, ?_, hk', hr, fun B3 H5 l3 h5 => ?_⟩
      · rw [linesOf_len, List.length_take, Nat.min_eq_left (by omega)]
        exact refs_of (wf i ps[i] (List.getElem?_eq_getElem hip))
      · dsimp only
        walk_at "v"
        refine v_appM h5 (by simp; omega) fun H6 h6 => ?_
        walk_at "v"
        try dsimp only
        refine IV.mk (l2.trans l3) h6 ?_
        refine ⟨_, ?_, rfl⟩
        rw [List.range_succ, List.map_append, List.map_append]
        rfl
    · rintro σ' B2 M' H4 l2 h4 ⟨y6, rfl, rfl⟩
      walk_at "v"
      obtain ⟨h5, l3⟩ := h4.fix
      refine v_bmL h5.hd ?_
      walk_at "v"
      refine v_appM h5 (by rw [hys.length, linesD, List.length_map, linesOf_len]; simp; omega) fun H6 h6 => ?_
      walk_at "v"
      have l4 := l2.trans l3
      try dsimp only
      refine IV.mk (l1.trans l4) h6 ?_
      refine ⟨_, _, _, _, rfl, ?_, rfl⟩
      rw [List.take_add_one, List.getElem?_eq_getElem hip, show (some ps[i]).toList = [ps[i]] from rfl, linesOf_snoc, linesD, List.map_append]
      refine (hys.up l4).append (.one ?_)
      refine .lst (SqL.of upd_same) ?_
      rw [show ((r.length : Nat) : Int).toNat = r.length by omega]
      exact bools_rp _
  · rintro σ' B1 M' H2 l1 h2 ⟨ys, y4, y5, y6, rfl, hys, rfl⟩
    walk_at "v"
    obtain ⟨h3, l2⟩ := h2.fix
    refine q (.ref t) _ _ (l1.trans l2) (.lst (SqL.of upd_same) ?_) h3
    rw [hxl, List.take_length] at hys
    exact hys.up l2
section
variable {P : Program} {w : World} {K : PySem.W.Frag} {mg : Str → Option Value} {base : Heap}
theorem ok_tense_lines (T : Txt K mg w) : FnOk P w K mg base CX0 2 T.a_tense_lines T.fd_tense_lines ["_law_sheet", "_law_row"] (sp_tense_lines K) := by
  refine T.F_tense_lines.ok sc_tense_lines (fun vs H Q E h => ?_) (fun cdv A outer s H vs Q E hr h => ⟨t_tense_lines K, ?_, pure_tense_lines vs H Q E h⟩)
  · obtain ⟨B, M, lo, li, ps, al, v, r, rfl, _⟩ := h
    rfl
  · exact (pss_cons (ps_set (i := 2) sc_tense_lines.nd rfl (by first | exact Or.inl rfl | exact Or.inr rfl) (pe_lst pa_nil))
      (pss_cons (ps_set (i := 3) sc_tense_lines.nd rfl (by first | exact Or.inl rfl | exact Or.inr rfl) (pe_callB call_len (by rfl) (T.free_len) (by decide +kernel) (pa_cons (pv 1) pa_nil)))
      (pss_cons (ps_for PassesOwn.never rfl (pi_seq (pv 0)) (pg_name (i := 4) sc_tense_lines.nd rfl (by first | exact Or.inl rfl | exact Or.inr rfl)) (pss_cons (ps_set (i := 5) sc_tense_lines.nd rfl (by first | exact Or.inl rfl | exact Or.inr rfl) (pe_lst pa_nil))
      (pss_cons (ps_for PassesOwn.never rfl (pi_range1 (by rfl) (T.free_range) (pa_cons (pv 3) pa_nil)) (pg_name (i := 6) sc_tense_lines.nd rfl (by first | exact Or.inl rfl | exact Or.inr rfl)) (pss_one (ps_expr (pe_bm PySem.F.plainAttrs_list PySem.F.slot_list_append PySem.F.type_list_append mt_append (pv 5) (pa_cons (pe_call (ok_tense_holds T) hr (by rfl) T.g_tense_holds T.F_tense_holds.kp T.b_tense_holds .nil pass0 (pa_cons (pv 4) (pa_cons (pv 2) (pa_cons (pv 1) (pa_cons (pv 6) pa_nil))))) pa_nil)))))
      (pss_one (ps_expr (pe_bm PySem.F.plainAttrs_list PySem.F.slot_list_append PySem.F.type_list_append mt_append (pv 2) (pa_cons (pv 5) pa_nil)))))))
      (pss_one (ps_ret (pv 2))))))
end
end K71
set_option Elab.async false
set_option linter.all false
set_option maxRecDepth 100000
set_option maxHeartbeats 8000000
namespace K71
open PySem PySem.Spec PyProof.Rows L2 Sh
open SX (S)
local macro_rules | `(tactic| walk_at "v1") => `(tactic| first
  | with_reducible refine v_seq ?_ | with_reducible refine v_asg ?_ | ((with_reducible refine' v_name ?e ?_); (case e => exact rfl)) | with_reducible refine v_ret ?_ | with_reducible refine v_drop ?_ | with_reducible refine v_next ?_
  | with_reducible refine v_if ?_ | with_reducible refine v_op ?_ | with_reducible refine v_c ?_ | ((with_reducible refine' v_var ?e ?_); (case e => exact rfl))
  | with_reducible refine v_I0 ?_ | with_reducible refine v_test ?_ | with_reducible refine v_B ?_ | with_reducible refine v_bl ?_ | with_reducible refine v_not ?_ | with_reducible refine v_and ?_ | with_reducible refine v_or ?_
  | with_reducible refine v_andV ?_ | with_reducible refine v_orV ?_ | with_reducible refine v_notV ?_ | with_reducible refine v_ife ?_
  | with_reducible refine v_nil ?_ | with_reducible refine v_cons ?_ | with_reducible refine v_tup ?_ | with_reducible refine v_lst ?_ | with_reducible refine v_call ?_ | with_reducible refine v_cb ?_ | with_reducible refine v_int ?_ | with_reducible refine v_abs ?_
  | ((with_reducible refine' v_eq ?e ?_); (case e => exact rfl)) | ((with_reducible refine' v_ne ?e ?_); (case e => exact rfl)) | with_reducible refine v_sub ?_ | with_reducible refine v_isN ?_ | with_reducible refine v_notN ?_
  | with_reducible refine v_part ?_ | with_reducible refine v_nopart ?_ | with_reducible refine v_pint ?_ | with_reducible refine v_inSg ?_ | with_reducible refine v_notInSg ?_
  | ((with_reducible refine' v_ixL ?l ?a ?_); (case l => assumption); (case a => exact at_lit _ rfl)) | ((with_reducible refine' v_ixT ?l ?a ?_); (case l => assumption); (case a => exact at_lit _ rfl))
  | ((with_reducible refine v_I ?c ?_); (case c => (first | omega | (unfold CMul; omega) | (unfold CDivN; omega) | (unfold CPow; omega))))
  | with_reducible refine v_for ?_ | with_reducible refine v_iList ?_ | with_reducible refine v_iTup ?_ | with_reducible refine v_iStr ?_ | with_reducible refine v_iR1 ?_ | with_reducible refine v_iR2 ?_ | with_reducible refine v_atS ?_ | with_reducible refine v_sl ?_ | with_reducible refine v_lc ?_ | with_reducible refine v_yes ?_
  | with_reducible refine v_m1 ?_ | with_reducible refine v_m1S ?_ | with_reducible refine v_bm ?_ | with_reducible refine v_bm0 ?_ | with_reducible refine v_dnewK ?_ | with_reducible refine v_dnewT ?_ | with_reducible refine v_dget ?_ | with_reducible refine v_din ?_ | with_reducible refine v_dnotin ?_ | with_reducible refine v_dput ?_ | with_reducible refine v_chain ?_ | with_reducible refine v_un ?_ | with_reducible refine v_neg ?_
  | with_reducible refine v_brk ?_ | with_reducible refine v_cont ?_)
local macro_rules | `(tactic| walk_at "v") => `(tactic| repeat (walk_at "v1"))
local macro_rules | `(tactic| walk_at "vm") => `(tactic| repeat (first | ((with_reducible refine v_modP ?c ?_); (case c => omega); (intro _ _ _)) | walk_at "v1"))
local macro_rules | `(tactic| walk_at "iv") => `(tactic| (try dsimp only; refine IV.mk (by assumption) (by assumption) ?_))
local macro_rules | `(tactic| walk_at "n") => `(tactic| dsimp only [List.set_cons_zero, List.set_cons_succ])
def rSindex (x : V) (xs : List V) (H : Hp) (Q : VK) : Prop := ∃ a b i rest, x = .str a ∧ xs = [.str b] ∧ Builtin.Str.occurrences a b 0 a.length 1 = i :: rest ∧ Q (.int (i : Nat)) H
theorem atI_m1 {xs : List V} (h : 1 ≤ xs.length) : atI xs (-1) = xs[xs.length - 1]? := by
  obtain ⟨ys, y, rfl⟩ : ∃ ys y, xs = ys ++ [y] := ⟨xs.dropLast, xs.getLast (fun z => by rw [z] at h; exact absurd h (by decide)), (List.dropLast_concat_getLast _).symm⟩
  rw [show (ys ++ [y]).length - 1 = ys.length by simp, List.getElem?_append_right (Nat.le_refl _), Nat.sub_self]
  exact atI_last ys y
def subL (r : List Nat) (f : Nat → Tr) (ps : List Part) (n : Nat) : List (List Bool) := (List.range n).map fun i => evalT r (substT f (treeAt ps i))
theorem subL_get {r : List Nat} {f : Nat → Tr} {ps : List Part} {n i : Nat} (h : i < n) : (subL r f ps n).getD i [] = evalT r (substT f (treeAt ps i)) := by
  unfold subL
  rw [List.getD_eq_getElem?_getD, List.getElem?_map, List.getElem?_range h]
  rfl
theorem evalT_len (r : List Nat) (t : Tr) : (evalT r t).length = r.length := by
  cases t <;> simp only [evalT, lineOf, List.length_map, List.length_range]
theorem sub_line {r : List Nat} {f : Nat → Tr} {ps : List Part} {i : Nat} {p : Part} (wf : WR ps) (e : ps[i]? = some p) (h : ∀ a, p ≠ .letter a) : lineOf r (subL r f ps i) p = evalT r (substT f (treeAt ps i)) := by
  rw [treeAt_get wf e]
  have rf := wf i p e
  cases p with
  | c b => rfl
  | letter a => exact absurd rfl (h a)
  | un u j => exact lineOf_1 (subL_get (rf j (by simp [Part.refs])))
  | bin u j k => exact lineOf_2 (subL_get (rf j (by simp [Part.refs]))) (subL_get (rf k (by simp [Part.refs])))
def sp_put_line (K : PySem.W.Frag) : Sp := fun vs H Q _ => ∃ (B : Hp) (M : List (Addr × HO)) (li : Bool) (al tg r : List Nat) (gs : List (List Part)) (ps : List Part) (v2 v3 : V), vs = [.str (S tg), v2, v3, .str (S r)] ∧ Hs B M H ∧ Rp K B v2 (.list (gs.map (sheetD true li))) ∧ Rp K B v3 (sheetD true false ps) ∧
  gs.length = tg.length ∧ tg.length ≤ 8 ∧ (∀ g ∈ gs, WF al g ∧ 1 ≤ g.length ∧ g.length ≤ 8) ∧ WF tg ps ∧ 1 ≤ ps.length ∧ ps.length ≤ 8 ∧ r.length ≤ 1000 ∧ (∀ a ∈ tg, ∃ rest, Builtin.Str.occurrences (S tg) (S [a]) 0 (S tg).length 1 = tg.idxOf a :: rest) ∧
  ∀ (v' : V) (B' H' : Hp), Le B B' → Hs B' M H' → Rp K B' v' (.list ((evalT r (substT (fT tg gs) (rootT ps))).map .bool)) → Q v' H'
def t_put_line (K : PySem.W.Frag) : TS := (tSeq (tAsg (tLc (iList K (tVar 1)) (gName 5) tYes (tOp (rIxL K) (tCall (sp_tense_lines K) [] E0 (tCons (tVar 5) (tCons (tVar 3) tNil))) (tUn (rU fun i => .int (-i)) (tC (.int 1)))) [5]) (gName 4))
    (tSeq (tAsg (tLst tNil) (gName 6))
    (tSeq (tFor (iList K (tVar 2)) (gName 7) (tIfS (tTest (tOp rEq (tOp (rIx K) (tVar 7) (tC (.int 0))) (tC (.str "letter")))) (tDrop (tBM K "list" rAppend (tVar 6) (tCons (tOp (rIxL K) (tVar 4) (tBM K "str" rSindex (tVar 0) (tCons (tOp (rIx K) (tVar 7) (tC (.int 1))) tNil))) tNil))) (tDrop (tBM K "list" rAppend (tVar 6) (tCons (tLc (iRng1 (tCons (tCB (rCLen K) (tCons (tVar 3) tNil)) tNil)) (gName 8) tYes (tCall (sp_tense_holds K) [] E0 (tCons (tVar 7) (tCons (tVar 6) (tCons (tVar 3) (tCons (tVar 8) tNil))))) [8]) tNil)))))
    (tRet (tOp (rIxL K) (tVar 6) (tUn (rU fun i => .int (-i)) (tC (.int 1))))))))
theorem pure_put_line {K : PySem.W.Frag} (vs : List V) (H : Hp) (Q : VK) (E : XK) (h : sp_put_line K vs H Q E) : t_put_line K { nx := fun _ H' => Q .non H', rt := Q } (start n_put_line vs) H := by
  obtain ⟨B, M, li, al, tg, r, gs, ps, v2, v3, rfl, hs, hv2, hv3, gl, t8, gw, wf, p1, p8, hr, occ, q⟩ := h
  obtain ⟨sa, xs, rfl, hS, hX⟩ := rp_mk (l := true) hv2
  obtain ⟨ka, kxs, rfl, hK, hKX⟩ := rp_mk (l := true) hv3
  have xl : xs.length = gs.length := by rw [hX.length, List.length_map]
  have kxl : kxs.length = ps.length := by rw [hKX.length, List.length_map]
  show t_put_line K _ [some (V.str (S tg)), some (V.ref sa), some (V.ref ka), some (V.str (S r)), none, none, none, none, none] H
  unfold t_put_line
  walk_at "v"
  refine v_atL (hs.l hS) ?_
  refine v_lcL hS hs (fun i acc B' M' => M' = M ∧ RpAll K B' acc (linesD ((gs.take i).map fun g => evalT r (rootT g)))) ⟨rfl, .nil⟩ ?_ ?_
  · rintro i x p acc B1 M' H1 hi hx ha l1 h1 ⟨rfl, hacc⟩
    obtain ⟨g, eg⟩ : ∃ g, gs[i]? = some g := ⟨_, List.getElem?_eq_getElem (by omega)⟩
    obtain ⟨d, hd, hp⟩ := hX.getV hx
    rw [List.getElem?_map, eg] at hd
    cases hd
    obtain ⟨g1, g2, g3⟩ := gw g (List.mem_of_getElem? eg)
    walk_at "v"
    refine ⟨rfl, ?_⟩
    walk_at "v"
    refine iteT ?_
    walk_at "v"
    refine ⟨B1, _, true, li, g, al, x, r, rfl, h1, hp.up l1, g1, hr, by omega, fun v' B2 H2 l2 hv' h2 => ?_⟩
    obtain ⟨ra, rxs, rfl, hR, hRX⟩ := rp_mk (l := true) hv'
    have rl : rxs.length = g.length := by rw [hRX.length, linesD, List.length_map, linesOf_len]
    obtain ⟨rv, er, hrv⟩ := hRX.get (i := g.length - 1) (d := .list ((evalT r (rootT g)).map .bool)) (by
      unfold linesD
      rw [List.getElem?_map, show evalT r (rootT g) = (linesOf r g).getD (g.length - 1) [] from (line_tree g1.wr (g.length - 1) (by omega)).symm, List.getD_eq_getElem?_getD, List.getElem?_eq_getElem (by rw [linesOf_len]; omega)]
      rfl)
    walk_at "v"
    refine v_ixL (v := rv) (h2.l hR) (by rw [atI_m1 (by omega), rl]; exact er) ?_
    refine IE.mk ha hi (by omega) (l1.trans l2) h2 ⟨rfl, ?_⟩
    rw [List.take_add_one, eg, show (some g).toList = [g] from rfl, List.map_append, linesD, List.map_append]
    exact (hacc.up l2).append (.one hrv)
  · rintro la acc B1 M' H1 ha l1 h1 ⟨rfl, hacc⟩
    rw [xl, List.take_length] at hacc
    obtain ⟨h2, l2⟩ := h1.fix
    have hla : SqL K (upd B1 la (.lst acc)) la acc := SqL.of upd_same
    have hacc := hacc.up l2
    have l12 := l1.trans l2
    walk_at "v"
    refine v_size (by show 0 ≤ sizeLine; decide) (v_newM h2 fun ta H3 h3 => ?_)
    (with_reducible refine v_name rfl ?_)
    walk_at "n"
    (with_reducible refine v_seq ?_)
    (with_reducible refine v_for ?_)
    walk_at "v"
    refine v_atL (h3.l (le_l l12 hK)) ?_
    refine v_forL (le_l l12 hK) h3 (fun i σ B' M2 => ∃ (ys : List V) (y5 y7 y8 : Option V), M2 = (ta, .lst ys) :: M' ∧ RpAll K B' ys (linesD (subL r (fT tg gs) ps i)) ∧
      σ = [some (V.str (S tg)), some (V.ref sa), some (V.ref ka), some (V.str (S r)), some (V.ref la), y5, some (V.ref ta), y7, y8]) ⟨[], _, _, _, rfl, .nil, rfl⟩ ?_ ?_
    · rintro i x σ' B4 M2 H4 hi hx l4 h4 ⟨ys, y5, y7, y8, rfl, hys, rfl⟩
      obtain ⟨p, ep⟩ : ∃ p, ps[i]? = some p := ⟨_, List.getElem?_eq_getElem (by omega)⟩
      obtain ⟨d, hd, hp⟩ := (hKX.up (l12.trans l4)).getV hx
      rw [List.getElem?_map, ep] at hd
      cases hd
      obtain ⟨pa, rfl, hP⟩ := rp_part hp
      have ysl : ys.length = i := by rw [hys.length]; unfold linesD subL; rw [List.length_map, List.length_map, List.length_range]
      have fin : ∀ (B5 H5 : Hp) (v : V) (y5 y7 y8 : Option V), Le B4 B5 → Hs B5 ((ta, .lst (ys ++ [v])) :: M') H5 → Rp K B5 v (.list ((evalT r (substT (fT tg gs) (treeAt ps i))).map .bool)) →
          IV (upd B1 la (.lst acc)) (fun i σ B' M2 => ∃ (ys : List V) (y5 y7 y8 : Option V), M2 = (ta, .lst ys) :: M' ∧ RpAll K B' ys (linesD (subL r (fT tg gs) ps i)) ∧
            σ = [some (V.str (S tg)), some (V.ref sa), some (V.ref ka), some (V.str (S r)), some (V.ref la), y5, some (V.ref ta), y7, y8]) (i + 1) [some (V.str (S tg)), some (V.ref sa), some (V.ref ka), some (V.str (S r)), some (V.ref la), y5, some (V.ref ta), y7, y8] H5 := by
        intro B5 H5 v y5 y7 y8 l5 h5 hv
        refine IV.mk (l4.trans l5) h5 ⟨_, y5, y7, y8, rfl, ?_, rfl⟩
        unfold subL linesD
        rw [List.range_succ, List.map_append, List.map_append]
        exact (hys.up l5).append (.one hv)
      have other : (∀ a, p ≠ .letter a) → decide (V.str (Part.nm p) = V.str "letter") = false := fun h => by
        cases p with
        | c b => cases b <;> rfl
        | letter a => exact absurd rfl (h a)
        | un u j => cases u <;> rfl
        | bin u j k => cases u <;> rfl
      walk_at "v"
      refine v_ixX (h4.x hP) (at_lit 0 (vals_hd p)) ?_
      walk_at "v"
      have part : ∀ D : Ends, (∀ (B5 H5 : Hp) (v : V) (y8 : Option V), Le B4 B5 → Hs B5 ((ta, .lst (ys ++ [v])) :: M') H5 → Rp K B5 v (.list ((evalT r (substT (fT tg gs) (treeAt ps i))).map .bool)) →
            D.nx [some (V.str (S tg)), some (V.ref sa), some (V.ref ka), some (V.str (S r)), some (V.ref la), y5, some (V.ref ta), some (V.ref pa), y8] H5) → (∀ a, p ≠ .letter a) →
          tDrop (tBM K "list" rAppend (tVar 6) (tCons (tLc (iRng1 (tCons (tCB (rCLen K) (tCons (tVar 3) tNil)) tNil)) (gName 8) tYes (tCall (sp_tense_holds K) [] E0 (tCons (tVar 7) (tCons (tVar 6) (tCons (tVar 3) (tCons (tVar 8) tNil))))) [8]) tNil))
          D [some (V.str (S tg)), some (V.ref sa), some (V.ref ka), some (V.str (S r)), some (V.ref la), y5, some (V.ref ta), some (V.ref pa), y8] H4 := by
        intro D fn hl
        have eline := sub_line (r := r) (f := fT tg gs) wf.wr ep hl
        have sl : (subL r (fT tg gs) ps i).length = i := by unfold subL; rw [List.length_map, List.length_range]
        walk_at "v"
        refine v_bmL h4.hd ?_
        walk_at "v"
        refine v_lenS (z := S r) (by rw [S_length]; exact sz_of (by omega)) ?_
        rw [S_length]
        walk_at "v"
        refine v_atR1 (by omega) ?_
        refine v_lcR h4 (fun k acc B' M3 => M3 = (ta, .lst ys) :: M' ∧ acc = ((List.range k).map (holds p (subL r (fT tg gs) ps i) r)).map V.bl) ⟨rfl, rfl⟩ ?_ ?_
        · rintro k p5 acc2 B5 M3 H5 hk ha2 l5 h5 ⟨rfl, rfl⟩
          have hk' : k < r.length := by omega
          walk_at "v"
          refine ⟨rfl, ?_⟩
          walk_at "v"
          refine iteT ?_
          walk_at "v"
          rw [show (0 : Int) + (k : Int) = (k : Int) by omega]
          refine ⟨B5, _, false, p, .ref pa, ta, ys, subL r (fT tg gs) ps i, r, k, rfl, h5, hp.up l5, .inr (by simp), hys.up l5, fun l hl => ?_, ?_, hk', hr, fun B6 H6 l6 h6 => ?_⟩
          · unfold subL at hl
            obtain ⟨j, _, rfl⟩ := List.mem_map.mp hl
            exact evalT_len _ _
          · rw [sl]
            exact refs_of (wf i p ep)
          · refine IE.mk ha2 hk (by omega) (l5.trans l6) h6 ⟨rfl, ?_⟩
            rw [List.range_succ, List.map_append, List.map_append]
            rfl
        · rintro p5 acc2 B5 M3 H5 ha2 l5 h5 ⟨rfl, rfl⟩
          obtain ⟨h6, l6⟩ := h5.fix
          walk_at "v"
          refine v_appM h6 (by rw [ysl]; omega) fun H7 h7 => ?_
          refine fn _ H7 _ _ (l5.trans l6) h7 ?_
          rw [← eline, show ((r.length : Nat) : Int).toNat = r.length by omega]
          exact .lst (SqL.of upd_same) (bools_rp _)
      cases p with
      | letter a =>
        have hat : a ∈ tg := wf i _ ep
        have hix := List.idxOf_lt_length_of_mem hat
        obtain ⟨rest, eo⟩ := occ a hat
        obtain ⟨g, eg⟩ : ∃ g, gs[tg.idxOf a]? = some g := ⟨_, List.getElem?_eq_getElem (by omega)⟩
        obtain ⟨lv, el, hlv⟩ := (hacc.up l4).get (i := tg.idxOf a) (d := .list ((evalT r (rootT g)).map .bool)) (by
          unfold linesD
          rw [List.getElem?_map, List.getElem?_map, eg]
          rfl)
        refine iteT' rfl ?_
        walk_at "v"
        refine v_bmL h4.hd ?_
        walk_at "v"
        refine ⟨rfl, ?_⟩
        walk_at "v"
        refine v_ixX (h4.x hP) (at_lit 1 rfl) ?_
        walk_at "v"
        refine ⟨_, _, _, rest, rfl, rfl, eo, ?_⟩
        refine v_ixL (v := lv) (h4.l (le_l l4 hla)) (atI_nat el) ?_
        walk_at "v"
        refine v_appM h4 (by rw [ysl]; omega) fun H7 h7 => ?_
        refine fin B4 H7 lv _ _ _ (Same.refl _) h7 ?_
        rw [treeAt_get wf.wr ep]
        unfold fT
        show Rp K B4 lv (.list ((evalT r (rootT (gs.getD (tg.idxOf a) []))).map .bool))
        rw [List.getD_eq_getElem?_getD, eg]
        exact hlv
      | c b => exact iteF' (other fun a z => nomatch z) (part _ (fun B5 H5 v y8 l5 h5 hv => fin B5 H5 v _ _ _ l5 h5 hv) (fun a z => nomatch z))
      | un u j => exact iteF' (other fun a z => nomatch z) (part _ (fun B5 H5 v y8 l5 h5 hv => fin B5 H5 v _ _ _ l5 h5 hv) (fun a z => nomatch z))
      | bin u j k => exact iteF' (other fun a z => nomatch z) (part _ (fun B5 H5 v y8 l5 h5 hv => fin B5 H5 v _ _ _ l5 h5 hv) (fun a z => nomatch z))
    · rintro σ' B4 M2 H4 l4 h4 ⟨ys, y5, y7, y8, rfl, hys, rfl⟩
      rw [kxl] at hys
      have ysl : ys.length = ps.length := by rw [hys.length]; unfold linesD subL; rw [List.length_map, List.length_map, List.length_range]
      obtain ⟨rv, er, hrv⟩ := hys.get (i := ps.length - 1) (d := .list ((evalT r (substT (fT tg gs) (rootT ps))).map .bool)) (by
        unfold linesD subL
        rw [List.getElem?_map, List.getElem?_map, List.getElem?_range (by omega)]
        rfl)
      walk_at "v"
      refine v_ixL (v := rv) (SqL.of h4.hd) (by rw [atI_m1 (by omega), ysl]; exact er) ?_
      exact q _ _ _ (l12.trans l4) h4.drop hrv
section
variable {P : Program} {w : World} {K : PySem.W.Frag} {mg : Str → Option Value} {base : Heap}
theorem ok_put_line (T : Txt K mg w) : FnOk P w K mg base CX0 3 T.a_put_line T.fd_put_line ["_law_target", "_law_sheets", "_law_sheet", "_law_row"] (sp_put_line K) := by
  refine T.F_put_line.ok sc_put_line (fun vs H Q E h => ?_) (fun cdv A outer s H vs Q E hr h => ⟨t_put_line K, ?_, pure_put_line vs H Q E h⟩)
  · obtain ⟨B, M, li, al, tg, r, gs, ps, v2, v3, rfl, _⟩ := h
    rfl
  · exact (pss_cons (ps_setLc (i := 4) (own := [("_law_one", 5)]) (g := (gName 5)) (tt := tYes) rfl sc_put_line.nd rfl rfl (sw_true rfl rfl rfl (by decide +kernel)) (pi_list (pv 1)) (blkOk_by (own := [("_law_one", 5)]) (N := n_put_line) (sc := defScope s_put_line) (by decide +kernel)) (fun _ _ _ _ _ => (pg_name (i := 5) sc_put_line.nd rfl (Or.inl rfl))) (fun _ _ _ _ _ => pts_nil) (fun _ _ _ _ _ => (pe_ix ix_list (pe_call (ok_tense_lines T) hr (by rfl) T.g_tense_lines T.F_tense_lines.kp T.b_tense_lines .nil pass0 (pa_cons (pv 5) (pa_cons (pv 3) pa_nil))) (pe_un un_neg pe_int) (fun _ _ => rfl))))
      (pss_cons (ps_set (i := 6) sc_put_line.nd rfl (by first | exact Or.inl rfl | exact Or.inr rfl) (pe_lst pa_nil))
      (pss_cons (ps_for PassesOwn.never rfl (pi_list (pv 2)) (pg_name (i := 7) sc_put_line.nd rfl (by first | exact Or.inl rfl | exact Or.inr rfl)) (pss_one (ps_if (pt_cmpR op_eq (pe_ix ix_seq (pv 7) pe_int (fun _ _ => rfl)) pe_str (nomark _)) (pss_one (ps_expr (pe_bm PySem.F.plainAttrs_list PySem.F.slot_list_append PySem.F.type_list_append mt_append (pv 6) (pa_cons (pe_ix ix_list (pv 4) (pe_bm PySem.F.plainAttrs_str PySem.F.slot_str_index PySem.F.type_str_index mt_sindex (pv 0) (pa_cons (pe_ix ix_seq (pv 7) pe_int (fun _ _ => rfl)) pa_nil)) (fun _ _ => rfl)) pa_nil)))) (pss_one (ps_expr (pe_bm PySem.F.plainAttrs_list PySem.F.slot_list_append PySem.F.type_list_append mt_append (pv 6) (pa_cons (pe_lc (own := [("_law_k", 8)]) (g := (gName 8)) (tt := tYes) rfl sc_put_line.nd (pi_range1 (by rfl) (T.free_range) (pa_cons (pe_callB call_len (by rfl) (T.free_len) (by decide +kernel) (pa_cons (pv 3) pa_nil)) pa_nil)) (blkOk_by (own := [("_law_k", 8)]) (N := n_put_line) (sc := defScope s_put_line) (by decide +kernel)) (fun _ _ _ _ _ => (pg_name (i := 8) sc_put_line.nd rfl (Or.inl rfl))) (fun _ _ _ _ _ => pts_nil) (fun _ _ _ _ _ => (pe_call (ok_tense_holds T) (hr.mono (by decide)) (by rfl) T.g_tense_holds T.F_tense_holds.kp T.b_tense_holds .nil pass0 (pa_cons (pv 7) (pa_cons (pv 6) (pa_cons (pv 3) (pa_cons (pv 8) pa_nil))))))) pa_nil)))))))
      (pss_one (ps_ret (pe_ix ix_list (pv 6) (pe_un un_neg pe_int) (fun _ _ => rfl)))))))
end
end K71
set_option Elab.async false
set_option linter.all false
set_option maxRecDepth 100000
set_option maxHeartbeats 8000000
namespace K71
open PySem PySem.Spec PyProof.Rows L2 Sh
open SX (S)
def names6 : List (List Nat) := [[97, 98], [97, 98, 99], [98, 100], [97], [97, 99], [97, 101, 104]]
def rawP (l : Bool) : Part → RawP
  | .c b => .mk l (cnm b) (some 0) []
  | .letter a => .mk l "letter" none [.str (S [a])]
  | .un u i => .mk l u.nm (some 1) [.int (i : Int)]
  | .bin u i j => .mk l u.nm (some 2) [.int (i : Int), .int (j : Int)]
theorem rawP_d (l : Bool) (p : Part) : (rawP l p).d = partD l p := by cases p <;> rfl
theorem rawP_ok (l : Bool) (p : Part) : (rawP l p).ok := by
  cases p with
  | c b => exact ⟨by cases b <;> simp [widthO, cnm], fun x h => by simp at h, by show 0 ≤ 1000; decide⟩
  | letter a =>
    refine ⟨by simp [widthO], fun x h => ?_, by show 1 ≤ 1000; decide⟩
    obtain rfl := List.mem_singleton.mp h
    exact decide_eq_true (show (S [a]).length ≤ 1000000 by rw [S_length]; show 1 ≤ 1000000; decide)
  | un u i =>
    refine ⟨by cases u <;> simp [widthO, U1.nm], fun x h => ?_, by show 1 ≤ 1000; decide⟩
    obtain rfl := List.mem_singleton.mp h
    rfl
  | bin u i j =>
    refine ⟨by cases u <;> simp [widthO, U2.nm], fun x h => ?_, by show 2 ≤ 1000; decide⟩
    have h2 : x = .int (i : Int) ∨ x = .int (j : Int) := by simpa using h
    rcases h2 with rfl | rfl <;> rfl
theorem isIntIn_lt {n i : Nat} (h : i < n) : isIntIn 0 ((n : Int) - 1) (.int (i : Int)) = true := by
  show (decide ((0 : Int) ≤ i) && decide ((i : Int) ≤ (n : Int) - 1)) = true
  rw [decide_eq_true (show (0 : Int) ≤ (i : Int) by omega), decide_eq_true (show (i : Int) ≤ (n : Int) - 1 by omega)]
  rfl
theorem isIntIn_ge {n i : Nat} (h : n ≤ i) : isIntIn 0 ((n : Int) - 1) (.int (i : Int)) = false := by
  show (decide ((0 : Int) ≤ i) && decide ((i : Int) ≤ (n : Int) - 1)) = false
  rw [decide_eq_false (show ¬ (i : Int) ≤ (n : Int) - 1 by omega), Bool.and_false]
theorem isLetterD_1 (al : List Nat) (a : Nat) : isLetterD al (.str (S [a])) = decide (a ∈ al) := by
  have e : isLetterD al (.str (S [a])) = (decide ((S [a]).length = 1) && [a].all fun c => decide (c ∈ al)) := rfl
  rw [e, S_length]
  simp
theorem rawP_good {al : List Nat} {k : Nat} (l : Bool) {p : Part} (h : p.ok al k) : (rawP l p).good al k = true := by
  cases p with
  | c b => cases b <;> rfl
  | letter a =>
    show (if 1 = 1 ∧ ("letter" : Str) = "letter" then isLetterD al (.str (S [a])) else refersD k none [.str (S [a])]) = true
    rw [if_pos ⟨rfl, rfl⟩, isLetterD_1]
    exact decide_eq_true h
  | un u i =>
    have hu : ¬ (1 = 1 ∧ u.nm = ("letter" : Str)) := by cases u <;> decide
    show (if 1 = 1 ∧ u.nm = ("letter" : Str) then isLetterD al (.int (i : Int)) else refersD k (some 1) [.int (i : Int)]) = true
    rw [if_neg hu]
    show (decide (((1 : Nat) : Int) = 1) && [isIntIn 0 ((k : Int) - 1) (.int (i : Int))].all id) = true
    rw [isIntIn_lt h]
    rfl
  | bin u i j =>
    show (if 2 = 1 ∧ u.nm = ("letter" : Str) then isLetterD al (.int (i : Int)) else refersD k (some 2) [.int (i : Int), .int (j : Int)]) = true
    rw [if_neg (fun z => by omega)]
    show (decide (((2 : Nat) : Int) = 2) && [isIntIn 0 ((k : Int) - 1) (.int (i : Int)), isIntIn 0 ((k : Int) - 1) (.int (j : Int))].all id) = true
    rw [isIntIn_lt h.1, isIntIn_lt h.2]
    rfl
def menuR (n : Nat) (st db : Str) : List RawP := [.mk false "letter" none [.str st], .mk false "letter" none [.str ""], .mk false "letter" none [.str db], .mk false "not" (some 1) [.int (n : Int)], .mk false "and" (some 2) [.int 0], .mk false "until" (some 2) [.int (n : Int), .int 0], .mk false "yes" (some 0) [.int 0], .other .none, .other (.str "yes"),
  .mk false "some" none [.str "x", .int 0], .mk false "not" (some 1) [.bool true], .mk false "prev" (some 1) [.int (-1)], .nil false, .mk false "letter" none [.int 0], .mk false "next" (some 1) [.str "0"]]
theorem menuR_ok {n : Nat} {st db : Str} (h1 : st.length ≤ 1000000) (h2 : db.length ≤ 1000000) : ∀ p ∈ menuR n st db, p.ok := by
  have f1 : flatD (.str st) = true := decide_eq_true h1
  have f2 : flatD (.str db) = true := decide_eq_true h2
  have mk : ∀ (z : Str) (o : Option Int) (r : List PyData), (z, o) ∈ widthO → r.all flatD = true → r.length ≤ 1000 → (RawP.mk false z o r).ok := fun z o r a b c => ⟨a, fun x hx => List.all_eq_true.mp b x hx, c⟩
  intro p hp
  simp only [menuR, List.mem_cons, List.not_mem_nil, or_false] at hp
  rcases hp with rfl | rfl | rfl | rfl | rfl | rfl | rfl | rfl | rfl | rfl | rfl | rfl | rfl | rfl | rfl
  all_goals first | exact rfl | exact trivial | exact mk _ _ _ (by simp [widthO]) (by simp only [List.all_cons, List.all_nil, f1, f2]; rfl) (by simp)
theorem menuR_bad {al : List Nat} {n : Nat} {st db : Str} (h1 : isLetterD al (.str st) = false) (h2 : isLetterD al (.str db) = false) : ∀ p ∈ menuR n st db, p.good al n = false := by
  have hn := isIntIn_ge (Nat.le_refl n)
  have lt : ∀ d : PyData, isLetterD al d = false → (RawP.mk false "letter" none [d]).good al n = false := fun d h => by
    show (if 1 = 1 ∧ ("letter" : Str) = "letter" then isLetterD al d else refersD n none [d]) = false
    rw [if_pos ⟨rfl, rfl⟩]
    exact h
  have ot : ∀ (z : Str) (o : Option Int) (r : List PyData), z ≠ "letter" → refersD n o r = false → (RawP.mk false z o r).good al n = false := fun z o r hz h => by
    show (if r.length = 1 ∧ z = "letter" then isLetterD al (r.getD 0 .none) else refersD n o r) = false
    rw [if_neg fun z => hz z.2]
    exact h
  intro p hp
  simp only [menuR, List.mem_cons, List.not_mem_nil, or_false] at hp
  rcases hp with rfl | rfl | rfl | rfl | rfl | rfl | rfl | rfl | rfl | rfl | rfl | rfl | rfl | rfl | rfl
  · exact lt _ h1
  · exact lt _ rfl
  · exact lt _ h2
  · refine ot _ _ _ (by decide) ?_
    show (decide (((1 : Nat) : Int) = 1) && [isIntIn 0 ((n : Int) - 1) (.int (n : Int))].all id) = false
    rw [hn]; rfl
  · exact ot _ _ _ (by decide) rfl
  · refine ot _ _ _ (by decide) ?_
    show (decide (((2 : Nat) : Int) = 2) && [isIntIn 0 ((n : Int) - 1) (.int (n : Int)), isIntIn 0 ((n : Int) - 1) (.int 0)].all id) = false
    rw [hn]; rfl
  · exact ot _ _ _ (by decide) rfl
  · rfl
  · rfl
  · exact ot _ _ _ (by decide) rfl
  · exact ot _ _ _ (by decide) rfl
  · refine ot _ _ _ (by decide) ?_
    show (decide (((1 : Nat) : Int) = 1) && [decide ((0 : Int) ≤ -1) && decide ((-1 : Int) ≤ (n : Int) - 1)].all id) = false
    rfl
  · rfl
  · exact lt _ rfl
  · exact ot _ _ _ (by decide) rfl
/-- a sheet with one part spoilt -/
def spoiltG (l : Bool) (ps : List Part) (n : Nat) (r : RawP) : GS := .spoilt true ((ps.map (rawP l)).set n r) n
theorem spoiltG_ok {al : List Nat} {l : Bool} {ps : List Part} {n : Nat} {r : RawP} (wf : WF al ps) (hp : ps.length ≤ 6000) (hn : n < ps.length) (h1 : r.ok) (h2 : r.good al n = false) : (spoiltG l ps n r).ok al := by
  have hl : ((ps.map (rawP l)).set n r).length = ps.length := by rw [List.length_set, List.length_map]
  refine ⟨by rw [hl]; omega, by rw [hl]; omega, fun p hm => ?_, fun j p hj e => ?_, r, ?_, h2⟩
  · rcases List.mem_or_eq_of_mem_set hm with hm | rfl
    · obtain ⟨q, _, rfl⟩ := List.mem_map.mp hm
      exact rawP_ok l q
    · exact h1
  · rw [List.getElem?_set_ne (by omega), List.getElem?_map] at e
    cases e2 : ps[j]? with
    | none => rw [e2] at e; cases e
    | some q =>
      rw [e2] at e
      cases e
      exact rawP_good l (wf j q e2)
  · rw [List.getElem?_set_self (by rw [List.length_map]; exact hn)]
theorem spoiltG_d (l : Bool) (ps : List Part) (n : Nat) (r : RawP) : (spoiltG l ps n r).d = .list ((ps.map (partD l)).set n r.d) := by
  show PyData.list ((((ps.map (rawP l)).set n r)).map RawP.d) = _
  rw [List.map_set, List.map_map, show RawP.d ∘ rawP l = partD l from funext fun p => rawP_d l p]
end K71
set_option Elab.async false
set_option linter.all false
set_option maxRecDepth 100000
set_option maxHeartbeats 8000000
namespace K71
open PySem PySem.Spec PyProof.Rows L2 Sh
open SX (S)
local macro_rules | `(tactic| walk_at "v1") => `(tactic| first
  | with_reducible refine v_seq ?_ | with_reducible refine v_asg ?_ | ((with_reducible refine' v_name ?e ?_); (case e => exact rfl)) | with_reducible refine v_ret ?_ | with_reducible refine v_drop ?_ | with_reducible refine v_next ?_
  | with_reducible refine v_if ?_ | with_reducible refine v_op ?_ | with_reducible refine v_c ?_ | ((with_reducible refine' v_var ?e ?_); (case e => exact rfl))
  | with_reducible refine v_I0 ?_ | with_reducible refine v_test ?_ | with_reducible refine v_B ?_ | with_reducible refine v_bl ?_ | with_reducible refine v_not ?_ | with_reducible refine v_and ?_ | with_reducible refine v_or ?_
  | with_reducible refine v_andV ?_ | with_reducible refine v_orV ?_ | with_reducible refine v_notV ?_ | with_reducible refine v_ife ?_
  | with_reducible refine v_nil ?_ | with_reducible refine v_cons ?_ | with_reducible refine v_tup ?_ | with_reducible refine v_lst ?_ | with_reducible refine v_call ?_ | with_reducible refine v_cb ?_ | with_reducible refine v_int ?_ | with_reducible refine v_abs ?_
  | ((with_reducible refine' v_eq ?e ?_); (case e => exact rfl)) | ((with_reducible refine' v_ne ?e ?_); (case e => exact rfl)) | with_reducible refine v_sub ?_ | with_reducible refine v_isN ?_ | with_reducible refine v_notN ?_
  | with_reducible refine v_part ?_ | with_reducible refine v_nopart ?_ | with_reducible refine v_pint ?_ | with_reducible refine v_inSg ?_ | with_reducible refine v_notInSg ?_
  | ((with_reducible refine' v_ixL ?l ?a ?_); (case l => assumption); (case a => exact at_lit _ rfl)) | ((with_reducible refine' v_ixT ?l ?a ?_); (case l => assumption); (case a => exact at_lit _ rfl))
  | ((with_reducible refine v_I ?c ?_); (case c => (first | omega | (unfold CMul; omega) | (unfold CDivN; omega) | (unfold CPow; omega))))
  | with_reducible refine v_for ?_ | with_reducible refine v_iList ?_ | with_reducible refine v_iTup ?_ | with_reducible refine v_iStr ?_ | with_reducible refine v_iR1 ?_ | with_reducible refine v_iR2 ?_ | with_reducible refine v_atS ?_ | with_reducible refine v_sl ?_ | with_reducible refine v_lc ?_ | with_reducible refine v_yes ?_
  | with_reducible refine v_m1 ?_ | with_reducible refine v_m1S ?_ | with_reducible refine v_bm ?_ | with_reducible refine v_bm0 ?_ | with_reducible refine v_dnewK ?_ | with_reducible refine v_dnewT ?_ | with_reducible refine v_dget ?_ | with_reducible refine v_din ?_ | with_reducible refine v_dnotin ?_ | with_reducible refine v_dput ?_ | with_reducible refine v_chain ?_ | with_reducible refine v_un ?_ | with_reducible refine v_neg ?_
  | with_reducible refine v_brk ?_ | with_reducible refine v_cont ?_)
local macro_rules | `(tactic| walk_at "v") => `(tactic| repeat (walk_at "v1"))
local macro_rules | `(tactic| walk_at "vm") => `(tactic| repeat (first | ((with_reducible refine v_modP ?c ?_); (case c => omega); (intro _ _ _)) | walk_at "v1"))
local macro_rules | `(tactic| walk_at "iv") => `(tactic| (try dsimp only; refine IV.mk (by assumption) (by assumption) ?_))
local macro_rules | `(tactic| walk_at "n") => `(tactic| dsimp only [List.set_cons_zero, List.set_cons_succ])
theorem strange6 : ∀ al ∈ names6, ∃ c rest, (lettersL.filter fun c => !decide (c ∈ al)) = c :: rest ∧ isLetterD al (.str (S [c])) = false := by
  intro al hal
  simp only [names6, List.mem_cons, List.not_mem_nil, or_false] at hal
  rcases hal with rfl | rfl | rfl | rfl | rfl | rfl <;> exact ⟨_, _, rfl, by decide⟩
def dbl (al : List Nat) : Str := cutS (Txt.mul (S al) 2) none (some 2)
theorem dbl6 : ∀ al ∈ names6, MulOk (S al) 2 ∧ isLetterD al (.str (dbl al)) = false ∧ (dbl al).length ≤ 1000000 ∧ (Txt.mul (S al) 2).length ≤ 1000 := by
  intro al hal
  simp only [names6, List.mem_cons, List.not_mem_nil, or_false] at hal
  rcases hal with rfl | rfl | rfl | rfl | rfl | rfl <;> exact ⟨⟨by decide, fun _ _ => by decide, fun _ _ => by decide⟩, by decide, by decide, by decide⟩
def sp_spoilt (K : PySem.W.Frag) : Sp := fun vs H Q _ => ∃ (B : Hp) (M : List (Addr × HO)) (a : Addr) (d sd c : Int) (al : List Nat) (li : Bool) (ps : List Part) (v : V), vs = [.ref a, .str (S al), v] ∧ Hs B ((a, SrcO d sd c) :: M) H ∧ al ∈ names6 ∧ Rp K B v (sheetD true li ps) ∧ WF al ps ∧ 1 ≤ ps.length ∧ ps.length ≤ 100 ∧
  ∀ (p : Addr) (x : V) (g : GS) (n : Int) (d' c' : Int) (B' H' : Hp), Le B B' → Hs B' ((a, SrcO d' sd c') :: M) H' → B' p = some (.tup [x, .int n]) → Rp K B' x g.d → g.ok al → g.num = some n → n.natAbs ≤ 1000 → Q (.ref p) H'
def t_spoilt (K : PySem.W.Frag) : TS := (tSeq (tIfS (tTest (tOp rEq (tCall (sp_pick K) [] E0 (tCons (tVar 0) (tCons (tC (.int 4)) tNil))) (tC (.int 1)))) (tRet (tTup (tCons (tOp (rIxL K) (tLst (tCons (tC .non) (tCons (tTup tNil) (tCons tDNewK (tCons (tC (.str "ab")) (tCons (tC (.int 5)) tNil)))))) (tCall (sp_pick K) [] E0 (tCons (tVar 0) (tCons (tC (.int 5)) tNil)))) (tCons (tUn (rU fun i => .int (-i)) (tC (.int 1))) tNil)))) tNext)
    (tSeq (tAsg (tCall (sp_pick K) [] E0 (tCons (tVar 0) (tCons (tCB (rCLen K) (tCons (tVar 2) tNil)) tNil))) (gName 3))
    (tSeq (tAsg (tOp (rIxL K) (tLc (iStr (tC (.str "abcdefgh"))) (gName 5) (tTest (tOp rNotInSg (tVar 5) (tVar 1))) (tVar 5) [5]) (tC (.int 0))) (gName 4))
    (tSeq (tAsg (tSl rSlS (tOp rRepS (tVar 1) (tC (.int 2))) tNoPart (tPart (tC (.int 2)))) (gName 6))
    (tSeq (tAsg (tLst (tCons (tTup (tCons (tC (.str "letter")) (tCons (tVar 4) tNil))) (tCons (tTup (tCons (tC (.str "letter")) (tCons (tC (.str "")) tNil))) (tCons (tTup (tCons (tC (.str "letter")) (tCons (tVar 6) tNil))) (tCons (tTup (tCons (tC (.str "not")) (tCons (tVar 3) tNil))) (tCons (tTup (tCons (tC (.str "and")) (tCons (tC (.int 0)) tNil))) (tCons (tTup (tCons (tC (.str "until")) (tCons (tVar 3) (tCons (tC (.int 0)) tNil)))) (tCons (tTup (tCons (tC (.str "yes")) (tCons (tC (.int 0)) tNil))) (tCons (tC .non) (tCons (tC (.str "yes")) (tCons (tTup (tCons (tC (.str "some")) (tCons (tC (.str "x")) (tCons (tC (.int 0)) tNil)))) (tCons (tTup (tCons (tC (.str "not")) (tCons (tC (.bl true)) tNil))) (tCons (tTup (tCons (tC (.str "prev")) (tCons (tUn (rU fun i => .int (-i)) (tC (.int 1))) tNil))) (tCons (tTup tNil) (tCons (tTup (tCons (tC (.str "letter")) (tCons (tC (.int 0)) tNil))) (tCons (tTup (tCons (tC (.str "next")) (tCons (tC (.str "0")) tNil))) tNil)))))))))))))))) (gName 7))
    (tSeq (tAsg (tCB (rCList K) (tCons (tVar 2) tNil)) (gName 8))
    (tSeq (tAsg (tOp (rIxL K) (tVar 7) (tCall (sp_pick K) [] E0 (tCons (tVar 0) (tCons (tCB (rCLen K) (tCons (tVar 7) tNil)) tNil)))) (gSub (tVar 8) (tVar 3) rSetL))
    (tRet (tTup (tCons (tVar 8) (tCons (tVar 3) tNil)))))))))))
theorem pure_spoilt {K : PySem.W.Frag} (vs : List V) (H : Hp) (Q : VK) (E : XK) (h : sp_spoilt K vs H Q E) : t_spoilt K { nx := fun _ H' => Q .non H', rt := Q } (start n_spoilt vs) H := by
  obtain ⟨B, M, a, d, sd, c, al, li, ps, v, rfl, hs, hal, hv, wf, p1, p100, q⟩ := h
  obtain ⟨sa, xs, rfl, hS, hX⟩ := rp_mk (l := true) hv
  have xl : xs.length = ps.length := by rw [hX.length, List.length_map]
  obtain ⟨mok, hdb, dl, ml⟩ := dbl6 al hal
  obtain ⟨sc, rest, est, hst⟩ := strange6 al hal
  have al8 : al.length ≤ 8 := by
    simp only [names6, List.mem_cons, List.not_mem_nil, or_false] at hal
    rcases hal with rfl | rfl | rfl | rfl | rfl | rfl <;> decide
  show t_spoilt K _ [some (V.ref a), some (V.str (S al)), some (V.ref sa), none, none, none, none, none, none] H
  unfold t_spoilt
  walk_at "v"
  refine v_pick hs (by omega) (by omega) fun r d1 c1 H1 r0 r1 h1 => ?_
  clear hs
  walk_at "v"
  refine ite2 (fun c0 => ?_) (fun c0 => ?_)
  · walk_at "v"
    refine v_size (by show 0 ≤ sizeLine; decide) (v_newB h1 fun ta B2 H2 l2 h2 e2 => ?_)
    walk_at "v"
    refine v_newB h2 fun da B3 H3 l3 h3 e3 => ?_
    walk_at "v"
    refine v_size (by show 5 ≤ sizeLine; decide) (v_newB h3 fun la B4 H4 l4 h4 e4 => ?_)
    walk_at "v"
    refine v_pick h4 (by omega) (by omega) fun k d5 c5 H5 k0 k1 h5 => ?_
    have hR : RpAll K B4 [V.non, .ref ta, .ref da, .str "ab", .int 5] [.none, .tuple [], .dict [], .str "ab", .int 5] :=
      .cons .non (.cons (.tup (l4 _ _ (l3 _ _ e2)) .nil) (.cons (.emp (.inl (l4 _ _ e3))) (.cons (.str _) (.cons (.int _) .nil))))
    have bad : ∀ dx ∈ [PyData.none, .tuple [], .dict [], .str "ab", .int 5], sheetLikeD dx = false := fun dx hd => by
      simp only [List.mem_cons, List.not_mem_nil, or_false] at hd
      rcases hd with rfl | rfl | rfl | rfl | rfl <;> rfl
    obtain ⟨n, rfl⟩ : ∃ n : Nat, k = (n : Int) := ⟨k.toNat, by omega⟩
    obtain ⟨dx, hdx⟩ : ∃ dx, [PyData.none, .tuple [], .dict [], .str "ab", .int 5][n]? = some dx := ⟨_, List.getElem?_eq_getElem (by show n < 5; omega)⟩
    obtain ⟨x, ex, hx⟩ := hR.get hdx
    refine v_ixL (v := x) (h5.l (SqL.of e4)) (atI_nat ex) ?_
    walk_at "v"
    refine v_size (by show 2 ≤ sizeLine; decide) (v_newB h5 fun p B6 H6 l6 h6 e6 => ?_)
    exact q p x (.bad dx) (-1) _ _ B6 H6 (l2.trans (l3.trans (l4.trans l6))) h6 e6 (hx.up l6) (bad dx (List.mem_of_getElem? hdx)) rfl (by decide)
  · walk_at "v"
    refine v_lenL (h1.l hS) ?_
    walk_at "v"
    refine v_pick h1 (by omega) (by omega) fun k d2 c2 H2 k0 k1 h2 => ?_
    obtain ⟨n, rfl⟩ : ∃ n : Nat, k = (n : Int) := ⟨k.toNat, by omega⟩
    have hn : n < ps.length := by omega
    (with_reducible refine v_name rfl ?_)
    walk_at "n"
    (with_reducible refine v_seq ?_)
    (with_reducible refine v_asg ?_)
    (with_reducible refine v_op ?_)
    (with_reducible refine v_lc ?_)
    walk_at "v"
    refine v_lcS (z := "abcdefgh") h2 (fun i acc B' M' => M' = (a, SrcO d2 sd c2) :: M ∧ acc = ((lettersL.take i).filter fun c => !decide (c ∈ al)).map fun c => V.str (S [c])) ⟨rfl, rfl⟩ ?_ ?_
    · rintro i ch p acc B3 M' H3 hi hc ha l3 h3 ⟨rfl, rfl⟩
      have hc2 : lettersL[i]? = some ch := by
        rw [← S_get]
        exact hc
      walk_at "v"
      refine ⟨rfl, ?_⟩
      walk_at "v"
      have st : lettersL.take (i + 1) = lettersL.take i ++ [ch] := by rw [List.take_add_one, hc2]; rfl
      by_cases hm : ch ∈ al
      · refine iteF' (by rw [decide_eq_true (show ch ∈ (S al).cps.toList from hm)]; rfl) (IP.mk (by omega) l3 h3 ⟨rfl, ?_⟩)
        rw [st, List.filter_append, List.map_append, List.filter_cons, decide_eq_true hm]
        exact (List.append_nil _).symm
      · refine iteT' (by rw [decide_eq_false (show ¬ ch ∈ (S al).cps.toList from hm)]; rfl) ?_
        walk_at "v"
        refine IE.mk ha hi (by show 8 ≤ 1000000; decide) l3 h3 ⟨rfl, ?_⟩
        rw [st, List.filter_append, List.map_append, List.filter_cons, decide_eq_false hm]
        rfl
    · rintro p acc B3 M' H3 ha l3 h3 ⟨rfl, rfl⟩
      rw [show (("abcdefgh" : Str).cps.size) = lettersL.length from rfl, List.take_length, est, List.map_cons] at h3
      walk_at "v"
      refine v_ixL (v := .str (S [sc])) (SqL.of h3.hd) (at_lit 0 rfl) ?_
      have h4 := h3.drop
      walk_at "v"
      refine ⟨S al, 2, rfl, rfl, mok, ?_⟩
      walk_at "v"
      refine v_slS (sz_of (by omega)) ?_
      rw [show cutS (Txt.mul (S al) 2) none (some 2) = dbl al from rfl]
      walk_at "v"
      refine v_size (by show 2 ≤ sizeLine; decide) (v_newB h4 fun t0 C0 G0 m0 g0 e0 => ?_)
      walk_at "v"
      refine v_size (by show 2 ≤ sizeLine; decide) (v_newB g0 fun t1 C1 G1 m1 g1 e1 => ?_)
      walk_at "v"
      refine v_size (by show 2 ≤ sizeLine; decide) (v_newB g1 fun t2 C2 G2 m2 g2 e2 => ?_)
      walk_at "v"
      refine v_size (by show 2 ≤ sizeLine; decide) (v_newB g2 fun t3 C3 G3 m3 g3 e3 => ?_)
      walk_at "v"
      refine v_size (by show 2 ≤ sizeLine; decide) (v_newB g3 fun t4 C4 G4 m4 g4 e4 => ?_)
      walk_at "v"
      refine v_size (by show 3 ≤ sizeLine; decide) (v_newB g4 fun t5 C5 G5 m5 g5 e5 => ?_)
      walk_at "v"
      refine v_size (by show 2 ≤ sizeLine; decide) (v_newB g5 fun t6 C6 G6 m6 g6 e6 => ?_)
      walk_at "v"
      refine v_size (by show 3 ≤ sizeLine; decide) (v_newB g6 fun t9 C9 G9 m9 g9 e9 => ?_)
      walk_at "v"
      refine v_size (by show 2 ≤ sizeLine; decide) (v_newB g9 fun t10 C10 G10 m10 g10 e10 => ?_)
      walk_at "v"
      refine v_size (by show 2 ≤ sizeLine; decide) (v_newB g10 fun t11 C11 G11 m11 g11 e11 => ?_)
      walk_at "v"
      refine v_size (by show 0 ≤ sizeLine; decide) (v_newB g11 fun t12 C12 G12 m12 g12 e12 => ?_)
      walk_at "v"
      refine v_size (by show 2 ≤ sizeLine; decide) (v_newB g12 fun t13 C13 G13 m13 g13 e13 => ?_)
      walk_at "v"
      refine v_size (by show 2 ≤ sizeLine; decide) (v_newB g13 fun t14 C14 G14 m14 g14 e14 => ?_)
      walk_at "v"
      have z14 := Same.refl C14
      have z13 := m14.trans z14
      have z12 := m13.trans z13
      have z11 := m12.trans z12
      have z10 := m11.trans z11
      have z9 := m10.trans z10
      have z6 := m9.trans z9
      have z5 := m6.trans z6
      have z4 := m5.trans z5
      have z3 := m4.trans z4
      have z2 := m3.trans z3
      have z1 := m2.trans z2
      have z0 := m1.trans z1
      have hR : RpAll K C14 [.ref t0, .ref t1, .ref t2, .ref t3, .ref t4, .ref t5, .ref t6, .non, .str "yes", .ref t9, .ref t10, .ref t11, .ref t12, .ref t13, .ref t14] ((menuR n (S [sc]) (dbl al)).map RawP.d) :=
        .cons (.tup (z0 _ _ e0) (.cons (.str _) (.cons (.str _) .nil))) (.cons (.tup (z1 _ _ e1) (.cons (.str _) (.cons (.str _) .nil))) (.cons (.tup (z2 _ _ e2) (.cons (.str _) (.cons (.str _) .nil))) (.cons (.tup (z3 _ _ e3) (.cons (.str _) (.cons (.int _) .nil))) (.cons (.tup (z4 _ _ e4) (.cons (.str _) (.cons (.int _) .nil))) (.cons (.tup (z5 _ _ e5) (.cons (.str _) (.cons (.int _) (.cons (.int _) .nil)))) (.cons (.tup (z6 _ _ e6) (.cons (.str _) (.cons (.int _) .nil))) (.cons (.non) (.cons (.str _) (.cons (.tup (z9 _ _ e9) (.cons (.str _) (.cons (.str _) (.cons (.int _) .nil)))) (.cons (.tup (z10 _ _ e10) (.cons (.str _) (.cons (.bl _) .nil))) (.cons (.tup (z11 _ _ e11) (.cons (.str _) (.cons (.int _) .nil))) (.cons (.tup (z12 _ _ e12) (.nil)) (.cons (.tup (z13 _ _ e13) (.cons (.str _) (.cons (.int _) .nil))) (.cons (.tup (z14 _ _ e14) (.cons (.str _) (.cons (.str _) .nil))) .nil))))))))))))))
      have l4 := m0.trans z0
      refine v_size (by show 15 ≤ sizeLine; decide) (v_newB g14 fun mn C15 G15 m15 g15 e15 => ?_)
      walk_at "v"
      have l2' := l3.trans (l4.trans m15)
      refine v_listL (g15.l (le_l l2' hS)) (v_newM g15 fun cp G16 g16 => ?_)
      walk_at "v"
      refine v_lenL (g16.l (SqL.of e15)) ?_
      walk_at "v"
      refine v_pick g16.sw (by show (0 : Int) < 15; decide) (by show (15 : Int) < 2 ^ 30; decide) fun k d3 c3 G17 k0 k1 g17 => ?_
      obtain ⟨m, rfl⟩ : ∃ m : Nat, k = (m : Int) := ⟨k.toNat, by omega⟩
      have k15 : m < 15 := by
        have : (m : Int) < 15 := k1
        omega
      obtain ⟨rw_, er⟩ : ∃ r, (menuR n (S [sc]) (dbl al))[m]? = some r := ⟨_, List.getElem?_eq_getElem (show m < 15 from k15)⟩
      obtain ⟨x, ex, hx⟩ := hR.get (i := m) (d := rw_.d) (by rw [List.getElem?_map, er]; rfl)
      refine v_ixL (v := x) (g17.l (SqL.of e15)) (atI_nat ex) ?_
      walk_at "v"
      refine v_setL (j := n) (g17.atI 1 rfl) ?_ ?_
      · rw [xl, ixN, if_pos (by omega), if_pos (by omega)]; simp
      have g18 := g17.wrI (o' := .lst (xs.set n x)) 1 rfl
      walk_at "v"
      obtain ⟨g19, m19⟩ := (show Hs C15 ((cp, .lst (xs.set n x)) :: (a, SrcO d3 sd c3) :: M) _ from g18.sw).fix
      have l19 := l2'.trans m19
      refine v_size (by show 2 ≤ sizeLine; decide) (v_newB g19 fun p C20 G20 m20 g20 e20 => ?_)
      have rok := menuR_ok (n := n) (st := S [sc]) (db := dbl al) (by rw [S_length]; show 1 ≤ 1000000; decide) dl rw_ (List.mem_of_getElem? er)
      have rbad := menuR_bad (n := n) hst hdb rw_ (List.mem_of_getElem? er)
      refine q p (.ref cp) (spoiltG li ps n rw_) (n : Int) _ _ C20 G20 (l19.trans m20) g20 e20 ?_ (spoiltG_ok wf (by omega) hn rok rbad) rfl (by omega)
      rw [spoiltG_d]
      refine .lst (SqL.of (m20 _ _ upd_same)) ?_
      exact RpAll.set (hx.up (m15.trans (m19.trans m20))) n (hX.up (l19.trans m20))
section
variable {P : Program} {w : World} {K : PySem.W.Frag} {mg : Str → Option Value} {base : Heap}
theorem ok_spoilt (T : Txt K mg w) : FnOk P w K mg base CX0 2 T.a_spoilt T.fd_spoilt ["_law_source_here", "_law_alphabet", "_law_sheet"] (sp_spoilt K) := by
  refine T.F_spoilt.ok sc_spoilt (fun vs H Q E h => ?_) (fun cdv A outer s H vs Q E hr h => ⟨t_spoilt K, ?_, pure_spoilt vs H Q E h⟩)
  · obtain ⟨B, M, a, d, sd, c, al, li, ps, v, rfl, _⟩ := h
    rfl
  · exact (pss_cons (ps_if (pt_cmpR op_eq (pe_call (ok_pick T) hr (by rfl) T.g_pick T.F_pick.kp T.b_pick .nil pass0 (pa_cons (pv 0) (pa_cons pe_int pa_nil))) pe_int (nomark _)) (pss_one (ps_ret (pe_tup (pa_cons (pe_ix ix_list (pe_lst (pa_cons pe_non (pa_cons (pe_tup pa_nil) (pa_cons pe_dnewK (pa_cons pe_str (pa_cons pe_int pa_nil)))))) (pe_call (ok_pick T) hr (by rfl) T.g_pick T.F_pick.kp T.b_pick .nil pass0 (pa_cons (pv 0) (pa_cons pe_int pa_nil))) (fun _ _ => rfl)) (pa_cons (pe_un un_neg pe_int) pa_nil))))) pss_nil)
      (pss_cons (ps_set (i := 3) sc_spoilt.nd rfl (by first | exact Or.inl rfl | exact Or.inr rfl) (pe_call (ok_pick T) hr (by rfl) T.g_pick T.F_pick.kp T.b_pick .nil pass0 (pa_cons (pv 0) (pa_cons (pe_callB call_len (by rfl) (T.free_len) (by decide +kernel) (pa_cons (pv 2) pa_nil)) pa_nil))))
      (pss_cons (ps_set (i := 4) sc_spoilt.nd rfl (by first | exact Or.inl rfl | exact Or.inr rfl) (pe_ix ix_list (pe_lc (own := [("_law_one", 5)]) (g := (gName 5)) (tt := (tTest (tOp rNotInSg (tVar 5) (tVar 1)))) rfl sc_spoilt.nd (pi_str pe_str) (blkOk_by (own := [("_law_one", 5)]) (N := n_spoilt) (sc := defScope s_spoilt) (by decide +kernel)) (fun _ _ _ _ _ => (pg_name (i := 5) sc_spoilt.nd rfl (Or.inl rfl))) (fun _ _ _ _ _ => (pts_one (pt_cmpR op_notIn_sign (pv 5) (pv 1) (by rfl)))) (fun _ _ _ _ _ => (pv 5))) pe_int (fun _ _ => rfl)))
      (pss_cons (ps_set (i := 6) sc_spoilt.nd rfl (by first | exact Or.inl rfl | exact Or.inr rfl) (pe_slice sl_str (pe_op op_repS (pv 1) pe_int) po_none (po_some pe_int)))
      (pss_cons (ps_set (i := 7) sc_spoilt.nd rfl (by first | exact Or.inl rfl | exact Or.inr rfl) (pe_lst (pa_cons (pe_tup (pa_cons pe_str (pa_cons (pv 4) pa_nil))) (pa_cons (pe_tup (pa_cons pe_str (pa_cons pe_str pa_nil))) (pa_cons (pe_tup (pa_cons pe_str (pa_cons (pv 6) pa_nil))) (pa_cons (pe_tup (pa_cons pe_str (pa_cons (pv 3) pa_nil))) (pa_cons (pe_tup (pa_cons pe_str (pa_cons pe_int pa_nil))) (pa_cons (pe_tup (pa_cons pe_str (pa_cons (pv 3) (pa_cons pe_int pa_nil)))) (pa_cons (pe_tup (pa_cons pe_str (pa_cons pe_int pa_nil))) (pa_cons pe_non (pa_cons pe_str (pa_cons (pe_tup (pa_cons pe_str (pa_cons pe_str (pa_cons pe_int pa_nil)))) (pa_cons (pe_tup (pa_cons pe_str (pa_cons pe_bl pa_nil))) (pa_cons (pe_tup (pa_cons pe_str (pa_cons (pe_un un_neg pe_int) pa_nil))) (pa_cons (pe_tup pa_nil) (pa_cons (pe_tup (pa_cons pe_str (pa_cons pe_int pa_nil))) (pa_cons (pe_tup (pa_cons pe_str (pa_cons pe_str pa_nil))) pa_nil)))))))))))))))))
      (pss_cons (ps_set (i := 8) sc_spoilt.nd rfl (by first | exact Or.inl rfl | exact Or.inr rfl) (pe_callTy call_list_of (by rfl) (T.free_list) (by decide +kernel) (pa_cons (pv 2) pa_nil)))
      (pss_cons (ps_asg (pe_ix ix_list (pv 7) (pe_call (ok_pick T) hr (by rfl) T.g_pick T.F_pick.kp T.b_pick .nil pass0 (pa_cons (pv 0) (pa_cons (pe_callB call_len (by rfl) (T.free_len) (by decide +kernel) (pa_cons (pv 7) pa_nil)) pa_nil))) (fun _ _ => rfl)) (pg_sub (pv 8) (pv 3) set_list))
      (pss_one (ps_ret (pe_tup (pa_cons (pv 8) (pa_cons (pv 3) pa_nil))))))))))))
end
end K71
set_option Elab.async false
set_option linter.all false
set_option maxRecDepth 100000
set_option maxHeartbeats 8000000
namespace K71
open PySem PySem.Spec PyProof.Rows L2 Sh
open SX (S)
structure NameOk (al : List Nat) : Prop where
  alpha : isAlphaD (.str (S al)) = true
  nd : al.Nodup
  l1 : 1 ≤ al.length
  l3 : al.length ≤ 3
  small : ∀ a ∈ al, a < 1000
  occ : ∀ a ∈ al, ∃ rest, Builtin.Str.occurrences (S al) (S [a]) 0 (S al).length 1 = al.idxOf a :: rest
theorem names_ok : ∀ al ∈ names6, NameOk al := by
  intro al hal
  simp only [names6, List.mem_cons, List.not_mem_nil, or_false] at hal
  rcases hal with rfl | rfl | rfl | rfl | rfl | rfl
  all_goals
    refine ⟨by decide +kernel, by decide, by decide, by decide, by decide, fun a ha => ⟨[], ?_⟩⟩
    simp only [List.mem_cons, List.not_mem_nil, or_false] at ha
    first
    | (subst ha; decide +kernel)
    | (rcases ha with rfl | rfl <;> decide +kernel)
    | (rcases ha with rfl | rfl | rfl <;> decide +kernel)
/-- the sheets, one spoilt, and may be the last one -/
def spoiltL (li : Bool) (gs : List (List Part)) (k : Nat) (g : GS) (e : Bool) : List GS := if e = true then ((gs.map (GS.good true li)).set k g).set (gs.length - 1) (.bad (.tuple [])) else (gs.map (GS.good true li)).set k g
theorem spoiltL_len (li : Bool) (gs : List (List Part)) (k : Nat) (g : GS) (e : Bool) : (spoiltL li gs k g e).length = gs.length := by
  unfold spoiltL
  split <;> simp
theorem good_d (li : Bool) (gs : List (List Part)) : (gs.map (GS.good true li)).map GS.d = gs.map (sheetD true li) := by
  rw [List.map_map]
  rfl
theorem spoiltL_d (li : Bool) (gs : List (List Part)) (k : Nat) (g : GS) (e : Bool) : (spoiltL li gs k g e).map GS.d = if e = true then ((gs.map (sheetD true li)).set k g.d).set (gs.length - 1) (.tuple []) else (gs.map (sheetD true li)).set k g.d := by
  unfold spoiltL
  split
  · rw [List.map_set, List.map_set, good_d]; rfl
  · rw [List.map_set, good_d]
theorem good_ok {al : List Nat} {li : Bool} {gs : List (List Part)} (h : ∀ g ∈ gs, WF al g ∧ 1 ≤ g.length ∧ g.length ≤ 8) : ∀ g ∈ gs.map (GS.good true li), g.ok al := fun g hg => by
  obtain ⟨q, hq, rfl⟩ := List.mem_map.mp hg
  obtain ⟨a, b, c⟩ := h q hq
  exact ⟨a, b, by omega⟩
theorem spoiltL_ok {al : List Nat} {li : Bool} {gs : List (List Part)} {k : Nat} {g : GS} {e : Bool} (h : ∀ g ∈ gs, WF al g ∧ 1 ≤ g.length ∧ g.length ≤ 8) (hg : g.ok al) : ∀ x ∈ spoiltL li gs k g e, x.ok al := fun x hx => by
  have one : ∀ x ∈ (gs.map (GS.good true li)).set k g, x.ok al := fun x hx => by
    rcases List.mem_or_eq_of_mem_set hx with hx | rfl
    · exact good_ok h x hx
    · exact hg
  unfold spoiltL at hx
  split at hx
  · rcases List.mem_or_eq_of_mem_set hx with hx | rfl
    · exact one x hx
    · exact rfl
  · exact one x hx
theorem spoiltL_at {li : Bool} {gs : List (List Part)} {k : Nat} {g : GS} {e : Bool} (hk : k < gs.length) (he : e = true → k + 1 < gs.length) : (spoiltL li gs k g e)[k]? = some g ∧ ∀ (j : Nat) (x : GS), j < k → (spoiltL li gs k g e)[j]? = some x → x.num = none := by
  have one : ((gs.map (GS.good true li)).set k g)[k]? = some g := List.getElem?_set_self (by rw [List.length_map]; exact hk)
  have low : ∀ (j : Nat) (x : GS), j < k → ((gs.map (GS.good true li)).set k g)[j]? = some x → x.num = none := fun j x hj ex => by
    rw [List.getElem?_set_ne (by omega), List.getElem?_map] at ex
    cases e2 : gs[j]? with
    | none => rw [e2] at ex; cases ex
    | some q => rw [e2] at ex; cases ex; rfl
  unfold spoiltL
  split
  · rename_i h
    have := he h
    refine ⟨by rw [List.getElem?_set_ne (by omega)]; exact one, fun j x hj ex => ?_⟩
    rw [List.getElem?_set_ne (by omega)] at ex
    exact low j x hj ex
  · exact ⟨one, low⟩
section
variable {al tg : List Nat} {d2 d3 : PyData}
theorem put_thing1 {od dt : PyData} (h : isAlphaD od = false) (s : ShowOk od) : PutD od dt d2 d3 (.thing od) := .inl ⟨h, s, rfl⟩
theorem put_thing2 {od : PyData} (a : NameOk al) (h : isAlphaD od = false) (s : ShowOk od) : PutD (.str (S al)) od d2 d3 (.thing od) := .inr (.inl ⟨a.alpha, h, s, rfl⟩)
theorem put_m1 (a : NameOk al) (t : NameOk tg) (h : isLT d2 = false ∨ (itemsD d2).length ≠ tg.length) : PutD (.str (S al)) (.str (S tg)) d2 d3 (.sheets (-1)) :=
  .inr (.inr ⟨al, tg, rfl, rfl, a.alpha, t.alpha, t.nd, .inl ⟨h, rfl⟩⟩)
theorem put_k {li : Bool} {gs : List (List Part)} {k : Nat} {g : GS} {e : Bool} {n : Int} (a : NameOk al) (t : NameOk tg) (hl : gs.length = tg.length) (hgs : ∀ g ∈ gs, WF al g ∧ 1 ≤ g.length ∧ g.length ≤ 8) (hg : g.ok al) (hn : g.num = some n) (hk : k < gs.length) (he : e = true → k + 1 < gs.length) (hd : d2 = .list ((spoiltL li gs k g e).map GS.d)) :
    PutD (.str (S al)) (.str (S tg)) d2 d3 (.sheets (k : Int)) := by
  obtain ⟨h1, h2⟩ := spoiltL_at (li := li) (g := g) hk he
  exact .inr (.inr ⟨al, tg, rfl, rfl, a.alpha, t.alpha, t.nd, .inr ⟨true, _, hd, by rw [spoiltL_len]; exact hl, spoiltL_ok hgs hg, .inl ⟨k, g, h1, by rw [hn]; exact Option.some_ne_none n, h2, rfl⟩⟩⟩)
theorem good_num {li : Bool} {gs : List (List Part)} : ∀ g ∈ gs.map (GS.good true li), g.num = none := fun g hg => by
  obtain ⟨q, _, rfl⟩ := List.mem_map.mp hg
  rfl
theorem put_sheet {li : Bool} {gs : List (List Part)} {g : GS} {n : Int} (a : NameOk al) (t : NameOk tg) (hl : gs.length = tg.length) (hgs : ∀ g ∈ gs, WF al g ∧ 1 ≤ g.length ∧ g.length ≤ 8) (hg : g.ok tg) (hn : g.num = some n) (hb : n.natAbs ≤ 1000) (hd : d2 = .list (gs.map (sheetD true li))) :
    PutD (.str (S al)) (.str (S tg)) d2 g.d (.sheet n) :=
  .inr (.inr ⟨al, tg, rfl, rfl, a.alpha, t.alpha, t.nd, .inr ⟨true, gs.map (GS.good true li), by rw [good_d]; exact hd, by rw [List.length_map]; exact hl, good_ok hgs, .inr ⟨good_num, g, rfl, hg, .inl ⟨n, hn, by omega, rfl⟩⟩⟩⟩)
end
end K71
set_option Elab.async false
set_option linter.all false
set_option maxRecDepth 100000
set_option maxHeartbeats 8000000
namespace K71
open PySem PySem.Spec PyProof.Rows L2 Sh
open SX (S)
local macro_rules | `(tactic| walk_at "v1") => `(tactic| first
  | with_reducible refine v_seq ?_ | with_reducible refine v_asg ?_ | ((with_reducible refine' v_name ?e ?_); (case e => exact rfl)) | with_reducible refine v_ret ?_ | with_reducible refine v_drop ?_ | with_reducible refine v_next ?_
  | with_reducible refine v_if ?_ | with_reducible refine v_op ?_ | with_reducible refine v_c ?_ | ((with_reducible refine' v_var ?e ?_); (case e => exact rfl))
  | with_reducible refine v_I0 ?_ | with_reducible refine v_test ?_ | with_reducible refine v_B ?_ | with_reducible refine v_bl ?_ | with_reducible refine v_not ?_ | with_reducible refine v_and ?_ | with_reducible refine v_or ?_
  | with_reducible refine v_andV ?_ | with_reducible refine v_orV ?_ | with_reducible refine v_notV ?_ | with_reducible refine v_ife ?_
  | with_reducible refine v_nil ?_ | with_reducible refine v_cons ?_ | with_reducible refine v_tup ?_ | with_reducible refine v_lst ?_ | with_reducible refine v_call ?_ | with_reducible refine v_cb ?_ | with_reducible refine v_int ?_ | with_reducible refine v_abs ?_
  | ((with_reducible refine' v_eq ?e ?_); (case e => exact rfl)) | ((with_reducible refine' v_ne ?e ?_); (case e => exact rfl)) | with_reducible refine v_sub ?_ | with_reducible refine v_isN ?_ | with_reducible refine v_notN ?_
  | with_reducible refine v_part ?_ | with_reducible refine v_nopart ?_ | with_reducible refine v_pint ?_ | with_reducible refine v_inSg ?_ | with_reducible refine v_notInSg ?_
  | ((with_reducible refine' v_ixL ?l ?a ?_); (case l => assumption); (case a => exact at_lit _ rfl)) | ((with_reducible refine' v_ixT ?l ?a ?_); (case l => assumption); (case a => exact at_lit _ rfl))
  | ((with_reducible refine v_I ?c ?_); (case c => (first | omega | (unfold CMul; omega) | (unfold CDivN; omega) | (unfold CPow; omega))))
  | with_reducible refine v_for ?_ | with_reducible refine v_iList ?_ | with_reducible refine v_iTup ?_ | with_reducible refine v_iStr ?_ | with_reducible refine v_iR1 ?_ | with_reducible refine v_iR2 ?_ | with_reducible refine v_atS ?_ | with_reducible refine v_sl ?_ | with_reducible refine v_lc ?_ | with_reducible refine v_yes ?_
  | with_reducible refine v_m1 ?_ | with_reducible refine v_m1S ?_ | with_reducible refine v_bm ?_ | with_reducible refine v_bm0 ?_ | with_reducible refine v_dnewK ?_ | with_reducible refine v_dnewT ?_ | with_reducible refine v_dget ?_ | with_reducible refine v_din ?_ | with_reducible refine v_dnotin ?_ | with_reducible refine v_dput ?_ | with_reducible refine v_chain ?_ | with_reducible refine v_un ?_ | with_reducible refine v_neg ?_
  | with_reducible refine v_brk ?_ | with_reducible refine v_cont ?_)
local macro_rules | `(tactic| walk_at "v") => `(tactic| repeat (walk_at "v1"))
local macro_rules | `(tactic| walk_at "vm") => `(tactic| repeat (first | ((with_reducible refine v_modP ?c ?_); (case c => omega); (intro _ _ _)) | walk_at "v1"))
local macro_rules | `(tactic| walk_at "iv") => `(tactic| (try dsimp only; refine IV.mk (by assumption) (by assumption) ?_))
local macro_rules | `(tactic| walk_at "n") => `(tactic| dsimp only [List.set_cons_zero, List.set_cons_succ])
def odds : List PyData := [.str "", .str "ba", .str "cc", .str "di", .none, .int 4, .list [.str "a"], .str "B"]
theorem str_showOk {z : Str} (h1 : (PyData.str z).showable = true) (h : (PyData.str z).shown.length ≤ sizeLine) : ShowOk (.str z) := ⟨rfl, h1, by simp only [PyData.hasDict], by simp only [PyData.depth]; omega, h⟩
theorem odds_ok : ∀ d ∈ odds, isAlphaD d = false ∧ ShowOk d := by
  intro d hd
  simp only [odds, List.mem_cons, List.not_mem_nil, or_false] at hd
  rcases hd with rfl | rfl | rfl | rfl | rfl | rfl | rfl | rfl
  · exact ⟨by decide +kernel, str_showOk (by decide +kernel) (by decide +kernel)⟩
  · exact ⟨by decide +kernel, str_showOk (by decide +kernel) (by decide +kernel)⟩
  · exact ⟨by decide +kernel, str_showOk (by decide +kernel) (by decide +kernel)⟩
  · exact ⟨by decide +kernel, str_showOk (by decide +kernel) (by decide +kernel)⟩
  · exact ⟨rfl, rfl, by decide +kernel, by decide +kernel, by decide +kernel, by decide +kernel⟩
  · exact ⟨rfl, int_showOk (by decide)⟩
  · exact ⟨rfl, rfl, by decide +kernel, by decide +kernel, by decide +kernel, by decide +kernel⟩
  · exact ⟨by decide +kernel, str_showOk (by decide +kernel) (by decide +kernel)⟩
end K71
set_option Elab.async false
set_option linter.all false
set_option maxRecDepth 100000
/-! == and != of data without dicts, whatever the signs of their texts -/
namespace Sh
open PySem PySem.Spec PyProof.Rows L2
open SX (S)
mutual
theorem plain_of : ∀ d : PyData, hasD d = false → d.plain = true
  | .none, _ => rfl
  | .bool _, _ => rfl
  | .int _, _ => rfl
  | .str _, _ => rfl
  | .list xs, h => by
    show PyData.plainAll xs = true
    exact plain_ofs xs h
  | .tuple xs, h => by
    show PyData.plainAll xs = true
    exact plain_ofs xs h
  | .dict _, h => nomatch h
theorem plain_ofs : ∀ xs : List PyData, hasD.hasDs xs = false → PyData.plainAll xs = true
  | [], _ => rfl
  | x :: xs, h => by
    have h' : (hasD x || hasD.hasDs xs) = false := h
    rw [Bool.or_eq_false_iff] at h'
    show (PyData.plain x && PyData.plainAll xs) = true
    rw [plain_of x h'.1, plain_ofs xs h'.2]
    rfl
end
def rEqP (K : PySem.W.Frag) : R2 := fun x y H Q => ∃ d e, Dp K H x d ∧ Dp K H y e ∧ d.plain = true ∧ e.plain = true ∧ min d.depth e.depth ≤ 64 ∧ Q (.bl (PyData.eqv d e)) H
def rNeP (K : PySem.W.Frag) : R2 := fun x y H Q => ∃ d e, Dp K H x d ∧ Dp K H y e ∧ d.plain = true ∧ e.plain = true ∧ min d.depth e.depth ≤ 64 ∧ Q (.bl (!PyData.eqv d e)) H
theorem op_eqP {X : Cx} (hu : X.A.units + 64 < cLine) : OpR X (compareOp .Eq) (rEqP X.K) := by
  intro pins s σ H x y v u Q I rx ry h
  obtain ⟨d, e, hd, he, pd, pe, hm, q⟩ := h
  obtain ⟨as, r1⟩ := Dp.reads I d x v hd rx
  obtain ⟨bs, r2⟩ := Dp.reads I e y u he ry
  exact SeqAt.eq_plain r1 r2 pd pe (by omega) ⟨.bl _, H, I, rfl, q⟩
theorem op_neP {X : Cx} (hu : X.A.units + 64 < cLine) : OpR X (compareOp .NotEq) (rNeP X.K) := by
  intro pins s σ H x y v u Q I rx ry h
  obtain ⟨d, e, hd, he, pd, pe, hm, q⟩ := h
  obtain ⟨as, r1⟩ := Dp.reads I d x v hd rx
  obtain ⟨bs, r2⟩ := Dp.reads I e y u he ry
  exact SeqAt.ne_plain r1 r2 pd pe (by omega) ⟨.bl _, H, I, rfl, q⟩
section
variable {B H : Hp} {M : List (Addr × HO)} {Q : VK} {K : PySem.W.Frag} {x y : V} {d e : PyData}
theorem v_eqP (hs : Hs B M H) (hx : Rp K B x d) (hy : Rp K B y d) (n : hasD d = false) (hd : d.depth ≤ 64) (q : Q (.bl true) H) : rEqP K x y H Q :=
  ⟨d, d, (hs.r hx).dp n, (hs.r hy).dp n, plain_of d n, plain_of d n, by rw [Nat.min_self]; exact hd, by rw [SeqAt.eqv_refl_plain d (plain_of d n)]; exact q⟩
theorem v_neP (hs : Hs B M H) (hx : Rp K B x d) (hy : Rp K B y d) (n : hasD d = false) (hd : d.depth ≤ 64) (q : Q (.bl false) H) : rNeP K x y H Q :=
  ⟨d, d, (hs.r hx).dp n, (hs.r hy).dp n, plain_of d n, plain_of d n, by rw [Nat.min_self]; exact hd, by rw [SeqAt.eqv_refl_plain d (plain_of d n)]; exact q⟩
end
theorem okG0_of {P : Program} {w : World} {K : PySem.W.Frag} {mg : Str → Option Value} {base : Heap} {x qual : Str} {st : Stmt} {f : Addr} {fd : FuncData} {N ps : List Str} {k : Nat} {sp : Sp} (F : Fun K x qual st f fd) (S : FnScope N ps (defScope st)) (len : ∀ vs H Q E, sp vs H Q E → vs.length = ps.length)
    (hbody : ∀ (cdv : Value) (A : Around) (outer : List Env) (s : Shared) (H : Hp) (vs : List V) (Q : VK) (E : XK), A.guards = some [] → Room k (A.deeper (envOfC qual (defScope st) s.heap.objs.size f cdv)) → sp vs H Q E →
      ∃ t, PSs (cxOf CX0 P w K mg base N qual (defScope st) f cdv A outer s H E).nox (defBody st) t ∧ t { nx := fun _ H' => Q .non H', rt := Q } (start N vs) H) : FnG P w K mg base CX0 (k + 1) f fd ps sp :=
  okG_of F S len fun cdv A outer s H vs Q E hgd hr hsp => by
    obtain ⟨t, h, q⟩ := hbody cdv A outer s H vs Q E hgd hr hsp
    exact ⟨t, h.nox, q⟩
theorem two_depth (a b : Str) : (PyData.tuple [.str a, .str b]).depth ≤ 64 := by
  simp only [PyData.depth, PyData.depthAll]
  decide
end Sh
set_option Elab.async false
set_option linter.all false
set_option maxRecDepth 100000
set_option maxHeartbeats 8000000
namespace K71
open PySem PySem.Spec PyProof.Rows L2 Sh
open SX (S)
theorem v_seqN {t r : TS} {D : Ends} {σ : L2.St} {H : Hp} (I : L2.St → Hp → Prop) (h1 : ∀ N : L2.St → Hp → Prop, (∀ σ' H', I σ' H' → N σ' H') → t { D with nx := N } σ H) (h2 : ∀ σ' H', I σ' H' → r D σ' H') : tSeq t r D σ H := h1 (fun σ' H' => r D σ' H') h2
/-- an item of what is asked: what is put, and what is due -/
structure Ask (K : PySem.W.Frag) (B : Hp) (v : V) : Prop where
  ex : ∃ (r p q : Addr) (va vt v2 v3 : V) (da dt d2 d3 : PyData) (o : Out), v = .ref r ∧ B r = some (.tup [.ref p, .ref q]) ∧ B p = some (.tup [va, vt, v2, v3]) ∧ B q = some (.tup [.str o.k, .str o.t]) ∧
    Rp K B va da ∧ Rp K B vt dt ∧ Rp K B v2 d2 ∧ Rp K B v3 d3 ∧ (∀ z, da = .str z → z.length ≤ 1000000) ∧ (∀ z, dt = .str z → z.length ≤ 1000000) ∧ PutD da dt d2 d3 o
theorem Ask.up {K : PySem.W.Frag} {B B' : Hp} {v : V} (h : Ask K B v) (l : Le B B') : Ask K B' v := by
  obtain ⟨r, p, q, va, vt, v2, v3, da, dt, d2, d3, o, e, e1, e2, e3, r1, r2, r3, r4, z1, z2, pd⟩ := h.ex
  exact ⟨⟨r, p, q, va, vt, v2, v3, da, dt, d2, d3, o, e, l _ _ e1, l _ _ e2, l _ _ e3, r1.up l, r2.up l, r3.up l, r4.up l, z1, z2, pd⟩⟩
theorem v_ask {K : PySem.W.Frag} {B H : Hp} {M : List (Addr × HO)} {Q : VK} {σ : L2.St} {t0 t1 t2 t3 te : TE} {va vt v2 v3 : V} {da dt d2 d3 : PyData} (o : Out) (hs : Hs B M H)
    (h0 : ∀ (H' : Hp) (q : VK), q va H' → t0 σ H' q) (h1 : ∀ (H' : Hp) (q : VK), q vt H' → t1 σ H' q) (h2 : ∀ (H' : Hp) (q : VK), q v2 H' → t2 σ H' q) (h3 : ∀ (H' : Hp) (q : VK), q v3 H' → t3 σ H' q)
    (ra : Rp K B va da) (rt : Rp K B vt dt) (r2 : Rp K B v2 d2) (r3 : Rp K B v3 d3) (z1 : ∀ z, da = .str z → z.length ≤ 1000000) (z2 : ∀ z, dt = .str z → z.length ≤ 1000000) (pd : PutD da dt d2 d3 o)
    (ht : ∀ (B' H' : Hp) (q : VK), Le B B' → Hs B' M H' → q (.str o.t) H' → te σ H' q)
    (q : ∀ (v : V) (B' H' : Hp), Le B B' → Hs B' M H' → Ask K B' v → Q v H') :
    tTup (tCons (tTup (tCons t0 (tCons t1 (tCons t2 (tCons t3 tNil))))) (tCons (tTup (tCons (tC (.str o.k)) (tCons te tNil))) tNil)) σ H Q := by
  refine v_tup (v_cons (v_tup (v_cons (h0 _ _ (v_cons (h1 _ _ (v_cons (h2 _ _ (v_cons (h3 _ _ (v_nil ?_))))))))))) 
  refine v_size (by show 4 ≤ sizeLine; decide) (v_newB hs fun p B1 H1 l1 g1 e1 => ?_)
  refine v_cons (v_tup (v_cons (v_c (v_cons (ht B1 H1 _ l1 g1 (v_nil ?_))))))
  refine v_size (by show 2 ≤ sizeLine; decide) (v_newB g1 fun p2 B2 H2 l2 g2 e2 => ?_)
  refine v_nil (v_size (by show 2 ≤ sizeLine; decide) (v_newB g2 fun p3 B3 H3 l3 g3 e3 => ?_))
  have l13 := l1.trans (l2.trans l3)
  exact q _ B3 H3 l13 g3 ⟨⟨p3, p, p2, va, vt, v2, v3, da, dt, d2, d3, o, rfl, e3, l3 _ _ (l2 _ _ e1), l3 _ _ e2, ra.up l13, rt.up l13, r2.up l13, r3.up l13, z1, z2, pd⟩⟩
theorem odds_len : ∀ d ∈ odds, ∀ z, d = .str z → z.length ≤ 1000000 := by
  intro d hd z e
  subst e
  simp only [odds, List.mem_cons, List.not_mem_nil, or_false, PyData.str.injEq, reduceCtorEq, false_or] at hd
  rcases hd with rfl | rfl | rfl | rfl | rfl <;> decide +kernel
theorem shown_m1 : (Out.sheets (-1)).t = ("-1" : Str) := by decide +kernel
end K71
set_option Elab.async false
set_option linter.all false
set_option maxRecDepth 100000
set_option maxHeartbeats 8000000
namespace K71
open PySem PySem.Spec PyProof.Rows L2 Sh
open SX (S)
local macro_rules | `(tactic| walk_at "v1") => `(tactic| first
  | with_reducible refine v_seq ?_ | with_reducible refine v_asg ?_ | ((with_reducible refine' v_name ?e ?_); (case e => exact rfl)) | with_reducible refine v_ret ?_ | with_reducible refine v_drop ?_ | with_reducible refine v_next ?_
  | with_reducible refine v_if ?_ | with_reducible refine v_op ?_ | with_reducible refine v_c ?_ | ((with_reducible refine' v_var ?e ?_); (case e => exact rfl))
  | with_reducible refine v_I0 ?_ | with_reducible refine v_test ?_ | with_reducible refine v_B ?_ | with_reducible refine v_bl ?_ | with_reducible refine v_not ?_ | with_reducible refine v_and ?_ | with_reducible refine v_or ?_
  | with_reducible refine v_andV ?_ | with_reducible refine v_orV ?_ | with_reducible refine v_notV ?_ | with_reducible refine v_ife ?_
  | with_reducible refine v_nil ?_ | with_reducible refine v_cons ?_ | with_reducible refine v_tup ?_ | with_reducible refine v_lst ?_ | with_reducible refine v_call ?_ | with_reducible refine v_cb ?_ | with_reducible refine v_int ?_ | with_reducible refine v_abs ?_
  | ((with_reducible refine' v_eq ?e ?_); (case e => exact rfl)) | ((with_reducible refine' v_ne ?e ?_); (case e => exact rfl)) | with_reducible refine v_sub ?_ | with_reducible refine v_isN ?_ | with_reducible refine v_notN ?_
  | with_reducible refine v_part ?_ | with_reducible refine v_nopart ?_ | with_reducible refine v_pint ?_ | with_reducible refine v_inSg ?_ | with_reducible refine v_notInSg ?_
  | ((with_reducible refine' v_ixL ?l ?a ?_); (case l => assumption); (case a => exact at_lit _ rfl)) | ((with_reducible refine' v_ixT ?l ?a ?_); (case l => assumption); (case a => exact at_lit _ rfl))
  | ((with_reducible refine v_I ?c ?_); (case c => (first | omega | (unfold CMul; omega) | (unfold CDivN; omega) | (unfold CPow; omega))))
  | with_reducible refine v_for ?_ | with_reducible refine v_iList ?_ | with_reducible refine v_iTup ?_ | with_reducible refine v_iStr ?_ | with_reducible refine v_iR1 ?_ | with_reducible refine v_iR2 ?_ | with_reducible refine v_atS ?_ | with_reducible refine v_sl ?_ | with_reducible refine v_lc ?_ | with_reducible refine v_yes ?_
  | with_reducible refine v_m1 ?_ | with_reducible refine v_m1S ?_ | with_reducible refine v_bm ?_ | with_reducible refine v_bm0 ?_ | with_reducible refine v_dnewK ?_ | with_reducible refine v_dnewT ?_ | with_reducible refine v_dget ?_ | with_reducible refine v_din ?_ | with_reducible refine v_dnotin ?_ | with_reducible refine v_dput ?_ | with_reducible refine v_chain ?_ | with_reducible refine v_un ?_ | with_reducible refine v_neg ?_
  | with_reducible refine v_brk ?_ | with_reducible refine v_cont ?_)
local macro_rules | `(tactic| walk_at "v") => `(tactic| repeat (walk_at "v1"))
local macro_rules | `(tactic| walk_at "vm") => `(tactic| repeat (first | ((with_reducible refine v_modP ?c ?_); (case c => omega); (intro _ _ _)) | walk_at "v1"))
local macro_rules | `(tactic| walk_at "iv") => `(tactic| (try dsimp only; refine IV.mk (by assumption) (by assumption) ?_))
local macro_rules | `(tactic| walk_at "n") => `(tactic| dsimp only [List.set_cons_zero, List.set_cons_succ])
section
variable {P : Program} {w : World} {K : PySem.W.Frag} {mg : Str → Option Value} {base : Heap}
def sp_put_refused (T : Txt K mg w) : Sp := fun vs H Q _ => ∃ (B : Hp) (M : List (Addr × HO)) (a : Addr) (d sd c : Int) (al tg : List Nat) (li : Bool) (gs : List (List Part)) (ps : List Part) (sa : Addr) (xs : List V) (v3 : V), vs = [.ref a, .str (S al), .str (S tg), .ref sa, v3] ∧ Hs B ((a, SrcO d sd c) :: M) H ∧ al ∈ names6 ∧ tg ∈ names6 ∧
  B sa = some (.lst xs) ∧ RpAll K B xs (gs.map (sheetD true li)) ∧ Rp K B v3 (sheetD true false ps) ∧ gs.length = tg.length ∧ (∀ g ∈ gs, WF al g ∧ 1 ≤ g.length ∧ g.length ≤ 8) ∧ WF tg ps ∧ 1 ≤ ps.length ∧ ps.length ≤ 8 ∧
  ∀ (d' c' : Int) (B' H' : Hp), Le B B' → Hs B' ((a, SrcO d' sd c') :: M) H' → Q (.bl true) H'
def t_put_refused (T : Txt K mg w) : TS := (tSeq (tAsg (tOp (rIxL K) (tLst (tCons (tC (.str "")) (tCons (tC (.str "ba")) (tCons (tC (.str "cc")) (tCons (tC (.str "di")) (tCons (tC .non) (tCons (tC (.int 4)) (tCons (tLst (tCons (tC (.str "a")) tNil)) (tCons (tC (.str "B")) tNil))))))))) (tCall (sp_pick K) [] E0 (tCons (tVar 0) (tCons (tC (.int 8)) tNil)))) (gName 5))
    (tSeq (tAsg (tCall (sp_pick K) [] E0 (tCons (tVar 0) (tCons (tCB (rCLen K) (tCons (tVar 3) tNil)) tNil))) (gName 6))
    (tSeq (tAsg (tCB (rCList K) (tCons (tVar 3) tNil)) (gName 7))
    (tSeq (tAsg (tOp (rIxT K) (tCall (sp_spoilt K) [] E0 (tCons (tVar 0) (tCons (tVar 1) (tCons (tOp (rIxL K) (tVar 3) (tVar 6)) tNil)))) (tC (.int 0))) (gSub (tVar 7) (tVar 6) rSetL))
    (tSeq (tIfS (tAnd (tTest (tOp rLtI (tOp rAddI (tVar 6) (tC (.int 1))) (tCB (rCLen K) (tCons (tVar 3) tNil)))) (tTest (tOp rEq (tCall (sp_pick K) [] E0 (tCons (tVar 0) (tCons (tC (.int 2)) tNil))) (tC (.int 0))))) (tAsg (tTup tNil) (gSub (tVar 7) (tUn (rU fun i => .int (-i)) (tC (.int 1))) rSetL)) tNext)
    (tSeq (tAsg (tOp (rIxL K) (tLst (tCons (tC .non) (tCons (tVar 2) (tCons tDNewK (tCons (tOp rCat (tVar 3) (tSl (rSlL K) (tVar 3) tNoPart (tPart (tC (.int 1))))) (tCons (tOp rCat (tVar 7) (tLst (tCons (tTup tNil) tNil))) (tCons (tSl (rSlL K) (tVar 3) (tPart (tC (.int 1))) tNoPart) (tCons (tTup tNil) tNil)))))))) (tCall (sp_pick K) [] E0 (tCons (tVar 0) (tCons (tC (.int 7)) tNil)))) (gName 8))
    (tSeq (tAsg (tCall (sp_spoilt K) [] E0 (tCons (tVar 0) (tCons (tVar 2) (tCons (tVar 4) tNil)))) (gTup K 2 (gCons (gName 9) (gCons (gName 10) gNil))))
    (tSeq (tAsg (tLst (tCons (tTup (tCons (tTup (tCons (tVar 5) (tCons (tVar 5) (tCons (tC .non) (tCons (tC .non) tNil))))) (tCons (tTup (tCons (tC (.str "thing")) (tCons (tCB (rRepr K) (tCons (tVar 5) tNil)) tNil))) tNil))) (tCons (tTup (tCons (tTup (tCons (tVar 5) (tCons (tVar 2) (tCons (tVar 3) (tCons (tVar 4) tNil))))) (tCons (tTup (tCons (tC (.str "thing")) (tCons (tCB (rRepr K) (tCons (tVar 5) tNil)) tNil))) tNil))) (tCons (tTup (tCons (tTup (tCons (tVar 1) (tCons (tVar 5) (tCons (tVar 7) (tCons (tVar 9) tNil))))) (tCons (tTup (tCons (tC (.str "thing")) (tCons (tCB (rRepr K) (tCons (tVar 5) tNil)) tNil))) tNil))) (tCons (tTup (tCons (tTup (tCons (tVar 1) (tCons (tVar 2) (tCons (tVar 8) (tCons (tVar 9) tNil))))) (tCons (tTup (tCons (tC (.str "sheets")) (tCons (tC (.str "-1")) tNil))) tNil))) (tCons (tTup (tCons (tTup (tCons (tVar 1) (tCons (tVar 2) (tCons (tVar 7) (tCons (tVar 9) tNil))))) (tCons (tTup (tCons (tC (.str "sheets")) (tCons (tCB (rRepr K) (tCons (tVar 6) tNil)) tNil))) tNil))) (tCons (tTup (tCons (tTup (tCons (tVar 1) (tCons (tVar 2) (tCons (tVar 7) (tCons (tVar 4) tNil))))) (tCons (tTup (tCons (tC (.str "sheets")) (tCons (tCB (rRepr K) (tCons (tVar 6) tNil)) tNil))) tNil))) (tCons (tTup (tCons (tTup (tCons (tVar 1) (tCons (tVar 2) (tCons (tVar 3) (tCons (tVar 9) tNil))))) (tCons (tTup (tCons (tC (.str "sheet")) (tCons (tCB (rRepr K) (tCons (tVar 10) tNil)) tNil))) tNil))) tNil)))))))) (gName 11))
    (tSeq (tFor (iList K (tVar 11)) (gTup K 2 (gCons (gName 12) (gCons (gName 13) gNil))) (tIfS (tTest (tOp (rNeP K) (tCall (sp_put T) [] E0 (tCons (tOp (rIxT K) (tVar 12) (tC (.int 0))) (tCons (tOp (rIxT K) (tVar 12) (tC (.int 1))) (tCons (tOp (rIxT K) (tVar 12) (tC (.int 2))) (tCons (tOp (rIxT K) (tVar 12) (tC (.int 3))) tNil))))) (tVar 13))) (tRet (tC (.bl false))) tNext))
    (tRet (tC (.bl true))))))))))))
theorem pure_put_refused (T : Txt K mg w) (vs : List V) (H : Hp) (Q : VK) (E : XK) (h : sp_put_refused T vs H Q E) : t_put_refused T { nx := fun _ H' => Q .non H', rt := Q } (start n_put_refused vs) H := by
  obtain ⟨B, M, a, d, sd, c, al, tg, li, gs, ps, sa, xs, v3, rfl, hs, hal, htg, eS, hX, hv3, gl, gw, wf, p1, p8, q⟩ := h
  have hS : SqL K B sa xs := SqL.of eS
  have xl : xs.length = gs.length := by rw [hX.length, List.length_map]
  have NA := names_ok al hal
  have NT := names_ok tg htg
  have t1 := NT.l1
  have t3 := NT.l3
  show t_put_refused T _ [some (V.ref a), some (V.str (S al)), some (V.str (S tg)), some (V.ref sa), some v3, none, none, none, none, none, none, none, none, none] H
  unfold t_put_refused
  walk_at "v"
  refine v_size (by show 1 ≤ sizeLine; decide) (v_newB hs fun oa B1 H1 l1 h1 e1 => ?_)
  walk_at "v"
  refine v_size (by show 8 ≤ sizeLine; decide) (v_newB h1 fun ol B2 H2 l2 h2 e2 => ?_)
  walk_at "v"
  refine v_pick h2 (by omega) (by omega) fun k d1 c1 H3 k0 k1 h3 => ?_
  obtain ⟨m, rfl⟩ : ∃ m : Nat, k = (m : Int) := ⟨k.toNat, by omega⟩
  have hR : RpAll K B2 [V.str "", .str "ba", .str "cc", .str "di", .non, .int 4, .ref oa, .str "B"] odds :=
    .cons (.str _) (.cons (.str _) (.cons (.str _) (.cons (.str _) (.cons .non (.cons (.int _) (.cons (.lst (SqL.of (l2 _ _ e1)) (.cons (.str _) .nil)) (.cons (.str _) .nil)))))))
  obtain ⟨od, eod⟩ : ∃ od, odds[m]? = some od := ⟨_, List.getElem?_eq_getElem (show m < 8 by omega)⟩
  obtain ⟨ov, eov, hov⟩ := hR.get eod
  obtain ⟨oda, ods⟩ := odds_ok od (List.mem_of_getElem? eod)
  refine v_ixL (v := ov) (h3.l (SqL.of e2)) (atI_nat eov) ?_
  have l12 := l1.trans l2
  walk_at "v"
  refine v_lenL (h3.l (le_l l12 hS)) ?_
  walk_at "v"
  refine v_pick h3 (by omega) (by omega) fun k d2 c2 H4 k2 k3 h4 => ?_
  obtain ⟨k, rfl⟩ : ∃ m : Nat, k = (m : Int) := ⟨k.toNat, by omega⟩
  have hk : k < gs.length := by omega
  walk_at "v"
  refine v_listL (h4.l (le_l l12 hS)) (v_newM h4 fun cp H5 h5 => ?_)
  walk_at "v"
  obtain ⟨g, eg⟩ : ∃ g, gs[k]? = some g := ⟨_, List.getElem?_eq_getElem hk⟩
  obtain ⟨gv, egv, hgv⟩ := (hX.up l12).get (i := k) (d := sheetD true li g) (by rw [List.getElem?_map, eg]; rfl)
  obtain ⟨g1, g2, g3⟩ := gw g (List.mem_of_getElem? eg)
  refine v_ixL (v := gv) (h5.l (le_l l12 hS)) (atI_nat egv) ?_
  walk_at "v"
  refine ⟨B2, _, a, d2, sd, c2, al, li, g, gv, rfl, h5.sw, hal, hgv, g1, g2, by omega, fun p x G n d3 c3 B6 H6 l6 h6 e6 hx hG hn hb => ?_⟩
  walk_at "v"
  refine v_ixT (v := x) (h6.t (SqT.of e6)) (at_lit 0 rfl) ?_
  walk_at "v"
  refine v_setL (j := k) (h6.atI 1 rfl) (by rw [xl, ixN, if_pos (by omega), if_pos (by omega)]; simp) ?_
  have h7 := h6.wrI (o' := .lst (xs.set k x)) 1 rfl
  generalize upd H6 cp (HO.lst (xs.set k x)) = H7 at h7 ⊢
  have h8 : Hs B6 ((a, SrcO d3 sd c3) :: (cp, .lst (xs.set k x)) :: M) H7 := h7
  have hxs : RpAll K B6 (xs.set k x) ((spoiltL li gs k G false).map GS.d) := by
    rw [spoiltL_d, if_neg (by decide)]
    exact RpAll.set hx k (hX.up (l12.trans l6))
  have l16 := l12.trans l6
  try dsimp only
  refine v_seqN (fun σ' H' => ∃ (e : Bool) (d4 c4 : Int) (B7 : Hp) (ys : List V), Le B6 B7 ∧ Hs B7 ((a, SrcO d4 sd c4) :: (cp, .lst ys) :: M) H' ∧ RpAll K B7 ys ((spoiltL li gs k G e).map GS.d) ∧ (e = true → k + 1 < gs.length) ∧
    σ' = [some (V.ref a), some (V.str (S al)), some (V.str (S tg)), some (V.ref sa), some v3, some ov, some (V.int (k : Int)), some (V.ref cp), none, none, none, none, none, none]) (fun N hN => ?_) ?_
  · walk_at "v"
    refine v_lenL (h8.l (le_l l16 hS)) ?_
    walk_at "v"
    refine ite2 (fun c0 => ?_) (fun c0 => ?_)
    · have hk1 : k + 1 < gs.length := by
        have := of_decide_eq_true c0
        omega
      walk_at "v"
      refine v_pick h8 (by omega) (by omega) fun r d4 c4 H9 r0 r1 h9 => ?_
      walk_at "v"
      refine ite2 (fun c1 => ?_) (fun c1 => ?_)
      · walk_at "v"
        refine v_size (by show 0 ≤ sizeLine; decide) (v_newB h9 fun et B7 H10 l7 h10 e7 => ?_)
        walk_at "v"
        refine v_setL (j := gs.length - 1) (h10.atI 1 rfl) ?_ ?_
        · rw [List.length_set, xl, ixN, if_neg (by decide), if_pos (by omega)]
          congr 1
          omega
        have h11 := h10.wrI (o' := .lst ((xs.set k x).set (gs.length - 1) (.ref et))) 1 rfl
        refine hN _ _ ⟨true, d4, c4, B7, _, l7, h11, ?_, fun _ => hk1, rfl⟩
        rw [spoiltL_d, if_pos rfl]
        rw [spoiltL_d, if_neg (by decide)] at hxs
        exact RpAll.set (.tup e7 .nil) _ (hxs.up l7)
      · walk_at "v"
        exact hN _ _ ⟨false, d4, c4, B6, _, Same.refl _, h9, hxs, fun z => Bool.noConfusion z, rfl⟩
    · refine iteF' rfl ?_
      walk_at "v"
      exact hN _ _ ⟨false, d3, c3, B6, _, Same.refl _, h8, hxs, fun z => Bool.noConfusion z, rfl⟩
  · rintro σ' H9 ⟨e, d4, c4, B7, ys, l7, h9, hys, he, rfl⟩
    walk_at "v"
    refine v_newB h9 fun da B8 H10 l8 h10 e8 => ?_
    walk_at "v"
    have l19 := l16.trans (l7.trans l8)
    refine v_slL (h10.l (le_l l19 hS)) (v_newB h10 fun c1 B9 H11 l9 h11 e9 => ?_)
    walk_at "v"
    have l110 := l19.trans l9
    have cl := cutV_length xs
    refine v_cat (h11.sub _ _ (l110 _ _ eS)) (h11.sub _ _ e9) (sz_of (by have := cl none (some 1); omega)) (v_newB h11 fun c2 B10 H12 l10 h12 e10 => ?_)
    walk_at "v"
    refine v_size (by show 0 ≤ sizeLine; decide) (v_newB h12 fun t0 B11 H13 l11 h13 e11 => ?_)
    walk_at "v"
    refine v_size (by show 1 ≤ sizeLine; decide) (v_newB h13 fun c3' B12 H14 l12' h14 e12 => ?_)
    walk_at "v"
    have yl : ys.length = gs.length := by rw [hys.length, List.length_map, spoiltL_len]
    refine v_cat (h14.atI 1 rfl) (h14.sub _ _ e12) (sz_of (by show ys.length + 1 ≤ _; omega)) (v_newB h14 fun c4' B13 H15 l13 h15 e13 => ?_)
    walk_at "v"
    have l113 := l110.trans (l10.trans (l11.trans (l12'.trans l13)))
    refine v_slL (h15.l (le_l l113 hS)) (v_newB h15 fun c5 B14 H16 l14 h16 e14 => ?_)
    walk_at "v"
    refine v_size (by show 0 ≤ sizeLine; decide) (v_newB h16 fun c6 B15 H17 l15 h17 e15 => ?_)
    walk_at "v"
    refine v_size (by show 7 ≤ sizeLine; decide) (v_newB h17 fun wl B16 H18 l16' h18 e16 => ?_)
    walk_at "v"
    refine v_pick h18 (by omega) (by omega) fun m2 d5 c5' H19 m0 m1 h19 => ?_
    obtain ⟨m2, rfl⟩ : ∃ m : Nat, m2 = (m : Int) := ⟨m2.toNat, by omega⟩
    have z16 := Same.refl B16
    have z15 := l16'.trans z16
    have z14 := l15.trans z15
    have z13 := l14.trans z14
    have z12 := l13.trans z13
    have z11 := l12'.trans z12
    have z10 := l11.trans z11
    have z9 := l10.trans z10
    have z8 := l9.trans z9
    have z7 := l8.trans z8
    have hS16 := hX.up (l16.trans (l7.trans z7))
    have hys16 := hys.up z7
    have hW : RpAll K B16 [V.non, .str (S tg), .ref da, .ref c2, .ref c4', .ref c5, .ref c6] [.none, .str (S tg), .dict [], .list (gs.map (sheetD true li) ++ (gs.map (sheetD true li)).take 1), .list ((spoiltL li gs k G e).map GS.d ++ [.tuple []]), .list ((gs.map (sheetD true li)).drop 1), .tuple []] := by
      rw [show cutV xs none (some (1 : Int)) = xs.take 1 from cut_to xs 1] at e10
      rw [show cutV xs (some (1 : Int)) none = xs.drop 1 from cut_from xs 1] at e14
      exact .cons .non (.cons (.str _) (.cons (.emp (.inl (z8 _ _ e8))) (.cons (.lst (SqL.of (z10 _ _ e10)) (hS16.append (hS16.take 1))) (.cons (.lst (SqL.of (z13 _ _ e13)) (hys16.append (.one (.tup (z11 _ _ e11) .nil)))) (.cons (.lst (SqL.of (z14 _ _ e14)) (hS16.drop 1)) (.cons (.tup (z15 _ _ e15) .nil) .nil))))))
    have hWb : ∀ dx ∈ [PyData.none, .str (S tg), .dict [], .list (gs.map (sheetD true li) ++ (gs.map (sheetD true li)).take 1), .list ((spoiltL li gs k G e).map GS.d ++ [.tuple []]), .list ((gs.map (sheetD true li)).drop 1), .tuple []], isLT dx = false ∨ (itemsD dx).length ≠ tg.length := by
      intro dx hd
      simp only [List.mem_cons, List.not_mem_nil, or_false] at hd
      rcases hd with rfl | rfl | rfl | rfl | rfl | rfl | rfl
      · exact .inl rfl
      · exact .inl rfl
      · exact .inl rfl
      · refine .inr ?_
        simp only [itemsD, List.length_append, List.length_map, List.length_take]
        omega
      · refine .inr ?_
        simp only [itemsD, List.length_append, List.length_map, spoiltL_len, List.length_singleton]
        omega
      · refine .inr ?_
        simp only [itemsD, List.length_map, List.length_drop]
        omega
      · refine .inr ?_
        show 0 ≠ tg.length
        omega
    obtain ⟨wd, ewd⟩ : ∃ wd, [PyData.none, .str (S tg), .dict [], .list (gs.map (sheetD true li) ++ (gs.map (sheetD true li)).take 1), .list ((spoiltL li gs k G e).map GS.d ++ [.tuple []]), .list ((gs.map (sheetD true li)).drop 1), .tuple []][m2]? = some wd := ⟨_, List.getElem?_eq_getElem (show m2 < 7 by omega)⟩
    obtain ⟨wv, ewv, hwv⟩ := hW.get ewd
    have hwb := hWb wd (List.mem_of_getElem? ewd)
    refine v_ixL (v := wv) (h19.l (SqL.of e16)) (atI_nat ewv) ?_
    walk_at "v"
    refine ⟨B16, _, a, d5, sd, c5', tg, false, ps, v3, rfl, h19, htg, hv3.up (l16.trans (l7.trans z7)), wf, p1, by omega, fun p2 x2 G2 n2 d6 c6' B17 H20 l17 h20 e20 hx2 hG2 hn2 hb2 => ?_⟩
    walk_at "v"
    refine v_gTup2 (h20.t (SqT.of e20)) ?_
    (with_reducible refine v_name rfl ?_)
    (with_reducible refine v_name rfl ?_)
    walk_at "n"
    (with_reducible refine v_seq ?_)
    (with_reducible refine v_asg ?_)
    (with_reducible refine v_lst ?_)
    (with_reducible refine v_cons ?_)
    obtain ⟨C0, l21, g0, ecp⟩ : ∃ C0, Le B17 C0 ∧ Hs C0 ((a, SrcO d6 sd c6') :: M) H20 ∧ C0 cp = some (.lst ys) := by
      obtain ⟨g, l⟩ := h20.sw.fix
      exact ⟨_, l, g, upd_same⟩
    have l70 := z7.trans (l17.trans l21)
    have l20 := l6.trans (l7.trans l70)
    have l00 := l12.trans l20
    have fo : Rp K C0 ov od := hov.up l20
    have fX : Rp K C0 (.ref sa) (.list (gs.map (sheetD true li))) := .lst (SqL.of (l00 _ _ eS)) (hX.up l00)
    have f3 : Rp K C0 v3 (sheetD true false ps) := hv3.up l00
    have fb : Rp K C0 x2 G2.d := hx2.up l21
    have fp : Rp K C0 (.ref cp) (.list ((spoiltL li gs k G e).map GS.d)) := .lst (SqL.of ecp) (hys.up l70)
    have fw : Rp K C0 wv wd := hwv.up (l17.trans l21)
    have zo := odds_len od (List.mem_of_getElem? eod)
    have za : ∀ z, PyData.str (S al) = .str z → z.length ≤ 1000000 := fun z e => by
      cases e
      rw [S_length]
      have := NA.l3
      omega
    have zt : ∀ z, PyData.str (S tg) = .str z → z.length ≤ 1000000 := fun z e => by
      cases e
      rw [S_length]
      omega
    have k8 : (PyData.int (k : Int)).shown.length ≤ sizeLine := (int_showOk (by omega)).len
    refine v_ask (.thing od) g0 (fun _ _ h => v_var rfl h) (fun _ _ h => v_var rfl h) (fun _ _ h => v_c h) (fun _ _ h => v_c h) fo fo .non .non zo zo (put_thing1 oda ods) (fun B' H' q l g h => v_cb (v_cons (v_var rfl (v_nil (v_repr g (fo.up l) ods h))))) fun u1 C1 G1 m1 g1 a1 => ?_
    (with_reducible refine v_cons ?_)
    refine v_ask (.thing od) g1 (fun _ _ h => v_var rfl h) (fun _ _ h => v_var rfl h) (fun _ _ h => v_var rfl h) (fun _ _ h => v_var rfl h) (fo.up m1) (.str _) (fX.up m1) (f3.up m1) zo zt (put_thing1 oda ods) (fun B' H' q l g h => v_cb (v_cons (v_var rfl (v_nil (v_repr g (fo.up (m1.trans l)) ods h))))) fun u2 C2 G2' m2 g2 a2 => ?_
    have n2' := m1.trans m2
    (with_reducible refine v_cons ?_)
    refine v_ask (.thing od) g2 (fun _ _ h => v_var rfl h) (fun _ _ h => v_var rfl h) (fun _ _ h => v_var rfl h) (fun _ _ h => v_var rfl h) (.str _) (fo.up n2') (fp.up n2') (fb.up n2') za zo (put_thing2 NA oda ods) (fun B' H' q l g h => v_cb (v_cons (v_var rfl (v_nil (v_repr g (fo.up (n2'.trans l)) ods h))))) fun u3 C3 G3 m3 g3 a3 => ?_
    have n3' := n2'.trans m3
    (with_reducible refine v_cons ?_)
    refine v_ask (.sheets (-1)) g3 (fun _ _ h => v_var rfl h) (fun _ _ h => v_var rfl h) (fun _ _ h => v_var rfl h) (fun _ _ h => v_var rfl h) (.str _) (.str _) (fw.up n3') (fb.up n3') za zt (put_m1 NA NT hwb) (fun B' H' q l g h => v_c (by rw [shown_m1] at h; exact h)) fun u4 C4 G4 m4 g4 a4 => ?_
    have n4' := n3'.trans m4
    (with_reducible refine v_cons ?_)
    refine v_ask (.sheets (k : Int)) g4 (fun _ _ h => v_var rfl h) (fun _ _ h => v_var rfl h) (fun _ _ h => v_var rfl h) (fun _ _ h => v_var rfl h) (.str _) (.str _) (fp.up n4') (fb.up n4') za zt (put_k NA NT gl gw hG hn hk he rfl) (fun B' H' q l g h => v_cb (v_cons (v_var rfl (v_nil (v_repr g (.int _) (int_showOk (by omega)) h))))) fun u5 C5 G5 m5 g5 a5 => ?_
    have n5' := n4'.trans m5
    (with_reducible refine v_cons ?_)
    refine v_ask (.sheets (k : Int)) g5 (fun _ _ h => v_var rfl h) (fun _ _ h => v_var rfl h) (fun _ _ h => v_var rfl h) (fun _ _ h => v_var rfl h) (.str _) (.str _) (fp.up n5') (f3.up n5') za zt (put_k NA NT gl gw hG hn hk he rfl) (fun B' H' q l g h => v_cb (v_cons (v_var rfl (v_nil (v_repr g (.int _) (int_showOk (by omega)) h))))) fun u6 C6 G6 m6 g6 a6 => ?_
    have n6' := n5'.trans m6
    (with_reducible refine v_cons ?_)
    refine v_ask (.sheet n2) g6 (fun _ _ h => v_var rfl h) (fun _ _ h => v_var rfl h) (fun _ _ h => v_var rfl h) (fun _ _ h => v_var rfl h) (.str _) (.str _) (fX.up n6') (fb.up n6') za zt (put_sheet NA NT gl gw hG2 hn2 hb2 rfl) (fun B' H' q l g h => v_cb (v_cons (v_var rfl (v_nil (v_repr g (.int _) (int_showOk (by omega)) h))))) fun u7 C7 G7 m7 g7 a7 => ?_
    have n7' := n6'.trans m7
    (with_reducible refine v_nil ?_)
    refine v_size (by show 7 ≤ sizeLine; decide) (v_newB g7 fun ap C8 G8 m8 g8 e8 => ?_)
    walk_at "v"
    have all : ∀ v ∈ [u1, u2, u3, u4, u5, u6, u7], Ask K C8 v := by
      intro v hv
      simp only [List.mem_cons, List.not_mem_nil, or_false] at hv
      rcases hv with rfl | rfl | rfl | rfl | rfl | rfl | rfl
      · exact a1.up (m2.trans (m3.trans (m4.trans (m5.trans (m6.trans (m7.trans m8))))))
      · exact a2.up (m3.trans (m4.trans (m5.trans (m6.trans (m7.trans m8)))))
      · exact a3.up (m4.trans (m5.trans (m6.trans (m7.trans m8))))
      · exact a4.up (m5.trans (m6.trans (m7.trans m8)))
      · exact a5.up (m6.trans (m7.trans m8))
      · exact a6.up (m7.trans m8)
      · exact a7.up m8
    refine v_atL (g8.l (SqL.of e8)) (v_forL (SqL.of e8) g8 (fun i σ' B' M' => M' = (a, SrcO d6 sd c6') :: M ∧ ∃ u w : Option V, σ' = [some (V.ref a), some (V.str (S al)), some (V.str (S tg)), some (V.ref sa), some v3, some ov, some (V.int (k : Int)), some (V.ref cp), some wv, some x2, some (V.int n2), some (V.ref ap), u, w]) ⟨rfl, none, none, rfl⟩ ?_ ?_)
    · rintro i x σ' B9 M' G9 hi ex l9 g9 ⟨rfl, u, w', rfl⟩
      obtain ⟨r, p, q', va, vt, v2, v3', da', dt, d2, d3, o, rfl, er, ep, eq, ra, rt, r2, r3, z1, z2, pd⟩ := ((all x (List.mem_of_getElem? ex)).up l9).ex
      refine v_gTup2 (g9.t (SqT.of er)) ?_
      have hp := g9.t (SqT.of (K := K) ep)
      walk_at "v"
      refine ⟨B9, _, va, vt, v2, v3', da', dt, d2, d3, o, rfl, g9, ra, rt, r2, r3, z1, z2, pd, fun v' B10 G10 l10 g10 r10 => ?_⟩
      walk_at "v"
      refine v_neP g10 r10 (.tup (l10 _ _ eq) (.cons (.str _) (.cons (.str _) .nil))) rfl (two_depth _ _) ?_
      walk_at "v"
      refine iteF' rfl ?_
      walk_at "v"
      have l910 := l9.trans l10
      walk_at "iv"
      exact ⟨rfl, _, _, rfl⟩
    · rintro σ' B9 M' G9 l9 g9 ⟨rfl, u, w', rfl⟩
      walk_at "v"
      exact q _ _ B9 G9 (l00.trans (n7'.trans (m8.trans l9))) g9
theorem ok_put_refused (T : Txt K mg w) (TX : TxtX T P) : FnG P w K mg base CX0 9 T.a_put_refused T.fd_put_refused ["_law_source_here", "_law_alphabet", "_law_target", "_law_sheets", "_law_sheet"] (sp_put_refused T) := by
  refine okG0_of T.F_put_refused sc_put_refused (fun vs H Q E h => ?_) (fun cdv A outer s H vs Q E hgd hr h => ⟨t_put_refused T, ?_, pure_put_refused T vs H Q E h⟩)
  · obtain ⟨B, M, a, d, sd, c, al, tg, li, gs, ps, sa, xs, v3, rfl, _⟩ := h
    rfl
  · exact (pss_cons (ps_set (i := 5) sc_put_refused.nd rfl (by first | exact Or.inl rfl | exact Or.inr rfl) (pe_ix ix_list (pe_lst (pa_cons pe_str (pa_cons pe_str (pa_cons pe_str (pa_cons pe_str (pa_cons pe_non (pa_cons pe_int (pa_cons (pe_lst (pa_cons pe_str pa_nil)) (pa_cons pe_str pa_nil))))))))) (pe_call (ok_pick T) (hr.mono (by decide)) (by rfl) T.g_pick T.F_pick.kp T.b_pick .nil pass0 (pa_cons (pv 0) (pa_cons pe_int pa_nil))) (fun _ _ => rfl)))
      (pss_cons (ps_set (i := 6) sc_put_refused.nd rfl (by first | exact Or.inl rfl | exact Or.inr rfl) (pe_call (ok_pick T) (hr.mono (by decide)) (by rfl) T.g_pick T.F_pick.kp T.b_pick .nil pass0 (pa_cons (pv 0) (pa_cons (pe_callB call_len (by rfl) (T.free_len) (by decide +kernel) (pa_cons (pv 3) pa_nil)) pa_nil))))
      (pss_cons (ps_set (i := 7) sc_put_refused.nd rfl (by first | exact Or.inl rfl | exact Or.inr rfl) (pe_callTy call_list_of (by rfl) (T.free_list) (by decide +kernel) (pa_cons (pv 3) pa_nil)))
      (pss_cons (ps_asg (pe_ix ix_tup (pe_call (ok_spoilt T) (hr.mono (by decide)) (by rfl) T.g_spoilt T.F_spoilt.kp T.b_spoilt .nil pass0 (pa_cons (pv 0) (pa_cons (pv 1) (pa_cons (pe_ix ix_list (pv 3) (pv 6) (fun _ _ => rfl)) pa_nil)))) pe_int (fun _ _ => rfl)) (pg_sub (pv 7) (pv 6) set_list))
      (pss_cons (ps_if (PW.pt (pw_and (pt_cmpR op_lt (pe_op op_add (pv 6) pe_int) (pe_callB call_len (by rfl) (T.free_len) (by decide +kernel) (pa_cons (pv 3) pa_nil)) (nomark _)) (pw_and1 (pt_cmpR op_eq (pe_call (ok_pick T) (hr.mono (by decide)) (by rfl) T.g_pick T.F_pick.kp T.b_pick .nil pass0 (pa_cons (pv 0) (pa_cons pe_int pa_nil))) pe_int (nomark _))))) (pss_one (ps_asg (pe_tup pa_nil) (pg_sub (pv 7) (pe_un un_neg pe_int) set_list))) pss_nil)
      (pss_cons (ps_set (i := 8) sc_put_refused.nd rfl (by first | exact Or.inl rfl | exact Or.inr rfl) (pe_ix ix_list (pe_lst (pa_cons pe_non (pa_cons (pv 2) (pa_cons pe_dnewK (pa_cons (pe_op op_cat (pv 3) (pe_slice sl_list (pv 3) po_none (po_some pe_int))) (pa_cons (pe_op op_cat (pv 7) (pe_lst (pa_cons (pe_tup pa_nil) pa_nil))) (pa_cons (pe_slice sl_list (pv 3) (po_some pe_int) po_none) (pa_cons (pe_tup pa_nil) pa_nil)))))))) (pe_call (ok_pick T) (hr.mono (by decide)) (by rfl) T.g_pick T.F_pick.kp T.b_pick .nil pass0 (pa_cons (pv 0) (pa_cons pe_int pa_nil))) (fun _ _ => rfl)))
      (pss_cons (ps_asg (pe_call (ok_spoilt T) (hr.mono (by decide)) (by rfl) T.g_spoilt T.F_spoilt.kp T.b_spoilt .nil pass0 (pa_cons (pv 0) (pa_cons (pv 2) (pa_cons (pv 4) pa_nil)))) (pg_tup rfl (pgs_cons (pg_name (i := 9) sc_put_refused.nd rfl (by first | exact Or.inl rfl | exact Or.inr rfl)) (pgs_cons (pg_name (i := 10) sc_put_refused.nd rfl (by first | exact Or.inl rfl | exact Or.inr rfl)) pgs_nil))))
      (pss_cons (ps_set (i := 11) sc_put_refused.nd rfl (by first | exact Or.inl rfl | exact Or.inr rfl) (pe_lst (pa_cons (pe_tup (pa_cons (pe_tup (pa_cons (pv 5) (pa_cons (pv 5) (pa_cons pe_non (pa_cons pe_non pa_nil))))) (pa_cons (pe_tup (pa_cons pe_str (pa_cons (pe_callB (cr_repr hgd (room70 hr)) (by rfl) (T.free_repr) (by decide +kernel) (pa_cons (pv 5) pa_nil)) pa_nil))) pa_nil))) (pa_cons (pe_tup (pa_cons (pe_tup (pa_cons (pv 5) (pa_cons (pv 2) (pa_cons (pv 3) (pa_cons (pv 4) pa_nil))))) (pa_cons (pe_tup (pa_cons pe_str (pa_cons (pe_callB (cr_repr hgd (room70 hr)) (by rfl) (T.free_repr) (by decide +kernel) (pa_cons (pv 5) pa_nil)) pa_nil))) pa_nil))) (pa_cons (pe_tup (pa_cons (pe_tup (pa_cons (pv 1) (pa_cons (pv 5) (pa_cons (pv 7) (pa_cons (pv 9) pa_nil))))) (pa_cons (pe_tup (pa_cons pe_str (pa_cons (pe_callB (cr_repr hgd (room70 hr)) (by rfl) (T.free_repr) (by decide +kernel) (pa_cons (pv 5) pa_nil)) pa_nil))) pa_nil))) (pa_cons (pe_tup (pa_cons (pe_tup (pa_cons (pv 1) (pa_cons (pv 2) (pa_cons (pv 8) (pa_cons (pv 9) pa_nil))))) (pa_cons (pe_tup (pa_cons pe_str (pa_cons pe_str pa_nil))) pa_nil))) (pa_cons (pe_tup (pa_cons (pe_tup (pa_cons (pv 1) (pa_cons (pv 2) (pa_cons (pv 7) (pa_cons (pv 9) pa_nil))))) (pa_cons (pe_tup (pa_cons pe_str (pa_cons (pe_callB (cr_repr hgd (room70 hr)) (by rfl) (T.free_repr) (by decide +kernel) (pa_cons (pv 6) pa_nil)) pa_nil))) pa_nil))) (pa_cons (pe_tup (pa_cons (pe_tup (pa_cons (pv 1) (pa_cons (pv 2) (pa_cons (pv 7) (pa_cons (pv 4) pa_nil))))) (pa_cons (pe_tup (pa_cons pe_str (pa_cons (pe_callB (cr_repr hgd (room70 hr)) (by rfl) (T.free_repr) (by decide +kernel) (pa_cons (pv 6) pa_nil)) pa_nil))) pa_nil))) (pa_cons (pe_tup (pa_cons (pe_tup (pa_cons (pv 1) (pa_cons (pv 2) (pa_cons (pv 3) (pa_cons (pv 9) pa_nil))))) (pa_cons (pe_tup (pa_cons pe_str (pa_cons (pe_callB (cr_repr hgd (room70 hr)) (by rfl) (T.free_repr) (by decide +kernel) (pa_cons (pv 10) pa_nil)) pa_nil))) pa_nil))) pa_nil)))))))))
      (pss_cons (ps_for PassesOwn.never rfl (pi_list (pv 11)) (pg_tup rfl (pgs_cons (pg_name (i := 12) sc_put_refused.nd rfl (by first | exact Or.inl rfl | exact Or.inr rfl)) (pgs_cons (pg_name (i := 13) sc_put_refused.nd rfl (by first | exact Or.inl rfl | exact Or.inr rfl)) pgs_nil))) (pss_one (ps_if (pt_cmpR (op_neP hr.units) (pe_callG (ok_put T TX) hgd hr (by rfl) T.g_put T.F_put.kp T.b_put (pa_cons (pe_ix ix_tup (pv 12) pe_int (fun _ _ => rfl)) (pa_cons (pe_ix ix_tup (pv 12) pe_int (fun _ _ => rfl)) (pa_cons (pe_ix ix_tup (pv 12) pe_int (fun _ _ => rfl)) (pa_cons (pe_ix ix_tup (pv 12) pe_int (fun _ _ => rfl)) pa_nil))))) (pv 13) (nomark _)) (pss_one (ps_ret pe_bl)) pss_nil)))
      (pss_one (ps_ret pe_bl)))))))))))
end
end K71
set_option Elab.async false
set_option linter.all false
set_option maxRecDepth 100000
/-! chains of nots -/
namespace Sh
open PySem PySem.Spec PyProof.Rows L2
open SX (S)
def nots (lo n : Nat) : List Part := (List.range n).map fun k => Part.un .not (lo + k)
theorem nots_len (lo n : Nat) : (nots lo n).length = n := by unfold nots; rw [List.length_map, List.length_range]
theorem nots_succ (lo n : Nat) : nots lo (n + 1) = nots lo n ++ [.un .not (lo + n)] := by
  unfold nots
  rw [List.range_succ, List.map_append]
  rfl
theorem nots_app (lo m n : Nat) : nots lo (m + n) = nots lo m ++ nots (lo + m) n := by
  induction n with
  | zero => simp [nots]
  | succ n ih => rw [← Nat.add_assoc, nots_succ, ih, nots_succ, List.append_assoc, Nat.add_assoc]
theorem nots_get {lo n k : Nat} (h : k < n) : (nots lo n)[k]? = some (.un .not (lo + k)) := by
  unfold nots
  rw [List.getElem?_map, List.getElem?_range h]
  rfl
theorem nots_mem {lo n : Nat} {p : Part} (h : p ∈ nots lo n) : ∃ k, k < n ∧ p = .un .not (lo + k) := by
  unfold nots at h
  obtain ⟨k, hk, e⟩ := List.mem_map.mp h
  exact ⟨k, List.mem_range.mp hk, e.symm⟩
def chainP (a n : Nat) : List Part := .letter a :: nots 0 n
theorem chainP_len (a n : Nat) : (chainP a n).length = n + 1 := by unfold chainP; rw [List.length_cons, nots_len]
theorem chainP_succ (a n : Nat) : chainP a (n + 1) = chainP a n ++ [.un .not n] := by
  unfold chainP
  rw [nots_succ, Nat.zero_add]
  rfl
theorem chainP_app (a m n : Nat) : chainP a (m + n) = chainP a m ++ nots m n := by
  unfold chainP
  rw [nots_app, Nat.zero_add]
  rfl
theorem chainP_wf {al : List Nat} {a : Nat} (h : a ∈ al) : ∀ n, WF al (chainP a n)
  | 0 => (WF.nil al).snoc (p := .letter a) h
  | n + 1 => by
    rw [chainP_succ]
    exact (chainP_wf h n).snoc (p := .un .not n) (by rw [chainP_len]; exact Nat.lt_succ_self n)
def chainT : Nat → Tr → Tr
  | 0, t => t
  | n + 1, t => .un .not (chainT n t)
theorem chainT_add (m n : Nat) (t : Tr) : chainT m (chainT n t) = chainT (m + n) t := by
  induction m with
  | zero => rw [Nat.zero_add]; rfl
  | succ m ih => rw [Nat.succ_add]; show Tr.un .not (chainT m (chainT n t)) = .un .not (chainT (m + n) t); rw [ih]
theorem substT_chain (f : Nat → Tr) (m : Nat) (t : Tr) : substT f (chainT m t) = chainT m (substT f t) := by
  induction m with
  | zero => rfl
  | succ m ih => show Tr.un .not (substT f (chainT m t)) = .un .not (chainT m (substT f t)); rw [ih]
theorem chain_tree (a n : Nat) : ∀ k, k ≤ n → treeAt (chainP a n) k = chainT k (.letter a) := by
  have wf : WR (chainP a n) := (chainP_wf (al := [a]) (List.mem_singleton.mpr rfl) n).wr
  intro k
  induction k with
  | zero => intro _; rw [treeAt_get wf (k := 0) (p := .letter a) rfl]; rfl
  | succ k ih =>
    intro hk
    have e : (chainP a n)[k + 1]? = some (.un .not k) := by
      show (nots 0 n)[k]? = _
      rw [nots_get (by omega), Nat.zero_add]
    rw [treeAt_get wf e]
    show Tr.un .not (treeAt (chainP a n) k) = .un .not (chainT k (.letter a))
    rw [ih (by omega)]
theorem chain_root (a n : Nat) : rootT (chainP a n) = chainT n (.letter a) := by
  unfold rootT
  rw [chainP_len, Nat.add_sub_cancel]
  exact chain_tree a n n (Nat.le_refl _)
theorem chain_ins (a : Nat) : ∀ n, ins (chainT n (.letter a)) [] = (chainP a n, n)
  | 0 => rfl
  | n + 1 => by
    show putP (ins (chainT n (.letter a)) []).1 (.un .not (ins (chainT n (.letter a)) []).2) = _
    rw [chain_ins a n]
    show putP (chainP a n) (.un .not n) = _
    have hn : Part.un .not n ∉ chainP a n := fun h => by
      unfold chainP at h
      rcases List.mem_cons.mp h with h | h
      · cases h
      · obtain ⟨k, hk, e⟩ := nots_mem h
        injection e with _ e
        omega
    unfold putP
    rw [if_neg hn, chainP_succ, chainP_len]
end Sh
set_option Elab.async false
set_option linter.all false
set_option maxRecDepth 100000
set_option maxHeartbeats 8000000
namespace K71
open PySem PySem.Spec PyProof.Rows L2 Sh
open SX (S)
local macro_rules | `(tactic| walk_at "v1") => `(tactic| first
  | with_reducible refine v_seq ?_ | with_reducible refine v_asg ?_ | ((with_reducible refine' v_name ?e ?_); (case e => exact rfl)) | with_reducible refine v_ret ?_ | with_reducible refine v_drop ?_ | with_reducible refine v_next ?_
  | with_reducible refine v_if ?_ | with_reducible refine v_op ?_ | with_reducible refine v_c ?_ | ((with_reducible refine' v_var ?e ?_); (case e => exact rfl))
  | with_reducible refine v_I0 ?_ | with_reducible refine v_test ?_ | with_reducible refine v_B ?_ | with_reducible refine v_bl ?_ | with_reducible refine v_not ?_ | with_reducible refine v_and ?_ | with_reducible refine v_or ?_
  | with_reducible refine v_andV ?_ | with_reducible refine v_orV ?_ | with_reducible refine v_notV ?_ | with_reducible refine v_ife ?_
  | with_reducible refine v_nil ?_ | with_reducible refine v_cons ?_ | with_reducible refine v_tup ?_ | with_reducible refine v_lst ?_ | with_reducible refine v_call ?_ | with_reducible refine v_cb ?_ | with_reducible refine v_int ?_ | with_reducible refine v_abs ?_
  | ((with_reducible refine' v_eq ?e ?_); (case e => exact rfl)) | ((with_reducible refine' v_ne ?e ?_); (case e => exact rfl)) | with_reducible refine v_sub ?_ | with_reducible refine v_isN ?_ | with_reducible refine v_notN ?_
  | with_reducible refine v_part ?_ | with_reducible refine v_nopart ?_ | with_reducible refine v_pint ?_ | with_reducible refine v_inSg ?_ | with_reducible refine v_notInSg ?_
  | ((with_reducible refine' v_ixL ?l ?a ?_); (case l => assumption); (case a => exact at_lit _ rfl)) | ((with_reducible refine' v_ixT ?l ?a ?_); (case l => assumption); (case a => exact at_lit _ rfl))
  | ((with_reducible refine v_I ?c ?_); (case c => (first | omega | (unfold CMul; omega) | (unfold CDivN; omega) | (unfold CPow; omega))))
  | with_reducible refine v_for ?_ | with_reducible refine v_iList ?_ | with_reducible refine v_iTup ?_ | with_reducible refine v_iStr ?_ | with_reducible refine v_iR1 ?_ | with_reducible refine v_iR2 ?_ | with_reducible refine v_atS ?_ | with_reducible refine v_sl ?_ | with_reducible refine v_lc ?_ | with_reducible refine v_yes ?_
  | with_reducible refine v_m1 ?_ | with_reducible refine v_m1S ?_ | with_reducible refine v_bm ?_ | with_reducible refine v_bm0 ?_ | with_reducible refine v_dnewK ?_ | with_reducible refine v_dnewT ?_ | with_reducible refine v_dget ?_ | with_reducible refine v_din ?_ | with_reducible refine v_dnotin ?_ | with_reducible refine v_dput ?_ | with_reducible refine v_chain ?_ | with_reducible refine v_un ?_ | with_reducible refine v_neg ?_
  | with_reducible refine v_brk ?_ | with_reducible refine v_cont ?_)
local macro_rules | `(tactic| walk_at "v") => `(tactic| repeat (walk_at "v1"))
local macro_rules | `(tactic| walk_at "vm") => `(tactic| repeat (first | ((with_reducible refine v_modP ?c ?_); (case c => omega); (intro _ _ _)) | walk_at "v1"))
local macro_rules | `(tactic| walk_at "iv") => `(tactic| (try dsimp only; refine IV.mk (by assumption) (by assumption) ?_))
local macro_rules | `(tactic| walk_at "n") => `(tactic| dsimp only [List.set_cons_zero, List.set_cons_succ])
section
variable {K : PySem.W.Frag} {B H : Hp} {M : List (Addr × HO)}
/-- the list of the nots from lo on -/
theorem lc_nots {Q : VK} {s0 s1 s2 s3 s4 s5 s6 s7 s8 s9 s10 : Option V} {lo n n' : Nat} {lz : Int} (hz : lz = (lo : Int)) (hn' : n' = n) (hs : Hs B M H) (hn : n ≤ 1000000) (q : ∀ (p : Addr) (xs : List V) (B' H' : Hp), Le B B' → Hs B' ((p, .lst xs) :: M) H' → RpAll K B' xs ((nots lo n).map (partD false)) → Q (.ref p) H') :
    LcR (gName 4) tYes (tTup (tCons (tC (.str "not")) (tCons (tVar 4) tNil))) [4] [s0, s1, s2, s3, s4, s5, s6, s7, s8, s9, s10] Q (Itr lz n') H := by
  subst hz hn'
  refine v_lcR hs (fun i acc B' M' => M' = M ∧ acc.length = i ∧ RpAll K B' acc ((nots lo i).map (partD false))) ⟨rfl, rfl, .nil⟩ ?_ ?_
  · rintro i p acc B' M' H' hi ha l h ⟨rfl, al, ra⟩
    refine v_name rfl ⟨rfl, v_yes (iteT' rfl ?_)⟩
    refine v_tup (v_cons (v_c (v_cons (v_var rfl (v_nil (v_size (by show 2 ≤ sizeLine; decide) (v_newB h fun t B2 H2 l2 h2 e2 => ?_)))))))
    refine IE.mk ha hi hn (l.trans l2) h2 ⟨rfl, by rw [List.length_append, al]; rfl, ?_⟩
    rw [nots_succ, List.map_append]
    refine (ra.up l2).append (.one (part_rp (p := .un .not (lo + i)) (l := false) (show B2 t = some (.tup _) from ?_)))
    rw [e2]
    show some (HO.tup [V.str "not", .int ((lo : Int) + (i : Int))]) = some (.tup [V.str "not", .int (((lo + i : Nat)) : Int)])
    rw [Int.natCast_add]
  · rintro p acc B' M' H' ha l h ⟨rfl, al, ra⟩
    exact q p acc B' H' l h ra
end
theorem sheet_m1 : (Out.sheet (-1)).t = ("-1" : Str) := by decide +kernel
theorem tail6 : ∀ tg ∈ names6, (cutS (S tg) (some 1) none).cps.size = tg.length - 1 := by
  intro tg htg
  simp only [names6, List.mem_cons, List.not_mem_nil, or_false] at htg
  rcases htg with rfl | rfl | rfl | rfl | rfl | rfl <;> decide
theorem atI_last1 {α : Type} (l : List α) (c : α) : atI (l ++ [c]) (-1) = some c := by
  have e : ixN (l ++ [c]).length (-1) = some l.length := by
    rw [List.length_append, List.length_singleton]
    unfold ixN
    rw [if_neg (by decide), if_pos (by omega)]
    congr 1
    omega
  unfold atI
  rw [e]
  simp
/-- the given sheets of the chains -/
def givenC (tl a : Nat) : List (List Part) := List.replicate (tl - 1) [.c true] ++ [chainP a 2999]
theorem snoc_of {tg : List Nat} (h : 1 ≤ tg.length) : ∃ init c, tg = init ++ [c] := by
  have hne : tg ≠ [] := by intro e; rw [e] at h; exact absurd h (by decide)
  exact ⟨tg.dropLast, tg.getLast hne, (List.dropLast_concat_getLast hne).symm⟩
theorem givenC_root {init : List Nat} {c a : Nat} (nd : (init ++ [c]).Nodup) : rootT ((givenC (init ++ [c]).length a).getD ((init ++ [c]).idxOf c) []) = chainT 2999 (.letter a) := by
  have hc : c ∉ init := fun h => by
    rw [List.nodup_append] at nd
    exact nd.2.2 c h c (List.mem_singleton.mpr rfl) rfl
  have hi : (init ++ [c]).idxOf c = init.length := by
    rw [List.idxOf_append, if_neg hc, List.idxOf_cons_self, Nat.zero_add]
  have hg : givenC (init ++ [c]).length a = List.replicate init.length [.c true] ++ [chainP a 2999] := by
    unfold givenC
    rw [List.length_append]
    rfl
  rw [hi, hg, List.getD_eq_getElem?_getD, List.getElem?_append_right (by rw [List.length_replicate]; exact Nat.le_refl _), List.length_replicate, Nat.sub_self]
  exact chain_root a 2999
theorem toldC {init : List Nat} {c a m : Nat} (nd : (init ++ [c]).Nodup) : toldT (init ++ [c]) (givenC (init ++ [c]).length a) (chainP c m) = chainP a (m + 2999) := by
  unfold toldT
  rw [chain_root, substT_chain]
  show (ins (chainT m (rootT ((givenC (init ++ [c]).length a).getD ((init ++ [c]).idxOf c) []))) []).1 = _
  rw [givenC_root nd, chainT_add, chain_ins]
theorem chain_fine {al : List Nat} {a n : Nat} (ha : a ∈ al) (h : ∀ a ∈ al, a < 1000) (hn : n + 1 ≤ 6000) (l li : Bool) : ShowOk (sheetD l li (chainP a n)) := by
  have s := wf_small (chainP_wf ha n) h (by rw [chainP_len]; omega)
  have f := fine_sheet (l := l) (li := li) s
  rw [chainP_len] at f
  exact f.ok (by decide) (by omega)
section
variable {P : Program} {w : World} {K : PySem.W.Frag} {mg : Str → Option Value} {base : Heap}
def sp_chains (T : Txt K mg w) : Sp := fun vs H Q _ => ∃ (B : Hp) (M : List (Addr × HO)) (al tg : List Nat) (more : Nat), vs = [.str (S al), .str (S tg), .int (more : Int)] ∧ Hs B M H ∧ al ∈ names6 ∧ tg ∈ names6 ∧ more ≤ 1 ∧
  ∀ (B' H' : Hp), Le B B' → Hs B' M H' → Q (.bl true) H'
def t_chains (T : Txt K mg w) : TS := (tSeq (tAsg (tOp rCat (tLst (tCons (tTup (tCons (tC (.str "letter")) (tCons (tOp rIxS (tVar 0) (tC (.int 0))) tNil))) tNil)) (tLc (iRng1 (tCons (tC (.int 2999)) tNil)) (gName 4) tYes (tTup (tCons (tC (.str "not")) (tCons (tVar 4) tNil))) [4])) (gName 3))
    (tSeq (tAsg (tOp rCat (tLst (tCons (tTup (tCons (tC (.str "letter")) (tCons (tOp rIxS (tVar 1) (tUn (rU fun i => .int (-i)) (tC (.int 1)))) tNil))) tNil)) (tLc (iRng1 (tCons (tOp rAddI (tC (.int 3000)) (tVar 2)) tNil)) (gName 4) tYes (tTup (tCons (tC (.str "not")) (tCons (tVar 4) tNil))) [4])) (gName 5))
    (tSeq (tAsg (tOp rCat (tLc (iStr (tSl rSlS (tVar 1) (tPart (tC (.int 1))) tNoPart)) (gName 7) tYes (tLst (tCons (tTup (tCons (tC (.str "yes")) tNil)) tNil)) [7]) (tLst (tCons (tVar 3) tNil))) (gName 6))
    (tSeq (tAsg (tCall (sp_put T) [] E0 (tCons (tVar 0) (tCons (tVar 1) (tCons (tVar 6) (tCons (tVar 5) tNil))))) (gTup K 2 (gCons (gName 8) (gCons (gName 9) gNil))))
    (tSeq (tIfS (tTest (tOp rEq (tVar 2) (tC (.int 1)))) (tSeq (tAsg (tOp rCat (tVar 5) (tLc (iRng2 (tCons (tC (.int 3001)) (tCons (tC (.int 6000)) tNil))) (gName 4) tYes (tTup (tCons (tC (.str "not")) (tCons (tVar 4) tNil))) [4])) (gName 10))
    (tSeq (tIfS (tTest (tOp (rNeP K) (tCall (sp_put T) [] E0 (tCons (tVar 0) (tCons (tVar 1) (tCons (tVar 6) (tCons (tVar 10) tNil))))) (tTup (tCons (tC (.str "sheet")) (tCons (tC (.str "-1")) tNil))))) (tRet (tC (.bl false))) tNext)
    (tRet (tOp (rEqP K) (tTup (tCons (tVar 8) (tCons (tVar 9) tNil))) (tTup (tCons (tC (.str "many")) (tCons (tC (.str "part")) tNil))))))) tNext)
    (tRet (tOp (rEqP K) (tTup (tCons (tVar 8) (tCons (tVar 9) tNil))) (tTup (tCons (tC (.str "told")) (tCons (tCB (rRepr K) (tCons (tCB (rCTup K) (tCons (tOp rCat (tVar 3) (tLc (iRng2 (tCons (tC (.int 2999)) (tCons (tC (.int 5999)) tNil))) (gName 4) tYes (tTup (tCons (tC (.str "not")) (tCons (tVar 4) tNil))) [4])) tNil)) tNil)) tNil))))))))))
theorem pure_chains (T : Txt K mg w) (vs : List V) (H : Hp) (Q : VK) (E : XK) (h : sp_chains T vs H Q E) : t_chains T { nx := fun _ H' => Q .non H', rt := Q } (start n_chains vs) H := by
  obtain ⟨B, M, al, tg, more, rfl, hs, hal, htg, m1, q⟩ := h
  have NA := names_ok al hal
  have NT := names_ok tg htg
  have t1 := NT.l1
  have t3 := NT.l3
  obtain ⟨a, rest, rfl⟩ : ∃ a rest, al = a :: rest := by
    cases al with
    | nil => exact absurd NA.l1 (by decide)
    | cons a r => exact ⟨a, r, rfl⟩
  obtain ⟨init, c, rfl⟩ := snoc_of t1
  show t_chains T _ [some (V.str (S (a :: rest))), some (V.str (S (init ++ [c]))), some (V.int (more : Int)), none, none, none, none, none, none, none, none] H
  unfold t_chains
  have sl1 : (cutS (S (init ++ [c])) (some 1) none).cps.size = (init ++ [c]).length - 1 := tail6 _ htg
  have za : ∀ z, PyData.str (S (a :: rest)) = .str z → z.length ≤ 1000000 := fun z e => by
    cases e
    rw [S_length]
    have := NA.l3
    omega
  have zt : ∀ z, PyData.str (S (init ++ [c])) = .str z → z.length ≤ 1000000 := fun z e => by
    cases e
    rw [S_length]
    omega
  have am : a ∈ a :: rest := List.mem_cons_self ..
  have cm : c ∈ init ++ [c] := by simp
  -- given
  walk_at "v"
  refine v_ixS (c := a) (by rw [S_length]; exact sz_of (by have := NA.l3; omega)) (at_lit 0 rfl) ?_
  walk_at "v"
  refine v_size (by show 2 ≤ sizeLine; decide) (v_newB hs fun t1 B1 H1 l1 h1 e1 => ?_)
  walk_at "v"
  refine v_size (by show 1 ≤ sizeLine; decide) (v_newB h1 fun t2 B2 H2 l2 h2 e2 => ?_)
  walk_at "v"
  refine v_atR1 (by omega) (lc_nots (K := K) (lo := 0) (n := 2999) rfl rfl h2 (by omega) fun p3 xs B3 H3 l3 h3 r3 => ?_)
  obtain ⟨h4, l4⟩ := h3.fix
  refine v_cat (h4.sub _ _ (l4 _ _ (l3 _ _ e2))) (h4.sub _ _ upd_same) (by rw [r3.length, List.length_map, nots_len]; exact sz_of (by show 1 + 2999 ≤ 1000000; omega)) (v_newB h4 fun ga B5 H5 l5 h5 e5 => ?_)
  have l15 := (l1.trans l2).trans (l3.trans (l4.trans l5))
  have rgx : RpAll K B5 (.ref t1 :: xs) ((chainP a 2999).map (partD false)) := (.cons (part_rp (p := .letter a) (l := false) (show B5 t1 = some (.tup _) from l5 _ _ (l4 _ _ (l3 _ _ (l2 _ _ e1))))) (r3.up (l4.trans l5)))
  have rg : Rp K B5 (.ref ga) (sheetD true false (chainP a 2999)) := .lst (SqL.of e5) rgx
  clear e1 e2 h1 h2 h3 h4 hs
  -- sheet
  walk_at "v"
  refine v_ixS (c := c) (by rw [S_length]; exact sz_of (by omega)) (by rw [S_tl]; exact atI_last1 init c) ?_
  walk_at "v"
  refine v_size (by show 2 ≤ sizeLine; decide) (v_newB h5 fun t1' B6 H6 l6 h6 e6 => ?_)
  walk_at "v"
  refine v_size (by show 1 ≤ sizeLine; decide) (v_newB h6 fun t2' B7 H7 l7 h7 e7 => ?_)
  walk_at "v"
  refine v_atR1 (by omega) (lc_nots (K := K) (lo := 0) (n := 3000 + more) rfl (by omega) h7 (by omega) fun p8 ys B8 H8 l8 h8 r8 => ?_)
  obtain ⟨h9, l9⟩ := h8.fix
  refine v_cat (h9.sub _ _ (l9 _ _ (l8 _ _ e7))) (h9.sub _ _ upd_same) (by rw [r8.length, List.length_map, nots_len]; exact sz_of (by show 1 + (3000 + more) ≤ 1000000; omega)) (v_newB h9 fun sa B10 H10 l10 h10 e10 => ?_)
  have l610 := (l6.trans l7).trans (l8.trans (l9.trans l10))
  have rsx : RpAll K B10 (.ref t1' :: ys) ((chainP c (3000 + more)).map (partD false)) := (.cons (part_rp (p := .letter c) (l := false) (show B10 t1' = some (.tup _) from l10 _ _ (l9 _ _ (l8 _ _ (l7 _ _ e6))))) (r8.up (l9.trans l10)))
  have rs : Rp K B10 (.ref sa) (sheetD true false (chainP c (3000 + more))) := .lst (SqL.of e10) rsx
  clear e6 e7 h5 h6 h7 h8 h9
  -- sheets
  walk_at "v"
  refine v_slS (by rw [S_length]; exact sz_of (by omega)) (v_atS ?_)
  refine v_lcS h10 (fun i acc B' M' => M' = M ∧ acc.length = i ∧ RpAll K B' acc ((List.replicate i [Part.c true]).map (sheetD true false))) ⟨rfl, rfl, .nil⟩ ?_ ?_
  · rintro i ch p acc B' M' H' hi hc ha l h ⟨rfl, al', ra⟩
    walk_at "v"
    refine ⟨rfl, ?_⟩
    walk_at "v"
    refine iteT' rfl ?_
    walk_at "v"
    refine v_size (by show 1 ≤ sizeLine; decide) (v_newB h fun t B2 H2 l2 h2 e2 => ?_)
    walk_at "v"
    refine v_size (by show 1 ≤ sizeLine; decide) (v_newB h2 fun t3 B3' H3' l3' h3 e3 => ?_)
    refine IE.mk ha hi (by rw [sl1]; omega) (l.trans (l2.trans l3')) h3 ⟨rfl, by rw [List.length_append, al']; rfl, ?_⟩
    rw [List.replicate_succ', List.map_append]
    exact (ra.up (l2.trans l3')).append (.one (.lst (SqL.of e3) (.one (part_rp (p := .c true) (l := false) (show B3' t = some (.tup _) from l3' _ _ e2)))))
  rintro p11 acc B11 M' H11 ha l11 h11 ⟨rfl, al', r11⟩
  rw [sl1] at r11
  obtain ⟨h12, l12⟩ := h11.fix
  walk_at "v"
  refine v_size (by show 1 ≤ sizeLine; decide) (v_newB h12 fun t13 B13 H13 l13 h13 e13 => ?_)
  refine v_cat (h13.sub _ _ (l13 _ _ upd_same)) (h13.sub _ _ e13) (by rw [r11.length, List.length_map, List.length_replicate]; exact sz_of (by show _ + 1 ≤ 1000000; omega)) (v_newB h13 fun sh B14 H14 l14 h14 e14 => ?_)
  have l1014 := l11.trans (l12.trans (l13.trans l14))
  have rsh : Rp K B14 (.ref sh) (.list ((givenC (init ++ [c]).length a).map (sheetD true false))) := by
    refine .lst (SqL.of e14) ?_
    unfold givenC
    rw [List.map_append]
    exact (r11.up (l12.trans (l13.trans l14))).append (.one (rg.up (l610.trans l1014)))
  have rs14 := rs.up l1014
  clear h10 h11 h12 h13 e13 r11
  have gl : (givenC (init ++ [c]).length a).length = (init ++ [c]).length := by
    unfold givenC
    rw [List.length_append, List.length_replicate]
    show _ + 1 = _
    omega
  have gok : ∀ g ∈ (givenC (init ++ [c]).length a).map (GS.good true false), g.ok (a :: rest) := fun g hg => by
    obtain ⟨q, hq, rfl⟩ := List.mem_map.mp hg
    unfold givenC at hq
    rcases List.mem_append.mp hq with hq | hq
    · obtain ⟨_, rfl⟩ := List.mem_replicate.mp hq
      exact ⟨(WF.nil _).snoc (p := .c true) trivial, by show 1 ≤ 1; decide, by show 1 ≤ 6000; decide⟩
    · obtain rfl := List.mem_singleton.mp hq
      exact ⟨chainP_wf am _, by rw [chainP_len]; omega, by rw [chainP_len]; omega⟩
  have gnum := good_num (li := false) (gs := givenC (init ++ [c]).length a)
  have gps : ((givenC (init ++ [c]).length a).map (GS.good true false)).map GS.ps = givenC (init ++ [c]).length a := by
    rw [List.map_map]
    exact List.map_id _
  have base1 : ∀ (h : GS) (o : Out), h.ok (init ++ [c]) → ((∃ n, h.num = some n ∧ n.natAbs ≤ 1000000 ∧ o = .sheet n) ∨ (h.num = none ∧ ((6000 < (toldT (init ++ [c]) (givenC (init ++ [c]).length a) h.ps).length ∧ o = .many) ∨ ((toldT (init ++ [c]) (givenC (init ++ [c]).length a) h.ps).length ≤ 6000 ∧ ShowOk (sheetD false false (toldT (init ++ [c]) (givenC (init ++ [c]).length a) h.ps)) ∧ o = .told (toldT (init ++ [c]) (givenC (init ++ [c]).length a) h.ps))))) →
      PutD (.str (S (a :: rest))) (.str (S (init ++ [c]))) (.list ((givenC (init ++ [c]).length a).map (sheetD true false))) h.d o := fun h o hok x => by
    refine .inr (.inr ⟨_, _, rfl, rfl, NA.alpha, NT.alpha, NT.nd, .inr ⟨true, (givenC (init ++ [c]).length a).map (GS.good true false), by rw [good_d]; rfl, by rw [List.length_map]; exact gl, gok, .inr ⟨gnum, h, rfl, hok, ?_⟩⟩⟩)
    rw [gps]
    exact x
  have told := toldC (a := a) (m := 3000 + more) NT.nd
  obtain ⟨o, pd, ho⟩ : ∃ o, PutD (.str (S (a :: rest))) (.str (S (init ++ [c]))) (.list ((givenC (init ++ [c]).length a).map (sheetD true false))) (sheetD true false (chainP c (3000 + more))) o ∧ ((more = 0 ∧ o = .told (chainP a 5999)) ∨ (more = 1 ∧ o = .many)) := by
    have kok : (GS.good true false (chainP c (3000 + more))).ok (init ++ [c]) := ⟨chainP_wf cm _, by rw [chainP_len]; omega, by rw [chainP_len]; omega⟩
    rcases (show more = 0 ∨ more = 1 by omega) with rfl | rfl
    · refine ⟨_, base1 (.good true false (chainP c 3000)) _ kok (.inr ⟨rfl, .inr ?_⟩), .inl ⟨rfl, rfl⟩⟩
      show (toldT (init ++ [c]) (givenC (init ++ [c]).length a) (chainP c (3000 + 0))).length ≤ 6000 ∧ ShowOk (sheetD false false (toldT (init ++ [c]) (givenC (init ++ [c]).length a) (chainP c (3000 + 0)))) ∧ _ = Out.told (toldT (init ++ [c]) (givenC (init ++ [c]).length a) (chainP c (3000 + 0)))
      rw [told, chainP_len]
      exact ⟨by omega, chain_fine am NA.small (by omega) _ _, rfl⟩
    · refine ⟨_, base1 (.good true false (chainP c 3001)) _ kok (.inr ⟨rfl, .inl ⟨?_, rfl⟩⟩), .inr ⟨rfl, rfl⟩⟩
      show 6000 < (toldT (init ++ [c]) (givenC (init ++ [c]).length a) (chainP c (3000 + 1))).length
      rw [told, chainP_len]
      omega
  walk_at "v"
  refine ⟨B14, _, _, _, _, _, _, _, _, _, o, rfl, h14, .str _, .str _, rsh, rs14, za, zt, pd, fun v' B15 H15 l15' h15 r15 => ?_⟩
  obtain ⟨ra, rxs, rfl, er, rr⟩ := rp_mk (l := false) (ds := [.str o.k, .str o.t]) r15
  obtain rfl : rxs = [.str o.k, .str o.t] := by
    cases rr with
    | cons c1 c2 => cases c2 with
      | cons c3 c4 => cases c1; cases c3; cases c4; rfl
  refine v_gTup2 (h15.t (SqT.of er)) ?_
  have lall := l15.trans (l610.trans (l1014.trans l15'))
  walk_at "v"
  rcases ho with ⟨rfl, rfl⟩ | ⟨rfl, rfl⟩
  · refine iteF' (by decide) ?_
    walk_at "v"
    refine v_size (by show 2 ≤ sizeLine; decide) (v_newB h15 fun q1 B16 H16 l16 h16 e16 => ?_)
    walk_at "v"
    refine v_atR2 (by omega) (lc_nots (K := K) (lo := 2999) (n := 3000) rfl rfl h16 (by omega) fun p17 zs B17 H17 l17 h17 r17 => ?_)
    obtain ⟨h18, l18⟩ := h17.fix
    have l5_18 := l610.trans (l1014.trans (l15'.trans (l16.trans (l17.trans l18))))
    refine v_cat (h18.sub _ _ (l5_18 _ _ e5)) (h18.sub _ _ upd_same) (by rw [r17.length, List.length_map, nots_len]; exact sz_of (by show (V.ref t1 :: xs).length + 3000 ≤ 1000000; rw [rgx.length, List.length_map, chainP_len]; omega)) (v_newB h18 fun t19 B19 H19 l19 h19 e19 => ?_)
    walk_at "v"
    refine v_tupleL (SqL.of (h19.sub _ _ e19)) (v_newB h19 fun t20 B20 H20 l20 h20 e20 => ?_)
    walk_at "v"
    refine v_repr (d := sheetD false false (chainP a 5999)) h20 (mk_rp (l := false) (show SqX K B20 false t20 _ from e20) ?_) (chain_fine am NA.small (by omega) _ _) ?_
    · rw [show (5999 : Nat) = 2999 + 3000 from rfl, chainP_app, List.map_append]
      exact (rgx.up (l5_18.trans (l19.trans l20))).append (r17.up (l18.trans (l19.trans l20)))
    walk_at "v"
    refine v_size (by show 2 ≤ sizeLine; decide) (v_newB h20 fun q2 B21 H21 l21 h21 e21 => ?_)
    have l17_21 := l17.trans (l18.trans (l19.trans (l20.trans l21)))
    refine v_eqP h21 (.tup (l17_21 _ _ e16) (.cons (.str _) (.cons (.str _) .nil))) (.tup e21 (.cons (.str _) (.cons (.str _) .nil))) rfl (two_depth _ _) ?_
    exact q _ _ (lall.trans (l16.trans l17_21)) h21
  · refine iteT' (by decide) ?_
    walk_at "v"
    refine v_atR2 (by omega) (lc_nots (K := K) (lo := 3001) (n := 2999) rfl rfl h15 (by omega) fun p16 zs B16 H16 l16 h16 r16 => ?_)
    obtain ⟨h17, l17⟩ := h16.fix
    have l10_17 := l1014.trans (l15'.trans (l16.trans l17))
    refine v_cat (h17.sub _ _ (l10_17 _ _ e10)) (h17.sub _ _ upd_same) (by rw [r16.length, List.length_map, nots_len]; exact sz_of (by show (V.ref t1' :: ys).length + 2999 ≤ 1000000; rw [rsx.length, List.length_map, chainP_len]; omega)) (v_newB h17 fun lo B18 H18 l18 h18 e18 => ?_)
    walk_at "v"
    have l14_18 := l15'.trans (l16.trans (l17.trans l18))
    have rl : Rp K B18 (.ref lo) (sheetD true false (chainP c 6000)) := by
      refine .lst (SqL.of e18) ?_
      rw [show (6000 : Nat) = (3000 + 1) + 2999 from rfl, chainP_app, List.map_append]
      exact (rsx.up (l1014.trans l14_18)).append (r16.up (l17.trans l18))
    have like : sheetLikeD (sheetD true false (chainP c 6000)) = false := by
      show (isLT (mkD true ((chainP c 6000).map (partD false))) && (decide (1 ≤ (itemsD (mkD true ((chainP c 6000).map (partD false)))).length) && decide ((itemsD (mkD true ((chainP c 6000).map (partD false)))).length ≤ 6000))) = false
      rw [items_mk, List.length_map, chainP_len, decide_eq_false (show ¬ 6000 + 1 ≤ 6000 by omega), Bool.and_false, Bool.and_false]
    refine ⟨B18, _, _, _, _, _, _, _, _, _, .sheet (-1), rfl, h18, .str _, .str _, rsh.up l14_18, rl, za, zt, base1 (.bad (sheetD true false (chainP c 6000))) _ like (.inl ⟨-1, rfl, by decide, rfl⟩), fun v2 B19 H19 l19 h19 r19 => ?_⟩
    rw [sheet_m1] at r19
    walk_at "v"
    refine v_size (by show 2 ≤ sizeLine; decide) (v_newB h19 fun q1 B20 H20 l20 h20 e20 => ?_)
    refine v_neP h20 (r19.up l20) (.tup e20 (.cons (.str _) (.cons (.str _) .nil))) rfl (two_depth _ _) ?_
    walk_at "v"
    refine iteF' rfl ?_
    walk_at "v"
    refine v_size (by show 2 ≤ sizeLine; decide) (v_newB h20 fun q2 B21 H21 l21 h21 e21 => ?_)
    walk_at "v"
    refine v_size (by show 2 ≤ sizeLine; decide) (v_newB h21 fun q3 B22 H22 l22 h22 e22 => ?_)
    refine v_eqP h22 (.tup (l22 _ _ e21) (.cons (.str _) (.cons (.str _) .nil))) (.tup e22 (.cons (.str _) (.cons (.str _) .nil))) rfl (two_depth _ _) ?_
    exact q _ _ (lall.trans (l16.trans (l17.trans (l18.trans (l19.trans (l20.trans (l21.trans l22))))))) h22
theorem ok_chains (T : Txt K mg w) (TX : TxtX T P) : FnG P w K mg base CX0 9 T.a_chains T.fd_chains ["_law_alphabet", "_law_target", "_law_more"] (sp_chains T) := by
  refine okG0_of T.F_chains sc_chains (fun vs H Q E h => ?_) (fun cdv A outer s H vs Q E hgd hr h => ⟨t_chains T, ?_, pure_chains T vs H Q E h⟩)
  · obtain ⟨B, M, al, tg, more, rfl, _⟩ := h
    rfl
  · exact (pss_cons (ps_set (i := 3) sc_chains.nd rfl (by first | exact Or.inl rfl | exact Or.inr rfl) (pe_op op_cat (pe_lst (pa_cons (pe_tup (pa_cons pe_str (pa_cons (pe_ix ix_str (pv 0) pe_int (fun _ _ => rfl)) pa_nil))) pa_nil)) (pe_lc (own := [("_law_k", 4)]) (g := (gName 4)) (tt := tYes) rfl sc_chains.nd (pi_range1 (by rfl) (T.free_range) (pa_cons pe_int pa_nil)) (blkOk_by (own := [("_law_k", 4)]) (N := n_chains) (sc := defScope s_chains) (by decide +kernel)) (fun _ _ _ _ _ => (pg_name (i := 4) sc_chains.nd rfl (Or.inl rfl))) (fun _ _ _ _ _ => pts_nil) (fun _ _ _ _ _ => (pe_tup (pa_cons pe_str (pa_cons (pv 4) pa_nil)))))))
      (pss_cons (ps_set (i := 5) sc_chains.nd rfl (by first | exact Or.inl rfl | exact Or.inr rfl) (pe_op op_cat (pe_lst (pa_cons (pe_tup (pa_cons pe_str (pa_cons (pe_ix ix_str (pv 1) (pe_un un_neg pe_int) (fun _ _ => rfl)) pa_nil))) pa_nil)) (pe_lc (own := [("_law_k", 4)]) (g := (gName 4)) (tt := tYes) rfl sc_chains.nd (pi_range1 (by rfl) (T.free_range) (pa_cons (pe_op op_add pe_int (pv 2)) pa_nil)) (blkOk_by (own := [("_law_k", 4)]) (N := n_chains) (sc := defScope s_chains) (by decide +kernel)) (fun _ _ _ _ _ => (pg_name (i := 4) sc_chains.nd rfl (Or.inl rfl))) (fun _ _ _ _ _ => pts_nil) (fun _ _ _ _ _ => (pe_tup (pa_cons pe_str (pa_cons (pv 4) pa_nil)))))))
      (pss_cons (ps_set (i := 6) sc_chains.nd rfl (by first | exact Or.inl rfl | exact Or.inr rfl) (pe_op op_cat (pe_lc (own := [("_law_letter", 7)]) (g := (gName 7)) (tt := tYes) rfl sc_chains.nd (pi_str (pe_slice sl_str (pv 1) (po_some pe_int) po_none)) (blkOk_by (own := [("_law_letter", 7)]) (N := n_chains) (sc := defScope s_chains) (by decide +kernel)) (fun _ _ _ _ _ => (pg_name (i := 7) sc_chains.nd rfl (Or.inl rfl))) (fun _ _ _ _ _ => pts_nil) (fun _ _ _ _ _ => (pe_lst (pa_cons (pe_tup (pa_cons pe_str pa_nil)) pa_nil)))) (pe_lst (pa_cons (pv 3) pa_nil))))
      (pss_cons (ps_asg (pe_callG (ok_put T TX) hgd hr (by rfl) T.g_put T.F_put.kp T.b_put (pa_cons (pv 0) (pa_cons (pv 1) (pa_cons (pv 6) (pa_cons (pv 5) pa_nil))))) (pg_tup rfl (pgs_cons (pg_name (i := 8) sc_chains.nd rfl (by first | exact Or.inl rfl | exact Or.inr rfl)) (pgs_cons (pg_name (i := 9) sc_chains.nd rfl (by first | exact Or.inl rfl | exact Or.inr rfl)) pgs_nil))))
      (pss_cons (ps_if (pt_cmpR op_eq (pv 2) pe_int (nomark _)) (pss_cons (ps_set (i := 10) sc_chains.nd rfl (by first | exact Or.inl rfl | exact Or.inr rfl) (pe_op op_cat (pv 5) (pe_lc (own := [("_law_k", 4)]) (g := (gName 4)) (tt := tYes) rfl sc_chains.nd (pi_range2 (by rfl) (T.free_range) (pa_cons pe_int (pa_cons pe_int pa_nil))) (blkOk_by (own := [("_law_k", 4)]) (N := n_chains) (sc := defScope s_chains) (by decide +kernel)) (fun _ _ _ _ _ => (pg_name (i := 4) sc_chains.nd rfl (Or.inl rfl))) (fun _ _ _ _ _ => pts_nil) (fun _ _ _ _ _ => (pe_tup (pa_cons pe_str (pa_cons (pv 4) pa_nil)))))))
      (pss_cons (ps_if (pt_cmpR (op_neP hr.units) (pe_callG (ok_put T TX) hgd hr (by rfl) T.g_put T.F_put.kp T.b_put (pa_cons (pv 0) (pa_cons (pv 1) (pa_cons (pv 6) (pa_cons (pv 10) pa_nil))))) (pe_tup (pa_cons pe_str (pa_cons pe_str pa_nil))) (nomark _)) (pss_one (ps_ret pe_bl)) pss_nil)
      (pss_one (ps_ret (pe_cmpR (op_eqP hr.units) (pe_tup (pa_cons (pv 8) (pa_cons (pv 9) pa_nil))) (pe_tup (pa_cons pe_str (pa_cons pe_str pa_nil))) (nomark _)))))) pss_nil)
      (pss_one (ps_ret (pe_cmpR (op_eqP hr.units) (pe_tup (pa_cons (pv 8) (pa_cons (pv 9) pa_nil))) (pe_tup (pa_cons pe_str (pa_cons (pe_callB (cr_repr hgd (room70 hr)) (by rfl) (T.free_repr) (by decide +kernel) (pa_cons (pe_callTy call_tuple_of (by rfl) (T.free_tuple) (by decide +kernel) (pa_cons (pe_op op_cat (pv 3) (pe_lc (own := [("_law_k", 4)]) (g := (gName 4)) (tt := tYes) rfl sc_chains.nd (pi_range2 (by rfl) (T.free_range) (pa_cons pe_int (pa_cons pe_int pa_nil))) (blkOk_by (own := [("_law_k", 4)]) (N := n_chains) (sc := defScope s_chains) (by decide +kernel)) (fun _ _ _ _ _ => (pg_name (i := 4) sc_chains.nd rfl (Or.inl rfl))) (fun _ _ _ _ _ => pts_nil) (fun _ _ _ _ _ => (pe_tup (pa_cons pe_str (pa_cons (pv 4) pa_nil)))))) pa_nil)) pa_nil)) pa_nil))) (nomark _)))))))))
end
end K71
set_option Elab.async false
set_option linter.all false
set_option maxRecDepth 100000
set_option maxHeartbeats 4000000
namespace K71
open PySem PySem.Spec PyProof.Rows L2 Sh
open SX (S)
local macro_rules | `(tactic| walk_at "v1") => `(tactic| first
  | with_reducible refine v_seq ?_ | with_reducible refine v_asg ?_ | ((with_reducible refine' v_name ?e ?_); (case e => exact rfl)) | with_reducible refine v_ret ?_ | with_reducible refine v_drop ?_ | with_reducible refine v_next ?_
  | with_reducible refine v_if ?_ | with_reducible refine v_op ?_ | with_reducible refine v_c ?_ | ((with_reducible refine' v_var ?e ?_); (case e => exact rfl))
  | with_reducible refine v_I0 ?_ | with_reducible refine v_test ?_ | with_reducible refine v_B ?_ | with_reducible refine v_bl ?_ | with_reducible refine v_not ?_ | with_reducible refine v_and ?_ | with_reducible refine v_or ?_
  | with_reducible refine v_andV ?_ | with_reducible refine v_orV ?_ | with_reducible refine v_notV ?_ | with_reducible refine v_ife ?_
  | with_reducible refine v_nil ?_ | with_reducible refine v_cons ?_ | with_reducible refine v_tup ?_ | with_reducible refine v_lst ?_ | with_reducible refine v_call ?_ | with_reducible refine v_cb ?_ | with_reducible refine v_int ?_ | with_reducible refine v_abs ?_
  | ((with_reducible refine' v_eq ?e ?_); (case e => exact rfl)) | ((with_reducible refine' v_ne ?e ?_); (case e => exact rfl)) | with_reducible refine v_sub ?_ | with_reducible refine v_isN ?_ | with_reducible refine v_notN ?_
  | with_reducible refine v_part ?_ | with_reducible refine v_nopart ?_ | with_reducible refine v_pint ?_ | with_reducible refine v_inSg ?_ | with_reducible refine v_notInSg ?_
  | ((with_reducible refine' v_ixL ?l ?a ?_); (case l => assumption); (case a => exact at_lit _ rfl)) | ((with_reducible refine' v_ixT ?l ?a ?_); (case l => assumption); (case a => exact at_lit _ rfl))
  | ((with_reducible refine v_I ?c ?_); (case c => (first | omega | (unfold CMul; omega) | (unfold CDivN; omega) | (unfold CPow; omega))))
  | with_reducible refine v_for ?_ | with_reducible refine v_iList ?_ | with_reducible refine v_iTup ?_ | with_reducible refine v_iStr ?_ | with_reducible refine v_iR1 ?_ | with_reducible refine v_iR2 ?_ | with_reducible refine v_atS ?_ | with_reducible refine v_sl ?_ | with_reducible refine v_lc ?_ | with_reducible refine v_yes ?_
  | with_reducible refine v_m1 ?_ | with_reducible refine v_m1S ?_ | with_reducible refine v_bm ?_ | with_reducible refine v_bm0 ?_ | with_reducible refine v_dnewK ?_ | with_reducible refine v_dnewT ?_ | with_reducible refine v_dget ?_ | with_reducible refine v_din ?_ | with_reducible refine v_dnotin ?_ | with_reducible refine v_dput ?_ | with_reducible refine v_chain ?_ | with_reducible refine v_un ?_ | with_reducible refine v_neg ?_
  | with_reducible refine v_brk ?_ | with_reducible refine v_cont ?_)
local macro_rules | `(tactic| walk_at "v") => `(tactic| repeat (walk_at "v1"))
local macro_rules | `(tactic| walk_at "vm") => `(tactic| repeat (first | ((with_reducible refine v_modP ?c ?_); (case c => omega); (intro _ _ _)) | walk_at "v1"))
local macro_rules | `(tactic| walk_at "iv") => `(tactic| (try dsimp only; refine IV.mk (by assumption) (by assumption) ?_))
local macro_rules | `(tactic| walk_at "n") => `(tactic| dsimp only [List.set_cons_zero, List.set_cons_succ])
abbrev strV (r : List Nat) : V := V.str (S r)
def sp_rows (K : PySem.W.Frag) : Sp := fun vs H Q _ => ∃ (B : Hp) (M : List (Addr × HO)) (al : List Nat) (most : Nat), vs = [.str (S al), .int (most : Int)] ∧ Hs B M H ∧ al.length ≤ 3 ∧ most ≤ 3 ∧
  ∀ (p : Addr) (rs : List (List Nat)) (B' H' : Hp), Le B B' → B' p = some (.lst (rs.map strV)) → (∀ r ∈ rs, r.length ≤ 3) → rs.length ≤ 200 → Hs B' M H' → Q (.ref p) H'
def t_rows (K : PySem.W.Frag) : TS := (tSeq (tAsg (tLst (tCons (tC (.str "")) tNil)) (gName 2))
    (tSeq (tAsg (tLst (tCons (tC (.str "")) tNil)) (gName 3))
    (tSeq (tFor (iRng1 (tCons (tVar 1) tNil)) (gName 4) (tSeq (tAsg (tLst tNil) (gName 5))
    (tSeq (tFor (iList K (tVar 2)) (gName 6) (tFor (iStr (tVar 0)) (gName 7) (tDrop (tBM K "list" rAppend (tVar 5) (tCons (tOp rAddS (tVar 6) (tVar 7)) tNil)))))
    (tSeq (tAsg (tCB (rCList K) (tCons (tVar 5) tNil)) (gName 2))
    (tAsg (tOp rCat (tVar 3) (tVar 5)) (gName 3))))))
    (tRet (tVar 3)))))
theorem pure_rows {K : PySem.W.Frag} (vs : List V) (H : Hp) (Q : VK) (E : XK) (h : sp_rows K vs H Q E) : t_rows K { nx := fun _ H' => Q .non H', rt := Q } (start n_rows vs) H := by
  obtain ⟨B, M, al, most, rfl, hs, a3, m3, q⟩ := h
  show t_rows K _ [some (V.str (S al)), some (V.int (most : Int)), none, none, none, none, none, none] H
  unfold t_rows
  walk_at "v"
  refine v_size (by show 1 ≤ sizeLine; decide) (v_newB hs fun lv B1 H1 l1 hs1 e1 => ?_)
  walk_at "v"
  refine v_size (by show 1 ≤ sizeLine; decide) (v_newB hs1 fun td B2 H2 l2 hs2 e2 => ?_)
  walk_at "v"
  refine v_atR1 (by omega) ?_
  refine v_forR hs2 (fun i σ B' M' => M' = M ∧ ∃ (lv td : Addr) (ls ts : List (List Nat)) (y4 y5 y6 y7 : Option V), B' lv = some (.lst (ls.map strV)) ∧ B' td = some (.lst (ts.map strV)) ∧ (∀ r ∈ ls, r.length ≤ i) ∧ (∀ r ∈ ts, r.length ≤ i) ∧ ls.length ≤ 3 ^ i ∧ ts.length ≤ (i + 1) * 3 ^ i ∧
    σ = [some (V.str (S al)), some (V.int (most : Int)), some (V.ref lv), some (V.ref td), y4, y5, y6, y7])
    ⟨rfl, lv, td, [[]], [[]], _, _, _, _, l2 _ _ e1, e2, by simp, by simp, by simp, by simp, rfl⟩ ?_ ?_
  · rintro i σ' B3 M' H3 hi l3 h3 ⟨rfl, lv, td, ls, ts, y4, y5, y6, y7, el, et, hl, ht, nl, nt, rfl⟩
    have i3 : i = 0 ∨ i = 1 ∨ i = 2 := by omega
    have p3 : 3 ^ i ≤ 9 := by rcases i3 with e | e | e <;> (subst e; decide)
    have q3 : (i + 1) * 3 ^ i ≤ 27 := by rcases i3 with e | e | e <;> (subst e; decide)
    walk_at "v"
    refine v_size (by show 0 ≤ sizeLine; decide) (v_newM h3 fun lt H4 h4 => ?_)
    walk_at "v"
    refine v_atL (h4.l (SqL.of el)) ?_
    refine v_forL (SqL.of el) h4 (fun j σ B' M'' => ∃ (as : List (List Nat)) (y6 y7 : Option V), M'' = (lt, .lst (as.map strV)) :: M' ∧ (∀ r ∈ as, r.length ≤ i + 1) ∧ as.length = j * al.length ∧
      σ = [some (V.str (S al)), some (V.int (most : Int)), some (V.ref lv), some (V.ref td), some (V.int (0 + (i : Int))), some (V.ref lt), y6, y7]) ⟨[], _, _, rfl, by simp, by simp, rfl⟩ ?_ ?_
    · rintro j x σ' B4 M'' H5 hj hx l4 h5 ⟨as, y6, y7, rfl, has, nas, rfl⟩
      obtain ⟨r, hr, rfl⟩ := map_some hx
      have hr2 := hl r (List.mem_of_getElem? hr)
      rw [List.length_map] at hj
      walk_at "v"
      refine v_forS h5 (fun k σ B' M'' => ∃ (bs : List (List Nat)) (y7 : Option V), M'' = (lt, .lst (bs.map strV)) :: M' ∧ (∀ r ∈ bs, r.length ≤ i + 1) ∧ bs.length = j * al.length + k ∧
        σ = [some (V.str (S al)), some (V.int (most : Int)), some (V.ref lv), some (V.ref td), some (V.int (0 + (i : Int))), some (V.ref lt), some (V.str (S r)), y7]) ⟨as, _, rfl, has, by omega, rfl⟩ ?_ ?_
      · rintro k c σ' B5 M'' H6 hk hc l5 h6 ⟨bs, y7, rfl, hbs, nbs, rfl⟩
        rw [S_size] at hk
        have jb : j * al.length ≤ 9 * 3 := Nat.mul_le_mul (by omega) a3
        walk_at "v"
        refine v_bmL h6.hd ?_
        walk_at "v"
        refine v_addS (a := S r) (b := S [c]) (by rw [S_length, S_length]; exact sz_of (by simp; omega)) ?_
        rw [SX.S_cat]
        walk_at "v"
        refine v_appM h6 (by rw [List.length_map]; omega) fun H7 h7 => ?_
        walk_at "v"
        try dsimp only
        refine IV.mk l5 h7 ⟨bs ++ [r ++ [c]], _, by rw [List.map_append]; rfl, fun x hx => ?_, by simp; omega, rfl⟩
        rcases List.mem_append.mp hx with hx | hx
        · exact hbs x hx
        · rw [List.mem_singleton.mp hx]
          simp
          omega
      · rintro σ' B5 M'' H6 l5 h6 ⟨bs, y7, rfl, hbs, nbs, rfl⟩
        try dsimp only
        refine IV.mk (l4.trans l5) h6 ⟨bs, _, _, rfl, hbs, ?_, rfl⟩
        rw [nbs, S_size, Nat.succ_mul]
    · rintro σ' B4 M'' H5 l4 h5 ⟨as, y6, y7, rfl, has, nas, rfl⟩
      rw [List.length_map] at nas
      have na : as.length ≤ 3 ^ (i + 1) := by
        rw [nas, Nat.pow_succ]
        exact Nat.mul_le_mul nl a3
      have na2 : as.length ≤ 27 := by
        rw [nas]
        exact Nat.mul_le_mul (Nat.le_trans nl p3) a3
      walk_at "v"
      obtain ⟨h6, l5⟩ := h5.fix
      refine v_listL (h6.l (SqL.of upd_same)) (v_newB h6 fun l2' B6 H7 l6 h7 e7 => ?_)
      walk_at "v"
      have et' := (l4.trans (l5.trans l6)) _ _ et
      refine v_cat (h7.sub _ _ et') (h7.sub _ _ (l6 _ _ upd_same)) (by rw [List.length_map, List.length_map]; exact sz_of (by omega)) (v_newB h7 fun t2 B7 H8 l7 h8 e8 => ?_)
      walk_at "v"
      try dsimp only
      refine IV.mk (l3.trans (l4.trans (l5.trans (l6.trans l7)))) h8 ⟨rfl, l2', t2, as, ts ++ as, _, _, _, _, l7 _ _ e7, by rw [List.map_append]; exact e8, has, fun r hr => ?_, na, ?_, rfl⟩
      · rcases List.mem_append.mp hr with hr | hr
        · exact Nat.le_succ_of_le (ht r hr)
        · exact has r hr
      · rw [List.length_append]
        rcases i3 with e | e | e <;> (subst e; simp at *; omega)
  · rintro σ' B3 M' H3 l3 h3 ⟨rfl, lv, td, ls, ts, y4, y5, y6, y7, el, et, hl, ht, nl, nt, rfl⟩
    walk_at "v"
    refine q td ts B3 H3 (l1.trans (l2.trans l3)) et (fun r hr => Nat.le_trans (ht r hr) (by omega)) ?_ h3
    have i3 : most = 0 ∨ most = 1 ∨ most = 2 ∨ most = 3 := by omega
    rcases i3 with e | e | e | e <;> (subst e; simp at *; omega)
section
variable {P : Program} {w : World} {K : PySem.W.Frag} {mg : Str → Option Value} {base : Heap}
theorem ok_rows (T : Txt K mg w) : FnOk P w K mg base CX0 1 T.a_rows T.fd_rows ["_law_alphabet", "_law_most"] (sp_rows K) := by
  refine T.F_rows.ok sc_rows (fun vs H Q E h => ?_) (fun cdv A outer s H vs Q E hr h => ⟨t_rows K, ?_, pure_rows vs H Q E h⟩)
  · obtain ⟨B, M, al, most, rfl, _⟩ := h
    rfl
  · exact (pss_cons (ps_set (i := 2) sc_rows.nd rfl (by first | exact Or.inl rfl | exact Or.inr rfl) (pe_lst (pa_cons pe_str pa_nil)))
      (pss_cons (ps_set (i := 3) sc_rows.nd rfl (by first | exact Or.inl rfl | exact Or.inr rfl) (pe_lst (pa_cons pe_str pa_nil)))
      (pss_cons (ps_for PassesOwn.never rfl (pi_range1 (by rfl) (T.free_range) (pa_cons (pv 1) pa_nil)) (pg_name (i := 4) sc_rows.nd rfl (by first | exact Or.inl rfl | exact Or.inr rfl)) (pss_cons (ps_set (i := 5) sc_rows.nd rfl (by first | exact Or.inl rfl | exact Or.inr rfl) (pe_lst pa_nil))
      (pss_cons (ps_for PassesOwn.never rfl (pi_list (pv 2)) (pg_name (i := 6) sc_rows.nd rfl (by first | exact Or.inl rfl | exact Or.inr rfl)) (pss_one (ps_for PassesOwn.never rfl (pi_str (pv 0)) (pg_name (i := 7) sc_rows.nd rfl (by first | exact Or.inl rfl | exact Or.inr rfl)) (pss_one (ps_expr (pe_bm PySem.F.plainAttrs_list PySem.F.slot_list_append PySem.F.type_list_append mt_append (pv 5) (pa_cons (pe_op op_add_str (pv 6) (pv 7)) pa_nil)))))))
      (pss_cons (ps_set (i := 2) sc_rows.nd rfl (by first | exact Or.inl rfl | exact Or.inr rfl) (pe_callTy call_list_of (by rfl) (T.free_list) (by decide +kernel) (pa_cons (pv 5) pa_nil)))
      (pss_one (ps_set (i := 3) sc_rows.nd rfl (by first | exact Or.inl rfl | exact Or.inr rfl) (pe_op op_cat (pv 3) (pv 5))))))))
      (pss_one (ps_ret (pv 3))))))
end
end K71
set_option Elab.async false
set_option linter.all false
set_option maxRecDepth 100000
set_option maxHeartbeats 8000000
namespace K71
open PySem PySem.Spec PyProof.Rows L2 Sh
open SX (S)
def names8 : List (List Nat) := [[97, 98], [97, 98, 99], [98, 100], [97, 98], [97], [97, 99], [97, 101, 104], [97, 98]]
theorem names8_6 : ∀ al ∈ names8, al ∈ names6 := by decide
theorem names8_v : [V.str "ab", .str "abc", .str "bd", .str "ab", .str "a", .str "ac", .str "aeh", .str "ab"] = names8.map fun al => V.str (S al) := rfl
theorem root_size2 {ps : List Part} {n : Nat} (wf : WR ps) (h : ps.length ≤ n + 1) : (rootT ps).size + 1 ≤ 2 ^ (n + 1) := by
  have h2 : 2 ≤ 2 ^ (n + 1) := by rw [Nat.pow_succ]; have := Nat.one_le_two_pow (n := n); omega
  by_cases h0 : ps.length = 0
  · obtain rfl := List.length_eq_zero_iff.mp h0
    exact h2
  · have h1 := treeAt_size wf (ps.length - 1) (by omega)
    have h2 : 2 ^ (ps.length - 1 + 1) ≤ 2 ^ (n + 1) := Nat.pow_le_pow_right (by decide) (by omega)
    show (treeAt ps (ps.length - 1)).size + 1 ≤ _
    omega
/-- what is drawn -/
structure Given (al tg : List Nat) (gs : List (List Part)) (ps : List Part) : Prop where
  len : gs.length = tg.length
  gw : ∀ g ∈ gs, WF al g ∧ 1 ≤ g.length ∧ g.length ≤ 4
  pw : WF tg ps
  p1 : 1 ≤ ps.length
  p7 : ps.length ≤ 7
section
variable {al tg : List Nat} {gs : List (List Part)} {ps : List Part}
theorem Given.gw8 (G : Given al tg gs ps) : ∀ g ∈ gs, WF al g ∧ 1 ≤ g.length ∧ g.length ≤ 8 := fun g hg => by
  obtain ⟨a, b, c⟩ := G.gw g hg
  exact ⟨a, b, by omega⟩
theorem Given.tree (G : Given al tg gs ps) : (substT (fT tg gs) (rootT ps)).size ≤ 1905 := by
  have h1 : (rootT ps).size + 1 ≤ 2 ^ (6 + 1) := root_size2 G.pw.wr G.p7
  have h2 : ∀ a, (fT tg gs a).size ≤ 15 := fun a => by
    unfold fT
    rw [List.getD_eq_getElem?_getD]
    cases e : gs[tg.idxOf a]? with
    | none => decide
    | some g =>
      obtain ⟨a, b, c⟩ := G.gw g (List.mem_of_getElem? e)
      have := root_size2 (n := 3) a.wr c
      show (rootT g).size ≤ 15
      have e16 : 2 ^ (3 + 1) = 16 := rfl
      omega
  have h3 := substT_size (by decide) h2 (rootT ps)
  have e128 : 2 ^ (6 + 1) = 128 := rfl
  have h4 : (rootT ps).size * 15 ≤ 127 * 15 := Nat.mul_le_mul_right 15 (by omega)
  omega
theorem Given.lok (G : Given al tg gs ps) : (substT (fT tg gs) (rootT ps)).lok al :=
  substT_lok (fT_lok (fun g hg => ⟨(G.gw g hg).1, (G.gw g hg).2.1⟩) G.len) (treeAt_lok G.pw _ (by have := G.p1; omega))
theorem Given.told_len (G : Given al tg gs ps) : (toldT tg gs ps).length ≤ 1905 := by
  have h1 := ins_len (substT (fT tg gs) (rootT ps)) []
  have h2 := G.tree
  show (ins (substT (fT tg gs) (rootT ps)) []).1.length ≤ 1905
  simp only [List.length_nil] at h1
  omega
theorem Given.told_wf (G : Given al tg gs ps) : WF al (toldT tg gs ps) := ins_wf G.lok (WF.nil al)
theorem Given.told_show (G : Given al tg gs ps) (a : NameOk al) (l li : Bool) : ShowOk (sheetD l li (toldT tg gs ps)) := by
  have h := G.told_len
  exact (fine_sheet (wf_small G.told_wf a.small (by omega))).ok (by decide) (by omega)
theorem Given.put (G : Given al tg gs ps) (a : NameOk al) (t : NameOk tg) (l li : Bool) : PutD (.str (S al)) (.str (S tg)) (mkD l (gs.map (sheetD true li))) (sheetD l false ps) (.told (toldT tg gs ps)) := by
  have g8 := G.gw8
  have h := G.told_len
  have gps : (gs.map (GS.good true li)).map GS.ps = gs := by
    rw [List.map_map]
    exact List.map_id _
  refine .inr (.inr ⟨_, _, rfl, rfl, a.alpha, t.alpha, t.nd, .inr ⟨l, gs.map (GS.good true li), by rw [good_d], by rw [List.length_map]; exact G.len, good_ok g8, .inr ⟨good_num, .good l false ps, rfl, ⟨G.pw, G.p1, by have := G.p7; omega⟩, .inr ⟨rfl, .inr ?_⟩⟩⟩⟩)
  rw [gps]
  exact ⟨by show (toldT tg gs ps).length ≤ 6000; omega, G.told_show a _ _, rfl⟩
theorem Given.show_ (G : Given al tg gs ps) (a : NameOk al) (t : NameOk tg) (li : Bool) : ShowOk (.tuple [.list (gs.map (sheetD true li)), sheetD true false ps]) := by
  have hg : ∀ d ∈ gs.map (sheetD true li), Fine d 2 3000 := fun d hd => by
    obtain ⟨g, hg, rfl⟩ := List.mem_map.mp hd
    obtain ⟨h1, h2, h3⟩ := G.gw g hg
    have f := fine_sheet (l := true) (li := li) (wf_small h1 a.small (by omega))
    exact ⟨f.nd, f.show_, f.dict, f.lay, f.deep, Nat.le_trans f.len (by omega)⟩
  have f1 : Fine (mkD true (gs.map (sheetD true li))) 3 ((gs.map (sheetD true li)).length * (3000 + 2) + 3) := fine_mk hg
  have t3 := t.l3
  have gl := G.len
  have p7 := G.p7
  have f2 := fine_sheet (l := true) (li := false) (wf_small G.pw t.small (by omega))
  have hl : (gs.map (sheetD true li)).length ≤ 3 := by rw [List.length_map]; omega
  have f : Fine (mkD false [mkD true (gs.map (sheetD true li)), sheetD true false ps]) 4 (2 * (10000 + 2) + 3) := fine_mk fun d hd => by
    have h2 : d = mkD true (gs.map (sheetD true li)) ∨ d = sheetD true false ps := by simpa using hd
    rcases h2 with rfl | rfl
    · exact ⟨f1.nd, f1.show_, f1.dict, f1.lay, f1.deep, Nat.le_trans f1.len (by omega)⟩
    · exact ⟨f2.nd, f2.show_, f2.dict, f2.lay, Nat.le_trans f2.deep (by decide), Nat.le_trans f2.len (by omega)⟩
  exact f.ok (by decide) (by decide)
end
theorem bools_has (bs : List Bool) : hasD.hasDs (bs.map PyData.bool) = false := by
  induction bs with
  | nil => rfl
  | cons b bs ih => show (hasD (.bool b) || hasD.hasDs (bs.map PyData.bool)) = false; rw [ih]; rfl
theorem bools_depth (bs : List Bool) : PyData.depthAll (bs.map PyData.bool) = 0 := by
  induction bs with
  | nil => simp only [List.map_nil, PyData.depthAll]
  | cons b bs ih => simp only [List.map_cons, PyData.depthAll, PyData.depth, ih]; rfl
theorem line_depth (bs : List Bool) : (PyData.list (bs.map .bool)).depth ≤ 64 := by
  simp only [PyData.depth, bools_depth]
  decide
end K71
set_option Elab.async false
set_option linter.all false
set_option maxRecDepth 100000
set_option maxHeartbeats 16000000
namespace K71
open PySem PySem.Spec PyProof.Rows L2 Sh
open SX (S)
local macro_rules | `(tactic| walk_at "v1") => `(tactic| first
  | with_reducible refine v_seq ?_ | with_reducible refine v_asg ?_ | ((with_reducible refine' v_name ?e ?_); (case e => exact rfl)) | with_reducible refine v_ret ?_ | with_reducible refine v_drop ?_ | with_reducible refine v_next ?_
  | with_reducible refine v_if ?_ | with_reducible refine v_op ?_ | with_reducible refine v_c ?_ | ((with_reducible refine' v_var ?e ?_); (case e => exact rfl))
  | with_reducible refine v_I0 ?_ | with_reducible refine v_test ?_ | with_reducible refine v_B ?_ | with_reducible refine v_bl ?_ | with_reducible refine v_not ?_ | with_reducible refine v_and ?_ | with_reducible refine v_or ?_
  | with_reducible refine v_andV ?_ | with_reducible refine v_orV ?_ | with_reducible refine v_notV ?_ | with_reducible refine v_ife ?_
  | with_reducible refine v_nil ?_ | with_reducible refine v_cons ?_ | with_reducible refine v_tup ?_ | with_reducible refine v_lst ?_ | with_reducible refine v_call ?_ | with_reducible refine v_cb ?_ | with_reducible refine v_int ?_ | with_reducible refine v_abs ?_
  | ((with_reducible refine' v_eq ?e ?_); (case e => exact rfl)) | ((with_reducible refine' v_ne ?e ?_); (case e => exact rfl)) | with_reducible refine v_sub ?_ | with_reducible refine v_isN ?_ | with_reducible refine v_notN ?_
  | with_reducible refine v_part ?_ | with_reducible refine v_nopart ?_ | with_reducible refine v_pint ?_ | with_reducible refine v_inSg ?_ | with_reducible refine v_notInSg ?_
  | ((with_reducible refine' v_ixL ?l ?a ?_); (case l => assumption); (case a => exact at_lit _ rfl)) | ((with_reducible refine' v_ixT ?l ?a ?_); (case l => assumption); (case a => exact at_lit _ rfl))
  | ((with_reducible refine v_I ?c ?_); (case c => (first | omega | (unfold CMul; omega) | (unfold CDivN; omega) | (unfold CPow; omega))))
  | with_reducible refine v_for ?_ | with_reducible refine v_iList ?_ | with_reducible refine v_iTup ?_ | with_reducible refine v_iStr ?_ | with_reducible refine v_iR1 ?_ | with_reducible refine v_iR2 ?_ | with_reducible refine v_atS ?_ | with_reducible refine v_sl ?_ | with_reducible refine v_lc ?_ | with_reducible refine v_yes ?_
  | with_reducible refine v_m1 ?_ | with_reducible refine v_m1S ?_ | with_reducible refine v_bm ?_ | with_reducible refine v_bm0 ?_ | with_reducible refine v_dnewK ?_ | with_reducible refine v_dnewT ?_ | with_reducible refine v_dget ?_ | with_reducible refine v_din ?_ | with_reducible refine v_dnotin ?_ | with_reducible refine v_dput ?_ | with_reducible refine v_chain ?_ | with_reducible refine v_un ?_ | with_reducible refine v_neg ?_
  | with_reducible refine v_brk ?_ | with_reducible refine v_cont ?_)
local macro_rules | `(tactic| walk_at "v") => `(tactic| repeat (walk_at "v1"))
local macro_rules | `(tactic| walk_at "vm") => `(tactic| repeat (first | ((with_reducible refine v_modP ?c ?_); (case c => omega); (intro _ _ _)) | walk_at "v1"))
local macro_rules | `(tactic| walk_at "iv") => `(tactic| (try dsimp only; refine IV.mk (by assumption) (by assumption) ?_))
local macro_rules | `(tactic| walk_at "n") => `(tactic| dsimp only [List.set_cons_zero, List.set_cons_succ])
theorem ite_int {Q : VK} {H : Hp} {σ : L2.St} {c : Bool} {a b : Int} (h : ∀ r : Int, r = a ∨ r = b → Q (.int r) H) : if c = true then tC (.int a) σ H Q else tC (.int b) σ H Q := by
  cases c with
  | true => rw [if_pos rfl]; exact h a (.inl rfl)
  | false => rw [if_neg (by decide)]; exact h b (.inr rfl)
section
variable {P : Program} {w : World} {K : PySem.W.Frag} {mg : Str → Option Value} {base : Heap}
def sp_law (T : Txt K mg w) : Sp := fun vs H Q _ => ∃ (B : Hp) (M : List (Addr × HO)) (sc : Addr) (ns : List Int), vs = [.ref sc] ∧ Hs B M H ∧ SqL K B sc (ns.map V.int) ∧ ns.length ≤ 63 ∧ (∀ z ∈ ns, Builtin.Int.intBits z ≤ 1048576) ∧ ∀ (H' : Hp), Q (.bl true) H'
def t_law (T : Txt K mg w) : TS := (tSeq (tAsg (tCall (sp_source K) [] E0 (tCons (tVar 0) (tCons (tC (.int 0)) tNil))) (gName 1))
    (tSeq (tAsg (tLst (tCons (tC (.str "ab")) (tCons (tC (.str "abc")) (tCons (tC (.str "bd")) (tCons (tC (.str "ab")) (tCons (tC (.str "a")) (tCons (tC (.str "ac")) (tCons (tC (.str "aeh")) (tCons (tC (.str "ab")) tNil))))))))) (gName 2))
    (tSeq (tAsg (tOp (rIxL K) (tVar 2) (tCall (sp_pick K) [] E0 (tCons (tVar 1) (tCons (tC (.int 8)) tNil)))) (gName 3))
    (tSeq (tAsg (tOp (rIxL K) (tVar 2) (tCall (sp_pick K) [] E0 (tCons (tVar 1) (tCons (tC (.int 8)) tNil)))) (gName 4))
    (tSeq (tAsg (tCall (sp_source K) [] E0 (tCons (tVar 0) (tCons (tC (.int 1)) tNil))) (gName 5))
    (tSeq (tAsg (tLc (iStr (tVar 4)) (gName 7) tYes (tCall (sp_tense K) [] E0 (tCons (tVar 5) (tCons (tVar 3) (tCons (tOp rAddI (tC (.int 1)) (tCall (sp_pick K) [] E0 (tCons (tVar 5) (tCons (tC (.int 4)) tNil)))) tNil)))) [7]) (gName 6))
    (tSeq (tIfS (tTest (tOp rEq (tCall (sp_pick K) [] E0 (tCons (tVar 5) (tCons (tC (.int 4)) tNil))) (tC (.int 1)))) (tAsg (tOp (rIxL K) (tVar 6) (tC (.int 0))) (gSub (tVar 6) (tUn (rU fun i => .int (-i)) (tC (.int 1))) rSetL)) tNext)
    (tSeq (tAsg (tCall (sp_source K) [] E0 (tCons (tVar 0) (tCons (tC (.int 2)) tNil))) (gName 8))
    (tSeq (tAsg (tCall (sp_tense K) [] E0 (tCons (tVar 8) (tCons (tVar 4) (tCons (tOp rAddI (tC (.int 1)) (tCall (sp_pick K) [] E0 (tCons (tVar 8) (tCons (tC (.int 7)) tNil)))) tNil)))) (gName 9))
    (tSeq (tAsg (tCall (sp_put_due K) [] E0 (tCons (tVar 4) (tCons (tVar 6) (tCons (tVar 9) tNil)))) (gName 10))
    (tSeq (tIfS (tTest (tOp rEq (tCall (sp_pick K) [] E0 (tCons (tVar 8) (tCons (tC (.int 2)) tNil))) (tC (.int 0)))) (tAsg (tLc (iList K (tVar 6)) (gName 12) tYes (tLc (iList K (tVar 12)) (gName 11) tYes (tCB (rCList K) (tCons (tVar 11) tNil)) [11]) [12]) (gName 6)) tNext)
    (tSeq (tAsg (tCB (rRepr K) (tCons (tTup (tCons (tVar 6) (tCons (tVar 9) tNil))) tNil)) (gName 13))
    (tSeq (tIfS (tTest (tOp (rNeP K) (tCall (sp_put T) [] E0 (tCons (tVar 3) (tCons (tVar 4) (tCons (tVar 6) (tCons (tVar 9) tNil))))) (tTup (tCons (tC (.str "told")) (tCons (tCB (rRepr K) (tCons (tVar 10) tNil)) tNil))))) (tRet (tC (.bl false))) tNext)
    (tSeq (tAsg (tOp rCat (tCall (sp_rows K) [] E0 (tCons (tVar 3) (tCons (tIf (tTest (tOp rLtI (tCB (rCLen K) (tCons (tVar 3) tNil)) (tC (.int 3)))) (tC (.int 3)) (tC (.int 2))) tNil))) (tLst (tCons (tCall (sp_word K) [] E0 (tCons (tVar 8) (tCons (tVar 3) (tCons (tC (.int 7)) tNil)))) tNil))) (gName 14))
    (tSeq (tFor (iList K (tVar 14)) (gName 15) (tIfS (tTest (tOp (rNeP K) (tOp (rIxL K) (tCall (sp_tense_lines K) [] E0 (tCons (tVar 10) (tCons (tVar 15) tNil))) (tUn (rU fun i => .int (-i)) (tC (.int 1)))) (tCall (sp_put_line K) [] E0 (tCons (tVar 4) (tCons (tVar 6) (tCons (tVar 9) (tCons (tVar 15) tNil))))))) (tRet (tC (.bl false))) tNext))
    (tSeq (tIfS (tOr (tNot (tB (tCall (sp_put_refused T) [] E0 (tCons (tVar 8) (tCons (tVar 3) (tCons (tVar 4) (tCons (tVar 6) (tCons (tVar 9) tNil)))))))) (tTest (tOp rNe (tCB (rRepr K) (tCons (tTup (tCons (tVar 6) (tCons (tVar 9) tNil))) tNil)) (tVar 13)))) (tRet (tC (.bl false))) tNext)
    (tSeq (tIfS (tTest (tOp (rNeP K) (tCall (sp_put T) [] E0 (tCons (tVar 3) (tCons (tVar 4) (tCons (tCB (rCTup K) (tCons (tVar 6) tNil)) (tCons (tCB (rCTup K) (tCons (tVar 9) tNil)) tNil))))) (tTup (tCons (tC (.str "told")) (tCons (tCB (rRepr K) (tCons (tVar 10) tNil)) tNil))))) (tRet (tC (.bl false))) tNext)
    (tSeq (tAsg (tCall (sp_pick K) [] E0 (tCons (tVar 8) (tCons (tC (.int 40)) tNil))) (gName 16))
    (tRet (tIf (tTest (tOp (rIn K false) (tVar 16) (tTup (tCons (tC (.int 19)) (tCons (tC (.int 20)) tNil))))) (tCall (sp_chains T) [] E0 (tCons (tVar 3) (tCons (tVar 4) (tCons (tOp rSubI (tVar 16) (tC (.int 19))) tNil)))) (tC (.bl true))))))))))))))))))))))
theorem pure_law (T : Txt K mg w) (vs : List V) (H : Hp) (Q : VK) (E : XK) (h : sp_law T vs H Q E) : t_law T { nx := fun _ H' => Q .non H', rt := Q } (start n_law vs) H := by
  obtain ⟨B, M, sc, ns, rfl, hs, hS, hl, hb, q⟩ := h
  show t_law T _ [some (V.ref sc), none, none, none, none, none, none, none, none, none, none, none, none, none, none, none, none] H
  unfold t_law
  walk_at "v"
  refine ⟨B, M, sc, ns, 0, rfl, hs, hS, hl, hb, by decide, by decide, fun a0 d0 sd0 c0 H1 h1 => ?_⟩
  walk_at "v"
  refine v_size (by show 8 ≤ sizeLine; decide) (v_newB h1 fun na B2 H2 l2 h2 e2 => ?_)
  walk_at "v"
  refine v_pick h2 (by omega) (by omega) fun k d1 c1 H3 k0 k1 h3 => ?_
  obtain ⟨m, rfl⟩ : ∃ m : Nat, k = (m : Int) := ⟨k.toNat, by omega⟩
  obtain ⟨al, eal⟩ : ∃ al, names8[m]? = some al := ⟨_, List.getElem?_eq_getElem (show m < 8 by omega)⟩
  have hal := names8_6 al (List.mem_of_getElem? eal)
  refine v_ixL (v := .str (S al)) (h3.l (SqL.of e2)) (atI_nat (by rw [names8_v, List.getElem?_map, eal]; rfl)) ?_
  walk_at "v"
  refine v_pick h3 (by omega) (by omega) fun k d2 c2 H4 k2 k3 h4 => ?_
  obtain ⟨m2, rfl⟩ : ∃ m : Nat, k = (m : Int) := ⟨k.toNat, by omega⟩
  obtain ⟨tg, etg⟩ : ∃ al, names8[m2]? = some al := ⟨_, List.getElem?_eq_getElem (show m2 < 8 by omega)⟩
  have htg := names8_6 tg (List.mem_of_getElem? etg)
  refine v_ixL (v := .str (S tg)) (h4.l (SqL.of e2)) (atI_nat (by rw [names8_v, List.getElem?_map, etg]; rfl)) ?_
  clear k0 k1 k2 k3 eal etg h3 h2
  have NA := names_ok al hal
  have NT := names_ok tg htg
  have a1 := NA.l1
  have a3 := NA.l3
  have t1 := NT.l1
  have t3 := NT.l3
  walk_at "v"
  refine ⟨B2, _, sc, ns, 1, rfl, h4, le_l l2 hS, hl, hb, by decide, by decide, fun p1 d1' sd1 c1' H5 h5 => ?_⟩
  clear h4 h1
  -- the given sheets
  walk_at "v"
  walk_at "n"
  refine v_lcS h5 (fun i acc B' M' => ∃ (d c : Int) (gs : List (List Part)), M' = (p1, SrcO d sd1 c) :: (a0, SrcO d2 sd0 c2) :: M ∧ gs.length = i ∧ acc.length = i ∧ RpAll K B' acc (gs.map (sheetD true false)) ∧ ∀ g ∈ gs, WF al g ∧ 1 ≤ g.length ∧ g.length ≤ 4)
    ⟨d1', c1', [], rfl, rfl, rfl, .nil, fun g hg => by simp at hg⟩ ?_ ?_
  · rintro i ch p acc B6 M' H6 hi hc ha l6 h6 ⟨d, c, gs, rfl, gl, al', ra, gw⟩
    walk_at "v"
    refine ⟨rfl, ?_⟩
    walk_at "v"
    refine iteT' rfl ?_
    walk_at "v"
    refine v_pick h6.sw (by omega) (by omega) fun k d3 c3 H7 k0 k1 h7 => ?_
    obtain ⟨m, rfl⟩ : ∃ m : Nat, k = (m : Int) := ⟨k.toNat, by omega⟩
    walk_at "v"
    refine ⟨B6, _, p1, d3, sd1, c3, al, 1 + m, by rw [Int.natCast_add]; rfl, h7, a1, by omega, by omega, fun ps v d4 c4 B8 H8 l8 pl wf rv h8 => ?_⟩
    refine IE.mk ha hi (by rw [S_size]; omega) (l6.trans l8) h8.sw ⟨d4, c4, gs ++ [ps], rfl, by rw [List.length_append, gl]; rfl, by rw [List.length_append, al']; rfl, ?_, ?_⟩
    · rw [List.map_append]
      exact (ra.up l8).append (.one rv)
    · intro g hg
      rcases List.mem_append.mp hg with hg | hg
      · exact gw g hg
      · obtain rfl := List.mem_singleton.mp hg
        exact ⟨wf, by omega, by omega⟩
  rintro sp acc B6 M' H6 ha l6 h6 ⟨d3, c3, gs, rfl, gl, al', ra, gw⟩
  rw [S_size] at gl al'
  have l26 := l2.trans l6
  (with_reducible refine v_name rfl ?_)
  walk_at "n"
  try dsimp only
  refine v_seqN (fun σ' H' => ∃ (d c : Int) (ys : List V) (gs : List (List Part)), Hs B6 ((p1, SrcO d sd1 c) :: (sp, .lst ys) :: (a0, SrcO d2 sd0 c2) :: M) H' ∧ gs.length = tg.length ∧ RpAll K B6 ys (gs.map (sheetD true false)) ∧ (∀ g ∈ gs, WF al g ∧ 1 ≤ g.length ∧ g.length ≤ 4) ∧
    σ' = [some (V.ref sc), some (V.ref a0), some (V.ref na), some (V.str (S al)), some (V.str (S tg)), some (V.ref p1), some (V.ref sp), none, none, none, none, none, none, none, none, none, none]) (fun N hN => ?_) ?_
  · walk_at "v"
    refine v_pick h6.sw (by omega) (by omega) fun k d4 c4 H7 k0 k1 h7 => ?_
    walk_at "v"
    refine ite2 (fun z => ?_) (fun z => ?_)
    · walk_at "v"
      obtain ⟨g0, eg0⟩ : ∃ g, gs[0]? = some g := ⟨_, List.getElem?_eq_getElem (show 0 < gs.length by omega)⟩
      obtain ⟨x0, ex0, hx0⟩ := ra.get (i := 0) (d := sheetD true false g0) (by rw [List.getElem?_map, eg0]; rfl)
      refine v_ixL (v := x0) (SqL.of (h7.atI 1 rfl)) (at_lit 0 ex0) ?_
      walk_at "v"
      refine v_setL (j := tg.length - 1) (h7.atI 1 rfl) ?_ ?_
      · rw [al', ixN, if_neg (by decide), if_pos (by omega)]
        congr 1
        omega
      refine hN _ _ ⟨d4, c4, acc.set (tg.length - 1) x0, gs.set (tg.length - 1) g0, h7.wrI 1 rfl, by rw [List.length_set]; exact gl, ?_, fun g hg => ?_, rfl⟩
      · rw [List.map_set]
        exact RpAll.set hx0 _ ra
      · rcases List.mem_or_eq_of_mem_set hg with hg | rfl
        · exact gw g hg
        · exact gw _ (List.mem_of_getElem? eg0)
    · walk_at "v"
      exact hN _ _ ⟨d4, c4, acc, gs, h7, gl, ra, gw, rfl⟩
  rintro σ' H7 ⟨d4, c4, ys, gs, h7, gl, ra, gw, rfl⟩
  clear h6 h5
  obtain ⟨B7, l7, h8, esp⟩ : ∃ B7, Le B6 B7 ∧ Hs B7 ((p1, SrcO d4 sd1 c4) :: (a0, SrcO d2 sd0 c2) :: M) H7 ∧ B7 sp = some (.lst ys) := by
    obtain ⟨g, l⟩ := h7.sw.fix
    exact ⟨_, l, g, upd_same⟩
  have ra := ra.up l7
  have l27 := l26.trans l7
  clear h7
  walk_at "v"
  refine ⟨B7, _, sc, ns, 2, rfl, h8, le_l l27 hS, hl, hb, by decide, by decide, fun a3' d5 sd5 c5 H8 h9 => ?_⟩
  clear h8
  walk_at "v"
  refine v_pick h9 (by omega) (by omega) fun k d6 c6 H9 k0 k1 h10 => ?_
  obtain ⟨m3, rfl⟩ : ∃ m : Nat, k = (m : Int) := ⟨k.toNat, by omega⟩
  walk_at "v"
  refine ⟨B7, _, a3', d6, sd5, c6, tg, 1 + m3, by rw [Int.natCast_add]; rfl, h10, t1, by omega, by omega, fun ps vs3 d7 c7 B8 H10 l8 pl pw rv h11 => ?_⟩
  clear h9 h10
  have G : Given al tg gs ps := ⟨gl, gw, pw, by omega, by omega⟩
  have ra := ra.up l8
  have esp := l8 _ _ esp
  walk_at "v"
  refine ⟨B8, _, al, tg, gs, ps, .ref sp, vs3, rfl, h11, .lst (SqL.of esp) ra, rv, gl, by omega, NT.nd, G.gw8, pw, G.p1, by have := G.p7; omega, NA.small, fun vd B9 H11 l9 h12 rd => ?_⟩
  clear h11
  (with_reducible refine v_name rfl ?_)
  walk_at "n"
  try dsimp only
  have esp9 := l9 _ _ esp
  have ra9 := ra.up l9
  refine v_seqN (fun σ' H' => ∃ (li : Bool) (d c : Int) (B' : Hp) (sa : Addr) (xs : List V), Le B9 B' ∧ Hs B' ((a3', SrcO d sd5 c) :: (p1, SrcO d4 sd1 c4) :: (a0, SrcO d2 sd0 c2) :: M) H' ∧ B' sa = some (.lst xs) ∧ RpAll K B' xs (gs.map (sheetD true li)) ∧
    σ' = [some (V.ref sc), some (V.ref a0), some (V.ref na), some (V.str (S al)), some (V.str (S tg)), some (V.ref p1), some (V.ref sa), none, some (V.ref a3'), some vs3, some vd, none, none, none, none, none, none]) (fun N hN => ?_) ?_
  · walk_at "v"
    refine v_pick h12 (by omega) (by omega) fun k d8 c8 H12 k0 k1 h13 => ?_
    walk_at "v"
    refine ite2 (fun z => ?_) (fun z => ?_)
    · walk_at "v"
      refine v_atL (h13.l (SqL.of esp9)) ?_
      have yl : ys.length = gs.length := by rw [ra9.length, List.length_map]
      refine v_lcL (SqL.of esp9) h13 (fun i acc B' M' => M' = (a3', SrcO d8 sd5 c8) :: (p1, SrcO d4 sd1 c4) :: (a0, SrcO d2 sd0 c2) :: M ∧ RpAll K B' acc ((gs.take i).map (sheetD true true))) ⟨rfl, .nil⟩ ?_ ?_
      · rintro i x p acc B10 M' H13 hi hx ha l10 h14 ⟨rfl, hacc⟩
        obtain ⟨g, eg⟩ : ∃ g, gs[i]? = some g := ⟨_, List.getElem?_eq_getElem (by omega)⟩
        obtain ⟨d, hd, hp⟩ := ra9.getV hx
        rw [List.getElem?_map, eg] at hd
        cases hd
        have g4 := (gw g (List.mem_of_getElem? eg)).2.2
        obtain ⟨xa, xl, rfl, hX, hXX⟩ := rp_mk (l := true) (hp.up l10)
        have xll : xl.length = g.length := by rw [hXX.length, List.length_map]
        walk_at "v"
        refine ⟨rfl, ?_⟩
        walk_at "v"
        refine iteT' rfl ?_
        walk_at "v"
        refine v_atL (h14.l hX) ?_
        refine v_lcL hX h14 (fun j acc2 B' M' => M' = (p, .lst acc) :: (a3', SrcO d8 sd5 c8) :: (p1, SrcO d4 sd1 c4) :: (a0, SrcO d2 sd0 c2) :: M ∧ RpAll K B' acc2 ((g.take j).map (partD true))) ⟨rfl, .nil⟩ ?_ ?_
        · rintro j y p2 acc2 B11 M' H14 hj hy ha2 l11 h15 ⟨rfl, hacc2⟩
          obtain ⟨pt, ept⟩ : ∃ pt, g[j]? = some pt := ⟨_, List.getElem?_eq_getElem (by omega)⟩
          obtain ⟨d, hd, hpp⟩ := hXX.getV hy
          rw [List.getElem?_map, ept] at hd
          cases hd
          obtain ⟨pa, rfl, hPA⟩ := rp_part (l := false) (hpp.up l11)
          walk_at "v"
          refine ⟨rfl, ?_⟩
          walk_at "v"
          refine iteT' rfl ?_
          walk_at "v"
          refine v_listT (h15.t (SqT.of hPA)) (v_newB h15 fun t B12 H15 l12 h16 e16 => ?_)
          refine IE.mk ha2 hj (by omega) (l11.trans l12) h16 ⟨rfl, ?_⟩
          rw [List.take_add_one, ept, show (some pt).toList = [pt] from rfl, List.map_append]
          exact (hacc2.up l12).append (.one (part_rp (l := true) (show SqX K B12 true t _ from SqL.of e16)))
        · rintro p2 acc2 B11 M' H14 ha2 l11 h15 ⟨rfl, hacc2⟩
          rw [xll, List.take_length] at hacc2
          obtain ⟨h16, l16⟩ := h15.fix
          refine IE.mk ha hi (by omega) (l10.trans (l11.trans l16)) h16 ⟨rfl, ?_⟩
          rw [List.take_add_one, eg, show (some g).toList = [g] from rfl, List.map_append]
          exact (hacc.up (l11.trans l16)).append (.one (.lst (SqL.of upd_same) (hacc2.up l16)))
      · rintro p acc B10 M' H13 ha l10 h14 ⟨rfl, hacc⟩
        rw [yl, List.take_length] at hacc
        obtain ⟨h15, l15⟩ := h14.fix
        walk_at "v"
        exact hN _ _ ⟨true, d8, c8, _, p, acc, l10.trans l15, h15, upd_same, hacc.up l15, rfl⟩
    · walk_at "v"
      exact hN _ _ ⟨false, d8, c8, B9, sp, ys, Same.refl _, h13, esp9, ra9, rfl⟩
  rintro σ' H12 ⟨li, d8, c8, B10, sa, xs, l10, h13, esa, hxs, rfl⟩
  obtain ⟨ka, kxs, rfl, hK, hKX⟩ := rp_mk (l := true) (rv.up (l9.trans l10))
  have rk : Rp K B10 (.ref ka) (sheetD true false ps) := rv.up (l9.trans l10)
  have rd := rd.up l10
  clear h12 ra9 esp9 esp ra rv
  have za : ∀ z, PyData.str (S al) = .str z → z.length ≤ 1000000 := fun z e => by
    cases e
    rw [S_length]
    omega
  have zt : ∀ z, PyData.str (S tg) = .str z → z.length ≤ 1000000 := fun z e => by
    cases e
    rw [S_length]
    omega
  have rsa : Rp K B10 (.ref sa) (.list (gs.map (sheetD true li))) := .lst (SqL.of esa) hxs
  -- before
  walk_at "v"
  refine v_size (by show 2 ≤ sizeLine; decide) (v_newB h13 fun tb B11 H13 l11 h14 e14 => ?_)
  walk_at "v"
  refine v_repr h14 (.tup e14 (.cons (rsa.up l11) (.cons (rk.up l11) .nil))) (G.show_ NA NT li) ?_
  walk_at "v"
  refine ⟨B11, _, _, _, _, _, _, _, _, _, .told (toldT tg gs ps), rfl, h14, .str _, .str _, rsa.up l11, rk.up l11, za, zt, G.put NA NT true li, fun v1 B12 H14 l12 h15 r1 => ?_⟩
  walk_at "v"
  refine v_repr h15 (rd.up (l11.trans l12)) (G.told_show NA false false) ?_
  walk_at "v"
  refine v_size (by show 2 ≤ sizeLine; decide) (v_newB h15 fun t2 B13 H15 l13 h16 e16 => ?_)
  refine v_neP h16 (r1.up l13) (.tup e16 (.cons (.str _) (.cons (.str _) .nil))) rfl (two_depth _ _) ?_
  walk_at "v"
  refine iteF' rfl ?_
  walk_at "v"
  refine v_lenS (by rw [S_length]; exact sz_of (by omega)) ?_
  walk_at "v"
  refine ite_int fun mo hmo => ?_
  obtain ⟨mo, rfl⟩ : ∃ m : Nat, mo = (m : Int) := ⟨mo.toNat, by omega⟩
  walk_at "v"
  refine ⟨B13, _, al, mo, rfl, h16, a3, by omega, fun pr rs B14 H16 l14 epr hr3 hl200 h17 => ?_⟩
  walk_at "v"
  refine ⟨B14, _, a3', d8, sd5, c8, al, 7, rfl, h17, a1, by omega, by decide, by decide, fun r0 d9 c9 B15 H17 l15 hr1 hr2 h18 => ?_⟩
  walk_at "v"
  refine v_size (by show 1 ≤ sizeLine; decide) (v_newB h18 fun t3 B16 H18 l16 h19 e19 => ?_)
  refine v_cat (h19.sub _ _ (l16 _ _ (l15 _ _ epr))) (h19.sub _ _ e19) (by rw [List.length_map]; exact sz_of (by show rs.length + 1 ≤ 1000000; omega)) (v_newB h19 fun rw_ B17 H19 l17 h20 e20 => ?_)
  have l11_17 : Le B11 B17 := l12.trans (l13.trans (l14.trans (l15.trans (l16.trans l17))))
  have e20' : B17 rw_ = some (.lst ((rs ++ [r0]).map strV)) := by
    rw [e20, List.map_append]
    rfl
  have rlen : ∀ r ∈ rs ++ [r0], r.length ≤ 7 := fun r hr => by
    rcases List.mem_append.mp hr with hr | hr
    · have := hr3 r hr; omega
    · obtain rfl := List.mem_singleton.mp hr
      omega
  have rsa := rsa.up (l11.trans l11_17)
  have rk := rk.up (l11.trans l11_17)
  have rd := rd.up (l11.trans l11_17)
  have esa := l11_17 _ _ (l11 _ _ esa)
  have hxs := hxs.up (l11.trans l11_17)
  clear h13 h14 h15 h16 h17 h18 h19 e14 e16 e19 e20 epr r1
  walk_at "v"
  refine v_atL (h20.l (SqL.of e20')) ?_
  refine v_forL (SqL.of e20') h20 (fun i σ' B' M' => M' = (a3', SrcO d9 sd5 c9) :: (p1, SrcO d4 sd1 c4) :: (a0, SrcO d2 sd0 c2) :: M ∧ ∃ u : Option V, σ' = [some (V.ref sc), some (V.ref a0), some (V.ref na), some (V.str (S al)), some (V.str (S tg)), some (V.ref p1), some (V.ref sa), none, some (V.ref a3'), some (V.ref ka), some vd, none, none, some (V.str (PyData.tuple [.list (gs.map (sheetD true li)), sheetD true false ps]).shown), some (V.ref rw_), u, none]) ⟨rfl, none, rfl⟩ ?_ ?_
  · rintro i x σ' B18 M' H20 hi ex l18 h21 ⟨rfl, u, rfl⟩
    obtain ⟨r, er, rfl⟩ := map_some ex
    have r7 := rlen r (List.mem_of_getElem? er)
    walk_at "v"
    refine ⟨B18, _, false, false, toldT tg gs ps, al, vd, r, rfl, h21, rd.up l18, G.told_wf, by omega, by have := G.told_len; omega, fun v2 B19 H21 l19 r2 h22 => ?_⟩
    obtain ⟨la, lxs, rfl, hL, hLX⟩ := rp_mk (l := true) r2
    have tl : (toldT tg gs ps).length = (ins (substT (fT tg gs) (rootT ps)) []).2 + 1 := (root_last _).symm
    have lxl : lxs.length = (toldT tg gs ps).length := by rw [hLX.length, linesD, List.length_map, linesOf_len]
    obtain ⟨lv, elv, hlv⟩ := hLX.get (i := (toldT tg gs ps).length - 1) (d := .list ((evalT r (substT (fT tg gs) (rootT ps))).map .bool)) (by
      unfold linesD
      rw [List.getElem?_map, show evalT r (substT (fT tg gs) (rootT ps)) = (linesOf r (toldT tg gs ps)).getD ((toldT tg gs ps).length - 1) [] from (last_line G.lok).symm, List.getD_eq_getElem?_getD, List.getElem?_eq_getElem (by rw [linesOf_len]; omega)]
      rfl)
    walk_at "v"
    refine v_ixL (v := lv) (h22.l hL) (by rw [atI_m1 (by omega), lxl]; exact elv) ?_
    walk_at "v"
    refine ⟨B19, _, li, al, tg, r, gs, ps, .ref sa, .ref ka, rfl, h22, rsa.up (l18.trans l19), rk.up (l18.trans l19), gl, by omega, G.gw8, pw, G.p1, by have := G.p7; omega, by omega, NT.occ, fun v3 B20 H22 l20 h23 r3 => ?_⟩
    refine v_neP h23 (hlv.up l20) r3 (bools_has _) (line_depth _) ?_
    walk_at "v"
    refine iteF' rfl ?_
    walk_at "v"
    have l1720 := l18.trans (l19.trans l20)
    walk_at "iv"
    exact ⟨rfl, _, rfl⟩
  rintro σ' B18 M' H20 l18 h21 ⟨rfl, u, rfl⟩
  walk_at "v"
  refine ⟨B18, _, a3', d9, sd5, c9, al, tg, li, gs, ps, sa, xs, .ref ka, rfl, h21, hal, htg, l18 _ _ esa, hxs.up l18, rk.up l18, gl, G.gw8, pw, G.p1, by have := G.p7; omega, fun d10 c10 B19 H21 l19 h22 => ?_⟩
  walk_at "v"
  refine iteF' rfl ?_
  walk_at "v"
  have l1719 := l18.trans l19
  refine v_size (by show 2 ≤ sizeLine; decide) (v_newB h22 fun tb2 B20 H22 l20 h23 e23 => ?_)
  have l1720 := l1719.trans l20
  walk_at "v"
  refine v_repr h23 (.tup e23 (.cons (rsa.up l1720) (.cons (rk.up l1720) .nil))) (G.show_ NA NT li) ?_
  walk_at "v"
  refine iteF' (by simp) ?_
  walk_at "v"
  refine v_tupLB h23 (h23.l (SqL.of (l1720 _ _ esa))) fun ta B21 H23 l21 h24 e24 => ?_
  walk_at "v"
  have l10_20 : Le B10 B20 := l11.trans (l11_17.trans l1720)
  refine v_tupLB h24 (h24.l (le_l (l10_20.trans l21) (show SqL K B10 ka kxs from hK))) fun tk B22 H24 l22 h25 e25 => ?_
  walk_at "v"
  have l1722 := l1720.trans (l21.trans l22)
  have rta : Rp K B22 (.ref ta) (mkD false (gs.map (sheetD true li))) := .tup (l22 _ _ e24) (hxs.up l1722)
  have rtk : Rp K B22 (.ref tk) (sheetD false false ps) := .tup e25 (hKX.up (l10_20.trans (l21.trans l22)))
  refine ⟨B22, _, _, _, _, _, _, _, _, _, .told (toldT tg gs ps), rfl, h25, .str _, .str _, rta, rtk, za, zt, G.put NA NT false li, fun v4 B23 H25 l23 h26 r4 => ?_⟩
  walk_at "v"
  refine v_repr h26 (rd.up (l1722.trans l23)) (G.told_show NA false false) ?_
  walk_at "v"
  refine v_size (by show 2 ≤ sizeLine; decide) (v_newB h26 fun t5 B24 H26 l24 h27 e27 => ?_)
  refine v_neP h27 (r4.up l24) (.tup e27 (.cons (.str _) (.cons (.str _) .nil))) rfl (two_depth _ _) ?_
  walk_at "v"
  refine iteF' rfl ?_
  walk_at "v"
  refine v_pick h27 (by omega) (by omega) fun k d11 c11 H27 k0 k1 h28 => ?_
  walk_at "v"
  refine v_size (by show 2 ≤ sizeLine; decide) (v_newB h28 fun t6 B25 H28 l25 h29 e29 => ?_)
  refine ⟨t6, _, rfl, .inr (h29.t (SqT.of e29)), rfl, rfl, ?_⟩
  walk_at "v"
  refine ite2 (fun z => ?_) (fun z => ?_)
  · have hk : k = 19 ∨ k = 20 := by
      rw [if_neg (by decide)] at z
      have z2 : (eqV (.int 19) (.int k) || (eqV (.int 20) (.int k) || false)) = true := z
      have e : ∀ i j : Int, eqV (.int i) (.int j) = decide (i = j) := fun i j => rfl
      rw [e, e] at z2
      simp only [Bool.or_false, Bool.or_eq_true, decide_eq_true_eq] at z2
      omega
    walk_at "v"
    refine ⟨B25, _, al, tg, (k - 19).toNat, ?_, h29, hal, htg, by omega, fun B26 H29 _ _ => q _⟩
    rw [show (((k - 19).toNat : Nat) : Int) = k - 19 by omega]
    rfl
  · walk_at "v"
    exact q _
theorem ok_law (T : Txt K mg w) (TX : TxtX T P) : FnG P w K mg base CX0 24 T.a_law T.fd_law ["_law_script"] (sp_law T) := by
  refine okG0_of T.F_law sc_law (fun vs H Q E h => ?_) (fun cdv A outer s H vs Q E hgd hr h => ⟨t_law T, ?_, pure_law T vs H Q E h⟩)
  · obtain ⟨B, M, sc, ns, rfl, _⟩ := h
    rfl
  · exact (pss_cons (ps_set (i := 1) sc_law.nd rfl (by first | exact Or.inl rfl | exact Or.inr rfl) (pe_call (ok_source T) (hr.mono (by decide)) (by rfl) T.g_source T.F_source.kp T.b_source .nil pass0 (pa_cons (pv 0) (pa_cons pe_int pa_nil))))
      (pss_cons (ps_set (i := 2) sc_law.nd rfl (by first | exact Or.inl rfl | exact Or.inr rfl) (pe_lst (pa_cons pe_str (pa_cons pe_str (pa_cons pe_str (pa_cons pe_str (pa_cons pe_str (pa_cons pe_str (pa_cons pe_str (pa_cons pe_str pa_nil))))))))))
      (pss_cons (ps_set (i := 3) sc_law.nd rfl (by first | exact Or.inl rfl | exact Or.inr rfl) (pe_ix ix_list (pv 2) (pe_call (ok_pick T) (hr.mono (by decide)) (by rfl) T.g_pick T.F_pick.kp T.b_pick .nil pass0 (pa_cons (pv 1) (pa_cons pe_int pa_nil))) (fun _ _ => rfl)))
      (pss_cons (ps_set (i := 4) sc_law.nd rfl (by first | exact Or.inl rfl | exact Or.inr rfl) (pe_ix ix_list (pv 2) (pe_call (ok_pick T) (hr.mono (by decide)) (by rfl) T.g_pick T.F_pick.kp T.b_pick .nil pass0 (pa_cons (pv 1) (pa_cons pe_int pa_nil))) (fun _ _ => rfl)))
      (pss_cons (ps_set (i := 5) sc_law.nd rfl (by first | exact Or.inl rfl | exact Or.inr rfl) (pe_call (ok_source T) (hr.mono (by decide)) (by rfl) T.g_source T.F_source.kp T.b_source .nil pass0 (pa_cons (pv 0) (pa_cons pe_int pa_nil))))
      (pss_cons (ps_setLc (i := 6) (own := [("_law_letter", 7)]) (g := (gName 7)) (tt := tYes) rfl sc_law.nd rfl rfl (sw_true rfl rfl rfl (by decide +kernel)) (pi_str (pv 4)) (blkOk_by (own := [("_law_letter", 7)]) (N := n_law) (sc := defScope s_law) (by decide +kernel)) (fun _ _ _ _ _ => (pg_name (i := 7) sc_law.nd rfl (Or.inl rfl))) (fun _ _ _ _ _ => pts_nil) (fun _ _ _ _ _ => (pe_call (ok_tense T) (hr.mono (by decide)) (by rfl) T.g_tense T.F_tense.kp T.b_tense .nil pass0 (pa_cons (pv 5) (pa_cons (pv 3) (pa_cons (pe_op op_add pe_int (pe_call (ok_pick T) (hr.mono (by decide)) (by rfl) T.g_pick T.F_pick.kp T.b_pick .nil pass0 (pa_cons (pv 5) (pa_cons pe_int pa_nil)))) pa_nil))))))
      (pss_cons (ps_if (pt_cmpR op_eq (pe_call (ok_pick T) (hr.mono (by decide)) (by rfl) T.g_pick T.F_pick.kp T.b_pick .nil pass0 (pa_cons (pv 5) (pa_cons pe_int pa_nil))) pe_int (nomark _)) (pss_one (ps_asg (pe_ix ix_list (pv 6) pe_int (fun _ _ => rfl)) (pg_sub (pv 6) (pe_un un_neg pe_int) set_list))) pss_nil)
      (pss_cons (ps_set (i := 8) sc_law.nd rfl (by first | exact Or.inl rfl | exact Or.inr rfl) (pe_call (ok_source T) (hr.mono (by decide)) (by rfl) T.g_source T.F_source.kp T.b_source .nil pass0 (pa_cons (pv 0) (pa_cons pe_int pa_nil))))
      (pss_cons (ps_set (i := 9) sc_law.nd rfl (by first | exact Or.inl rfl | exact Or.inr rfl) (pe_call (ok_tense T) (hr.mono (by decide)) (by rfl) T.g_tense T.F_tense.kp T.b_tense .nil pass0 (pa_cons (pv 8) (pa_cons (pv 4) (pa_cons (pe_op op_add pe_int (pe_call (ok_pick T) (hr.mono (by decide)) (by rfl) T.g_pick T.F_pick.kp T.b_pick .nil pass0 (pa_cons (pv 8) (pa_cons pe_int pa_nil)))) pa_nil)))))
      (pss_cons (ps_set (i := 10) sc_law.nd rfl (by first | exact Or.inl rfl | exact Or.inr rfl) (pe_call (ok_put_due T) hr (by rfl) T.g_put_due T.F_put_due.kp T.b_put_due .nil pass0 (pa_cons (pv 4) (pa_cons (pv 6) (pa_cons (pv 9) pa_nil)))))
      (pss_cons (ps_if (pt_cmpR op_eq (pe_call (ok_pick T) (hr.mono (by decide)) (by rfl) T.g_pick T.F_pick.kp T.b_pick .nil pass0 (pa_cons (pv 8) (pa_cons pe_int pa_nil))) pe_int (nomark _)) (pss_one (ps_setLc (i := 6) (own := [("_law_one", 12)]) (g := (gName 12)) (tt := tYes) rfl sc_law.nd rfl rfl (sw_true rfl rfl rfl (by decide +kernel)) (pi_list (pv 6)) (blkOk_by (own := [("_law_one", 12)]) (N := n_law) (sc := defScope s_law) (by decide +kernel)) (fun _ _ _ _ _ => (pg_name (i := 12) sc_law.nd rfl (Or.inl rfl))) (fun _ _ _ _ _ => pts_nil) (fun _ _ _ _ _ => (pe_lc (own := [("_law_part", 11)]) (g := (gName 11)) (tt := tYes) rfl sc_law.nd (pi_list (pv 12)) (blkOk_by (own := [("_law_part", 11)]) (N := n_law) (sc := { kind := .function, names := [(".0", .local), ("_law_one", .local)], isGenerator := false, isCoroutine := false }) (by decide +kernel)) (fun _ _ _ _ _ => (pg_name (i := 11) sc_law.nd rfl (Or.inl rfl))) (fun _ _ _ _ _ => pts_nil) (fun _ _ _ _ _ => (pe_callTy call_list_of (by rfl) (T.free_list) (by decide +kernel) (pa_cons (pv 11) pa_nil))))))) pss_nil)
      (pss_cons (ps_set (i := 13) sc_law.nd rfl (by first | exact Or.inl rfl | exact Or.inr rfl) (pe_callB (cr_repr hgd (room70 hr)) (by rfl) (T.free_repr) (by decide +kernel) (pa_cons (pe_tup (pa_cons (pv 6) (pa_cons (pv 9) pa_nil))) pa_nil)))
      (pss_cons (ps_if (pt_cmpR (op_neP hr.units) (pe_callG (ok_put T TX) hgd (hr.mono (by decide)) (by rfl) T.g_put T.F_put.kp T.b_put (pa_cons (pv 3) (pa_cons (pv 4) (pa_cons (pv 6) (pa_cons (pv 9) pa_nil))))) (pe_tup (pa_cons pe_str (pa_cons (pe_callB (cr_repr hgd (room70 hr)) (by rfl) (T.free_repr) (by decide +kernel) (pa_cons (pv 10) pa_nil)) pa_nil))) (nomark _)) (pss_one (ps_ret pe_bl)) pss_nil)
      (pss_cons (ps_set (i := 14) sc_law.nd rfl (by first | exact Or.inl rfl | exact Or.inr rfl) (pe_op op_cat (pe_call (ok_rows T) (hr.mono (by decide)) (by rfl) T.g_rows T.F_rows.kp T.b_rows .nil pass0 (pa_cons (pv 3) (pa_cons (pe_ifExp (pt_cmpR op_lt (pe_callB call_len (by rfl) (T.free_len) (by decide +kernel) (pa_cons (pv 3) pa_nil)) pe_int (nomark _)) pe_int pe_int) pa_nil))) (pe_lst (pa_cons (pe_call (ok_word T) (hr.mono (by decide)) (by rfl) T.g_word T.F_word.kp T.b_word .nil pass0 (pa_cons (pv 8) (pa_cons (pv 3) (pa_cons pe_int pa_nil)))) pa_nil))))
      (pss_cons (ps_for PassesOwn.never rfl (pi_list (pv 14)) (pg_name (i := 15) sc_law.nd rfl (by first | exact Or.inl rfl | exact Or.inr rfl)) (pss_one (ps_if (pt_cmpR (op_neP hr.units) (pe_ix ix_list (pe_call (ok_tense_lines T) (hr.mono (by decide)) (by rfl) T.g_tense_lines T.F_tense_lines.kp T.b_tense_lines .nil pass0 (pa_cons (pv 10) (pa_cons (pv 15) pa_nil))) (pe_un un_neg pe_int) (fun _ _ => rfl)) (pe_call (ok_put_line T) (hr.mono (by decide)) (by rfl) T.g_put_line T.F_put_line.kp T.b_put_line .nil pass0 (pa_cons (pv 4) (pa_cons (pv 6) (pa_cons (pv 9) (pa_cons (pv 15) pa_nil))))) (nomark _)) (pss_one (ps_ret pe_bl)) pss_nil)))
      (pss_cons (ps_if (PW.pt (pw_or (pt_not (pt_val (pe_callG (ok_put_refused T TX) hgd (hr.mono (by decide)) (by rfl) T.g_put_refused T.F_put_refused.kp T.b_put_refused (pa_cons (pv 8) (pa_cons (pv 3) (pa_cons (pv 4) (pa_cons (pv 6) (pa_cons (pv 9) pa_nil)))))))) (pw_or1 (pt_cmpR op_ne (pe_callB (cr_repr hgd (room70 hr)) (by rfl) (T.free_repr) (by decide +kernel) (pa_cons (pe_tup (pa_cons (pv 6) (pa_cons (pv 9) pa_nil))) pa_nil)) (pv 13) (nomark _))))) (pss_one (ps_ret pe_bl)) pss_nil)
      (pss_cons (ps_if (pt_cmpR (op_neP hr.units) (pe_callG (ok_put T TX) hgd (hr.mono (by decide)) (by rfl) T.g_put T.F_put.kp T.b_put (pa_cons (pv 3) (pa_cons (pv 4) (pa_cons (pe_callTy call_tuple_of (by rfl) (T.free_tuple) (by decide +kernel) (pa_cons (pv 6) pa_nil)) (pa_cons (pe_callTy call_tuple_of (by rfl) (T.free_tuple) (by decide +kernel) (pa_cons (pv 9) pa_nil)) pa_nil))))) (pe_tup (pa_cons pe_str (pa_cons (pe_callB (cr_repr hgd (room70 hr)) (by rfl) (T.free_repr) (by decide +kernel) (pa_cons (pv 10) pa_nil)) pa_nil))) (nomark _)) (pss_one (ps_ret pe_bl)) pss_nil)
      (pss_cons (ps_set (i := 16) sc_law.nd rfl (by first | exact Or.inl rfl | exact Or.inr rfl) (pe_call (ok_pick T) (hr.mono (by decide)) (by rfl) T.g_pick T.F_pick.kp T.b_pick .nil pass0 (pa_cons (pv 8) (pa_cons pe_int pa_nil))))
      (pss_one (ps_ret (pe_ifExp (pt_cmpR op_in_seq (pv 16) (pe_tup (pa_cons pe_int (pa_cons pe_int pa_nil))) (by rfl)) (pe_callG (ok_chains T TX) hgd (hr.mono (by decide)) (by rfl) T.g_chains T.F_chains.kp T.b_chains (pa_cons (pv 3) (pa_cons (pv 4) (pa_cons (pe_op op_sub (pv 16) pe_int) pa_nil)))) pe_bl)))))))))))))))))))))
end
end K71
set_option Elab.async false
set_option linter.all false
set_option maxRecDepth 100000
set_option maxHeartbeats 8000000
/-! what the head gives, as premises -/
namespace K71
open PySem PySem.Spec PyProof.Rows L2 Sh PySem.HandSPX
open SX (S)
def spL (K : PySem.W.Frag) : Sp := fun vs H Q _ => ∃ (B : Hp) (M : List (Addr × HO)) (sc : Addr) (ns : List Int), vs = [.ref sc] ∧ Hs B M H ∧ SqL K B sc (ns.map V.int) ∧ ns.length ≤ 63 ∧ (∀ z ∈ ns, Builtin.Int.intBits z ≤ 1048576) ∧ ∀ (H' : Hp), Q (.bl true) H'
theorem walk {l : PySem.W.OpenLaw} {q : Program} {loose : List Str} {XP : (Str → Option Value) → Heap → Prop} {YP : World → Heap → Prop} {d : DefRec} {K : Params → PySem.W.Frag} (hn : l.most = some 63) (hdf : d.params.defaults = [])
    (hY : ∀ (w : World) (h : Heap), YP w h → (K w.params).In h)
    (F : ∀ (w : World) (mg : Str → Option Value) (fa : Addr) (h : Heap), (K w.params).In h → h.Ns mainGlobals mg → mg d.name = some (.ref fa) →
      ∃ fd : FuncData, (∀ (s : Shared) (u : Value), BindsTo s fd ⟨[u], []⟩ [("_law_script", u)]) ∧ ∀ base : Heap, (K w.params).In base → base.Ns mainGlobals mg → FnG l.prog w (K w.params) mg base CX0 24 fa fd ["_law_script"] (spL (K w.params))) :
    PySem.W.WalkO q loose XP YP l.row.toRowW d [] (fun f vs => PySem.call f vs) :=
  walk_ofG (n := 63) (k := 24) (x := "_law_script") (sp := fun w => spL (K w.params)) hn (by decide) hdf rfl ⟨rfl, by decide, by decide⟩ hY F (fun _ H a ns hl hb _ hS => ⟨H, [], a, ns, rfl, Hs.start H, hS, hl, hb, fun _ => rfl⟩)
section
variable {K : PySem.W.Frag} {h : Heap} {mg : Str → Option Value}
theorem fnT (X : K.In h) (G : h.Ns mainGlobals mg) {x : Str} {st : Stmt} {f : Addr} {od an : Option Addr} {sl : Array (Option Value)} {oc kV dc pm cd ct : Value} (a : PySem.W.nsIn K mainGlobals x = some (some (.ref f)))
    (l : K.lookup f = some ⟨oc, od, .func (PySem.W.fnOf x x (defArgs st) (defBody st) (defScope st) .none kV dc pm an cd ct), sl⟩) (c : PySem.W.codeIn K cd x = true) (k : PySem.W.keepIn K (.ref f) = true) :
    ∃ (f : Addr) (fd : FuncData), mg x = some (.ref f) ∧ Fun K x x st f fd := ⟨f, _, PySem.W.mg_of X G a, fun_mk l c k⟩
theorem nmT (X : K.In h) (G : h.Ns mainGlobals mg) {x : Str} {v : Value} (a : PySem.W.nsIn K mainGlobals x = some (some v)) : mg x = some v := PySem.W.mg_of X G a
theorem noT (X : K.In h) (G : h.Ns mainGlobals mg) {x : Str} (a : PySem.W.nsIn K mainGlobals x = some none) : mg x = none := PySem.W.mg_none_of X G a
theorem stT (X : K.In h) (G : h.Ns mainGlobals mg) {x z : Str} {t : Tok} (a : PySem.W.nsIn K mainGlobals x = some (some (.str z t))) : ∃ t, mg x = some (.str z t) := ⟨t, PySem.W.mg_of X G a⟩
theorem inT (X : K.In h) (G : h.Ns mainGlobals mg) {x : Str} {z : Int} {t : Tok} (a : PySem.W.nsIn K mainGlobals x = some (some (.int z t))) : ∃ t, mg x = some (.int z t) := ⟨t, PySem.W.mg_of X G a⟩
theorem kdS {d : Addr} {z : Str} {i : Int} {t : Tok} (a : PySem.W.nsIn K d z = some (some (.int i t))) : KdAt K d z (some i) := ⟨t, a⟩
theorem kdN {d : Addr} {z : Str} (a : PySem.W.nsIn K d z = some none) : KdAt K d z none := a
theorem kdT {w : World} (X : K.In h) (G : h.Ns mainGlobals mg) {x : Str} {d : Addr} {es : Array DictEntry} {n : Nat} {L : List (Str × Option Int)} (a : PySem.W.nsIn K mainGlobals x = some (some (.ref d))) (l : K.lookup d = some ⟨.type "dict", none, .dict es n, #[]⟩)
    (k : PySem.W.KeysLit w.params es.toList) (s : (d == sysModules) = false) (r : ∀ p ∈ L, KdAt K d p.1 p.2) : ∃ (d : Addr) (es : Array DictEntry) (n : Nat), mg x = some (.ref d) ∧ KDict K w d es n ∧ ∀ p ∈ L, KdAt K d p.1 p.2 := ⟨d, es, n, PySem.W.mg_of X G a, ⟨l, k, s⟩, r⟩
theorem oxT {P : Program} {C D fI cc cda N : Addr} {f nm q qual file : Str} {good : Value → Prop} {bs bm : List Value} {sn : List Str} {sub : List Value} {ab : Bool} {col : Option Bool} {dd cld cdd od an : Option Addr} {k0 k1 k2 k3 k5 : Option Value} {cdD : ClassData} {cl ccl oc doc pm ct : Value} {csl ccs osl : Array (Option Value)} {vs : Array Value} {tf : Tok}
    {te : Expr} {p1 p2 q1 q2 q3 q4 q5 q6 q7 q8 q9 : Pos}
    (a : K.lookup C = some (excClassObj nm q C N bs bm true sn sub ab col dd k0 k1 k2 k3 k5 "ValueError.__new__")) (b : refsVE bm = true) (sa : PySem.W.findIn K (.ref C) "__setattr__" = some (some (.builtin "object.__setattr__"))) (ga : PySem.W.findIn K (.ref C) "__getattribute__" = some (some (.builtin "BaseException.__getattribute__")))
    (gg : PySem.W.findIn K (.ref C) "__getattr__" = some none) (nf : PySem.W.findIn K (.ref C) f = some none) (kC : PySem.W.keepIn K (.ref C) = true) (eC : PySem.W.subIn K (.ref C) (.type "BaseException") = some true) (eV : PySem.W.subIn K (.ref C) (.type "ValueError") = some true) (tC : PySem.W.typeIn K (.ref C) = some (.type "type")) (hC : PySem.W.hasDictIn K C = true)
    (op : PySem.W.nsIn K cStatics "thirdparty.any" = some none) (i : PySem.W.findIn K (.ref C) "__init__" = some (some (.ref fI))) (tI : PySem.W.typeIn K (.ref fI) = some (.type "function"))
    (l : K.lookup fI = some ⟨oc, od, .func (PySem.W.ksFn "__init__" qual (OwnX.iA f p1 p2) (OwnX.iB f te q1 q2 q3 q4 q5 q6 q7 q8 q9) (OwnX.iS f) .none .none doc pm an (.ref cda) ct cc), osl⟩) (c : PySem.W.codeIn K (.ref cda) qual = true)
    (lc : K.lookup cc = some ⟨cl, cld, .cell (some (.ref D)), csl⟩) (lD : PySem.W.clsIn K D = some cdD) (m : PySem.W.mroIn K C (.ref D) = some true) (su : PySem.W.ks_superIn K C D "__init__" = some (some (.builtin "ValueError.__init__")))
    (la : K.lookup cda = some ⟨ccl, cdd, .fields vs, ccs⟩) (v2 : vs[2]? = some (.str file tf)) (fl : ((P.main.file : Str) == file) = true) (ev : OwnX.TextEv te f good) (cv : OwnX.CallEv te q1 q2 q3 q4)
    (fS : (f == ("self" : Str)) = false) (fC : (f == ("__class__" : Str)) = false) (fU : (f == ("super" : Str)) = false) (fD : (f == ("__debug__" : Str)) = false)
    (bd : ∀ (s : Shared) (qual : Str) (body : List Stmt) (doc pm cdv ct : Value) (an : Option Addr) (cc : Addr) (p1 p2 : Pos) (a v : Value), BindsTo s (PySem.W.ksFn "__init__" qual (OwnX.iA f p1 p2) body (OwnX.iS f) .none .none doc pm an cdv ct cc) ⟨[a, v], []⟩ [("self", a), (f, v)]) (top : (P.main.scope.names.lookup ("super" : Str)).isSome = false) :
    OwnX.OExc P K C f good :=
  { cls := ⟨nm, q, N, bs, bm, sn, sub, ab, col, dd, k0, k1, k2, k3, k5, a, b⟩, sa := sa, ga := ga, gg := gg, noN := nf, kC := kC, exC := eC, exV := eV, tyC := tC, hdC := hC, opq := op,
    own := ⟨D, fI, cc, cda, i, tI, ⟨cdD, lD⟩, m, su, ⟨cl, cld, csl, lc⟩, ⟨ccl, cdd, vs, ccs, file, tf, la, v2, fl⟩, qual, oc, od, doc, pm, an, ct, osl, te, p1, p2, q1, q2, q3, q4, q5, q6, q7, q8, q9, l, c, ev, cv⟩, fS := fS, fC := fC, fU := fU, fD := fD, bd := bd, top := top }
theorem ecT {D : Addr} (hg : PySem.W.findIn K (.ref D) "__getattribute__" = some (some (.builtin "BaseException.__getattribute__"))) (hk : PySem.W.findIn K (.ref D) "__getattr__" = some none) (hs : PySem.W.subIn K (.ref D) (.type "BaseException") = some true) (hd : PySem.W.hasDictIn K D = true)
    (ha : PySem.W.findIn K (.ref D) "__class__" = some (some (.builtin "object.__class__"))) (hn : PySem.W.specialIn K (.builtin "object.__class__") "__get__" = some (some (.builtin "getset_descriptor.__get__"))) (ht : PySem.W.takesIn K (.builtin "object.__class__") = some true) (hm : PySem.W.mroIn K D (.type "object") = some true) : ExcC K D :=
  ⟨hg, hk, hs, hd, ha, hn, ht, hm⟩
theorem exT {C S : Addr} {b : Bool} (h1 : PySem.W.subIn K (.ref S) (.type "BaseException") = some true) (h2 : PySem.W.isClsIn K S = true) (h3 : PySem.W.typeIn K (.ref S) = some (.type "type")) (h4 : PySem.W.subIn K (.ref C) (.ref S) = some b) : PySem.W.exmOne K (.ref C) (.ref S) = some b := by
  have e1 : (PySem.W.subIn K (.ref S) (.type "BaseException") == some true) = true := by rw [h1] <;> rfl
  have e2 : ((PySem.W.clsIn K S).isSome && PySem.W.typeIn K (.ref S) == some (.type "type")) = true := by
    have h2' : (PySem.W.clsIn K S).isSome = true := h2
    rw [h2', h3] <;> rfl
  show (if (PySem.W.subIn K (.ref S) (.type "BaseException") == some true) = true then (if ((PySem.W.clsIn K S).isSome && PySem.W.typeIn K (.ref S) == some (.type "type")) = true then PySem.W.subIn K (.ref C) (.ref S) else none) else none) = some b
  rw [if_pos e1, if_pos e2]
  exact h4
theorem kiT {C S : Addr} {b : Bool} (h1 : (Value.ref C == Value.ref S) = false) (h2 : PySem.W.isClsIn K S = true) (h3 : PySem.W.typeIn K (.ref S) = some (.type "type")) (h4 : PySem.W.subIn K (.ref C) (.ref S) = some b) : PySem.W.kitOne K (.ref C) (.ref S) = some b := by
  have e2 : ((PySem.W.clsIn K S).isSome && PySem.W.typeIn K (.ref S) == some (.type "type")) = true := by
    have h2' : (PySem.W.clsIn K S).isSome = true := h2
    rw [h2', h3] <;> rfl
  show (if (Value.ref C == Value.ref S) = true then some true else if ((PySem.W.clsIn K S).isSome && PySem.W.typeIn K (.ref S) == some (.type "type")) = true then PySem.W.subIn K (.ref C) (.ref S) else none) = some b
  rw [h1, if_neg (by decide), if_pos e2]
  exact h4
theorem kiS {C S : Addr} (h1 : (Value.ref C == Value.ref S) = true) : PySem.W.kitOne K (.ref C) (.ref S) = some true := by
  show (if (Value.ref C == Value.ref S) = true then some true else _) = some true
  rw [if_pos h1]
end
theorem all_mk {l : PySem.W.OpenLaw} {w : World} {K : PySem.W.Frag} {h : Heap} {mg : Str → Option Value} {fa C_SaidError C_WrongThing C_WrongItem C_BadAlphabet C_BadSheet C_BadSheets C_TooMany : Addr} (X : K.In h) (G : h.Ns mainGlobals mg) (hfa : mg "law" = some (.ref fa))
    (n_SaidError : mg "SaidError" = some (.ref C_SaidError))
    (n_WrongThing : mg "WrongThing" = some (.ref C_WrongThing))
    (n_WrongItem : mg "WrongItem" = some (.ref C_WrongItem))
    (n_BadAlphabet : mg "BadAlphabet" = some (.ref C_BadAlphabet))
    (n_BadSheet : mg "BadSheet" = some (.ref C_BadSheet))
    (n_BadSheets : mg "BadSheets" = some (.ref C_BadSheets))
    (n_TooMany : mg "TooMany" = some (.ref C_TooMany))
    (e_p_is_integer : ∃ (f : Addr) (fd : FuncData), mg "is_integer" = some (.ref f) ∧ Fun K "is_integer" "is_integer" s_p_is_integer f fd)
    (e_p_is_listed : ∃ (f : Addr) (fd : FuncData), mg "is_listed" = some (.ref f) ∧ Fun K "is_listed" "is_listed" s_p_is_listed f fd)
    (e_p_is_alphabet : ∃ (f : Addr) (fd : FuncData), mg "is_alphabet" = some (.ref f) ∧ Fun K "is_alphabet" "is_alphabet" s_p_is_alphabet f fd)
    (e_p_check_alphabet : ∃ (f : Addr) (fd : FuncData), mg "check_alphabet" = some (.ref f) ∧ Fun K "check_alphabet" "check_alphabet" s_p_check_alphabet f fd)
    (e_p_is_letter : ∃ (f : Addr) (fd : FuncData), mg "is_letter" = some (.ref f) ∧ Fun K "is_letter" "is_letter" s_p_is_letter f fd)
    (e_p_is_sheet_like : ∃ (f : Addr) (fd : FuncData), mg "is_sheet_like" = some (.ref f) ∧ Fun K "is_sheet_like" "is_sheet_like" s_p_is_sheet_like f fd)
    (e_p_is_worded : ∃ (f : Addr) (fd : FuncData), mg "is_worded" = some (.ref f) ∧ Fun K "is_worded" "is_worded" s_p_is_worded f fd)
    (e_p_refers_well : ∃ (f : Addr) (fd : FuncData), mg "refers_well" = some (.ref f) ∧ Fun K "refers_well" "refers_well" s_p_refers_well f fd)
    (e_p_is_tense_part : ∃ (f : Addr) (fd : FuncData), mg "is_tense_part" = some (.ref f) ∧ Fun K "is_tense_part" "is_tense_part" s_p_is_tense_part f fd)
    (e_p_tense_sheet : ∃ (f : Addr) (fd : FuncData), mg "tense_sheet" = some (.ref f) ∧ Fun K "tense_sheet" "tense_sheet" s_p_tense_sheet f fd)
    (e_p_referred : ∃ (f : Addr) (fd : FuncData), mg "referred" = some (.ref f) ∧ Fun K "referred" "referred" s_p_referred f fd)
    (e_p_renumbered : ∃ (f : Addr) (fd : FuncData), mg "renumbered" = some (.ref f) ∧ Fun K "renumbered" "renumbered" s_p_renumbered f fd)
    (e_p_tidied : ∃ (f : Addr) (fd : FuncData), mg "tidied" = some (.ref f) ∧ Fun K "tidied" "tidied" s_p_tidied f fd)
    (e_p_given_sheet : ∃ (f : Addr) (fd : FuncData), mg "given_sheet" = some (.ref f) ∧ Fun K "given_sheet" "given_sheet" s_p_given_sheet f fd)
    (e_p_put_in : ∃ (f : Addr) (fd : FuncData), mg "put_in" = some (.ref f) ∧ Fun K "put_in" "put_in" s_p_put_in f fd)
    (e_source : ∃ (f : Addr) (fd : FuncData), mg "_law_source" = some (.ref f) ∧ Fun K "_law_source" "_law_source" s_source f fd)
    (e_pick : ∃ (f : Addr) (fd : FuncData), mg "_law_pick" = some (.ref f) ∧ Fun K "_law_pick" "_law_pick" s_pick f fd)
    (e_word : ∃ (f : Addr) (fd : FuncData), mg "_law_word" = some (.ref f) ∧ Fun K "_law_word" "_law_word" s_word f fd)
    (e_rows : ∃ (f : Addr) (fd : FuncData), mg "_law_rows" = some (.ref f) ∧ Fun K "_law_rows" "_law_rows" s_rows f fd)
    (e_tense : ∃ (f : Addr) (fd : FuncData), mg "_law_tense" = some (.ref f) ∧ Fun K "_law_tense" "_law_tense" s_tense f fd)
    (e_tense_lines : ∃ (f : Addr) (fd : FuncData), mg "_law_tense_lines" = some (.ref f) ∧ Fun K "_law_tense_lines" "_law_tense_lines" s_tense_lines f fd)
    (e_tense_holds : ∃ (f : Addr) (fd : FuncData), mg "_law_tense_holds" = some (.ref f) ∧ Fun K "_law_tense_holds" "_law_tense_holds" s_tense_holds f fd)
    (e_put : ∃ (f : Addr) (fd : FuncData), mg "_law_put" = some (.ref f) ∧ Fun K "_law_put" "_law_put" s_put f fd)
    (e_list : ∃ (f : Addr) (fd : FuncData), mg "_law_list" = some (.ref f) ∧ Fun K "_law_list" "_law_list" s_list f fd)
    (e_put_due : ∃ (f : Addr) (fd : FuncData), mg "_law_put_due" = some (.ref f) ∧ Fun K "_law_put_due" "_law_put_due" s_put_due f fd)
    (e_put_line : ∃ (f : Addr) (fd : FuncData), mg "_law_put_line" = some (.ref f) ∧ Fun K "_law_put_line" "_law_put_line" s_put_line f fd)
    (e_spoilt : ∃ (f : Addr) (fd : FuncData), mg "_law_spoilt" = some (.ref f) ∧ Fun K "_law_spoilt" "_law_spoilt" s_spoilt f fd)
    (e_put_refused : ∃ (f : Addr) (fd : FuncData), mg "_law_put_refused" = some (.ref f) ∧ Fun K "_law_put_refused" "_law_put_refused" s_put_refused f fd)
    (e_chains : ∃ (f : Addr) (fd : FuncData), mg "_law_chains" = some (.ref f) ∧ Fun K "_law_chains" "_law_chains" s_chains f fd)
    (e_law : ∃ (f : Addr) (fd : FuncData), mg "law" = some (.ref f) ∧ Fun K "law" "law" s_law f fd)
    (free_len : mg "len" = none)
    (free_range : mg "range" = none)
    (free_int : mg "int" = none)
    (free_str : mg "str" = none)
    (free_bool : mg "bool" = none)
    (free_list : mg "list" = none)
    (free_tuple : mg "tuple" = none)
    (free_isinstance : mg "isinstance" = none)
    (free_abs : mg "abs" = none)
    (free_all : mg "all" = none)
    (free_any : mg "any" = none)
    (free_repr : mg "repr" = none)
    (free_enumerate : mg "enumerate" = none)
    (free_zip : mg "zip" = none)
    (free_super : mg "super" = none)
    (cL : ∃ t, mg "LETTERS" = some (.str "abcdefgh" t)) (cM : ∃ t, mg "MOST_PARTS" = some (.int 6000 t))
    (dW : ∃ (d : Addr) (es : Array DictEntry) (n : Nat), mg "WIDTHS" = some (.ref d) ∧ KDict K w d es n ∧ ∀ p ∈ widthO, KdAt K d p.1 p.2)
    (dR : ∃ (d : Addr) (es : Array DictEntry) (n : Nat), mg "REFERRING" = some (.ref d) ∧ KDict K w d es n ∧ ∀ p ∈ referO, KdAt K d p.1 p.2)
    (x_BadAlphabet : OwnX.OExc l.prog K C_BadAlphabet "thing" (fun _ => True))
    (c_BadAlphabet : ExcC K C_BadAlphabet)
    (x_BadSheet : OwnX.OExc l.prog K C_BadSheet "number" OwnX.goodI)
    (c_BadSheet : ExcC K C_BadSheet)
    (x_BadSheets : OwnX.OExc l.prog K C_BadSheets "number" OwnX.goodI)
    (c_BadSheets : ExcC K C_BadSheets)
    (x_TooMany : OwnX.OExc l.prog K C_TooMany "word" OwnX.goodS)
    (c_TooMany : ExcC K C_TooMany)
    (m_0 : PySem.W.exmOne K (.ref C_BadAlphabet) (.ref C_SaidError) = some true)
    (m_1 : PySem.W.exmOne K (.ref C_BadSheet) (.ref C_SaidError) = some true)
    (m_2 : PySem.W.exmOne K (.ref C_BadSheets) (.ref C_SaidError) = some true)
    (m_3 : PySem.W.exmOne K (.ref C_TooMany) (.ref C_SaidError) = some true)
    (m_4 : PySem.W.exmOne K (.ref C_BadAlphabet) (.ref C_BadSheet) = some false)
    (m_5 : PySem.W.exmOne K (.ref C_BadSheet) (.ref C_BadSheet) = some true)
    (k_0 : PySem.W.kitOne K (.ref C_BadAlphabet) (.ref C_WrongThing) = some true)
    (k_1 : PySem.W.kitOne K (.ref C_BadAlphabet) (.ref C_BadAlphabet) = some true)
    (k_2 : PySem.W.kitOne K (.ref C_BadSheet) (.ref C_WrongThing) = some false)
    (k_3 : PySem.W.kitOne K (.ref C_BadSheet) (.ref C_BadSheets) = some false)
    (k_4 : PySem.W.kitOne K (.ref C_BadSheet) (.ref C_BadSheet) = some true)
    (k_5 : PySem.W.kitOne K (.ref C_BadSheet) (.ref C_WrongItem) = some true)
    (k_6 : PySem.W.kitOne K (.ref C_BadSheets) (.ref C_WrongThing) = some false)
    (k_7 : PySem.W.kitOne K (.ref C_BadSheets) (.ref C_BadSheets) = some true)
    (k_8 : PySem.W.kitOne K (.ref C_BadSheets) (.ref C_WrongItem) = some true)
    (k_9 : PySem.W.kitOne K (.ref C_TooMany) (.ref C_WrongThing) = some false)
    (k_10 : PySem.W.kitOne K (.ref C_TooMany) (.ref C_BadSheets) = some false)
    (k_11 : PySem.W.kitOne K (.ref C_TooMany) (.ref C_BadSheet) = some false)
    (k_12 : PySem.W.kitOne K (.ref C_TooMany) (.ref C_TooMany) = some true)
    : ∃ fd : FuncData, (∀ (s : Shared) (u : Value), BindsTo s fd ⟨[u], []⟩ [("_law_script", u)]) ∧ ∀ base : Heap, K.In base → base.Ns mainGlobals mg → FnG l.prog w K mg base CX0 24 fa fd ["_law_script"] (spL K) := by
  obtain ⟨f_p_is_integer, d_p_is_integer, g_p_is_integer, F_p_is_integer⟩ := e_p_is_integer
  obtain ⟨f_p_is_listed, d_p_is_listed, g_p_is_listed, F_p_is_listed⟩ := e_p_is_listed
  obtain ⟨f_p_is_alphabet, d_p_is_alphabet, g_p_is_alphabet, F_p_is_alphabet⟩ := e_p_is_alphabet
  obtain ⟨f_p_check_alphabet, d_p_check_alphabet, g_p_check_alphabet, F_p_check_alphabet⟩ := e_p_check_alphabet
  obtain ⟨f_p_is_letter, d_p_is_letter, g_p_is_letter, F_p_is_letter⟩ := e_p_is_letter
  obtain ⟨f_p_is_sheet_like, d_p_is_sheet_like, g_p_is_sheet_like, F_p_is_sheet_like⟩ := e_p_is_sheet_like
  obtain ⟨f_p_is_worded, d_p_is_worded, g_p_is_worded, F_p_is_worded⟩ := e_p_is_worded
  obtain ⟨f_p_refers_well, d_p_refers_well, g_p_refers_well, F_p_refers_well⟩ := e_p_refers_well
  obtain ⟨f_p_is_tense_part, d_p_is_tense_part, g_p_is_tense_part, F_p_is_tense_part⟩ := e_p_is_tense_part
  obtain ⟨f_p_tense_sheet, d_p_tense_sheet, g_p_tense_sheet, F_p_tense_sheet⟩ := e_p_tense_sheet
  obtain ⟨f_p_referred, d_p_referred, g_p_referred, F_p_referred⟩ := e_p_referred
  obtain ⟨f_p_renumbered, d_p_renumbered, g_p_renumbered, F_p_renumbered⟩ := e_p_renumbered
  obtain ⟨f_p_tidied, d_p_tidied, g_p_tidied, F_p_tidied⟩ := e_p_tidied
  obtain ⟨f_p_given_sheet, d_p_given_sheet, g_p_given_sheet, F_p_given_sheet⟩ := e_p_given_sheet
  obtain ⟨f_p_put_in, d_p_put_in, g_p_put_in, F_p_put_in⟩ := e_p_put_in
  obtain ⟨f_source, d_source, g_source, F_source⟩ := e_source
  obtain ⟨f_pick, d_pick, g_pick, F_pick⟩ := e_pick
  obtain ⟨f_word, d_word, g_word, F_word⟩ := e_word
  obtain ⟨f_rows, d_rows, g_rows, F_rows⟩ := e_rows
  obtain ⟨f_tense, d_tense, g_tense, F_tense⟩ := e_tense
  obtain ⟨f_tense_lines, d_tense_lines, g_tense_lines, F_tense_lines⟩ := e_tense_lines
  obtain ⟨f_tense_holds, d_tense_holds, g_tense_holds, F_tense_holds⟩ := e_tense_holds
  obtain ⟨f_put, d_put, g_put, F_put⟩ := e_put
  obtain ⟨f_list, d_list, g_list, F_list⟩ := e_list
  obtain ⟨f_put_due, d_put_due, g_put_due, F_put_due⟩ := e_put_due
  obtain ⟨f_put_line, d_put_line, g_put_line, F_put_line⟩ := e_put_line
  obtain ⟨f_spoilt, d_spoilt, g_spoilt, F_spoilt⟩ := e_spoilt
  obtain ⟨f_put_refused, d_put_refused, g_put_refused, F_put_refused⟩ := e_put_refused
  obtain ⟨f_chains, d_chains, g_chains, F_chains⟩ := e_chains
  obtain ⟨f_law, d_law, g_law, F_law⟩ := e_law
  obtain ⟨tL, hL⟩ := cL
  obtain ⟨tM, hM⟩ := cM
  obtain ⟨aW, eW, nW, hW, kW, rW⟩ := dW
  obtain ⟨aR, eR, nR, hR, kR, rR⟩ := dR
  have e := hfa.symm.trans g_law
  cases e
  let T : Txt K mg w := {
    a_p_is_integer := f_p_is_integer, fd_p_is_integer := d_p_is_integer, F_p_is_integer := F_p_is_integer, g_p_is_integer := g_p_is_integer, b_p_is_integer := F_p_is_integer.binds (ps := ["thing", "low", "high"]) fun _ _ _ _ _ _ us hl => match us, hl with | [_, _, _], _ => rfl,
    a_p_is_listed := f_p_is_listed, fd_p_is_listed := d_p_is_listed, F_p_is_listed := F_p_is_listed, g_p_is_listed := g_p_is_listed, b_p_is_listed := F_p_is_listed.binds (ps := ["thing"]) fun _ _ _ _ _ _ us hl => match us, hl with | [_], _ => rfl,
    a_p_is_alphabet := f_p_is_alphabet, fd_p_is_alphabet := d_p_is_alphabet, F_p_is_alphabet := F_p_is_alphabet, g_p_is_alphabet := g_p_is_alphabet, b_p_is_alphabet := F_p_is_alphabet.binds (ps := ["thing"]) fun _ _ _ _ _ _ us hl => match us, hl with | [_], _ => rfl,
    a_p_check_alphabet := f_p_check_alphabet, fd_p_check_alphabet := d_p_check_alphabet, F_p_check_alphabet := F_p_check_alphabet, g_p_check_alphabet := g_p_check_alphabet, b_p_check_alphabet := F_p_check_alphabet.binds (ps := ["thing"]) fun _ _ _ _ _ _ us hl => match us, hl with | [_], _ => rfl,
    a_p_is_letter := f_p_is_letter, fd_p_is_letter := d_p_is_letter, F_p_is_letter := F_p_is_letter, g_p_is_letter := g_p_is_letter, b_p_is_letter := F_p_is_letter.binds (ps := ["alphabet", "thing"]) fun _ _ _ _ _ _ us hl => match us, hl with | [_, _], _ => rfl,
    a_p_is_sheet_like := f_p_is_sheet_like, fd_p_is_sheet_like := d_p_is_sheet_like, F_p_is_sheet_like := F_p_is_sheet_like, g_p_is_sheet_like := g_p_is_sheet_like, b_p_is_sheet_like := F_p_is_sheet_like.binds (ps := ["sheet"]) fun _ _ _ _ _ _ us hl => match us, hl with | [_], _ => rfl,
    a_p_is_worded := f_p_is_worded, fd_p_is_worded := d_p_is_worded, F_p_is_worded := F_p_is_worded, g_p_is_worded := g_p_is_worded, b_p_is_worded := F_p_is_worded.binds (ps := ["part"]) fun _ _ _ _ _ _ us hl => match us, hl with | [_], _ => rfl,
    a_p_refers_well := f_p_refers_well, fd_p_refers_well := d_p_refers_well, F_p_refers_well := F_p_refers_well, g_p_refers_well := g_p_refers_well, b_p_refers_well := F_p_refers_well.binds (ps := ["part", "number", "width"]) fun _ _ _ _ _ _ us hl => match us, hl with | [_, _, _], _ => rfl,
    a_p_is_tense_part := f_p_is_tense_part, fd_p_is_tense_part := d_p_is_tense_part, F_p_is_tense_part := F_p_is_tense_part, g_p_is_tense_part := g_p_is_tense_part, b_p_is_tense_part := F_p_is_tense_part.binds (ps := ["alphabet", "part", "number"]) fun _ _ _ _ _ _ us hl => match us, hl with | [_, _, _], _ => rfl,
    a_p_tense_sheet := f_p_tense_sheet, fd_p_tense_sheet := d_p_tense_sheet, F_p_tense_sheet := F_p_tense_sheet, g_p_tense_sheet := g_p_tense_sheet, b_p_tense_sheet := F_p_tense_sheet.binds (ps := ["alphabet", "sheet"]) fun _ _ _ _ _ _ us hl => match us, hl with | [_, _], _ => rfl,
    a_p_referred := f_p_referred, fd_p_referred := d_p_referred, F_p_referred := F_p_referred, g_p_referred := g_p_referred, b_p_referred := F_p_referred.binds (ps := ["part"]) fun _ _ _ _ _ _ us hl => match us, hl with | [_], _ => rfl,
    a_p_renumbered := f_p_renumbered, fd_p_renumbered := d_p_renumbered, F_p_renumbered := F_p_renumbered, g_p_renumbered := g_p_renumbered, b_p_renumbered := F_p_renumbered.binds (ps := ["part", "numbers"]) fun _ _ _ _ _ _ us hl => match us, hl with | [_, _], _ => rfl,
    a_p_tidied := f_p_tidied, fd_p_tidied := d_p_tidied, F_p_tidied := F_p_tidied, g_p_tidied := g_p_tidied, b_p_tidied := F_p_tidied.binds (ps := ["sheet", "last"]) fun _ _ _ _ _ _ us hl => match us, hl with | [_, _], _ => rfl,
    a_p_given_sheet := f_p_given_sheet, fd_p_given_sheet := d_p_given_sheet, F_p_given_sheet := F_p_given_sheet, g_p_given_sheet := g_p_given_sheet, b_p_given_sheet := F_p_given_sheet.binds (ps := ["alphabet", "number", "sheet"]) fun _ _ _ _ _ _ us hl => match us, hl with | [_, _, _], _ => rfl,
    a_p_put_in := f_p_put_in, fd_p_put_in := d_p_put_in, F_p_put_in := F_p_put_in, g_p_put_in := g_p_put_in, b_p_put_in := F_p_put_in.binds (ps := ["alphabet", "target", "sheets", "sheet"]) fun _ _ _ _ _ _ us hl => match us, hl with | [_, _, _, _], _ => rfl,
    a_source := f_source, fd_source := d_source, F_source := F_source, g_source := g_source, b_source := F_source.binds (ps := ["_law_script", "_law_place"]) fun _ _ _ _ _ _ us hl => match us, hl with | [_, _], _ => rfl,
    a_pick := f_pick, fd_pick := d_pick, F_pick := F_pick, g_pick := g_pick, b_pick := F_pick.binds (ps := ["_law_source_here", "_law_many"]) fun _ _ _ _ _ _ us hl => match us, hl with | [_, _], _ => rfl,
    a_word := f_word, fd_word := d_word, F_word := F_word, g_word := g_word, b_word := F_word.binds (ps := ["_law_source_here", "_law_alphabet", "_law_most"]) fun _ _ _ _ _ _ us hl => match us, hl with | [_, _, _], _ => rfl,
    a_rows := f_rows, fd_rows := d_rows, F_rows := F_rows, g_rows := g_rows, b_rows := F_rows.binds (ps := ["_law_alphabet", "_law_most"]) fun _ _ _ _ _ _ us hl => match us, hl with | [_, _], _ => rfl,
    a_tense := f_tense, fd_tense := d_tense, F_tense := F_tense, g_tense := g_tense, b_tense := F_tense.binds (ps := ["_law_source_here", "_law_alphabet", "_law_parts"]) fun _ _ _ _ _ _ us hl => match us, hl with | [_, _, _], _ => rfl,
    a_tense_lines := f_tense_lines, fd_tense_lines := d_tense_lines, F_tense_lines := F_tense_lines, g_tense_lines := g_tense_lines, b_tense_lines := F_tense_lines.binds (ps := ["_law_sheet", "_law_row"]) fun _ _ _ _ _ _ us hl => match us, hl with | [_, _], _ => rfl,
    a_tense_holds := f_tense_holds, fd_tense_holds := d_tense_holds, F_tense_holds := F_tense_holds, g_tense_holds := g_tense_holds, b_tense_holds := F_tense_holds.binds (ps := ["_law_part", "_law_told", "_law_row", "_law_k"]) fun _ _ _ _ _ _ us hl => match us, hl with | [_, _, _, _], _ => rfl,
    a_put := f_put, fd_put := d_put, F_put := F_put, g_put := g_put, b_put := F_put.binds (ps := ["_law_alphabet", "_law_target", "_law_sheets", "_law_sheet"]) fun _ _ _ _ _ _ us hl => match us, hl with | [_, _, _, _], _ => rfl,
    a_list := f_list, fd_list := d_list, F_list := F_list, g_list := g_list, b_list := F_list.binds (ps := ["_law_sheet", "_law_number", "_law_letters", "_law_told", "_law_known"]) fun _ _ _ _ _ _ us hl => match us, hl with | [_, _, _, _, _], _ => rfl,
    a_put_due := f_put_due, fd_put_due := d_put_due, F_put_due := F_put_due, g_put_due := g_put_due, b_put_due := F_put_due.binds (ps := ["_law_target", "_law_sheets", "_law_sheet"]) fun _ _ _ _ _ _ us hl => match us, hl with | [_, _, _], _ => rfl,
    a_put_line := f_put_line, fd_put_line := d_put_line, F_put_line := F_put_line, g_put_line := g_put_line, b_put_line := F_put_line.binds (ps := ["_law_target", "_law_sheets", "_law_sheet", "_law_row"]) fun _ _ _ _ _ _ us hl => match us, hl with | [_, _, _, _], _ => rfl,
    a_spoilt := f_spoilt, fd_spoilt := d_spoilt, F_spoilt := F_spoilt, g_spoilt := g_spoilt, b_spoilt := F_spoilt.binds (ps := ["_law_source_here", "_law_alphabet", "_law_sheet"]) fun _ _ _ _ _ _ us hl => match us, hl with | [_, _, _], _ => rfl,
    a_put_refused := f_put_refused, fd_put_refused := d_put_refused, F_put_refused := F_put_refused, g_put_refused := g_put_refused, b_put_refused := F_put_refused.binds (ps := ["_law_source_here", "_law_alphabet", "_law_target", "_law_sheets", "_law_sheet"]) fun _ _ _ _ _ _ us hl => match us, hl with | [_, _, _, _, _], _ => rfl,
    a_chains := f_chains, fd_chains := d_chains, F_chains := F_chains, g_chains := g_chains, b_chains := F_chains.binds (ps := ["_law_alphabet", "_law_target", "_law_more"]) fun _ _ _ _ _ _ us hl => match us, hl with | [_, _, _], _ => rfl,
    a_law := fa, fd_law := d_law, F_law := F_law, g_law := g_law, b_law := F_law.binds (ps := ["_law_script"]) fun _ _ _ _ _ _ us hl => match us, hl with | [_], _ => rfl,
    free_len := free_len,
    free_range := free_range,
    free_int := free_int,
    free_str := free_str,
    free_bool := free_bool,
    free_list := free_list,
    free_tuple := free_tuple,
    free_isinstance := free_isinstance,
    free_abs := free_abs,
    free_all := free_all,
    free_any := free_any,
    free_repr := free_repr,
    free_enumerate := free_enumerate,
    free_zip := free_zip,
    free_super := free_super,
    t_LETTERS := tL, c_LETTERS := hL, t_MOST := tM, c_MOST := hM, a_WIDTHS := aW, g_WIDTHS := hW, e_WIDTHS := eW, n_WIDTHS := nW, d_WIDTHS := kW, widths := rW, a_REF := aR, g_REF := hR, e_REF := eR, n_REF := nR, d_REF := kR, refers := rR,
    a_SaidError := C_SaidError, g_SaidError := n_SaidError,
    a_WrongThing := C_WrongThing, g_WrongThing := n_WrongThing,
    a_WrongItem := C_WrongItem, g_WrongItem := n_WrongItem,
    a_BadAlphabet := C_BadAlphabet, g_BadAlphabet := n_BadAlphabet,
    a_BadSheet := C_BadSheet, g_BadSheet := n_BadSheet,
    a_BadSheets := C_BadSheets, g_BadSheets := n_BadSheets,
    a_TooMany := C_TooMany, g_TooMany := n_TooMany }
  have TX : TxtX T l.prog := {
    x_BadAlphabet := x_BadAlphabet, c_BadAlphabet := c_BadAlphabet,
    x_BadSheet := x_BadSheet, c_BadSheet := c_BadSheet,
    x_BadSheets := x_BadSheets, c_BadSheets := c_BadSheets,
    x_TooMany := x_TooMany, c_TooMany := c_TooMany,
    said := by
      intro p hp
      simp only [List.mem_cons, List.not_mem_nil, or_false] at hp
      rcases hp with rfl | rfl | rfl | rfl
      · exact m_0
      · exact m_1
      · exact m_2
      · exact m_3,
    sheet := by
      intro p hp
      simp only [List.mem_cons, List.not_mem_nil, or_false] at hp
      rcases hp with rfl | rfl
      · exact m_4
      · exact m_5,
    kits := by
      intro p hp
      simp only [List.mem_cons, List.not_mem_nil, or_false] at hp
      rcases hp with rfl | rfl | rfl | rfl | rfl | rfl | rfl | rfl | rfl | rfl | rfl | rfl | rfl
      · exact k_0
      · exact k_1
      · exact k_2
      · exact k_3
      · exact k_4
      · exact k_5
      · exact k_6
      · exact k_7
      · exact k_8
      · exact k_9
      · exact k_10
      · exact k_11
      · exact k_12 }
  have okl : ∀ base : Heap, FnG l.prog w K mg base CX0 24 fa d_law ["_law_script"] (spL K) := fun base => ok_law (base := base) T TX
  clear TX T
  obtain ⟨oc, od, kV, doc, pm, an, cdv, ct, osl, rfl, lk, hcd⟩ := F_law.ex
  exact ⟨_, fun s u => .of_eq rfl, fun base _ _ => okl base⟩
end K71
set_option Elab.async false
set_option linter.all false
open PySem PySem.W PyProof.Rows in
set_option maxRecDepth 100000 in
set_option maxHeartbeats 0 in
theorem PySem.Challenge.cw_saidhere_k71_put_in_holds : PySem.Challenge.rw_saidhere_k71_put_in.Holds := by
  w_on; o_law; k_head; (case hw => w_witness2)
  k_fill
  refine K71.walk (l := PySem.Challenge.rw_saidhere_k71_put_in) rfl rfl (fun w h Y => PySem.W.kIn_of Y) ?F
  case F =>
    intro w mg fa h KX G hmg
    refine' K71.all_mk (l := PySem.Challenge.rw_saidhere_k71_put_in) KX G hmg ?n_SaidError ?n_WrongThing ?n_WrongItem ?n_BadAlphabet ?n_BadSheet ?n_BadSheets ?n_TooMany ?e_p_is_integer ?e_p_is_listed ?e_p_is_alphabet ?e_p_check_alphabet ?e_p_is_letter ?e_p_is_sheet_like ?e_p_is_worded ?e_p_refers_well ?e_p_is_tense_part ?e_p_tense_sheet ?e_p_referred ?e_p_renumbered ?e_p_tidied ?e_p_given_sheet ?e_p_put_in ?e_source ?e_pick ?e_word ?e_rows ?e_tense ?e_tense_lines ?e_tense_holds ?e_put ?e_list ?e_put_due ?e_put_line ?e_spoilt ?e_put_refused ?e_chains ?e_law ?free_len ?free_range ?free_int ?free_str ?free_bool ?free_list ?free_tuple ?free_isinstance ?free_abs ?free_all ?free_any ?free_repr ?free_enumerate ?free_zip ?free_super ?cL ?cM ?dW ?dR ?x_BadAlphabet ?c_BadAlphabet ?x_BadSheet ?c_BadSheet ?x_BadSheets ?c_BadSheets ?x_TooMany ?c_TooMany ?m_0 ?m_1 ?m_2 ?m_3 ?m_4 ?m_5 ?k_0 ?k_1 ?k_2 ?k_3 ?k_4 ?k_5 ?k_6 ?k_7 ?k_8 ?k_9 ?k_10 ?k_11 ?k_12
    (case n_SaidError => refine' K71.nmT KX G ?a; (case a => k_is))
    (case n_WrongThing => refine' K71.nmT KX G ?a; (case a => k_is))
    (case n_WrongItem => refine' K71.nmT KX G ?a; (case a => k_is))
    (case n_BadAlphabet => refine' K71.nmT KX G ?a; (case a => k_is))
    (case n_BadSheet => refine' K71.nmT KX G ?a; (case a => k_is))
    (case n_BadSheets => refine' K71.nmT KX G ?a; (case a => k_is))
    (case n_TooMany => refine' K71.nmT KX G ?a; (case a => k_is))
    (case e_p_is_integer => refine' K71.fnT KX G ?a ?l ?c ?k; (case a => k_is); (case l => k_is); (case c => k_is); (case k => k_is))
    (case e_p_is_listed => refine' K71.fnT KX G ?a ?l ?c ?k; (case a => k_is); (case l => k_is); (case c => k_is); (case k => k_is))
    (case e_p_is_alphabet => refine' K71.fnT KX G ?a ?l ?c ?k; (case a => k_is); (case l => k_is); (case c => k_is); (case k => k_is))
    (case e_p_check_alphabet => refine' K71.fnT KX G ?a ?l ?c ?k; (case a => k_is); (case l => k_is); (case c => k_is); (case k => k_is))
    (case e_p_is_letter => refine' K71.fnT KX G ?a ?l ?c ?k; (case a => k_is); (case l => k_is); (case c => k_is); (case k => k_is))
    (case e_p_is_sheet_like => refine' K71.fnT KX G ?a ?l ?c ?k; (case a => k_is); (case l => k_is); (case c => k_is); (case k => k_is))
    (case e_p_is_worded => refine' K71.fnT KX G ?a ?l ?c ?k; (case a => k_is); (case l => k_is); (case c => k_is); (case k => k_is))
    (case e_p_refers_well => refine' K71.fnT KX G ?a ?l ?c ?k; (case a => k_is); (case l => k_is); (case c => k_is); (case k => k_is))
    (case e_p_is_tense_part => refine' K71.fnT KX G ?a ?l ?c ?k; (case a => k_is); (case l => k_is); (case c => k_is); (case k => k_is))
    (case e_p_tense_sheet => refine' K71.fnT KX G ?a ?l ?c ?k; (case a => k_is); (case l => k_is); (case c => k_is); (case k => k_is))
    (case e_p_referred => refine' K71.fnT KX G ?a ?l ?c ?k; (case a => k_is); (case l => k_is); (case c => k_is); (case k => k_is))
    (case e_p_renumbered => refine' K71.fnT KX G ?a ?l ?c ?k; (case a => k_is); (case l => k_is); (case c => k_is); (case k => k_is))
    (case e_p_tidied => refine' K71.fnT KX G ?a ?l ?c ?k; (case a => k_is); (case l => k_is); (case c => k_is); (case k => k_is))
    (case e_p_given_sheet => refine' K71.fnT KX G ?a ?l ?c ?k; (case a => k_is); (case l => k_is); (case c => k_is); (case k => k_is))
    (case e_p_put_in => refine' K71.fnT KX G ?a ?l ?c ?k; (case a => k_is); (case l => k_is); (case c => k_is); (case k => k_is))
    (case e_source => refine' K71.fnT KX G ?a ?l ?c ?k; (case a => k_is); (case l => k_is); (case c => k_is); (case k => k_is))
    (case e_pick => refine' K71.fnT KX G ?a ?l ?c ?k; (case a => k_is); (case l => k_is); (case c => k_is); (case k => k_is))
    (case e_word => refine' K71.fnT KX G ?a ?l ?c ?k; (case a => k_is); (case l => k_is); (case c => k_is); (case k => k_is))
    (case e_rows => refine' K71.fnT KX G ?a ?l ?c ?k; (case a => k_is); (case l => k_is); (case c => k_is); (case k => k_is))
    (case e_tense => refine' K71.fnT KX G ?a ?l ?c ?k; (case a => k_is); (case l => k_is); (case c => k_is); (case k => k_is))
    (case e_tense_lines => refine' K71.fnT KX G ?a ?l ?c ?k; (case a => k_is); (case l => k_is); (case c => k_is); (case k => k_is))
    (case e_tense_holds => refine' K71.fnT KX G ?a ?l ?c ?k; (case a => k_is); (case l => k_is); (case c => k_is); (case k => k_is))
    (case e_put => refine' K71.fnT KX G ?a ?l ?c ?k; (case a => k_is); (case l => k_is); (case c => k_is); (case k => k_is))
    (case e_list => refine' K71.fnT KX G ?a ?l ?c ?k; (case a => k_is); (case l => k_is); (case c => k_is); (case k => k_is))
    (case e_put_due => refine' K71.fnT KX G ?a ?l ?c ?k; (case a => k_is); (case l => k_is); (case c => k_is); (case k => k_is))
    (case e_put_line => refine' K71.fnT KX G ?a ?l ?c ?k; (case a => k_is); (case l => k_is); (case c => k_is); (case k => k_is))
    (case e_spoilt => refine' K71.fnT KX G ?a ?l ?c ?k; (case a => k_is); (case l => k_is); (case c => k_is); (case k => k_is))
    (case e_put_refused => refine' K71.fnT KX G ?a ?l ?c ?k; (case a => k_is); (case l => k_is); (case c => k_is); (case k => k_is))
    (case e_chains => refine' K71.fnT KX G ?a ?l ?c ?k; (case a => k_is); (case l => k_is); (case c => k_is); (case k => k_is))
    (case e_law => refine' K71.fnT KX G ?a ?l ?c ?k; (case a => k_is); (case l => k_is); (case c => k_is); (case k => k_is))
    (case free_len => refine' K71.noT KX G ?a; (case a => k_is))
    (case free_range => refine' K71.noT KX G ?a; (case a => k_is))
    (case free_int => refine' K71.noT KX G ?a; (case a => k_is))
    (case free_str => refine' K71.noT KX G ?a; (case a => k_is))
    (case free_bool => refine' K71.noT KX G ?a; (case a => k_is))
    (case free_list => refine' K71.noT KX G ?a; (case a => k_is))
    (case free_tuple => refine' K71.noT KX G ?a; (case a => k_is))
    (case free_isinstance => refine' K71.noT KX G ?a; (case a => k_is))
    (case free_abs => refine' K71.noT KX G ?a; (case a => k_is))
    (case free_all => refine' K71.noT KX G ?a; (case a => k_is))
    (case free_any => refine' K71.noT KX G ?a; (case a => k_is))
    (case free_repr => refine' K71.noT KX G ?a; (case a => k_is))
    (case free_enumerate => refine' K71.noT KX G ?a; (case a => k_is))
    (case free_zip => refine' K71.noT KX G ?a; (case a => k_is))
    (case free_super => refine' K71.noT KX G ?a; (case a => k_is))
    (case cL => refine' K71.stT KX G ?a; (case a => k_is))
    (case cM => refine' K71.inT KX G ?a; (case a => k_is))
    (case dW =>
      refine' K71.kdT KX G ?a ?l ?k ?s ?r
      (case a => k_is)
      (case l => k_is)
      (case k => first | (exact (by repeat (first | exact trivial | refine ⟨⟨_, _, rfl, rfl⟩, ?_⟩))) | (repeat (first | exact trivial | refine ⟨⟨_, _, rfl, rfl⟩, ?_⟩)))
      (case s => first | rfl | decide)
      (case r =>
        intro p hp
        simp only [K71.widthO, List.mem_cons, List.not_mem_nil, or_false] at hp
        rcases hp with rfl | rfl | rfl | rfl | rfl | rfl | rfl | rfl | rfl | rfl | rfl
        all_goals first | (refine' K71.kdS ?a; (case a => k_is)) | (refine' K71.kdN ?a; (case a => k_is))))
    (case dR =>
      refine' K71.kdT KX G ?a ?l ?k ?s ?r
      (case a => k_is)
      (case l => k_is)
      (case k => first | (exact (by repeat (first | exact trivial | refine ⟨⟨_, _, rfl, rfl⟩, ?_⟩))) | (repeat (first | exact trivial | refine ⟨⟨_, _, rfl, rfl⟩, ?_⟩)))
      (case s => first | rfl | decide)
      (case r =>
        intro p hp
        simp only [K71.referO, List.mem_cons, List.not_mem_nil, or_false] at hp
        rcases hp with rfl | rfl | rfl | rfl | rfl | rfl | rfl | rfl | rfl | rfl
        all_goals first | (refine' K71.kdS ?a; (case a => k_is)) | (refine' K71.kdN ?a; (case a => k_is))))
    (case x_BadAlphabet =>
      refine' K71.oxT (te := (.Constant (.str "an argument does not have the form that is asked for") 0 ⟨7, 25, 7, 79⟩)) (p1 := ⟨6, 17, 6, 21⟩) (p2 := ⟨6, 23, 6, 28⟩) (q1 := ⟨7, 8, 7, 13⟩) (q2 := ⟨7, 8, 7, 15⟩) (q3 := ⟨7, 8, 7, 24⟩) (q4 := ⟨7, 8, 7, 80⟩) (q5 := ⟨7, 8, 7, 80⟩) (q6 := ⟨8, 8, 8, 12⟩) (q7 := ⟨8, 8, 8, 18⟩) (q8 := ⟨8, 21, 8, 26⟩) (q9 := ⟨8, 8, 8, 26⟩) ?a ?b ?sa ?ga ?gg ?nf ?kC ?eC ?eV ?tC ?hC ?op ?i ?tI ?l ?c ?lc ?lD ?m ?su ?la ?v2 ?fl ?ev ?cv ?fS ?fC ?fU ?fD ?bd ?top
      (case a => k_is)
      (case b => first | rfl | decide +kernel)
      (case sa => k_is)
      (case ga => k_is)
      (case gg => k_is)
      (case nf => k_is)
      (case kC => k_is)
      (case eC => k_is)
      (case eV => k_is)
      (case tC => k_is)
      (case hC => k_is)
      (case op => k_is)
      (case i => k_is)
      (case tI => k_is)
      (case l => k_is)
      (case c => k_is)
      (case lc => k_is)
      (case lD => k_is)
      (case m => k_is)
      (case su => ks_is)
      (case la => k_is)
      (case v2 => exact rfl)
      (case fl => first | rfl | decide +kernel)
      (case ev => exact PySem.OwnX.text_const _)
      (case cv => exact fun _ => ⟨rfl, _, rfl⟩)
      (case fS => decide +kernel)
      (case fC => decide +kernel)
      (case fU => decide +kernel)
      (case fD => decide +kernel)
      (case bd => exact fun _ _ _ _ _ _ _ _ _ _ _ _ _ => .of_eq rfl)
      (case top => first | rfl | decide +kernel))
    (case c_BadAlphabet => refine' K71.ecT ?hg ?hk ?hs ?hd ?ha ?hn ?ht ?hm; (case hg => k_is); (case hk => k_is); (case hs => k_is); (case hd => k_is); (case ha => k_is); (case hn => k_is); (case ht => k_is); (case hm => k_is))
    (case x_BadSheet =>
      refine' K71.oxT (te := (.JoinedStr [.Constant (.str "item ") 0 ⟨12, 27, 12, 32⟩, .FormattedValue (.Name "number" ⟨12, 33, 12, 39⟩) (-1) none ⟨12, 32, 12, 40⟩, .Constant (.str " does not have the form that is asked for") 0 ⟨12, 40, 12, 81⟩] ⟨12, 25, 12, 82⟩)) (p1 := ⟨11, 17, 11, 21⟩) (p2 := ⟨11, 23, 11, 29⟩) (q1 := ⟨12, 8, 12, 13⟩) (q2 := ⟨12, 8, 12, 15⟩) (q3 := ⟨12, 8, 12, 24⟩) (q4 := ⟨12, 8, 12, 83⟩) (q5 := ⟨12, 8, 12, 83⟩) (q6 := ⟨13, 8, 13, 12⟩) (q7 := ⟨13, 8, 13, 19⟩) (q8 := ⟨13, 22, 13, 28⟩) (q9 := ⟨13, 8, 13, 28⟩) ?a ?b ?sa ?ga ?gg ?nf ?kC ?eC ?eV ?tC ?hC ?op ?i ?tI ?l ?c ?lc ?lD ?m ?su ?la ?v2 ?fl ?ev ?cv ?fS ?fC ?fU ?fD ?bd ?top
      (case a => k_is)
      (case b => first | rfl | decide +kernel)
      (case sa => k_is)
      (case ga => k_is)
      (case gg => k_is)
      (case nf => k_is)
      (case kC => k_is)
      (case eC => k_is)
      (case eV => k_is)
      (case tC => k_is)
      (case hC => k_is)
      (case op => k_is)
      (case i => k_is)
      (case tI => k_is)
      (case l => k_is)
      (case c => k_is)
      (case lc => k_is)
      (case lD => k_is)
      (case m => k_is)
      (case su => ks_is)
      (case la => k_is)
      (case v2 => exact rfl)
      (case fl => first | rfl | decide +kernel)
      (case ev => exact PySem.OwnX.text_int (by decide +kernel) (by decide +kernel) (by decide +kernel))
      (case cv => exact fun _ => ⟨rfl, _, rfl⟩)
      (case fS => decide +kernel)
      (case fC => decide +kernel)
      (case fU => decide +kernel)
      (case fD => decide +kernel)
      (case bd => exact fun _ _ _ _ _ _ _ _ _ _ _ _ _ => .of_eq rfl)
      (case top => first | rfl | decide +kernel))
    (case c_BadSheet => refine' K71.ecT ?hg ?hk ?hs ?hd ?ha ?hn ?ht ?hm; (case hg => k_is); (case hk => k_is); (case hs => k_is); (case hd => k_is); (case ha => k_is); (case hn => k_is); (case ht => k_is); (case hm => k_is))
    (case x_BadSheets =>
      refine' K71.oxT (te := (.JoinedStr [.Constant (.str "item ") 0 ⟨12, 27, 12, 32⟩, .FormattedValue (.Name "number" ⟨12, 33, 12, 39⟩) (-1) none ⟨12, 32, 12, 40⟩, .Constant (.str " does not have the form that is asked for") 0 ⟨12, 40, 12, 81⟩] ⟨12, 25, 12, 82⟩)) (p1 := ⟨11, 17, 11, 21⟩) (p2 := ⟨11, 23, 11, 29⟩) (q1 := ⟨12, 8, 12, 13⟩) (q2 := ⟨12, 8, 12, 15⟩) (q3 := ⟨12, 8, 12, 24⟩) (q4 := ⟨12, 8, 12, 83⟩) (q5 := ⟨12, 8, 12, 83⟩) (q6 := ⟨13, 8, 13, 12⟩) (q7 := ⟨13, 8, 13, 19⟩) (q8 := ⟨13, 22, 13, 28⟩) (q9 := ⟨13, 8, 13, 28⟩) ?a ?b ?sa ?ga ?gg ?nf ?kC ?eC ?eV ?tC ?hC ?op ?i ?tI ?l ?c ?lc ?lD ?m ?su ?la ?v2 ?fl ?ev ?cv ?fS ?fC ?fU ?fD ?bd ?top
      (case a => k_is)
      (case b => first | rfl | decide +kernel)
      (case sa => k_is)
      (case ga => k_is)
      (case gg => k_is)
      (case nf => k_is)
      (case kC => k_is)
      (case eC => k_is)
      (case eV => k_is)
      (case tC => k_is)
      (case hC => k_is)
      (case op => k_is)
      (case i => k_is)
      (case tI => k_is)
      (case l => k_is)
      (case c => k_is)
      (case lc => k_is)
      (case lD => k_is)
      (case m => k_is)
      (case su => ks_is)
      (case la => k_is)
      (case v2 => exact rfl)
      (case fl => first | rfl | decide +kernel)
      (case ev => exact PySem.OwnX.text_int (by decide +kernel) (by decide +kernel) (by decide +kernel))
      (case cv => exact fun _ => ⟨rfl, _, rfl⟩)
      (case fS => decide +kernel)
      (case fC => decide +kernel)
      (case fU => decide +kernel)
      (case fD => decide +kernel)
      (case bd => exact fun _ _ _ _ _ _ _ _ _ _ _ _ _ => .of_eq rfl)
      (case top => first | rfl | decide +kernel))
    (case c_BadSheets => refine' K71.ecT ?hg ?hk ?hs ?hd ?ha ?hn ?ht ?hm; (case hg => k_is); (case hk => k_is); (case hs => k_is); (case hd => k_is); (case ha => k_is); (case hn => k_is); (case ht => k_is); (case hm => k_is))
    (case x_TooMany =>
      refine' K71.oxT (te := (.JoinedStr [.Constant (.str "too many: ") 0 ⟨23, 27, 23, 37⟩, .FormattedValue (.Name "word" ⟨23, 38, 23, 42⟩) (-1) none ⟨23, 37, 23, 43⟩] ⟨23, 25, 23, 44⟩)) (p1 := ⟨22, 17, 22, 21⟩) (p2 := ⟨22, 23, 22, 27⟩) (q1 := ⟨23, 8, 23, 13⟩) (q2 := ⟨23, 8, 23, 15⟩) (q3 := ⟨23, 8, 23, 24⟩) (q4 := ⟨23, 8, 23, 45⟩) (q5 := ⟨23, 8, 23, 45⟩) (q6 := ⟨24, 8, 24, 12⟩) (q7 := ⟨24, 8, 24, 17⟩) (q8 := ⟨24, 20, 24, 24⟩) (q9 := ⟨24, 8, 24, 24⟩) ?a ?b ?sa ?ga ?gg ?nf ?kC ?eC ?eV ?tC ?hC ?op ?i ?tI ?l ?c ?lc ?lD ?m ?su ?la ?v2 ?fl ?ev ?cv ?fS ?fC ?fU ?fD ?bd ?top
      (case a => k_is)
      (case b => first | rfl | decide +kernel)
      (case sa => k_is)
      (case ga => k_is)
      (case gg => k_is)
      (case nf => k_is)
      (case kC => k_is)
      (case eC => k_is)
      (case eV => k_is)
      (case tC => k_is)
      (case hC => k_is)
      (case op => k_is)
      (case i => k_is)
      (case tI => k_is)
      (case l => k_is)
      (case c => k_is)
      (case lc => k_is)
      (case lD => k_is)
      (case m => k_is)
      (case su => ks_is)
      (case la => k_is)
      (case v2 => exact rfl)
      (case fl => first | rfl | decide +kernel)
      (case ev => exact PySem.OwnX.text_str (by decide +kernel) (by decide +kernel))
      (case cv => exact fun _ => ⟨rfl, _, rfl⟩)
      (case fS => decide +kernel)
      (case fC => decide +kernel)
      (case fU => decide +kernel)
      (case fD => decide +kernel)
      (case bd => exact fun _ _ _ _ _ _ _ _ _ _ _ _ _ => .of_eq rfl)
      (case top => first | rfl | decide +kernel))
    (case c_TooMany => refine' K71.ecT ?hg ?hk ?hs ?hd ?ha ?hn ?ht ?hm; (case hg => k_is); (case hk => k_is); (case hs => k_is); (case hd => k_is); (case ha => k_is); (case hn => k_is); (case ht => k_is); (case hm => k_is))
    (case m_0 => refine' K71.exT ?a ?b ?c ?d; (case a => k_is); (case b => k_is); (case c => k_is); (case d => first | rfl | k_is))
    (case m_1 => refine' K71.exT ?a ?b ?c ?d; (case a => k_is); (case b => k_is); (case c => k_is); (case d => first | rfl | k_is))
    (case m_2 => refine' K71.exT ?a ?b ?c ?d; (case a => k_is); (case b => k_is); (case c => k_is); (case d => first | rfl | k_is))
    (case m_3 => refine' K71.exT ?a ?b ?c ?d; (case a => k_is); (case b => k_is); (case c => k_is); (case d => first | rfl | k_is))
    (case m_4 => refine' K71.exT ?a ?b ?c ?d; (case a => k_is); (case b => k_is); (case c => k_is); (case d => first | rfl | k_is))
    (case m_5 => refine' K71.exT ?a ?b ?c ?d; (case a => k_is); (case b => k_is); (case c => k_is); (case d => first | rfl | k_is))
    (case k_0 => refine' K71.kiT ?a ?b ?c ?d; (case a => first | rfl | decide); (case b => k_is); (case c => k_is); (case d => k_is))
    (case k_1 => refine' K71.kiS ?a; (case a => first | rfl | decide))
    (case k_2 => refine' K71.kiT ?a ?b ?c ?d; (case a => first | rfl | decide); (case b => k_is); (case c => k_is); (case d => k_is))
    (case k_3 => refine' K71.kiT ?a ?b ?c ?d; (case a => first | rfl | decide); (case b => k_is); (case c => k_is); (case d => k_is))
    (case k_4 => refine' K71.kiS ?a; (case a => first | rfl | decide))
    (case k_5 => refine' K71.kiT ?a ?b ?c ?d; (case a => first | rfl | decide); (case b => k_is); (case c => k_is); (case d => k_is))
    (case k_6 => refine' K71.kiT ?a ?b ?c ?d; (case a => first | rfl | decide); (case b => k_is); (case c => k_is); (case d => k_is))
    (case k_7 => refine' K71.kiS ?a; (case a => first | rfl | decide))
    (case k_8 => refine' K71.kiT ?a ?b ?c ?d; (case a => first | rfl | decide); (case b => k_is); (case c => k_is); (case d => k_is))
    (case k_9 => refine' K71.kiT ?a ?b ?c ?d; (case a => first | rfl | decide); (case b => k_is); (case c => k_is); (case d => k_is))
    (case k_10 => refine' K71.kiT ?a ?b ?c ?d; (case a => first | rfl | decide); (case b => k_is); (case c => k_is); (case d => k_is))
    (case k_11 => refine' K71.kiT ?a ?b ?c ?d; (case a => first | rfl | decide); (case b => k_is); (case c => k_is); (case d => k_is))
    (case k_12 => refine' K71.kiS ?a; (case a => first | rfl | decide))
