import PyProof.Rows.All
import Wide.All
import OpenK.AllK
import Wide.FinOn
import HandS.ForMost
import HandS.IsInst
import HandS.DictComp
import HandS.Conv
import HandS.More
import HandS.SortInts
import HandS.WordsDict
import KE.GoesZip
import KE.GoesMore
import KE.GoesEnum
import PySem.Challenge.RW_someandall_k89_plans_that_fit
set_option Elab.async false
set_option linter.all false
set_option maxRecDepth 100000
set_option maxHeartbeats 4000000
set_option maxRecDepth 100000
set_option maxHeartbeats 2000000
/-! Z0: steps of readings, one lemma a combinator; frames between heaps; data that never changes -/
namespace Z
open PySem L2

/-! ### frames between heaps -/
def Fixed : HO → Prop
  | .tup _ => True
  | .frz _ _ => True
  | _ => False
/-- from H to H' only the objects in S (none of them fixed) may have changed -/
def Fr (S : List Addr) (H H' : Hp) : Prop := ∀ b o, H b = some o → (b ∉ S ∨ Fixed o) → H' b = some o
theorem Fr.refl {S : List Addr} {H : Hp} : Fr S H H := fun _ _ h _ => h
theorem Fr.trans {S : List Addr} {H H1 H2 : Hp} (a : Fr S H H1) (b : Fr S H1 H2) : Fr S H H2 := fun x o h c => b x o (a x o h c) c
theorem Fr.weak {S T : List Addr} {H H' : Hp} (a : Fr S H H') (h : ∀ x, x ∈ S → x ∈ T) : Fr T H H' := fun x o e c => a x o e (c.imp (fun n m => n (h x m)) id)
theorem Fr.of0 {T : List Addr} {H H' : Hp} (a : Fr [] H H') : Fr T H H' := a.weak fun _ h => by cases h
theorem Fr.new {S : List Addr} {H : Hp} {p : Addr} {o : HO} (h : H p = none) : Fr S H (upd H p o) := fun a u e _ => by
  rw [upd_ne (ne_of_none e h)]
  exact e
theorem Fr.wr {S : List Addr} {H : Hp} {p : Addr} {o u : HO} (h : H p = some u) (m : ¬ Fixed u) (hp : p ∈ S) : Fr S H (upd H p o) := fun a v e c => by
  have hn : a ≠ p := fun z => by
    subst z
    rw [h] at e
    cases e
    rcases c with c | c
    · exact c hp
    · exact m c
  rw [upd_ne hn]
  exact e
/-- behind a frame an object that the first heap does not know may change -/
theorem Fr.mut {S : List Addr} {H H' : Hp} {p : Addr} {o : HO} (e : Fr S H H') (h : H p = none) : Fr S H (upd H' p o) := fun a u ha c => by
  rw [upd_ne (ne_of_none ha h)]
  exact e a u ha c
theorem Fr.mutS {S : List Addr} {H H' : Hp} {p : Addr} {o u : HO} (e : Fr S H H') (h : H' p = some u) (m : ¬ Fixed u) (hp : p ∈ S) : Fr S H (upd H' p o) := fun a v ha c => by
  have hn : a ≠ p := fun z => by
    subst z
    rcases c with c | c
    · exact c hp
    · have q := e a v ha (Or.inr c)
      rw [h] at q
      cases q
      exact m c
  rw [upd_ne hn]
  exact e a v ha c
/-- a second frame that touches what the first heap does not know, or S -/
theorem Fr.transN {S T : List Addr} {H H1 H2 : Hp} (a : Fr S H H1) (b : Fr T H1 H2) (h : ∀ x, x ∈ T → x ∈ S ∨ H x = none) : Fr S H H2 := fun x o e c => by
  refine b x o (a x o e c) ?_
  rcases c with c | c
  · refine Or.inl fun m => ?_
    rcases h x m with h | h
    · exact c h
    · rw [e] at h
      cases h
  · exact Or.inr c
theorem Fr.get {S : List Addr} {H H' : Hp} {p : Addr} {o : HO} (a : Fr S H H') (h : H p = some o) (n : p ∉ S) : H' p = some o := a p o h (Or.inl n)
theorem Fr.back {S : List Addr} {H H' : Hp} {p : Addr} (a : Fr S H H') (h : H' p = none) (n : p ∉ S) : H p = none := by
  cases q : H p with
  | none => rfl
  | some o =>
    rw [a p o q (Or.inl n)] at h
    cases h
theorem nin0 {p : Addr} : p ∉ ([] : List Addr) := fun h => by cases h
theorem nin1 {p q : Addr} {l : List Addr} (h : p ≠ q) (h' : p ∉ l) : p ∉ q :: l := fun m => by
  rcases List.mem_cons.mp m with m | m
  · exact h m
  · exact h' m
theorem ne1 {H : Hp} {p q : Addr} {o : HO} (h' : H q = none) (h : H p = some o) : p ≠ q := ne_of_none h h'
theorem ne2 {H : Hp} {p q : Addr} {o : HO} (h' : H p = none) (h : H q = some o) : p ≠ q := Ne.symm (ne_of_none h h')

/-! ### data that never changes: flat things, tuples, locked lists -/
mutual
inductive Im (K : PySem.W.Frag) (H : Hp) : V → PyData → Prop
  | non : Im K H .non .none
  | bl (b : Bool) : Im K H (.bl b) (.bool b)
  | int (i : Int) : Im K H (.int i) (.int i)
  | str (x : Str) : Im K H (.str x) (.str x)
  | lst {a : Addr} {o : Obj} {xs : List V} {ds : List PyData} : H a = some (.frz o (.lst xs)) → ImAll K H xs ds → Im K H (.ref a) (.list ds)
  | tup {a : Addr} {xs : List V} {ds : List PyData} : H a = some (.tup xs) → ImAll K H xs ds → Im K H (.ref a) (.tuple ds)
inductive ImAll (K : PySem.W.Frag) (H : Hp) : List V → List PyData → Prop
  | nil : ImAll K H [] []
  | cons {v : V} {vs : List V} {d : PyData} {ds : List PyData} : Im K H v d → ImAll K H vs ds → ImAll K H (v :: vs) (d :: ds)
end
section
variable {K : PySem.W.Frag} {H H' : Hp}
mutual
theorem Im.mono {S : List Addr} (f : Fr S H H') : ∀ (d : PyData) (v : V), Im K H v d → Im K H' v d
  | .none, _, h => by cases h; exact .non
  | .bool b, _, h => by cases h; exact .bl b
  | .int i, _, h => by cases h; exact .int i
  | .str x, _, h => by cases h; exact .str x
  | .list ds, _, h => by
    cases h with
    | lst e a => exact .lst (f _ _ e (Or.inr trivial)) (ImAll.mono f ds _ a)
  | .tuple ds, _, h => by
    cases h with
    | tup e a => exact .tup (f _ _ e (Or.inr trivial)) (ImAll.mono f ds _ a)
  | .dict _, _, h => by cases h
theorem ImAll.mono {S : List Addr} (f : Fr S H H') : ∀ (ds : List PyData) (vs : List V), ImAll K H vs ds → ImAll K H' vs ds
  | [], _, h => by cases h; exact .nil
  | d :: ds, _, h => by
    cases h with
    | cons a b => exact .cons (Im.mono f d _ a) (ImAll.mono f ds _ b)
end
mutual
theorem Im.dp : ∀ (d : PyData) (v : V), Im K H v d → Dp K H v d
  | .none, _, h => by cases h; exact .non
  | .bool b, _, h => by cases h; exact .bl b
  | .int i, _, h => by cases h; exact .int i
  | .str x, _, h => by cases h; exact .str x
  | .list ds, _, h => by
    cases h with
    | lst e a => exact .lst (Or.inl (Or.inr ⟨_, e⟩)) (ImAll.dp ds _ a)
  | .tuple ds, _, h => by
    cases h with
    | tup e a => exact .tup (Or.inl (Or.inl e)) (ImAll.dp ds _ a)
  | .dict _, _, h => by cases h
theorem ImAll.dp : ∀ (ds : List PyData) (vs : List V), ImAll K H vs ds → DpAll K H vs ds
  | [], _, h => by cases h; exact .nil
  | d :: ds, _, h => by
    cases h with
    | cons a b => exact .cons (Im.dp d _ a) (ImAll.dp ds _ b)
end
theorem ImAll.len : ∀ {vs : List V} {ds : List PyData}, ImAll K H vs ds → vs.length = ds.length
  | _, _, .nil => rfl
  | _, _, .cons _ b => congrArg (· + 1) b.len
theorem ImAll.get : ∀ {vs : List V} {ds : List PyData} {i : Nat} {v : V}, ImAll K H vs ds → vs[i]? = some v → ∃ d, ds[i]? = some d ∧ Im K H v d
  | _, _, _, _, .nil, e => by simp at e
  | _, _, 0, v, .cons a _, e => by simp at e; subst e; exact ⟨_, rfl, a⟩
  | _, _, i + 1, v, .cons _ b, e => by
    obtain ⟨d, h1, h2⟩ := ImAll.get (i := i) (v := v) b (by simpa using e)
    exact ⟨d, by simpa using h1, h2⟩
theorem ImAll.getD : ∀ {vs : List V} {ds : List PyData} {i : Nat} {d : PyData}, ImAll K H vs ds → ds[i]? = some d → ∃ v, vs[i]? = some v ∧ Im K H v d
  | _, _, _, _, .nil, e => by simp at e
  | _, _, 0, d, .cons a _, e => by simp at e; subst e; exact ⟨_, rfl, a⟩
  | _, _, i + 1, d, .cons _ b, e => by
    obtain ⟨v, h1, h2⟩ := ImAll.getD (i := i) (d := d) b (by simpa using e)
    exact ⟨v, by simpa using h1, h2⟩
theorem ImAll.append : ∀ {vs us : List V} {ds es : List PyData}, ImAll K H vs ds → ImAll K H us es → ImAll K H (vs ++ us) (ds ++ es)
  | _, _, _, _, .nil, h => h
  | _, _, _, _, .cons a b, h => .cons a (b.append h)
theorem ImAll.one {v : V} {d : PyData} (h : Im K H v d) : ImAll K H [v] [d] := .cons h .nil
theorem ImAll.snoc {vs : List V} {ds : List PyData} {v : V} {d : PyData} (h : ImAll K H vs ds) (a : Im K H v d) : ImAll K H (vs ++ [v]) (ds ++ [d]) := h.append (.one a)
theorem ImAll.erase : ∀ {vs : List V} {ds : List PyData} (i : Nat), ImAll K H vs ds → ImAll K H (vs.eraseIdx i) (ds.eraseIdx i)
  | _, _, _, .nil => by simp; exact .nil
  | _, _, 0, .cons a b => b
  | _, _, i + 1, .cons a b => .cons a (b.erase i)
theorem ImAll.drop : ∀ {vs : List V} {ds : List PyData} (i : Nat), ImAll K H vs ds → ImAll K H (vs.drop i) (ds.drop i)
  | _, _, 0, h => h
  | _, _, i + 1, .nil => .nil
  | _, _, i + 1, .cons a b => by simpa using b.drop i
theorem ImAll.take : ∀ {vs : List V} {ds : List PyData} (i : Nat), ImAll K H vs ds → ImAll K H (vs.take i) (ds.take i)
  | _, _, 0, _ => .nil
  | _, _, i + 1, .nil => .nil
  | _, _, i + 1, .cons a b => by simpa using ImAll.cons a (b.take i)
theorem ImAll.set : ∀ {vs : List V} {ds : List PyData} {v : V} {d : PyData} (i : Nat), ImAll K H vs ds → Im K H v d → ImAll K H (vs.set i v) (ds.set i d)
  | _, _, _, _, _, .nil, _ => .nil
  | _, _, _, _, 0, .cons _ b, h => .cons h b
  | _, _, _, _, i + 1, .cons a b, h => .cons a (b.set i h)
theorem im_int {v : V} {i : Int} (h : Im K H v (.int i)) : v = .int i := by cases h; rfl
theorem im_str {v : V} {i : Str} (h : Im K H v (.str i)) : v = .str i := by cases h; rfl
theorem im_bl {v : V} {i : Bool} (h : Im K H v (.bool i)) : v = .bl i := by cases h; rfl
theorem im_non {v : V} (h : Im K H v .none) : v = .non := by cases h; rfl
theorem im_tup {v : V} {ds : List PyData} (h : Im K H v (.tuple ds)) : ∃ a xs, v = .ref a ∧ H a = some (.tup xs) ∧ ImAll K H xs ds := by
  cases h with
  | tup e a => exact ⟨_, _, rfl, e, a⟩
theorem im_lst {v : V} {ds : List PyData} (h : Im K H v (.list ds)) : ∃ a o xs, v = .ref a ∧ H a = some (.frz o (.lst xs)) ∧ ImAll K H xs ds := by
  cases h with
  | lst e a => exact ⟨_, _, _, rfl, e, a⟩
theorem all_ints : ∀ {ns : List Int} {vs : List V}, ImAll K H vs (ns.map PyData.int) → vs = ns.map V.int
  | [], _, h => by cases h; rfl
  | n :: ns, _, h => by
    cases h with
    | cons a b => rw [im_int a, all_ints b]; rfl
theorem ints_all : ∀ {ns : List Int}, ImAll K H (ns.map V.int) (ns.map PyData.int)
  | [] => .nil
  | n :: ns => .cons (.int n) ints_all
theorem all_nil {vs : List V} (h : ImAll K H vs []) : vs = [] := by cases h; rfl
theorem all_cons {vs : List V} {d : PyData} {ds : List PyData} (h : ImAll K H vs (d :: ds)) : ∃ v r, vs = v :: r ∧ Im K H v d ∧ ImAll K H r ds := by
  cases h with
  | cons a b => exact ⟨_, _, rfl, a, b⟩
/-- a list at a (to be changed, locked or written) that holds such data; one that may be changed -/
def LS (K : PySem.W.Frag) (H : Hp) (a : Addr) (ds : List PyData) : Prop := ∃ vs, H a = some (.lst vs) ∧ ImAll K H vs ds
theorem LS.mono {S : List Addr} {a : Addr} {ds : List PyData} (h : LS K H a ds) (f : Fr S H H') (n : a ∉ S) : LS K H' a ds := by
  obtain ⟨vs, e, i⟩ := h
  exact ⟨vs, f.get e n, i.mono f⟩
end
end Z

set_option maxRecDepth 100000
set_option maxHeartbeats 2000000
/-! Z1: steps of readings -/
namespace Z
open PySem L2
section
variable {K : PySem.W.Frag} {D : Ends} {σ : St} {H : Hp} {ta tb tc te tv to ti tr2 : TE} {t u : TS} {tt tu : TT} {v x y z : V} {Q : VK} {QB : Bool → Hp → Prop} {i : Nat} {a p C dx : Addr} {f : Str} {g : TG}

/-! ### statements -/
theorem x_seq (h : t { D with nx := u D } σ H) : tSeq t u D σ H := h
theorem x_next (h : D.nx σ H) : tNext D σ H := h
theorem x_brk (h : D.bk σ H) : tBreak D σ H := h
theorem x_cont (h : D.ct σ H) : tCont D σ H := h
theorem x_asgN (h : te σ H fun v H1 => D.nx (σ.set i (some v)) H1) : tAsg te (gName i) D σ H := h
theorem x_asg (h : te σ H fun x H1 => g x σ H1 D.nx) : tAsg te g D σ H := h
theorem x_drop (h : te σ H fun _ H1 => D.nx σ H1) : tDrop te D σ H := h
theorem x_ret (h : te σ H D.rt) : tRet te D σ H := h
theorem x_retN (h : D.rt .non H) : tRetN D σ H := h
theorem x_if (h : tt σ H fun b H1 => if b = true then t D σ H1 else u D σ H1) : tIfS tt t u D σ H := h
theorem ifT {A B : Prop} (h : A) : if true = true then A else B := by rw [if_pos rfl]; exact h
theorem ifF {A B : Prop} (h : B) : if false = true then A else B := by rw [if_neg Bool.false_ne_true]; exact h
theorem ifB {b : Bool} {A B : Prop} (h1 : b = true → A) (h2 : b = false → B) : if b = true then A else B := by
  cases b with
  | true => exact ifT (h1 rfl)
  | false => exact ifF (h2 rfl)
theorem ifD {p : Prop} [Decidable p] {A B : Prop} (h1 : p → A) (h2 : ¬ p → B) : if decide p = true then A else B :=
  ifB (fun e => h1 (of_decide_eq_true e)) fun e => h2 (of_decide_eq_false e)
theorem ifN {p : Prop} [Decidable p] {A B : Prop} (h1 : ¬ p → A) (h2 : p → B) : if (!decide p) = true then A else B := by
  by_cases h : p
  · rw [decide_eq_true h]; exact ifF (h2 h)
  · rw [decide_eq_false h]; exact ifT (h1 h)
theorem x_gname {P : St → Hp → Prop} (h : P (σ.set i (some v)) H) : gName i v σ H P := h
theorem x_gtup {P : St → Hp → Prop} {n : Nat} {xs : List V} {gs : TGs} (e : H a = some (.tup xs)) (l : xs.length = n) (h : gs xs σ H P) : gTup K n gs (.ref a) σ H P := ⟨a, xs, rfl, .inl (.inl e), l, h⟩
theorem x_gcons {P : St → Hp → Prop} {gs : TGs} {vs : List V} (h : g v σ H fun σ' H' => gs vs σ' H' P) : gCons g gs (v :: vs) σ H P := ⟨v, vs, rfl, h⟩
theorem x_gnil {P : St → Hp → Prop} (h : P σ H) : gNil [] σ H P := ⟨rfl, h⟩
theorem x_gsub {P : St → Hp → Prop} {ts : TSet} (h : to σ H fun o H1 => ti σ H1 fun i H2 => ts o i v H2 fun H3 => P σ H3) : gSub to ti ts v σ H P := h
theorem x_setL {xs : List V} {k : Int} {j : Nat} {P : Hp → Prop} (e : H a = some (.lst xs)) (hk : ixN xs.length k = some j) (h : P (upd H a (.lst (xs.set j v)))) : rSetL (.ref a) (.int k) v H P := ⟨a, xs, k, j, rfl, rfl, e, hk, h⟩
theorem ixN_nat {n j : Nat} (h : j < n) : ixN n (j : Int) = some j := by
  unfold ixN
  rw [if_pos (by omega), if_pos (by omega)]
  simp
theorem ixN_int {n : Nat} {k : Int} (h0 : 0 ≤ k) (h : k < n) : ixN n k = some k.toNat := by
  unfold ixN
  rw [if_pos h0, if_pos h]
theorem ixN_neg {n : Nat} {k : Int} (h0 : k < 0) (h : -(n : Int) ≤ k) : ixN n k = some (k + n).toNat := by
  unfold ixN
  rw [if_neg (by omega), if_pos h]
theorem at_int {α : Type} {xs : List α} {k : Int} {x : α} (h0 : 0 ≤ k) (h : xs[k.toNat]? = some x) : atI xs k = some x := by
  have hl := (List.getElem?_eq_some_iff.mp h).1
  unfold atI
  rw [ixN_int h0 (by omega)]
  exact h
theorem at_neg {α : Type} {xs : List α} {k : Int} {x : α} (h0 : k < 0) (h1 : -(xs.length : Int) ≤ k) (h : xs[(k + xs.length).toNat]? = some x) : atI xs k = some x := by
  unfold atI
  rw [ixN_neg h0 h1]
  exact h
/-- what a store d[y] = v asks -/
def putQ (x y v : V) (H : Hp) (P : Hp → Prop) : Prop := ∃ a H4, x = .ref a ∧ DPut H a y v H4 ∧ P H4
theorem x_dput {td ty : TE} (h : tv σ H fun v H1 => td σ H1 fun x H2 => ty σ H2 fun y H3 => putQ x y v H3 fun H4 => D.nx σ H4) : sDPut td ty tv D σ H := h
theorem putI {P : Hp → Prop} {kvs : List (Key × V)} {k : Int} (e : H a = some (.dK kvs)) (l : kvs.length < sizeLine) (h : P (upd H a (.dK (putK kvs (Sum.inl k) v)))) : putQ (.ref a) (.int k) v H P := ⟨a, _, rfl, DPut.k (k := Sum.inl k) e l, h⟩
theorem putS {P : Hp → Prop} {kvs : List (Key × V)} {k : Str} (e : H a = some (.dK kvs)) (l : kvs.length < sizeLine) (h : P (upd H a (.dK (putK kvs (Sum.inr k) v)))) : putQ (.ref a) (.str k) v H P := ⟨a, _, rfl, DPut.k (k := Sum.inr k) e l, h⟩
theorem putT {P : Hp → Prop} {kvs : List (List Key × V)} {k : List Key} (e : H a = some (.dT kvs)) (eb : H p = some (.tup (k.map kV))) (l : kvs.length < sizeLine) (h : P (upd H a (.dT (putK kvs k v)))) : putQ (.ref a) (.ref p) v H P := ⟨a, _, rfl, DPut.t e eb l, h⟩
/-- what a store o.f = v asks -/
def fputQ (K : PySem.W.Frag) (f : Str) (y x : V) (H : Hp) (P : Hp → Prop) : Prop := ∃ a C dx fs, x = .ref a ∧ H a = some (.ins C dx fs) ∧ Cls K C ∧ NoAttr K C f ∧ fs.length < 1000 ∧ P (upd H a (.ins C dx (putF f y fs)))
theorem x_sfld (h : tv σ H fun y H1 => ta σ H1 fun x H2 => fputQ K f y x H2 fun H3 => D.nx σ H3) : sFld K ta tv f D σ H := h
theorem fput {P : Hp → Prop} {fs : List (Str × V)} (e : H a = some (.ins C dx fs)) (c : Cls K C) (n : NoAttr K C f) (l : fs.length < 1000) (h : P (upd H a (.ins C dx (putF f y fs)))) : fputQ K f y (.ref a) H P := ⟨a, C, dx, fs, rfl, e, c, n, l, h⟩

/-! ### expressions -/
theorem x_var (h : σ[i]? = some (some v)) (q : Q v H) : tVar i σ H Q := ⟨v, h, q⟩
theorem x_c (q : Q v H) : tC v σ H Q := q
theorem x_op {r : R2} (h : ta σ H fun x H1 => tb σ H1 fun y H2 => r x y H2 Q) : tOp r ta tb σ H Q := h
theorem x_un {r : V → Hp → VK → Prop} (h : ta σ H fun x H1 => r x H1 Q) : tUn r ta σ H Q := h
def blQ (x : V) (H : Hp) (Q : Bool → Hp → Prop) : Prop := ∃ k, x = .bl k ∧ Q k H
theorem x_test (h : te σ H fun x H' => blQ x H' QB) : tTest te σ H QB := h
theorem x_tB (h : te σ H fun x H' => blQ x H' QB) : tB te σ H QB := h
theorem x_bl {b : Bool} (h : QB b H) : blQ (.bl b) H QB := ⟨b, rfl, h⟩
theorem x_and (h : tt σ H fun c H1 => if c = true then tu σ H1 QB else QB false H1) : tAnd tt tu σ H QB := h
theorem x_or (h : tt σ H fun c H1 => if c = true then QB true H1 else tu σ H1 QB) : tOr tt tu σ H QB := h
theorem x_not (h : tt σ H fun c H1 => QB (!c) H1) : tNot tt σ H QB := h
theorem x_andV (h : ta σ H fun x H1 => blQ x H1 fun c H2 => if c = true then tb σ H2 Q else Q (.bl false) H2) : tAndV ta tb σ H Q := h
theorem x_orV (h : ta σ H fun x H1 => blQ x H1 fun c H2 => if c = true then Q (.bl true) H2 else tb σ H2 Q) : tOrV ta tb σ H Q := h
theorem x_notV (h : ta σ H fun x H1 => blQ x H1 fun c H2 => Q (.bl (!c)) H2) : tNotV ta σ H Q := h
theorem x_ifE (h : tt σ H fun c H1 => if c = true then ta σ H1 Q else tb σ H1 Q) : tIf tt ta tb σ H Q := h
theorem x_tnil {QL : List V → Hp → Prop} (h : QL [] H) : tNil σ H QL := h
theorem x_tcons {QL : List V → Hp → Prop} {tr : TA} (h : te σ H fun x H1 => tr σ H1 fun xs H2 => QL (x :: xs) H2) : tCons te tr σ H QL := h
def tupQ (xs : List V) (H : Hp) (Q : VK) : Prop := xs.length ≤ sizeLine ∧ ∀ p, H p = none → Q (.ref p) (upd H p (.tup xs))
def lstQ (xs : List V) (H : Hp) (Q : VK) : Prop := xs.length ≤ sizeLine ∧ ∀ p, H p = none → Q (.ref p) (upd H p (.lst xs))
theorem x_tup {tr : TA} (h : tr σ H fun xs H1 => tupQ xs H1 Q) : tTup tr σ H Q := h
theorem x_lst {tr : TA} (h : tr σ H fun xs H1 => lstQ xs H1 Q) : tLst tr σ H Q := h
theorem tupN {xs : List V} (l : xs.length ≤ 1000) (h : ∀ p, H p = none → Q (.ref p) (upd H p (.tup xs))) : tupQ xs H Q := ⟨Nat.le_trans l (by decide), h⟩
theorem lstN {xs : List V} (l : xs.length ≤ 1000) (h : ∀ p, H p = none → Q (.ref p) (upd H p (.lst xs))) : lstQ xs H Q := ⟨Nat.le_trans l (by decide), h⟩
/-- a new tuple of data -/
theorem tupI {xs : List V} {ds : List PyData} (l : xs.length ≤ 1000) (hi : ImAll K H xs ds) (h : ∀ v H', Fr [] H H' → Im K H' v (.tuple ds) → Q v H') : tupQ xs H Q :=
  tupN l fun p hp => h _ _ (Fr.new hp) (.tup upd_same (hi.mono (Fr.new (S := []) hp)))
def fldQ (K : PySem.W.Frag) (f : Str) (x : V) (H : Hp) (Q : VK) : Prop := ∃ a C dx fs v, x = .ref a ∧ H a = some (.ins C dx fs) ∧ Cls K C ∧ NoAttr K C f ∧ fs.lookup f = some v ∧ Q v H
theorem x_fld (h : ta σ H fun x H1 => fldQ K f x H1 Q) : tFld K ta f σ H Q := h
theorem fldA {fs : List (Str × V)} (e : H a = some (.ins C dx fs)) (c : Cls K C) (n : NoAttr K C f) (l : fs.lookup f = some v) (q : Q v H) : fldQ K f (.ref a) H Q := ⟨a, C, dx, fs, v, rfl, e, c, n, l, q⟩
theorem x_call {sp : Sp} {E : XK} {tr : TA} (h : tr σ H fun vs H1 => sp vs H1 Q E) : tCall sp [] E tr σ H Q := by
  unfold tCall
  simp only [List.append_nil]
  exact h
def methQ (C : Addr) (m : Str) (x : V) (H : Hp) (P : Prop) : Prop := ∃ a dx fs, x = .ref a ∧ H a = some (.ins C dx fs) ∧ fs.lookup m = none ∧ P
theorem x_meth {m : Str} {sp : Sp} {E : XK} {tr : TA} (h : ta σ H fun x H1 => methQ C m x H1 (tr σ H1 fun vs H2 => sp (x :: vs) H2 Q E)) : tMeth C m sp [] E ta tr σ H Q := by
  unfold tMeth
  simp only [List.append_nil]
  exact h
theorem methA {m : Str} {fs : List (Str × V)} {P : Prop} (e : H a = some (.ins C dx fs)) (n : fs.lookup m = none) (h : P) : methQ C m (.ref a) H P := ⟨a, dx, fs, rfl, e, n, h⟩
theorem x_make {sp : Sp} {E : XK} {tr : TA} (h : tr σ H fun vs H1 => ∀ x dx, H1 x = none → H1 dx = none → dx ≠ x → sp (.ref x :: vs) (upd (upd H1 dx (.own x)) x (.ins C dx [])) (fun v H2 => v = .non ∧ Q (.ref x) H2) E) : tMake C sp [] E tr σ H Q := by
  unfold tMake
  simp only [List.append_nil]
  exact h
theorem x_cb {r : List V → Hp → VK → Prop} {tr : TA} (h : tr σ H fun vs H1 => r vs H1 Q) : tCB r tr σ H Q := h
def bmQ (K : PySem.W.Frag) (T : String) (x : V) (H : Hp) (P : Prop) : Prop := tyV K T x H ∧ P
theorem x_bm {T : String} {r : V → List V → Hp → VK → Prop} {tr : TA} (h : to σ H fun x H1 => bmQ K T x H1 (tr σ H1 fun xs H2 => r x xs H2 Q)) : tBM K T r to tr σ H Q := h
theorem x_bm0 {T : String} {r : V → List V → Hp → VK → Prop} (h : to σ H fun x H1 => bmQ K T x H1 (r x [] H1 Q)) : tBM0 K T r to σ H Q := h
theorem bmL {P : Prop} {xs : List V} (e : H a = some (.lst xs)) (h : P) : bmQ K "list" (.ref a) H P := ⟨.inl ⟨rfl, _, SqL.of e⟩, h⟩
theorem bmS {P : Prop} {s : Str} (h : P) : bmQ K "str" (.str s) H P := ⟨rfl, h⟩
/-! ### by values -/
theorem x_i0 {G : Int → Int → V} {m n : Int} (q : Q (G m n) H) : rI0 G (.int m) (.int n) H Q := ⟨m, n, rfl, rfl, q⟩
theorem x_i1 {P : Int → Int → Prop} {G : Int → Int → V} {m n : Int} (c : P m n) (q : Q (G m n) H) : rI P G (.int m) (.int n) H Q := ⟨m, n, rfl, rfl, c, q⟩
theorem x_u {G : Int → V} {m : Int} (q : Q (G m) H) : rU G (.int m) H Q := ⟨m, rfl, q⟩
theorem eqI {m n : Int} (q : Q (.bl (decide (m = n))) H) : rEq (.int m) (.int n) H Q := ⟨rfl, by
  have e : decide (V.int m = V.int n) = decide (m = n) := by
    by_cases h : m = n
    · subst h; simp
    · rw [decide_eq_false h]; exact decide_eq_false fun z => h (V.int.inj z)
  rw [e]; exact q⟩
theorem neI {m n : Int} (q : Q (.bl (!decide (m = n))) H) : rNe (.int m) (.int n) H Q := ⟨rfl, by
  have e : decide (V.int m = V.int n) = decide (m = n) := by
    by_cases h : m = n
    · subst h; simp
    · rw [decide_eq_false h]; exact decide_eq_false fun z => h (V.int.inj z)
  rw [e]; exact q⟩
theorem eqS {m n : Str} (q : Q (.bl (decide (m = n))) H) : rEq (.str m) (.str n) H Q := ⟨rfl, by
  have e : decide (V.str m = V.str n) = decide (m = n) := by
    by_cases h : m = n
    · subst h; simp
    · rw [decide_eq_false h]; exact decide_eq_false fun z => h (V.str.inj z)
  rw [e]; exact q⟩
theorem neS {m n : Str} (q : Q (.bl (!decide (m = n))) H) : rNe (.str m) (.str n) H Q := ⟨rfl, by
  have e : decide (V.str m = V.str n) = decide (m = n) := by
    by_cases h : m = n
    · subst h; simp
    · rw [decide_eq_false h]; exact decide_eq_false fun z => h (V.str.inj z)
  rw [e]; exact q⟩
theorem eqB {m n : Bool} (q : Q (.bl (decide (m = n))) H) : rEq (.bl m) (.bl n) H Q := ⟨rfl, by
  have e : decide (V.bl m = V.bl n) = decide (m = n) := by
    by_cases h : m = n
    · subst h; simp
    · rw [decide_eq_false h]; exact decide_eq_false fun z => h (V.bl.inj z)
  rw [e]; exact q⟩
theorem neB {m n : Bool} (q : Q (.bl (!decide (m = n))) H) : rNe (.bl m) (.bl n) H Q := ⟨rfl, by
  have e : decide (V.bl m = V.bl n) = decide (m = n) := by
    by_cases h : m = n
    · subst h; simp
    · rw [decide_eq_false h]; exact decide_eq_false fun z => h (V.bl.inj z)
  rw [e]; exact q⟩
theorem ixL {xs : List V} {k : Int} (e : SqL K H a xs) (hk : atI xs k = some v) (q : Q v H) : rIxL K (.ref a) (.int k) H Q := ⟨a, xs, k, v, rfl, rfl, e, hk, q⟩
theorem ixT {xs : List V} {k : Int} (e : SqT K H a xs) (hk : atI xs k = some v) (q : Q v H) : rIxT K (.ref a) (.int k) H Q := ⟨a, xs, k, v, rfl, rfl, e, hk, q⟩
/-- an item of a list that may be changed -/
theorem ixM {xs : List V} {k : Int} (e : H a = some (.lst xs)) (hk : atI xs k = some v) (q : Q v H) : rIx K (.ref a) (.int k) H Q := .inl (ixL (SqL.of e) hk q)
theorem ixLL {xs : List V} {k : Int} (e : SqL K H a xs) (hk : atI xs k = some v) (q : Q v H) : rIx K (.ref a) (.int k) H Q := .inl (ixL e hk q)
theorem ixTT {xs : List V} {k : Int} (e : H a = some (.tup xs)) (hk : atI xs k = some v) (q : Q v H) : rIx K (.ref a) (.int k) H Q := .inr (.inl (ixT (SqT.of e) hk q))
/-- an item of data -/
theorem ixD {ds : List PyData} {k : Int} {d : PyData} (e : Im K H x (.tuple ds) ∨ Im K H x (.list ds)) (hk : atI ds k = some d) (q : ∀ v, Im K H v d → Q v H) : rIx K x (.int k) H Q := by
  have key : ∀ {xs : List V}, ImAll K H xs ds → ∃ v, atI xs k = some v ∧ Im K H v d := fun {xs} hi => by
    unfold atI at hk ⊢
    rw [hi.len]
    cases e : ixN ds.length k with
    | none => rw [e] at hk; cases hk
    | some j => rw [e] at hk; exact hi.getD hk
  rcases e with e | e
  · obtain ⟨a, xs, rfl, e, hi⟩ := im_tup e
    obtain ⟨v, h1, h2⟩ := key hi
    exact ixTT e h1 (q v h2)
  · obtain ⟨a, o, xs, rfl, e, hi⟩ := im_lst e
    obtain ⟨v, h1, h2⟩ := key hi
    exact ixLL (.inl (.inr ⟨o, e⟩)) h1 (q v h2)
/-- a test that is a value's truth -/
def truQ (K : PySem.W.Frag) (x : V) (H : Hp) (Q : Bool → Hp → Prop) : Prop := ∃ k, TruV K x H k ∧ Q k H
def tTruth (K : PySem.W.Frag) (ta : TE) : TT := fun σ H Q => ta σ H fun x H' => truQ K x H' Q
theorem pt_tr {X : Cx} {a : Expr} {ta : TE} (ha : PE X a ta) (he : ∀ whole, isTrue a X.env whole = (do let v ← whole; standAt a.pos; holding [v] (truthy v)) := by intro _; rfl) : PT X a (tTruth X.K ta) := pt_truth ha he
theorem x_truth (h : ta σ H fun x H' => truQ K x H' QB) : tTruth K ta σ H QB := h
theorem truB {b : Bool} (q : QB b H) : truQ K (.bl b) H QB := ⟨b, rfl, q⟩
theorem truI {n : Int} (q : QB (n != 0) H) : truQ K (.int n) H QB := ⟨_, rfl, q⟩
theorem truN (q : QB false H) : truQ K .non H QB := ⟨_, rfl, q⟩
theorem truL {xs : List V} (e : SqL K H a xs) (q : QB (!xs.isEmpty) H) : truQ K (.ref a) H QB := ⟨_, .inl ⟨xs, e, rfl⟩, q⟩
theorem truM {xs : List V} (e : H a = some (.lst xs)) (q : QB (!xs.isEmpty) H) : truQ K (.ref a) H QB := ⟨_, .inl ⟨xs, SqL.of e, rfl⟩, q⟩
theorem truT {xs : List V} (e : H a = some (.tup xs)) (q : QB (!xs.isEmpty) H) : truQ K (.ref a) H QB := ⟨_, .inr (.inl ⟨xs, SqT.of e, rfl⟩), q⟩
/-! ### dicts -/
def getQ (x y : V) (H : Hp) (Q : VK) : Prop := ∃ a v, x = .ref a ∧ DGet H a y (some v) ∧ Q v H
def inQ (x y : V) (H : Hp) (Q : Bool → Hp → Prop) : Prop := ∃ a o, x = .ref a ∧ DGet H a y o ∧ Q o.isSome H
theorem x_dget {td ty : TE} (h : td σ H fun x H1 => ty σ H1 fun y H2 => getQ x y H2 Q) : tDGet td ty σ H Q := h
theorem x_din {td ty : TE} (h : ty σ H fun y H1 => td σ H1 fun x H2 => inQ x y H2 fun b H3 => Q (.bl b) H3) : tDIn ty td σ H Q := h
theorem x_dnin {td ty : TE} (h : ty σ H fun y H1 => td σ H1 fun x H2 => inQ x y H2 fun b H3 => Q (.bl (!b)) H3) : tDNotIn ty td σ H Q := h
theorem getI {kvs : List (Key × V)} {k : Int} (e : Rd H a (.dK kvs)) (g : valV kvs (Sum.inl k) = some v) (q : Q v H) : getQ (.ref a) (.int k) H Q := ⟨a, v, rfl, .inl ⟨kvs, Sum.inl k, e, rfl, g.symm⟩, q⟩
theorem getS {kvs : List (Key × V)} {k : Str} (e : Rd H a (.dK kvs)) (g : valV kvs (Sum.inr k) = some v) (q : Q v H) : getQ (.ref a) (.str k) H Q := ⟨a, v, rfl, .inl ⟨kvs, Sum.inr k, e, rfl, g.symm⟩, q⟩
theorem getT {kvs : List (List Key × V)} {k : List Key} (e : Rd H a (.dT kvs)) (eb : H p = some (.tup (k.map kV))) (g : valV kvs k = some v) (q : Q v H) : getQ (.ref a) (.ref p) H Q := ⟨a, v, rfl, .inr ⟨kvs, k, p, e, rfl, eb, g.symm⟩, q⟩
theorem inI {kvs : List (Key × V)} {k : Int} (e : Rd H a (.dK kvs)) (q : QB (valV kvs (Sum.inl k)).isSome H) : inQ (.ref a) (.int k) H QB := ⟨a, _, rfl, .inl ⟨kvs, Sum.inl k, e, rfl, rfl⟩, q⟩
theorem inS {kvs : List (Key × V)} {k : Str} (e : Rd H a (.dK kvs)) (q : QB (valV kvs (Sum.inr k)).isSome H) : inQ (.ref a) (.str k) H QB := ⟨a, _, rfl, .inl ⟨kvs, Sum.inr k, e, rfl, rfl⟩, q⟩
theorem inT {kvs : List (List Key × V)} {k : List Key} (e : Rd H a (.dT kvs)) (eb : H p = some (.tup (k.map kV))) (q : QB (valV kvs k).isSome H) : inQ (.ref a) (.ref p) H QB := ⟨a, _, rfl, .inr ⟨kvs, k, p, e, rfl, eb, rfl⟩, q⟩
theorem x_newK (h : ∀ p, H p = none → Q (.ref p) (upd H p (.dK []))) : tDNewK σ H Q := h
theorem x_newT (h : ∀ p, H p = none → Q (.ref p) (upd H p (.dT []))) : tDNewT σ H Q := h
/-! ### loops -/
def loopQ (J : It) (g : TG) (tb : TS) (D : Ends) (σ : St) (H : Hp) : Prop := ∃ W : Nat → Nat → St → Hp → Prop, (∃ m, W 0 m σ H) ∧ ∀ i m σ H, W i m σ H →
  (J.stop i H ∧ D.nx σ H) ∨ (J.go i H ∧ ∃ N : St → Hp → Prop, (∀ σ' H', N σ' H' → ∃ m', m' < m ∧ W (i + 1) m' σ' H') ∧ ∀ x H', J.yld i H x H' → g x σ H' fun σ2 H2 => tb { D with nx := N, ct := N, bk := D.nx } σ2 H2)
def forQ (K : PySem.W.Frag) (g : TG) (tb : TS) (D : Ends) (σ : St) (x : V) (H : Hp) : Prop := ∃ a, x = .ref a ∧ (∃ xs, SqL K H a xs) ∧ loopQ (Itl K a) g tb D σ H
variable {tb' : TS}
theorem x_for {wi : TI} (h : wi σ H fun J H1 => loopQ J g tb' D σ H1) : tFor wi g tb' D σ H := h
theorem x_forL (h : te σ H fun x H1 => forQ K g tb' D σ x H1) : tFor (iList K te) g tb' D σ H := h
/-- over a list that stands still -/
theorem forL {xs : List V} (e : SqL K H a xs) (Pv : Nat → St → Hp → Prop) (h0 : Pv 0 σ H) (hl : ∀ i σ' H', i ≤ xs.length → Pv i σ' H' → SqL K H' a xs)
    (hs : ∀ i x σ' H', xs[i]? = some x → Pv i σ' H' → g x σ' H' fun σ2 H2 => tb' { D with nx := Pv (i + 1), ct := Pv (i + 1), bk := D.nx } σ2 H2) (hd : ∀ σ' H', Pv xs.length σ' H' → D.nx σ' H') : forQ K g tb' D σ (.ref a) H :=
  ⟨a, rfl, ⟨xs, e⟩, for_list Pv h0 hl hs hd⟩
/-- over a locked list of data -/
theorem forI {ds : List PyData} {S : List Addr} (e : Im K H x (.list ds)) (Pv : Nat → St → Hp → Prop) (h0 : Pv 0 σ H) (hf : ∀ i σ' H', Pv i σ' H' → Fr S H H')
    (hs : ∀ i d x σ' H', ds[i]? = some d → Im K H' x d → Pv i σ' H' → g x σ' H' fun σ2 H2 => tb' { D with nx := Pv (i + 1), ct := Pv (i + 1), bk := D.nx } σ2 H2) (hd : ∀ σ' H', Pv ds.length σ' H' → D.nx σ' H') : forQ K g tb' D σ x H := by
  obtain ⟨a, o, xs, rfl, e, hi⟩ := im_lst e
  refine forL (.inl (.inr ⟨o, e⟩)) Pv h0 (fun i σ' H' _ p => .inl (.inr ⟨o, hf _ _ _ p _ _ e (.inr trivial)⟩)) (fun i y σ' H' hy p => ?_) fun σ' H' p => hd σ' H' (by rw [← hi.len]; exact p)
  obtain ⟨d, h1, h2⟩ := hi.get hy
  exact hs i d y σ' H' h1 (h2.mono (hf _ _ _ p)) p
/-- over a list of data that may be changed, but is not -/
theorem forM {ds : List PyData} {S : List Addr} (e : LS K H a ds) (na : a ∉ S) (Pv : Nat → St → Hp → Prop) (h0 : Pv 0 σ H) (hf : ∀ i σ' H', Pv i σ' H' → Fr S H H')
    (hs : ∀ i d x σ' H', ds[i]? = some d → Im K H' x d → Pv i σ' H' → g x σ' H' fun σ2 H2 => tb' { D with nx := Pv (i + 1), ct := Pv (i + 1), bk := D.nx } σ2 H2) (hd : ∀ σ' H', Pv ds.length σ' H' → D.nx σ' H') : forQ K g tb' D σ (.ref a) H := by
  obtain ⟨xs, e, hi⟩ := e
  refine forL (SqL.of e) Pv h0 (fun i σ' H' _ p => SqL.of ((hf _ _ _ p).get e na)) (fun i y σ' H' hy p => ?_) fun σ' H' p => hd σ' H' (by rw [← hi.len]; exact p)
  obtain ⟨d, h1, h2⟩ := hi.get hy
  exact hs i d y σ' H' h1 (h2.mono (hf _ _ _ p)) p
def rngQ1 (g : TG) (tb : TS) (D : Ends) (σ : St) (vs : List V) (H : Hp) : Prop := ∃ j : Int, vs = [.int j] ∧ -(2 ^ 62) ≤ j ∧ j < 2 ^ 62 ∧ loopQ (Itr 0 j.toNat) g tb D σ H
def rngQ2 (g : TG) (tb : TS) (D : Ends) (σ : St) (vs : List V) (H : Hp) : Prop := ∃ i j : Int, vs = [.int i, .int j] ∧ (-(2 ^ 62) ≤ i ∧ i < 2 ^ 62 ∧ -(2 ^ 62) ≤ j ∧ j < 2 ^ 62) ∧ loopQ (Itr i (j - i).toNat) g tb D σ H
theorem x_rng1 {tr : TA} (h : tr σ H fun vs H1 => rngQ1 g tb' D σ vs H1) : tFor (iRng1 tr) g tb' D σ H := h
theorem x_rng2 {tr : TA} (h : tr σ H fun vs H1 => rngQ2 g tb' D σ vs H1) : tFor (iRng2 tr) g tb' D σ H := h
theorem forR1 {j : Int} (n : Nat) (e : j = n) (hn : n ≤ 1000000000) (Pv : Nat → St → Hp → Prop) (h0 : Pv 0 σ H)
    (hs : ∀ i σ' H', i < n → Pv i σ' H' → g (.int (i : Int)) σ' H' fun σ2 H2 => tb' { D with nx := Pv (i + 1), ct := Pv (i + 1), bk := D.nx } σ2 H2) (hd : ∀ σ' H', Pv n σ' H' → D.nx σ' H') : rngQ1 g tb' D σ [.int j] H := by
  refine ⟨j, rfl, by omega, by omega, ?_⟩
  have e1 : j.toNat = n := by omega
  rw [e1]
  refine for_range Pv h0 (fun i σ' H' hi p => ?_) hd
  have e2 : (0 : Int) + (i : Int) = i := Int.zero_add _
  rw [e2]
  exact hs i σ' H' hi p
theorem forR2 {lo j : Int} (n : Nat) (e : (j - lo).toNat = n) (hb : -(2 ^ 62) ≤ lo ∧ lo < 2 ^ 62 ∧ -(2 ^ 62) ≤ j ∧ j < 2 ^ 62) (Pv : Nat → St → Hp → Prop) (h0 : Pv 0 σ H)
    (hs : ∀ i σ' H', i < n → Pv i σ' H' → g (.int (lo + i)) σ' H' fun σ2 H2 => tb' { D with nx := Pv (i + 1), ct := Pv (i + 1), bk := D.nx } σ2 H2) (hd : ∀ σ' H', Pv n σ' H' → D.nx σ' H') : rngQ2 g tb' D σ [.int lo, .int j] H := by
  refine ⟨lo, j, rfl, hb, ?_⟩
  rw [e]
  exact for_range Pv h0 hs hd
/-- while: the word W with its measure m -/
theorem x_while (W : Nat → St → Hp → Prop) (m : Nat) (w0 : W m σ H)
    (hs : ∀ m σ' H', W m σ' H' → tt σ' H' fun b H1 => if b = true then ∃ N : St → Hp → Prop, (∀ σ2 H2, N σ2 H2 → ∃ m', m' < m ∧ W m' σ2 H2) ∧ tb' { D with nx := N, ct := N, bk := D.nx } σ' H1 else D.nx σ' H1) : tWhile tt tb' D σ H := ⟨W, ⟨m, w0⟩, hs⟩
theorem whN {W : Nat → St → Hp → Prop} {m : Nat} (h : tb' { D with nx := fun σ2 H2 => ∃ m', m' < m ∧ W m' σ2 H2, ct := fun σ2 H2 => ∃ m', m' < m ∧ W m' σ2 H2, bk := D.nx } σ H) :
    ∃ N : St → Hp → Prop, (∀ σ2 H2, N σ2 H2 → ∃ m', m' < m ∧ W m' σ2 H2) ∧ tb' { D with nx := N, ct := N, bk := D.nx } σ H := ⟨_, fun _ _ q => q, h⟩
/-! ### a word between a statement and the rest -/
def tCut (t u : TS) : TS := fun D σ H => ∃ Mid : St → Hp → Prop, t { D with nx := Mid } σ H ∧ ∀ σ' H', Mid σ' H' → u D σ' H'
theorem x_cut (Mid : St → Hp → Prop) (h : t { D with nx := Mid } σ H) (k : ∀ σ' H', Mid σ' H' → u D σ' H') : tCut t u D σ H := ⟨Mid, h, k⟩
theorem pss_cut {X : Cx} {st : Stmt} {rest : List Stmt} (h1 : PS X st t) (h2 : PSs X rest u) : PSs X (st :: rest) (tCut t u) := by
  refine ⟨fun pins s σ H D I h => ?_⟩
  obtain ⟨Mid, hm, hu⟩ := h
  refine wpAny_execs_cons (thn (h1.run pins s σ H { D with nx := Mid } I hm) fun f s1 q => ?_)
  cases f with
  | next =>
    obtain ⟨σ', H', I', q⟩ := q
    exact h2.run pins s1 σ' H' D I' (hu σ' H' q)
  | ret v => exact q
  | brk => exact q
  | cont => exact q
/-- from here on the list (dict) at a is locked for good -/
def tFrz (u : TS) : TS := fun D σ H => ∃ a o, H a = some o ∧ Mut (some o) ∧ ∀ od, u D σ (upd H a (.frz od o))
theorem pss_frz {X : Cx} {sts : List Stmt} (h : PSs X sts u) : PSs X sts (tFrz u) := by
  refine ⟨fun pins s σ H D I hw => ?_⟩
  obtain ⟨a, o, ha, mu, hw⟩ := hw
  obtain ⟨od, I1⟩ := I.lock ha mu
  exact h.run pins s σ _ D I1 (hw od)
theorem x_frz {o : HO} (e : H a = some o) (m : Mut (some o)) (h : ∀ od, u D σ (upd H a (.frz od o))) : tFrz u D σ H := ⟨a, o, e, m, h⟩
end
end Z

set_option maxRecDepth 100000
set_option maxHeartbeats 2000000
/-! Z2: defs by their promises; built-ins by name -/
namespace Z
open PySem L2
section
variable {P : Program} {w : World} {K : PySem.W.Frag} {mg : Str → Option Value} {base : Heap} {CX : CXT} {x m : Str} {ps : List Str} {k j : Nat} {sp : Sp} {C : Addr} {E : XK}
/-- a def of the module that keeps its promise -/
def Has (P : Program) (w : World) (K : PySem.W.Frag) (mg : Str → Option Value) (base : Heap) (CX : CXT) (x : Str) (ps : List Str) (k : Nat) (sp : Sp) : Prop :=
  ∃ f fd, FnOk P w K mg base CX k f fd ps sp ∧ mg x = some (.ref f) ∧ PySem.W.keepIn K (.ref f) = true ∧ Binds K fd ps []
/-- a method -/
def HasM (P : Program) (w : World) (K : PySem.W.Frag) (mg : Str → Option Value) (base : Heap) (CX : CXT) (C : Addr) (m : Str) (ps : List Str) (k : Nat) (sp : Sp) : Prop :=
  ∃ f fd, FnOk P w K mg base CX k f fd ps sp ∧ Meth K C m f ∧ Binds K fd ps []
/-- a class, by its __init__ -/
def HasI (P : Program) (w : World) (K : PySem.W.Frag) (mg : Str → Option Value) (base : Heap) (CX : CXT) (C : Addr) (x : Str) (ps : List Str) (k : Nat) (sp : Sp) : Prop :=
  ∃ f fd, FnOk P w K mg base CX k f fd ps sp ∧ Mk K C f ∧ mg x = some (.ref C) ∧ Binds K fd ps []
/-- a def as the top leaves it -/
structure Df (K : PySem.W.Frag) (mg : Str → Option Value) (x : Str) (st : Stmt) (ps : List Str) (f : Addr) (fd : FuncData) : Prop where
  F : Fun K x x st f fd
  m : mg x = some (.ref f)
  b : Binds K fd ps []
structure DfM (K : PySem.W.Frag) (C : Addr) (q x : Str) (st : Stmt) (ps : List Str) (f : Addr) (fd : FuncData) : Prop where
  F : Fun K x q st f fd
  m : Meth K C x f
  b : Binds K fd ps []
structure DfI (K : PySem.W.Frag) (mg : Str → Option Value) (C : Addr) (c q : Str) (st : Stmt) (ps : List Str) (f : Addr) (fd : FuncData) : Prop where
  F : Fun K "__init__" q st f fd
  m : Mk K C f
  g : mg c = some (.ref C)
  b : Binds K fd ps []
theorem Df.has {st : Stmt} {f : Addr} {fd : FuncData} (D : Df K mg x st ps f fd) (F : FnOk P w K mg base CX k f fd ps sp) : Has P w K mg base CX x ps k sp := ⟨f, fd, F, D.m, D.F.kp, D.b⟩
theorem DfM.has {q : Str} {st : Stmt} {f : Addr} {fd : FuncData} (D : DfM K C q x st ps f fd) (F : FnOk P w K mg base CX k f fd ps sp) : HasM P w K mg base CX C x ps k sp := ⟨f, fd, F, D.m, D.b⟩
theorem DfI.has {q c : Str} {st : Stmt} {f : Addr} {fd : FuncData} (D : DfI K mg C c q st ps f fd) (F : FnOk P w K mg base CX k f fd ps sp) : HasI P w K mg base CX C c ps k sp := ⟨f, fd, F, D.m, D.g, D.b⟩
end
section
variable {X : Cx} {CX : CXT} {x m : Str} {ps : List Str} {k j : Nat} {sp : Sp} {C : Addr} {E : XK} {p pos apos : Pos} {e o : Expr} {es : List Expr} {ta : TE} {t : TA}
theorem pe_callH (h : Has X.prog X.w X.K X.mg X.base CX x ps k sp) (hr : Room j X.A) (hj : k ≤ j) (hx : Passes CX X E) (ha : PA X (e :: es) t) (hg : Gl X x := by rfl) (hdb : (x == ("__debug__" : Str)) = false := by decide)
    (he : starEach (e :: es) X.env = (false, eval e X.env) :: starEach es X.env := by rfl) (hpl : (backTo pos (starEach es X.env)).any (·.1) = false := by rfl) : PE X (.Call (.Name x p) (e :: es) [] pos) (tCall sp [] E t) := by
  obtain ⟨f, fd, F, hm, hk, hb⟩ := h
  exact pe_call F (hr.mono hj) hg hm hk hb .nil hx ha hdb he hpl
theorem pe_callH0 (h : Has X.prog X.w X.K X.mg X.base CX x ps k sp) (hr : Room j X.A) (hj : k ≤ j) (hx : Passes CX X E) (hg : Gl X x := by rfl) (hdb : (x == ("__debug__" : Str)) = false := by decide) : PE X (.Call (.Name x p) [] [] pos) (tCall sp [] E tNil) := by
  obtain ⟨f, fd, F, hm, hk, hb⟩ := h
  exact pe_call0 F (hr.mono hj) hg hm hk hb .nil hx hdb
theorem pe_methH {pl : Sem Bool} (he : PE X o ta) (c : Cls X.K C) (h : HasM X.prog X.w X.K X.mg X.base CX C m ps k sp) (hr : Room j X.A) (hj : k ≤ j) (hx : Passes CX X E) (ha : PA X (e :: es) t)
    (hst : starEach (e :: es) X.env = (false, eval e X.env) :: starEach es X.env := by rfl) (hpl : (backTo pos (starEach es X.env)).any (·.1) = false := by rfl)
    (ht : eval (.Call (.Attribute o m apos) (e :: es) [] pos) X.env = (do
      let ov ← eval o X.env
      standAt apos.atName
      let (f, first) ← holding [ov] (getMethod ov m pl)
      callWith pos f first (backTo pos (starEach (e :: es) X.env)) (backToKw pos (keywordEach [] X.env))) := by rfl) : PE X (.Call (.Attribute o m apos) (e :: es) [] pos) (tMeth C m sp [] E ta t) := by
  obtain ⟨f, fd, F, hm, hb⟩ := h
  exact pe_meth he c hm F (hr.mono hj) hb .nil hx ha hst hpl ht
theorem pe_methH0 {pl : Sem Bool} (he : PE X o ta) (c : Cls X.K C) (h : HasM X.prog X.w X.K X.mg X.base CX C m ps k sp) (hr : Room j X.A) (hj : k ≤ j) (hx : Passes CX X E)
    (ht : eval (.Call (.Attribute o m apos) [] [] pos) X.env = (do
      let ov ← eval o X.env
      standAt apos.atName
      let (f, first) ← holding [ov] (getMethod ov m pl)
      callWith pos f first (backTo pos (starEach [] X.env)) (backToKw pos (keywordEach [] X.env))) := by rfl) : PE X (.Call (.Attribute o m apos) [] [] pos) (tMeth C m sp [] E ta tNil) := by
  obtain ⟨f, fd, F, hm, hb⟩ := h
  exact pe_meth0 he c hm F (hr.mono hj) hb .nil hx ht
theorem pe_makeH (h : HasI X.prog X.w X.K X.mg X.base CX C x ps k sp) (hr : Room j X.A) (hj : k + 1 ≤ j) (hx : Passes CX X E) (ha : PA X (e :: es) t) (hg : Gl X x := by rfl) (hdb : (x == ("__debug__" : Str)) = false := by decide)
    (he : starEach (e :: es) X.env = (false, eval e X.env) :: starEach es X.env := by rfl) (hpl : (backTo pos (starEach es X.env)).any (·.1) = false := by rfl) : PE X (.Call (.Name x p) (e :: es) [] pos) (tMake C sp [] E t) := by
  obtain ⟨f, fd, F, hm, hg', hb⟩ := h
  exact pe_make hm F (hr.mono hj) hg hg' hb .nil hx ha hdb he hpl
theorem pe_makeH0 (h : HasI X.prog X.w X.K X.mg X.base CX C x ps k sp) (hr : Room j X.A) (hj : k + 1 ≤ j) (hx : Passes CX X E) (hg : Gl X x := by rfl) (hdb : (x == ("__debug__" : Str)) = false := by decide) : PE X (.Call (.Name x p) [] [] pos) (tMake C sp [] E tNil) := by
  obtain ⟨f, fd, F, hm, hg', hb⟩ := h
  exact pe_make0 hm F (hr.mono hj) hg hg' hb .nil hx hdb
/-! ### constants of the module -/
theorem pe_gInt {i : Int} (h : ∃ t, X.mg x = some (.int i t)) (hg : Gl X x := by rfl) (hd : (x == ("__debug__" : Str)) = false := by decide) : PE X (.Name x pos) (tC (.int i)) := by
  obtain ⟨t, h⟩ := h
  exact pe_glob hg h ⟨_, rfl⟩ hd
theorem pe_gStr {i : Str} (h : ∃ t, X.mg x = some (.str i t)) (hg : Gl X x := by rfl) (hd : (x == ("__debug__" : Str)) = false := by decide) : PE X (.Name x pos) (tC (.str i)) := by
  obtain ⟨t, h⟩ := h
  exact pe_glob hg h ⟨_, rfl⟩ hd
/-! ### operators and built-ins by name -/
def rIsN1 : R2 := fun x y H Q => y = .non ∧ Q (.bl (decide (x = .non))) H
def rNotN1 : R2 := fun x y H Q => y = .non ∧ Q (.bl (!decide (x = .non))) H
theorem op_isN1 : OpR X (compareOp .Is) rIsN1 := op_isN
theorem op_notN1 : OpR X (compareOp .IsNot) rNotN1 := op_notN
def rAddS : R2 := fun x y H Q => ∃ i j, x = .str i ∧ y = .str j ∧ i.length + j.length ≤ sizeLine ∧ Q (.str (i ++ j)) H
theorem opAddS : OpR X (binaryOp .Add) rAddS := op_add_str
def rAbs1 : List V → Hp → VK → Prop := fun xs H Q => ∃ i, xs = [.int i] ∧ Q (.int (if i < 0 then -i else i)) H
theorem cAbs : CallR X (.builtin "abs") rAbs1 := call_abs
def rMax2 : List V → Hp → VK → Prop := fun xs H Q => ∃ i j, xs = [.int i, .int j] ∧ Q (.int (if j > i then j else i)) H
theorem cMax2 (hc : X.calm = true) : CallR X (.builtin "max") rMax2 := call_max2 hc
def rMin2 : List V → Hp → VK → Prop := fun xs H Q => ∃ i j, xs = [.int i, .int j] ∧ Q (.int (if j < i then j else i)) H
theorem cMin2 (hc : X.calm = true) : CallR X (.builtin "min") rMin2 := call_min2 hc
def rInt1 : List V → Hp → VK → Prop := fun xs H Q => (∃ i, xs = [.int i] ∧ Q (.int i) H) ∨ ∃ k, xs = [.bl k] ∧ Q (.int (if k then 1 else 0)) H
theorem cInt1 : CallR X (.type "int") rInt1 := call_int1
def rLenA (K : PySem.W.Frag) : List V → Hp → VK → Prop := fun xs H Q => ∃ x n, xs = [x] ∧ LenV K x H n ∧ Q (.int n) H
theorem cLen : CallR X (.builtin "len") (rLenA X.K) := call_len
def rLenD1 : List V → Hp → VK → Prop := fun xs H Q => ∃ a kvs, xs = [V.ref a] ∧ H a = some (.dK kvs) ∧ Q (.int kvs.length) H
theorem cLenD : CallR X (.builtin "len") rLenD1 := call_lenD
def rDictD1 : List V → Hp → VK → Prop := fun xs H Q => ∃ (a : Addr) (kvs : List (Key × V)), xs = [.ref a] ∧ Rd H a (.dK kvs) ∧ ∀ p, H p = none → Q (.ref p) (upd H p (.dK kvs))
theorem cDictD : CallR X (.type "dict") rDictD1 := call_dictD
def rListOf (K : PySem.W.Frag) : List V → Hp → VK → Prop := fun xs H Q => ∃ p ys, xs = [.ref p] ∧ (SqL K H p ys ∨ SqT K H p ys) ∧ ∀ l, H l = none → Q (.ref l) (upd H l (.lst ys))
theorem cListOf : CallR X (.type "list") (rListOf X.K) := call_list_of
def rTupleOf (K : PySem.W.Frag) : List V → Hp → VK → Prop := fun xs H Q => ∃ p ys, xs = [.ref p] ∧ ((SqL K H p ys ∧ ∀ l, H l = none → Q (.ref l) (upd H l (.tup ys))) ∨ (SqT K H p ys ∧ Q (.ref p) H))
theorem cTupleOf : CallR X (.type "tuple") (rTupleOf X.K) := call_tuple_of
end
section
variable {K : PySem.W.Frag} {H : Hp} {Q : VK} {a p : Addr} {v y : V}
theorem s_isN (q : Q (.bl (decide (v = .non))) H) : rIsN1 v .non H Q := ⟨rfl, q⟩
theorem s_notN (q : Q (.bl (!decide (v = .non))) H) : rNotN1 v .non H Q := ⟨rfl, q⟩
theorem s_addS {i j : Str} (l : i.length + j.length ≤ sizeLine) (q : Q (.str (i ++ j)) H) : rAddS (.str i) (.str j) H Q := ⟨i, j, rfl, rfl, l, q⟩
theorem s_abs {i : Int} (q : Q (.int (if i < 0 then -i else i)) H) : rAbs1 [.int i] H Q := ⟨i, rfl, q⟩
theorem s_max {i j : Int} (q : Q (.int (max i j)) H) : rMax2 [.int i, .int j] H Q := ⟨i, j, rfl, by
  have e : (if j > i then j else i) = max i j := by split <;> omega
  rw [e]; exact q⟩
theorem s_min {i j : Int} (q : Q (.int (min i j)) H) : rMin2 [.int i, .int j] H Q := ⟨i, j, rfl, by
  have e : (if j < i then j else i) = min i j := by split <;> omega
  rw [e]; exact q⟩
theorem s_int {i : Int} (q : Q (.int i) H) : rInt1 [.int i] H Q := .inl ⟨i, rfl, q⟩
theorem s_intB {k : Bool} (q : Q (.int (if k then 1 else 0)) H) : rInt1 [.bl k] H Q := .inr ⟨k, rfl, q⟩
theorem s_lenM {xs : List V} (e : H a = some (.lst xs)) (q : Q (.int xs.length) H) : rLenA K [.ref a] H Q := ⟨_, _, rfl, .inl ⟨xs, SqL.of e, rfl⟩, q⟩
theorem s_lenL {xs : List V} (e : SqL K H a xs) (q : Q (.int xs.length) H) : rLenA K [.ref a] H Q := ⟨_, _, rfl, .inl ⟨xs, e, rfl⟩, q⟩
theorem s_lenT {xs : List V} (e : H a = some (.tup xs)) (q : Q (.int xs.length) H) : rLenA K [.ref a] H Q := ⟨_, _, rfl, .inr ⟨xs, SqT.of e, rfl⟩, q⟩
theorem s_lenI {ds : List PyData} (e : Im K H v (.list ds) ∨ Im K H v (.tuple ds)) (q : Q (.int ds.length) H) : rLenA K [v] H Q := by
  rcases e with e | e
  · obtain ⟨a, o, xs, rfl, e, hi⟩ := im_lst e
    refine s_lenL (.inl (.inr ⟨o, e⟩)) ?_
    rw [hi.len]; exact q
  · obtain ⟨a, xs, rfl, e, hi⟩ := im_tup e
    refine s_lenT e ?_
    rw [hi.len]; exact q
theorem s_lenD {kvs : List (Key × V)} (e : H a = some (.dK kvs)) (q : Q (.int kvs.length) H) : rLenD1 [.ref a] H Q := ⟨a, kvs, rfl, e, q⟩
theorem s_append {xs : List V} (e : H a = some (.lst xs)) (l : xs.length < 16777216) (q : Q .non (upd H a (.lst (xs ++ [y])))) : rAppend (.ref a) [y] H Q := ⟨a, xs, y, rfl, rfl, e, by rw [sizeLine_eq]; exact l, q⟩
theorem s_pop {xs : List V} (e : H a = some (.lst (xs ++ [y]))) (q : Q y (upd H a (.lst xs))) : rPop (.ref a) [] H Q := ⟨a, xs ++ [y], y, rfl, rfl, e, by simp, by simpa using q⟩
theorem s_popAt {xs : List V} {i : Int} {n : Nat} (e : H a = some (.lst xs)) (hi : i = n) (hy : xs[n]? = some y) (l : xs.length < 1000000000) (q : Q y (upd H a (.lst (xs.eraseIdx n)))) : rPopAt (.ref a) [.int i] H Q := by
  have hl := (List.getElem?_eq_some_iff.mp hy).1
  refine ⟨a, xs, i, n, y, rfl, rfl, e, by omega, by omega, ?_, hy, q⟩
  unfold seqIndex?
  subst hi
  simp
  omega
end
end Z
namespace Z
open PySem L2
/-! ### the script: a list that nobody changes -/
def SqF (K : PySem.W.Frag) (H : Hp) (a : Addr) (xs : List V) : Prop := (∃ o, H a = some (.frz o (.lst xs))) ∨ SqL K (fun _ => none) a xs
theorem SqF.l {K : PySem.W.Frag} {H : Hp} {a : Addr} {xs : List V} (h : SqF K H a xs) : SqL K H a xs := by
  rcases h with ⟨o, h⟩ | h
  · exact .inl (.inr ⟨o, h⟩)
  · rcases h with (h | ⟨_, h⟩) | h
    · cases h
    · cases h
    · exact .inr h
theorem SqF.mono {K : PySem.W.Frag} {H H' : Hp} {a : Addr} {xs : List V} {S : List Addr} (h : SqF K H a xs) (f : Fr S H H') : SqF K H' a xs := by
  rcases h with ⟨o, h⟩ | h
  · exact .inl ⟨o, f _ _ h (.inr trivial)⟩
  · exact .inr h
theorem SqF.only {K : PySem.W.Frag} {H : Hp} {a : Addr} {xs : List V} (h : SqL K H a xs) (o : Only H) : SqF K H a xs := by
  rcases h with (h | ⟨u, h⟩) | h
  · rcases o a with e | ⟨_, _, e⟩
    · rw [h] at e; cases e
    · rw [h] at e; cases e
  · exact .inl ⟨u, h⟩
  · exact .inr (.inr h)
theorem map_at {ns : List Int} {i : Nat} {y : V} (h : (ns.map V.int)[i]? = some y) : ∃ n, ns[i]? = some n ∧ y = .int n := by
  rw [List.getElem?_map] at h
  cases e : ns[i]? with
  | none => rw [e] at h; cases h
  | some n => rw [e] at h; exact ⟨n, rfl, (Option.some.inj h).symm⟩
theorem un1 {H : Hp} {p q : Addr} {o : HO} (h : upd H q o p = none) : H p = none := by
  unfold upd at h
  split at h
  · cases h
  · exact h
theorem not_fixed_lst {xs : List V} : ¬ Fixed (.lst xs) := fun z => z
theorem not_fixed_dK {xs : List (Key × V)} : ¬ Fixed (.dK xs) := fun z => z
theorem not_fixed_dT {xs : List (List Key × V)} : ¬ Fixed (.dT xs) := fun z => z
theorem not_fixed_ins {C dx : Addr} {fs : List (Str × V)} : ¬ Fixed (.ins C dx fs) := fun z => z
def MutAt (H : Hp) (p : Addr) : Prop := ∃ u, H p = some u ∧ ¬ Fixed u
theorem Fr.mS {S : List Addr} {H H' : Hp} {p : Addr} {o : HO} (hp : p ∈ S) (h : MutAt H' p) (e : Fr S H H') : Fr S H (upd H' p o) := by
  obtain ⟨u, h, m⟩ := h
  exact e.mutS h m hp
theorem Fr.mN {S : List Addr} {H H' : Hp} {p : Addr} {o : HO} (h : H p = none) (e : Fr S H H') : Fr S H (upd H' p o) := e.mut h
theorem Fr.transR {S : List Addr} {H H1 H2 : Hp} (b : Fr S H1 H2) (a : Fr S H H1) : Fr S H H2 := a.trans b
theorem Fr.transW {S T : List Addr} {H H1 H2 : Hp} (b : Fr T H1 H2) (h : ∀ x, x ∈ T → x ∈ S) (a : Fr S H H1) : Fr S H H2 := a.trans (b.weak h)
/-- == of data -/
theorem eqDI {K : PySem.W.Frag} {H : Hp} {x y : V} {d e : PyData} {Q : VK} (hx : Im K H x d) (hy : Im K H y e) (sx : SeqAt.shaped d = true) (sy : SeqAt.shaped e = true) (q : Q (.bl (PyData.eqv d e)) H) : rEqD K x y H Q := ⟨d, e, hx.dp, hy.dp, sx, sy, q⟩
theorem neDI {K : PySem.W.Frag} {H : Hp} {x y : V} {d e : PyData} {Q : VK} (hx : Im K H x d) (hy : Im K H y e) (sx : SeqAt.shaped d = true) (sy : SeqAt.shaped e = true) (q : Q (.bl (!PyData.eqv d e)) H) : rNeD K x y H Q := ⟨d, e, hx.dp, hy.dp, sx, sy, q⟩
theorem ls_at {K : PySem.W.Frag} {H : Hp} {a : Addr} {ds : List PyData} {i : Nat} {d : PyData} (h : LS K H a ds) (e : ds[i]? = some d) : ∃ vs v, H a = some (.lst vs) ∧ vs[i]? = some v ∧ Im K H v d := by
  obtain ⟨vs, h1, h2⟩ := h
  obtain ⟨v, h3, h4⟩ := h2.getD e
  exact ⟨vs, v, h1, h3, h4⟩
/-- an item of a list of data that may be changed -/
theorem ixS {K : PySem.W.Frag} {H : Hp} {a : Addr} {ds : List PyData} {k : Int} {d : PyData} {Q : VK} (h : LS K H a ds) (h0 : 0 ≤ k) (e : ds[k.toNat]? = some d) (q : ∀ v, Im K H v d → Q v H) : rIx K (.ref a) (.int k) H Q := by
  obtain ⟨vs, v, h1, h2, h3⟩ := ls_at h e
  exact ixM h1 (at_int h0 h2) (q v h3)
theorem s_lenS {K : PySem.W.Frag} {H : Hp} {a : Addr} {ds : List PyData} {Q : VK} (h : LS K H a ds) (q : Q (.int ds.length) H) : rLenA K [.ref a] H Q := by
  obtain ⟨vs, h1, h2⟩ := h
  refine s_lenM h1 ?_
  rw [h2.len]; exact q
/-- an item appended to a list of data -/
theorem s_appendS {K : PySem.W.Frag} {H : Hp} {a : Addr} {ds : List PyData} {y : V} {d : PyData} {Q : VK} (h : LS K H a ds) (hy : Im K H y d) (l : ds.length < 16777216) (q : ∀ H', Fr [a] H H' → LS K H' a (ds ++ [d]) → Q .non H') : rAppend (.ref a) [y] H Q := by
  obtain ⟨vs, h1, h2⟩ := h
  have f : Fr [a] H (upd H a (.lst (vs ++ [y]))) := Fr.wr h1 not_fixed_lst (by simp)
  exact s_append h1 (by rw [h2.len]; exact l) (q _ f ⟨_, upd_same, (h2.mono f).snoc (hy.mono f)⟩)
end Z

set_option maxRecDepth 100000
set_option maxHeartbeats 4000000
/-! R0: rows of gates, as plain data -/
namespace R
open PySem L2 Z
inductive Row where
  | no
  | letter (l : Int)
  | both (a b : Nat)
deriving DecidableEq, Repr
def keyD : Key → PyData
  | .inl i => .int i
  | .inr s => .str s
def rowKey : Row → List Key
  | .no => [.inr "no"]
  | .letter l => [.inr "letter", .inl l]
  | .both a b => [.inr "both", .inl (a : Int), .inl (b : Int)]
def rowD (r : Row) : PyData := .tuple ((rowKey r).map keyD)
theorem s_lb : ¬ (("letter" : Str) = "both") := by decide +kernel
theorem s_ln : ¬ (("letter" : Str) = "no") := by decide +kernel
theorem s_bn : ¬ (("both" : Str) = "no") := by decide +kernel
theorem rowKey_inj {r q : Row} (h : rowKey r = rowKey q) : r = q := by
  cases r <;> cases q <;> simp [rowKey] at h
  · rfl
  · exact congrArg _ h
  · obtain ⟨h1, h2⟩ := h
    have e1 : _ := Int.ofNat.inj h1
    have e2 : _ := Int.ofNat.inj h2
    rw [e1, e2]
/-- a key's tuple, and data -/
theorem im_key {K : PySem.W.Frag} {H : Hp} : ∀ {ks : List Key} {vs : List V}, ImAll K H vs (ks.map keyD) → vs = ks.map kV
  | [], _, h => all_nil h
  | k :: ks, _, h => by
    obtain ⟨v, r, rfl, h1, h2⟩ := all_cons h
    rw [im_key h2]
    cases k with
    | inl i => rw [im_int h1]; rfl
    | inr s => rw [im_str h1]; rfl
theorem key_im {K : PySem.W.Frag} {H : Hp} : ∀ {ks : List Key}, ImAll K H (ks.map kV) (ks.map keyD)
  | [] => .nil
  | .inl i :: ks => .cons (.int i) key_im
  | .inr s :: ks => .cons (.str s) key_im
theorem row_at {K : PySem.W.Frag} {H : Hp} {v : V} {r : Row} (h : Im K H v (rowD r)) : ∃ p, v = .ref p ∧ H p = some (.tup ((rowKey r).map kV)) := by
  obtain ⟨p, xs, rfl, e, hi⟩ := im_tup h
  rw [im_key hi] at e
  exact ⟨p, rfl, e⟩
theorem at_row {K : PySem.W.Frag} {H : Hp} {p : Addr} {r : Row} (h : H p = some (.tup ((rowKey r).map kV))) : Im K H (.ref p) (rowD r) := .tup h key_im
theorem eqv_row (r q : Row) : PyData.eqv (rowD r) (rowD q) = decide (r = q) := by
  have lb : ¬ (Str.ofString "letter" = Str.ofString "both") := s_lb
  have ln : ¬ (Str.ofString "letter" = Str.ofString "no") := s_ln
  have bn : ¬ (Str.ofString "both" = Str.ofString "no") := s_bn
  have bl : ¬ (Str.ofString "both" = Str.ofString "letter") := fun h => lb h.symm
  have nl : ¬ (Str.ofString "no" = Str.ofString "letter") := fun h => ln h.symm
  have nb : ¬ (Str.ofString "no" = Str.ofString "both") := fun h => bn h.symm
  have ec : ∀ a b : Nat, ((a : Int) == (b : Int)) = decide (a = b) := fun a b => by
    rw [Bool.eq_iff_iff, beq_iff_eq, decide_eq_true_eq]; omega
  cases r <;> cases q <;> simp [rowD, rowKey, keyD, PyData.eqv, PyData.eqvAll, lb, ln, bn, bl, nl, nb, ec]
  · rename_i i j
    exact rfl
theorem row_lay (r : Row) : (rowD r).canLay0 = true := by
  cases r <;> simp [rowD, rowKey, keyD, PyData.canLay0, PyData.canLayAll0] <;> decide +kernel
theorem row_dep (r : Row) : (rowD r).depth ≤ 2 := by
  cases r <;> simp [rowD, rowKey, keyD, PyData.depth, PyData.depthAll]
theorem row_shaped (r : Row) : SeqAt.shaped (rowD r) = true := by
  have := row_dep r
  simp [SeqAt.shaped, row_lay r]
  omega
/-! ### the rows as they grow -/
def addRow (rs : List Row) (r : Row) : List Row := if r ∈ rs then rs else rs ++ [r]
def edgeOf (rs : List Row) (r : Row) : Nat := 2 * rs.idxOf r
def opp (e : Nat) : Nat := if e % 2 = 0 then e + 1 else e - 1
def bothE (rs : List Row) (a b : Nat) : Nat × List Row :=
  if a = 0 ∨ b = 0 ∨ a = opp b then (0, rs) else if a = 1 then (b, rs) else if b = 1 ∨ a = b then (a, rs) else (edgeOf rs (.both (min a b) (max a b)), addRow rs (.both (min a b) (max a b)))
theorem opp_xor (e : Nat) : Builtin.bitXor (e : Int) 1 = (opp e : Nat) := by
  rw [Bits.bitXor_pp (by omega) (by omega)]
  have h : ∀ n : Nat, n ^^^ 1 = opp n := fun n => by
    unfold opp
    apply Nat.eq_of_testBit_eq
    intro i
    rw [Nat.testBit_xor]
    cases i with
    | zero =>
      rw [Nat.testBit_zero, Nat.testBit_zero, Nat.testBit_zero]
      by_cases h : n % 2 = 0
      · rw [if_pos h, h, show (n + 1) % 2 = 1 by omega]; rfl
      · rw [if_neg h, show n % 2 = 1 by omega, show (n - 1) % 2 = 0 by omega]; rfl
    | succ i =>
      have e1 : Nat.testBit 1 (i + 1) = false := by simp [Nat.testBit_succ]
      rw [e1, Bool.xor_false, Nat.testBit_succ, Nat.testBit_succ]
      have e2 : (if n % 2 = 0 then n + 1 else n - 1) / 2 = n / 2 := by split <;> omega
      rw [e2]
  rw [show ((e : Int).toNat ^^^ (1 : Int).toNat) = e ^^^ 1 from rfl, h]
theorem opp_and (e : Nat) : Builtin.bitAnd (e : Int) 1 = ((e % 2 : Nat) : Int) := by
  have := Bits.bitAnd_mask (x := (e : Int)) 1 (by omega)
  rw [show ((2 : Int) ^ 1 - 1) = 1 from rfl] at this
  rw [this]
  omega

/-! ### rows added -/
theorem mem_addRow {rs : List Row} {r q : Row} : q ∈ addRow rs r ↔ q ∈ rs ∨ q = r := by
  unfold addRow
  split
  · rename_i h
    constructor
    · exact Or.inl
    · rintro (h' | rfl)
      · exact h'
      · exact h
  · simp
theorem sub_addRow {rs : List Row} {r q : Row} (h : q ∈ rs) : q ∈ addRow rs r := mem_addRow.mpr (.inl h)
theorem self_addRow {rs : List Row} {r : Row} : r ∈ addRow rs r := mem_addRow.mpr (.inr rfl)
theorem addRow_old {rs : List Row} {r : Row} (h : r ∈ rs) : addRow rs r = rs := if_pos h
theorem addRow_new {rs : List Row} {r : Row} (h : ¬ r ∈ rs) : addRow rs r = rs ++ [r] := if_neg h
theorem idx_addRow {rs : List Row} {r q : Row} (h : q ∈ rs ∨ q = r) : (addRow rs r).idxOf q = rs.idxOf q := by
  by_cases hr : r ∈ rs
  · rw [addRow_old hr]
  · rw [addRow_new hr]
    by_cases hq : q ∈ rs
    · rw [List.idxOf_append, if_pos hq]
    · rcases h with h | rfl
      · exact absurd h hq
      · rw [List.idxOf_append, if_neg hq]
        simp [List.idxOf_eq_length hq]
theorem edge_addRow {rs : List Row} {r q : Row} (h : q ∈ rs ∨ q = r) : edgeOf (addRow rs r) q = edgeOf rs q := by unfold edgeOf; rw [idx_addRow h]
theorem len_addRow (rs : List Row) (r : Row) : (addRow rs r).length ≤ rs.length + 1 := by
  unfold addRow; split <;> simp
theorem le_addRow (rs : List Row) (r : Row) : rs.length ≤ (addRow rs r).length := by
  unfold addRow; split <;> simp
theorem nd_addRow {rs : List Row} {r : Row} (h : rs.Nodup) : (addRow rs r).Nodup := by
  unfold addRow
  split
  · exact h
  · rename_i hr
    rw [List.nodup_append]
    refine ⟨h, by simp, ?_⟩
    intro a ha b hb
    simp at hb
    subst hb
    rintro rfl
    exact hr ha
theorem hd_addRow {rs : List Row} {r : Row} (h : rs.head? = some .no) : (addRow rs r).head? = some .no := by
  unfold addRow
  split
  · exact h
  · cases rs with
    | nil => simp at h
    | cons a l => simpa using h
theorem pre_addRow (rs : List Row) (r : Row) : rs <+: addRow rs r := by
  unfold addRow
  split
  · exact List.prefix_refl _
  · exact List.prefix_append _ _
theorem lt_idx {rs : List Row} {r : Row} : rs.idxOf r < (addRow rs r).length := by
  rw [← idx_addRow (rs := rs) (r := r) (.inr rfl)]
  exact List.idxOf_lt_length_iff.mpr self_addRow
theorem at_idx {rs : List Row} {r : Row} : (addRow rs r)[rs.idxOf r]? = some r := by
  have h := lt_idx (rs := rs) (r := r)
  rw [List.getElem?_eq_getElem h]
  have e := List.getElem_idxOf (xs := addRow rs r) (x := r) (by rw [idx_addRow (.inr rfl)]; exact h)
  simp only [idx_addRow (rs := rs) (r := r) (.inr rfl)] at e
  rw [e]

/-! ### a Gates object -/
def gF (r kn : Addr) : List (Str × V) := [("rows", .ref r), ("_known", .ref kn)]
structure GatesAt (CG : Addr) (K : PySem.W.Frag) (H : Hp) (g r kn : Addr) (rs : List Row) : Prop where
  ins : ∃ dx, H g = some (.ins CG dx (gF r kn))
  rows : LS K H r (rs.map rowD)
  known : ∃ kvs, H kn = some (.dT kvs) ∧ kvs.length + 1 = rs.length ∧ ∀ q, q ≠ .no → valV kvs (rowKey q) = if q ∈ rs then some (.int (edgeOf rs q : Nat)) else none
  hd : rs.head? = some .no
  nd : rs.Nodup
theorem GatesAt.mono {CG : Addr} {K : PySem.W.Frag} {H H' : Hp} {g r kn : Addr} {rs : List Row} {S : List Addr} (G : GatesAt CG K H g r kn rs) (f : Fr S H H') (h1 : g ∉ S) (h2 : r ∉ S) (h3 : kn ∉ S) : GatesAt CG K H' g r kn rs := by
  obtain ⟨⟨dx, a⟩, b, ⟨kvs, c, d⟩, e, n⟩ := G
  exact ⟨⟨dx, f.get a h1⟩, b.mono f h2, ⟨kvs, f.get c h3, d⟩, e, n⟩
theorem GatesAt.pos {CG : Addr} {K : PySem.W.Frag} {H : Hp} {g r kn : Addr} {rs : List Row} (G : GatesAt CG K H g r kn rs) : 0 < rs.length := by
  have := G.hd
  cases rs with
  | nil => simp at this
  | cons a l => simp
theorem idx_first {rs : List Row} {q : Row} : ∀ {i : Nat}, rs[i]? = some q → (∀ j, j < i → rs[j]? ≠ some q) → rs.idxOf q = i := by
  induction rs with
  | nil => intro i h; simp at h
  | cons a l ih =>
    intro i h hn
    cases i with
    | zero =>
      simp at h
      subst h
      simp [List.idxOf_cons]
    | succ i =>
      have h0 := hn 0 (by omega)
      have ha : ¬ a = q := by simpa using h0
      rw [List.idxOf_cons]
      have e : (a == q) = false := by simpa using ha
      rw [e]
      have := ih (i := i) (by simpa using h) (fun j hj => by simpa using hn (j + 1) (by omega))
      simp [this]
end R

set_option maxRecDepth 100000
set_option maxHeartbeats 2000000
/-! Z3: sorted of a dict with any number of int keys; zip of a dict and a list -/
namespace Z
open PySem L2 PySem.Spec PyProof.Rows
section
variable {X : Cx}
def rSortedKI : List V → Hp → VK → Prop := fun xs H Q => ∃ (a : Addr) (kvs : List (Key × V)) (ks : List Int), xs = [.ref a] ∧ Rd H a (.dK kvs) ∧ kvs.map (·.1) = ks.map Sum.inl ∧
    ∀ (ys : List Int) (p : Addr), ys.Perm ks → ys.Pairwise (· ≤ ·) → H p = none → Q (.ref p) (upd H p (.lst (ys.map V.int)))
theorem cSortedKI (hcalm : X.calm = true) : CallR X (.builtin "sorted") rSortedKI := by
  intro pins s σ H xs us Q I r q0
  obtain ⟨a, kvs, ks, ex0, hd0, hks, q⟩ := q0
  subst ex0
  obtain ⟨u1, eu, rx1⟩ := vals1 r
  subst eu; cases rx1
  obtain ⟨zl, lo, vs, rel, dd⟩ := dk_rd I.hok hd0
  obtain ⟨ep, hat⟩ := dd.dictAt
  have hkk : vs.map (·.1) = ks.map Sum.inl := rel.keys.symm.trans hks
  have hvl : vs.length = ks.length := by
    simpa [List.length_map] using congrArg List.length hkk
  have hsz : vs.length ≤ sizeLine := by rw [← rel.length]; exact zl
  refine Calls.call_function_entry kind_sorted plain_sorted entry_sorted (args_sorted1 _) ?_
  unfold Builtin.«sorted»
  refine wpAny_bind (m := checkCount "sorted" 1 1 _) (wpAny_pure ?_)
  refine wpAny_bind (PySem.W.kdu_collect (A := X.A.in1)
    (PySem.W.kdl_dict (knd := mixKind X.prog X.w) (kvs := vs) (ep := ep) lo)
    (I.ok.hd hcalm) hat hsz fun h1 tk1 acc hk1 hacc => ?_)
  have hal : acc.toList.length = ks.length := by
    rw [Array.length_toList, hacc.1, hvl]
  have hS : IntsAre acc.toList ks := by
    refine ints_each hal ?_
    intro j v e
    obtain ⟨k, x, e1, e2⟩ := hacc.2 j v (by rw [← Array.getElem?_toList]; exact e)
    have e3 : (vs.map (·.1))[j]? = some k := by simp [List.getElem?_map, e1]
    rw [hkk, List.getElem?_map] at e3
    cases e4 : ks[j]? with
    | none => simp [e4] at e3
    | some y =>
      rw [e4] at e3
      cases (Option.some.inj e3)
      rcases keyIs_shape (show keyIs (Sum.inl y) v = true from e2) with ⟨i, t, ek, ev⟩ | ⟨z, t, ek, ev⟩
      · cases ek; exact ⟨_, t, rfl, ev⟩
      · cases ek
  have I1 : Inv X pins σ H { s with heap := h1, toks := tk1 } := I.kept hk1
  have hal2 : acc.toList.length ≤ sizeLine := by rw [hal, ← hvl]; exact hsz
  refine wpAny_bind (wpAny_newList ?_ hal2)
  have hoL : (h1.push (seqObj "list" acc.toList.toArray 0)).get? h1.objs.size = some (seqObj "list" acc.toList.toArray 0) :=
    Heap.get?_push_size _ rfl
  show wpAny _ _ _ _ _ { s with heap := h1.push (seqObj "list" acc.toList.toArray 0), toks := tk1 }
  refine wpAny_bind (wpAny_holding (wpAny_call_entry slot_list_sort ⟨_, hoL, rfl⟩ entry_list_sort
    (SrtO.list_sort_ord (s := { s with heap := h1.push (seqObj "list" acc.toList.toArray 0), toks := tk1 })
      SrtO.swo_int hoL hal2 (fun h2 => SrtO.ints_sortable hS h2) fun out g1 g2 => ⟨_, rfl, ?_⟩) (args_list_sort _)))
  obtain ⟨k1, k2, k3⟩ := SrtO.ints_out hS g1 g2
  obtain ⟨e', he'⟩ := sortedHeap_at (vs := acc.toList) (out := out.toArray) hoL
  have hlen : ((out.map SrtO.iv).map V.int).length ≤ sizeLine := by
    rw [List.length_map, k2.length_eq, ← hvl]; exact hsz
  have ok : ObjOk X.prog X.w (upd H h1.objs.size (.lst ((out.map SrtO.iv).map V.int)))
      (sortedHeap (h1.push (seqObj "list" acc.toList.toArray 0)) h1.objs.size acc.toList out.toArray)
      h1.objs.size (.lst ((out.map SrtO.iv).map V.int)) := ⟨hlen, out, e', vals_of_ints k1, he'⟩
  refine wpAny_pure ⟨_, rfl, .ref h1.objs.size, _, I1.laid (t' := tk1) (fun b u e => ?_) (Nat.le_refl _) ok, rfl, q _ _ k2 k3 (I1.hok.fresh (Nat.le_refl _))⟩
  have hb : b < h1.objs.size := Heap.lt_size e
  rw [sortedHeap_old (Nat.ne_of_lt hb) (by rw [size_push']; exact Nat.lt_succ_of_lt hb)]
  exact Heap.get?_push_of_some _ e
end
theorem s_sortedKI {H : Hp} {a : Addr} {Q : VK} {kvs : List (Key × V)} (ks : List Int) (e : Rd H a (.dK kvs)) (hk : kvs.map (·.1) = ks.map Sum.inl)
    (q : ∀ (ys : List Int) (p : Addr), ys.Perm ks → ys.Pairwise (· ≤ ·) → H p = none → Q (.ref p) (upd H p (.lst (ys.map V.int)))) : rSortedKI [.ref a] H Q := ⟨a, kvs, ks, rfl, e, hk, q⟩
end Z

set_option maxRecDepth 100000
set_option maxHeartbeats 2000000
/-! Z4: whatever is walked; comprehensions -/
namespace Z
open PySem L2
structure JOk (J : It) (n : Nat) (S : List Addr) (H : Hp) (Item : Nat → V → Hp → Prop) : Prop where
  go : ∀ i H', i < n → Fr S H H' → J.go i H'
  yld : ∀ i H' x H'', i < n → Fr S H H' → J.yld i H' x H'' → Fr [] H' H'' ∧ Item i x H''
  stop : ∀ H', Fr S H H' → J.stop n H'
section
variable {K : PySem.W.Frag} {S : List Addr} {H : Hp} {a d : Addr} {xs : List V}
/-- a list to be read stands through a frame -/
theorem sql_fr {H' : Hp} (e : SqL K H a xs) (n : a ∉ S) (f : Fr S H H') : SqL K H' a xs := by
  rcases e with (e | ⟨o, e⟩) | e
  · exact .inl (.inl (f.get e n))
  · exact .inl (.inr ⟨o, f.get e n⟩)
  · exact .inr e
theorem jL (e : SqL K H a xs) (n : a ∉ S) : JOk (Itl K a) xs.length S H (fun i x _ => xs[i]? = some x) where
  go := fun i H' hi f => ⟨xs, xs[i], sql_fr e n f, by simp [hi]⟩
  yld := fun i H' x H'' hi f ⟨h1, h2⟩ => by
    subst h1
    exact ⟨Fr.refl, h2 xs (sql_fr e n f)⟩
  stop := fun H' f => ⟨xs, sql_fr e n f, Nat.le_refl _⟩
theorem jT (e : H a = some (.tup xs)) : JOk (Itt K a) xs.length S H (fun i x _ => xs[i]? = some x) where
  go := fun i H' hi f => ⟨xs, xs[i], SqT.of (f _ _ e (.inr trivial)), by simp [hi]⟩
  yld := fun i H' x H'' hi f ⟨h1, h2⟩ => by
    subst h1
    exact ⟨Fr.refl, h2 xs (SqT.of (f _ _ e (.inr trivial)))⟩
  stop := fun H' f => ⟨xs, SqT.of (f _ _ e (.inr trivial)), Nat.le_refl _⟩
theorem jR (lo : Int) (n : Nat) : JOk (Itr lo n) n S H (fun i x _ => x = .int (lo + i)) where
  go := fun i H' hi f => hi
  yld := fun i H' x H'' hi f ⟨h1, h2⟩ => by
    subst h1
    exact ⟨Fr.refl, h2⟩
  stop := fun H' f => Nat.le_refl _
theorem jC (lo c : Int) (n : Nat) : JOk (Itc lo c n) n S H (fun i x _ => x = .int (lo + (i : Nat) * c)) where
  go := fun i H' hi f => hi
  yld := fun i H' x H'' hi f ⟨h1, h2⟩ => by
    subst h1
    exact ⟨Fr.refl, h2⟩
  stop := fun H' f => Nat.le_refl _
theorem jK {o : Obj} {kvs : List (Key × V)} (e : H d = some (.frz o (.dK kvs))) : JOk (Itk d o kvs) kvs.length S H (fun i x _ => ∃ k v, kvs[i]? = some (k, v) ∧ x = kV k) where
  go := fun i H' hi f => ⟨f _ _ e (.inr trivial), hi⟩
  yld := fun i H' x H'' hi f ⟨h1, h2⟩ => by
    subst h1
    exact ⟨Fr.refl, h2⟩
  stop := fun H' f => ⟨f _ _ e (.inr trivial), Nat.le_refl _⟩
/-! ### loops -/
theorem loopJ {J : It} {n : Nat} {Item : Nat → V → Hp → Prop} {g : TG} {tb : TS} {D : Ends} {σ : St} (j : JOk J n S H Item) (Pv : Nat → St → Hp → Prop) (h0 : Pv 0 σ H) (hf : ∀ i σ' H', Pv i σ' H' → Fr S H H')
    (hs : ∀ i x σ' H' H'', i < n → Item i x H'' → Fr [] H' H'' → Pv i σ' H' → g x σ' H'' fun σ2 H2 => tb { D with nx := Pv (i + 1), ct := Pv (i + 1), bk := D.nx } σ2 H2) (hd : ∀ σ' H', Pv n σ' H' → D.nx σ' H') : loopQ J g tb D σ H := by
  refine ⟨fun i m σ' H' => m = n - i ∧ i ≤ n ∧ Pv i σ' H', ⟨n, by simp, Nat.zero_le _, h0⟩, ?_⟩
  rintro i m σ' H' ⟨rfl, hi, p⟩
  by_cases hlt : i < n
  · refine .inr ⟨j.go i H' hlt (hf _ _ _ p), Pv (i + 1), fun σ2 H2 p2 => ⟨n - (i + 1), by omega, rfl, hlt, p2⟩, fun x H2 y => ?_⟩
    obtain ⟨f, it⟩ := j.yld i H' x H2 hlt (hf _ _ _ p) y
    exact hs i x σ' H' H2 hlt it f p
  · have e : i = n := by omega
    subst e
    exact .inl ⟨j.stop H' (hf _ _ _ p), hd σ' H' p⟩
/-! ### comprehensions -/
def lcQ (J : It) (g : TG) (tt : TT) (te : TE) (vs : List Nat) (σ : St) (H1 : Hp) (Q : VK) : Prop := ∀ D, H1 D = none → ∃ W : Nat → Nat → Hp → Prop, (∃ m, W 0 m (upd H1 D (.lst []))) ∧ ∀ i m H, W i m H →
  (J.stop i H ∧ Q (.ref D) H) ∨ (J.go i H ∧ ∃ Nx : Hp → Prop, (∀ H', Nx H' → ∃ m', m' < m ∧ W (i + 1) m' H') ∧ ∀ x H', J.yld i H x H' → g x (wipe σ vs) H' fun σ2 H2 => wipe σ2 vs = wipe σ vs ∧ tt σ2 H2 fun b H3 =>
    if b = true then te σ2 H3 fun y H4 => ∃ acc, H4 D = some (.lst acc) ∧ acc.length < sizeLine ∧ Nx (upd H4 D (.lst (acc ++ [y]))) else Nx H3)
theorem x_lc {wi : TI} {g : TG} {tt : TT} {te : TE} {vs : List Nat} {σ : St} {Q : VK} (h : wi σ H fun J H1 => lcQ J g tt te vs σ H1 Q) : tLc wi g tt te vs σ H Q := h
def lcLQ (K : PySem.W.Frag) (g : TG) (tt : TT) (te : TE) (vs : List Nat) (σ : St) (x : V) (H : Hp) (Q : VK) : Prop := ∃ a, x = .ref a ∧ (∃ xs, SqL K H a xs) ∧ lcQ (Itl K a) g tt te vs σ H Q
theorem x_lcL {tl : TE} {g : TG} {tt : TT} {te : TE} {vs : List Nat} {σ : St} {Q : VK} (h : tl σ H fun x H1 => lcLQ K g tt te vs σ x H1 Q) : tLc (iList K tl) g tt te vs σ H Q := h
def lcRQ1 (g : TG) (tt : TT) (te : TE) (vs : List Nat) (σ : St) (ws : List V) (H : Hp) (Q : VK) : Prop := ∃ j : Int, ws = [.int j] ∧ -(2 ^ 62) ≤ j ∧ j < 2 ^ 62 ∧ lcQ (Itr 0 j.toNat) g tt te vs σ H Q
def lcRQ2 (g : TG) (tt : TT) (te : TE) (vs : List Nat) (σ : St) (ws : List V) (H : Hp) (Q : VK) : Prop := ∃ i j : Int, ws = [.int i, .int j] ∧ (-(2 ^ 62) ≤ i ∧ i < 2 ^ 62 ∧ -(2 ^ 62) ≤ j ∧ j < 2 ^ 62) ∧ lcQ (Itr i (j - i).toNat) g tt te vs σ H Q
theorem x_lcR1 {tr : TA} {g : TG} {tt : TT} {te : TE} {vs : List Nat} {σ : St} {Q : VK} (h : tr σ H fun ws H1 => lcRQ1 g tt te vs σ ws H1 Q) : tLc (iRng1 tr) g tt te vs σ H Q := h
theorem x_lcR2 {tr : TA} {g : TG} {tt : TT} {te : TE} {vs : List Nat} {σ : St} {Q : VK} (h : tr σ H fun ws H1 => lcRQ2 g tt te vs σ ws H1 Q) : tLc (iRng2 tr) g tt te vs σ H Q := h
/-- a comprehension that makes data and changes nothing -/
theorem lcJ {J : It} {n : Nat} {Item : Nat → V → Hp → Prop} {g : TG} {tt : TT} {te : TE} {vs : List Nat} {σ : St} {Q : VK} (j : JOk J n [] H Item) (hn : n < 16777216) (F : Nat → Option PyData)
    (hs : ∀ i x H' (E : VK) (E' : Hp → Prop), i < n → Item i x H' → Fr [] H H' → (∀ y H4 d, F i = some d → Im K H4 y d → Fr [] H' H4 → E y H4) → (∀ H3, F i = none → Fr [] H' H3 → E' H3) →
      g x (wipe σ vs) H' fun σ2 H2 => wipe σ2 vs = wipe σ vs ∧ tt σ2 H2 fun b H3 => if b = true then te σ2 H3 E else E' H3)
    (hd : ∀ D H', H D = none → Fr [] H H' → LS K H' D ((List.range n).filterMap F) → Q (.ref D) H') : lcQ J g tt te vs σ H Q := by
  intro D hD
  have P0 : ∀ i, i ≤ n → ((List.range i).filterMap F).length ≤ i := fun i _ => by
    have h := List.length_filterMap_le F (List.range i)
    rw [List.length_range] at h
    exact h
  refine ⟨fun i m H' => m = n - i ∧ i ≤ n ∧ Fr [] H H' ∧ LS K H' D ((List.range i).filterMap F), ⟨n, by simp, Nat.zero_le _, Fr.new hD, [], upd_same, .nil⟩, ?_⟩
  rintro i m H' ⟨rfl, hi, f, ls⟩
  by_cases hlt : i < n
  · refine .inr ⟨j.go i H' hlt f, fun H2 => Fr [] H H2 ∧ LS K H2 D ((List.range (i + 1)).filterMap F), fun H2 p2 => ⟨n - (i + 1), by omega, rfl, hlt, p2⟩, fun x H2 y => ?_⟩
    obtain ⟨f2, it⟩ := j.yld i H' x H2 hlt f y
    have ls2 : LS K H2 D ((List.range i).filterMap F) := ls.mono f2 nin0
    refine hs i x H2 _ _ hlt it (f.trans f2) (fun y H4 dd e im f3 => ?_) fun H3 e f3 => ?_
    · obtain ⟨acc, h1, h2⟩ := ls2
      refine ⟨acc, f3.get h1 nin0, by rw [h2.len, sizeLine_eq]; have := P0 i hi; omega, ((f.trans f2).trans f3).mut hD, acc ++ [y], upd_same, ?_⟩
      rw [List.range_succ, List.filterMap_append]
      have e2 : List.filterMap F [i] = [dd] := by simp [List.filterMap_cons, e]
      rw [e2]
      have f4 : Fr [D] H4 (upd H4 D (.lst (acc ++ [y]))) := Fr.wr (f3.get h1 nin0) not_fixed_lst (by simp)
      exact ((h2.mono f3).mono f4).snoc (im.mono f4)
    · refine ⟨(f.trans f2).trans f3, ?_⟩
      rw [List.range_succ, List.filterMap_append]
      have e2 : List.filterMap F [i] = [] := by simp [List.filterMap_cons, e]
      rw [e2, List.append_nil]
      exact ls2.mono f3 nin0
  · have e : i = n := by omega
    subst e
    exact .inl ⟨j.stop H' f, hd D H' hD f ls⟩
theorem lcL {g : TG} {tt : TT} {te : TE} {vs : List Nat} {σ : St} {Q : VK} (e : SqL K H a xs) (hn : xs.length < 16777216) (F : Nat → Option PyData)
    (hs : ∀ i x H' (E : VK) (E' : Hp → Prop), xs[i]? = some x → Fr [] H H' → (∀ y H4 d, F i = some d → Im K H4 y d → Fr [] H' H4 → E y H4) → (∀ H3, F i = none → Fr [] H' H3 → E' H3) →
      g x (wipe σ vs) H' fun σ2 H2 => wipe σ2 vs = wipe σ vs ∧ tt σ2 H2 fun b H3 => if b = true then te σ2 H3 E else E' H3)
    (hd : ∀ D H', H D = none → Fr [] H H' → LS K H' D ((List.range xs.length).filterMap F) → Q (.ref D) H') : lcLQ K g tt te vs σ (.ref a) H Q :=
  ⟨a, rfl, ⟨xs, e⟩, lcJ (jL e nin0) hn F (fun i x H' E E' _ it => hs i x H' E E' it) hd⟩
/-- over a list of data -/
theorem lcS {g : TG} {tt : TT} {te : TE} {vs : List Nat} {σ : St} {Q : VK} {ds : List PyData} (e : LS K H a ds) (hn : ds.length < 16777216) (F : PyData → Option PyData)
    (hs : ∀ d x H' (E : VK) (E' : Hp → Prop), d ∈ ds → Im K H' x d → Fr [] H H' → (∀ y H4 d', F d = some d' → Im K H4 y d' → Fr [] H' H4 → E y H4) → (∀ H3, F d = none → Fr [] H' H3 → E' H3) →
      g x (wipe σ vs) H' fun σ2 H2 => wipe σ2 vs = wipe σ vs ∧ tt σ2 H2 fun b H3 => if b = true then te σ2 H3 E else E' H3)
    (hd : ∀ D H', H D = none → Fr [] H H' → LS K H' D (ds.filterMap F) → Q (.ref D) H') : lcLQ K g tt te vs σ (.ref a) H Q := by
  obtain ⟨xs, h1, h2⟩ := e
  have hl := h2.len
  refine lcL (SqL.of h1) (by omega) (fun i => (ds[i]?).bind F) (fun i x H' E E' hx f k1 k2 => ?_) fun D H' hD f ls => ?_
  · obtain ⟨dd, e1, e2⟩ := h2.get hx
    rw [e1] at k1 k2
    exact hs dd x H' E E' (List.mem_of_getElem? e1) (e2.mono f) f k1 k2
  · refine hd D H' hD f ?_
    have all : ∀ (l : List PyData), (List.range l.length).filterMap (fun i : Nat => l[i]?) = l := fun l => by
      induction l with
      | nil => rfl
      | cons a l ih =>
        rw [List.length_cons, List.range_succ_eq_map, List.filterMap_cons]
        simp only [List.getElem?_cons_zero]
        rw [List.filterMap_map]
        exact congrArg _ ih
    have e3 : (List.range xs.length).filterMap (fun i : Nat => (ds[i]?).bind F) = ds.filterMap F := by
      rw [hl]
      have e4 := List.filterMap_filterMap (f := fun i : Nat => ds[i]?) (g := F) (l := List.range ds.length)
      rw [all ds] at e4
      exact e4.symm
    rw [e3] at ls
    exact ls
end
theorem x_yes {σ : St} {H : Hp} {Q : Bool → Hp → Prop} (h : Q true H) : tYes σ H Q := h
abbrev nV (n : Nat) : V := .int (n : Int)
theorem range_get {α : Type} : ∀ (l : List α), (List.range l.length).filterMap (fun i : Nat => l[i]?) = l
  | [] => rfl
  | a :: l => by
    rw [List.length_cons, List.range_succ_eq_map, List.filterMap_cons]
    simp only [List.getElem?_cons_zero]
    rw [List.filterMap_map]
    exact congrArg _ (range_get l)
theorem range_bind {α β : Type} (l : List α) (F : α → Option β) : (List.range l.length).filterMap (fun i : Nat => (l[i]?).bind F) = l.filterMap F := by
  have e4 := List.filterMap_filterMap (f := fun i : Nat => l[i]?) (g := F) (l := List.range l.length)
  rw [range_get l] at e4
  exact e4.symm
/-- over a list whose items are told by a function -/
theorem lcA {K : PySem.W.Frag} {H : Hp} {a : Addr} {g : TG} {tt : TT} {te : TE} {vs : List Nat} {σ : St} {Q : VK} {α : Type} (xs : List α) (f : α → V) (e : SqL K H a (xs.map f)) (hn : xs.length < 16777216) (F : α → Option PyData)
    (hs : ∀ x H' (E : VK) (E' : Hp → Prop), x ∈ xs → Fr [] H H' → (∀ y H4 d', F x = some d' → Im K H4 y d' → Fr [] H' H4 → E y H4) → (∀ H3, F x = none → Fr [] H' H3 → E' H3) →
      g (f x) (wipe σ vs) H' fun σ2 H2 => wipe σ2 vs = wipe σ vs ∧ tt σ2 H2 fun b H3 => if b = true then te σ2 H3 E else E' H3)
    (hd : ∀ D H', H D = none → Fr [] H H' → LS K H' D (xs.filterMap F) → Q (.ref D) H') : lcLQ K g tt te vs σ (.ref a) H Q := by
  refine lcL e (by rw [List.length_map]; exact hn) (fun i => (xs[i]?).bind F) (fun i x H' E E' hx fr k1 k2 => ?_) fun D H' hD fr ls => ?_
  · rw [List.getElem?_map] at hx
    cases hq : xs[i]? with
    | none => rw [hq] at hx; cases hx
    | some y =>
      rw [hq] at hx k1 k2
      cases hx
      exact hs y H' E E' (List.mem_of_getElem? hq) fr k1 k2
  · rw [List.length_map, range_bind] at ls
    exact hd D H' hD fr ls
theorem ls_ints {K : PySem.W.Frag} {H : Hp} {a : Addr} {ns : List Int} (h : LS K H a (ns.map PyData.int)) : H a = some (.lst (ns.map V.int)) := by
  obtain ⟨vs, h1, h2⟩ := h
  rw [h1, all_ints h2]
theorem ints_ls {K : PySem.W.Frag} {H : Hp} {a : Addr} {ns : List Int} (h : H a = some (.lst (ns.map V.int))) : LS K H a (ns.map PyData.int) := ⟨_, h, ints_all⟩
theorem fm_map {α β : Type} (f : α → β) : ∀ (l : List α), l.filterMap (fun x => some (f x)) = l.map f
  | [] => rfl
  | a :: l => by rw [List.filterMap_cons, List.map_cons, fm_map f l]
end Z

set_option maxRecDepth 100000
set_option maxHeartbeats 2000000
/-! Z5: the rules with the written part named -/
namespace Z
open PySem L2
section
variable (K : PySem.W.Frag) {X : Cx}
theorem pe_fldK {e : Expr} {f : Str} {pos : Pos} {ta : TE} (he : PE X e ta) (hb : attributeBase e f X.env (eval e X.env) = eval e X.env) (hK : X.K = K := by rfl) : PE X (.Attribute e f pos) (tFld K ta f) := by subst hK; exact pe_fld he hb
theorem ps_fldK {o value : Expr} {f : Str} {pos pos' : Pos} {ta tv : TE} (ha : PE X o ta) (hv : PE X value tv) (hs : swapsWith value (some (.Attribute o f pos')) pos.line X.env = pure false) (hK : X.K = K := by rfl) : PS X (.Assign [.Attribute o f pos'] value pos) (sFld K ta tv f) := by subst hK; exact ps_fld ha hv hs
theorem ix_seqK (hK : X.K = K := by rfl) : IxR X (rIx K) := by subst hK; exact ix_seq
theorem pi_listK {tg l : Expr} {tl : TE} (hl : PE X l tl) (hK : X.K = K := by rfl) : PI X tg l (iList K tl) := by subst hK; exact pi_list hl
theorem pi_tupK {tg l : Expr} {tl : TE} (hl : PE X l tl) (hK : X.K = K := by rfl) : PI X tg l (iTup K tl) := by subst hK; exact pi_tup hl
theorem cLenK (hK : X.K = K := by rfl) : CallR X (.builtin "len") (rLenA K) := by subst hK; exact cLen
theorem cListOfK (hK : X.K = K := by rfl) : CallR X (.type "list") (rListOf K) := by subst hK; exact cListOf
theorem cTupleOfK (hK : X.K = K := by rfl) : CallR X (.type "tuple") (rTupleOf K) := by subst hK; exact cTupleOf
theorem cSortedIK (hK : X.K = K := by rfl) : CallR X (.builtin "sorted") (rSortedI K) := by subst hK; exact cr_sortedI
theorem cIsiK (hK : X.K = K := by rfl) : CallR X (.builtin "isinstance") (rIsi K) := by subst hK; exact call_isi
theorem pt_trK {a : Expr} {ta : TE} (ha : PE X a ta) (he : ∀ whole, isTrue a X.env whole = (do let v ← whole; standAt a.pos; holding [v] (truthy v)) := by intro _; rfl) (hK : X.K = K := by rfl) : PT X a (tTruth K ta) := by subst hK; exact pt_tr ha he
theorem pg_tupK {es : List Expr} {k : Nat} {pos : Pos} {t : TGs} {n : Nat} (hc : X.calm = true) (h : PGs X es t) (hn : (assignEach es X.env).length = n := by rfl) (hst : (assignEach es X.env).findIdx? (·.1) = none := by rfl) (hK : X.K = K := by rfl) :
    PG X (.Tuple es k pos) (gTup K n t) := by subst hK; exact pg_tup hc h hn hst
theorem op_in_seqK (hK : X.K = K := by rfl) : OpR X (compareOp .In) (rIn K false) := by subst hK; exact op_in_seq
theorem op_notIn_seqK (hK : X.K = K := by rfl) : OpR X (compareOp .NotIn) (rIn K true) := by subst hK; exact op_notIn_seq
theorem op_eqDK {k : Nat} (hr : Room k X.A) (hK : X.K = K := by rfl) : OpR X (compareOp .Eq) (rEqD K) := by subst hK; exact op_eqD hr.units
theorem op_neDK {k : Nat} (hr : Room k X.A) (hK : X.K = K := by rfl) : OpR X (compareOp .NotEq) (rNeD K) := by subst hK; exact op_neD hr.units
theorem sl_listK (hK : X.K = K := by rfl) : SlR X (rSlL K) := by subst hK; exact sl_list
theorem sl_tupK (hK : X.K = K := by rfl) : SlR X (rSlT K) := by subst hK; exact sl_tup
theorem pe_bm0K {T id : String} {name : Str} {r : V → List V → Hp → VK → Prop} {o : Expr} {to : TE} {apos cpos : Pos} (pa : PlainAttrs T) (slot : Slot T name id) (hty : typeOf (.builtin id) = pure (.type "method_descriptor")) (hm : MtR X id r) (ho : PE X o to)
    (hbase : attributeBase o name X.env (eval o X.env) = eval o X.env := by rfl) (hline : (apos.endLine == cpos.line) = true := by rfl) (hK : X.K = K := by rfl) : PE X (.Call (.Attribute o name apos) [] [] cpos) (tBM0 K T r to) := by
  subst hK; exact pe_bm0 pa slot hty hm ho hbase hline
theorem pe_bmK {T id : String} {name : Str} {r : V → List V → Hp → VK → Prop} {o e : Expr} {es : List Expr} {to : TE} {t : TA} {apos cpos : Pos} (pa : PlainAttrs T) (slot : Slot T name id) (hty : typeOf (.builtin id) = pure (.type "method_descriptor")) (hm : MtR X id r) (ho : PE X o to) (ha : PA X (e :: es) t)
    (hbase : attributeBase o name X.env (eval o X.env) = eval o X.env := by rfl)
    (hfew : ((backTo cpos (starEach (e :: es) X.env)).all (fun x => !x.1) && (backToKw cpos (keywordEach [] X.env)).all (fun x => x.1.isSome)
      && decide ((e :: es).length + ([] : List Keyword).length + (if ([] : List Keyword).isEmpty then 0 else 1) < 30)) = true := by rfl)
    (hline : (apos.endLine == cpos.line) = true := by rfl) (hs : starEach (e :: es) X.env = (false, eval e X.env) :: starEach es X.env := by rfl) (hplain : (backTo cpos (starEach es X.env)).any (·.1) = false := by rfl) (hK : X.K = K := by rfl) :
    PE X (.Call (.Attribute o name apos) (e :: es) [] cpos) (tBM K T r to t) := by
  subst hK; exact pe_bm pa slot hty hm ho ha hbase hfew hline hs hplain
theorem pi_enumK {tg e : Expr} {ta : TA} {p pos tpos : Pos} {elts : List Expr} {kk : Nat} (hg : Gl X "enumerate") (hm : X.mg "enumerate" = none) (ha : PA X [e] ta) (hs : starEach [e] X.env = [(false, eval e X.env)] := by rfl) (hK : X.K = K := by rfl) :
    PI X (.Tuple elts kk tpos) (.Call (.Name "enumerate" p) [e] [] pos) (iEnum K ta) := by subst hK; exact pi_enum hg hm ha hs
theorem pi_zipK {e e2 : Expr} {ta : TA} {p pos tpos : Pos} {elts : List Expr} {kk : Nat} (hg : Gl X "zip") (hm : X.mg "zip" = none) (ha : PA X [e, e2] ta)
    (hs : starEach [e, e2] X.env = (false, eval e X.env) :: starEach [e2] X.env := by rfl) (hpl : (backTo pos (starEach [e2] X.env)).any (·.1) = false := by rfl) (hK : X.K = K := by rfl) :
    PI X (.Tuple elts kk tpos) (.Call (.Name "zip" p) [e, e2] [] pos) (iZip K ta) := by subst hK; exact pi_zip hg hm ha hs hpl
end
theorem fm_filter {α β : Type} (p : α → Bool) (f : α → β) : ∀ (l : List α), l.filterMap (fun x => if p x = true then some (f x) else none) = (l.filter p).map f
  | [] => rfl
  | a :: l => by
    rw [List.filterMap_cons, List.filter_cons]
    cases h : p a with
    | true => simp [fm_filter p f l]
    | false => simp [fm_filter p f l]
/-- a display of one pair -/
theorem disp1 {tk tv : TE} {σ : St} {H : Hp} {Q : VK} (h : ∀ p, H p = none → tk σ (upd H p (.dK [])) fun x H1 => tv σ H1 fun y H2 => H2 p = some (.dK []) ∧ ∃ k : Key, x = kV k ∧ Q (.ref p) (upd H2 p (.dK [(k, y)]))) : tDisp [(tk, tv)] σ H Q := by
  intro p hp
  have q := h p hp
  show tk σ (upd H p (.dK [])) fun x H1 => tv σ H1 fun y H2 => H2 p = some (.dK []) ∧ ∃ kvs : List (Key × V), [(x, y)] = kvs.map (fun kv => (kV kv.1, kv.2)) ∧ kvs.length ≤ 15 ∧ Q (.ref p) (upd H2 p (.dK (mergeK [] kvs)))
  have e : (fun (x : V) (H1 : Hp) => tv σ H1 fun y H2 => H2 p = some (.dK []) ∧ ∃ k : Key, x = kV k ∧ Q (.ref p) (upd H2 p (.dK [(k, y)]))) =
      fun (x : V) (H1 : Hp) => tv σ H1 fun y H2 => H2 p = some (.dK []) ∧ ∃ kvs : List (Key × V), [(x, y)] = kvs.map (fun kv => (kV kv.1, kv.2)) ∧ kvs.length ≤ 15 ∧ Q (.ref p) (upd H2 p (.dK (mergeK [] kvs))) := by
    funext x H1
    congr
    funext y H2
    apply propext
    constructor
    · rintro ⟨h1, k, rfl, h2⟩
      exact ⟨h1, [(k, y)], rfl, of_decide_eq_true rfl, h2⟩
    · rintro ⟨h1, kvs, e, h2, h3⟩
      match kvs, e with
      | [(k, y')], e =>
        have e' : (x, y) = (kV k, y') := (List.cons.inj e).1
        cases e'
        exact ⟨h1, k, rfl, h3⟩
  rw [← e]
  exact q
/-- range(a, b, -1) -/
def rngQ3 (g : TG) (tb : TS) (D : Ends) (σ : St) (vs : List V) (H : Hp) : Prop := ∃ (i j c : Int) (n : Nat), vs = [.int i, .int j, .int c] ∧ RgC i j c n ∧ loopQ (Itc i c n) g tb D σ H
theorem x_rng3 {g : TG} {tb : TS} {D : Ends} {σ : St} {H : Hp} {tr : TA} (h : tr σ H fun vs H1 => rngQ3 g tb D σ vs H1) : tFor (iRng3 tr) g tb D σ H := h
theorem forDown {g : TG} {tb : TS} {D : Ends} {σ : St} {H : Hp} {i j : Int} (n : Nat) (e : (i - j).toNat = n) (hb : -(2 ^ 62) ≤ i ∧ i < 2 ^ 62 ∧ -(2 ^ 62) ≤ j ∧ j < 2 ^ 62) (Pv : Nat → St → Hp → Prop) (h0 : Pv 0 σ H)
    (hs : ∀ m σ' H', m < n → Pv m σ' H' → g (.int (i - m)) σ' H' fun σ2 H2 => tb { D with nx := Pv (m + 1), ct := Pv (m + 1), bk := D.nx } σ2 H2) (hd : ∀ σ' H', Pv n σ' H' → D.nx σ' H') : rngQ3 g tb D σ [.int i, .int j, .int (-1)] H := by
  refine ⟨i, j, -1, n, rfl, e ▸ RgC.neg hb.1 hb.2.1 hb.2.2.1 hb.2.2.2, ?_⟩
  refine for_rangeC Pv h0 (fun m σ' H' hm p => ?_) hd
  have e2 : i + (m : Int) * -1 = i - m := by omega
  rw [e2]
  exact hs m σ' H' hm p
theorem s_setB {H : Hp} {a : Addr} {bs : List Bool} {k : Int} {b : Bool} {P : Hp → Prop} (e : H a = some (.lst (bs.map V.bl))) (h0 : 0 ≤ k) (h1 : k < bs.length) (h : P (upd H a (.lst ((bs.set k.toNat b).map V.bl)))) : rSetL (.ref a) (.int k) (.bl b) H P := by
  refine x_setL e (ixN_int h0 (by rw [List.length_map]; exact h1)) ?_
  rw [← List.map_set]
  exact h
/-- an item of a list of truth values -/
theorem ixB {K : PySem.W.Frag} {H : Hp} {a : Addr} {bs : List Bool} {k : Int} {b : Bool} {Q : VK} (e : SqL K H a (bs.map V.bl)) (h0 : 0 ≤ k) (hb : bs[k.toNat]? = some b) (q : Q (.bl b) H) : rIx K (.ref a) (.int k) H Q :=
  ixLL e (at_int h0 (by rw [List.getElem?_map, hb]; rfl)) q
theorem ls_bls {K : PySem.W.Frag} {H : Hp} {a : Addr} {bs : List Bool} (h : LS K H a (bs.map PyData.bool)) : H a = some (.lst (bs.map V.bl)) := by
  obtain ⟨vs, h1, h2⟩ := h
  have key : ∀ {bs : List Bool} {vs : List V}, ImAll K H vs (bs.map PyData.bool) → vs = bs.map V.bl := by
    intro bs
    induction bs with
    | nil => intro vs h; exact all_nil h
    | cons b bs ih =>
      intro vs h
      obtain ⟨v, r, rfl, h1, h2⟩ := all_cons h
      rw [im_bl h1, ih h2]; rfl
  rw [h1, key h2]
/-! ### d.get -/
def isdQ (x : V) (H : Hp) (P : Prop) : Prop := ∃ a, x = .ref a ∧ IsD H a ∧ P
def get2Q (x y z : V) (H : Hp) (Q : VK) : Prop := ∃ a o, x = .ref a ∧ DGet H a y o ∧ Q (o.getD z) H
theorem x_dget2 {td ty tx : TE} {σ : St} {H : Hp} {Q : VK} (h : td σ H fun x H1 => isdQ x H1 (ty σ H1 fun y H2 => tx σ H2 fun z H3 => get2Q x y z H3 Q)) : tDGet2 td ty tx σ H Q := by
  unfold tDGet2
  refine cast ?_ h
  congr
  funext x H1
  apply propext
  constructor
  · rintro ⟨a, rfl, h1, h2⟩
    refine ⟨a, rfl, h1, ?_⟩
    refine cast ?_ h2
    congr
    funext y H2
    congr
    funext z H3
    apply propext
    constructor
    · rintro ⟨a', o, e, q⟩; cases e; exact ⟨o, q⟩
    · rintro ⟨o, q⟩; exact ⟨a, o, rfl, q⟩
  · rintro ⟨a, rfl, h1, h2⟩
    refine ⟨a, rfl, h1, ?_⟩
    refine cast ?_ h2
    congr
    funext y H2
    congr
    funext z H3
    apply propext
    constructor
    · rintro ⟨o, q⟩; exact ⟨a, o, rfl, q⟩
    · rintro ⟨a', o, e, q⟩; cases e; exact ⟨o, q⟩
theorem isdK {H : Hp} {a : Addr} {P : Prop} {kvs : List (Key × V)} (e : Rd H a (.dK kvs)) (h : P) : isdQ (.ref a) H P := ⟨a, rfl, .inl ⟨kvs, e⟩, h⟩
theorem get2I {H : Hp} {a : Addr} {Q : VK} {z : V} {kvs : List (Key × V)} {k : Int} (e : Rd H a (.dK kvs)) (q : Q ((valV kvs (Sum.inl k)).getD z) H) : get2Q (.ref a) (.int k) z H Q := ⟨a, _, rfl, .inl ⟨kvs, Sum.inl k, e, rfl, rfl⟩, q⟩
/-- d.pop(k) -/
def popQ (x y : V) (H : Hp) (Q : VK) : Prop := ∃ a kvs k v, x = .ref a ∧ H a = some (.dK kvs) ∧ y = kV k ∧ valV kvs k = some v ∧ Q v (upd H a (.dK (dropK kvs k)))
theorem x_dpop1 {td ty : TE} {σ : St} {H : Hp} {Q : VK} (h : td σ H fun x H1 => isdQ x H1 (ty σ H1 fun y H2 => popQ x y H2 Q)) : tDPop1 td ty σ H Q := by
  unfold tDPop1
  refine cast ?_ h
  congr
  funext x H1
  apply propext
  constructor
  · rintro ⟨a, rfl, h1, h2⟩
    refine ⟨a, rfl, h1, ?_⟩
    refine cast ?_ h2
    congr
    funext y H2
    apply propext
    constructor
    · rintro ⟨a', kvs, k, v, e, q⟩; cases e; exact ⟨kvs, k, v, q⟩
    · rintro ⟨kvs, k, v, q⟩; exact ⟨a, kvs, k, v, rfl, q⟩
  · rintro ⟨a, rfl, h1, h2⟩
    refine ⟨a, rfl, h1, ?_⟩
    refine cast ?_ h2
    congr
    funext y H2
    apply propext
    constructor
    · rintro ⟨kvs, k, v, q⟩; exact ⟨a, kvs, k, v, rfl, q⟩
    · rintro ⟨a', kvs, k, v, e, q⟩; cases e; exact ⟨kvs, k, v, q⟩
theorem popI {H : Hp} {a : Addr} {Q : VK} {v : V} {kvs : List (Key × V)} {k : Int} (e : H a = some (.dK kvs)) (hv : valV kvs (Sum.inl k) = some v) (q : Q v (upd H a (.dK (dropK kvs (Sum.inl k))))) : popQ (.ref a) (.int k) H Q := ⟨a, kvs, Sum.inl k, v, rfl, e, rfl, hv, q⟩
theorem bmD {K : PySem.W.Frag} {H : Hp} {a : Addr} {P : Prop} {kvs : List (Key × V)} (e : H a = some (.dK kvs)) (h : P) : bmQ K "dict" (.ref a) H P := ⟨.inr (.inr (.inl ⟨rfl, .inl ⟨kvs, e⟩⟩)), h⟩
end Z

set_option maxRecDepth 100000
set_option maxHeartbeats 1000000
/-! R1: what an edge reaches -/
namespace R
open PySem L2 Z
/-- row i reaches row k -/
inductive Rch (rs : List Row) : Nat → Nat → Prop
  | refl (k : Nat) : Rch rs k k
  | left {i k a b : Nat} : rs[i]? = some (.both a b) → Rch rs (a / 2) k → Rch rs i k
  | right {i k a b : Nat} : rs[i]? = some (.both a b) → Rch rs (b / 2) k → Rch rs i k
/-- both-rows refer to earlier rows -/
def WF (rs : List Row) : Prop := ∀ i a b, rs[i]? = some (.both a b) → a / 2 < i ∧ b / 2 < i
/-- the rows (but row 0) that some edges reach -/
def Cn (rs : List Row) (es : List Nat) (k : Nat) : Prop := 0 < k ∧ ∃ e ∈ es, Rch rs (e / 2) k
theorem Rch.le {rs : List Row} (w : WF rs) {i k : Nat} (h : Rch rs i k) : k ≤ i := by
  induction h with
  | refl k => exact Nat.le_refl _
  | left e _ ih => have := (w _ _ _ e).1; omega
  | right e _ ih => have := (w _ _ _ e).2; omega
theorem Rch.zero {rs : List Row} (h0 : rs.head? = some .no) {k : Nat} (h : Rch rs 0 k) : k = 0 := by
  have key : ∀ {i k : Nat}, Rch rs i k → i = 0 → k = 0 := by
    intro i k h
    have e0 : rs[0]? = some .no := by rw [← List.head?_eq_getElem?]; exact h0
    cases h with
    | refl k => exact id
    | left e _ => intro z; subst z; rw [e0] at e; cases e
    | right e _ => intro z; subst z; rw [e0] at e; cases e
  exact key h rfl
theorem Rch.trans {rs : List Row} {i j k : Nat} (h : Rch rs i j) (g : Rch rs j k) : Rch rs i k := by
  induction h with
  | refl _ => exact g
  | left e _ ih => exact .left e (ih g)
  | right e _ ih => exact .right e (ih g)
theorem get_pre {rs rs' : List Row} (p : rs <+: rs') {i : Nat} {r : Row} (h : rs[i]? = some r) : rs'[i]? = some r := by
  obtain ⟨t, rfl⟩ := p
  have := (List.getElem?_eq_some_iff.mp h).1
  rw [List.getElem?_append_left this]; exact h
theorem Rch.pre {rs rs' : List Row} (p : rs <+: rs') {i k : Nat} (h : Rch rs i k) : Rch rs' i k := by
  induction h with
  | refl k => exact .refl k
  | left e _ ih => exact .left (get_pre p e) ih
  | right e _ ih => exact .right (get_pre p e) ih
theorem Rch.unpre {rs rs' : List Row} (w : WF rs) (p : rs <+: rs') {i k : Nat} (h : Rch rs' i k) : i < rs.length → Rch rs i k := by
  have at_ : ∀ {i : Nat} {r : Row}, i < rs.length → rs'[i]? = some r → rs[i]? = some r := fun {i r} hi e => by
    obtain ⟨t, rfl⟩ := p
    rw [List.getElem?_append_left hi] at e; exact e
  induction h with
  | refl k => intro _; exact .refl k
  | left e _ ih =>
    intro hi
    have e' := at_ hi e
    have := (w _ _ _ e').1
    exact .left e' (ih (by omega))
  | right e _ ih =>
    intro hi
    have e' := at_ hi e
    have := (w _ _ _ e').2
    exact .right e' (ih (by omega))
theorem WF.add {rs : List Row} (w : WF rs) {r : Row} (h : ∀ a b, r = .both a b → a / 2 < rs.length ∧ b / 2 < rs.length) : WF (addRow rs r) := by
  unfold addRow
  split
  · exact w
  · intro i a b e
    by_cases hi : i < rs.length
    · rw [List.getElem?_append_left hi] at e
      exact w i a b e
    · have hl := (List.getElem?_eq_some_iff.mp e).1
      rw [List.length_append, List.length_singleton] at hl
      have hi2 : i = rs.length := by omega
      subst hi2
      rw [List.getElem?_append_right (Nat.le_refl _)] at e
      simp at e
      exact h a b e
/-- the rows reached, ascending -/
noncomputable def cone (rs : List Row) (es : List Nat) : List Nat := (List.range rs.length).filter fun k => @decide (Cn rs es k) (Classical.propDecidable _)
theorem mem_cone {rs : List Row} {es : List Nat} {k : Nat} : k ∈ cone rs es ↔ k < rs.length ∧ Cn rs es k := by
  unfold cone
  rw [List.mem_filter, List.mem_range]
  exact and_congr_right fun _ => @decide_eq_true_iff _ (Classical.propDecidable _)
theorem cone_sorted (rs : List Row) (es : List Nat) : (cone rs es).Pairwise (· < ·) := by
  unfold cone
  exact List.Pairwise.filter _ List.pairwise_lt_range
theorem nat_sorted_unique : ∀ {l m : List Nat}, l.Pairwise (· < ·) → m.Pairwise (· < ·) → (∀ k, k ∈ l ↔ k ∈ m) → l = m
  | [], [], _, _, _ => rfl
  | [], b :: m, _, _, h => by have := (h b).mpr List.mem_cons_self; cases this
  | a :: l, [], _, _, h => by have := (h a).mp List.mem_cons_self; cases this
  | a :: l, b :: m, hl, hm, h => by
    rw [List.pairwise_cons] at hl hm
    have e : a = b := by
      rcases List.mem_cons.mp ((h a).mp List.mem_cons_self) with e | e
      · exact e
      · rcases List.mem_cons.mp ((h b).mpr List.mem_cons_self) with e' | e'
        · exact e'.symm
        · have h1 := hl.1 b e'
          have h2 := hm.1 a e
          omega
    subst e
    congr 1
    refine nat_sorted_unique hl.2 hm.2 fun k => ?_
    constructor
    · intro hk
      rcases List.mem_cons.mp ((h k).mp (List.mem_cons_of_mem _ hk)) with e | e
      · subst e; exact absurd (hl.1 _ hk) (Nat.lt_irrefl _)
      · exact e
    · intro hk
      rcases List.mem_cons.mp ((h k).mpr (List.mem_cons_of_mem _ hk)) with e | e
      · subst e; exact absurd (hm.1 _ hk) (Nat.lt_irrefl _)
      · exact e
theorem int_sorted_unique : ∀ {l m : List Int}, l.Pairwise (· < ·) → m.Pairwise (· < ·) → (∀ k, k ∈ l ↔ k ∈ m) → l = m
  | [], [], _, _, _ => rfl
  | [], b :: m, _, _, h => by have := (h b).mpr List.mem_cons_self; cases this
  | a :: l, [], _, _, h => by have := (h a).mp List.mem_cons_self; cases this
  | a :: l, b :: m, hl, hm, h => by
    rw [List.pairwise_cons] at hl hm
    have e : a = b := by
      rcases List.mem_cons.mp ((h a).mp List.mem_cons_self) with e | e
      · exact e
      · rcases List.mem_cons.mp ((h b).mpr List.mem_cons_self) with e' | e'
        · exact e'.symm
        · have h1 := hl.1 b e'
          have h2 := hm.1 a e
          omega
    subst e
    congr 1
    refine int_sorted_unique hl.2 hm.2 fun k => ?_
    constructor
    · intro hk
      rcases List.mem_cons.mp ((h k).mp (List.mem_cons_of_mem _ hk)) with e | e
      · subst e; exact absurd (hl.1 _ hk) (Int.lt_irrefl _)
      · exact e
    · intro hk
      rcases List.mem_cons.mp ((h k).mpr (List.mem_cons_of_mem _ hk)) with e | e
      · subst e; exact absurd (hm.1 _ hk) (Int.lt_irrefl _)
      · exact e
theorem lt_of_le_nodup {l : List Int} (h : l.Pairwise (· ≤ ·)) (n : l.Nodup) : l.Pairwise (· < ·) := by
  have := List.Pairwise.and h n
  exact this.imp fun {a b} ⟨h1, h2⟩ => by omega
/-- a search that has nothing left to do has found the cone -/
structure Found (rs : List Row) (es : List Nat) (S T : List Nat) : Prop where
  nd : S.Nodup
  pos : ∀ k ∈ S, 0 < k ∧ k < rs.length
  sound : ∀ k, k ∈ S ∨ k ∈ T → ∃ e ∈ es, Rch rs (e / 2) k
  lt : ∀ k ∈ T, k < rs.length
  start : ∀ e ∈ es, e / 2 ∈ S ∨ e / 2 ∈ T ∨ e / 2 = 0
  closed : ∀ k ∈ S, ∀ a b, rs[k]? = some (.both a b) → (a / 2 ∈ S ∨ a / 2 ∈ T ∨ a / 2 = 0) ∧ (b / 2 ∈ S ∨ b / 2 ∈ T ∨ b / 2 = 0)
theorem Found.done {rs : List Row} {es S : List Nat} (h0 : rs.head? = some .no) (F : Found rs es S []) (k : Nat) : k ∈ S ↔ k ∈ cone rs es := by
  rw [mem_cone]
  constructor
  · intro hk
    exact ⟨(F.pos k hk).2, (F.pos k hk).1, F.sound k (.inl hk)⟩
  · rintro ⟨_, hp, e, he, hr⟩
    have key : ∀ {i k : Nat}, Rch rs i k → (i ∈ S ∨ i = 0) → 0 < k → k ∈ S := by
      intro i k h
      have z0 : ∀ {i : Nat} {a b : Nat}, rs[i]? = some (Row.both a b) → i ≠ 0 := fun {i a b} e z => by
        subst z
        rw [← List.head?_eq_getElem?, h0] at e
        cases e
      induction h with
      | refl k => intro h hp; rcases h with h | h; exact h; omega
      | left e _ ih =>
        intro h hp
        rcases h with h | h
        · refine ih ?_ hp
          rcases (F.closed _ h _ _ e).1 with q | q | q
          · exact .inl q
          · cases q
          · exact .inr q
        · exact absurd h (z0 e)
      | right e _ ih =>
        intro h hp
        rcases h with h | h
        · refine ih ?_ hp
          rcases (F.closed _ h _ _ e).2 with q | q | q
          · exact .inl q
          · cases q
          · exact .inr q
        · exact absurd h (z0 e)
    refine key hr ?_ hp
    rcases F.start e he with q | q | q
    · exact .inl q
    · cases q
    · exact .inr q
theorem Found.init {rs : List Row} {es : List Nat} (h : ∀ e ∈ es, e / 2 < rs.length) : Found rs es [] (es.map (· / 2)) where
  nd := List.nodup_nil
  pos := fun k hk => by cases hk
  sound := fun k hk => by
    rcases hk with hk | hk
    · cases hk
    · obtain ⟨e, he, rfl⟩ := List.mem_map.mp hk
      exact ⟨e, he, .refl _⟩
  lt := fun k hk => by
    obtain ⟨e, he, rfl⟩ := List.mem_map.mp hk
    exact h e he
  start := fun e he => .inr (.inl (List.mem_map.mpr ⟨e, he, rfl⟩))
  closed := fun k hk => by cases hk
/-- a turn: k is taken; it is not new -/
theorem Found.old {rs : List Row} {es S T : List Nat} {k : Nat} (F : Found rs es S (T ++ [k])) (h : k ∈ S ∨ k = 0) : Found rs es S T := by
  have mv : ∀ {j : Nat}, j ∈ S ∨ j ∈ T ++ [k] ∨ j = 0 → j ∈ S ∨ j ∈ T ∨ j = 0 := fun {j} q => by
    rcases q with q | q | q
    · exact .inl q
    · rcases List.mem_append.mp q with q | q
      · exact .inr (.inl q)
      · simp at q; subst q; rcases h with h | h; exact .inl h; exact .inr (.inr h)
    · exact .inr (.inr q)
  exact ⟨F.nd, F.pos, fun j hj => F.sound j (hj.imp id fun q => List.mem_append_left _ q), fun j hj => F.lt j (List.mem_append_left _ hj), fun e he => mv (F.start e he), fun j hj a b e => ⟨mv (F.closed j hj a b e).1, mv (F.closed j hj a b e).2⟩⟩
/-- .. it is new, no both-row -/
theorem Found.leaf {rs : List Row} {es S T : List Nat} {k : Nat} (F : Found rs es S (T ++ [k])) (hk : k ∉ S) (h0 : 0 < k) (h : ∀ a b, rs[k]? ≠ some (.both a b)) : Found rs es (S ++ [k]) T := by
  have mv : ∀ {j : Nat}, j ∈ S ∨ j ∈ T ++ [k] ∨ j = 0 → j ∈ S ++ [k] ∨ j ∈ T ∨ j = 0 := fun {j} q => by
    simp only [List.mem_append, List.mem_singleton] at q ⊢
    rcases q with q | (q | q) | q
    · exact .inl (.inl q)
    · exact .inr (.inl q)
    · exact .inl (.inr q)
    · exact .inr (.inr q)
  refine ⟨?_, fun j hj => ?_, fun j hj => ?_, fun j hj => F.lt j (List.mem_append_left _ hj), fun e he => mv (F.start e he), fun j hj a b e => ?_⟩
  · rw [List.nodup_append]
    refine ⟨F.nd, by simp, fun a ha b hb => ?_⟩
    simp at hb; subst hb; rintro rfl; exact hk ha
  · rcases List.mem_append.mp hj with q | q
    · exact F.pos j q
    · simp at q; subst q; exact ⟨h0, F.lt _ (by simp)⟩
  · refine F.sound j ?_
    simp only [List.mem_append, List.mem_singleton] at hj ⊢
    rcases hj with (q | q) | q
    · exact .inl q
    · exact .inr (.inr q)
    · exact .inr (.inl q)
  · rcases List.mem_append.mp hj with q | q
    · exact ⟨mv (F.closed j q a b e).1, mv (F.closed j q a b e).2⟩
    · simp at q; subst q; exact absurd e (h a b)
/-- .. a both-row -/
theorem Found.both {rs : List Row} {es S T : List Nat} {k a b : Nat} (w : WF rs) (F : Found rs es S (T ++ [k])) (hk : k ∉ S) (h0 : 0 < k) (h : rs[k]? = some (.both a b)) : Found rs es (S ++ [k]) (T ++ [a / 2] ++ [b / 2]) := by
  have hl : k < rs.length := F.lt _ (by simp)
  have ⟨w1, w2⟩ := w _ _ _ h
  have mv : ∀ {j : Nat}, j ∈ S ∨ j ∈ T ++ [k] ∨ j = 0 → j ∈ S ++ [k] ∨ j ∈ T ++ [a / 2] ++ [b / 2] ∨ j = 0 := fun {j} q => by
    simp only [List.mem_append, List.mem_singleton] at q ⊢
    rcases q with q | (q | q) | q
    · exact .inl (.inl q)
    · exact .inr (.inl (.inl (.inl q)))
    · exact .inl (.inr q)
    · exact .inr (.inr q)
  obtain ⟨e0, he0, hr0⟩ := F.sound k (.inr (by simp))
  refine ⟨?_, fun j hj => ?_, fun j hj => ?_, fun j hj => ?_, fun e he => mv (F.start e he), fun j hj a' b' e => ?_⟩
  · rw [List.nodup_append]
    refine ⟨F.nd, by simp, fun a ha b hb => ?_⟩
    simp at hb; subst hb; rintro rfl; exact hk ha
  · rcases List.mem_append.mp hj with q | q
    · exact F.pos j q
    · simp at q; subst q; exact ⟨h0, hl⟩
  · simp only [List.mem_append, List.mem_singleton] at hj
    rcases hj with (q | q) | (q | q) | q
    · exact F.sound j (.inl q)
    · subst q; exact ⟨e0, he0, hr0⟩
    · exact F.sound j (.inr (List.mem_append_left _ q))
    · subst q; exact ⟨e0, he0, hr0.trans (.left h (.refl _))⟩
    · subst q; exact ⟨e0, he0, hr0.trans (.right h (.refl _))⟩
  · simp only [List.mem_append, List.mem_singleton] at hj
    rcases hj with (q | q) | q
    · exact F.lt j (List.mem_append_left _ q)
    · omega
    · omega
  · rcases List.mem_append.mp hj with q | q
    · exact ⟨mv (F.closed j q a' b' e).1, mv (F.closed j q a' b' e).2⟩
    · simp at q; subst q
      rw [h] at e
      cases e
      exact ⟨.inr (.inl (by simp)), .inr (.inl (by simp))⟩
/-- how many rows were not seen so far -/
def unseen (n : Nat) (S : List Nat) : Nat := ((List.range n).filter fun k => decide (k ∉ S)).length
theorem unseen_lt {n : Nat} {S : List Nat} {k : Nat} (h : k < n) (hk : k ∉ S) : unseen n (S ++ [k]) < unseen n S := by
  unfold unseen
  have e : ((List.range n).filter fun j => decide (j ∉ S ++ [k])) = (((List.range n).filter fun j => decide (j ∉ S)).filter fun j => decide (j ≠ k)) := by
    rw [List.filter_filter]
    congr 1
    funext j
    rw [Bool.eq_iff_iff]
    simp [and_comm]
  rw [e]
  rw [List.length_filter_lt_length_iff_exists]
  exact ⟨k, by simp [h, hk], by simp⟩
/-- the rows that were seen, as a dict -/
def seenD (S : List Nat) : List (Key × V) := S.map fun k : Nat => (Sum.inl (k : Int), V.bl true)
theorem seen_val (S : List Nat) (k : Nat) : (valV (seenD S) (Sum.inl (k : Int) : Key)).isSome = decide (k ∈ S) := by
  rw [← valV_any]
  unfold seenD
  rw [List.any_map, Bool.eq_iff_iff, List.any_eq_true, decide_eq_true_eq]
  constructor
  · rintro ⟨x, hx, e⟩
    simp at e
    have : x = k := by omega
    subst this; exact hx
  · intro h
    exact ⟨k, h, by simp⟩
theorem seen_put {S : List Nat} {k : Nat} (h : k ∉ S) : putK (seenD S) (Sum.inl (k : Int) : Key) (.bl true) = seenD (S ++ [k]) := by
  have e := seen_val S k
  rw [decide_eq_false h] at e
  rw [putK_new _ (by simpa using e)]
  unfold seenD
  rw [List.map_append]
  rfl
theorem seen_len (S : List Nat) : (seenD S).length = S.length := by unfold seenD; rw [List.length_map]
theorem seen_keys (S : List Nat) : (seenD S).map (·.1) = (S.map fun k : Nat => (k : Int)).map Sum.inl := by
  unfold seenD; rw [List.map_map, List.map_map]; rfl
theorem len_le_of_lt {n : Nat} {S : List Nat} (nd : S.Nodup) (h : ∀ k ∈ S, k < n) : S.length ≤ n := by
  have h1 : ∀ k ∈ S, k ∈ List.range n := fun k hk => List.mem_range.mpr (h k hk)
  have := nd.length_le_of_subset (l₂ := List.range n) h1
  simpa using this
/-- sorted keys of what was seen are the cone -/
theorem seen_sorted {rs : List Row} {es S : List Nat} {ys : List Int} (h0 : rs.head? = some .no) (F : Found rs es S []) (p : ys.Perm (S.map fun k : Nat => (k : Int))) (s : ys.Pairwise (· ≤ ·)) : ys = (cone rs es).map fun k : Nat => (k : Int) := by
  have nd : ys.Nodup := by
    rw [p.nodup_iff]
    exact List.Pairwise.map _ (fun a b h z => h (by omega)) F.nd
  refine int_sorted_unique (lt_of_le_nodup s nd) (List.Pairwise.map _ (fun a b h => by omega) (cone_sorted rs es)) fun k => ?_
  rw [p.mem_iff, List.mem_map, List.mem_map]
  constructor
  · rintro ⟨a, h, rfl⟩; exact ⟨a, (F.done h0 a).mp h, rfl⟩
  · rintro ⟨a, h, rfl⟩; exact ⟨a, (F.done h0 a).mpr h, rfl⟩
end R

set_option maxRecDepth 100000
set_option maxHeartbeats 1000000
/-! R2: rows by their marks, values of rows -/
namespace R
open PySem L2 Z
def Rd_ (rs : List Row) (es : List Nat) (k : Nat) : Prop := ∃ e ∈ es, Rch rs (e / 2) k
def Succ (rs : List Row) (i k : Nat) : Prop := ∃ a b, rs[i]? = some (.both a b) ∧ (a / 2 = k ∨ b / 2 = k)
theorem Rch.last {rs : List Row} {i k : Nat} (h : Rch rs i k) : i = k ∨ ∃ j, Rch rs i j ∧ Succ rs j k := by
  induction h with
  | refl k => exact .inl rfl
  | @left i k a b e _ ih =>
    rcases ih with rfl | ⟨j, h1, h2⟩
    · exact .inr ⟨i, .refl _, a, b, e, .inl rfl⟩
    · exact .inr ⟨j, .left e h1, h2⟩
  | @right i k a b e _ ih =>
    rcases ih with rfl | ⟨j, h1, h2⟩
    · exact .inr ⟨i, .refl _, a, b, e, .inr rfl⟩
    · exact .inr ⟨j, .right e h1, h2⟩
theorem Succ.rch {rs : List Row} {i k : Nat} (h : Succ rs i k) : Rch rs i k := by
  obtain ⟨a, b, e, rfl | rfl⟩ := h
  · exact .left e (.refl _)
  · exact .right e (.refl _)
theorem Succ.lt {rs : List Row} (w : WF rs) {i k : Nat} (h : Succ rs i k) : k < i := by
  obtain ⟨a, b, e, rfl | rfl⟩ := h
  · exact (w _ _ _ e).1
  · exact (w _ _ _ e).2
theorem rd_step {rs : List Row} {es : List Nat} {k : Nat} : Rd_ rs es k ↔ (∃ e ∈ es, e / 2 = k) ∨ ∃ i, Rd_ rs es i ∧ Succ rs i k := by
  constructor
  · rintro ⟨e, he, h⟩
    rcases h.last with h | ⟨j, h1, h2⟩
    · exact .inl ⟨e, he, h⟩
    · exact .inr ⟨j, ⟨e, he, h1⟩, h2⟩
  · rintro (⟨e, he, rfl⟩ | ⟨i, ⟨e, he, h⟩, hs⟩)
    · exact ⟨e, he, .refl _⟩
    · exact ⟨e, he, h.trans hs.rch⟩
/-- the marks behind the rows from c on -/
def Marks (rs : List Row) (es : List Nat) (c : Nat) (fl : List Bool) : Prop := fl.length = rs.length ∧ ∀ j, j < rs.length → (fl[j]? = some true ↔ (∃ e ∈ es, e / 2 = j) ∨ ∃ i, c ≤ i ∧ Rd_ rs es i ∧ Succ rs i j)
theorem Marks.at {rs : List Row} {es : List Nat} {c : Nat} {fl : List Bool} (w : WF rs) (m : Marks rs es c fl) {k : Nat} (hk : k < rs.length) (hc : c ≤ k + 1) : fl[k]? = some true ↔ Rd_ rs es k := by
  rw [m.2 k hk, rd_step]
  constructor
  · rintro (h | ⟨i, _, h1, h2⟩)
    · exact .inl h
    · exact .inr ⟨i, h1, h2⟩
  · rintro (h | ⟨i, h1, h2⟩)
    · exact .inl h
    · exact .inr ⟨i, by have := h2.lt w; omega, h1, h2⟩
theorem Marks.stay {rs : List Row} {es : List Nat} {k : Nat} {fl : List Bool} (w : WF rs) (m : Marks rs es (k + 1) fl) (h : ¬ (Rd_ rs es k ∧ ∃ a b, rs[k]? = some (.both a b))) : Marks rs es k fl := by
  refine ⟨m.1, fun j hj => ?_⟩
  rw [m.2 j hj]
  constructor
  · rintro (q | ⟨i, h0, h1, h2⟩)
    · exact .inl q
    · exact .inr ⟨i, by omega, h1, h2⟩
  · rintro (q | ⟨i, h0, h1, h2⟩)
    · exact .inl q
    · refine .inr ⟨i, ?_, h1, h2⟩
      by_cases e : i = k
      · subst e
        obtain ⟨a, b, e, _⟩ := h2
        exact absurd ⟨h1, a, b, e⟩ h
      · omega
theorem Marks.mark {rs : List Row} {es : List Nat} {k a b : Nat} {fl : List Bool} (w : WF rs) (m : Marks rs es (k + 1) fl) (hr : Rd_ rs es k) (h : rs[k]? = some (.both a b)) : Marks rs es k ((fl.set (a / 2) true).set (b / 2) true) := by
  have hk := (List.getElem?_eq_some_iff.mp h).1
  have ⟨w1, w2⟩ := w _ _ _ h
  refine ⟨by rw [List.length_set, List.length_set]; exact m.1, fun j hj => ?_⟩
  have hl := m.1
  rw [List.getElem?_set, List.getElem?_set, List.length_set]
  by_cases e1 : b / 2 = j
  · rw [if_pos e1, if_pos (by omega)]
    exact ⟨fun _ => .inr ⟨k, Nat.le_refl _, hr, a, b, h, .inr e1⟩, fun _ => rfl⟩
  · rw [if_neg e1]
    by_cases e2 : a / 2 = j
    · rw [if_pos e2, if_pos (by omega)]
      exact ⟨fun _ => .inr ⟨k, Nat.le_refl _, hr, a, b, h, .inl e2⟩, fun _ => rfl⟩
    · rw [if_neg e2, m.2 j hj]
      constructor
      · rintro (q | ⟨i, h0, h1, h2⟩)
        · exact .inl q
        · exact .inr ⟨i, by omega, h1, h2⟩
      · rintro (q | ⟨i, h0, h1, h2⟩)
        · exact .inl q
        · refine .inr ⟨i, ?_, h1, h2⟩
          by_cases e : i = k
          · subst e
            obtain ⟨a', b', e, q⟩ := h2
            rw [h] at e
            cases e
            rcases q with q | q
            · exact absurd q e2
            · exact absurd q e1
          · omega
theorem marks_cone {rs : List Row} {es : List Nat} {fl : List Bool} (w : WF rs) (m : Marks rs es 1 fl) : ((List.range (rs.length - 1)).filterMap fun i => if fl[1 + i]? = some true then some (1 + i) else none) = cone rs es := by
  refine nat_sorted_unique ?_ (cone_sorted rs es) fun k => ?_
  · rw [List.pairwise_filterMap]
    refine List.Pairwise.imp ?_ (List.pairwise_lt_range (n := rs.length - 1))
    intro a b hab x hx y hy
    split at hx <;> simp at hx
    split at hy <;> simp at hy
    omega
  · rw [List.mem_filterMap, mem_cone]
    constructor
    · rintro ⟨i, hi, e⟩
      rw [List.mem_range] at hi
      split at e
      · rename_i hf
        simp at e
        subst e
        have := (m.at w (k := 1 + i) (by omega) (by omega)).mp hf
        exact ⟨by omega, by omega, this⟩
      · cases e
    · rintro ⟨h1, h2, h3⟩
      refine ⟨k - 1, by rw [List.mem_range]; omega, ?_⟩
      have e : 1 + (k - 1) = k := by omega
      rw [e, if_pos ((m.at w h1 (by omega)).mpr h3)]
/-! ### values -/
def ev (vs : List Bool) (e : Nat) : Bool := (vs.getD (e / 2) false) != decide (e % 2 = 1)
def rowVal (vs : List Bool) (ch : Int → Bool) : Row → Bool
  | .no => false
  | .letter l => ch l
  | .both a b => ev vs a && ev vs b
def vals (rs : List Row) (ch : Int → Bool) : List Bool := rs.foldl (fun acc r => acc ++ [rowVal acc ch r]) []
theorem vals_snoc (rs : List Row) (r : Row) (ch : Int → Bool) : vals (rs ++ [r]) ch = vals rs ch ++ [rowVal (vals rs ch) ch r] := by
  unfold vals
  rw [List.foldl_append]
  rfl
theorem rev_ind {α : Type} {P : List α → Prop} (h0 : P []) (hs : ∀ l a, P l → P (l ++ [a])) (l : List α) : P l := by
  have h : ∀ m : List α, P m.reverse := fun m => by
    induction m with
    | nil => exact h0
    | cons a m ih => rw [List.reverse_cons]; exact hs _ _ ih
  have := h l.reverse
  rwa [List.reverse_reverse] at this
theorem vals_len (ch : Int → Bool) (rs : List Row) : (vals rs ch).length = rs.length := by
  refine rev_ind (P := fun rs => (vals rs ch).length = rs.length) rfl (fun rs r ih => ?_) rs
  rw [vals_snoc, List.length_append, ih]; simp
theorem vals_take (rs : List Row) (ch : Int → Bool) (k : Nat) : vals (rs.take k) ch = (vals rs ch).take k := by
  refine rev_ind (P := fun rs => vals (rs.take k) ch = (vals rs ch).take k) (by simp [vals]) (fun rs r ih => ?_) rs
  · by_cases h : k ≤ rs.length
    · rw [List.take_append_of_le_length h, ih, vals_snoc, List.take_append_of_le_length (by rw [vals_len]; exact h)]
    · rw [List.take_of_length_le (by simp; omega), List.take_of_length_le (by rw [vals_len]; simp; omega)]
theorem vals_at {rs : List Row} {ch : Int → Bool} {k : Nat} {r : Row} (w : WF rs) (h : rs[k]? = some r) : (vals rs ch)[k]? = some (rowVal (vals rs ch) ch r) := by
  have hk := (List.getElem?_eq_some_iff.mp h).1
  have e1 : rs.take (k + 1) = rs.take k ++ [r] := by
    rw [List.take_add_one, h]; rfl
  have e2 : (vals rs ch).take (k + 1) = (vals rs ch).take k ++ [rowVal ((vals rs ch).take k) ch r] := by
    rw [← vals_take, e1, vals_snoc, vals_take]
  have e3 : (vals rs ch)[k]? = some (rowVal ((vals rs ch).take k) ch r) := by
    have : ((vals rs ch).take (k + 1))[k]? = (vals rs ch)[k]? := by rw [List.getElem?_take_of_lt (by omega)]
    rw [← this, e2, List.getElem?_append_right (by rw [List.length_take, vals_len]; omega), List.length_take, vals_len]
    have : k - min k rs.length = 0 := by omega
    rw [this]; rfl
  rw [e3]
  cases r with
  | no => rfl
  | letter l => rfl
  | both a b =>
    have ⟨w1, w2⟩ := w _ _ _ h
    have ge : ∀ e, e / 2 < k → ev ((vals rs ch).take k) e = ev (vals rs ch) e := fun e he => by
      unfold ev
      congr 1
      rw [List.getD_eq_getElem?_getD, List.getD_eq_getElem?_getD, List.getElem?_take_of_lt he]
    show some (ev _ a && ev _ b) = some (ev _ a && ev _ b)
    rw [ge a w1, ge b w2]
theorem mem_take_lt {l : List Nat} (h : l.Pairwise (· < ·)) {i j k : Nat} (hk : l[i]? = some k) (hj : j ∈ l) (hlt : j < k) : j ∈ l.take i := by
  obtain ⟨m, hm, rfl⟩ := List.getElem_of_mem hj
  obtain ⟨hi, rfl⟩ := List.getElem?_eq_some_iff.mp hk
  have hmi : m < i := by
    by_cases c : m < i
    · exact c
    · exfalso
      rcases Nat.lt_or_ge i m with g | g
      · have := List.pairwise_iff_getElem.mp h i m hi hm g
        omega
      · have : m = i := by omega
        subst this
        omega
  exact List.mem_of_getElem? (i := m) (by rw [List.getElem?_take_of_lt hmi]; exact List.getElem?_eq_getElem hm)
theorem cone_closed {rs : List Row} {es : List Nat} {k a b : Nat} (w : WF rs) (hk : k ∈ cone rs es) (h : rs[k]? = some (.both a b)) : (a / 2 = 0 ∨ a / 2 ∈ cone rs es) ∧ (b / 2 = 0 ∨ b / 2 ∈ cone rs es) := by
  obtain ⟨h1, h2, e, he, hr⟩ := mem_cone.mp hk
  have ⟨w1, w2⟩ := w _ _ _ h
  constructor
  · by_cases c : a / 2 = 0
    · exact .inl c
    · exact .inr (mem_cone.mpr ⟨by omega, by omega, e, he, hr.trans (.left h (.refl _))⟩)
  · by_cases c : b / 2 = 0
    · exact .inl c
    · exact .inr (mem_cone.mpr ⟨by omega, by omega, e, he, hr.trans (.right h (.refl _))⟩)
theorem cone_start {rs : List Row} {es : List Nat} {e : Nat} (he : e ∈ es) (hl : e / 2 < rs.length) : e / 2 = 0 ∨ e / 2 ∈ cone rs es := by
  by_cases c : e / 2 = 0
  · exact .inl c
  · exact .inr (mem_cone.mpr ⟨hl, by omega, e, he, .refl _⟩)
/-- a dict that tells the values of row 0 and of the rows in S -/
def Tells (kvs : List (Key × V)) (S : List Nat) (vs : List Bool) : Prop := ∀ j : Nat, (j = 0 ∨ j ∈ S) → valV kvs (Sum.inl (j : Int)) = some (.bl (vs.getD j false))
theorem Tells.put {kvs : List (Key × V)} {S : List Nat} {vs : List Bool} (t : Tells kvs S vs) (k : Nat) (hk : k ≠ 0) {x : Bool} (hx : vs[k]? = some x) : Tells (putK kvs (Sum.inl (k : Int)) (.bl x)) (S ++ [k]) vs := fun j hj => by
  rw [valV_put]
  by_cases e : j = k
  · subst e
    rw [if_pos rfl, List.getD_eq_getElem?_getD, hx]; rfl
  · rw [if_neg (fun z => e (by have := Sum.inl.inj z; omega))]
    refine t j ?_
    rcases hj with h | h
    · exact .inl h
    · rcases List.mem_append.mp h with h | h
      · exact .inr h
      · simp at h; exact absurd h e
theorem len_put {κ : Type} [DecidableEq κ] (c : List (κ × V)) (k : κ) (x : V) : (putK c k x).length ≤ c.length + 1 := by
  unfold putK
  split
  · rw [List.length_map]; omega
  · rw [List.length_append]; simp
end R

set_option maxRecDepth 100000
set_option maxHeartbeats 2000000
/-! Z6: zip of a dict (its keys) and a list; a dict comprehension over whatever is walked -/
namespace Z
open PySem L2 PySem.Spec PyProof.Rows
section
variable {prog : Program} {w : World} {A : Around} {E : Value → Shared → Prop} {s : Shared}
/-- next of a dict's key iterator, called by another iterator -/
theorem keyNext {it d : Addr} {i n ep : Nat} {od : Obj} {es : Array DictEntry} {en : DictEntry} {Q : Value → Shared → Prop}
    (ki : s.heap.IsKeyIter it d i n ep) (hod : s.heap.get? d = some od) (hdd : od.data = .dict es ep) (hsz : es.size = n) (hx : es[i]? = some en)
    (hQ : ∀ h', h'.IsKeyIter it d (i + 1) n ep → Heap.SameBut it s.heap h' → Q en.key { s with heap := h' }) :
    wpAny (model prog w) A (Builtin.SmallTypes.nextOf (.ref it)) Q E s := by
  obtain ⟨o, ho, hc, hd⟩ := id ki
  unfold Builtin.SmallTypes.nextOf
  refine wpAny_bind (wpAny_callSpecial?_slot (name := Str.ofString "__next__") ki.typeIs F.slot_dict_keyiterator_next
    (wpAny_call_entry F.slot_dict_keyiterator_next ki.typeIs F.entry_dict_keyiterator_next ?_
      (F.args_dict_keyiterator_next_1 _)))
  refine wpAny_bind (wpAny_pure ?_)
  refine wpAny_bind ?_
  refine wpAny_bind ?_
  first
    | refine wpAny_bind (wpAny_typeNameOfWhole_keyiter ki.typeIs (wpAny_pure ?_))
    | refine wpAny_bind (wpAny_typeNameOf_keyiter ki.typeIs (wpAny_pure ?_))
  refine wpAny_bind (wpAny_fieldsOf ho hd ?_)
  have own0 : Builtin.Dict_items.ownsTuple "dict_keyiterator" = false := by decide
  simp only [own0, Bool.false_eq_true, if_false]
  show wpAny _ _ (if (Value.ref d == Value.none) = true then _ else _) _ _ s
  rw [if_neg (show ¬ ((Value.ref d == Value.none) = true) from Bool.false_ne_true)]
  refine wpAny_bind (wpAny_pure ?_)
  refine wpAny_bind (wpAny_dictEntries hod hdd ?_)
  rw [if_neg (by rw [hsz]; simp)]
  refine wpAny_bind (wpAny_pure ?_)
  refine wpAny_bind (wpAny_dictEpoch hod hdd ?_)
  rw [if_neg (by simp)]
  refine wpAny_pure ?_
  obtain ⟨lt0, hen⟩ := Array.getElem?_eq_some_iff.mp hx
  simp only [show ¬ ((i : Int) < 0) by omega, if_false, Int.toNat_natCast, Array.getElem?_eq_getElem lt0]
  refine wpAny_bind ?_
  first
    | refine wpAny_bind (wpAny_typeNameOfWhole_keyiter ki.typeIs (wpAny_pure ?_))
    | refine wpAny_bind (wpAny_typeNameOf_keyiter ki.typeIs (wpAny_pure ?_))
  refine wpAny_bind (wpAny_isOneOf_keyiter ki.typeIs ?_)
  show wpAny _ _ (setField (.ref it) 1 (rawInt ((i : Int) + 1)) >>= _) _ _ s
  refine wpAny_bind (wpAny_setField ho hd (by simp) ?_)
  have ki' : (s.heap.update it (Obj.mapFields (·.setIfInBounds 1 (rawInt ((i : Int) + 1))))).IsKeyIter it d (i + 1) n ep :=
    ⟨_, Heap.get?_update_self _ ho (Obj.isFreed_of_fields (Obj.data_mapFields hd _)),
      (Obj.cls_mapFields ..).trans hc, by rw [Obj.data_mapFields hd]; simp [rawInt]⟩
  refine wpAny_bind (wpAny_holding ?_)
  refine wpAny_bind (wpAny_isOneOf_keyiter
    (s := { s with heap := s.heap.update it (Obj.mapFields (·.setIfInBounds 1 (rawInt ((i : Int) + 1)))) }) ki'.typeIs ?_)
  show wpAny _ _ (pure es[i].key) _ _ _
  rw [hen]
  exact wpAny_pure (wpAny_pure ⟨_, rfl, wpAny_pure (hQ _ ki' (Heap.SameBut.update ..))⟩)
theorem keyStop {it d : Addr} {i n ep : Nat} {od : Obj} {es : Array DictEntry} {Q : Value → Shared → Prop} (hh : A.handled = none)
    (ki : s.heap.IsKeyIter it d i n ep) (hod : s.heap.get? d = some od) (hdd : od.data = .dict es ep) (hsz : es.size = n) (hge : n ≤ i)
    (hE : ∀ h' e, Heap.ExtBut it s.heap h' → (∃ o, h'.get? e = some o ∧ o.cls = .type "StopIteration") → E (.ref e) { s with heap := h' }) :
    wpAny (model prog w) A (Builtin.SmallTypes.nextOf (.ref it)) Q E s := by
  obtain ⟨o, ho, hc, hd⟩ := id ki
  unfold Builtin.SmallTypes.nextOf
  refine wpAny_bind (wpAny_callSpecial?_slot (name := Str.ofString "__next__") ki.typeIs F.slot_dict_keyiterator_next
    (wpAny_call_entry F.slot_dict_keyiterator_next ki.typeIs F.entry_dict_keyiterator_next ?_
      (F.args_dict_keyiterator_next_1 _)))
  refine wpAny_bind (wpAny_pure ?_)
  refine wpAny_bind ?_
  refine wpAny_bind ?_
  first
    | refine wpAny_bind (wpAny_typeNameOfWhole_keyiter ki.typeIs (wpAny_pure ?_))
    | refine wpAny_bind (wpAny_typeNameOf_keyiter ki.typeIs (wpAny_pure ?_))
  refine wpAny_bind (wpAny_fieldsOf ho hd ?_)
  have own0 : Builtin.Dict_items.ownsTuple "dict_keyiterator" = false := by decide
  simp only [own0, Bool.false_eq_true, if_false]
  show wpAny _ _ (if (Value.ref d == Value.none) = true then _ else _) _ _ s
  rw [if_neg (show ¬ ((Value.ref d == Value.none) = true) from Bool.false_ne_true)]
  refine wpAny_bind (wpAny_pure ?_)
  refine wpAny_bind (wpAny_dictEntries hod hdd ?_)
  rw [if_neg (by rw [hsz]; simp)]
  refine wpAny_bind (wpAny_pure ?_)
  refine wpAny_bind (wpAny_dictEpoch hod hdd ?_)
  rw [if_neg (by simp)]
  refine wpAny_pure ?_
  have ge0 : es.size ≤ i := by omega
  simp only [show ¬ ((i : Int) < 0) by omega, if_false, Int.toNat_natCast, Array.getElem?_eq_none ge0]
  refine wpAny_bind ?_
  first
    | refine wpAny_bind (wpAny_typeNameOfWhole_keyiter ki.typeIs (wpAny_pure ?_))
    | refine wpAny_bind (wpAny_typeNameOf_keyiter ki.typeIs (wpAny_pure ?_))
  show wpAny _ _ (setField (.ref it) 0 .none >>= _) _ _ s
  refine wpAny_bind (wpAny_setField ho hd (by simp) ?_)
  show wpAny _ _ (newExc (.type "StopIteration") [] >>= _) _ _ _
  refine wpAny_bind ?_
  simp only [newExc, newTuple]
  refine wpAny_bind (wpAny_newObj_type ?_ (by size_fits))
  refine wpAny_bind (m := firstArgMember _ _) (wpAny_of_eq (a := Value.none)
    (by first | rfl | (simp only [firstArgMember]; rfl)) ?_)
  refine wpAny_newObj_type ?_ (by size_fits)
  simp only [raiseNew]
  refine wpAny_bind (wpAny_handled ?_)
  first | rw [show A.in1.handled = none from hh] | rw [hh]
  refine wpAny_bind (wpAny_pure (wpAny_throw ?_))
  exact hE _ _ (((Heap.SameBut.update ..).extBut.push _).push _) ⟨_, Heap.get?_push_size _ rfl, rfl⟩
theorem drawsKeys (hh : A.handled = none) (it d : Addr) (hne : d ≠ it) {od : Obj} {es : Array DictEntry} {ep : Nat} (hdd : od.data = .dict es ep) :
    Draws prog w A it [it, d] es.size (fun i v => ∃ en, es[i]? = some en ∧ v = en.key) (fun i h => h.IsKeyIter it d i es.size ep ∧ h.get? d = some od) where
  live := fun i h st => let ⟨o, ho, _⟩ := st.1; ⟨o, ho⟩
  frame := fun i h h' st hk => ⟨st.1.at fun o e => hk it (by simp) o e, hk d (by simp) _ st.2⟩
  item := fun i s Q E hi st hQ => by
    refine keyNext st.1 st.2 hdd rfl (en := es[i]) (by simp [hi]) fun h' ki sb => ?_
    exact hQ _ h' s.toks ⟨_, by simp [hi], rfl⟩ ⟨ki, (sb.2 d hne).trans st.2⟩ sb
  done := fun s Q E st hE => keyStop hh st.1 st.2 hdd rfl (Nat.le_refl _) hE
theorem beginsKeys (d : Addr) (hs : (d == sysModules) = false) {od : Obj} (hx : od.ExactDict) {es : Array DictEntry} {ep : Nat} (hdd : od.data = .dict es ep) :
    Begins (.ref d) { cls := .type "dict_keyiterator", data := .fields #[.ref d, .int 0 0, .int es.size 0, .int ep 0] } fun h => h.get? d = some od where
  iter := fun prog w A E s Q ho h => iter_keys hs ho hx hdd h
  keeps := fun h h' x hk => hk d _ x
  free := rfl
end
/-- the keys of the locked dict at d and the list at b, in new pairs -/
def Itzk (K : PySem.W.Frag) (d : Addr) (o : Obj) (kvs : List (Key × V)) (b : Addr) : It :=
  ⟨fun i H => H d = some (.frz o (.dK kvs)) ∧ i < kvs.length ∧ ∃ (ys : List V) (y : V), SqL K H b ys ∧ ys[i]? = some y,
    fun i H v H' => ∃ T k u y, v = .ref T ∧ H T = none ∧ H' = upd H T (.tup [kV k, y]) ∧ kvs[i]? = some (k, u) ∧ ∀ ys, SqL K H b ys → ys[i]? = some y,
    fun i H => H d = some (.frz o (.dK kvs)) ∧ ∃ ys : List V, SqL K H b ys ∧ i ≤ kvs.length ∧ i ≤ ys.length ∧ (i = kvs.length ∨ i = ys.length)⟩
theorem turnZk {P : Program} {w : World} {K : PySem.W.Frag} {elts : List Expr} {kk : Nat} {tpos : Pos} {d b z TI TO i1 i2 : Addr} {o : Obj} {kvs : List (Key × V)} {es : Array DictEntry} {ep : Nat} (hod : o.data = .dict es ep)
    (D : ZipSep2 z TI TO i1 i2 [i1, d] [i2, b]) (hd : d ≠ i1 ∧ b ≠ i2) :
    Turn P w K (.Tuple elts kk tpos) (Itzk K d o kvs b) [z, TI, TO, i1, i2] z (fun i h => IsZip h z TI TO .none ∧ IsTupOf2 h TI (.ref i1) (.ref i2) ∧ (∃ x y, IsTupOf2 h TO x y) ∧ h.IsKeyIter i1 d i kvs.length ep ∧ h.IsListIter i2 b i) where
  mem := by simp
  obj := fun i h st c hc => by
    obtain ⟨hz, hTI, ⟨x, y, hTO⟩, ⟨o1, e1, _, d1⟩, ⟨o2, e2, _, d2⟩⟩ := st
    have cs : c = z ∨ c = TI ∨ c = TO ∨ c = i1 ∨ c = i2 := by simpa using hc
    rcases cs with q | q | q | q | q
    · rw [q]; exact ⟨_, hz, fun v q => nomatch q⟩
    · rw [q]; exact ⟨_, hTI, fun v q => nomatch q⟩
    · rw [q]; exact ⟨_, hTO, fun v q => nomatch q⟩
    · rw [q]; exact ⟨o1, e1, fun v q => by rw [d1] at q; cases q⟩
    · rw [q]; exact ⟨o2, e2, fun v q => by rw [d2] at q; cases q⟩
  keep := fun i h h' st k => by
    obtain ⟨hz, hTI, ⟨x, y, hTO⟩, h1, h2⟩ := st
    exact ⟨k z (by simp) _ hz, k TI (by simp) _ hTI, ⟨x, y, k TO (by simp) _ hTO⟩,
      h1.at fun o q => k i1 (by simp) o q, h2.at fun o q => k i2 (by simp) o q⟩
  item := by
    intro X hP hw hK hc i pins s σ H E I hf st hg
    subst hP hw hK
    obtain ⟨hz, hTI, ⟨x0, y0, hTO⟩, h1, h2⟩ := st
    obtain ⟨hd0, hi, ys, y, hqy, hy⟩ := hg
    obtain ⟨hs, hgd, hx, es', ep', vs, hdt, hsz, kv, hm⟩ := I.frzK hd0
    obtain ⟨rfl, rfl⟩ := dict_ep hod hdt
    obtain ⟨od, es2, hod2, hcd2, hdd2, hk2, hp2, hn2⟩ := id hm
    have eo : od = o := by
      rw [hgd] at hod2
      exact (Option.some.inj hod2).symm
    subst eo
    obtain ⟨rfl, _⟩ := dict_ep hod hdd2
    obtain ⟨its2, rv2, p2, _⟩ := I.list hqy
    obtain ⟨u2, hu2, ru2⟩ := rv2.get hy
    obtain ⟨⟨k, v⟩, hkv⟩ : ∃ p, kvs[i]? = some p := ⟨kvs[i], List.getElem?_eq_getElem hi⟩
    obtain ⟨u, hu, ru⟩ := kv_get kv hkv
    have hie : i < es2.size := by rw [hsz]; exact hi
    have hie2 : i < its2.length := (List.getElem?_eq_some_iff.mp hu2).1
    have zlt : z < s.heap.objs.size := Heap.lt_size hz
    have h1' : s.heap.IsKeyIter i1 d i es2.size ep' := by rw [hsz]; exact h1
    refine wpAny_pyNext_zipD2_item D (drawsKeys (A := X.A.in1) (I.ok.hd hc) i1 d hd.1 hod)
      (Draws.list (A := X.A.in1) (I.ok.hd hc) i2 b hd.2 its2.toArray)
      hz hTI hTO ⟨h1', hgd⟩ ⟨h2, p2.isList⟩ hie (by simpa using hie2) fun x1 x2 h' tk hx1 hx2 z' TO' h1n h2n hT hszn hk => ?_
    obtain ⟨en, hen, rfl⟩ := hx1
    have ex2 : x2 = u2 := by
      have e : its2.toArray[i]? = some u2 := by simpa using hu2
      rw [e] at hx2
      exact (Option.some.inj hx2).symm
    subst ex2
    have hkey : keyIs k en.key = true := (hp2.get? (e := en) (by rw [Array.getElem?_toList]; exact hen) hu).1
    refine ⟨_, rfl, wpAny_letOwnedTupleGo_zip (s := { s with heap := h', toks := tk }) z' fun h'' z'' sb => ?_⟩
    have hT2 : h''.get? s.heap.objs.size = some { cls := .type "tuple", data := .seq #[en.key, x2] } :=
      (sb.2 _ (Nat.ne_of_gt zlt)).trans hT
    have new : ObjOk X.prog X.w (upd H s.heap.objs.size (.tup [kV k, y])) h'' s.heap.objs.size (.tup [kV k, y]) :=
      ⟨by show 2 ≤ sizeLine; decide, [en.key, x2], .cons (relV_key hkey) (.cons ru2 .nil), ⟨_, hT2, rfl, _, rfl⟩⟩
    have I1 : Inv X pins σ (upd H s.heap.objs.size (.tup [kV k, y])) { s with heap := h'', toks := tk } :=
      I.turnedNew (ch := [z, TI, TO, i1, i2]) (fun c o hb q => (sb.2 c (fun q' => hb (by simp [q']))).trans
        (hk c o (fun q' => hb (by simp [q'])) (fun q' => hb (by simp [q'])) (fun q' => hb (by simp [q'])) (fun q' => hb (by simp [q'])) q)) hf (Nat.le_refl _) new
    refine ⟨.ref s.heap.objs.size, _, I1, rfl,
      ⟨_, k, v, y, rfl, I.hok.fresh (Nat.le_refl _), rfl, hkv, fun l hl => by rw [I.list_inj hl hqy]; exact hy⟩, ⟨z'', ?_, ⟨en.key, x2, ?_⟩, ?_, ?_⟩, fun c hcm => ?_⟩
    · exact (sb.2 _ D.TIz).trans (hk _ _ D.TIz D.TITO D.TIi1 D.TIi2 hTI)
    · exact (sb.2 _ D.TOz).trans TO'
    · have := h1n.1
      rw [hsz] at this
      exact this.at fun o q => (sb.2 _ D.zi1.symm).trans q
    · exact h2n.1.at fun o q => (sb.2 _ D.zi2.symm).trans q
    · have hlt : c < s.heap.objs.size := by
        have cs : c = z ∨ c = TI ∨ c = TO ∨ c = i1 ∨ c = i2 := by simpa using hcm
        rcases cs with q | q | q | q | q
        · rw [q]; exact zlt
        · rw [q]; exact Heap.lt_size hTI
        · rw [q]; exact Heap.lt_size hTO
        · rw [q]; obtain ⟨_, e1, _⟩ := h1; exact Heap.lt_size e1
        · rw [q]; obtain ⟨_, e2, _⟩ := h2; exact Heap.lt_size e2
      rw [upd_ne (Nat.ne_of_lt hlt)]
      exact (hf c hcm).1
  done := by
    intro X hP hw hK hc i pins s σ H E I hf st hg
    subst hP hw hK
    obtain ⟨hz, hTI, ⟨x0, y0, hTO⟩, h1, h2⟩ := st
    obtain ⟨hd0, ys, hqy, hl1, hl2, hend⟩ := hg
    obtain ⟨hs, hgd, hx, es', ep', vs, hdt, hsz, kv, hm⟩ := I.frzK hd0
    obtain ⟨rfl, rfl⟩ := dict_ep hod hdt
    obtain ⟨its2, rv2, p2, _⟩ := I.list hqy
    have l2 := rv2.length
    have h1' : s.heap.IsKeyIter i1 d i es'.size ep' := by rw [hsz]; exact h1
    refine wpAny_pyNext_zipD2_end D (drawsKeys (A := X.A.in1) (I.ok.hd hc) i1 d hd.1 hod)
      (Draws.list (A := X.A.in1) (I.ok.hd hc) i2 b hd.2 its2.toArray)
      hz hTI hTO ⟨h1', hgd⟩ ⟨h2, p2.isList⟩ (by rw [hsz]; exact hl1) (by simp; omega) (by rw [hsz]; simp; omega) fun h' tk hk => ⟨rfl, I.turnedL (ch := [z, TI, TO, i1, i2]) (fun c o hb q =>
      hk c o (fun q' => hb (by simp [q'])) (fun q' => hb (by simp [q'])) (fun q' => hb (by simp [q'])) (fun q' => hb (by simp [q'])) q) hf⟩
  self := fun A i s Q E st h => wpAny_pyIter_zip st.1 h
def iZipK (K : PySem.W.Frag) (ta : TA) : TI := fun σ H R => ta σ H fun vs H1 => ∃ d b o kvs ys, vs = [.ref d, .ref b] ∧ H1 d = some (.frz o (.dK kvs)) ∧ SqL K H1 b ys ∧ R (Itzk K d o kvs b) H1
theorem pi_zipDL (K : PySem.W.Frag) {X : Cx} {e e2 : Expr} {ta : TA} {p pos tpos : Pos} {elts : List Expr} {kk : Nat} (hg : Gl X "zip") (hm : X.mg "zip" = none) (ha : PA X [e, e2] ta)
    (hs : starEach [e, e2] X.env = (false, eval e X.env) :: starEach [e2] X.env := by rfl) (hpl : (backTo pos (starEach [e2] X.env)).any (·.1) = false := by rfl) (hK : X.K = K := by rfl) :
    PI X (.Tuple elts kk tpos) (.Call (.Name "zip" p) [e, e2] [] pos) (iZipK K ta) := by
  subst hK
  refine ⟨fun pins s σ H R I h => ?_⟩
  refine Call_ (ld_blt I hg hm boot_zip (callWith_type1 (thn (ha.run pos pins s σ H _ I h) fun us s1 ⟨vs, H1, I1, r1, q1⟩ => ?_) hs hpl))
  obtain ⟨d, b, o, kvs, ys, ex, hd0, hqy, q⟩ := q1
  subst ex
  cases r1 with
  | cons r rr =>
    cases rr with
    | cons r' rr =>
      cases rr
      cases r
      cases r'
      obtain ⟨hsm, hgd, hxd, es, ep, vs, hdt, hsz, kv, hmm⟩ := I1.frzK hd0
      obtain ⟨its2, rv2, p2, _⟩ := I1.list hqy
      have la : d < s1.heap.objs.size := Heap.lt_size hgd
      have lb : b < s1.heap.objs.size := p2.lt
      refine zip_begins2 (beginsKeys d hsm hxd hdt) (begins_list b its2.toArray) hgd p2.isList fun h' hz hTI hTO h1 h2 hszn hk => wpAny_pyIter_zip hz ?_
      have I2 : Inv X pins σ H1 { s1 with heap := h' } := I1.kept (t' := s1.toks) hk
      have ne : ∀ {a j : Nat}, a < s1.heap.objs.size → a ≠ s1.heap.objs.size + j := fun {a j} h => Nat.ne_of_lt (Nat.lt_of_lt_of_le h (Nat.le_add_right _ _))
      have ki : h'.IsKeyIter s1.heap.objs.size d 0 kvs.length ep := ⟨_, h1, rfl, by rw [hsz]; rfl⟩
      have li : h'.IsListIter (s1.heap.objs.size + 1) b 0 := ⟨_, h2, rfl, rfl⟩
      refine ⟨s1.heap.objs.size + 4, [s1.heap.objs.size + 4, s1.heap.objs.size + 2, s1.heap.objs.size + 3, s1.heap.objs.size, s1.heap.objs.size + 1], _, _, H1, rfl, I2,
        turnZk hdt (zip_sep2 (fun c hc => by simp at hc; rw [hc]; exact la) (fun c hc => by simp at hc; rw [hc]; exact lb)) ⟨ne (j := 0) la, ne lb⟩,
        ⟨hz, hTI, ⟨_, _, hTO⟩, ki, li⟩, fun c hcm => ?_, q⟩
      have cs : c = s1.heap.objs.size + 4 ∨ c = s1.heap.objs.size + 2 ∨ c = s1.heap.objs.size + 3 ∨ c = s1.heap.objs.size ∨ c = s1.heap.objs.size + 1 := by simpa using hcm
      have hle : s1.heap.objs.size ≤ c := by
        rcases cs with z | z | z | z | z <;> rw [z]
        · exact Nat.le_add_right _ _
        · exact Nat.le_add_right _ _
        · exact Nat.le_add_right _ _
        · exact Nat.le_refl _
        · exact Nat.le_add_right _ _
      exact I1.fpOk hle (I1.hok.fresh hle)
theorem jZk {K : PySem.W.Frag} {S : List Addr} {H : Hp} {d b : Addr} {o : Obj} {kvs : List (Key × V)} {ys : List V} (e : H d = some (.frz o (.dK kvs))) (eb : SqL K H b ys) (nb : b ∉ S) (hl : ys.length = kvs.length) :
    JOk (Itzk K d o kvs b) kvs.length S H (fun i x H' => ∃ T k u y, x = .ref T ∧ H' T = some (.tup [kV k, y]) ∧ kvs[i]? = some (k, u) ∧ ys[i]? = some y) where
  go := fun i H' hi f => ⟨f _ _ e (.inr trivial), hi, ys, ys[i]'(by omega), sql_fr eb nb f, by simp⟩
  yld := fun i H' x H'' hi f ⟨T, k, u, y, h1, h2, h3, h4, h5⟩ => by
    subst h3
    exact ⟨Fr.new h2, T, k, u, y, h1, upd_same, h4, h5 ys (sql_fr eb nb f)⟩
  stop := fun H' f => ⟨f _ _ e (.inr trivial), ys, sql_fr eb nb f, Nat.le_refl _, by omega, .inl rfl⟩
/-! ### dict comprehensions -/
def dcQ (J : It) (g : TG) (tt : TT) (tk tv : TE) (vs : List Nat) (σ : L2.St) (H1 : Hp) (Q : VK) : Prop := ∀ D, H1 D = none → ∃ W : Nat → Nat → Hp → Prop, (∃ m, W 0 m (upd H1 D (.dK []))) ∧ ∀ i m H, W i m H →
  (J.stop i H ∧ Q (.ref D) H) ∨ (J.go i H ∧ ∃ Nx : Hp → Prop, (∀ H', Nx H' → ∃ m', m' < m ∧ W (i + 1) m' H') ∧ ∀ x H', J.yld i H x H' → g x (wipe σ vs) H' fun σ2 H2 => wipe σ2 vs = wipe σ vs ∧ tt σ2 H2 fun b H3 =>
    if b = true then tk σ2 H3 fun y H4 => tv σ2 H4 fun z H5 => ∃ kvs k, y = kV k ∧ H5 D = some (.dK kvs) ∧ kvs.length < sizeLine ∧ Nx (upd H5 D (.dK (putK kvs k z))) else Nx H3)
theorem x_dc {wi : TI} {g : TG} {tt : TT} {tk tv : TE} {vs : List Nat} {σ : L2.St} {H : Hp} {Q : VK} (h : wi σ H fun J H1 => dcQ J g tt tk tv vs σ H1 Q) : tDc wi g tt tk tv vs σ H Q := h
/-- a dict comprehension that changes nothing and keeps each item, its keys apart -/
theorem dcJ {J : It} {n : Nat} {Item : Nat → V → Hp → Prop} {g : TG} {tt : TT} {tk tv : TE} {vs : List Nat} {σ : L2.St} {H : Hp} {Q : VK} (j : JOk J n [] H Item) (hn : n < 16777216) (F : Nat → Key × V) (nd : ((List.range n).map fun i => (F i).1).Nodup)
    (hs : ∀ i x H' (E : V → V → Hp → Prop) (E' : Hp → Prop), i < n → Item i x H' → Fr [] H H' → (∀ H4, Fr [] H' H4 → E (kV (F i).1) (F i).2 H4) →
      g x (wipe σ vs) H' fun σ2 H2 => wipe σ2 vs = wipe σ vs ∧ tt σ2 H2 fun b H3 => if b = true then tk σ2 H3 fun y H4 => tv σ2 H4 fun z H5 => E y z H5 else E' H3)
    (hd : ∀ D H', H D = none → Fr [] H H' → H' D = some (.dK ((List.range n).map F)) → Q (.ref D) H') : dcQ J g tt tk tv vs σ H Q := by
  intro D hD
  refine ⟨fun i m H' => m = n - i ∧ i ≤ n ∧ Fr [] H H' ∧ H' D = some (.dK ((List.range i).map F)), ⟨n, by simp, Nat.zero_le _, Fr.new hD, upd_same⟩, ?_⟩
  rintro i m H' ⟨rfl, hi, f, ls⟩
  by_cases hlt : i < n
  · refine .inr ⟨j.go i H' hlt f, fun H2 => Fr [] H H2 ∧ H2 D = some (.dK ((List.range (i + 1)).map F)), fun H2 p2 => ⟨n - (i + 1), by omega, rfl, hlt, p2⟩, fun x H2 y => ?_⟩
    obtain ⟨f2, it⟩ := j.yld i H' x H2 hlt f y
    refine hs i x H2 _ _ hlt it (f.trans f2) fun H4 f3 => ?_
    have new : valV ((List.range i).map F) (F i).1 = none := by
      cases q : valV ((List.range i).map F) (F i).1 with
      | none => rfl
      | some z =>
        exfalso
        have m1 := valV_in q
        rw [List.map_map, List.mem_map] at m1
        obtain ⟨a, ha, e⟩ := m1
        rw [List.mem_range] at ha
        have e1 : ((List.range n).map fun i => (F i).1)[a]? = some (F i).1 := by
          rw [List.getElem?_map, List.getElem?_range (by omega)]
          exact congrArg some e
        have e2 : ((List.range n).map fun i => (F i).1)[i]? = some (F i).1 := by
          rw [List.getElem?_map, List.getElem?_range (by omega)]; rfl
        have := nd_ix nd e1 e2
        omega
    refine ⟨_, _, rfl, f3.get (f2.get ls nin0) nin0, by rw [List.length_map, List.length_range, sizeLine_eq]; omega, ((f.trans f2).trans f3).mut hD, ?_⟩
    rw [upd_same, putK_new _ new, List.range_succ, List.map_append]
    rfl
  · have e : i = n := by omega
    subst e
    exact .inl ⟨j.stop H' f, hd D H' hD f ls⟩
/-- a dict locked while an expression runs -/
theorem x_lockE {t : TE} {σ : L2.St} {H : Hp} {Q : VK} {d : Addr} {u : HO} (e : H d = some u) (m : Mut (some u)) (h : ∀ od, t σ (upd H d (.frz od u)) fun v H' => H' d = some (.frz od u) ∧ Q v (upd H' d u)) : tLockE t σ H Q := ⟨d, u, e, m, h⟩
end Z

set_option maxRecDepth 100000
set_option maxHeartbeats 2000000
/-! Z7: locks, keys of dicts, dict comprehensions over lists, isinstance, lists of data compared with [] -/
namespace Z
open PySem L2
section
variable {K : PySem.W.Frag} {H : Hp} {σ : St} {Q : VK}
def ikQ (x : V) (H : Hp) (R : It → Hp → Prop) : Prop := ∃ d o, x = .ref d ∧ ((∃ kvs, H d = some (.frz o (.dK kvs)) ∧ R (Itk d o kvs) H) ∨ ∃ kvs, H d = some (.frz o (.dT kvs)) ∧ R (Itkt d o kvs) H)
theorem x_lcK {td : TE} {g : TG} {tt : TT} {te : TE} {vs : List Nat} (h : td σ H fun x H1 => ikQ x H1 fun J H2 => lcQ J g tt te vs σ H2 Q) : tLc (iKeys td) g tt te vs σ H Q := h
theorem x_forK {td : TE} {g : TG} {tb : TS} {D : Ends} (h : td σ H fun x H1 => ikQ x H1 fun J H2 => loopQ J g tb D σ H2) : tFor (iKeys td) g tb D σ H := h
theorem ikK {d : Addr} {o : Obj} {kvs : List (Key × V)} {R : It → Hp → Prop} (e : H d = some (.frz o (.dK kvs))) (h : R (Itk d o kvs) H) : ikQ (.ref d) H R := ⟨d, o, rfl, .inl ⟨kvs, e, h⟩⟩
theorem x_lock {t : TS} {D : Ends} {d : Addr} {u : HO} (e : H d = some u) (m : Mut (some u)) (h : ∀ od, t ⟨fun σ' H' => H' d = some (.frz od u) ∧ D.nx σ' (upd H' d u), fun v H' => H' d = some (.frz od u) ∧ D.rt v (upd H' d u), fun σ' H' => H' d = some (.frz od u) ∧ D.bk σ' (upd H' d u), fun σ' H' => H' d = some (.frz od u) ∧ D.ct σ' (upd H' d u)⟩ σ (upd H d (.frz od u))) : tLock t D σ H := ⟨d, u, e, m, h⟩
theorem Fr.lock {S : List Addr} {H' : Hp} {d : Addr} {u : HO} {od : Obj} (e : H d = some u) (f : Fr S (upd H d (.frz od u)) H') : Fr S H (upd H' d u) := fun b o hb c => by
  by_cases q : b = d
  · subst q
    rw [e] at hb
    cases hb
    exact upd_same
  · rw [upd_ne q]
    exact f b o (by rw [upd_ne q]; exact hb) c
/-! dict comprehensions over a list or a zip -/
def dcLQ (K : PySem.W.Frag) (g : TG) (tt : TT) (tk tv : TE) (vs : List Nat) (σ : St) (x : V) (H : Hp) (Q : VK) : Prop := ∃ a, x = .ref a ∧ (∃ xs, SqL K H a xs) ∧ dcQ (Itl K a) g tt tk tv vs σ H Q
theorem x_dcL {tl : TE} {g : TG} {tt : TT} {tk tv : TE} {vs : List Nat} (h : tl σ H fun x H1 => dcLQ K g tt tk tv vs σ x H1 Q) : tDc (iList K tl) g tt tk tv vs σ H Q := h
theorem dcLs {a : Addr} {xs : List V} {g : TG} {tt : TT} {tk tv : TE} {vs : List Nat} (e : SqL K H a xs) (h : dcQ (Itl K a) g tt tk tv vs σ H Q) : dcLQ K g tt tk tv vs σ (.ref a) H Q := ⟨a, rfl, ⟨xs, e⟩, h⟩
def zkQ (K : PySem.W.Frag) (vs : List V) (H : Hp) (R : It → Hp → Prop) : Prop := ∃ d b o kvs ys, vs = [.ref d, .ref b] ∧ H d = some (.frz o (.dK kvs)) ∧ SqL K H b ys ∧ R (Itzk K d o kvs b) H
theorem x_dcZ {ta : TA} {g : TG} {tt : TT} {tk tv : TE} {vs : List Nat} (h : ta σ H fun ws H1 => zkQ K ws H1 fun J H2 => dcQ J g tt tk tv vs σ H2 Q) : tDc (iZipK K ta) g tt tk tv vs σ H Q := h
theorem zkI {d b : Addr} {o : Obj} {kvs : List (Key × V)} {ys : List V} {R : It → Hp → Prop} (e : H d = some (.frz o (.dK kvs))) (eb : SqL K H b ys) (h : R (Itzk K d o kvs b) H) : zkQ K [.ref d, .ref b] H R := ⟨d, b, o, kvs, ys, rfl, e, eb, h⟩
/-! list(range(a, b)) -/
theorem x_listRg {ta tb : TE} (h : ta σ H fun x H1 => tb σ H1 fun y H2 => ∃ i j, x = .int i ∧ y = .int j ∧ RgOk i j ∧ ∀ q, H2 q = none → Q (.ref q) (upd H2 q (.lst (rgV i j)))) : tLstRg (tRg2 ta tb) σ H Q := h
/-! isinstance -/
theorem isiI {T : String} {r : Bool} {i : Int} (h : kitB "int" T = some r) (q : Q (.bl r) H) : rIsi K [.int i, .ty T] H Q := ⟨_, _, _, _, r, rfl, .ty T, .base (.int i), kit_ty h, q⟩
theorem isiB {T : String} {r b : Bool} (h : kitB "bool" T = some r) (q : Q (.bl r) H) : rIsi K [.bl b, .ty T] H Q := ⟨_, _, _, _, r, rfl, .ty T, .base (.bl b), kit_ty h, q⟩
theorem isiN {T : String} {r : Bool} (h : kitB "NoneType" T = some r) (q : Q (.bl r) H) : rIsi K [.non, .ty T] H Q := ⟨_, _, _, _, r, rfl, .ty T, .base .non, kit_ty h, q⟩
theorem isiD {T : String} {r : Bool} {a : Addr} {kvs : List (Key × V)} (e : H a = some (.dK kvs)) (h : kitB "dict" T = some r) (q : Q (.bl r) H) : rIsi K [.ref a, .ty T] H Q := ⟨_, _, _, _, r, rfl, .ty T, .base (.dK e), kit_ty h, q⟩
/-! x != [] -/
theorem neNil {ds : List PyData} {a b : Addr} (h : LS K H a ds) (e : H b = some (.lst [])) (s : SeqAt.shaped (.list ds) = true) (q : Q (.bl (!ds.isEmpty)) H) : rNeD K (.ref a) (.ref b) H Q := by
  obtain ⟨vs, h1, h2⟩ := h
  refine ⟨.list ds, .list [], .lst (SqL.of h1) (h2.dp), .lst (SqL.of e) .nil, s, by decide +kernel, ?_⟩
  have e1 : PyData.eqv (.list ds) (.list []) = ds.isEmpty := by
    cases ds with
    | nil => decide +kernel
    | cons d ds => simp [PyData.eqv, PyData.eqvAll]
  rw [e1]
  exact q
theorem shaped_list {n : Nat} (hn : n ≤ 63) : ∀ {ds : List PyData}, (∀ d ∈ ds, PyData.canLay0 d = true ∧ PyData.depth d ≤ n) → SeqAt.shaped (.list ds) = true := by
  have key : ∀ ds : List PyData, (∀ d ∈ ds, PyData.canLay0 d = true ∧ PyData.depth d ≤ n) → PyData.canLayAll0 ds = true ∧ PyData.depthAll ds ≤ n := by
    intro ds
    induction ds with
    | nil => intro _; exact ⟨rfl, Nat.zero_le _⟩
    | cons d ds ih =>
      intro h
      have ⟨h1, h2⟩ := ih fun x hx => h x (List.mem_cons_of_mem _ hx)
      have ⟨h3, h4⟩ := h d List.mem_cons_self
      refine ⟨by simp [PyData.canLayAll0, h1, h3], ?_⟩
      simp only [PyData.depthAll]
      omega
  intro ds h
  have ⟨h1, h2⟩ := key ds h
  unfold SeqAt.shaped
  rw [Bool.and_eq_true]
  refine ⟨by simpa [PyData.canLay0] using h1, ?_⟩
  rw [decide_eq_true_eq]
  simp only [PyData.depth]
  omega
theorem shaped_ints (ns : List Int) : SeqAt.shaped (.list (ns.map PyData.int)) = true := by
  refine shaped_list (n := 1) (by omega) fun d hd => ?_
  obtain ⟨i, _, rfl⟩ := List.mem_map.mp hd
  exact ⟨rfl, by simp [PyData.depth]⟩
theorem bmLS {P : Prop} {a : Addr} {ds : List PyData} (e : LS K H a ds) (h : P) : bmQ K "list" (.ref a) H P := by
  obtain ⟨vs, e, _⟩ := e
  exact bmL e h
theorem ifN' {b : Bool} {A B : Prop} (h1 : b = false → A) (h2 : b = true → B) : if (!b) = true then A else B := by
  cases b with
  | true => exact h2 rfl
  | false => exact h1 rfl
/-! slices -/
def partQ (x : V) (H : Hp) (Q : Option Int → Hp → Prop) : Prop := ∃ i, x = .int i ∧ Q (some i) H
theorem x_sl {r : V → Option Int → Option Int → Hp → VK → Prop} {te : TE} {tl th : TO} (h : te σ H fun x H1 => tl σ H1 fun l H2 => th σ H2 fun u H3 => r x l u H3 Q) : L2.tSl r te tl th σ H Q := h
theorem x_part {te : TE} {QO : Option Int → Hp → Prop} (h : te σ H fun x H1 => partQ x H1 QO) : tPart te σ H QO := h
theorem x_nopart {QO : Option Int → Hp → Prop} (h : QO none H) : tNoPart σ H QO := h
theorem partI {i : Int} {QO : Option Int → Hp → Prop} (h : QO (some i) H) : partQ (.int i) H QO := ⟨i, rfl, h⟩
theorem slL {a : Addr} {xs : List V} {lo : Int} (e : SqL K H a xs) (h0 : 0 ≤ lo) (h1 : lo ≤ xs.length) (h : ∀ p, H p = none → Q (.ref p) (upd H p (.lst (xs.drop lo.toNat)))) : rSlL K (.ref a) (some lo) none H Q := by
  refine ⟨a, xs, rfl, e, ?_⟩
  have e1 : cutV xs (some lo) none = xs.drop lo.toNat := by
    unfold cutV
    have : HT.sIx xs.length 0 (some lo) = lo.toNat := by
      have hlo : lo = ((lo.toNat : Nat) : Int) := by omega
      rw [hlo, HT.sIx_nat]; omega
    rw [this]
    have : HT.sIx xs.length xs.length none = xs.length := rfl
    rw [this]
    exact List.take_of_length_le (by rw [List.length_drop]; exact Nat.le_refl _)
  rw [e1]
  exact h
/-! in a list of ints -/
theorem inV_ints (x : Int) (xs : List Int) : inV (.int x) (xs.map V.int) = decide (x ∈ xs) := by
  unfold inV
  rw [List.any_map, Bool.eq_iff_iff, List.any_eq_true, decide_eq_true_eq]
  constructor
  · rintro ⟨y, hy, e⟩
    have : y = x := by simpa [eqV] using e
    subst this; exact hy
  · intro h
    exact ⟨x, h, by simp [eqV]⟩
theorem flat_ints (xs : List Int) : (xs.map V.int).all flatV = true := by rw [List.all_map, List.all_eq_true]; intro x _; rfl
theorem notIn {a : Addr} {x : Int} {xs : List Int} (e : H a = some (.lst (xs.map V.int))) (q : Q (.bl (!decide (x ∈ xs))) H) : rIn K true (.int x) (.ref a) H Q :=
  ⟨a, _, rfl, .inl (SqL.of e), rfl, flat_ints xs, by rw [inV_ints]; exact q⟩
end
end Z

set_option maxRecDepth 100000
set_option maxHeartbeats 1000000
/-! R3: tables of plans, orders, what the first misfit is -/
namespace R
open PySem L2 Z
/-! ### tables -/
def tabD (tab : List (Int × Nat)) : List (Key × V) := tab.map fun p => ((Sum.inl p.1 : Key), nV p.2)
def tget (tab : List (Int × Nat)) (l : Int) : Option Nat := (tab.find? fun p => decide (p.1 = l)).map (·.2)
theorem val_tab (tab : List (Int × Nat)) (l : Int) : valV (tabD tab) (Sum.inl l) = (tget tab l).map nV := by
  induction tab with
  | nil => rfl
  | cons p r ih =>
    by_cases h : p.1 = l
    · simp [tabD, valV, tget, h]
    · have e1 : ¬ ((Sum.inl p.1 : Key) = Sum.inl l) := fun z => h (Sum.inl.inj z)
      have := ih
      simp only [tabD, valV, tget] at this ⊢
      simp [List.find?_cons, h, e1] at this ⊢
      exact this
theorem nV_inj {a b : Nat} (h : nV a = nV b) : a = b := by
  have := V.int.inj h
  omega
theorem onV_inj {a b : Option Nat} (h : a.map nV = b.map nV) : a = b := by
  cases a with
  | none => cases b with
    | none => rfl
    | some y => cases h
  | some x => cases b with
    | none => cases h
    | some y => rw [nV_inj (Option.some.inj h)]
theorem tab_len (tab : List (Int × Nat)) : (tabD tab).length = tab.length := by unfold tabD; rw [List.length_map]
theorem tab_keys (tab : List (Int × Nat)) : (tabD tab).map (·.1) = (tab.map (·.1)).map Sum.inl := by unfold tabD; rw [List.map_map, List.map_map]; rfl
theorem tget_mem {tab : List (Int × Nat)} {l : Int} {e : Nat} (h : tget tab l = some e) : (l, e) ∈ tab := by
  unfold tget at h
  cases q : tab.find? fun p => decide (p.1 = l) with
  | none => rw [q] at h; cases h
  | some p =>
    rw [q] at h
    have h1 := List.mem_of_find?_eq_some q
    have h2 := List.find?_some q
    simp at h h2
    obtain ⟨a, b⟩ := p
    simp at h h2
    subst h h2
    exact h1
theorem mem_tget {tab : List (Int × Nat)} (nd : (tab.map (·.1)).Nodup) {l : Int} {e : Nat} (h : (l, e) ∈ tab) : tget tab l = some e := by
  induction tab with
  | nil => cases h
  | cons p r ih =>
    rw [List.map_cons, List.nodup_cons] at nd
    rcases List.mem_cons.mp h with e1 | h1
    · subst e1; simp [tget]
    · have hne : ¬ p.1 = l := fun z => nd.1 (List.mem_map.mpr ⟨(l, e), h1, z.symm⟩)
      have := ih nd.2 h1
      unfold tget at this ⊢
      rw [List.find?_cons]
      simp [hne]
      simpa using this
theorem tget_some {tab : List (Int × Nat)} {l : Int} : (tget tab l).isSome = true ↔ l ∈ tab.map (·.1) := by
  constructor
  · intro h
    obtain ⟨e, he⟩ := Option.isSome_iff_exists.mp h
    exact List.mem_map.mpr ⟨_, tget_mem he, rfl⟩
  · intro h
    obtain ⟨p, hp, rfl⟩ := List.mem_map.mp h
    unfold tget
    rw [Option.isSome_map, List.find?_isSome]
    exact ⟨p, hp, by simp⟩
/-- an entry written -/
theorem tab_put {tab : List (Int × Nat)} (nd : (tab.map (·.1)).Nodup) (l : Int) (e : Nat) : ∃ t', putK (tabD tab) (Sum.inl l) (nV e) = tabD t' ∧ (t'.map (·.1)).Nodup ∧ t'.length ≤ tab.length + 1 ∧ ∀ x, tget t' x = if x = l then some e else tget tab x := by
  have fin : ∀ t', putK (tabD tab) (Sum.inl l) (nV e) = tabD t' → ∀ x, tget t' x = if x = l then some e else tget tab x := fun t' h x => by
    apply onV_inj
    rw [← val_tab, ← h, valV_put]
    by_cases c : x = l
    · subst c; rw [if_pos rfl, if_pos rfl]; rfl
    · rw [if_neg (fun z => c (Sum.inl.inj z)), if_neg c, val_tab]
  by_cases c : (tget tab l).isSome = true
  · have e1 : putK (tabD tab) (Sum.inl l) (nV e) = tabD (tab.map fun p => if p.1 = l then (p.1, e) else p) := by
      unfold putK
      rw [if_pos (by rw [valV_any, val_tab, Option.isSome_map]; exact c)]
      unfold tabD
      rw [List.map_map, List.map_map]
      apply List.map_congr_left
      intro p _
      simp only [Function.comp]
      by_cases h : p.1 = l
      · rw [if_pos h, if_pos (by rw [h])]
      · rw [if_neg h, if_neg (fun z => h (Sum.inl.inj z))]
    refine ⟨_, e1, ?_, by rw [List.length_map]; omega, fin _ e1⟩
    have e2 : (tab.map fun p => if p.1 = l then (p.1, e) else p).map (·.1) = tab.map (·.1) := by
      rw [List.map_map]
      apply List.map_congr_left
      intro p _
      simp only [Function.comp]
      split <;> rfl
    rw [e2]; exact nd
  · have e1 : putK (tabD tab) (Sum.inl l) (nV e) = tabD (tab ++ [(l, e)]) := by
      rw [putK_new _ (by rw [val_tab]; cases h : tget tab l with | none => rfl | some y => rw [h] at c; exact absurd rfl c)]
      unfold tabD
      rw [List.map_append]; rfl
    refine ⟨_, e1, ?_, by rw [List.length_append]; simp, fin _ e1⟩
    rw [List.map_append, List.nodup_append]
    refine ⟨nd, by simp, ?_⟩
    intro a ha b hb
    simp at hb
    subst hb
    rintro rfl
    exact c (tget_some.mpr ha)
theorem tab_drop {tab : List (Int × Nat)} (nd : (tab.map (·.1)).Nodup) (l : Int) : ∃ t', dropK (tabD tab) (Sum.inl l) = tabD t' ∧ (t'.map (·.1)).Nodup ∧ t'.length ≤ tab.length ∧ ∀ x e, (x, e) ∈ t' → (x, e) ∈ tab := by
  refine ⟨tab.filter fun p => decide (p.1 ≠ l), ?_, ?_, List.length_filter_le _ _, fun x e h => (List.mem_filter.mp h).1⟩
  · unfold dropK tabD
    rw [List.filter_map]
    congr 1
    apply List.filter_congr
    intro p _
    simp only [Function.comp]
    rw [Bool.eq_iff_iff, decide_eq_true_eq, decide_eq_true_eq]
    exact ⟨fun h z => h (by rw [z]), fun h z => h (Sum.inl.inj z)⟩
  · have : ((tab.filter fun p => decide (p.1 ≠ l)).map (·.1)).Sublist (tab.map (·.1)) := (List.filter_sublist).map _
    exact this.nodup nd
/-! ### orders -/
def sv (s : Bool) : Str := if s = true then "all" else "some"
theorem sv_inj {a b : Bool} : sv a = sv b ↔ a = b := by
  have h1 : ¬ (("all" : Str) = "some") := by decide +kernel
  have h2 : ¬ (("some" : Str) = "all") := by decide +kernel
  cases a <;> cases b
  · exact ⟨fun _ => rfl, fun _ => rfl⟩
  · exact ⟨fun h => absurd h h2, fun h => by cases h⟩
  · exact ⟨fun h => absurd h h1, fun h => by cases h⟩
  · exact ⟨fun _ => rfl, fun _ => rfl⟩
def pairD (p : Int × Bool) : PyData := .tuple [.int p.1, .str (sv p.2)]
theorem pair_at {K : PySem.W.Frag} {H : Hp} {v : V} {p : Int × Bool} (h : Im K H v (pairD p)) : ∃ a, v = .ref a ∧ H a = some (.tup [.int p.1, .str (sv p.2)]) := by
  obtain ⟨a, xs, rfl, e, hi⟩ := im_tup h
  obtain ⟨v1, r, rfl, i1, hi⟩ := all_cons hi
  obtain ⟨v2, r, rfl, i2, hi⟩ := all_cons hi
  rw [all_nil hi, im_int i1, im_str i2] at e
  exact ⟨a, rfl, e⟩
def Before (os : List (Int × Bool)) (i : Nat) (s : Bool) (x : Int) : Prop := ∃ j, j < i ∧ os[j]? = some (x, s)
theorem before_zero {os : List (Int × Bool)} {s : Bool} {x : Int} : ¬ Before os 0 s x := fun ⟨j, h, _⟩ => by omega
theorem before_succ {os : List (Int × Bool)} {i : Nat} {l : Int} {t s : Bool} {x : Int} (h : os[i]? = some (l, t)) : Before os (i + 1) s x ↔ Before os i s x ∨ (s = t ∧ x = l) := by
  constructor
  · rintro ⟨j, h1, h2⟩
    by_cases c : j = i
    · subst c
      rw [h] at h2
      cases h2
      exact .inr ⟨rfl, rfl⟩
    · exact .inl ⟨j, by omega, h2⟩
  · rintro (⟨j, h1, h2⟩ | ⟨rfl, rfl⟩)
    · exact ⟨j, by omega, h2⟩
    · exact ⟨i, by omega, h⟩
/-- the letter at i is the side's own and has no edge, or one that hangs on a letter not ahead -/
def Bad (rs : List Row) (sd : Bool) (os : List (Int × Bool)) (T : Int → Option Nat) (i : Nat) : Prop := ∃ l, os[i]? = some (l, sd) ∧ (T l = none ∨ ∃ e k x, T l = some e ∧ Cn rs [e] k ∧ rs[k]? = some (.letter x) ∧ ¬ Before os i (!sd) x)
def Res (rs : List Row) (sd : Bool) (os : List (Int × Bool)) (T : Int → Option Nat) (v : V) : Prop :=
  (∃ i l, os[i]? = some (l, sd) ∧ Bad rs sd os T i ∧ (∀ j, j < i → ¬ Bad rs sd os T j) ∧ v = .int l) ∨
  ((∀ j, ¬ Bad rs sd os T j) ∧ ∃ l, (T l).isSome = true ∧ ¬ Before os os.length sd l ∧ (∀ l', l' < l → (T l').isSome = true → Before os os.length sd l') ∧ v = .int l) ∨
  ((∀ j, ¬ Bad rs sd os T j) ∧ (∀ l, (T l).isSome = true → Before os os.length sd l) ∧ v = .non)
theorem Res.uniq {rs : List Row} {sd : Bool} {os : List (Int × Bool)} {T : Int → Option Nat} {v w : V} (a : Res rs sd os T v) (b : Res rs sd os T w) : v = w := by
  rcases a with ⟨i, l, h1, h2, h3, rfl⟩ | ⟨h1, l, h2, h3, h4, rfl⟩ | ⟨h1, h2, rfl⟩
  · rcases b with ⟨i', l', g1, g2, g3, rfl⟩ | ⟨g1, _⟩ | ⟨g1, _⟩
    · have : i = i' := by
        rcases Nat.lt_trichotomy i i' with c | c | c
        · exact absurd h2 (g3 _ c)
        · exact c
        · exact absurd g2 (h3 _ c)
      subst this
      rw [h1] at g1
      cases g1; rfl
    · exact absurd h2 (g1 i)
    · exact absurd h2 (g1 i)
  · rcases b with ⟨i', l', g1, g2, g3, rfl⟩ | ⟨g1, l', g2, g3, g4, rfl⟩ | ⟨g1, g2, rfl⟩
    · exact absurd g2 (h1 i')
    · have : l = l' := by
        rcases Int.lt_trichotomy l l' with c | c | c
        · exact absurd (g4 _ c h2) h3
        · exact c
        · exact absurd (h4 _ c g2) g3
      rw [this]
    · exact absurd (g2 l h2) h3
  · rcases b with ⟨i', l', g1, g2, g3, rfl⟩ | ⟨g1, l', g2, g3, g4, rfl⟩ | ⟨g1, g2, rfl⟩
    · exact absurd g2 (h1 i')
    · exact absurd (h2 l' g2) g3
    · rfl
theorem Res.shape {rs : List Row} {sd : Bool} {os : List (Int × Bool)} {T : Int → Option Nat} {v : V} (a : Res rs sd os T v) : (∃ l : Int, v = .int l) ∨ v = .non := by
  rcases a with ⟨i, l, _, _, _, rfl⟩ | ⟨_, l, _, _, _, rfl⟩ | ⟨_, _, rfl⟩
  · exact .inl ⟨_, rfl⟩
  · exact .inl ⟨_, rfl⟩
  · exact .inr rfl
theorem bad_lt {rs : List Row} {sd : Bool} {os : List (Int × Bool)} {T : Int → Option Nat} {j : Nat} (h : Bad rs sd os T j) : j < os.length := by
  obtain ⟨l, h, _⟩ := h
  exact (List.getElem?_eq_some_iff.mp h).1
/-! ### edges that reach letters ahead alone -/
def Ok (rs : List Row) (e : Nat) (ah : List Int) : Prop := e / 2 < rs.length ∧ ∀ k l, Rch rs (e / 2) k → rs[k]? = some (.letter l) → l ∈ ah
theorem Ok.pre {rs rs' : List Row} {e : Nat} {ah : List Int} (h : Ok rs e ah) (w : WF rs) (p : rs <+: rs') : Ok rs' e ah := by
  refine ⟨Nat.lt_of_lt_of_le h.1 p.length_le, fun k l hr hk => ?_⟩
  have hr2 := hr.unpre w p h.1
  have := hr2.le w
  refine h.2 k l hr2 ?_
  obtain ⟨t, rfl⟩ := p
  rw [List.getElem?_append_left (by have := h.1; omega)] at hk
  exact hk
theorem Ok.weak {rs : List Row} {e : Nat} {ah bh : List Int} (h : Ok rs e ah) (s : ∀ x ∈ ah, x ∈ bh) : Ok rs e bh := ⟨h.1, fun k l a b => s _ (h.2 k l a b)⟩
theorem opp_half (e : Nat) : opp e / 2 = e / 2 := by unfold opp; split <;> omega
theorem Ok.opp {rs : List Row} {e : Nat} {ah : List Int} (h : Ok rs e ah) : Ok rs (R.opp e) ah := by
  unfold Ok; rw [opp_half]; exact h
theorem ok_const {rs : List Row} {e : Nat} {ah : List Int} (h0 : rs.head? = some .no) (he : e / 2 = 0) : Ok rs e ah := by
  have e0 : rs[0]? = some .no := by rw [← List.head?_eq_getElem?]; exact h0
  refine ⟨by rw [he]; exact (List.getElem?_eq_some_iff.mp e0).1, fun k l hr hk => ?_⟩
  rw [he] at hr
  rw [hr.zero h0, e0] at hk
  cases hk
theorem edge_half (rs : List Row) (r : Row) : edgeOf rs r / 2 = rs.idxOf r := by unfold edgeOf; omega
theorem ok_leaf {rs : List Row} {l : Int} {ah : List Int} (h : l ∈ ah) : Ok (addRow rs (.letter l)) (edgeOf rs (.letter l)) ah := by
  unfold Ok
  rw [edge_half]
  refine ⟨lt_idx, fun k x hr hk => ?_⟩
  have e0 := at_idx (rs := rs) (r := .letter l)
  cases hr with
  | refl _ => rw [e0] at hk; cases hk; exact h
  | left e _ => rw [e0] at e; cases e
  | right e _ => rw [e0] at e; cases e
theorem wf_letter {rs : List Row} (w : WF rs) (l : Int) : WF (addRow rs (.letter l)) := w.add fun a b e => by cases e
theorem both_pre (rs : List Row) (a b : Nat) : rs <+: (bothE rs a b).2 := by
  unfold bothE
  repeat' split
  all_goals first | exact List.prefix_refl _ | exact pre_addRow _ _
theorem both_len (rs : List Row) (a b : Nat) : (bothE rs a b).2.length ≤ rs.length + 1 := by
  unfold bothE
  repeat' split
  all_goals first | exact Nat.le_succ _ | exact len_addRow _ _
theorem both_wf {rs : List Row} {a b : Nat} (w : WF rs) (ha : a / 2 < rs.length) (hb : b / 2 < rs.length) : WF (bothE rs a b).2 := by
  unfold bothE
  repeat' split
  all_goals first | exact w | skip
  refine w.add fun x y e => ?_
  cases e
  rcases Nat.le_total a b with h | h
  · rw [Nat.min_eq_left h, Nat.max_eq_right h]; exact ⟨ha, hb⟩
  · rw [Nat.min_eq_right h, Nat.max_eq_left h]; exact ⟨hb, ha⟩
theorem both_lt {rs : List Row} {a b : Nat} (h0 : 0 < rs.length) (ha : a / 2 < rs.length) (hb : b / 2 < rs.length) : (bothE rs a b).1 / 2 < (bothE rs a b).2.length := by
  unfold bothE
  repeat' split
  · simpa using h0
  · exact hb
  · exact ha
  · show edgeOf rs _ / 2 < (addRow rs _).length
    rw [edge_half]; exact lt_idx
theorem both_ok {rs : List Row} {a b : Nat} {ah : List Int} (h0 : rs.head? = some .no) (w : WF rs) (ha : Ok rs a ah) (hb : Ok rs b ah) : Ok (bothE rs a b).2 (bothE rs a b).1 ah := by
  have w2 := both_wf w ha.1 hb.1
  unfold bothE at w2 ⊢
  repeat' split
  · show Ok rs 0 ah; exact ok_const h0 (Nat.zero_div 2)
  · exact hb
  · exact ha
  · rename_i h1 h2 h3
    rw [if_neg h1, if_neg h2, if_neg h3] at w2
    have p := pre_addRow rs (.both (min a b) (max a b))
    have e0 := at_idx (rs := rs) (r := .both (min a b) (max a b))
    have hm : Ok (addRow rs (.both (min a b) (max a b))) (min a b) ah ∧ Ok (addRow rs (.both (min a b) (max a b))) (max a b) ah := by
      rcases Nat.le_total a b with h | h
      · rw [Nat.min_eq_left h, Nat.max_eq_right h] at p ⊢; exact ⟨ha.pre w p, hb.pre w p⟩
      · rw [Nat.min_eq_right h, Nat.max_eq_left h] at p ⊢; exact ⟨hb.pre w p, ha.pre w p⟩
    show Ok (addRow rs _) (edgeOf rs _) ah
    unfold Ok
    rw [edge_half]
    refine ⟨lt_idx, fun k x hr hk => ?_⟩
    cases hr with
    | refl _ => rw [e0] at hk; cases hk
    | left e hr =>
      rw [e0] at e
      cases e
      exact hm.1.2 k x hr hk
    | right e hr =>
      rw [e0] at e
      cases e
      exact hm.2.2 k x hr hk
end R

section
open PySem L2 Z
local macro_rules | `(tactic| walk_at "ne0") => `(tactic| first
  | (with_reducible assumption)
  | (with_reducible exact Ne.symm (by assumption)))
local macro_rules | `(tactic| walk_at "hg0") => `(tactic| first
  | (with_reducible assumption)
  | (with_reducible exact upd_same)
  | ((with_reducible refine (upd_ne ?_).trans ?_); (walk_at "ne0"); (walk_at "hg0")))
local macro_rules | `(tactic| walk_at "ne") => `(tactic| first
  | (with_reducible assumption)
  | (with_reducible exact Ne.symm (by assumption))
  | exact ne1 (by with_reducible assumption) (by walk_at "hg0")
  | exact ne2 (by with_reducible assumption) (by walk_at "hg0"))
local macro_rules | `(tactic| walk_at "nin") => `(tactic| first
  | (with_reducible assumption)
  | (with_reducible exact nin0)
  | ((with_reducible refine nin1 ?_ ?_) <;> first | walk_at "ne" | walk_at "nin"))
local macro_rules | `(tactic| walk_at "hg") => `(tactic| first
  | (with_reducible assumption)
  | (with_reducible exact upd_same)
  | ((with_reducible refine (upd_ne ?_).trans ?_); (walk_at "ne"); (walk_at "hg"))
  | ((with_reducible refine Fr.get (by assumption) ?_ ?_); (walk_at "hg"); (walk_at "nin")))
local macro_rules | `(tactic| walk_at "im") => `(tactic| first
  | (with_reducible assumption)
  | (with_reducible exact Im.int _)
  | (with_reducible exact Im.str _)
  | (with_reducible exact Im.bl _)
  | (with_reducible exact Im.non)
  | (exact Im.mono (by with_reducible assumption) _ _ (by walk_at "im"))
  | ((with_reducible refine Im.mono (Fr.new (S := []) ?_) _ _ ?_); (with_reducible assumption); (walk_at "im")))
local macro_rules | `(tactic| walk_at "side") => `(tactic| first
  | decide
  | (first | omega | (dsimp only [CDiv, CDivN, CMul, CPow]; omega))
  | (show (_ : Int) < _; omega))
local macro_rules | `(tactic| walk_at "nn") => `(tactic| first
  | (with_reducible assumption)
  | (with_reducible exact un1 (by assumption))
  | (with_reducible exact un1 (un1 (by assumption)))
  | (with_reducible exact un1 (un1 (un1 (by assumption))))
  | (with_reducible exact un1 (un1 (un1 (un1 (by assumption)))))
  | (with_reducible exact un1 (un1 (un1 (un1 (un1 (by assumption))))))
  | ((with_reducible refine Fr.back (by assumption) ?_ ?_); (walk_at "nn"); (walk_at "nin")))
local macro_rules | `(tactic| walk_at "nf") => `(tactic| first
  | exact not_fixed_lst | exact not_fixed_dK | exact not_fixed_dT | exact not_fixed_ins | exact fun z => z)
local macro_rules | `(tactic| walk_at "fr") => `(tactic| first
  | (with_reducible assumption)
  | (with_reducible exact Fr.refl)
  | ((with_reducible refine Fr.mS ?_ ?_ ?_); (focus (simp; done)); (exact ⟨_, by walk_at "hg", by walk_at "nf"⟩); (walk_at "fr"))
  | ((with_reducible refine Fr.mN ?_ ?_); (walk_at "nn"); (walk_at "fr"))
  | ((with_reducible refine Fr.transR (by assumption) ?_); (walk_at "fr"))
  | ((with_reducible refine Fr.transW (by assumption) ?_ ?_); (focus (simp; done)); (walk_at "fr")))
local macro_rules | `(tactic| walk_at "sz") => `(tactic| first
  | exact of_decide_eq_true rfl | omega | (focus (simp; done)))
local macro_rules | `(tactic| walk_at "xs1") => `(tactic| first
  | ((with_reducible show tSeq _ _ _ _ _); refine x_seq ?_)
  | ((with_reducible show tVar _ _ _ _); refine x_var rfl ?_)
  | ((with_reducible show tC _ _ _ _); refine x_c ?_)
  | ((with_reducible show tAsg _ (gName _) _ _ _); refine x_asgN ?_)
  | ((with_reducible show tAsg _ _ _ _ _); refine x_asg ?_)
  | ((with_reducible show tOp _ _ _ _ _ _); refine x_op ?_)
  | ((with_reducible show tUn _ _ _ _ _); refine x_un ?_)
  | ((with_reducible show tNext _ _ _); refine x_next ?_)
  | ((with_reducible show tDrop _ _ _ _); refine x_drop ?_)
  | ((with_reducible show tRet _ _ _ _); refine x_ret ?_)
  | ((with_reducible show tRetN _ _ _); refine x_retN ?_)
  | ((with_reducible show tIfS _ _ _ _ _ _); refine x_if ?_)
  | ((with_reducible show tTest _ _ _ _); refine x_test ?_)
  | ((with_reducible show tB _ _ _ _); refine x_tB ?_)
  | ((with_reducible show blQ (V.bl _) _ _); refine x_bl ?_)
  | ((with_reducible show tAnd _ _ _ _ _); refine x_and ?_)
  | ((with_reducible show tOr _ _ _ _ _); refine x_or ?_)
  | ((with_reducible show tNot _ _ _ _); refine x_not ?_)
  | ((with_reducible show tAndV _ _ _ _ _); refine x_andV ?_)
  | ((with_reducible show tOrV _ _ _ _ _); refine x_orV ?_)
  | ((with_reducible show tNotV _ _ _ _); refine x_notV ?_)
  | ((with_reducible show tIf _ _ _ _ _ _); refine x_ifE ?_)
  | ((with_reducible show tNil _ _ _); refine x_tnil ?_)
  | ((with_reducible show tCons _ _ _ _ _); refine x_tcons ?_)
  | ((with_reducible show tTup _ _ _ _); refine x_tup ?_)
  | ((with_reducible show tLst _ _ _ _); refine x_lst ?_)
  | ((with_reducible show tFld _ _ _ _ _ _); refine x_fld ?_)
  | ((with_reducible show tCall _ _ _ _ _ _ _); refine x_call ?_)
  | ((with_reducible show tMeth _ _ _ _ _ _ _ _ _ _); refine x_meth ?_)
  | ((with_reducible show tMake _ _ _ _ _ _ _ _); refine x_make ?_)
  | ((with_reducible show tCB _ _ _ _ _); refine x_cb ?_)
  | ((with_reducible show tBM _ _ _ _ _ _ _ _); refine x_bm ?_)
  | ((with_reducible show tBM0 _ _ _ _ _ _ _); refine x_bm0 ?_)
  | ((with_reducible show tTruth _ _ _ _ _); refine x_truth ?_)
  | ((with_reducible show tDGet _ _ _ _ _); refine x_dget ?_)
  | ((with_reducible show tDGet2 _ _ _ _ _ _); refine x_dget2 ?_)
  | ((with_reducible show tDPop1 _ _ _ _ _); refine x_dpop1 ?_)
  | ((with_reducible show isdQ (V.ref _) _ _); refine isdK (.inl (by walk_at "hg")) ?_)
  | ((with_reducible show tDIn _ _ _ _ _); refine x_din ?_)
  | ((with_reducible show tDNotIn _ _ _ _ _); refine x_dnin ?_)
  | ((with_reducible show sDPut _ _ _ _ _ _); refine x_dput ?_)
  | ((with_reducible show sFld _ _ _ _ _ _ _); refine x_sfld ?_)
  | ((with_reducible show gName _ _ _ _ _); refine x_gname ?_)
  | ((with_reducible show gCons _ _ (_ :: _) _ _ _); refine x_gcons ?_)
  | ((with_reducible show gNil [] _ _ _); refine x_gnil ?_)
  | ((with_reducible show gSub _ _ _ _ _ _ _); refine x_gsub ?_)
  | ((with_reducible show tFor (iList _ _) _ _ _ _ _); refine x_forL ?_)
  | ((with_reducible show tFor (iRng1 _) _ _ _ _ _); refine x_rng1 ?_)
  | ((with_reducible show tFor (iRng2 _) _ _ _ _ _); refine x_rng2 ?_)
  | ((with_reducible show tFor (iRng3 _) _ _ _ _ _); refine x_rng3 ?_)
  | ((with_reducible show tFor (iKeys _) _ _ _ _ _); refine x_forK ?_)
  | ((with_reducible show tFor _ _ _ _ _ _); refine x_for ?_)
  | ((with_reducible show tBreak _ _ _); refine x_brk ?_)
  | ((with_reducible show tLc (iList _ _) _ _ _ _ _ _ _); refine x_lcL ?_)
  | ((with_reducible show tLc (iRng1 _) _ _ _ _ _ _ _); refine x_lcR1 ?_)
  | ((with_reducible show tLc (iRng2 _) _ _ _ _ _ _ _); refine x_lcR2 ?_)
  | ((with_reducible show tLc (iKeys _) _ _ _ _ _ _ _); refine x_lcK ?_)
  | ((with_reducible show tDc (iList _ _) _ _ _ _ _ _ _ _); refine x_dcL ?_)
  | ((with_reducible show tDc (iZipK _ _) _ _ _ _ _ _ _ _); refine x_dcZ ?_)
  | ((with_reducible show tDc _ _ _ _ _ _ _ _ _); refine x_dc ?_)
  | ((with_reducible show L2.tSl _ _ _ _ _ _ _); refine x_sl ?_)
  | ((with_reducible show tPart _ _ _ _); refine x_part ?_)
  | ((with_reducible show partQ (V.int _) _ _); refine partI ?_)
  | ((with_reducible show tNoPart _ _ _); refine x_nopart ?_)
  | ((with_reducible show tLstRg (tRg2 _ _) _ _ _); refine x_listRg ?_)
  | ((with_reducible show ikQ (V.ref _) _ _); refine ikK (by walk_at "hg") ?_)
  | ((with_reducible show rIsi _ [V.int _, V.ty _] _ _); first | refine isiI (r := true) (by decide +kernel) ?_ | refine isiI (r := false) (by decide +kernel) ?_)
  | ((with_reducible show rIsi _ [V.bl _, V.ty _] _ _); first | refine isiB (r := true) (by decide +kernel) ?_ | refine isiB (r := false) (by decide +kernel) ?_)
  | ((with_reducible show rIsi _ [V.ref _, V.ty "dict"] _ _); refine isiD (r := true) (by walk_at "hg") (by decide +kernel) ?_)
  | ((with_reducible show rLenD1 [V.ref _] _ _); refine s_lenD (by walk_at "hg") ?_)
  | ((with_reducible show tLc _ _ _ _ _ _ _ _); refine x_lc ?_)
  | ((with_reducible show wipe _ _ = wipe _ _ ∧ _); refine ⟨rfl, ?_⟩)
  | ((with_reducible show tYes _ _ _); refine x_yes ?_)
  | ((with_reducible show tCont _ _ _); refine x_cont ?_)
  | (with_reducible refine ifT ?_)
  | (with_reducible refine ifF ?_)
  | ((with_reducible show ite ((!Option.isSome _) = true) _ _); first | refine ifT ?_ | refine ifF ?_)
  | ((with_reducible show ite ((!true) = true) _ _); refine ifF ?_)
  | ((with_reducible show ite ((!false) = true) _ _); refine ifT ?_)
  | ((with_reducible show ite (Option.isSome _ = true) _ _); first | refine ifT ?_ | refine ifF ?_)
  | ((with_reducible show rLenA _ [V.ref _] _ _); refine s_lenM (by walk_at "hg") ?_)
  | ((with_reducible show rI0 _ (V.int _) (V.int _) _ _); refine x_i0 ?_)
  | ((with_reducible show rI _ _ (V.int _) (V.int _) _ _); refine x_i1 (by walk_at "side") ?_)
  | ((with_reducible show rU _ (V.int _) _ _); refine x_u ?_)
  | ((with_reducible show rEq (V.int _) (V.int _) _ _); refine eqI ?_)
  | ((with_reducible show rNe (V.int _) (V.int _) _ _); refine neI ?_)
  | ((with_reducible show rEq (V.str _) (V.str _) _ _); refine eqS ?_)
  | ((with_reducible show rNe (V.str _) (V.str _) _ _); refine neS ?_)
  | ((with_reducible show rEq (V.bl _) (V.bl _) _ _); refine eqB ?_)
  | ((with_reducible show rNe (V.bl _) (V.bl _) _ _); refine neB ?_)
  | ((with_reducible show rIsN1 _ _ _ _); refine s_isN ?_)
  | ((with_reducible show rNotN1 _ _ _ _); refine s_notN ?_)
  | ((with_reducible show rAbs1 [V.int _] _ _); refine s_abs ?_)
  | ((with_reducible show rMax2 [V.int _, V.int _] _ _); refine s_max ?_)
  | ((with_reducible show rMin2 [V.int _, V.int _] _ _); refine s_min ?_)
  | ((with_reducible show rInt1 [V.int _] _ _); refine s_int ?_)
  | ((with_reducible show rInt1 [V.bl _] _ _); refine s_intB ?_)
  | ((with_reducible show truQ _ (V.bl _) _ _); refine truB ?_)
  | ((with_reducible show truQ _ (V.int _) _ _); refine truI ?_)
  | ((with_reducible show truQ _ V.non _ _); refine truN ?_)
  | ((with_reducible show bmQ _ "list" (V.ref _) _ _); refine bmL (by walk_at "hg") ?_)
  | ((with_reducible show bmQ _ "str" (V.str _) _ _); refine bmS ?_)
  | ((with_reducible show rIx _ (V.ref _) (V.int _) _ _); refine ixM (by walk_at "hg") (at_int (by decide) rfl) ?_)
  | ((with_reducible show rIx _ (V.ref _) (V.int _) _ _); refine ixTT (by walk_at "hg") (at_int (by decide) rfl) ?_)
  | ((with_reducible show rSetL (V.ref _) (V.int _) _ _ _); refine x_setL (by walk_at "hg") (ixN_int (by decide) (by simp)) ?_)
  | ((with_reducible show fputQ _ _ _ (V.ref _) _ _); refine fput (by walk_at "hg") (by assumption) (by assumption) (by walk_at "sz") ?_)
  | ((with_reducible show fldQ _ _ (V.ref _) _ _); refine fldA (by walk_at "hg") (by assumption) (by assumption) (by first | assumption | rfl) ?_))
local macro_rules | `(tactic| walk_at "xs") => `(tactic| repeat (walk_at "xs1"))

set_option maxRecDepth 100000
set_option maxHeartbeats 1000000
namespace K
open PySem L2 Z

def top (i : Nat) : Stmt := PySem.Challenge.pw_someandall_k89_plans_that_fit.main.body.getD i (.Pass ⟨0, 0, 0, 0⟩)
abbrev s__law_seed : Stmt := top 13
abbrev n__law_seed : List Str := ["script", "seed", "cell"]
theorem sc__law_seed : FnScope n__law_seed ["script"] (defScope s__law_seed) := ⟨rfl, rfl, rfl, by decide +kernel, rfl, by decide +kernel, by decide +kernel⟩
abbrev s__law_take : Stmt := top 14
abbrev n__law_take : List Str := ["script", "source", "size", "digit"]
theorem sc__law_take : FnScope n__law_take ["script", "source", "size"] (defScope s__law_take) := ⟨rfl, rfl, rfl, by decide +kernel, rfl, by decide +kernel, by decide +kernel⟩
abbrev s__law_opposite : Stmt := top 15
abbrev n__law_opposite : List Str := ["edge"]
theorem sc__law_opposite : FnScope n__law_opposite ["edge"] (defScope s__law_opposite) := ⟨rfl, rfl, rfl, by decide +kernel, rfl, by decide +kernel, by decide +kernel⟩
structure Bi (K : PySem.W.Frag) (mg : Str → Option Value) (CP CG : Addr) : Prop where
  b_len : mg "len" = none
  b_abs : mg "abs" = none
  b_int : mg "int" = none
  b_min : mg "min" = none
  b_max : mg "max" = none
  b_range : mg "range" = none
  b_list : mg "list" = none
  b_dict : mg "dict" = none
  b_sorted : mg "sorted" = none
  b_zip : mg "zip" = none
  b_isinstance : mg "isinstance" = none
  b_bool : mg "bool" = none
  c_NO : ∃ t, mg "NO" = some (.int 0 t)
  c_YES : ∃ t, mg "YES" = some (.int 1 t)
  c_SOME : ∃ t, mg "SOME" = some (.str "some" t)
  c_ALL : ∃ t, mg "ALL" = some (.str "all" t)
  cl_Plan : Cls K CP
  cl_Gates : Cls K CG
  na_rows : NoAttr K CG "rows"
  na_known : NoAttr K CG "_known"
  na_side : NoAttr K CP "side"
  na_gates : NoAttr K CP "gates"
  na_table : NoAttr K CP "table"
section
variable {P : Program} {w : World} {K : PySem.W.Frag} {mg : Str → Option Value} {base : Heap} {CP CG f : Addr} {fd : FuncData}

/-! ### the draws -/
def spSeed (K : PySem.W.Frag) : Sp := fun vs H Q _ => ∃ (a : Addr) (ns : List Int), vs = [.ref a] ∧ SqF K H a (ns.map V.int) ∧ ∀ z : Int, 0 ≤ z → z < 2147483647 → Q (.int z) H
theorem ok_seed (b : Bi K mg CP CG) (d : Df K mg "_law_seed" s__law_seed ["script"] f fd) : Has P w K mg base CX0 "_law_seed" ["script"] 1 (spSeed K) := by
  refine d.has (d.F.ok sc__law_seed (fun vs H Q E h => ?_) (fun cdv A outer s H vs Q E hr h => ?_))
  · obtain ⟨_, _, rfl, _⟩ := h; rfl
  · obtain ⟨a, ns, rfl, hs, k⟩ := h
    have hu := hu_of hr
    refine ⟨_, (pss_cons (ps_set (i := 1) sc__law_seed.nd rfl (Or.inl rfl) pe_int)
 (pss_cons (ps_for PassesOwn.never rfl (pi_listK K (pv 0)) (pg_name (i := 2) sc__law_seed.nd rfl (Or.inl rfl))
 (pss_one (ps_set (i := 1) sc__law_seed.nd rfl (Or.inl rfl) (pe_op op_mod (pe_op op_add (pe_op op_add (pe_op op_mul (pv 1) pe_int) (pe_op op_mod (pe_callTy cInt1 (by rfl) b.b_int (by decide +kernel) (pa_cons (pv 2) pa_nil)) pe_int)) pe_int) pe_int))))
 (pss_one (ps_ret (pv 1))))), ?_⟩
    walk_at "xs"
    refine forL hs.l (fun i σ H' => ∃ (z : Int) (v : Option V), σ = [some (.ref a), some (.int z), v] ∧ H' = H ∧ 0 ≤ z ∧ z < 2147483647) ⟨1, none, rfl, rfl, by omega, by omega⟩ (fun i σ H' _ h => ?_) ?_ ?_
    · obtain ⟨z, v, rfl, rfl, _⟩ := h; exact hs.l
    · rintro i x σ H' hx ⟨z, v, rfl, rfl, h0, h1⟩
      obtain ⟨n, hn, rfl⟩ := map_at hx
      walk_at "xs"
      exact ⟨_, _, rfl, rfl, by omega, by omega⟩
    · rintro σ H' ⟨z, v, rfl, rfl, h0, h1⟩
      walk_at "xs"
      exact k z h0 h1

/-- the state of the draws at s -/
def Src (H : Hp) (s : Addr) : Prop := ∃ x i z : Int, H s = some (.lst [.int x, .int i, .int z]) ∧ 0 ≤ x ∧ 0 ≤ i ∧ 0 ≤ z ∧ z < 2147483647
def spTake (K : PySem.W.Frag) : Sp := fun vs H Q _ => ∃ (a s : Addr) (n : Int) (ns : List Int), vs = [.ref a, .ref s, .int n] ∧ SqF K H a (ns.map V.int) ∧ Src H s ∧ 0 < n ∧ n < 1000000 ∧
  ∀ (d : Int) H', 0 ≤ d → d < n → Fr [s] H H' → Src H' s → Q (.int d) H'
theorem ok_take (b : Bi K mg CP CG) (d : Df K mg "_law_take" s__law_take ["script", "source", "size"] f fd) : Has P w K mg base CX0 "_law_take" ["script", "source", "size"] 1 (spTake K) := by
  refine d.has (d.F.ok sc__law_take (fun vs H Q E h => ?_) (fun cdv A outer s H vs Q E hr h => ?_))
  · obtain ⟨_, _, _, _, rfl, _⟩ := h; rfl
  · obtain ⟨a, s, n, ns, rfl, hs, ⟨x, i, z, hS, hx, hi, hz, hz'⟩, n0, n1, k⟩ := h
    have hu := hu_of hr
    refine ⟨_, (pss_cut (ps_if (PW.pt (pw_and (pt_cmpR op_eq (pe_ix (ix_seqK K) (pv 1) pe_int (fun _ _ => rfl)) pe_int (nomark _)) (pw_and1 (pt_cmpR op_lt (pe_ix (ix_seqK K) (pv 1) pe_int (fun _ _ => rfl)) (pe_callB (cLenK K) (by rfl) b.b_len (by decide +kernel) (pa_cons (pv 0) pa_nil)) (nomark _)))))
 (pss_cons (ps_asg (pe_callB cAbs (by rfl) b.b_abs (by decide +kernel) (pa_cons (pe_ix (ix_seqK K) (pv 0) (pe_ix (ix_seqK K) (pv 1) pe_int (fun _ _ => rfl)) (fun _ _ => rfl)) pa_nil)) (pg_sub (pv 1) pe_int set_list))
 (pss_one (ps_asg (pe_op op_add (pe_ix (ix_seqK K) (pv 1) pe_int (fun _ _ => rfl)) pe_int) (pg_sub (pv 1) pe_int set_list))))
 pss_nil)
 (pss_cons (ps_if (pt_cmpR op_gt (pe_ix (ix_seqK K) (pv 1) pe_int (fun _ _ => rfl)) pe_int (nomark _))
 (pss_cons (ps_set (i := 3) sc__law_take.nd rfl (Or.inl rfl) (pe_op op_mod (pe_callTy cInt1 (by rfl) b.b_int (by decide +kernel) (pa_cons (pe_ix (ix_seqK K) (pv 1) pe_int (fun _ _ => rfl)) pa_nil)) (pv 2)))
 (pss_cons (ps_asg (pe_op op_fdiv (pe_ix (ix_seqK K) (pv 1) pe_int (fun _ _ => rfl)) (pv 2)) (pg_sub (pv 1) pe_int set_list))
 (pss_one (ps_ret (pv 3)))))
 pss_nil)
 (pss_cons (ps_asg (pe_op op_mod (pe_op op_add (pe_op op_mul (pe_ix (ix_seqK K) (pv 1) pe_int (fun _ _ => rfl)) pe_int) pe_int) pe_int) (pg_sub (pv 1) pe_int set_list))
 (pss_one (ps_ret (pe_op op_mod (pe_op op_fdiv (pe_ix (ix_seqK K) (pv 1) pe_int (fun _ _ => rfl)) pe_int) (pv 2))))))), ?_⟩
    refine x_cut (fun σ H' => ∃ x i : Int, σ = [some (.ref a), some (.ref s), some (.int n), none] ∧ Fr [s] H H' ∧ H' s = some (.lst [.int x, .int i, .int z]) ∧ 0 ≤ x ∧ 0 ≤ i) ?_ ?_
    · walk_at "xs"
      walk_at "xs"
      refine ifD (fun c => ?_) (fun c => ?_)
      · walk_at "xs"
        walk_at "xs"
        refine s_lenL hs.l ?_
        walk_at "xs"
        refine ifD (fun c => ?_) (fun c => ?_)
        · walk_at "xs"
          have hl : i.toNat < ns.length := by rw [List.length_map] at c; omega
          refine ixLL hs.l (at_int hi (by rw [List.getElem?_map, List.getElem?_eq_getElem hl]; rfl)) ?_
          walk_at "xs"
          walk_at "xs"
          refine ⟨_, i + 1, rfl, ?_, upd_same, ?_, by omega⟩
          · exact (Fr.wr hS (by intro z; exact z) (by simp)).mutS upd_same (by intro z; exact z) (by simp)
          · split <;> omega
        · walk_at "xs"
          exact ⟨x, i, rfl, Fr.refl, hS, hx, hi⟩
      · walk_at "xs"
        exact ⟨x, i, rfl, Fr.refl, hS, hx, hi⟩
    · rintro σ H1 ⟨x, i, rfl, f1, h1, hx, hi⟩
      walk_at "xs"
      refine ifD (fun c => ?_) (fun c => ?_)
      · walk_at "xs"
        walk_at "xs"
        exact k _ _ (Int.emod_nonneg _ (by omega)) (Int.emod_lt_of_pos _ n0) (f1.mutS h1 (by intro z; exact z) (by simp)) ⟨_, i, z, upd_same, Int.ediv_nonneg hx (by omega), hi, hz, hz'⟩
      · walk_at "xs"
        walk_at "xs"
        exact k _ _ (Int.emod_nonneg _ (by omega)) (Int.emod_lt_of_pos _ n0) (f1.mutS h1 (by intro z; exact z) (by simp)) ⟨x, i, _, upd_same, hx, hi, by omega, by omega⟩
end
end K

set_option maxRecDepth 100000
set_option maxHeartbeats 1000000
namespace K
open PySem L2 Z R

abbrev s_other : Stmt := top 4
abbrev n_other : List Str := ["side"]
theorem sc_other : FnScope n_other ["side"] (defScope s_other) := ⟨rfl, rfl, rfl, by decide +kernel, rfl, by decide +kernel, by decide +kernel⟩
abbrev s_opposite : Stmt := top 10
abbrev n_opposite : List Str := ["edge"]
theorem sc_opposite : FnScope n_opposite ["edge"] (defScope s_opposite) := ⟨rfl, rfl, rfl, by decide +kernel, rfl, by decide +kernel, by decide +kernel⟩
abbrev s_Gates___init__ : Stmt := inClass (top 11) 0
abbrev n_Gates___init__ : List Str := ["self"]
theorem sc_Gates___init__ : FnScope n_Gates___init__ ["self"] (defScope s_Gates___init__) := ⟨rfl, rfl, rfl, by decide +kernel, rfl, by decide +kernel, by decide +kernel⟩
abbrev s_Gates__edge_of : Stmt := inClass (top 11) 1
abbrev n_Gates__edge_of : List Str := ["self", "row"]
theorem sc_Gates__edge_of : FnScope n_Gates__edge_of ["self", "row"] (defScope s_Gates__edge_of) := ⟨rfl, rfl, rfl, by decide +kernel, rfl, by decide +kernel, by decide +kernel⟩
abbrev s_Gates_leaf : Stmt := inClass (top 11) 2
abbrev n_Gates_leaf : List Str := ["self", "letter"]
theorem sc_Gates_leaf : FnScope n_Gates_leaf ["self", "letter"] (defScope s_Gates_leaf) := ⟨rfl, rfl, rfl, by decide +kernel, rfl, by decide +kernel, by decide +kernel⟩
abbrev s_Gates_both : Stmt := inClass (top 11) 3
abbrev n_Gates_both : List Str := ["self", "a", "b", "low", "high"]
theorem sc_Gates_both : FnScope n_Gates_both ["self", "a", "b"] (defScope s_Gates_both) := ⟨rfl, rfl, rfl, by decide +kernel, rfl, by decide +kernel, by decide +kernel⟩
abbrev s__law_row : Stmt := top 16
abbrev n__law_row : List Str := ["rows", "row", "k"]
theorem sc__law_row : FnScope n__law_row ["rows", "row"] (defScope s__law_row) := ⟨rfl, rfl, rfl, by decide +kernel, rfl, by decide +kernel, by decide +kernel⟩
abbrev s__law_both : Stmt := top 17
abbrev n__law_both : List Str := ["rows", "a", "b"]
theorem sc__law_both : FnScope n__law_both ["rows", "a", "b"] (defScope s__law_both) := ⟨rfl, rfl, rfl, by decide +kernel, rfl, by decide +kernel, by decide +kernel⟩
section
variable {P : Program} {w : World} {K : PySem.W.Frag} {mg : Str → Option Value} {base : Heap} {CP CG f : Addr} {fd : FuncData}
theorem Fr.none {S : List Addr} {H H' : Hp} {p : Addr} (a : Fr S H H') (h : H' p = none) (n : p ∉ S) : H p = none := a.back h n
/-! ### small ones -/
def spOpp : Sp := fun vs H Q _ => ∃ e : Nat, vs = [.int e] ∧ Q (.int (opp e : Nat)) H
theorem ok_opposite (b : Bi K mg CP CG) (d : Df K mg "opposite" s_opposite ["edge"] f fd) : Has P w K mg base CX0 "opposite" ["edge"] 1 spOpp := by
  refine d.has (d.F.ok sc_opposite (fun vs H Q E h => ?_) (fun cdv A outer s H vs Q E hr h => ?_))
  · obtain ⟨_, rfl, _⟩ := h; rfl
  · obtain ⟨e, rfl, k⟩ := h
    refine ⟨_, (pss_one (ps_ret (pe_op op_xor (pv 0) pe_int))), ?_⟩
    walk_at "xs"
    rw [opp_xor]
    exact k
theorem ok_lopp (b : Bi K mg CP CG) (d : Df K mg "_law_opposite" s__law_opposite ["edge"] f fd) : Has P w K mg base CX0 "_law_opposite" ["edge"] 1 spOpp := by
  refine d.has (d.F.ok sc__law_opposite (fun vs H Q E h => ?_) (fun cdv A outer s H vs Q E hr h => ?_))
  · obtain ⟨_, rfl, _⟩ := h; rfl
  · obtain ⟨e, rfl, k⟩ := h
    refine ⟨_, (pss_cons (ps_if (pt_cmpR op_eq (pe_op op_mod (pe_callTy cInt1 (by rfl) b.b_int (by decide +kernel) (pa_cons (pv 0) pa_nil)) pe_int) pe_int (nomark _))
 (pss_one (ps_ret (pe_op op_add (pv 0) pe_int)))
 pss_nil)
 (pss_one (ps_ret (pe_op op_sub (pv 0) pe_int)))), ?_⟩
    walk_at "xs"
    refine ifD (fun c => ?_) (fun c => ?_)
    · walk_at "xs"
      have : ((e : Int) + 1) = (opp e : Nat) := by unfold opp; rw [if_pos (by omega)]; omega
      rw [this]; exact k
    · walk_at "xs"
      have : ((e : Int) - 1) = (opp e : Nat) := by unfold opp; rw [if_neg (by omega)]; omega
      rw [this]; exact k
/-! ### Gates -/
def spGInit (CG : Addr) (K : PySem.W.Frag) : Sp := fun vs H Q _ => ∃ (g dx : Addr), vs = [.ref g] ∧ H g = some (.ins CG dx []) ∧
  ∀ r kn H', Fr [g] H H' → H r = none → H kn = none → r ≠ g → kn ≠ g → kn ≠ r → GatesAt CG K H' g r kn [.no] → Q .non H'
theorem ok_ginit (b : Bi K mg CP CG) (d : DfI K mg CG "Gates" "Gates.__init__" s_Gates___init__ ["self"] f fd) : HasI P w K mg base CX0 CG "Gates" ["self"] 1 (spGInit CG K) := by
  refine d.has (d.F.ok sc_Gates___init__ (fun vs H Q E h => ?_) (fun cdv A outer s H vs Q E hr h => ?_))
  · obtain ⟨_, _, rfl, _⟩ := h; rfl
  · obtain ⟨g, dx, rfl, h1, k⟩ := h
    have n1 := b.na_rows
    have n2 := b.na_known
    have cl := b.cl_Gates
    refine ⟨_, (pss_cons (ps_fldK K (pv 0) (pe_lst (pa_cons (pe_tup (pa_cons pe_str pa_nil)) pa_nil)) rfl)
 (pss_one (ps_fldK K (pv 0) pe_dnewT rfl))), ?_⟩
    walk_at "xs"
    refine tupN (by walk_at "sz") fun p hp => ?_
    have e1 : p ≠ g := by walk_at "ne"
    walk_at "xs"
    refine lstN (by walk_at "sz") fun r hr => ?_
    have e2 : r ≠ g := by walk_at "ne"
    have e3 : r ≠ p := by walk_at "ne"
    walk_at "xs"
    refine x_newT fun kn hkn => ?_
    have e4 : kn ≠ g := by walk_at "ne"
    have e5 : kn ≠ r := by walk_at "ne"
    have e6 : kn ≠ p := by walk_at "ne"
    walk_at "xs"
    refine k r kn _ ?_ (by walk_at "nn") (by walk_at "nn") e2 e4 e5 ?_
    · walk_at "fr"
    · refine ⟨⟨dx, upd_same⟩, ⟨[.ref p], by walk_at "hg", .one (at_row (r := .no) ?_)⟩, ⟨[], by walk_at "hg", rfl, ?_⟩, rfl, by simp⟩
      · have : (rowKey .no).map kV = [V.str "no"] := rfl
        rw [this]
        walk_at "hg"
      · intro q hq
        rw [if_neg (by simpa using hq)]
        rfl
def spEdge (CG : Addr) (K : PySem.W.Frag) : Sp := fun vs H Q _ => ∃ (g r kn : Addr) (v : V) (rs : List Row) (q : Row), vs = [.ref g, v] ∧ GatesAt CG K H g r kn rs ∧ Im K H v (rowD q) ∧ q ≠ .no ∧ rs.length < 1000000 ∧
  ∀ H', Fr [r, kn] H H' → GatesAt CG K H' g r kn (addRow rs q) → Q (.int (edgeOf rs q : Nat)) H'
theorem ok_edge (b : Bi K mg CP CG) (d : DfM K CG "Gates._edge_of" "_edge_of" s_Gates__edge_of ["self", "row"] f fd) : HasM P w K mg base CX0 CG "_edge_of" ["self", "row"] 1 (spEdge CG K) := by
  refine d.has (d.F.ok sc_Gates__edge_of (fun vs H Q E h => ?_) (fun cdv A outer s H vs Q E hr h => ?_))
  · obtain ⟨_, _, _, _, _, _, rfl, _⟩ := h; rfl
  · obtain ⟨g, r, kn, v, rs, q, rfl, G, hv, hq, hl, k⟩ := h
    have n1 := b.na_rows
    have n2 := b.na_known
    have cl := b.cl_Gates
    have hu := hu_of hr
    obtain ⟨p, rfl, hp⟩ := row_at hv
    obtain ⟨⟨dx, hg⟩, ⟨vs, hrw, hi⟩, ⟨kvs, hkn, hkl, hkv⟩, hhd, hnd⟩ := id G
    have hvl : vs.length = rs.length := by rw [hi.len, List.length_map]
    have e1 : r ≠ g := ne_of hrw hg (by intro z; cases z)
    have e2 : kn ≠ g := ne_of hkn hg (by intro z; cases z)
    have e3 : kn ≠ r := ne_of hkn hrw (by intro z; cases z)
    have e4 : p ≠ r := ne_of hp hrw (by intro z; cases z)
    have e5 : p ≠ kn := ne_of hp hkn (by intro z; cases z)
    refine ⟨_, (pss_cut (ps_if (pt_cmp (pc_dnotin hu (pv 1) (pe_fldK K (pv 0) rfl)))
 (pss_cons (ps_dput hu (pe_fldK K (pv 0) rfl) (pv 1) (pe_op op_mul pe_int (pe_callB (cLenK K) (by rfl) b.b_len (by decide +kernel) (pa_cons (pe_fldK K (pv 0) rfl) pa_nil))) rfl)
 (pss_one (ps_expr (pe_bmK K PySem.F.plainAttrs_list PySem.F.slot_list_append PySem.F.type_list_append mt_append (pe_fldK K (pv 0) rfl) (pa_cons (pv 1) pa_nil)))))
 pss_nil)
 (pss_one (ps_ret (pe_dget hu (pe_fldK K (pv 0) rfl) (pv 1) (fun _ _ => rfl))))), ?_⟩
    refine x_cut (fun σ H' => σ = [some (.ref g), some (.ref p)] ∧ Fr [r, kn] H H' ∧ GatesAt CG K H' g r kn (addRow rs q)) ?_ ?_
    · walk_at "xs"
      refine inT (.inl hkn) hp ?_
      rw [hkv q hq]
      by_cases hm : q ∈ rs
      · rw [if_pos hm]
        walk_at "xs"
        exact ⟨rfl, Fr.refl, by rw [addRow_old hm]; exact G⟩
      · rw [if_neg hm]
        walk_at "xs"
        refine putT (by walk_at "hg") (by walk_at "hg") (by rw [sizeLine_eq]; omega) ?_
        walk_at "xs"
        refine s_append (by walk_at "hg") (by omega) ?_
        have e : (2 : Int) * (vs.length : Int) = ((edgeOf rs q : Nat) : Int) := by
          unfold edgeOf; rw [List.idxOf_eq_length hm]; omega
        have hn := addRow_new hm
        refine ⟨rfl, ?_, ⟨⟨dx, by walk_at "hg"⟩, ⟨vs ++ [.ref p], upd_same, ?_⟩, ⟨_, by walk_at "hg", ?_, ?_⟩, hd_addRow hhd, nd_addRow hnd⟩⟩
        · walk_at "fr"
        · rw [hn, List.map_append]
          have f : Fr [r, kn] H (upd (upd H kn (HO.dT (putK kvs (rowKey q) (.int (2 * (vs.length : Int)))))) r (HO.lst (vs ++ [.ref p]))) := by walk_at "fr"
          exact (hi.mono f).snoc (hv.mono f)
        · rw [putK_new _ (by rw [hkv q hq, if_neg hm]), hn, List.length_append, List.length_append, List.length_singleton, List.length_singleton, hkl]
        · intro q' hq'
          rw [valV_put]
          by_cases h : rowKey q = rowKey q'
          · have := rowKey_inj h
            subst this
            rw [if_pos rfl, if_pos self_addRow, e, edge_addRow (.inr rfl)]
          · have hne : q ≠ q' := fun z => h (by rw [z])
            rw [if_neg (fun z => h z.symm), hkv q' hq']
            by_cases hm' : q' ∈ rs
            · rw [if_pos hm', if_pos (sub_addRow hm'), edge_addRow (.inl hm')]
            · rw [if_neg hm', if_neg]
              rw [mem_addRow]
              rintro (z | z)
              · exact hm' z
              · exact hne z.symm
    · rintro σ H1 ⟨rfl, f1, G1⟩
      obtain ⟨⟨dx1, hg1⟩, _, ⟨kvs1, hkn1, hkl1, hkv1⟩, _, _⟩ := id G1
      walk_at "xs"
      refine getT (.inl hkn1) (f1.get hp (by walk_at "nin")) (by rw [hkv1 q hq, if_pos self_addRow]) ?_
      rw [edge_addRow (.inr rfl)]
      exact k _ f1 G1
def spLeaf (CG : Addr) (K : PySem.W.Frag) : Sp := fun vs H Q _ => ∃ (g r kn : Addr) (l : Int) (rs : List Row), vs = [.ref g, .int l] ∧ GatesAt CG K H g r kn rs ∧ rs.length < 1000000 ∧
  ∀ H', Fr [r, kn] H H' → GatesAt CG K H' g r kn (addRow rs (.letter l)) → Q (.int (edgeOf rs (.letter l) : Nat)) H'
theorem ok_leaf (b : Bi K mg CP CG) (h_Gates__edge_of : HasM P w K mg base CX0 CG "_edge_of" ["self", "row"] 1 (spEdge CG K)) (d : DfM K CG "Gates.leaf" "leaf" s_Gates_leaf ["self", "letter"] f fd) : HasM P w K mg base CX0 CG "leaf" ["self", "letter"] 2 (spLeaf CG K) := by
  refine d.has (d.F.ok sc_Gates_leaf (fun vs H Q E h => ?_) (fun cdv A outer s H vs Q E hr h => ?_))
  · obtain ⟨_, _, _, _, _, rfl, _⟩ := h; rfl
  · obtain ⟨g, r, kn, l, rs, rfl, G, hl, k⟩ := h
    have n1 := b.na_rows
    have n2 := b.na_known
    have cl := b.cl_Gates
    refine ⟨_, (pss_one (ps_ret (pe_methH (pv 0) b.cl_Gates h_Gates__edge_of hr (by decide) pass0 (pa_cons (pe_tup (pa_cons pe_str (pa_cons (pv 1) pa_nil))) pa_nil)))), ?_⟩
    obtain ⟨dx, hg⟩ := G.ins
    walk_at "xs"
    refine methA hg (by rfl) ?_
    walk_at "xs"
    refine tupN (by walk_at "sz") fun p hp => ?_
    have f1 : Fr [r, kn] H (upd H p (.tup [.str "letter", .int l])) := Fr.new hp
    have G1 : GatesAt CG K (upd H p (.tup [.str "letter", .int l])) g r kn rs := G.mono (S := []) (Fr.new hp) nin0 nin0 nin0
    walk_at "xs"
    refine ⟨g, r, kn, _, rs, .letter l, rfl, G1, at_row upd_same, by simp, hl, fun H' f2 G2 => ?_⟩
    exact k H' (f1.trans f2) G2
def spBoth (CG : Addr) (K : PySem.W.Frag) : Sp := fun vs H Q _ => ∃ (g r kn : Addr) (x y : Nat) (rs : List Row), vs = [.ref g, .int x, .int y] ∧ GatesAt CG K H g r kn rs ∧ rs.length < 1000000 ∧
  ∀ H', Fr [r, kn] H H' → GatesAt CG K H' g r kn (bothE rs x y).2 → Q (.int ((bothE rs x y).1 : Nat)) H'
theorem ok_both (b : Bi K mg CP CG) (h_opposite : Has P w K mg base CX0 "opposite" ["edge"] 1 spOpp) (h_Gates__edge_of : HasM P w K mg base CX0 CG "_edge_of" ["self", "row"] 1 (spEdge CG K)) (d : DfM K CG "Gates.both" "both" s_Gates_both ["self", "a", "b"] f fd) : HasM P w K mg base CX0 CG "both" ["self", "a", "b"] 2 (spBoth CG K) := by
  refine d.has (d.F.ok sc_Gates_both (fun vs H Q E h => ?_) (fun cdv A outer s H vs Q E hr h => ?_))
  · obtain ⟨_, _, _, _, _, _, rfl, _⟩ := h; rfl
  · obtain ⟨g, r, kn, x, y, rs, rfl, G, hl, k⟩ := h
    have n1 := b.na_rows
    have n2 := b.na_known
    have cl := b.cl_Gates
    refine ⟨_, (pss_cons (ps_set (i := 3) sc_Gates_both.nd rfl (Or.inl rfl) (pe_callB (cMin2 rfl) (by rfl) b.b_min (by decide +kernel) (pa_cons (pv 1) (pa_cons (pv 2) pa_nil))))
 (pss_cons (ps_set (i := 4) sc_Gates_both.nd rfl (Or.inl rfl) (pe_callB (cMax2 rfl) (by rfl) b.b_max (by decide +kernel) (pa_cons (pv 1) (pa_cons (pv 2) pa_nil))))
 (pss_cons (ps_if (PW.pt (pw_or (pt_cmpR op_eq (pv 3) (pe_gInt b.c_NO) (nomark _)) (pw_or1 (pt_cmpR op_eq (pv 3) (pe_callH h_opposite hr (by decide) pass0 (pa_cons (pv 4) pa_nil)) (nomark _)))))
 (pss_one (ps_ret (pe_gInt b.c_NO)))
 pss_nil)
 (pss_cons (ps_if (PW.pt (pw_or (pt_cmpR op_eq (pv 3) (pe_gInt b.c_YES) (nomark _)) (pw_or1 (pt_cmpR op_eq (pv 3) (pv 4) (nomark _)))))
 (pss_one (ps_ret (pv 4)))
 pss_nil)
 (pss_one (ps_ret (pe_methH (pv 0) b.cl_Gates h_Gates__edge_of hr (by decide) pass0 (pa_cons (pe_tup (pa_cons pe_str (pa_cons (pv 3) (pa_cons (pv 4) pa_nil)))) pa_nil)))))))), ?_⟩
    obtain ⟨dx, hg⟩ := G.ins
    walk_at "xs"
    have hm : min (x : Int) (y : Int) = ((min x y : Nat) : Int) := by omega
    have hM : max (x : Int) (y : Int) = ((max x y : Nat) : Int) := by omega
    rw [hm, hM]
    have two : bothE rs x y = if min x y = 0 ∨ min x y = opp (max x y) then (0, rs) else if min x y = 1 ∨ min x y = max x y then (max x y, rs) else (edgeOf rs (.both (min x y) (max x y)), addRow rs (.both (min x y) (max x y))) := by
      unfold bothE opp
      by_cases h1 : x ≤ y
      · rw [Nat.min_eq_left h1, Nat.max_eq_right h1]
        repeat' split
        all_goals first | rfl | (exfalso; omega) | rw [show x = y by omega]
      · rw [Nat.min_eq_right (by omega), Nat.max_eq_left (by omega)]
        repeat' split
        all_goals first | rfl | (exfalso; omega) | rw [show x = y by omega]
    refine ifD (fun c => ?_) (fun c => ?_)
    · walk_at "xs"
      rw [if_pos (.inl (by omega))] at two
      rw [two] at k
      exact k H Fr.refl G
    · walk_at "xs"
      refine ⟨_, rfl, ?_⟩
      walk_at "xs"
      refine ifD (fun c2 => ?_) (fun c2 => ?_)
      · walk_at "xs"
        rw [if_pos (.inr (by omega))] at two
        rw [two] at k
        exact k H Fr.refl G
      · walk_at "xs"
        rw [if_neg (by rintro (z | z) <;> omega)] at two
        refine ifD (fun c3 => ?_) (fun c3 => ?_)
        · walk_at "xs"
          rw [if_pos (.inl (by omega))] at two
          rw [two] at k
          exact k H Fr.refl G
        · walk_at "xs"
          refine ifD (fun c4 => ?_) (fun c4 => ?_)
          · walk_at "xs"
            rw [if_pos (.inr (by omega))] at two
            rw [two] at k
            exact k H Fr.refl G
          · walk_at "xs"
            rw [if_neg (by rintro (z | z) <;> omega)] at two
            rw [two] at k
            refine methA hg (by rfl) ?_
            walk_at "xs"
            refine tupN (by walk_at "sz") fun p hp => ?_
            walk_at "xs"
            have G1 : GatesAt CG K (upd H p (.tup [.str "both", .int (min x y : Nat), .int (max x y : Nat)])) g r kn rs := G.mono (S := []) (Fr.new hp) nin0 nin0 nin0
            refine ⟨g, r, kn, _, rs, .both (min x y) (max x y), rfl, G1, at_row upd_same, by simp, hl, fun H' f2 G2 => ?_⟩
            exact k H' ((Fr.new hp).trans f2) G2
end
end K

set_option maxRecDepth 100000
set_option maxHeartbeats 1000000
namespace K
open PySem L2 Z R

section
variable {P : Program} {w : World} {K : PySem.W.Frag} {mg : Str → Option Value} {base : Heap} {CP CG f : Addr} {fd : FuncData}
def spLRow (K : PySem.W.Frag) : Sp := fun vs H Q _ => ∃ (l : Addr) (v : V) (rs : List Row) (q : Row), vs = [.ref l, v] ∧ LS K H l (rs.map rowD) ∧ Im K H v (rowD q) ∧ rs.length < 1000000 ∧
  ∀ H', Fr [l] H H' → LS K H' l ((addRow rs q).map rowD) → Q (.int (edgeOf rs q : Nat)) H'
theorem ok_lrow (b : Bi K mg CP CG) (d : Df K mg "_law_row" s__law_row ["rows", "row"] f fd) : Has P w K mg base CX0 "_law_row" ["rows", "row"] 1 (spLRow K) := by
  refine d.has (d.F.ok sc__law_row (fun vs H Q E h => ?_) (fun cdv A outer s H vs Q E hr h => ?_))
  · obtain ⟨_, _, _, _, rfl, _⟩ := h; rfl
  · obtain ⟨l, v, rs, q, rfl, hL, hv, hl, k⟩ := h
    have hu := hu_of hr
    refine ⟨_, (pss_cons (ps_for PassesOwn.never rfl (pi_range1 (by rfl) b.b_range (pa_cons (pe_callB (cLenK K) (by rfl) b.b_len (by decide +kernel) (pa_cons (pv 0) pa_nil)) pa_nil)) (pg_name (i := 2) sc__law_row.nd rfl (Or.inl rfl))
 (pss_one (ps_if (pt_cmpR (op_eqDK K hr) (pe_ix (ix_seqK K) (pv 0) (pv 2) (fun _ _ => rfl)) (pv 1) (nomark _))
 (pss_one (ps_ret (pe_op op_mul pe_int (pv 2))))
 pss_nil)))
 (pss_cons (ps_expr (pe_bmK K PySem.F.plainAttrs_list PySem.F.slot_list_append PySem.F.type_list_append mt_append (pv 0) (pa_cons (pv 1) pa_nil)))
 (pss_one (ps_ret (pe_op op_sub (pe_op op_mul pe_int (pe_callB (cLenK K) (by rfl) b.b_len (by decide +kernel) (pa_cons (pv 0) pa_nil))) pe_int))))), ?_⟩
    walk_at "xs"
    refine s_lenS hL ?_
    walk_at "xs"
    refine forR1 rs.length (by rw [List.length_map]) (by omega) (fun i σ H' => ∃ x : Option V, σ = [some (.ref l), some v, x] ∧ H' = H ∧ ∀ j, j < i → rs[j]? ≠ some q) ⟨none, rfl, rfl, by omega⟩ ?_ ?_
    · rintro i σ H' hi ⟨x, rfl, rfl, hn⟩
      have hri : rs[i]? = some rs[i] := List.getElem?_eq_getElem hi
      walk_at "xs"
      refine ixS hL (by omega) (d := rowD rs[i]) (by rw [List.getElem?_map]; simp [hri]) fun y hy => ?_
      walk_at "xs"
      refine eqDI hy hv (row_shaped _) (row_shaped _) ?_
      rw [eqv_row]
      walk_at "xs"
      refine ifD (fun c => ?_) (fun c => ?_)
      · walk_at "xs"
        have hi2 : rs[i]? = some q := by rw [hri, c]
        have e : rs.idxOf q = i := idx_first hi2 hn
        have e2 : (2 : Int) * (i : Int) = ((edgeOf rs q : Nat) : Int) := by unfold edgeOf; rw [e]; omega
        rw [e2]
        refine k _ Fr.refl ?_
        rw [addRow_old (List.mem_of_getElem? hi2)]
        exact hL
      · walk_at "xs"
        refine ⟨_, rfl, rfl, fun j hj => ?_⟩
        by_cases h : j = i
        · subst h; rw [hri]; intro z; exact c (Option.some.inj z)
        · exact hn j (by omega)
    · rintro σ H' ⟨x, rfl, rfl, hn⟩
      have hm : ¬ q ∈ rs := fun z => by
        obtain ⟨j, hj, e⟩ := List.getElem_of_mem z
        exact hn j hj (by rw [List.getElem?_eq_getElem hj, e])
      walk_at "xs"
      obtain ⟨vs, hls, _⟩ := id hL
      walk_at "xs"
      refine s_appendS hL hv (by rw [List.length_map]; omega) fun H1 f1 hL1 => ?_
      walk_at "xs"
      refine s_lenS hL1 ?_
      walk_at "xs"
      have e : (2 : Int) * (((rs.map rowD ++ [rowD q]).length : Nat) : Int) - 2 = ((edgeOf rs q : Nat) : Int) := by
        unfold edgeOf; rw [List.idxOf_eq_length hm, List.length_append, List.length_map, List.length_singleton]; omega
      rw [e]
      refine k _ f1 ?_
      rw [addRow_new hm, List.map_append]
      exact hL1
def spLBoth (K : PySem.W.Frag) : Sp := fun vs H Q _ => ∃ (l : Addr) (x y : Nat) (rs : List Row), vs = [.ref l, .int x, .int y] ∧ LS K H l (rs.map rowD) ∧ rs.length < 1000000 ∧
  ∀ H', Fr [l] H H' → LS K H' l ((bothE rs x y).2.map rowD) → Q (.int ((bothE rs x y).1 : Nat)) H'
theorem ok_lboth (b : Bi K mg CP CG) (h__law_opposite : Has P w K mg base CX0 "_law_opposite" ["edge"] 1 spOpp) (h__law_row : Has P w K mg base CX0 "_law_row" ["rows", "row"] 1 (spLRow K)) (d : Df K mg "_law_both" s__law_both ["rows", "a", "b"] f fd) : Has P w K mg base CX0 "_law_both" ["rows", "a", "b"] 2 (spLBoth K) := by
  refine d.has (d.F.ok sc__law_both (fun vs H Q E h => ?_) (fun cdv A outer s H vs Q E hr h => ?_))
  · obtain ⟨_, _, _, _, rfl, _⟩ := h; rfl
  · obtain ⟨l, x, y, rs, rfl, hL, hl, k⟩ := h
    have hu := hu_of hr
    refine ⟨_, (pss_cons (ps_if (PW.pt (pw_or (pt_cmpR op_eq (pv 1) pe_int (nomark _)) (pw_or (pt_cmpR op_eq (pv 2) pe_int (nomark _)) (pw_or1 (pt_cmpR op_eq (pv 1) (pe_callH h__law_opposite hr (by decide) pass0 (pa_cons (pv 2) pa_nil)) (nomark _))))))
 (pss_one (ps_ret pe_int))
 pss_nil)
 (pss_cons (ps_if (pt_cmpR op_eq (pv 1) pe_int (nomark _))
 (pss_one (ps_ret (pv 2)))
 pss_nil)
 (pss_cons (ps_if (PW.pt (pw_or (pt_cmpR op_eq (pv 2) pe_int (nomark _)) (pw_or1 (pt_cmpR op_eq (pv 1) (pv 2) (nomark _)))))
 (pss_one (ps_ret (pv 1)))
 pss_nil)
 (pss_one (ps_ret (pe_callH h__law_row hr (by decide) pass0 (pa_cons (pv 0) (pa_cons (pe_tup (pa_cons pe_str (pa_cons (pe_callB (cMin2 rfl) (by rfl) b.b_min (by decide +kernel) (pa_cons (pv 1) (pa_cons (pv 2) pa_nil))) (pa_cons (pe_callB (cMax2 rfl) (by rfl) b.b_max (by decide +kernel) (pa_cons (pv 1) (pa_cons (pv 2) pa_nil))) pa_nil)))) pa_nil)))))))), ?_⟩
    have hm : min (x : Int) (y : Int) = ((min x y : Nat) : Int) := by omega
    have hM : max (x : Int) (y : Int) = ((max x y : Nat) : Int) := by omega
    have fin0 : (bothE rs x y = (0, rs)) → Q (.int 0) H := fun e => by rw [e] at k; exact k H Fr.refl hL
    walk_at "xs"
    refine ifD (fun c => ?_) (fun c => ?_)
    · walk_at "xs"
      exact fin0 (by unfold bothE; rw [if_pos (by omega)])
    · walk_at "xs"
      refine ifD (fun c => ?_) (fun c => ?_)
      · walk_at "xs"
        exact fin0 (by unfold bothE; rw [if_pos (by omega)])
      · walk_at "xs"
        refine ⟨_, rfl, ?_⟩
        walk_at "xs"
        refine ifD (fun c => ?_) (fun c => ?_)
        · walk_at "xs"
          exact fin0 (by unfold bothE; rw [if_pos (by omega)])
        · have e1 : bothE rs x y = if x = 1 then (y, rs) else if y = 1 ∨ x = y then (x, rs) else (edgeOf rs (.both (min x y) (max x y)), addRow rs (.both (min x y) (max x y))) := by
            unfold bothE; rw [if_neg (by omega)]
          walk_at "xs"
          refine ifD (fun c => ?_) (fun c => ?_)
          · walk_at "xs"
            rw [if_pos (by omega)] at e1
            rw [e1] at k
            exact k H Fr.refl hL
          · rw [if_neg (by omega)] at e1
            walk_at "xs"
            refine ifD (fun c => ?_) (fun c => ?_)
            · walk_at "xs"
              rw [if_pos (by omega)] at e1
              rw [e1] at k
              exact k H Fr.refl hL
            · walk_at "xs"
              refine ifD (fun c => ?_) (fun c => ?_)
              · walk_at "xs"
                rw [if_pos (by omega)] at e1
                rw [e1] at k
                exact k H Fr.refl hL
              · rw [if_neg (by omega)] at e1
                rw [e1] at k
                walk_at "xs"
                rw [hm, hM]
                refine tupN (by walk_at "sz") fun p hp => ?_
                walk_at "xs"
                refine ⟨l, _, rs, .both (min x y) (max x y), rfl, hL.mono (S := []) (Fr.new hp) nin0, at_row upd_same, hl, fun H' f2 L2 => ?_⟩
                exact k H' ((Fr.new hp).trans f2) L2
end
end K

set_option maxRecDepth 100000
set_option maxHeartbeats 1000000
namespace K
open PySem L2 Z R

abbrev s__law_order : Stmt := top 18
abbrev n__law_order : List Str := ["script", "source", "count", "left", "order", "letter"]
theorem sc__law_order : FnScope n__law_order ["script", "source"] (defScope s__law_order) := ⟨rfl, rfl, rfl, by decide +kernel, rfl, by decide +kernel, by decide +kernel⟩
abbrev s__law_both_of : Stmt := top 19
abbrev n__law_both_of : List Str := ["gates", "rows", "a", "b", "due"]
theorem sc__law_both_of : FnScope n__law_both_of ["gates", "rows", "a", "b"] (defScope s__law_both_of) := ⟨rfl, rfl, rfl, by decide +kernel, rfl, by decide +kernel, by decide +kernel⟩
abbrev s__law_edge : Stmt := top 20
abbrev n__law_edge : List Str := ["script", "source", "gates", "rows", "ahead", "edges", "letter", "edge", "k", "more"]
theorem sc__law_edge : FnScope n__law_edge ["script", "source", "gates", "rows", "ahead"] (defScope s__law_edge) := ⟨rfl, rfl, rfl, by decide +kernel, rfl, by decide +kernel, by decide +kernel⟩
section
variable {P : Program} {w : World} {K : PySem.W.Frag} {mg : Str → Option Value} {base : Heap} {CP CG f : Addr} {fd : FuncData}
def spOrder (K : PySem.W.Frag) : Sp := fun vs H Q _ => ∃ (a s : Addr) (ns : List Int), vs = [.ref a, .ref s] ∧ SqF K H a (ns.map V.int) ∧ Src H s ∧
  ∀ (o : Addr) (os : List (Int × Bool)) H', H o = none → Fr [s] H H' → Src H' s → LS K H' o (os.map pairD) → (os.map (·.1)).Nodup → os.length ≤ 19 → (∀ p ∈ os, 1 ≤ p.1 ∧ p.1 ≤ 19) → Q (.ref o) H'
theorem Src.mono {S : List Addr} {H H' : Hp} {s : Addr} (h : Src H s) (f : Fr S H H') (n : s ∉ S) : Src H' s := by
  obtain ⟨x, i, z, e, r⟩ := h
  exact ⟨x, i, z, f.get e n, r⟩
theorem erase_map {α β : Type} (f : α → β) : ∀ (l : List α) (i : Nat), (l.map f).eraseIdx i = (l.eraseIdx i).map f
  | [], _ => rfl
  | _ :: _, 0 => rfl
  | a :: l, i + 1 => by
    show f a :: (l.map f).eraseIdx i = f a :: (l.eraseIdx i).map f
    rw [erase_map f l i]
theorem erase_perm {α : Type} : ∀ (l : List α) (i : Nat) (h : i < l.length), (l[i] :: l.eraseIdx i).Perm l
  | a :: l, 0, _ => List.Perm.refl _
  | a :: l, i + 1, h => ((List.Perm.swap a _ _)).trans ((erase_perm l i (by simpa using h)).cons a)
theorem two_sides {d : Int} (h0 : 0 ≤ d) (h1 : d < 2) : ([V.str "some", V.str "all"] : List V)[d.toNat]? = some (.str (sv (decide (d = 1)))) := by
  have : d = 0 ∨ d = 1 := by omega
  rcases this with rfl | rfl <;> rfl
theorem ok_order (b : Bi K mg CP CG) (h__law_take : Has P w K mg base CX0 "_law_take" ["script", "source", "size"] 1 (spTake K)) (d : Df K mg "_law_order" s__law_order ["script", "source"] f fd) : Has P w K mg base CX0 "_law_order" ["script", "source"] 2 (spOrder K) := by
  refine d.has (d.F.ok sc__law_order (fun vs H Q E h => ?_) (fun cdv A outer s H vs Q E hr h => ?_))
  · obtain ⟨_, _, _, rfl, _⟩ := h; rfl
  · obtain ⟨a, s, ns, rfl, hs, hS, k⟩ := h
    have hu := hu_of hr
    refine ⟨_, (pss_cons (ps_set (i := 2) sc__law_order.nd rfl (Or.inl rfl) (pe_callH h__law_take hr (by decide) pass0 (pa_cons (pv 0) (pa_cons (pv 1) (pa_cons pe_int pa_nil)))))
 (pss_cut (ps_if (pt_cmpR op_eq (pe_callH h__law_take hr (by decide) pass0 (pa_cons (pv 0) (pa_cons (pv 1) (pa_cons pe_int pa_nil)))) pe_int (nomark _))
 (pss_one (ps_set (i := 2) sc__law_order.nd rfl (Or.inl rfl) (pe_op op_add (pv 2) pe_int)))
 pss_nil)
 (pss_cons (ps_set (i := 3) sc__law_order.nd rfl (Or.inl rfl) (pe_listRg rfl (by rfl) b.b_list (prg_2 (by rfl) b.b_range pe_int (pe_op op_add (pv 2) pe_int))))
 (pss_cons (ps_set (i := 4) sc__law_order.nd rfl (Or.inl rfl) (pe_lst pa_nil))
 (pss_cons (ps_while PassesOwn.never (pt_cmpR (op_neDK K hr) (pv 3) (pe_lst pa_nil) (nomark _))
 (pss_cons (ps_set (i := 5) sc__law_order.nd rfl (Or.inl rfl) (pe_bmK K PySem.F.plainAttrs_list PySem.F.slot_list_pop PySem.F.type_list_pop mt_popAt (pv 3) (pa_cons (pe_callH h__law_take hr (by decide) pass0 (pa_cons (pv 0) (pa_cons (pv 1) (pa_cons (pe_callB (cLenK K) (by rfl) b.b_len (by decide +kernel) (pa_cons (pv 3) pa_nil)) pa_nil)))) pa_nil)))
 (pss_one (ps_expr (pe_bmK K PySem.F.plainAttrs_list PySem.F.slot_list_append PySem.F.type_list_append mt_append (pv 4) (pa_cons (pe_tup (pa_cons (pv 5) (pa_cons (pe_ix (ix_seqK K) (pe_lst (pa_cons pe_str (pa_cons pe_str pa_nil))) (pe_callH h__law_take hr (by decide) pass0 (pa_cons (pv 0) (pa_cons (pv 1) (pa_cons pe_int pa_nil)))) (fun _ _ => rfl)) pa_nil))) pa_nil))))))
 (pss_one (ps_ret (pv 4)))))))), ?_⟩
    walk_at "xs"
    refine ⟨a, s, 8, ns, rfl, hs, hS, by omega, by omega, fun d1 H1 h1 h2 f1 S1 => ?_⟩
    refine x_cut (fun σ H' => ∃ c : Int, σ = [some (.ref a), some (.ref s), some (.int c), none, none, none] ∧ Fr [s] H H' ∧ Src H' s ∧ 0 ≤ c ∧ c ≤ 19) ?_ ?_
    · walk_at "xs"
      refine ⟨a, s, 8, ns, rfl, hs.mono f1, S1, by omega, by omega, fun d2 H2 h3 h4 f2 S2 => ?_⟩
      walk_at "xs"
      refine ifD (fun _ => ?_) (fun _ => ?_)
      · walk_at "xs"
        exact ⟨_, rfl, f1.trans f2, S2, by omega, by omega⟩
      · exact ⟨_, rfl, f1.trans f2, S2, by omega, by omega⟩
    · rintro σ H2 ⟨c, rfl, f2, S2, c0, c1⟩
      walk_at "xs"
      refine ⟨_, _, rfl, rfl, ⟨by omega, by omega, by omega, by omega, by omega⟩, fun L hL => ?_⟩
      have hL0 : H L = none := by
        cases q : H L with
        | none => rfl
        | some u =>
          exfalso
          have S3 := S2
          by_cases e : L = s
          · obtain ⟨x, i, z, e1, _⟩ := S2
            rw [e, e1] at hL; cases hL
          · rw [f2.get q (nin1 e nin0)] at hL; cases hL
      walk_at "xs"
      refine lstN (by walk_at "sz") fun o ho => ?_
      have hLo : L ≠ o := (ne2 ho upd_same).symm
      have ho2 : H2 o = none := un1 ho
      have ho0 : H o = none := by
        cases q : H o with
        | none => rfl
        | some u =>
          exfalso
          by_cases e : o = s
          · obtain ⟨x, i, z, e1, _⟩ := S2
            rw [e, e1] at ho2; cases ho2
          · rw [f2.get q (nin1 e nin0)] at ho2; cases ho2
      have hsL : s ≠ L := by obtain ⟨x, i, z, e1, _⟩ := S2; exact ne1 hL e1
      have hso : s ≠ o := by obtain ⟨x, i, z, e1, _⟩ := S2; exact ne1 ho2 e1
      have f3 : Fr [s] H (upd (upd H2 L (.lst (rgV 1 (c + 1)))) o (.lst [])) := (f2.mut hL0).mut ho0
      have S3 : Src (upd (upd H2 L (.lst (rgV 1 (c + 1)))) o (.lst [])) s := by
        obtain ⟨x, i, z, e1, e2⟩ := S2
        exact ⟨x, i, z, by rw [upd_ne hso, upd_ne hsL]; exact e1, e2⟩
      walk_at "xs"
      refine x_while (fun m σ H' => ∃ (lf : List Int) (os : List (Int × Bool)) (v : Option V), σ = [some (.ref a), some (.ref s), some (.int c), some (.ref L), some (.ref o), v] ∧ Fr [s] H H' ∧ Src H' s ∧ H' L = some (.lst (lf.map V.int)) ∧ LS K H' o (os.map pairD) ∧ m = lf.length ∧ (lf ++ os.map (·.1)).Nodup ∧ (lf ++ os.map (·.1)).length ≤ 19 ∧ ∀ x ∈ lf ++ os.map (·.1), 1 ≤ x ∧ x ≤ 19)
        ((c + 1 - 1).toNat) ⟨(List.range (c + 1 - 1).toNat).map fun i : Nat => 1 + (i : Int), [], none, rfl, f3, S3, ?_, ⟨[], upd_same, .nil⟩, by rw [List.length_map, List.length_range], ?_, ?_, ?_⟩ ?_
      · rw [upd_ne hLo, upd_same, List.map_map]; rfl
      · rw [List.map_nil, List.append_nil]
        exact List.Pairwise.map _ (fun a b h z => h (by omega)) List.nodup_range
      · rw [List.map_nil, List.append_nil, List.length_map, List.length_range]; omega
      · intro x hx
        rw [List.map_nil, List.append_nil, List.mem_map] at hx
        obtain ⟨i, hi, rfl⟩ := hx
        rw [List.mem_range] at hi
        omega
      · rintro m σ H4 ⟨lf, os, v, rfl, f4, S4, h1, h2, rfl, nd, hl, hr19⟩
        walk_at "xs"
        refine lstN (by walk_at "sz") fun t ht => ?_
        have ft : Fr [] H4 (upd H4 t (.lst [])) := Fr.new ht
        refine neNil (ints_ls (ft.get h1 nin0)) upd_same (shaped_ints lf) ?_
        walk_at "xs"
        refine ifB (fun c1 => whN ?_) (fun c1 => ?_)
        · have hpos : 0 < lf.length := by cases lf with | nil => cases c1 | cons x l => simp
          have h1t := ft.get h1 nin0
          have hll : lf.length ≤ 19 := by rw [List.length_append] at hl; omega
          have hol : os.length ≤ 19 := by rw [List.length_append, List.length_map] at hl; omega
          walk_at "xs"
          refine ⟨a, s, _, ns, rfl, (hs.mono f4).mono ft, S4.mono ft nin0, by rw [List.length_map]; omega, by rw [List.length_map]; omega, fun i H5 i0 i1 f5 S5 => ?_⟩
          rw [List.length_map] at i1
          have hi : i.toNat < lf.length := by omega
          have h15 := f5.get h1t (nin1 hsL.symm nin0)
          walk_at "xs"
          refine s_popAt (n := i.toNat) h15 (by omega) (by rw [List.getElem?_map, List.getElem?_eq_getElem hi]; rfl) (by rw [List.length_map]; omega) ?_
          have em : (lf.map V.int).eraseIdx i.toNat = (lf.eraseIdx i.toNat).map V.int := erase_map V.int lf _
          rw [em]
          have f6 : Fr [s] H (upd H5 L (.lst ((lf.eraseIdx i.toNat).map V.int))) := ((f4.trans (ft.weak fun _ h => by cases h)).trans f5).mut hL0
          have fL : Fr [L] H5 (upd H5 L (.lst ((lf.eraseIdx i.toNat).map V.int))) := Fr.wr h15 not_fixed_lst (by simp)
          have S6 := S5.mono fL (nin1 hsL nin0)
          have ls6 : LS K _ o (os.map pairD) := ((h2.mono ft nin0).mono f5 (nin1 hso.symm nin0)).mono fL (nin1 hLo.symm nin0)
          walk_at "xs"
          refine bmLS ls6 ?_
          walk_at "xs"
          refine lstN (by walk_at "sz") fun q hq => ?_
          have fq : Fr [] (upd H5 L (.lst ((lf.eraseIdx i.toNat).map V.int))) (upd (upd H5 L (.lst ((lf.eraseIdx i.toNat).map V.int))) q (.lst [.str "some", .str "all"])) := Fr.new hq
          walk_at "xs"
          refine ⟨a, s, 2, ns, rfl, (hs.mono f6).mono fq, S6.mono fq nin0, by omega, by omega, fun e H7 e0 e1 f7 S7 => ?_⟩
          have hqs : q ≠ s := by obtain ⟨x, i, z, e1, _⟩ := S6; exact ne2 hq e1
          have hq7 := f7.get (upd_same : (upd (upd H5 L (.lst ((lf.eraseIdx i.toNat).map V.int))) q (.lst [.str "some", .str "all"])) q = _) (nin1 hqs nin0)
          refine ixM hq7 (at_int e0 (two_sides e0 e1)) ?_
          walk_at "xs"
          refine tupN (by walk_at "sz") fun p hp => ?_
          have fp : Fr [] H7 (upd H7 p (.tup [.int lf[i.toNat], .str (sv (decide (e = 1)))])) := Fr.new hp
          have ls8 : LS K _ o (os.map pairD) := ((ls6.mono fq nin0).mono f7 (nin1 hso.symm nin0)).mono fp nin0
          obtain ⟨vs, g1, g2⟩ := ls8
          have g3 := g2.len
          rw [List.length_map] at g3
          walk_at "xs"
          refine s_append g1 (by omega) ?_
          have fo : Fr [o] (upd H7 p (.tup [.int lf[i.toNat], .str (sv (decide (e = 1)))])) (upd (upd H7 p (.tup [.int lf[i.toNat], .str (sv (decide (e = 1)))])) o (.lst (vs ++ [.ref p]))) := Fr.wr g1 not_fixed_lst (by simp)
          have hpo : p ≠ o := by intro z; subst z; rw [upd_same] at g1; cases g1
          have pm := erase_perm lf i.toNat hi
          have pm2 : (lf.eraseIdx i.toNat ++ (os ++ [(lf[i.toNat], decide (e = 1))]).map (·.1)).Perm (lf ++ os.map (·.1)) := by
            rw [List.map_append, ← List.append_assoc]
            refine List.perm_append_comm.trans ?_
            show (lf[i.toNat] :: (lf.eraseIdx i.toNat ++ os.map (·.1))).Perm _
            rw [← List.cons_append]
            exact pm.append_right _
          refine ⟨_, ?_, lf.eraseIdx i.toNat, os ++ [(lf[i.toNat], decide (e = 1))], _, rfl, ?_, (S7.mono fp nin0).mono fo (nin1 hso nin0), ?_, ⟨_, upd_same, ?_⟩, rfl, pm2.nodup_iff.mpr nd, by rw [pm2.length_eq]; exact hl, fun x hx => hr19 x (pm2.mem_iff.mp hx)⟩
          · rw [List.length_eraseIdx, if_pos hi]; omega
          · exact (((f6.trans (fq.weak fun _ h => by cases h)).trans f7).trans (fp.weak fun _ h => by cases h)).mut ho0
          · exact fo.get (fp.get (f7.get (fq.get upd_same nin0) (nin1 hsL.symm nin0)) nin0) (nin1 hLo nin0)
          · rw [List.map_append]
            refine (g2.mono fo).snoc (.tup (fo.get upd_same (nin1 hpo nin0)) (.cons (.int _) (.cons (.str _) .nil)))
        · walk_at "xs"
          have el : lf = [] := by cases lf with | nil => rfl | cons x l => cases c1
          subst el
          rw [List.nil_append] at nd hl hr19
          rw [List.length_map] at hl
          exact k o os _ ho0 (f4.trans (ft.weak fun _ h => by cases h)) (S4.mono ft nin0) (h2.mono ft nin0) nd hl fun p hp => hr19 p.1 (List.mem_map.mpr ⟨p, hp, rfl⟩)
end
end K

set_option maxRecDepth 100000
set_option maxHeartbeats 1000000
namespace K
open PySem L2 Z R

section
variable {P : Program} {w : World} {K : PySem.W.Frag} {mg : Str → Option Value} {base : Heap} {CP CG f : Addr} {fd : FuncData}
/-- a Gates object and a list apart from it tell the same rows -/
structure Two (CG : Addr) (K : PySem.W.Frag) (H : Hp) (g r kn l : Addr) (rs : List Row) : Prop where
  G : GatesAt CG K H g r kn rs
  L : LS K H l (rs.map rowD)
  ne : l ≠ r
theorem Two.mono {H H' : Hp} {g r kn l : Addr} {rs : List Row} {S : List Addr} (T : Two CG K H g r kn l rs) (fr : Fr S H H') (h1 : g ∉ S) (h2 : r ∉ S) (h3 : kn ∉ S) (h4 : l ∉ S) : Two CG K H' g r kn l rs := ⟨T.G.mono fr h1 h2 h3, T.L.mono fr h4, T.ne⟩
theorem Two.apart {H : Hp} {g r kn l : Addr} {rs : List Row} (T : Two CG K H g r kn l rs) : l ≠ g ∧ l ≠ kn ∧ r ≠ g ∧ r ≠ kn ∧ g ≠ kn := by
  obtain ⟨⟨⟨dx, a⟩, ⟨_, b, _⟩, ⟨_, c, _⟩, _, _⟩, ⟨_, d, _⟩, _⟩ := T
  exact ⟨ne_of d a (by intro z; cases z), ne_of d c (by intro z; cases z), ne_of b a (by intro z; cases z), ne_of b c (by intro z; cases z), ne_of a c (by intro z; cases z)⟩
def spBothOf (CG : Addr) (K : PySem.W.Frag) : Sp := fun vs H Q _ => ∃ (g r kn l : Addr) (x y : Nat) (rs : List Row), vs = [.ref g, .ref l, .int x, .int y] ∧ Two CG K H g r kn l rs ∧ rs.length < 1000000 ∧
  ∀ H', Fr [l, r, kn] H H' → Two CG K H' g r kn l (bothE rs x y).2 → Q (.int ((bothE rs x y).1 : Nat)) H'
theorem ok_bothof (b : Bi K mg CP CG) (h__law_both : Has P w K mg base CX0 "_law_both" ["rows", "a", "b"] 2 (spLBoth K)) (h_Gates_both : HasM P w K mg base CX0 CG "both" ["self", "a", "b"] 2 (spBoth CG K)) (d : Df K mg "_law_both_of" s__law_both_of ["gates", "rows", "a", "b"] f fd) : Has P w K mg base CX0 "_law_both_of" ["gates", "rows", "a", "b"] 3 (spBothOf CG K) := by
  refine d.has (d.F.ok sc__law_both_of (fun vs H Q E h => ?_) (fun cdv A outer s H vs Q E hr h => ?_))
  · obtain ⟨_, _, _, _, _, _, _, rfl, _⟩ := h; rfl
  · obtain ⟨g, r, kn, l, x, y, rs, rfl, T, hl, k⟩ := h
    have hu := hu_of hr
    have cl := b.cl_Gates
    obtain ⟨a1, a2, a3, a4, a5⟩ := T.apart
    have a0 := T.ne
    refine ⟨_, (pss_cons (ps_set (i := 4) sc__law_both_of.nd rfl (Or.inl rfl) (pe_callH h__law_both hr (by decide) pass0 (pa_cons (pv 1) (pa_cons (pv 2) (pa_cons (pv 3) pa_nil)))))
 (pss_cons (ps_if (pt_cmpR op_ne (pe_methH (pv 0) b.cl_Gates h_Gates_both hr (by decide) pass0 (pa_cons (pv 2) (pa_cons (pv 3) pa_nil))) (pv 4) (nomark _))
 (pss_one (ps_ret pe_int))
 pss_nil)
 (pss_one (ps_ret (pv 4))))), ?_⟩
    walk_at "xs"
    refine ⟨l, x, y, rs, rfl, T.L, hl, fun H1 f1 L1 => ?_⟩
    have G1 := T.G.mono f1 (nin1 a1.symm nin0) (nin1 a0.symm nin0) (nin1 a2.symm nin0)
    obtain ⟨dx, hg⟩ := G1.ins
    walk_at "xs"
    refine methA hg (by rfl) ?_
    walk_at "xs"
    refine ⟨g, r, kn, x, y, rs, rfl, G1, hl, fun H2 f2 G2 => ?_⟩
    walk_at "xs"
    refine ifN (fun c => absurd rfl c) fun _ => ?_
    walk_at "xs"
    refine k H2 ((f1.weak fun z h => by simp at h; simp [h]).trans (f2.weak fun z h => List.mem_cons_of_mem _ h)) ⟨G2, L1.mono f2 (nin1 a0 (nin1 a2 nin0)), a0⟩
def spLEdge (CG : Addr) (K : PySem.W.Frag) : Sp := fun vs H Q _ => ∃ (a s g r kn l h : Addr) (ns ah : List Int) (rs : List Row), vs = [.ref a, .ref s, .ref g, .ref l, .ref h] ∧ SqF K H a (ns.map V.int) ∧ Src H s ∧ Two CG K H g r kn l rs ∧ WF rs ∧ rs.length < 10000 ∧
  H h = some (.lst (ah.map V.int)) ∧ ah.length ≤ 19 ∧ s ≠ l ∧ s ≠ r ∧ h ≠ s ∧ h ≠ l ∧ h ≠ r ∧
  ∀ (e : Nat) rs' H', Fr [s, l, r, kn] H H' → Src H' s → Two CG K H' g r kn l rs' → WF rs' → rs <+: rs' → rs'.length ≤ rs.length + 30 → Ok rs' e ah → Q (.int (e : Int)) H'
theorem ok_ledge (b : Bi K mg CP CG) (h__law_take : Has P w K mg base CX0 "_law_take" ["script", "source", "size"] 1 (spTake K)) (h__law_opposite : Has P w K mg base CX0 "_law_opposite" ["edge"] 1 spOpp) (h__law_row : Has P w K mg base CX0 "_law_row" ["rows", "row"] 1 (spLRow K)) (h_Gates_leaf : HasM P w K mg base CX0 CG "leaf" ["self", "letter"] 2 (spLeaf CG K))
    (h__law_both_of : Has P w K mg base CX0 "_law_both_of" ["gates", "rows", "a", "b"] 3 (spBothOf CG K)) (d : Df K mg "_law_edge" s__law_edge ["script", "source", "gates", "rows", "ahead"] f fd) : Has P w K mg base CX0 "_law_edge" ["script", "source", "gates", "rows", "ahead"] 4 (spLEdge CG K) := by
  refine d.has (d.F.ok sc__law_edge (fun vs H Q E h => ?_) (fun cdv A outer s H vs Q E hr h => ?_))
  · obtain ⟨_, _, _, _, _, _, _, _, _, _, rfl, _⟩ := h; rfl
  · obtain ⟨a, s, g, r, kn, l, h, ns, ah, rs, rfl, hs, hS, T, wf, hrl, hh, hal, e1, e2, e3, e4, e5, k⟩ := h
    have hu := hu_of hr
    have cl := b.cl_Gates
    obtain ⟨a1, a2, a3, a4, a5⟩ := T.apart
    have a0 := T.ne
    obtain ⟨dx, hg⟩ := T.G.ins
    obtain ⟨kvs, hkn, _⟩ := T.G.known
    have hsl : ∃ xs, H s = some (.lst xs) := by obtain ⟨x, i, z, q, _⟩ := hS; exact ⟨_, q⟩
    obtain ⟨xs0, hs0⟩ := hsl
    have b1 : s ≠ g := ne_of hs0 hg (by intro z; cases z)
    have b2 : s ≠ kn := ne_of hs0 hkn (by intro z; cases z)
    have b3 : h ≠ g := ne_of hh hg (by intro z; cases z)
    have b4 : h ≠ kn := ne_of hh hkn (by intro z; cases z)
    refine ⟨_, (pss_cons (ps_set (i := 5) sc__law_edge.nd rfl (Or.inl rfl) (pe_lst (pa_cons pe_int (pa_cons pe_int pa_nil))))
 (pss_cons (ps_for PassesOwn.never rfl (pi_listK K (pv 4)) (pg_name (i := 6) sc__law_edge.nd rfl (Or.inl rfl))
 (pss_cons (ps_set (i := 7) sc__law_edge.nd rfl (Or.inl rfl) (pe_callH h__law_row hr (by decide) pass0 (pa_cons (pv 3) (pa_cons (pe_tup (pa_cons pe_str (pa_cons (pv 6) pa_nil))) pa_nil))))
 (pss_cons (ps_expr (pe_methH (pv 2) b.cl_Gates h_Gates_leaf hr (by decide) pass0 (pa_cons (pv 6) pa_nil)))
 (pss_cons (ps_expr (pe_bmK K PySem.F.plainAttrs_list PySem.F.slot_list_append PySem.F.type_list_append mt_append (pv 5) (pa_cons (pv 7) pa_nil)))
 (pss_one (ps_expr (pe_bmK K PySem.F.plainAttrs_list PySem.F.slot_list_append PySem.F.type_list_append mt_append (pv 5) (pa_cons (pe_callH h__law_opposite hr (by decide) pass0 (pa_cons (pv 7) pa_nil)) pa_nil))))))))
 (pss_cons (ps_set (i := 7) sc__law_edge.nd rfl (Or.inl rfl) (pe_ix (ix_seqK K) (pv 5) (pe_callH h__law_take hr (by decide) pass0 (pa_cons (pv 0) (pa_cons (pv 1) (pa_cons (pe_callB (cLenK K) (by rfl) b.b_len (by decide +kernel) (pa_cons (pv 5) pa_nil)) pa_nil)))) (fun _ _ => rfl)))
 (pss_cons (ps_for PassesOwn.never rfl (pi_range1 (by rfl) b.b_range (pa_cons (pe_callH h__law_take hr (by decide) pass0 (pa_cons (pv 0) (pa_cons (pv 1) (pa_cons pe_int pa_nil)))) pa_nil)) (pg_name (i := 8) sc__law_edge.nd rfl (Or.inl rfl))
 (pss_cons (ps_set (i := 9) sc__law_edge.nd rfl (Or.inl rfl) (pe_ix (ix_seqK K) (pv 5) (pe_callH h__law_take hr (by decide) pass0 (pa_cons (pv 0) (pa_cons (pv 1) (pa_cons (pe_callB (cLenK K) (by rfl) b.b_len (by decide +kernel) (pa_cons (pv 5) pa_nil)) pa_nil)))) (fun _ _ => rfl)))
 (pss_cons (ps_set (i := 7) sc__law_edge.nd rfl (Or.inl rfl) (pe_callH h__law_both_of hr (by decide) pass0 (pa_cons (pv 2) (pa_cons (pv 3) (pa_cons (pv 7) (pa_cons (pv 9) pa_nil))))))
 (pss_one (ps_if (pt_cmpR op_eq (pe_callH h__law_take hr (by decide) pass0 (pa_cons (pv 0) (pa_cons (pv 1) (pa_cons pe_int pa_nil)))) pe_int (nomark _))
 (pss_one (ps_set (i := 7) sc__law_edge.nd rfl (Or.inl rfl) (pe_callH h__law_opposite hr (by decide) pass0 (pa_cons (pv 7) pa_nil))))
 pss_nil)))))
 (pss_one (ps_ret (pv 7))))))), ?_⟩
    walk_at "xs"
    refine lstN (by walk_at "sz") fun es hes => ?_
    have c1 : es ≠ s := ne2 hes hs0
    have c2 : es ≠ g := ne2 hes hg
    have c3 : es ≠ h := ne2 hes hh
    have c4 : es ≠ kn := ne2 hes hkn
    have c5 : es ≠ l := by obtain ⟨_, q, _⟩ := T.L; exact ne2 hes q
    have c6 : es ≠ r := by obtain ⟨_, q, _⟩ := T.G.rows; exact ne2 hes q
    have f0 : Fr [s, l, r, kn] H (upd H es (.lst [.int 0, .int 1])) := Fr.new hes
    have f00 : Fr [] H (upd H es (.lst [.int 0, .int 1])) := Fr.new hes
    have T0 := T.mono f00 nin0 nin0 nin0 nin0
    have nh : h ∉ [s, l, r, kn] := nin1 e3 (nin1 e4 (nin1 e5 (nin1 b4 nin0)))
    have ng : g ∉ [l, r, kn] := nin1 a1.symm (nin1 a3.symm (nin1 a5 nin0))
    walk_at "xs"
    refine forL (xs := ah.map V.int) (SqL.of (f0.get hh nh)) (fun i σ H' => ∃ (rs' : List Row) (ls : List Nat) (v1 v2 : Option V), σ = [some (.ref a), some (.ref s), some (.ref g), some (.ref l), some (.ref h), some (.ref es), v1, v2, none, none] ∧ Fr [s, l, r, kn] H H' ∧ Src H' s ∧ Two CG K H' g r kn l rs' ∧ WF rs' ∧ rs <+: rs' ∧ rs'.length ≤ rs.length + i ∧ H' es = some (.lst (ls.map nV)) ∧ 0 < ls.length ∧ ls.length ≤ 2 + 2 * i ∧ ∀ e ∈ ls, Ok rs' e ah)
      ⟨rs, [0, 1], none, none, rfl, f0, hS.mono f00 nin0, T0, wf, List.prefix_refl _, Nat.le_refl _, upd_same, by simp, by simp, fun e he => ?_⟩ (fun i σ H' _ q => ?_) ?_ ?_
    · simp at he
      rcases he with rfl | rfl
      · exact ok_const T.G.hd rfl
      · exact ok_const T.G.hd rfl
    · obtain ⟨_, _, _, _, rfl, q1, _⟩ := q
      exact SqL.of (q1.get hh nh)
    · rintro i x σ H' hx ⟨rs', ls, v1, v2, rfl, f1, S1, T1, wf1, p1, l1, h1, lp, lb, ok1⟩
      obtain ⟨x, hx2, rfl⟩ := map_at hx
      have hi := (List.getElem?_eq_some_iff.mp hx).1
      rw [List.length_map] at hi
      have hxm := List.mem_of_getElem? hx2
      walk_at "xs"
      refine tupN (by walk_at "sz") fun t ht => ?_
      have ft : Fr [] H' (upd H' t (.tup [.str "letter", .int x])) := Fr.new ht
      have T2 := T1.mono ft nin0 nin0 nin0 nin0
      walk_at "xs"
      refine ⟨l, _, rs', .letter x, rfl, T2.L, at_row upd_same, by omega, fun H2 f2 L2 => ?_⟩
      have G2 := T2.G.mono f2 (nin1 a1.symm nin0) (nin1 a0.symm nin0) (nin1 a2.symm nin0)
      obtain ⟨dx2, hg2⟩ := G2.ins
      walk_at "xs"
      refine methA hg2 (by rfl) ?_
      walk_at "xs"
      refine ⟨g, r, kn, x, rs', rfl, G2, by omega, fun H3 f3 G3 => ?_⟩
      have T3 : Two CG K H3 g r kn l (addRow rs' (.letter x)) := ⟨G3, L2.mono f3 (nin1 a0 (nin1 a2 nin0)), a0⟩
      have f03 : Fr [l, r, kn] H' H3 := (ft.weak fun _ h => by cases h).trans ((f2.weak fun z h => by simp at h; simp [h]).trans (f3.weak fun z h => List.mem_cons_of_mem _ h))
      have h3 := f03.get h1 (nin1 c5 (nin1 c6 (nin1 c4 nin0)))
      have S3 := S1.mono f03 (nin1 e1 (nin1 e2 (nin1 b2 nin0)))
      walk_at "xs"
      refine s_append h3 (by rw [List.length_map]; omega) ?_
      walk_at "xs"
      refine ⟨_, rfl, ?_⟩
      walk_at "xs"
      refine s_append upd_same (by rw [List.length_append, List.length_map, List.length_singleton]; omega) ?_
      have fe : Fr [es] H3 (upd (upd H3 es (.lst (ls.map nV ++ [.int (edgeOf rs' (.letter x) : Nat)]))) es (.lst (ls.map nV ++ [.int (edgeOf rs' (.letter x) : Nat)] ++ [.int (opp (edgeOf rs' (.letter x)) : Nat)]))) := (Fr.wr h3 not_fixed_lst (by simp)).mS (by simp) ⟨_, upd_same, not_fixed_lst⟩
      have p2 := pre_addRow rs' (.letter x)
      have okl : Ok (addRow rs' (.letter x)) (edgeOf rs' (.letter x)) ah := R.ok_leaf hxm
      refine ⟨addRow rs' (.letter x), ls ++ [edgeOf rs' (.letter x)] ++ [opp (edgeOf rs' (.letter x))], _, _, rfl, ((f1.trans (f03.weak fun z h => List.mem_cons_of_mem _ h)).mut hes).mut hes, S3.mono fe (nin1 c1.symm nin0), T3.mono fe (nin1 c2.symm nin0) (nin1 c6.symm nin0) (nin1 c4.symm nin0) (nin1 c5.symm nin0), wf_letter wf1 x, p1.trans p2, ?_, ?_, by simp, ?_, fun e he => ?_⟩
      · have := len_addRow rs' (.letter x); omega
      · rw [upd_same, List.map_append, List.map_append]; rfl
      · rw [List.length_append, List.length_append, List.length_singleton, List.length_singleton]; omega
      · rw [List.mem_append, List.mem_append, List.mem_singleton, List.mem_singleton] at he
        rcases he with (he | rfl) | rfl
        · exact (ok1 e he).pre wf1 p2
        · exact okl
        · exact okl.opp
    · rintro σ H' ⟨rs', ls, v1, v2, rfl, f1, S1, T1, wf1, p1, l1, h1, lp, lb, ok1⟩
      rw [List.length_map] at l1 lb
      have pick : ∀ {d : Int}, 0 ≤ d → d < ls.length → ∃ e, (ls.map nV)[d.toNat]? = some (nV e) ∧ e ∈ ls := fun {d} d0 d1 => by
        have : d.toNat < ls.length := by omega
        exact ⟨ls[d.toNat], by rw [List.getElem?_map, List.getElem?_eq_getElem this]; rfl, List.getElem_mem _⟩
      have nes : es ∉ [s] := nin1 c1 nin0
      walk_at "xs"
      refine ⟨a, s, _, ns, rfl, hs.mono f1, S1, by rw [List.length_map]; omega, by rw [List.length_map]; omega, fun d1 H2 d10 d11 f2 S2 => ?_⟩
      rw [List.length_map] at d11
      obtain ⟨e, he, hem⟩ := pick d10 d11
      have h2 := f2.get h1 nes
      refine ixM h2 (at_int d10 he) ?_
      have T2 := T1.mono f2 (nin1 b1.symm nin0) (nin1 e2.symm nin0) (nin1 b2.symm nin0) (nin1 e1.symm nin0)
      have f12 := f1.trans (f2.weak fun z h => by simp at h; simp [h])
      walk_at "xs"
      refine ⟨a, s, 4, ns, rfl, hs.mono f12, S2, by omega, by omega, fun d2 H3 d20 d21 f3 S3 => ?_⟩
      have h3 := f3.get h2 nes
      have T3 := T2.mono f3 (nin1 b1.symm nin0) (nin1 e2.symm nin0) (nin1 b2.symm nin0) (nin1 e1.symm nin0)
      have f13 := f12.trans (f3.weak fun z h => by simp at h; simp [h])
      refine forR1 d2.toNat (by omega) (by omega) (fun i σ H' => ∃ (rs' : List Row) (e : Nat) (v1 v2 v3 : Option V), σ = [some (.ref a), some (.ref s), some (.ref g), some (.ref l), some (.ref h), some (.ref es), v1, some (.int (e : Int)), v2, v3] ∧ Fr [s, l, r, kn] H H' ∧ Src H' s ∧ Two CG K H' g r kn l rs' ∧ WF rs' ∧ rs <+: rs' ∧ rs'.length ≤ rs.length + 19 + i ∧ H' es = some (.lst (ls.map nV)) ∧ (∀ e ∈ ls, Ok rs' e ah) ∧ Ok rs' e ah)
        ⟨rs', e, _, none, none, rfl, f13, S3, T3, wf1, p1, by omega, h3, ok1, ok1 e hem⟩ ?_ ?_
      · rintro i σ H4 hi ⟨rs4, e, v1, v2, v3, rfl, f4, S4, T4, wf4, p4, l4, h4, ok4, oke⟩
        walk_at "xs"
        refine ⟨a, s, _, ns, rfl, hs.mono f4, S4, by rw [List.length_map]; omega, by rw [List.length_map]; omega, fun d3 H5 d30 d31 f5 S5 => ?_⟩
        rw [List.length_map] at d31
        obtain ⟨e', he', hem'⟩ := pick d30 d31
        have h5 := f5.get h4 nes
        refine ixM h5 (at_int d30 he') ?_
        have T5 := T4.mono f5 (nin1 b1.symm nin0) (nin1 e2.symm nin0) (nin1 b2.symm nin0) (nin1 e1.symm nin0)
        walk_at "xs"
        refine ⟨g, r, kn, l, e, e', rs4, rfl, T5, by omega, fun H6 f6 T6 => ?_⟩
        have oke2 := both_ok T5.G.hd wf4 oke (ok4 e' hem')
        have wf6 := both_wf wf4 oke.1 (ok4 e' hem').1
        have p6 := both_pre rs4 e e'
        have l6 := both_len rs4 e e'
        have S6 := S5.mono f6 (nin1 e1 (nin1 e2 (nin1 b2 nin0)))
        have h6 := f6.get h5 (nin1 c5 (nin1 c6 (nin1 c4 nin0)))
        have f46 := (f4.trans (f5.weak fun z h => by simp at h; simp [h])).trans (f6.weak fun z h => List.mem_cons_of_mem _ h)
        walk_at "xs"
        refine ⟨a, s, 2, ns, rfl, hs.mono f46, S6, by omega, by omega, fun d4 H7 d40 d41 f7 S7 => ?_⟩
        have T7 := T6.mono f7 (nin1 b1.symm nin0) (nin1 e2.symm nin0) (nin1 b2.symm nin0) (nin1 e1.symm nin0)
        have h7 := f7.get h6 nes
        have f47 := f46.trans (f7.weak fun z h => by simp at h; simp [h])
        walk_at "xs"
        refine ifD (fun _ => ?_) (fun _ => ?_)
        · walk_at "xs"
          refine ⟨_, rfl, ?_⟩
          walk_at "xs"
          exact ⟨_, _, _, _, _, rfl, f47, S7, T7, wf6, p4.trans p6, by omega, h7, fun e he => (ok4 e he).pre wf4 p6, oke2.opp⟩
        · exact ⟨_, _, _, _, _, rfl, f47, S7, T7, wf6, p4.trans p6, by omega, h7, fun e he => (ok4 e he).pre wf4 p6, oke2⟩
      · rintro σ H4 ⟨rs4, e, v1, v2, v3, rfl, f4, S4, T4, wf4, p4, l4, h4, ok4, oke⟩
        walk_at "xs"
        exact k e rs4 H4 f4 S4 T4 wf4 p4 (by omega) oke
end
end K

set_option maxRecDepth 100000
set_option maxHeartbeats 1000000
namespace K
open PySem L2 Z R

abbrev s_Gates_cone : Stmt := inClass (top 11) 9
abbrev n_Gates_cone : List Str := ["self", "edges", "seen", "todo", "k", "row", "edge"]
theorem sc_Gates_cone : FnScope n_Gates_cone ["self", "edges"] (defScope s_Gates_cone) := ⟨rfl, rfl, rfl, by decide +kernel, rfl, by decide +kernel, by decide +kernel⟩
abbrev s_Gates_gate_rows : Stmt := inClass (top 11) 10
abbrev n_Gates_gate_rows : List Str := ["self", "edges", "k"]
theorem sc_Gates_gate_rows : FnScope n_Gates_gate_rows ["self", "edges"] (defScope s_Gates_gate_rows) := ⟨rfl, rfl, rfl, by decide +kernel, rfl, by decide +kernel, by decide +kernel⟩
abbrev s_Gates_hangs_on : Stmt := inClass (top 11) 11
abbrev n_Gates_hangs_on : List Str := ["self", "edge", "k"]
theorem sc_Gates_hangs_on : FnScope n_Gates_hangs_on ["self", "edge"] (defScope s_Gates_hangs_on) := ⟨rfl, rfl, rfl, by decide +kernel, rfl, by decide +kernel, by decide +kernel⟩
section
variable {P : Program} {w : World} {K : PySem.W.Frag} {mg : Str → Option Value} {base : Heap} {CP CG f : Addr} {fd : FuncData}
def spCone (CG : Addr) (K : PySem.W.Frag) : Sp := fun vs H Q _ => ∃ (g r kn e : Addr) (rs : List Row) (es : List Nat), vs = [.ref g, .ref e] ∧ GatesAt CG K H g r kn rs ∧ WF rs ∧ rs.length < 1000000 ∧ SqL K H e (es.map nV) ∧ es.length < 1000000 ∧ (∀ x ∈ es, x / 2 < rs.length) ∧
  ∀ D H', H D = none → Fr [] H H' → H' D = some (.lst ((cone rs es).map nV)) → Q (.ref D) H'
theorem ok_cone (b : Bi K mg CP CG) (d : DfM K CG "Gates.cone" "cone" s_Gates_cone ["self", "edges"] f fd) : HasM P w K mg base CX0 CG "cone" ["self", "edges"] 1 (spCone CG K) := by
  refine d.has (d.F.ok sc_Gates_cone (fun vs H Q E h => ?_) (fun cdv A outer s H vs Q E hr h => ?_))
  · obtain ⟨_, _, _, _, _, _, rfl, _⟩ := h; rfl
  · obtain ⟨g, r, kn, e, rs, es, rfl, G, wf, hrl, he, hel, hes, k⟩ := h
    have n1 := b.na_rows
    have n2 := b.na_known
    have cl := b.cl_Gates
    have hu := hu_of hr
    refine ⟨_, (pss_cons (ps_set (i := 2) sc_Gates_cone.nd rfl (Or.inl rfl) pe_dnewK)
 (pss_cons (ps_setLc (i := 3) (own := [("edge", 6)]) (g := gName 6) (by rfl) sc_Gates_cone.nd rfl rfl (sw_true rfl rfl rfl (by decide +kernel)) (pi_listK K (pv 1)) (blkOk_by (own := [("edge", 6)]) (N := n_Gates_cone) (sc := defScope s_Gates_cone) (by decide +kernel)) (fun _ _ _ _ _ => (pg_name (i := 6) sc_Gates_cone.nd rfl (Or.inl rfl))) (fun _ _ _ _ _ => by exact pts_nil) (fun _ _ _ _ _ => by exact (pe_op op_fdiv (pv 6) pe_int)))
 (pss_cons (ps_while PassesOwn.never (pt_trK K (pv 3))
 (pss_cons (ps_set (i := 4) sc_Gates_cone.nd rfl (Or.inl rfl) (pe_bm0K K PySem.F.plainAttrs_list PySem.F.slot_list_pop PySem.F.type_list_pop mt_pop (pv 3)))
 (pss_one (ps_if (PW.pt (pw_and (pt_cmpR op_gt (pv 4) pe_int (nomark _)) (pw_and1 (pt_cmp (pc_dnotin hu (pv 4) (pv 2))))))
 (pss_cons (ps_dput hu (pv 2) (pv 4) pe_bl rfl)
 (pss_cons (ps_set (i := 5) sc_Gates_cone.nd rfl (Or.inl rfl) (pe_ix (ix_seqK K) (pe_fldK K (pv 0) rfl) (pv 4) (fun _ _ => rfl)))
 (pss_one (ps_if (pt_cmpR op_eq (pe_ix (ix_seqK K) (pv 5) pe_int (fun _ _ => rfl)) pe_str (nomark _))
 (pss_cons (ps_expr (pe_bmK K PySem.F.plainAttrs_list PySem.F.slot_list_append PySem.F.type_list_append mt_append (pv 3) (pa_cons (pe_op op_fdiv (pe_ix (ix_seqK K) (pv 5) pe_int (fun _ _ => rfl)) pe_int) pa_nil)))
 (pss_one (ps_expr (pe_bmK K PySem.F.plainAttrs_list PySem.F.slot_list_append PySem.F.type_list_append mt_append (pv 3) (pa_cons (pe_op op_fdiv (pe_ix (ix_seqK K) (pv 5) pe_int (fun _ _ => rfl)) pe_int) pa_nil)))))
 pss_nil))))
 pss_nil))))
 (pss_one (ps_ret (pe_callB (cSortedKI rfl) (by rfl) b.b_sorted (by decide +kernel) (pa_cons (pv 2) pa_nil))))))), ?_⟩
    walk_at "xs"
    refine x_newK fun sd hsd => ?_
    walk_at "xs"
    have f1 : Fr [] H (upd H sd (.dK [])) := Fr.new hsd
    refine lcA es nV (sql_fr he nin0 f1) (by omega) (fun x => some (.int ((x / 2 : Nat) : Int))) (fun x H' E E' hx f k1 k2 => ?_) fun td H2 htd f2 ls => ?_
    · walk_at "xs"
      exact k1 _ _ _ rfl (.int _) Fr.refl
    · have lst : H2 td = some (.lst ((es.map (· / 2)).map nV)) := by
        have e1 : es.filterMap (fun x => some (PyData.int ((x / 2 : Nat) : Int))) = ((es.map (· / 2)).map fun n : Nat => (n : Int)).map PyData.int := by
          rw [fm_map, List.map_map, List.map_map]; rfl
        rw [e1] at ls
        rw [ls_ints ls, List.map_map]
        rfl
      have hsd2 : H2 sd = some (.dK []) := f2.get upd_same nin0
      have htd0 : H td = none := un1 htd
      have hne : sd ≠ td := (ne2 htd upd_same).symm
      have f3 := f1.trans f2
      walk_at "xs"
      refine x_while (fun m σ H' => ∃ (S T : List Nat) (v1 v2 : Option V), σ = [some (.ref g), some (.ref e), some (.ref sd), some (.ref td), v1, v2, none] ∧ Fr [] H H' ∧ H' sd = some (.dK (seenD S)) ∧ H' td = some (.lst (T.map nV)) ∧ Found rs es S T ∧ m = 3 * unseen rs.length S + T.length ∧ T.length ≤ es.length + S.length) (3 * unseen rs.length [] + es.length) ⟨[], es.map (· / 2), none, none, rfl, f3, hsd2, lst, Found.init hes, by rw [List.length_map], by rw [List.length_map]; exact Nat.le_add_right _ _⟩ ?_
      rintro m σ H' ⟨S, T, v1, v2, rfl, f4, h1, h2, F, rfl, hT⟩
      walk_at "xs"
      refine truM h2 ?_
      rcases List.eq_nil_or_concat T with rfl | ⟨T', t, rfl⟩
      · refine ifF ?_
        walk_at "xs"
        refine s_sortedKI (S.map fun k : Nat => (k : Int)) (.inl h1) (seen_keys S) fun ys p hp hs hn => ?_
        rw [seen_sorted G.hd F hp hs]
        refine k p _ (f4.back hn nin0) (f4.trans (Fr.new hn)) ?_
        rw [upd_same, List.map_map]
        rfl
      · rw [List.concat_eq_append, List.map_append] at h2 ⊢
        have e1 : (!(T'.map nV ++ [t].map nV).isEmpty) = true := by simp
        rw [e1]
        refine ifT (whN ?_)
        walk_at "xs"
        refine s_pop (xs := T'.map nV) (y := nV t) h2 ?_
        walk_at "xs"
        have t1 : T'.length + 1 ≤ es.length + S.length := by rw [List.concat_eq_append] at hT; simpa using hT
        have hsl : S.length ≤ rs.length := len_le_of_lt F.nd fun k hk => (F.pos k hk).2
        have ms : ∀ {S2 T2 : List Nat}, 3 * unseen rs.length S2 + T2.length < 3 * unseen rs.length S + (T'.length + 1) → 3 * unseen rs.length S2 + T2.length < 3 * unseen rs.length S + (T' ++ [t]).length := fun h => by rw [List.length_append, List.length_singleton]; exact h
        rw [List.concat_eq_append] at F hT
        have tl : t < rs.length := F.lt t (by simp)
        refine ifD (fun c => ?_) (fun c => ?_)
        · walk_at "xs"
          refine inI (.inl (by walk_at "hg")) ?_
          rw [seen_val]
          by_cases hm : t ∈ S
          · rw [decide_eq_true hm]
            walk_at "xs"
            refine ⟨_, ms (by omega), S, T', _, v2, rfl, ?_, by walk_at "hg", upd_same, F.old (.inl hm), rfl, by omega⟩
            exact f4.mut htd0
          · rw [decide_eq_false hm]
            walk_at "xs"
            refine putI (by walk_at "hg") (by rw [seen_len, sizeLine_eq]; omega) ?_
            rw [seen_put hm]
            have f5 : Fr [] H (upd (upd H' td (.lst (T'.map nV))) sd (.dK (seenD (S ++ [t])))) := (f4.mut htd0).mut hsd
            have G5 := G.mono f5 nin0 nin0 nin0
            obtain ⟨dx, hg⟩ := G5.ins
            walk_at "xs"
            have hri : rs[t]? = some rs[t] := List.getElem?_eq_getElem tl
            refine ixS G5.rows (by omega) (d := rowD rs[t]) (by rw [List.getElem?_map]; simp [hri]) fun y hy => ?_
            obtain ⟨p, rfl, hp⟩ := row_at hy
            walk_at "xs"
            have u1 := unseen_lt tl hm
            cases hq : rs[t] with
            | no =>
              rw [hq] at hp
              have hp' : _ = some (HO.tup [V.str "no"]) := hp
              clear hp
              walk_at "xs"
              refine ifD (fun c2 => absurd c2.symm s_bn) (fun _ => ?_)
              walk_at "xs"
              refine ⟨_, ms (by omega), S ++ [t], T', _, _, rfl, f5, upd_same, by walk_at "hg", F.leaf hm (by omega) (fun a b z => by rw [hri, hq] at z; cases z), rfl, by rw [List.length_append, List.length_singleton]; omega⟩
            | letter l =>
              rw [hq] at hp
              have hp' : _ = some (HO.tup [V.str "letter", V.int l]) := hp
              clear hp
              walk_at "xs"
              refine ifD (fun c2 => absurd c2 s_lb) (fun _ => ?_)
              walk_at "xs"
              refine ⟨_, ms (by omega), S ++ [t], T', _, _, rfl, f5, upd_same, by walk_at "hg", F.leaf hm (by omega) (fun a b z => by rw [hri, hq] at z; cases z), rfl, by rw [List.length_append, List.length_singleton]; omega⟩
            | both a b' =>
              rw [hq] at hp
              have hp' : _ = some (HO.tup [V.str "both", V.int (a : Int), V.int (b' : Int)]) := hp
              clear hp
              walk_at "xs"
              refine ifD (fun _ => ?_) (fun z => absurd rfl z)
              have pt : p ≠ td := ne_of hp' (show _ = some (HO.lst (T'.map nV)) by walk_at "hg") (by intro z; cases z)
              walk_at "xs"
              refine s_append (by walk_at "hg") (by rw [List.length_map]; omega) ?_
              walk_at "xs"
              refine s_append (by walk_at "hg") (by rw [List.length_append, List.length_map, List.length_singleton]; omega) ?_
              have FF := F.both wf hm (by omega) (by rw [hri, hq])
              refine ⟨_, ms ?_, S ++ [t], T' ++ [a / 2] ++ [b' / 2], _, _, rfl, ?_, by walk_at "hg", ?_, FF, rfl, ?_⟩
              · simp only [List.length_append, List.length_singleton]; omega
              · walk_at "fr"
              · rw [upd_same, List.map_append, List.map_append]; rfl
              · simp only [List.length_append, List.length_singleton]; omega
        · have t0 : t = 0 := by omega
          walk_at "xs"
          refine ⟨_, ms (by omega), S, T', _, v2, rfl, ?_, by walk_at "hg", upd_same, F.old (.inr t0), rfl, by omega⟩
          exact f4.mut htd0
end
end K

set_option maxRecDepth 100000
set_option maxHeartbeats 1000000
namespace K
open PySem L2 Z R

abbrev s_Gates_worths : Stmt := inClass (top 11) 12
abbrev n_Gates_worths : List Str := ["self", "edges", "choices", "truth", "k", "row", "left", "right", "edge"]
theorem sc_Gates_worths : FnScope n_Gates_worths ["self", "edges", "choices"] (defScope s_Gates_worths) := ⟨rfl, rfl, rfl, by decide +kernel, rfl, by decide +kernel, by decide +kernel⟩
abbrev s__law_reached : Stmt := top 22
abbrev n__law_reached : List Str := ["rows", "edges", "flags", "edge", "k", "row"]
theorem sc__law_reached : FnScope n__law_reached ["rows", "edges"] (defScope s__law_reached) := ⟨rfl, rfl, rfl, by decide +kernel, rfl, by decide +kernel, by decide +kernel⟩
abbrev s__law_value : Stmt := top 24
abbrev n__law_value : List Str := ["truths", "edge"]
theorem sc__law_value : FnScope n__law_value ["truths", "edge"] (defScope s__law_value) := ⟨rfl, rfl, rfl, by decide +kernel, rfl, by decide +kernel, by decide +kernel⟩
abbrev s__law_truths : Stmt := top 25
abbrev n__law_truths : List Str := ["rows", "choices", "truths", "k", "row"]
theorem sc__law_truths : FnScope n__law_truths ["rows", "choices"] (defScope s__law_truths) := ⟨rfl, rfl, rfl, by decide +kernel, rfl, by decide +kernel, by decide +kernel⟩
section
variable {P : Program} {w : World} {K : PySem.W.Frag} {mg : Str → Option Value} {base : Heap} {CP CG f : Addr} {fd : FuncData}
def isBoth : Row → Bool
  | .both _ _ => true
  | _ => false
def letterOf : Row → Option Int
  | .letter l => some l
  | _ => none
theorem row0 (r : Row) : ∃ s t, (rowKey r).map kV = V.str s :: t ∧ (s = "both" ↔ isBoth r = true) ∧ (s = "letter" ↔ (letterOf r).isSome = true) := by
  cases r with
  | no => exact ⟨"no", [], rfl, ⟨fun z => absurd z.symm s_bn, fun z => by cases z⟩, ⟨fun z => absurd z.symm s_ln, fun z => by cases z⟩⟩
  | letter l => exact ⟨"letter", [.int l], rfl, ⟨fun z => absurd z s_lb, fun z => by cases z⟩, ⟨fun _ => rfl, fun _ => rfl⟩⟩
  | both a b => exact ⟨"both", [.int a, .int b], rfl, ⟨fun _ => rfl, fun _ => rfl⟩, ⟨fun z => absurd z.symm s_lb, fun z => by cases z⟩⟩
def spGRows (CG : Addr) (K : PySem.W.Frag) : Sp := fun vs H Q _ => ∃ (g r kn e : Addr) (rs : List Row) (es : List Nat), vs = [.ref g, .ref e] ∧ GatesAt CG K H g r kn rs ∧ WF rs ∧ rs.length < 1000000 ∧ SqL K H e (es.map nV) ∧ es.length < 1000000 ∧ (∀ x ∈ es, x / 2 < rs.length) ∧
  ∀ D H', H D = none → Fr [] H H' → H' D = some (.lst (((cone rs es).filter fun k => (rs[k]?).any isBoth).map nV)) → Q (.ref D) H'
theorem cone_len (rs : List Row) (es : List Nat) : (cone rs es).length ≤ rs.length := by
  unfold cone
  have := List.length_filter_le (fun k => @decide (Cn rs es k) (Classical.propDecidable _)) (List.range rs.length)
  rw [List.length_range] at this
  exact this
theorem ok_grows (b : Bi K mg CP CG) (h_Gates_cone : HasM P w K mg base CX0 CG "cone" ["self", "edges"] 1 (spCone CG K)) (d : DfM K CG "Gates.gate_rows" "gate_rows" s_Gates_gate_rows ["self", "edges"] f fd) : HasM P w K mg base CX0 CG "gate_rows" ["self", "edges"] 2 (spGRows CG K) := by
  refine d.has (d.F.ok sc_Gates_gate_rows (fun vs H Q E h => ?_) (fun cdv A outer s H vs Q E hr h => ?_))
  · obtain ⟨_, _, _, _, _, _, rfl, _⟩ := h; rfl
  · obtain ⟨g, r, kn, e, rs, es, rfl, G, wf, hrl, he, hel, hes, k⟩ := h
    have n1 := b.na_rows
    have n2 := b.na_known
    have cl := b.cl_Gates
    have hu := hu_of hr
    obtain ⟨dx, hg⟩ := G.ins
    have hcl := cone_len rs es
    refine ⟨_, (pss_one (ps_ret (pe_lc (own := [("k", 2)]) (g := gName 2) (by rfl) sc_Gates_gate_rows.nd (pi_listK K (pe_methH (pv 0) b.cl_Gates h_Gates_cone hr (by decide) pass0 (pa_cons (pv 1) pa_nil))) (blkOk_by (own := [("k", 2)]) (N := n_Gates_gate_rows) (sc := defScope s_Gates_gate_rows) (by decide +kernel)) (fun _ _ _ _ _ => (pg_name (i := 2) sc_Gates_gate_rows.nd rfl (Or.inl rfl))) (fun _ _ _ _ _ => by exact (pts_one (pt_cmpR op_eq (pe_ix (ix_seqK K) (pe_ix (ix_seqK K) (pe_fldK K (pv 0) rfl) (pv 2) (fun _ _ => rfl)) pe_int (fun _ _ => rfl)) pe_str (nomark _)))) (fun _ _ _ _ _ => by exact (pv 2))))), ?_⟩
    walk_at "xs"
    refine methA hg (by rfl) ?_
    walk_at "xs"
    refine ⟨g, r, kn, e, rs, es, rfl, G, wf, hrl, he, hel, hes, fun D H1 hD f1 hc => ?_⟩
    refine lcA (cone rs es) nV (SqL.of hc) (by omega) (fun k => if (rs[k]?).any isBoth then some (.int (k : Int)) else none) (fun x H' E E' hx f2 k1 k2 => ?_) fun D2 H2 hD2 f2 ls => ?_
    · have f3 := f1.trans f2
      have G3 := G.mono f3 nin0 nin0 nin0
      have hg3 := f3.get hg nin0
      have hxl := (mem_cone.mp hx).1
      have hri : rs[x]? = some rs[x] := List.getElem?_eq_getElem hxl
      rw [hri] at k1 k2
      walk_at "xs"
      refine ixS G3.rows (by omega) (d := rowD rs[x]) (by rw [List.getElem?_map]; simp [hri]) fun y hy => ?_
      obtain ⟨p, rfl, hp⟩ := row_at hy
      obtain ⟨s0, t0, e0, e1, _⟩ := row0 rs[x]
      rw [e0] at hp
      walk_at "xs"
      refine ifD (fun c => ?_) (fun c => ?_)
      · walk_at "xs"
        exact k1 _ _ _ (by rw [Option.any_some, if_pos (e1.mp c)]) (.int _) Fr.refl
      · exact k2 _ (by rw [Option.any_some, if_neg (fun z => c (e1.mpr z))]) Fr.refl
    · refine k D2 H2 (f1.back hD2 nin0) (f1.trans f2) ?_
      have e1 : (cone rs es).filterMap (fun k : Nat => if (rs[k]?).any isBoth then some (PyData.int (k : Int)) else none) = (((cone rs es).filter fun k => (rs[k]?).any isBoth).map fun k : Nat => (k : Int)).map PyData.int := by
        rw [List.map_map]
        exact fm_filter (fun k => (rs[k]?).any isBoth) (fun k : Nat => PyData.int (k : Int)) (cone rs es)
      rw [e1] at ls
      rw [ls_ints ls, List.map_map]
      rfl
def spHangs (CG : Addr) (K : PySem.W.Frag) : Sp := fun vs H Q _ => ∃ (g r kn : Addr) (rs : List Row) (e : Nat), vs = [.ref g, .int (e : Int)] ∧ GatesAt CG K H g r kn rs ∧ WF rs ∧ rs.length < 1000000 ∧ e / 2 < rs.length ∧
  ∀ D H' (ls : List Int), H D = none → Fr [] H H' → H' D = some (.lst (ls.map V.int)) → (∀ l, l ∈ ls ↔ ∃ k, Cn rs [e] k ∧ rs[k]? = some (.letter l)) → Q (.ref D) H'
theorem ok_hangs (b : Bi K mg CP CG) (h_Gates_cone : HasM P w K mg base CX0 CG "cone" ["self", "edges"] 1 (spCone CG K)) (d : DfM K CG "Gates.hangs_on" "hangs_on" s_Gates_hangs_on ["self", "edge"] f fd) : HasM P w K mg base CX0 CG "hangs_on" ["self", "edge"] 2 (spHangs CG K) := by
  refine d.has (d.F.ok sc_Gates_hangs_on (fun vs H Q E h => ?_) (fun cdv A outer s H vs Q E hr h => ?_))
  · obtain ⟨_, _, _, _, _, rfl, _⟩ := h; rfl
  · obtain ⟨g, r, kn, rs, e, rfl, G, wf, hrl, hes, k⟩ := h
    have n1 := b.na_rows
    have n2 := b.na_known
    have cl := b.cl_Gates
    have hu := hu_of hr
    obtain ⟨dx, hg⟩ := G.ins
    have hcl := cone_len rs [e]
    refine ⟨_, (pss_one (ps_ret (pe_callB (cSortedIK K) (by rfl) b.b_sorted (by decide +kernel) (pa_cons (pe_lc (own := [("k", 2)]) (g := gName 2) (by rfl) sc_Gates_hangs_on.nd (pi_listK K (pe_methH (pv 0) b.cl_Gates h_Gates_cone hr (by decide) pass0 (pa_cons (pe_lst (pa_cons (pv 1) pa_nil)) pa_nil))) (blkOk_by (own := [("k", 2)]) (N := n_Gates_hangs_on) (sc := defScope s_Gates_hangs_on) (by decide +kernel)) (fun _ _ _ _ _ => (pg_name (i := 2) sc_Gates_hangs_on.nd rfl (Or.inl rfl))) (fun _ _ _ _ _ => by exact (pts_one (pt_cmpR op_eq (pe_ix (ix_seqK K) (pe_ix (ix_seqK K) (pe_fldK K (pv 0) rfl) (pv 2) (fun _ _ => rfl)) pe_int (fun _ _ => rfl)) pe_str (nomark _)))) (fun _ _ _ _ _ => by exact (pe_ix (ix_seqK K) (pe_ix (ix_seqK K) (pe_fldK K (pv 0) rfl) (pv 2) (fun _ _ => rfl)) pe_int (fun _ _ => rfl)))) pa_nil)))), ?_⟩
    walk_at "xs"
    refine methA hg (by rfl) ?_
    walk_at "xs"
    refine lstN (by walk_at "sz") fun l hl => ?_
    have f0 : Fr [] H (upd H l (.lst [.int (e : Int)])) := Fr.new hl
    walk_at "xs"
    refine ⟨g, r, kn, l, rs, [e], rfl, G.mono f0 nin0 nin0 nin0, wf, hrl, SqL.of upd_same, by simp, by simpa using hes, fun D H1 hD f1 hc => ?_⟩
    have f01 := f0.trans f1
    refine lcA (cone rs [e]) nV (SqL.of hc) (by omega) (fun k => ((rs[k]?).bind letterOf).map PyData.int) (fun x H' E E' hx f2 k1 k2 => ?_) fun D2 H2 hD2 f2 ls => ?_
    · have f3 := f01.trans f2
      have G3 := G.mono f3 nin0 nin0 nin0
      have hg3 := f3.get hg nin0
      have hxl := (mem_cone.mp hx).1
      have hri : rs[x]? = some rs[x] := List.getElem?_eq_getElem hxl
      rw [hri] at k1 k2
      walk_at "xs"
      refine ixS G3.rows (by omega) (d := rowD rs[x]) (by rw [List.getElem?_map]; simp [hri]) fun y hy => ?_
      obtain ⟨p, rfl, hp⟩ := row_at hy
      cases hq : rs[x] with
      | no =>
        rw [hq] at hp k2
        have hp' : _ = some (HO.tup [V.str "no"]) := hp
        clear hp
        walk_at "xs"
        exact ifD (fun c => absurd c.symm s_ln) fun _ => k2 _ rfl Fr.refl
      | both a' b' =>
        rw [hq] at hp k2
        have hp' : _ = some (HO.tup [V.str "both", V.int (a' : Int), V.int (b' : Int)]) := hp
        clear hp
        walk_at "xs"
        exact ifD (fun c => absurd c.symm s_lb) fun _ => k2 _ rfl Fr.refl
      | letter l =>
        rw [hq] at hp k1
        have hp' : _ = some (HO.tup [V.str "letter", V.int l]) := hp
        clear hp
        walk_at "xs"
        refine ifD (fun _ => ?_) fun c => absurd rfl c
        walk_at "xs"
        refine ixS G3.rows (by omega) (d := rowD rs[x]) (by rw [List.getElem?_map]; simp [hri]) fun y hy => ?_
        obtain ⟨p2, rfl, hp2⟩ := row_at hy
        rw [hq] at hp2
        have hp2' : _ = some (HO.tup [V.str "letter", V.int l]) := hp2
        clear hp2
        walk_at "xs"
        exact k1 _ _ _ rfl (.int l) Fr.refl
    · have e1 : (cone rs [e]).filterMap (fun k => ((rs[k]?).bind letterOf).map PyData.int) = ((cone rs [e]).filterMap fun k => (rs[k]?).bind letterOf).map PyData.int := by
        rw [List.map_filterMap]
      rw [e1] at ls
      have hl2 := ls_ints ls
      walk_at "xs"
      refine ⟨_, _, rfl, SqL.of hl2, fun ns p hp hs hn => ?_⟩
      refine k p _ ns ((f01.trans f2).back hn nin0) ((f01.trans f2).trans (Fr.new hn)) upd_same fun l' => ?_
      rw [hp.mem_iff, List.mem_filterMap]
      constructor
      · rintro ⟨k', h1, h2⟩
        refine ⟨k', (mem_cone.mp h1).2, ?_⟩
        cases hq : rs[k']? with
        | none => rw [hq] at h2; cases h2
        | some q =>
          rw [hq] at h2
          cases q <;> simp [letterOf] at h2
          subst h2; rfl
      · rintro ⟨k', h1, h2⟩
        exact ⟨k', mem_cone.mpr ⟨(List.getElem?_eq_some_iff.mp h2).1, h1⟩, by rw [h2]; rfl⟩
end
end K

set_option maxRecDepth 100000
set_option maxHeartbeats 1000000
namespace K
open PySem L2 Z R

section
variable {P : Program} {w : World} {K : PySem.W.Frag} {mg : Str → Option Value} {base : Heap} {CP CG f : Addr} {fd : FuncData}
def spReached (K : PySem.W.Frag) : Sp := fun vs H Q _ => ∃ (l e : Addr) (rs : List Row) (es : List Nat), vs = [.ref l, .ref e] ∧ LS K H l (rs.map rowD) ∧ 0 < rs.length ∧ WF rs ∧ rs.length < 1000000 ∧ SqL K H e (es.map nV) ∧ es.length < 1000000 ∧ (∀ x ∈ es, x / 2 < rs.length) ∧
  ∀ D H', H D = none → Fr [] H H' → H' D = some (.lst ((cone rs es).map nV)) → Q (.ref D) H'
theorem ok_reached (b : Bi K mg CP CG) (d : Df K mg "_law_reached" s__law_reached ["rows", "edges"] f fd) : Has P w K mg base CX0 "_law_reached" ["rows", "edges"] 1 (spReached K) := by
  refine d.has (d.F.ok sc__law_reached (fun vs H Q E h => ?_) (fun cdv A outer s H vs Q E hr h => ?_))
  · obtain ⟨_, _, _, _, rfl, _⟩ := h; rfl
  · obtain ⟨l, e, rs, es, rfl, hL, hpos, wf, hrl, he, hel, hes, k⟩ := h
    have hu := hu_of hr
    refine ⟨_, (pss_cons (ps_set (i := 2) sc__law_reached.nd rfl (Or.inr rfl) (pe_lc (own := [("row", 5)]) (g := gName 5) (by rfl) sc__law_reached.nd (pi_listK K (pv 0)) (blkOk_by (own := [("row", 5)]) (N := n__law_reached) (sc := defScope s__law_reached) (by decide +kernel)) (fun _ _ _ _ _ => (pg_name (i := 5) sc__law_reached.nd rfl (Or.inl rfl))) (fun _ _ _ _ _ => by exact pts_nil) (fun _ _ _ _ _ => by exact pe_bl)))
 (pss_cons (ps_for PassesOwn.never rfl (pi_listK K (pv 1)) (pg_name (i := 3) sc__law_reached.nd rfl (Or.inl rfl))
 (pss_one (ps_asg pe_bl (pg_sub (pv 2) (pe_op op_fdiv (pv 3) pe_int) set_list))))
 (pss_cons (ps_for PassesOwn.never rfl (pi_range3 (by rfl) b.b_range (pa_cons (pe_op op_sub (pe_callB (cLenK K) (by rfl) b.b_len (by decide +kernel) (pa_cons (pv 0) pa_nil)) pe_int) (pa_cons pe_int (pa_cons (pe_un un_neg pe_int) pa_nil)))) (pg_name (i := 4) sc__law_reached.nd rfl (Or.inl rfl))
 (pss_one (ps_if (PW.pt (pw_and (pt_trK K (pe_ix (ix_seqK K) (pv 2) (pv 4) (fun _ _ => rfl))) (pw_and1 (pt_cmpR op_eq (pe_ix (ix_seqK K) (pe_ix (ix_seqK K) (pv 0) (pv 4) (fun _ _ => rfl)) pe_int (fun _ _ => rfl)) pe_str (nomark _)))))
 (pss_cons (ps_asg pe_bl (pg_sub (pv 2) (pe_op op_fdiv (pe_ix (ix_seqK K) (pe_ix (ix_seqK K) (pv 0) (pv 4) (fun _ _ => rfl)) pe_int (fun _ _ => rfl)) pe_int) set_list))
 (pss_one (ps_asg pe_bl (pg_sub (pv 2) (pe_op op_fdiv (pe_ix (ix_seqK K) (pe_ix (ix_seqK K) (pv 0) (pv 4) (fun _ _ => rfl)) pe_int (fun _ _ => rfl)) pe_int) set_list))))
 pss_nil)))
 (pss_one (ps_ret (pe_lc (own := [("k", 4)]) (g := gName 4) (by rfl) sc__law_reached.nd (pi_range2 (by rfl) b.b_range (pa_cons pe_int (pa_cons (pe_callB (cLenK K) (by rfl) b.b_len (by decide +kernel) (pa_cons (pv 0) pa_nil)) pa_nil))) (blkOk_by (own := [("k", 4)]) (N := n__law_reached) (sc := defScope s__law_reached) (by decide +kernel)) (fun _ _ _ _ _ => (pg_name (i := 4) sc__law_reached.nd rfl (Or.inl rfl))) (fun _ _ _ _ _ => by exact (pts_one (pt_trK K (pe_ix (ix_seqK K) (pv 2) (pv 4) (fun _ _ => rfl))))) (fun _ _ _ _ _ => by exact (pv 4)))))))), ?_⟩
    walk_at "xs"
    refine lcS hL (by rw [List.length_map]; omega) (fun _ => some (.bool false)) (fun d x H' E E' hx hi f2 k1 k2 => ?_) fun fl H2 hfl f2 ls => ?_
    · walk_at "xs"
      exact k1 _ _ _ rfl (.bl _) Fr.refl
    · have hfl2 : H2 fl = some (.lst ((rs.map fun _ => false).map V.bl)) := by
        refine ls_bls (K := K) ?_
        rw [fm_map, List.map_map] at ls
        rw [List.map_map]
        exact ls
      walk_at "xs"
      -- for edge in edges
      refine forL (xs := es.map nV) (sql_fr he nin0 f2) (fun i σ H' => ∃ (bs : List Bool) (v : Option V), σ = [some (.ref l), some (.ref e), some (.ref fl), v, none, none] ∧ Fr [] H H' ∧ H' fl = some (.lst (bs.map V.bl)) ∧ bs.length = rs.length ∧ ∀ j, j < rs.length → (bs[j]? = some true ↔ ∃ x ∈ es.take i, x / 2 = j))
        ⟨_, none, rfl, f2, hfl2, by rw [List.length_map], fun j hj => ⟨fun h => by simp at h, fun ⟨x, hx, _⟩ => by simp at hx⟩⟩ (fun i σ H' _ h => ?_) ?_ ?_
      · obtain ⟨_, _, rfl, f3, _⟩ := h; exact sql_fr he nin0 f3
      · rintro i x σ H' hx ⟨bs, v, rfl, f3, hb, hbl, hbs⟩
        obtain ⟨y, hy, rfl⟩ : ∃ y, es[i]? = some y ∧ x = nV y := by
          rw [List.getElem?_map] at hx
          cases hq : es[i]? with
          | none => rw [hq] at hx; cases hx
          | some y => rw [hq] at hx; exact ⟨y, rfl, (Option.some.inj hx).symm⟩
        have hyl := hes y (List.mem_of_getElem? hy)
        walk_at "xs"
        refine s_setB hb (by omega) (by omega) ?_
        have et : ((y : Int) / 2).toNat = y / 2 := by omega
        rw [et]
        refine ⟨_, _, rfl, f3.mut hfl, upd_same, by rw [List.length_set]; exact hbl, fun j hj => ?_⟩
        rw [List.getElem?_set]
        have tk : es.take (i + 1) = es.take i ++ [y] := by rw [List.take_add_one, hy]; rfl
        rw [tk]
        by_cases h : y / 2 = j
        · rw [if_pos h, if_pos (by omega)]
          exact ⟨fun _ => ⟨y, by simp, h⟩, fun _ => rfl⟩
        · rw [if_neg h, hbs j hj]
          constructor
          · rintro ⟨x, h1, h2⟩; exact ⟨x, by simp [h1], h2⟩
          · rintro ⟨x, h1, h2⟩
            simp only [List.mem_append, List.mem_singleton] at h1
            rcases h1 with h1 | h1
            · exact ⟨x, h1, h2⟩
            · subst h1; exact absurd h2 h
      · rintro σ H' ⟨bs, v, rfl, f3, hb, hbl, hbs⟩
        rw [List.length_map, List.take_length] at hbs
        have hL3 := hL.mono f3 nin0
        walk_at "xs"
        refine s_lenS hL3 ?_
        walk_at "xs"
        rw [List.length_map]
        refine forDown (rs.length - 1) (by omega) (by omega) (fun m σ' H' => ∃ (bs : List Bool) (v' : Option V), σ' = [some (.ref l), some (.ref e), some (.ref fl), v, v', none] ∧ Fr [] H H' ∧ H' fl = some (.lst (bs.map V.bl)) ∧ Marks rs es (rs.length - m) bs) ⟨bs, none, rfl, f3, hb, hbl, fun j hj => ?_⟩ ?_ ?_
        · rw [hbs j hj]
          constructor
          · exact .inl
          · rintro (h | ⟨i, h0, h1, a, b, h2, _⟩)
            · exact h
            · have := (List.getElem?_eq_some_iff.mp h2).1; omega
        · rintro m σ' H4 hm ⟨bs, v', rfl, f4, hb, M⟩
          have ek : (rs.length : Int) - 1 - (m : Int) = ((rs.length - 1 - m : Nat) : Int) := by omega
          rw [ek]
          have e1 : rs.length - m = (rs.length - 1 - m) + 1 := by omega
          have e2 : rs.length - (m + 1) = rs.length - 1 - m := by omega
          rw [e1] at M
          rw [e2]
          have hkl : rs.length - 1 - m < rs.length := by omega
          generalize rs.length - 1 - m = c at M hkl
          have hL4 := hL.mono f4 nin0
          have hri : rs[c]? = some rs[c] := List.getElem?_eq_getElem hkl
          have hcb : c < bs.length := by rw [M.1]; exact hkl
          have hbc : bs[c]? = some bs[c] := List.getElem?_eq_getElem hcb
          have hMk := M.at wf hkl (Nat.le_refl _)
          walk_at "xs"
          refine ixB (SqL.of hb) (by omega) (b := bs[c]) (by simpa using hbc) ?_
          walk_at "xs"
          cases hbv : bs[c] with
          | false =>
            rw [hbc, hbv] at hMk
            walk_at "xs"
            exact ⟨bs, _, rfl, f4, hb, M.stay wf fun z => by have := hMk.mpr z.1; cases this⟩
          | true =>
            rw [hbc, hbv] at hMk
            have hrd := hMk.mp rfl
            walk_at "xs"
            refine ixS hL4 (by omega) (d := rowD rs[c]) (by rw [List.getElem?_map]; simp [hri]) fun y hy => ?_
            obtain ⟨p, rfl, hp⟩ := row_at hy
            have nb : (∀ a b, rs[c] ≠ .both a b) → Marks rs es c bs := fun h => M.stay wf fun ⟨_, a, b, z⟩ => by rw [hri] at z; exact h a b (Option.some.inj z)
            cases hq : rs[c] with
            | no =>
              rw [hq] at hp nb
              have hp' : _ = some (HO.tup [V.str "no"]) := hp
              clear hp
              walk_at "xs"
              refine ifD (fun z => absurd z.symm s_bn) fun _ => ?_
              walk_at "xs"
              exact ⟨bs, _, rfl, f4, hb, nb (fun a b z => by cases z)⟩
            | letter l' =>
              rw [hq] at hp nb
              have hp' : _ = some (HO.tup [V.str "letter", V.int l']) := hp
              clear hp
              walk_at "xs"
              refine ifD (fun z => absurd z s_lb) fun _ => ?_
              walk_at "xs"
              exact ⟨bs, _, rfl, f4, hb, nb (fun a b z => by cases z)⟩
            | both a' b' =>
              rw [hq] at hp
              have hp' : _ = some (HO.tup [V.str "both", V.int (a' : Int), V.int (b' : Int)]) := hp
              clear hp
              walk_at "xs"
              refine ifD (fun _ => ?_) fun z => absurd rfl z
              have ⟨w1, w2⟩ := wf c a' b' (by rw [hri, hq])
              have hbl2 := M.1
              walk_at "xs"
              refine ixS hL4 (by omega) (d := rowD rs[c]) (by rw [List.getElem?_map]; simp [hri]) fun y hy => ?_
              obtain ⟨p2, rfl, hp2⟩ := row_at hy
              rw [hq] at hp2
              have hp2' : _ = some (HO.tup [V.str "both", V.int (a' : Int), V.int (b' : Int)]) := hp2
              clear hp2
              walk_at "xs"
              refine s_setB hb (by omega) (by omega) ?_
              have et : ((a' : Int) / 2).toNat = a' / 2 := by omega
              rw [et]
              have f5 : Fr [] H (upd H4 fl (.lst ((bs.set (a' / 2) true).map V.bl))) := f4.mut hfl
              have hL5 := hL.mono f5 nin0
              walk_at "xs"
              refine ixS hL5 (by omega) (d := rowD rs[c]) (by rw [List.getElem?_map]; simp [hri]) fun y hy => ?_
              obtain ⟨p3, rfl, hp3⟩ := row_at hy
              rw [hq] at hp3
              have hp3' : _ = some (HO.tup [V.str "both", V.int (a' : Int), V.int (b' : Int)]) := hp3
              clear hp3
              walk_at "xs"
              refine s_setB upd_same (by omega) (by rw [List.length_set]; omega) ?_
              have et2 : ((b' : Int) / 2).toNat = b' / 2 := by omega
              rw [et2]
              exact ⟨_, _, rfl, f5.mut hfl, upd_same, M.mark wf hrd (by rw [hri, hq])⟩
        · rintro σ' H4 ⟨bs, v', rfl, f4, hb, M⟩
          have e1 : rs.length - (rs.length - 1) = 1 := by omega
          rw [e1] at M
          have hL4 := hL.mono f4 nin0
          walk_at "xs"
          refine s_lenS hL4 ?_
          walk_at "xs"
          rw [List.length_map]
          refine ⟨1, _, rfl, by omega, ?_⟩
          have e2 : ((rs.length : Int) - 1).toNat = rs.length - 1 := by omega
          rw [e2]
          refine lcJ (K := K) (jR 1 _) (by omega) (fun i => if bs[1 + i]? = some true then some (.int ((1 + i : Nat) : Int)) else none) (fun i x H5 E E' hi hx f5 k1 k2 => ?_) fun D H5 hD f5 ls => ?_
          · subst hx
            have hb5 := f5.get hb nin0
            have hil : 1 + i < bs.length := by rw [M.1]; omega
            have hbi : bs[1 + i]? = some bs[1 + i] := List.getElem?_eq_getElem hil
            have et : ((1 : Int) + (i : Int)).toNat = 1 + i := by omega
            walk_at "xs"
            refine ixB (SqL.of hb5) (by omega) (b := bs[1 + i]) (by rw [et]; exact hbi) ?_
            walk_at "xs"
            cases hv : bs[1 + i] with
            | true =>
              walk_at "xs"
              exact k1 _ _ _ (by rw [hbi, hv, if_pos rfl]) (by have : (1 : Int) + (i : Int) = ((1 + i : Nat) : Int) := by omega
                                                               rw [this]; exact .int _) Fr.refl
            | false =>
              walk_at "xs"
              exact k2 _ (by rw [hbi, hv, if_neg (by intro z; cases z)]) Fr.refl
          · refine k D H5 (f4.back hD nin0) (f4.trans f5) ?_
            rw [← marks_cone wf M]
            have e3 : (List.range (rs.length - 1)).filterMap (fun i => if bs[1 + i]? = some true then some (PyData.int ((1 + i : Nat) : Int)) else none) = (((List.range (rs.length - 1)).filterMap fun i => if bs[1 + i]? = some true then some (1 + i) else none).map fun k : Nat => (k : Int)).map PyData.int := by
              rw [List.map_filterMap, List.map_filterMap]
              congr 1
              funext i
              split <;> rfl
            rw [e3] at ls
            rw [ls_ints ls, List.map_map]
            rfl
end
end K

set_option maxRecDepth 100000
set_option maxHeartbeats 1000000
namespace K
open PySem L2 Z R

section
variable {P : Program} {w : World} {K : PySem.W.Frag} {mg : Str → Option Value} {base : Heap} {CP CG f : Addr} {fd : FuncData}
theorem bne_dec (x y : Bool) : (!decide (x = y)) = (x != y) := by cases x <;> cases y <;> rfl
def spLValue (K : PySem.W.Frag) : Sp := fun vs H Q _ => ∃ (t : Addr) (e : Nat) (bs : List Bool), vs = [.ref t, .int (e : Int)] ∧ SqL K H t (bs.map V.bl) ∧ e / 2 < bs.length ∧ Q (.bl (ev bs e)) H
theorem ok_lvalue (b : Bi K mg CP CG) (d : Df K mg "_law_value" s__law_value ["truths", "edge"] f fd) : Has P w K mg base CX0 "_law_value" ["truths", "edge"] 1 (spLValue K) := by
  refine d.has (d.F.ok sc__law_value (fun vs H Q E h => ?_) (fun cdv A outer s H vs Q E hr h => ?_))
  · obtain ⟨_, _, _, rfl, _⟩ := h; rfl
  · obtain ⟨t, e, bs, rfl, hL, hl, k⟩ := h
    refine ⟨_, (pss_one (ps_ret (pe_cmpR op_ne (pe_ix (ix_seqK K) (pv 0) (pe_op op_fdiv (pv 1) pe_int) (fun _ _ => rfl)) (pe_cmpR op_eq (pe_op op_mod (pe_callTy cInt1 (by rfl) b.b_int (by decide +kernel) (pa_cons (pv 1) pa_nil)) pe_int) pe_int (nomark _)) (nomark _)))), ?_⟩
    walk_at "xs"
    have et : ((e : Int) / 2).toNat = e / 2 := by omega
    refine ixB hL (by omega) (b := bs[e / 2]) (by rw [et]; exact List.getElem?_eq_getElem hl) ?_
    walk_at "xs"
    rw [bne_dec]
    have e1 : (bs[e / 2] != decide ((e : Int) % 2 = 1)) = ev bs e := by
      unfold ev
      rw [List.getD_eq_getElem?_getD, List.getElem?_eq_getElem hl]
      have : decide ((e : Int) % 2 = 1) = decide (e % 2 = 1) := by rw [Bool.eq_iff_iff, decide_eq_true_eq, decide_eq_true_eq]; omega
      rw [this]; rfl
    rw [e1]
    exact k
theorem ev_take {vs : List Bool} {e k : Nat} (h : e / 2 < k) : ev (vs.take k) e = ev vs e := by
  unfold ev
  congr 1
  rw [List.getD_eq_getElem?_getD, List.getD_eq_getElem?_getD, List.getElem?_take_of_lt h]
theorem no_first {rs : List Row} (h0 : rs.head? = some .no) (nd : rs.Nodup) {k : Nat} (hk : 0 < k) : rs[k]? ≠ some .no := fun e => by
  have e0 : rs[0]? = some .no := by rw [← List.head?_eq_getElem?]; exact h0
  have := nd_ix nd e0 e
  omega
def spTruths (K : PySem.W.Frag) : Sp := fun vs H Q _ => ∃ (l c : Addr) (rs : List Row) (kvs : List (Key × V)) (ch : Int → Bool), vs = [.ref l, .ref c] ∧ LS K H l (rs.map rowD) ∧ rs.head? = some .no ∧ rs.Nodup ∧ WF rs ∧ rs.length < 1000000 ∧ H c = some (.dK kvs) ∧ (∀ x, (valV kvs (Sum.inl x)).getD (.bl false) = .bl (ch x)) ∧
  ∀ D H', H D = none → Fr [] H H' → H' D = some (.lst ((vals rs ch).map V.bl)) → Q (.ref D) H'
theorem ok_truths (b : Bi K mg CP CG) (h__law_value : Has P w K mg base CX0 "_law_value" ["truths", "edge"] 1 (spLValue K)) (d : Df K mg "_law_truths" s__law_truths ["rows", "choices"] f fd) : Has P w K mg base CX0 "_law_truths" ["rows", "choices"] 2 (spTruths K) := by
  refine d.has (d.F.ok sc__law_truths (fun vs H Q E h => ?_) (fun cdv A outer s H vs Q E hr h => ?_))
  · obtain ⟨_, _, _, _, _, rfl, _⟩ := h; rfl
  · obtain ⟨l, c, rs, kvs, ch, rfl, hL, h0, nd, wf, hrl, hc, hch, k⟩ := h
    have hu := hu_of hr
    have hvl := vals_len ch rs
    have hpos : 0 < rs.length := by cases rs with | nil => simp at h0 | cons a l => simp
    refine ⟨_, (pss_cons (ps_set (i := 2) sc__law_truths.nd rfl (Or.inl rfl) (pe_lst (pa_cons pe_bl pa_nil)))
 (pss_cons (ps_for PassesOwn.never rfl (pi_range2 (by rfl) b.b_range (pa_cons pe_int (pa_cons (pe_callB (cLenK K) (by rfl) b.b_len (by decide +kernel) (pa_cons (pv 0) pa_nil)) pa_nil))) (pg_name (i := 3) sc__law_truths.nd rfl (Or.inl rfl))
 (pss_cons (ps_set (i := 4) sc__law_truths.nd rfl (Or.inl rfl) (pe_ix (ix_seqK K) (pv 0) (pv 3) (fun _ _ => rfl)))
 (pss_one (ps_if (pt_cmpR op_eq (pe_ix (ix_seqK K) (pv 4) pe_int (fun _ _ => rfl)) pe_str (nomark _))
 (pss_one (ps_expr (pe_bmK K PySem.F.plainAttrs_list PySem.F.slot_list_append PySem.F.type_list_append mt_append (pv 2) (pa_cons (pe_dget2 hu (pv 1) (pe_ix (ix_seqK K) (pv 4) pe_int (fun _ _ => rfl)) pe_bl ⟨by rfl, by rfl, by rfl, by rfl⟩) pa_nil))))
 (pss_one (ps_expr (pe_bmK K PySem.F.plainAttrs_list PySem.F.slot_list_append PySem.F.type_list_append mt_append (pv 2) (pa_cons (pe_and (pe_callH h__law_value hr (by decide) pass0 (pa_cons (pv 2) (pa_cons (pe_ix (ix_seqK K) (pv 4) pe_int (fun _ _ => rfl)) pa_nil))) (pe_one (pe_callH h__law_value hr (by decide) pass0 (pa_cons (pv 2) (pa_cons (pe_ix (ix_seqK K) (pv 4) pe_int (fun _ _ => rfl)) pa_nil))))) pa_nil))))))))
 (pss_one (ps_ret (pv 2))))), ?_⟩
    walk_at "xs"
    refine lstN (by walk_at "sz") fun t ht => ?_
    have f0 : Fr [] H (upd H t (.lst [.bl false])) := Fr.new ht
    walk_at "xs"
    refine s_lenS (hL.mono f0 nin0) ?_
    walk_at "xs"
    rw [List.length_map]
    refine forR2 (rs.length - 1) (by omega) (by omega) (fun i σ H' => ∃ v1 v2 : Option V, σ = [some (.ref l), some (.ref c), some (.ref t), v1, v2] ∧ Fr [] H H' ∧ H' t = some (.lst (((vals rs ch).take (i + 1)).map V.bl))) ⟨none, none, rfl, f0, ?_⟩ ?_ ?_
    · rw [upd_same]
      have e0 : rs[0]? = some .no := by rw [← List.head?_eq_getElem?]; exact h0
      have := vals_at (ch := ch) wf e0
      rw [List.take_add_one, this]; rfl
    · rintro i σ H' hi ⟨v1, v2, rfl, f1, h1⟩
      have ek : (1 : Int) + (i : Int) = ((1 + i : Nat) : Int) := by omega
      rw [ek]
      have hkl : 1 + i < rs.length := by omega
      have hri : rs[1 + i]? = some rs[1 + i] := List.getElem?_eq_getElem hkl
      have hv := vals_at (ch := ch) wf hri
      have hn := no_first h0 nd (show 0 < 1 + i by omega)
      have hL1 := hL.mono f1 nin0
      have hc1 := f1.get hc nin0
      have tk : (vals rs ch).take (i + 1 + 1) = (vals rs ch).take (i + 1) ++ [rowVal (vals rs ch) ch rs[1 + i]] := by
        rw [List.take_add_one (i := i + 1)]
        have : i + 1 = 1 + i := by omega
        rw [this, hv]; rfl
      walk_at "xs"
      refine ixS hL1 (by omega) (d := rowD rs[1 + i]) (by rw [List.getElem?_map, Int.toNat_natCast, hri]; rfl) fun y hy => ?_
      obtain ⟨p, rfl, hp⟩ := row_at hy
      walk_at "xs"
      cases hq : rs[1 + i] with
      | no => rw [hri, hq] at hn; exact absurd rfl hn
      | letter x =>
        rw [hq] at hp tk
        have hp' : _ = some (HO.tup [V.str "letter", V.int x]) := hp
        clear hp
        walk_at "xs"
        refine ifD (fun _ => ?_) fun z => absurd rfl z
        walk_at "xs"
        refine get2I (.inl (by walk_at "hg")) ?_
        rw [hch x]
        walk_at "xs"
        refine s_append (by walk_at "hg") (by rw [List.length_map, List.length_take]; omega) ?_
        refine ⟨_, _, rfl, f1.mut ht, ?_⟩
        rw [upd_same, tk, List.map_append]; rfl
      | both a b' =>
        rw [hq] at hp tk
        have ⟨w1, w2⟩ := wf (1 + i) a b' (by rw [hri, hq])
        have hp' : _ = some (HO.tup [V.str "both", V.int (a : Int), V.int (b' : Int)]) := hp
        clear hp
        walk_at "xs"
        refine ifD (fun z => absurd z.symm s_lb) fun _ => ?_
        walk_at "xs"
        refine ⟨t, a, _, rfl, SqL.of h1, by rw [List.length_take]; omega, ?_⟩
        rw [ev_take (by omega)]
        walk_at "xs"
        have fin : ∀ x : Bool, x = (ev (vals rs ch) a && ev (vals rs ch) b') → ∃ v1 v2 : Option V, [some (V.ref l), some (V.ref c), some (V.ref t), some (V.int ((1 + i : Nat) : Int)), some (V.ref p)] = [some (.ref l), some (.ref c), some (.ref t), v1, v2] ∧ Fr [] H (upd H' t (.lst (((vals rs ch).take (i + 1)).map V.bl ++ [V.bl x]))) ∧ (upd H' t (.lst (((vals rs ch).take (i + 1)).map V.bl ++ [V.bl x]))) t = some (.lst (((vals rs ch).take (i + 1 + 1)).map V.bl)) := fun x hx => by
          refine ⟨_, _, rfl, f1.mut ht, ?_⟩
          rw [upd_same, tk, List.map_append, hx]; rfl
        refine ifB (fun c1 => ?_) (fun c1 => ?_)
        · walk_at "xs"
          refine ⟨t, b', _, rfl, SqL.of h1, by rw [List.length_take]; omega, ?_⟩
          rw [ev_take (by omega)]
          walk_at "xs"
          refine s_append (by walk_at "hg") (by rw [List.length_map, List.length_take]; omega) ?_
          exact fin _ (by rw [c1, Bool.true_and])
        · walk_at "xs"
          refine s_append (by walk_at "hg") (by rw [List.length_map, List.length_take]; omega) ?_
          exact fin _ (by rw [c1, Bool.false_and])
    · rintro σ H' ⟨v1, v2, rfl, f1, h1⟩
      walk_at "xs"
      refine k t H' ht f1 ?_
      rw [h1, List.take_of_length_le (by omega)]
end
end K

set_option maxRecDepth 100000
set_option maxHeartbeats 1000000
namespace K
open PySem L2 Z R

section
variable {P : Program} {w : World} {K : PySem.W.Frag} {mg : Str → Option Value} {base : Heap} {CP CG f : Addr} {fd : FuncData}
def spWorths (CG : Addr) (K : PySem.W.Frag) : Sp := fun vs H Q _ => ∃ (g r kn e c : Addr) (rs : List Row) (es : List Nat) (kvs : List (Key × V)) (ch : Int → Bool), vs = [.ref g, .ref e, .ref c] ∧ GatesAt CG K H g r kn rs ∧ WF rs ∧ rs.length < 1000000 ∧ SqL K H e (es.map nV) ∧ es.length < 1000000 ∧ (∀ x ∈ es, x / 2 < rs.length) ∧
  H c = some (.dK kvs) ∧ (∀ k x, k ∈ cone rs es → rs[k]? = some (.letter x) → valV kvs (Sum.inl x) = some (.bl (ch x))) ∧
  ∀ D H', H D = none → Fr [] H H' → H' D = some (.lst ((es.map fun x => ev (vals rs ch) x).map V.bl)) → Q (.ref D) H'
theorem ev_dec (vs : List Bool) (e : Nat) : (!decide (vs.getD (e / 2) false = decide (((e % 2 : Nat) : Int) = 1))) = ev vs e := by
  rw [bne_dec]
  unfold ev
  congr 1
  rw [Bool.eq_iff_iff, decide_eq_true_eq, decide_eq_true_eq]; omega
theorem ok_worths (b : Bi K mg CP CG) (h_Gates_cone : HasM P w K mg base CX0 CG "cone" ["self", "edges"] 1 (spCone CG K)) (d : DfM K CG "Gates.worths" "worths" s_Gates_worths ["self", "edges", "choices"] f fd) : HasM P w K mg base CX0 CG "worths" ["self", "edges", "choices"] 2 (spWorths CG K) := by
  refine d.has (d.F.ok sc_Gates_worths (fun vs H Q E h => ?_) (fun cdv A outer s H vs Q E hr h => ?_))
  · obtain ⟨_, _, _, _, _, _, _, _, _, rfl, _⟩ := h; rfl
  · obtain ⟨g, r, kn, e, c, rs, es, kvs, ch, rfl, G, wf, hrl, he, hel, hes, hc, hch, k⟩ := h
    have n1 := b.na_rows
    have n2 := b.na_known
    have cl := b.cl_Gates
    have hu := hu_of hr
    obtain ⟨dx, hg⟩ := G.ins
    have hcl := cone_len rs es
    have hvl := vals_len ch rs
    refine ⟨_, (pss_cons (ps_set (i := 3) sc_Gates_worths.nd rfl (Or.inr rfl) (pe_disp (pps_cons pe_int pe_bl pps_nil) (by rfl) (by rfl) (fun z => by cases z) (by decide)))
 (pss_cons (ps_for PassesOwn.never rfl (pi_listK K (pe_methH (pv 0) b.cl_Gates h_Gates_cone hr (by decide) pass0 (pa_cons (pv 1) pa_nil))) (pg_name (i := 4) sc_Gates_worths.nd rfl (Or.inl rfl))
 (pss_cons (ps_set (i := 5) sc_Gates_worths.nd rfl (Or.inl rfl) (pe_ix (ix_seqK K) (pe_fldK K (pv 0) rfl) (pv 4) (fun _ _ => rfl)))
 (pss_one (ps_if (pt_cmpR op_eq (pe_ix (ix_seqK K) (pv 5) pe_int (fun _ _ => rfl)) pe_str (nomark _))
 (pss_one (ps_dput hu (pv 3) (pv 4) (pe_dget hu (pv 2) (pe_ix (ix_seqK K) (pv 5) pe_int (fun _ _ => rfl)) (fun _ _ => rfl)) rfl))
 (pss_cons (ps_set (i := 6) sc_Gates_worths.nd rfl (Or.inl rfl) (pe_cmpR op_ne (pe_dget hu (pv 3) (pe_op op_fdiv (pe_ix (ix_seqK K) (pv 5) pe_int (fun _ _ => rfl)) pe_int) (fun _ _ => rfl)) (pe_cmpR op_eq (pe_op op_and (pe_ix (ix_seqK K) (pv 5) pe_int (fun _ _ => rfl)) pe_int) pe_int (nomark _)) (nomark _)))
 (pss_cons (ps_set (i := 7) sc_Gates_worths.nd rfl (Or.inl rfl) (pe_cmpR op_ne (pe_dget hu (pv 3) (pe_op op_fdiv (pe_ix (ix_seqK K) (pv 5) pe_int (fun _ _ => rfl)) pe_int) (fun _ _ => rfl)) (pe_cmpR op_eq (pe_op op_and (pe_ix (ix_seqK K) (pv 5) pe_int (fun _ _ => rfl)) pe_int) pe_int (nomark _)) (nomark _)))
 (pss_one (ps_dput hu (pv 3) (pv 4) (pe_and (pv 6) (pe_one (pv 7))) rfl))))))))
 (pss_one (ps_ret (pe_lc (own := [("edge", 8)]) (g := gName 8) (by rfl) sc_Gates_worths.nd (pi_listK K (pv 1)) (blkOk_by (own := [("edge", 8)]) (N := n_Gates_worths) (sc := defScope s_Gates_worths) (by decide +kernel)) (fun _ _ _ _ _ => (pg_name (i := 8) sc_Gates_worths.nd rfl (Or.inl rfl))) (fun _ _ _ _ _ => by exact pts_nil) (fun _ _ _ _ _ => by exact (pe_cmpR op_ne (pe_dget hu (pv 3) (pe_op op_fdiv (pv 8) pe_int) (fun _ _ => rfl)) (pe_cmpR op_eq (pe_op op_and (pv 8) pe_int) pe_int (nomark _)) (nomark _)))))))), ?_⟩
    walk_at "xs"
    refine disp1 fun t ht => ?_
    walk_at "xs"
    refine ⟨upd_same, Sum.inl 0, rfl, ?_⟩
    have f0 : Fr [] H (upd (upd H t (.dK [])) t (.dK [(Sum.inl 0, .bl false)])) := (Fr.new ht).mut ht
    have t0 : Tells [(Sum.inl 0, V.bl false)] [] (vals rs ch) := fun j hj => by
      rcases hj with rfl | h
      · have e0 : rs[0]? = some .no := by rw [← List.head?_eq_getElem?]; exact G.hd
        have := vals_at (ch := ch) wf e0
        rw [List.getD_eq_getElem?_getD, this]; rfl
      · cases h
    have u0 : (upd (upd H t (.dK [])) t (.dK [(Sum.inl 0, V.bl false)])) t = some (.dK [(Sum.inl 0, V.bl false)]) := upd_same
    generalize upd (upd H t (.dK [])) t (.dK [(Sum.inl 0, V.bl false)]) = H0 at f0 u0
    have hg0 := f0.get hg nin0
    walk_at "xs"
    refine methA hg0 (by rfl) ?_
    walk_at "xs"
    refine ⟨g, r, kn, e, rs, es, rfl, G.mono f0 nin0 nin0 nin0, wf, hrl, sql_fr he nin0 f0, hel, hes, fun l H1 hl f1 hl1 => ?_⟩
    have f01 := f0.trans f1
    have hlt : l ≠ t := ne2 hl u0
    refine forL (SqL.of hl1) (fun i σ H' => ∃ (kt : List (Key × V)) (v1 v2 v3 v4 : Option V), σ = [some (.ref g), some (.ref e), some (.ref c), some (.ref t), v1, v2, v3, v4, none] ∧ Fr [] H H' ∧ Fr [t] H1 H' ∧ H' t = some (.dK kt) ∧ kt.length ≤ 1 + i ∧ Tells kt ((cone rs es).take i) (vals rs ch))
      ⟨_, none, none, none, none, rfl, f01, Fr.refl, f1.get u0 nin0, Nat.le_refl _, t0⟩ (fun i σ H' _ h => ?_) ?_ ?_
    · obtain ⟨_, _, _, _, _, rfl, _, f2, _⟩ := h
      exact SqL.of (f2.get hl1 (nin1 hlt nin0))
    · rintro i x σ H' hx ⟨kt, v1, v2, v3, v4, rfl, f2, f3, h1, h2, T⟩
      obtain ⟨kk, hkk, rfl⟩ : ∃ y, (cone rs es)[i]? = some y ∧ x = nV y := by
        rw [List.getElem?_map] at hx
        cases hq : (cone rs es)[i]? with
        | none => rw [hq] at hx; cases hx
        | some y => rw [hq] at hx; exact ⟨y, rfl, (Option.some.inj hx).symm⟩
      have hil := (List.getElem?_eq_some_iff.mp hkk).1
      have hkm := List.mem_of_getElem? hkk
      obtain ⟨hkl, hk0, _⟩ := mem_cone.mp hkm
      have hri : rs[kk]? = some rs[kk] := List.getElem?_eq_getElem hkl
      have hv := vals_at (ch := ch) wf hri
      have hn := no_first G.hd G.nd hk0
      have G2 := G.mono f2 nin0 nin0 nin0
      have hg2 := f2.get hg nin0
      have hc2 := f2.get hc nin0
      have tk : (cone rs es).take (i + 1) = (cone rs es).take i ++ [kk] := by rw [List.take_add_one, hkk]; rfl
      walk_at "xs"
      refine ixS G2.rows (by omega) (d := rowD rs[kk]) (by rw [List.getElem?_map, Int.toNat_natCast, hri]; rfl) fun y hy => ?_
      obtain ⟨p, rfl, hp⟩ := row_at hy
      walk_at "xs"
      cases hq : rs[kk] with
      | no => rw [hri, hq] at hn; exact absurd rfl hn
      | letter x =>
        rw [hq] at hp hv
        have hp' : _ = some (HO.tup [V.str "letter", V.int x]) := hp
        clear hp
        walk_at "xs"
        refine ifD (fun _ => ?_) fun z => absurd rfl z
        walk_at "xs"
        refine getI (.inl hc2) (hch kk x hkm (by rw [hri, hq])) ?_
        walk_at "xs"
        refine putI h1 (by rw [sizeLine_eq]; omega) ?_
        refine ⟨_, _, _, _, _, rfl, f2.mut ht, f3.mutS h1 not_fixed_dK (by simp), upd_same, ?_, ?_⟩
        · have := len_put kt (Sum.inl (kk : Int) : Key) (V.bl (ch x)); omega
        · rw [tk]; exact T.put kk (by omega) hv
      | both a b' =>
        rw [hq] at hp hv
        have ⟨w1, w2⟩ := wf kk a b' (by rw [hri, hq])
        have ⟨c1, c2⟩ := cone_closed (a := a) (b := b') wf hkm (by rw [hri, hq])
        have gt : ∀ z, z / 2 < kk → (z / 2 = 0 ∨ z / 2 ∈ cone rs es) → valV kt (Sum.inl ((z / 2 : Nat) : Int)) = some (.bl ((vals rs ch).getD (z / 2) false)) := fun z h1 h2 => T _ (h2.imp id fun h => mem_take_lt (cone_sorted rs es) hkk h h1)
        have hp' : _ = some (HO.tup [V.str "both", V.int (a : Int), V.int (b' : Int)]) := hp
        clear hp
        walk_at "xs"
        refine ifD (fun z => absurd z.symm s_lb) fun _ => ?_
        walk_at "xs"
        refine getI (.inl h1) (gt a w1 c1) ?_
        walk_at "xs"
        rw [opp_and]
        walk_at "xs"
        rw [ev_dec]
        refine getI (.inl h1) (gt b' w2 c2) ?_
        walk_at "xs"
        rw [opp_and]
        walk_at "xs"
        rw [ev_dec]
        have fin : ∀ x : Bool, x = (ev (vals rs ch) a && ev (vals rs ch) b') → putQ (.ref t) (.int (kk : Int)) (.bl x) H' fun H4 => ∃ (kt : List (Key × V)) (v1 v2 v3 v4 : Option V), [some (V.ref g), some (V.ref e), some (V.ref c), some (V.ref t), some (V.int (kk : Int)), some (V.ref p), some (V.bl (ev (vals rs ch) a)), some (V.bl (ev (vals rs ch) b')), none] = [some (.ref g), some (.ref e), some (.ref c), some (.ref t), v1, v2, v3, v4, none] ∧ Fr [] H H4 ∧ Fr [t] H1 H4 ∧ H4 t = some (.dK kt) ∧ kt.length ≤ 1 + (i + 1) ∧ Tells kt ((cone rs es).take (i + 1)) (vals rs ch) := fun x hx => by
          refine putI h1 (by rw [sizeLine_eq]; omega) ?_
          refine ⟨_, _, _, _, _, rfl, f2.mut ht, f3.mutS h1 not_fixed_dK (by simp), upd_same, ?_, ?_⟩
          · have := len_put kt (Sum.inl (kk : Int) : Key) (V.bl x); omega
          · rw [tk]; exact T.put kk (by omega) (by rw [hv, hx]; rfl)
        refine ifB (fun c1 => ?_) (fun c1 => ?_)
        · walk_at "xs"
          exact fin _ (by rw [c1, Bool.true_and])
        · walk_at "xs"
          exact fin _ (by rw [c1, Bool.false_and])
    · rintro σ H' ⟨kt, v1, v2, v3, v4, rfl, f2, f3, h1, h2, T⟩
      rw [List.length_map, List.take_length] at T
      walk_at "xs"
      refine lcA es nV (sql_fr he nin0 f2) (by omega) (fun x => some (.bool (ev (vals rs ch) x))) (fun x H4 E E' hx f4 k1 k2 => ?_) fun D H4 hD f4 ls => ?_
      · have h4 := f4.get h1 nin0
        walk_at "xs"
        refine getI (.inl h4) (T (x / 2) (cone_start hx (hes x hx))) ?_
        walk_at "xs"
        rw [opp_and]
        walk_at "xs"
        rw [ev_dec]
        exact k1 _ _ _ rfl (.bl _) Fr.refl
      · refine k D H4 (f2.back hD nin0) (f2.trans f4) ?_
        have e1 : es.filterMap (fun x => some (PyData.bool (ev (vals rs ch) x))) = (es.map fun x => ev (vals rs ch) x).map PyData.bool := by
          rw [fm_map, List.map_map]; rfl
        rw [e1] at ls
        exact ls_bls ls
end
end K

set_option maxRecDepth 100000
set_option maxHeartbeats 1000000
namespace K
open PySem L2 Z R

abbrev s_Plan___init__ : Stmt := inClass (top 6) 0
abbrev n_Plan___init__ : List Str := ["self", "side", "gates", "table", "letter"]
theorem sc_Plan___init__ : FnScope n_Plan___init__ ["self", "side", "gates", "table"] (defScope s_Plan___init__) := ⟨rfl, rfl, rfl, by decide +kernel, rfl, by decide +kernel, by decide +kernel⟩
abbrev s_Plan_edges : Stmt := inClass (top 6) 1
abbrev n_Plan_edges : List Str := ["self", "letter"]
theorem sc_Plan_edges : FnScope n_Plan_edges ["self"] (defScope s_Plan_edges) := ⟨rfl, rfl, rfl, by decide +kernel, rfl, by decide +kernel, by decide +kernel⟩
abbrev s_Plan_gate_count : Stmt := inClass (top 6) 4
abbrev n_Plan_gate_count : List Str := ["self"]
theorem sc_Plan_gate_count : FnScope n_Plan_gate_count ["self"] (defScope s_Plan_gate_count) := ⟨rfl, rfl, rfl, by decide +kernel, rfl, by decide +kernel, by decide +kernel⟩
abbrev s_Plan_answers : Stmt := inClass (top 6) 2
abbrev n_Plan_answers : List Str := ["self", "given", "values", "letter", "value"]
theorem sc_Plan_answers : FnScope n_Plan_answers ["self", "given"] (defScope s_Plan_answers) := ⟨rfl, rfl, rfl, by decide +kernel, rfl, by decide +kernel, by decide +kernel⟩
section
variable {P : Program} {w : World} {K : PySem.W.Frag} {mg : Str → Option Value} {base : Heap} {CP CG f : Addr} {fd : FuncData}
theorem range_map {α β : Type} (l : List α) (z : α) (F : α → β) : (List.range l.length).map (fun i => F (l.getD i z)) = l.map F := by
  apply List.ext_getElem
  · simp
  · intro i h1 h2
    rw [List.length_map, List.length_range] at h1
    simp [h1]
def spOther : Sp := fun vs H Q _ => ∃ s : Bool, vs = [.str (sv s)] ∧ Q (.str (sv (!s))) H
theorem ok_other (b : Bi K mg CP CG) (d : Df K mg "other" s_other ["side"] f fd) : Has P w K mg base CX0 "other" ["side"] 1 spOther := by
  refine d.has (d.F.ok sc_other (fun vs H Q E h => ?_) (fun cdv A outer s H vs Q E hr h => ?_))
  · obtain ⟨_, rfl, _⟩ := h; rfl
  · obtain ⟨sd, rfl, k⟩ := h
    refine ⟨_, (pss_cons (ps_if (pt_cmpR op_eq (pv 0) (pe_gStr b.c_SOME) (nomark _))
 (pss_one (ps_ret (pe_gStr b.c_ALL)))
 pss_nil)
 (pss_one (ps_ret (pe_gStr b.c_SOME)))), ?_⟩
    walk_at "xs"
    refine ifD (fun c => ?_) (fun c => ?_)
    · walk_at "xs"
      have : sd = false := sv_inj.mp c
      subst this
      exact k
    · walk_at "xs"
      have : sd = true := by
        cases sd with
        | true => rfl
        | false => exact absurd rfl c
      subst this
      exact k
/-- a plan: its side, its gates, its table -/
def PlanAt (CP : Addr) (H : Hp) (p g t : Addr) (sd : Bool) (tab : List (Int × Nat)) : Prop := (∃ dx, H p = some (.ins CP dx [("side", .str (sv sd)), ("gates", .ref g), ("table", .ref t)])) ∧ H t = some (.dK (tabD tab))
theorem PlanAt.mono {H H' : Hp} {p g t : Addr} {sd : Bool} {tab : List (Int × Nat)} {S : List Addr} (h : PlanAt CP H p g t sd tab) (fr : Fr S H H') (n1 : p ∉ S) (n2 : t ∉ S) : PlanAt CP H' p g t sd tab := by
  obtain ⟨⟨dx, a⟩, c⟩ := h
  exact ⟨⟨dx, fr.get a n1⟩, fr.get c n2⟩
def spPInit (CP : Addr) (K : PySem.W.Frag) : Sp := fun vs H Q _ => ∃ (p dx g t : Addr) (sd : Bool) (tab : List (Int × Nat)), vs = [.ref p, .str (sv sd), .ref g, .ref t] ∧ H p = some (.ins CP dx []) ∧ H t = some (.dK (tabD tab)) ∧ (tab.map (·.1)).Nodup ∧ tab.length < 1000 ∧
  ∀ t' tab' H', Fr [p] H H' → H t' = none → PlanAt CP H' p g t' sd tab' → (tab'.map (·.1)).Pairwise (· < ·) → (∀ l, tget tab' l = tget tab l) → tab'.length = tab.length → Q .non H'
theorem ok_pinit (b : Bi K mg CP CG) (d : DfI K mg CP "Plan" "Plan.__init__" s_Plan___init__ ["self", "side", "gates", "table"] f fd) : HasI P w K mg base CX0 CP "Plan" ["self", "side", "gates", "table"] 1 (spPInit CP K) := by
  refine d.has (d.F.ok sc_Plan___init__ (fun vs H Q E h => ?_) (fun cdv A outer s H vs Q E hr h => ?_))
  · obtain ⟨_, _, _, _, _, _, rfl, _⟩ := h; rfl
  · obtain ⟨p, dx, g, t, sd, tab, rfl, hp, ht, nd, hl, k⟩ := h
    have n1 := b.na_side
    have n2 := b.na_gates
    have n3 := b.na_table
    have cl := b.cl_Plan
    have hu := hu_of hr
    have e1 : t ≠ p := ne_of ht hp (by intro z; cases z)
    refine ⟨_, (pss_cons (ps_fldK K (pv 0) (pv 1) rfl)
 (pss_cons (ps_fldK K (pv 0) (pv 2) rfl)
 (pss_one (ps_fldK K (pv 0) (pe_dc (own := [("letter", 4)]) (g := gName 4) (by rfl) sc_Plan___init__.nd (pi_listK K (pe_callB (cSortedKI rfl) (by rfl) b.b_sorted (by decide +kernel) (pa_cons (pv 3) pa_nil))) (blkOk_by (own := [("letter", 4)]) (N := n_Plan___init__) (sc := defScope s_Plan___init__) (by decide +kernel)) (fun _ _ _ _ _ => (pg_name (i := 4) sc_Plan___init__.nd rfl (Or.inl rfl))) (fun _ _ _ _ _ => by exact pts_nil) (fun _ _ _ _ _ => by exact (pv 4)) (fun _ _ _ _ _ => by exact (pe_dget hu (pv 3) (pv 4) (fun _ _ => rfl)))) rfl)))), ?_⟩
    walk_at "xs"
    have ht2 : (upd (upd H p (HO.ins CP dx (putF "side" (V.str (sv sd)) []))) p (HO.ins CP dx (putF "gates" (V.ref g) (putF "side" (V.str (sv sd)) [])))) t = some (.dK (tabD tab)) := by walk_at "hg"
    refine s_sortedKI (tab.map (·.1)) (.inl ht2) (tab_keys tab) fun ys L hp1 hs1 hL => ?_
    have f1 : Fr [p] H (upd (upd (upd H p (HO.ins CP dx (putF "side" (V.str (sv sd)) []))) p (HO.ins CP dx (putF "gates" (V.ref g) (putF "side" (V.str (sv sd)) [])))) L (.lst (ys.map V.int))) := by walk_at "fr"
    have ndy : ys.Nodup := hp1.nodup_iff.mpr nd
    have hyl : ys.length = tab.length := by rw [hp1.length_eq, List.length_map]
    let G : Int → Int × Nat := fun l => (l, (tget tab l).getD 0)
    have hrow : (List.range (ys.map V.int).length).map (fun i => ((Sum.inl (G (ys.getD i 0)).1 : Key), nV (G (ys.getD i 0)).2)) = tabD (ys.map G) := by
      rw [List.length_map]
      unfold tabD
      rw [List.map_map]
      exact range_map ys 0 (fun l => ((Sum.inl (G l).1 : Key), nV (G l).2))
    refine dcLs (SqL.of upd_same) (dcJ (jL (SqL.of upd_same) nin0) (by rw [List.length_map]; omega) (fun i => ((Sum.inl (G (ys.getD i 0)).1 : Key), nV (G (ys.getD i 0)).2)) ?_ (fun i x H' E E' hi hx f2 k1 => ?_) fun D H' hD f2 hD2 => ?_)
    · have : (List.range (ys.map V.int).length).map (fun i => (Sum.inl (G (ys.getD i 0)).1 : Key)) = ys.map Sum.inl := by
        rw [List.length_map]
        exact range_map ys 0 (fun l => (Sum.inl l : Key))
      rw [this]
      exact List.Pairwise.map _ (fun a b h z => h (Sum.inl.inj z)) ndy
    · obtain ⟨l, hl2, rfl⟩ := map_at hx
      have hg : ys.getD i 0 = l := by rw [List.getD_eq_getElem?_getD, hl2]; rfl
      have hm : l ∈ tab.map (·.1) := hp1.mem_iff.mp (List.mem_of_getElem? hl2)
      obtain ⟨e, he⟩ := Option.isSome_iff_exists.mp (tget_some.mpr hm)
      have k2 := k1 H'
      simp only [hg] at k2
      have ht3 := f2.get ((upd_ne (ne1 hL ht2)).trans ht2) nin0
      walk_at "xs"
      refine getI (.inl ht3) (by rw [val_tab, he]; rfl) ?_
      have : nV (G l).2 = nV e := by show nV ((tget tab l).getD 0) = nV e; rw [he]; rfl
      rw [← this]
      exact k2 Fr.refl
    · rw [hrow] at hD2
      have hp2 := f2.get ((upd_ne (ne1 hL (upd_same : upd (upd H p (HO.ins CP dx (putF "side" (V.str (sv sd)) []))) p (HO.ins CP dx (putF "gates" (V.ref g) (putF "side" (V.str (sv sd)) []))) p = _))).trans upd_same) nin0
      have eD : D ≠ p := ne_of hD2 hp2 (by intro z; cases z)
      have f3 : Fr [p] H H' := f1.trans (f2.weak fun _ h => by cases h)
      walk_at "xs"
      refine k D (ys.map G) _ (f3.mutS hp2 not_fixed_ins (by simp)) ?_ ⟨⟨dx, upd_same⟩, (upd_ne eD).trans hD2⟩ ?_ (fun l => ?_) (by rw [List.length_map]; exact hyl)
      · refine f1.back hD (nin1 eD nin0)
      · rw [List.map_map]
        have : ys.map ((·.1) ∘ G) = ys := by
          have : ((·.1) ∘ G : Int → Int) = id := rfl
          rw [this, List.map_id]
        rw [this]
        exact lt_of_le_nodup hs1 ndy
      · unfold tget
        rw [List.find?_map, Option.map_map]
        by_cases hm : l ∈ ys
        · obtain ⟨e, he⟩ := Option.isSome_iff_exists.mp (tget_some.mpr (hp1.mem_iff.mp hm))
          have hf : ys.find? ((fun p : Int × Nat => decide (p.1 = l)) ∘ G) = some l := by
            have := List.find?_isSome.mpr ⟨l, hm, show ((fun p : Int × Nat => decide (p.1 = l)) ∘ G) l = true by simp [G]⟩
            obtain ⟨z, hz⟩ := Option.isSome_iff_exists.mp this
            have h2 := List.find?_some hz
            have : z = l := by simpa [G] using h2
            rw [hz, this]
          rw [hf]
          show some ((tget tab l).getD 0) = _
          rw [he]
          exact he.symm
        · have hf : ys.find? ((fun p : Int × Nat => decide (p.1 = l)) ∘ G) = none := by
            rw [List.find?_eq_none]
            intro z hz c
            have : z = l := by simpa [G] using c
            subst this; exact hm hz
          rw [hf]
          have : tget tab l = none := by
            cases q : tget tab l with
            | none => rfl
            | some e => exact absurd (hp1.mem_iff.mpr (tget_some.mp (by rw [q]; rfl))) hm
          exact this.symm
theorem tab_edges (tab : List (Int × Nat)) : (tab.map (·.2)).length = tab.length := List.length_map _
theorem nd_of_lt {l : List Int} (h : l.Pairwise (· < ·)) : l.Nodup := List.Pairwise.imp (fun h => by omega) h
def spEdges (CP : Addr) (K : PySem.W.Frag) : Sp := fun vs H Q _ => ∃ (p g t : Addr) (sd : Bool) (tab : List (Int × Nat)), vs = [.ref p] ∧ PlanAt CP H p g t sd tab ∧ (tab.map (·.1)).Nodup ∧ tab.length < 1000 ∧
  ∀ D H', H D = none → Fr [] H H' → H' D = some (.lst ((tab.map (·.2)).map nV)) → Q (.ref D) H'
theorem ok_edges (b : Bi K mg CP CG) (d : DfM K CP "Plan.edges" "edges" s_Plan_edges ["self"] f fd) : HasM P w K mg base CX0 CP "edges" ["self"] 1 (spEdges CP K) := by
  refine d.has (d.F.ok sc_Plan_edges (fun vs H Q E h => ?_) (fun cdv A outer s H vs Q E hr h => ?_))
  · obtain ⟨_, _, _, _, _, rfl, _⟩ := h; rfl
  · obtain ⟨p, g, t, sd, tab, rfl, ⟨⟨dx, hp⟩, ht⟩, nd, hl, k⟩ := h
    have n3 := b.na_table
    have cl := b.cl_Plan
    have hu := hu_of hr
    have e1 : t ≠ p := ne_of ht hp (by intro z; cases z)
    refine ⟨_, (pss_one (ps_ret (pe_lock (pe_lc (own := [("letter", 1)]) (g := gName 1) (by rfl) sc_Plan_edges.nd (pi_keys (pe_fldK K (pv 0) rfl)) (blkOk_by (own := [("letter", 1)]) (N := n_Plan_edges) (sc := defScope s_Plan_edges) (by decide +kernel)) (fun _ _ _ _ _ => (pg_name (i := 1) sc_Plan_edges.nd rfl (Or.inl rfl))) (fun _ _ _ _ _ => by exact pts_nil) (fun _ _ _ _ _ => by exact (pe_dget hu (pe_fldK K (pv 0) rfl) (pv 1) (fun _ _ => rfl))))))), ?_⟩
    walk_at "xs"
    refine x_lockE ht trivial fun od => ?_
    have hp2 : upd H t (.frz od (.dK (tabD tab))) p = some (.ins CP dx [("side", .str (sv sd)), ("gates", .ref g), ("table", .ref t)]) := (upd_ne e1.symm).trans hp
    walk_at "xs"
    refine lcJ (K := K) (jK upd_same) (by rw [tab_len]; omega) (fun i => (tab[i]?).map fun q => PyData.int (q.2 : Int)) (fun i x H' E E' hi it f2 k1 k2 => ?_) fun D H' hD f2 ls => ?_
    · obtain ⟨kk, v, e2, rfl⟩ := it
      obtain ⟨q, hq, e3⟩ : ∃ q, tab[i]? = some q ∧ (kk, v) = ((Sum.inl q.1 : Key), nV q.2) := by
        unfold tabD at e2
        rw [List.getElem?_map] at e2
        cases h : tab[i]? with
        | none => rw [h] at e2; cases e2
        | some q => rw [h] at e2; exact ⟨q, rfl, (Option.some.inj e2).symm⟩
      cases e3
      have hp3 := f2.get hp2 nin0
      have ht3 : H' t = some (.frz od (.dK (tabD tab))) := f2.get upd_same nin0
      rw [hq] at k1
      walk_at "xs"
      refine getI (.inr ⟨od, ht3⟩) (by rw [val_tab, mem_tget nd (List.mem_of_getElem? hq)]; rfl) ?_
      exact k1 _ _ _ rfl (.int _) Fr.refl
    · have e2 : (List.range (tabD tab).length).filterMap (fun i => (tab[i]?).map fun q => PyData.int (q.2 : Int)) = ((tab.map (·.2)).map fun n : Nat => (n : Int)).map PyData.int := by
        rw [tab_len]
        have := range_bind tab (fun q : Int × Nat => some (PyData.int (q.2 : Int)))
        rw [fm_map] at this
        rw [List.map_map, List.map_map]
        refine Eq.trans ?_ this
        congr 1
        funext i
        cases tab[i]? <;> rfl
      rw [e2] at ls
      have hD2 := ls_ints ls
      have ht3 : H' t = some (.frz od (.dK (tabD tab))) := f2.get upd_same nin0
      have eD : D ≠ t := ne_of hD2 ht3 (by intro z; cases z)
      refine ⟨ht3, k D _ ?_ (Fr.lock ht f2) ?_⟩
      · rw [← hD, upd_ne eD]
      · rw [upd_ne eD, hD2, List.map_map]; rfl
def spCount (CP CG : Addr) (K : PySem.W.Frag) : Sp := fun vs H Q _ => ∃ (p g t r kn : Addr) (sd : Bool) (tab : List (Int × Nat)) (rs : List Row), vs = [.ref p] ∧ PlanAt CP H p g t sd tab ∧ (tab.map (·.1)).Nodup ∧ tab.length < 1000 ∧ GatesAt CG K H g r kn rs ∧ WF rs ∧ rs.length < 1000000 ∧ (∀ q ∈ tab, q.2 / 2 < rs.length) ∧
  ∀ H', Fr [] H H' → Q (.int (((cone rs (tab.map (·.2))).filter fun k => (rs[k]?).any isBoth).length : Nat)) H'
theorem ok_count (b : Bi K mg CP CG) (h_Plan_edges : HasM P w K mg base CX0 CP "edges" ["self"] 1 (spEdges CP K)) (h_Gates_gate_rows : HasM P w K mg base CX0 CG "gate_rows" ["self", "edges"] 2 (spGRows CG K)) (d : DfM K CP "Plan.gate_count" "gate_count" s_Plan_gate_count ["self"] f fd) : HasM P w K mg base CX0 CP "gate_count" ["self"] 3 (spCount CP CG K) := by
  refine d.has (d.F.ok sc_Plan_gate_count (fun vs H Q E h => ?_) (fun cdv A outer s H vs Q E hr h => ?_))
  · obtain ⟨_, _, _, _, _, _, _, _, rfl, _⟩ := h; rfl
  · obtain ⟨p, g, t, r, kn, sd, tab, rs, rfl, hP, nd, hl, G, wf, hrl, hes, k⟩ := h
    have n2 := b.na_gates
    have cl := b.cl_Plan
    have cl2 := b.cl_Gates
    have hu := hu_of hr
    obtain ⟨⟨dx, hp⟩, ht⟩ := id hP
    obtain ⟨dg, hg⟩ := G.ins
    refine ⟨_, (pss_one (ps_ret (pe_callB (cLenK K) (by rfl) b.b_len (by decide +kernel) (pa_cons (pe_methH (pe_fldK K (pv 0) rfl) b.cl_Gates h_Gates_gate_rows hr (by decide) pass0 (pa_cons (pe_methH0 (pv 0) b.cl_Plan h_Plan_edges hr (by decide) pass0) pa_nil)) pa_nil)))), ?_⟩
    walk_at "xs"
    refine methA hg (by rfl) ?_
    walk_at "xs"
    refine methA hp (by rfl) ?_
    walk_at "xs"
    refine ⟨p, g, t, sd, tab, rfl, hP, nd, hl, fun D H1 hD f1 h1 => ?_⟩
    walk_at "xs"
    refine ⟨g, r, kn, D, rs, tab.map (·.2), rfl, G.mono f1 nin0 nin0 nin0, wf, hrl, SqL.of h1, by rw [List.length_map]; omega, fun x hx => ?_, fun D2 H2 hD2 f2 h2 => ?_⟩
    · obtain ⟨q, hq, rfl⟩ := List.mem_map.mp hx
      exact hes q hq
    · walk_at "xs"
      rw [List.length_map]
      exact k H2 (f1.trans f2)
end
end K

set_option maxRecDepth 100000
set_option maxHeartbeats 1000000
namespace K
open PySem L2 Z R

abbrev s__law_answers : Stmt := top 26
abbrev n__law_answers : List Str := ["plan", "rows", "table", "given", "actual", "truths", "letter"]
theorem sc__law_answers : FnScope n__law_answers ["plan", "rows", "table", "given"] (defScope s__law_answers) := ⟨rfl, rfl, rfl, by decide +kernel, rfl, by decide +kernel, by decide +kernel⟩
section
variable {P : Program} {w : World} {K : PySem.W.Frag} {mg : Str → Option Value} {base : Heap} {CP CG f : Addr} {fd : FuncData}
def ansD (vs : List Bool) (tab : List (Int × Nat)) : List (Key × V) := tab.map fun q => ((Sum.inl q.1 : Key), V.bl (ev vs q.2))
theorem val_ans (vs : List Bool) (tab : List (Int × Nat)) (l : Int) : valV (ansD vs tab) (Sum.inl l) = (tget tab l).map fun e => V.bl (ev vs e) := by
  induction tab with
  | nil => rfl
  | cons p r ih =>
    by_cases h : p.1 = l
    · simp [ansD, valV, tget, h]
    · have e1 : ¬ ((Sum.inl p.1 : Key) = Sum.inl l) := fun z => h (Sum.inl.inj z)
      have := ih
      simp only [ansD, valV, tget] at this ⊢
      simp [List.find?_cons, h, e1] at this ⊢
      exact this
def spAnswers (CP CG : Addr) (K : PySem.W.Frag) : Sp := fun vs H Q _ => ∃ (p g t r kn c : Addr) (sd : Bool) (tab : List (Int × Nat)) (rs : List Row) (kvs : List (Key × V)) (ch : Int → Bool), vs = [.ref p, .ref c] ∧ PlanAt CP H p g t sd tab ∧ (tab.map (·.1)).Nodup ∧ tab.length < 1000 ∧ GatesAt CG K H g r kn rs ∧ WF rs ∧ rs.length < 1000000 ∧ (∀ q ∈ tab, q.2 / 2 < rs.length) ∧
  H c = some (.dK kvs) ∧ (∀ k x, k ∈ cone rs (tab.map (·.2)) → rs[k]? = some (.letter x) → valV kvs (Sum.inl x) = some (.bl (ch x))) ∧
  ∀ D H', H D = none → Fr [] H H' → H' D = some (.dK (ansD (vals rs ch) tab)) → Q (.ref D) H'
theorem ok_answers (b : Bi K mg CP CG) (h_Plan_edges : HasM P w K mg base CX0 CP "edges" ["self"] 1 (spEdges CP K)) (h_Gates_worths : HasM P w K mg base CX0 CG "worths" ["self", "edges", "choices"] 2 (spWorths CG K)) (d : DfM K CP "Plan.answers" "answers" s_Plan_answers ["self", "given"] f fd) : HasM P w K mg base CX0 CP "answers" ["self", "given"] 3 (spAnswers CP CG K) := by
  refine d.has (d.F.ok sc_Plan_answers (fun vs H Q E h => ?_) (fun cdv A outer s H vs Q E hr h => ?_))
  · obtain ⟨_, _, _, _, _, _, _, _, _, _, _, rfl, _⟩ := h; rfl
  · obtain ⟨p, g, t, r, kn, c, sd, tab, rs, kvs, ch, rfl, hP, nd, hl, G, wf, hrl, hes, hc, hch, k⟩ := h
    have n2 := b.na_gates
    have n3 := b.na_table
    have cl := b.cl_Plan
    have cl2 := b.cl_Gates
    have hu := hu_of hr
    obtain ⟨⟨dx, hp⟩, ht⟩ := id hP
    obtain ⟨dg, hg⟩ := G.ins
    refine ⟨_, (pss_cons (ps_set (i := 2) sc_Plan_answers.nd rfl (Or.inl rfl) (pe_methH (pe_fldK K (pv 0) rfl) b.cl_Gates h_Gates_worths hr (by decide) pass0 (pa_cons (pe_methH0 (pv 0) b.cl_Plan h_Plan_edges hr (by decide) pass0) (pa_cons (pv 1) pa_nil))))
 (pss_one (ps_ret (pe_lock (pe_dc (own := [("letter", 3), ("value", 4)]) (g := gTup K 2 (gCons (gName 3) (gCons (gName 4) gNil))) (by rfl) sc_Plan_answers.nd (pi_zipDL K (by rfl) b.b_zip (pa_cons (pe_fldK K (pv 0) rfl) (pa_cons (pv 2) pa_nil))) (blkOk_by (own := [("letter", 3), ("value", 4)]) (N := n_Plan_answers) (sc := defScope s_Plan_answers) (by decide +kernel)) (fun _ _ _ _ _ => (pg_tupK K (by rfl) (pgs_cons (pg_name (i := 3) sc_Plan_answers.nd rfl (Or.inl rfl)) (pgs_cons (pg_name (i := 4) sc_Plan_answers.nd rfl (Or.inl rfl)) pgs_nil)))) (fun _ _ _ _ _ => by exact pts_nil) (fun _ _ _ _ _ => by exact (pv 3)) (fun _ _ _ _ _ => by exact (pv 4))))))), ?_⟩
    walk_at "xs"
    refine methA hg (by rfl) ?_
    walk_at "xs"
    refine methA hp (by rfl) ?_
    walk_at "xs"
    refine ⟨p, g, t, sd, tab, rfl, hP, nd, hl, fun D H1 hD f1 h1 => ?_⟩
    walk_at "xs"
    refine ⟨g, r, kn, D, c, rs, tab.map (·.2), kvs, ch, rfl, G.mono f1 nin0 nin0 nin0, wf, hrl, SqL.of h1, by rw [List.length_map]; omega, fun x hx => ?_, f1.get hc nin0, hch, fun D2 H2 hD2 f2 h2 => ?_⟩
    · obtain ⟨q, hq, rfl⟩ := List.mem_map.mp hx
      exact hes q hq
    · have f12 := f1.trans f2
      have ht2 := f12.get ht nin0
      have hp2 := f12.get hp nin0
      have ept : p ≠ t := ne_of hp ht (by intro z; cases z)
      have eD2 : D2 ≠ t := ne_of h2 ht2 (by intro z; cases z)
      walk_at "xs"
      refine x_lockE ht2 trivial fun od => ?_
      have hp3 : upd H2 t (.frz od (.dK (tabD tab))) p = _ := (upd_ne ept).trans hp2
      have h3 : upd H2 t (.frz od (.dK (tabD tab))) D2 = _ := (upd_ne eD2).trans h2
      walk_at "xs"
      refine zkI (ys := ((tab.map (·.2)).map fun x => ev (vals rs ch) x).map V.bl) upd_same (SqL.of h3) ?_
      have hrow : (List.range (tabD tab).length).map (fun i => ((Sum.inl (tab.getD i (0, 0)).1 : Key), V.bl (ev (vals rs ch) (tab.getD i (0, 0)).2))) = ansD (vals rs ch) tab := by
        rw [tab_len]
        exact range_map tab (0, 0) (fun q => ((Sum.inl q.1 : Key), V.bl (ev (vals rs ch) q.2)))
      refine dcJ (jZk upd_same (SqL.of h3) nin0 (by rw [tab_len]; simp)) (by rw [tab_len]; omega) (fun i => ((Sum.inl (tab.getD i (0, 0)).1 : Key), V.bl (ev (vals rs ch) (tab.getD i (0, 0)).2))) ?_ (fun i x H' E E' hi it f3 k1 => ?_) fun D3 H' hD3 f3 h4 => ?_
      · have e := range_map tab (0, 0) (fun q : Int × Nat => (Sum.inl q.1 : Key))
        rw [tab_len, e]
        have e2 : tab.map (fun q : Int × Nat => (Sum.inl q.1 : Key)) = (tab.map (·.1)).map Sum.inl := by rw [List.map_map]; rfl
        rw [e2]
        exact List.Pairwise.map _ (fun a b h z => h (Sum.inl.inj z)) nd
      · obtain ⟨T, kk, u, y, rfl, hT, e1, e2⟩ := it
        rw [tab_len] at hi
        have eg : tab.getD i (0, 0) = tab[i] := by rw [List.getD_eq_getElem?_getD, List.getElem?_eq_getElem hi]; rfl
        have e3 : kk = Sum.inl tab[i].1 := by
          unfold tabD at e1
          rw [List.getElem?_map, List.getElem?_eq_getElem hi] at e1
          exact (congrArg Prod.fst (Option.some.inj e1)).symm
        have e4 : y = V.bl (ev (vals rs ch) tab[i].2) := by
          rw [List.getElem?_map, List.getElem?_map, List.getElem?_map, List.getElem?_eq_getElem hi] at e2
          exact (Option.some.inj e2).symm
        subst e3 e4
        rw [eg] at k1
        have k2 := k1 H'
        refine x_gtup hT rfl ?_
        walk_at "xs"
        exact k2 Fr.refl
      · rw [hrow] at h4
        have ht3 : H' t = some (.frz od (.dK (tabD tab))) := f3.get upd_same nin0
        have eD3 : D3 ≠ t := ne_of h4 ht3 (by intro z; cases z)
        refine ⟨ht3, k D3 _ ?_ (f12.trans (Fr.lock ht2 f3)) ?_⟩
        · refine f12.back ?_ nin0
          rw [← hD3, upd_ne eD3]
        · rw [upd_ne eD3, h4]
def spLAnswers (CP CG : Addr) (K : PySem.W.Frag) : Sp := fun vs H Q _ => ∃ (p g t r kn l t0 c : Addr) (sd : Bool) (tab tab0 : List (Int × Nat)) (rs : List Row) (kvs : List (Key × V)) (ch : Int → Bool), vs = [.ref p, .ref l, .ref t0, .ref c] ∧ PlanAt CP H p g t sd tab ∧ (tab.map (·.1)).Nodup ∧ tab.length < 1000 ∧ Two CG K H g r kn l rs ∧ WF rs ∧ rs.length < 1000000 ∧ (∀ q ∈ tab, q.2 / 2 < rs.length) ∧
  H t0 = some (.dK (tabD tab0)) ∧ (tab0.map (·.1)).Nodup ∧ (∀ x, tget tab x = tget tab0 x) ∧ tab.length = tab0.length ∧
  H c = some (.dK kvs) ∧ (∀ x, (valV kvs (Sum.inl x)).getD (.bl false) = .bl (ch x)) ∧ (∀ k x, k ∈ cone rs (tab.map (·.2)) → rs[k]? = some (.letter x) → (valV kvs (Sum.inl x)).isSome = true) ∧
  ∀ H', Fr [] H H' → Q (.bl true) H'
theorem ok_lanswers (b : Bi K mg CP CG) (h_Plan_answers : HasM P w K mg base CX0 CP "answers" ["self", "given"] 3 (spAnswers CP CG K)) (h__law_truths : Has P w K mg base CX0 "_law_truths" ["rows", "choices"] 2 (spTruths K)) (h__law_value : Has P w K mg base CX0 "_law_value" ["truths", "edge"] 1 (spLValue K)) (d : Df K mg "_law_answers" s__law_answers ["plan", "rows", "table", "given"] f fd) : Has P w K mg base CX0 "_law_answers" ["plan", "rows", "table", "given"] 4 (spLAnswers CP CG K) := by
  refine d.has (d.F.ok sc__law_answers (fun vs H Q E h => ?_) (fun cdv A outer s H vs Q E hr h => ?_))
  · obtain ⟨_, _, _, _, _, _, _, _, _, _, _, _, _, _, rfl, _⟩ := h; rfl
  · obtain ⟨p, g, t, r, kn, l, t0, c, sd, tab, tab0, rs, kvs, ch, rfl, hP, nd, hl, T, wf, hrl, hes, ht0, nd0, tg, tl, hc, hch, hcs, k⟩ := h
    have cl := b.cl_Plan
    have cl2 := b.cl_Gates
    have hu := hu_of hr
    obtain ⟨⟨dx, hp⟩, ht⟩ := id hP
    refine ⟨_, (pss_cons (ps_set (i := 4) sc__law_answers.nd rfl (Or.inl rfl) (pe_methH (pv 0) b.cl_Plan h_Plan_answers hr (by decide) pass0 (pa_cons (pe_callTy cDictD (by rfl) b.b_dict (by decide +kernel) (pa_cons (pv 3) pa_nil)) pa_nil)))
 (pss_cons (ps_if (PW.pt (pw_or (pt_not (pt_trK K (pe_callB (cIsiK K) (by rfl) b.b_isinstance (by decide +kernel) (pa_cons (pv 4) (pa_cons (pe_bltn (v := .ty "dict") (by rfl) b.b_dict (by decide +kernel) rfl) pa_nil))))) (pw_or1 (pt_cmpR op_ne (pe_callB cLenD (by rfl) b.b_len (by decide +kernel) (pa_cons (pv 4) pa_nil)) (pe_callB cLenD (by rfl) b.b_len (by decide +kernel) (pa_cons (pv 2) pa_nil)) (nomark _)))))
 (pss_one (ps_ret pe_bl))
 pss_nil)
 (pss_cons (ps_set (i := 5) sc__law_answers.nd rfl (Or.inl rfl) (pe_callH h__law_truths hr (by decide) pass0 (pa_cons (pv 1) (pa_cons (pv 3) pa_nil))))
 (pss_cons (ps_lock (ps_for PassesOwn.never rfl (pi_keys (pv 2)) (pg_name (i := 6) sc__law_answers.nd rfl (Or.inl rfl))
 (pss_cons (ps_if (PW.pt (pw_or (pt_cmp (pc_dnotin hu (pv 6) (pv 4))) (pw_or1 (pt_not (pt_trK K (pe_callB (cIsiK K) (by rfl) b.b_isinstance (by decide +kernel) (pa_cons (pe_dget hu (pv 4) (pv 6) (fun _ _ => rfl)) (pa_cons (pe_bltn (v := .ty "bool") (by rfl) b.b_bool (by decide +kernel) rfl) pa_nil))))))))
 (pss_one (ps_ret pe_bl))
 pss_nil)
 (pss_one (ps_if (pt_cmpR op_ne (pe_dget hu (pv 4) (pv 6) (fun _ _ => rfl)) (pe_callH h__law_value hr (by decide) pass0 (pa_cons (pv 5) (pa_cons (pe_dget hu (pv 2) (pv 6) (fun _ _ => rfl)) pa_nil))) (nomark _))
 (pss_one (ps_ret pe_bl))
 pss_nil)))))
 (pss_one (ps_ret pe_bl)))))), ?_⟩
    walk_at "xs"
    refine methA hp (by rfl) ?_
    walk_at "xs"
    refine ⟨c, kvs, rfl, .inl hc, fun c2 hc2 => ?_⟩
    have f1 : Fr [] H (upd H c2 (.dK kvs)) := Fr.new hc2
    walk_at "xs"
    refine ⟨p, g, t, r, kn, c2, sd, tab, rs, kvs, ch, rfl, hP.mono f1 nin0 nin0, nd, hl, T.G.mono f1 nin0 nin0 nin0, wf, hrl, hes, upd_same, fun kk x h1 h2 => ?_, fun D H2 hD f2 h2 => ?_⟩
    · obtain ⟨y, hy⟩ := Option.isSome_iff_exists.mp (hcs kk x h1 h2)
      have := hch x
      rw [hy] at this ⊢
      exact congrArg some this
    · have f12 := f1.trans f2
      have ht2 := f12.get ht0 nin0
      walk_at "xs"
      have hlen : ((ansD (vals rs ch) tab).length : Int) = ((tabD tab0).length : Int) := by rw [tab_len]; unfold ansD; rw [List.length_map, tl]
      refine ifN (fun z => absurd hlen z) fun _ => ?_
      walk_at "xs"
      refine ⟨l, c, rs, kvs, ch, rfl, T.L.mono f12 nin0, T.G.hd, T.G.nd, wf, hrl, f12.get hc nin0, hch, fun D3 H3 hD3 f3 h3 => ?_⟩
      have f13 := f12.trans f3
      have ht3 := f13.get ht0 nin0
      have hD3' := f3.get h2 nin0
      have eD : D ≠ t0 := by
        intro z
        subst z
        have : H D = none := f1.back hD nin0
        rw [ht0] at this; cases this
      have eD3 : D3 ≠ t0 := ne_of h3 ht3 (by intro z; cases z)
      walk_at "xs"
      refine x_lock ht3 trivial fun od => ?_
      have h4 : upd H3 t0 (.frz od (.dK (tabD tab0))) D = _ := (upd_ne eD).trans hD3'
      have h5 : upd H3 t0 (.frz od (.dK (tabD tab0))) D3 = _ := (upd_ne eD3).trans h3
      walk_at "xs"
      refine loopJ (jK (S := []) upd_same) (fun i σ H' => ∃ v : Option V, σ = [some (.ref p), some (.ref l), some (.ref t0), some (.ref c), some (.ref D), some (.ref D3), v] ∧ Fr [] (upd H3 t0 (.frz od (.dK (tabD tab0)))) H') ⟨none, rfl, Fr.refl⟩ (fun i σ H' q => ?_) (fun i x σ H' H'' hi it f4 q => ?_) (fun σ H' q => ?_)
      · obtain ⟨v, rfl, q⟩ := q; exact q
      · obtain ⟨v, rfl, f5⟩ := q
        obtain ⟨kk, v2, e2, rfl⟩ := it
        obtain ⟨q, hq, e3⟩ : ∃ q, tab0[i]? = some q ∧ (kk, v2) = ((Sum.inl q.1 : Key), nV q.2) := by
          unfold tabD at e2
          rw [List.getElem?_map] at e2
          cases h : tab0[i]? with
          | none => rw [h] at e2; cases e2
          | some q => rw [h] at e2; exact ⟨q, rfl, (Option.some.inj e2).symm⟩
        cases e3
        have f45 := f5.trans f4
        have hq2 := mem_tget nd0 (List.mem_of_getElem? hq)
        have hq3 : tget tab q.1 = some q.2 := (tg q.1).trans hq2
        have h6 := f45.get h4 nin0
        have h7 := f45.get h5 nin0
        have h8 : H'' t0 = some (.frz od (.dK (tabD tab0))) := f45.get upd_same nin0
        have hlt := hes _ (tget_mem hq3)
        walk_at "xs"
        refine inI (.inl h6) ?_
        rw [val_ans, hq3]
        walk_at "xs"
        refine getI (.inl h6) (by rw [val_ans, hq3]; rfl) ?_
        walk_at "xs"
        refine getI (.inl h6) (by rw [val_ans, hq3]; rfl) ?_
        walk_at "xs"
        refine getI (.inr ⟨od, h8⟩) (by rw [val_tab, hq2]; rfl) ?_
        walk_at "xs"
        refine ⟨D3, q.2, vals rs ch, rfl, SqL.of h7, by rw [vals_len]; exact hlt, ?_⟩
        walk_at "xs"
        refine ifN (fun z => absurd rfl z) fun _ => ?_
        exact ⟨_, rfl, f45⟩
      · obtain ⟨v, rfl, f5⟩ := q
        refine ⟨f5.get upd_same nin0, ?_⟩
        walk_at "xs"
        exact k _ (f13.trans (Fr.lock ht3 f5))
end
end K

set_option maxRecDepth 100000
set_option maxHeartbeats 1000000
namespace K
open PySem L2 Z R

abbrev s_Plan_misfit : Stmt := inClass (top 6) 3
abbrev n_Plan_misfit : List Str := ["self", "order", "ahead", "own", "letter", "side", "used"]
theorem sc_Plan_misfit : FnScope n_Plan_misfit ["self", "order"] (defScope s_Plan_misfit) := ⟨rfl, rfl, rfl, by decide +kernel, rfl, by decide +kernel, by decide +kernel⟩
section
variable {P : Program} {w : World} {K : PySem.W.Frag} {mg : Str → Option Value} {base : Heap} {CP CG f : Addr} {fd : FuncData}
theorem put_mem {kvs : List (Key × V)} {l : Int} {B B' : Int → Prop} (h : ∀ x, (valV kvs (Sum.inl x)).isSome = true ↔ B x) (h' : ∀ x, B' x ↔ B x ∨ x = l) (x : Int) : (valV (putK kvs (Sum.inl l : Key) (.bl true)) (Sum.inl x)).isSome = true ↔ B' x := by
  rw [valV_put, h']
  by_cases c : x = l
  · subst c; rw [if_pos rfl]; exact ⟨fun _ => .inr rfl, fun _ => rfl⟩
  · rw [if_neg (fun z => c (Sum.inl.inj z)), h]
    exact ⟨.inl, fun z => z.resolve_right c⟩
theorem tab_at {tab : List (Int × Nat)} {i : Nat} {kk : Key} {v : V} (h : (tabD tab)[i]? = some (kk, v)) : ∃ q, tab[i]? = some q ∧ kk = Sum.inl q.1 ∧ v = nV q.2 := by
  unfold tabD at h
  rw [List.getElem?_map] at h
  cases e : tab[i]? with
  | none => rw [e] at h; cases h
  | some q => rw [e] at h; cases h; exact ⟨q, rfl, rfl, rfl⟩
theorem own_next {s sd : Bool} (h : ¬ s = !sd) : s = sd := by cases s <;> cases sd <;> simp at h ⊢
def spMisfit (CP CG : Addr) (K : PySem.W.Frag) : Sp := fun vs H Q _ => ∃ (p g t r kn o : Addr) (sd : Bool) (tab : List (Int × Nat)) (rs : List Row) (os : List (Int × Bool)), vs = [.ref p, .ref o] ∧ PlanAt CP H p g t sd tab ∧ (tab.map (·.1)).Pairwise (· < ·) ∧ tab.length < 1000 ∧ GatesAt CG K H g r kn rs ∧ WF rs ∧ rs.length < 1000000 ∧ (∀ q ∈ tab, q.2 / 2 < rs.length) ∧
  LS K H o (os.map pairD) ∧ os.length < 1000 ∧ ∀ v H', Fr [] H H' → Res rs sd os (tget tab) v → Q v H'
theorem ok_misfit (b : Bi K mg CP CG) (h_other : Has P w K mg base CX0 "other" ["side"] 1 spOther) (h_Gates_hangs_on : HasM P w K mg base CX0 CG "hangs_on" ["self", "edge"] 2 (spHangs CG K)) (d : DfM K CP "Plan.misfit" "misfit" s_Plan_misfit ["self", "order"] f fd) : HasM P w K mg base CX0 CP "misfit" ["self", "order"] 3 (spMisfit CP CG K) := by
  refine d.has (d.F.ok sc_Plan_misfit (fun vs H Q E h => ?_) (fun cdv A outer s H vs Q E hr h => ?_))
  · obtain ⟨_, _, _, _, _, _, _, _, _, _, rfl, _⟩ := h; rfl
  · obtain ⟨p, g, t, r, kn, o, sd, tab, rs, os, rfl, hP, asc, hl, G, wf, hrl, hes, hO, hol, k⟩ := h
    have n1 := b.na_side
    have n2 := b.na_gates
    have n3 := b.na_table
    have cl := b.cl_Plan
    have cl2 := b.cl_Gates
    have hu := hu_of hr
    have nd := nd_of_lt asc
    obtain ⟨⟨dx, hp⟩, ht⟩ := id hP
    obtain ⟨dg, hg⟩ := G.ins
    obtain ⟨vo, hov, hoi⟩ := id hO
    refine ⟨_, (pss_cons (ps_set (i := 2) sc_Plan_misfit.nd rfl (Or.inl rfl) pe_dnewK)
 (pss_cons (ps_set (i := 3) sc_Plan_misfit.nd rfl (Or.inl rfl) pe_dnewK)
 (pss_cons (ps_for PassesOwn.never rfl (pi_listK K (pv 1)) (pg_tupK K (by rfl) (pgs_cons (pg_name (i := 4) sc_Plan_misfit.nd rfl (Or.inl rfl)) (pgs_cons (pg_name (i := 5) sc_Plan_misfit.nd rfl (Or.inl rfl)) pgs_nil)))
 (pss_one (ps_if (pt_cmpR op_eq (pv 5) (pe_callH h_other hr (by decide) pass0 (pa_cons (pe_fldK K (pv 0) rfl) pa_nil)) (nomark _))
 (pss_one (ps_dput hu (pv 2) (pv 4) pe_bl rfl))
 (pss_cons (ps_dput hu (pv 3) (pv 4) pe_bl rfl)
 (pss_cons (ps_if (pt_cmp (pc_dnotin hu (pv 4) (pe_fldK K (pv 0) rfl)))
 (pss_one (ps_ret (pv 4)))
 pss_nil)
 (pss_one (ps_for PassesOwn.never rfl (pi_listK K (pe_methH (pe_fldK K (pv 0) rfl) b.cl_Gates h_Gates_hangs_on hr (by decide) pass0 (pa_cons (pe_dget hu (pe_fldK K (pv 0) rfl) (pv 4) (fun _ _ => rfl)) pa_nil))) (pg_name (i := 6) sc_Plan_misfit.nd rfl (Or.inl rfl))
 (pss_one (ps_if (pt_cmp (pc_dnotin hu (pv 6) (pv 2)))
 (pss_one (ps_ret (pv 4)))
 pss_nil)))))))))
 (pss_cons (ps_lock (ps_for PassesOwn.never rfl (pi_keys (pe_fldK K (pv 0) rfl)) (pg_name (i := 4) sc_Plan_misfit.nd rfl (Or.inl rfl))
 (pss_one (ps_if (pt_cmp (pc_dnotin hu (pv 4) (pv 3)))
 (pss_one (ps_ret (pv 4)))
 pss_nil))))
 (pss_one (ps_ret pe_non)))))), ?_⟩
    walk_at "xs"
    refine x_newK fun da hda => ?_
    walk_at "xs"
    refine x_newK fun dw hdw => ?_
    have e1 : dw ≠ da := ne2 hdw upd_same
    have hdw0 : H dw = none := un1 hdw
    have eo1 : o ≠ da := ne1 hda hov
    have eo2 : o ≠ dw := ne1 hdw0 hov
    have f0 : Fr [] H (upd (upd H da (.dK [])) dw (.dK [])) := (Fr.new hda).mut hdw0
    walk_at "xs"
    refine forM (S := [da, dw]) (hO.mono f0 nin0) (nin1 eo1 (nin1 eo2 nin0)) (fun i σ H' => ∃ (ka kw : List (Key × V)) (v1 v2 v3 : Option V), σ = [some (.ref p), some (.ref o), some (.ref da), some (.ref dw), v1, v2, v3] ∧ Fr [] H H' ∧ Fr [da, dw] (upd (upd H da (.dK [])) dw (.dK [])) H' ∧ H' da = some (.dK ka) ∧ H' dw = some (.dK kw) ∧ ka.length ≤ i ∧ kw.length ≤ i ∧
      (∀ x, (valV ka (Sum.inl x)).isSome = true ↔ Before os i (!sd) x) ∧ (∀ x, (valV kw (Sum.inl x)).isSome = true ↔ Before os i sd x) ∧ ∀ j, j < i → ¬ Bad rs sd os (tget tab) j)
      ⟨[], [], none, none, none, rfl, f0, Fr.refl, by walk_at "hg", by walk_at "hg", Nat.le_refl _, Nat.le_refl _, fun x => ⟨fun z => (by cases z), fun z => absurd z before_zero⟩, fun x => ⟨fun z => (by cases z), fun z => absurd z before_zero⟩, fun j hj => (by omega)⟩ (fun i σ' H' q => ?_) ?_ ?_
    · obtain ⟨_, _, _, _, _, rfl, _, q, _⟩ := q; exact q
    · rintro i dd x σ H' hdd hx ⟨ka, kw, v1, v2, v3, rfl, f1, f2, h1, h2, l1, l2, ma, mw, nb⟩
      obtain ⟨⟨l, sl⟩, hos, rfl⟩ : ∃ q, os[i]? = some q ∧ dd = pairD q := by
        rw [List.getElem?_map] at hdd
        cases e : os[i]? with
        | none => rw [e] at hdd; cases hdd
        | some q => rw [e] at hdd; exact ⟨q, rfl, (Option.some.inj hdd).symm⟩
      have hio := (List.getElem?_eq_some_iff.mp hos).1
      obtain ⟨T, rfl, hT⟩ := pair_at hx
      have hp1 := f1.get hp nin0
      have ht1 := f1.get ht nin0
      have hg1 := f1.get hg nin0
      have et1 : t ≠ da := ne1 hda ht
      have et2 : t ≠ dw := ne1 hdw0 ht
      have ep1 : p ≠ da := ne1 hda hp
      have ep2 : p ≠ dw := ne1 hdw0 hp
      have eg1 : g ≠ da := ne1 hda hg
      have eg2 : g ≠ dw := ne1 hdw0 hg
      refine x_gtup hT rfl ?_
      walk_at "xs"
      refine ⟨sd, rfl, ?_⟩
      walk_at "xs"
      refine ifD (fun c => ?_) (fun c => ?_)
      · have c' : sl = !sd := sv_inj.mp c
        subst c'
        walk_at "xs"
        refine putI h1 (by rw [sizeLine_eq]; omega) ?_
        refine ⟨_, kw, _, _, _, rfl, f1.mut hda, f2.mutS h1 not_fixed_dK (by simp), upd_same, (upd_ne e1).trans h2, ?_, by omega, ?_, fun x => ?_, fun j hj => ?_⟩
        · exact Nat.le_trans (len_put _ _ _) (by omega)
        · exact put_mem ma fun x => by rw [before_succ hos]; exact or_congr_right ⟨fun z => z.2, fun z => ⟨rfl, z⟩⟩
        · rw [mw, before_succ hos]
          exact ⟨.inl, fun z => z.resolve_right fun z => by have := z.1; cases sd <;> cases this⟩
        · by_cases cj : j < i
          · exact nb j cj
          · have : j = i := by omega
            subst this
            rintro ⟨l', e, _⟩
            rw [hos] at e
            have := congrArg Prod.snd (Option.some.inj e)
            cases sd <;> cases this
      · have c' : sl = sd := own_next fun z => c (by rw [z])
        subst c'
        walk_at "xs"
        refine putI h2 (by rw [sizeLine_eq]; omega) ?_
        have f3 : Fr [] H (upd H' dw (.dK (putK kw (Sum.inl l : Key) (.bl true)))) := f1.mut hdw0
        have f4 := f2.mutS (o := .dK (putK kw (Sum.inl l : Key) (.bl true))) h2 not_fixed_dK (by simp)
        have h3 : upd H' dw (.dK (putK kw (Sum.inl l : Key) (.bl true))) da = _ := (upd_ne e1.symm).trans h1
        have mw' := put_mem (l := l) (B' := Before os (i + 1) sl) mw fun x => by rw [before_succ hos]; exact or_congr_right ⟨fun z => z.2, fun z => ⟨rfl, z⟩⟩
        have ma' : ∀ x, (valV ka (Sum.inl x)).isSome = true ↔ Before os (i + 1) (!sl) x := fun x => by
          rw [ma, before_succ hos]
          exact ⟨.inl, fun z => z.resolve_right fun z => by have := z.1; cases sl <;> cases this⟩
        have lw := len_put kw (Sum.inl l : Key) (V.bl true)
        have hp3 := f3.get hp nin0
        have ht3 := f3.get ht nin0
        have hg3 := f3.get hg nin0
        have hb : ∀ j, j < i → ¬ Bad rs sl os (tget tab) j := nb
        generalize hH3 : upd H' dw (.dK (putK kw (Sum.inl l : Key) (.bl true))) = H3 at *
        have h2' : H3 dw = some (.dK (putK kw (Sum.inl l : Key) (.bl true))) := by rw [← hH3]; exact upd_same
        walk_at "xs"
        refine inI (.inl ht3) ?_
        rw [val_tab]
        cases hT1 : tget tab l with
        | none =>
          walk_at "xs"
          exact k _ _ f3 (.inl ⟨i, l, hos, ⟨l, hos, .inl hT1⟩, hb, rfl⟩)
        | some e =>
          walk_at "xs"
          refine methA hg3 (by rfl) ?_
          walk_at "xs"
          refine getI (.inl ht3) (by rw [val_tab, hT1]; rfl) ?_
          walk_at "xs"
          refine ⟨g, r, kn, rs, e, rfl, G.mono f3 nin0 nin0 nin0, wf, hrl, hes _ (tget_mem hT1), fun D H4 ls hD f5 hD4 mem => ?_⟩
          have h4a := f5.get h3 nin0
          refine forL (xs := ls.map V.int) (SqL.of hD4) (fun m σ H5 => ∃ v : Option V, σ = [some (.ref p), some (.ref o), some (.ref da), some (.ref dw), some (.int l), some (.str (sv sl)), v] ∧ H5 = H4 ∧ ∀ j x, j < m → ls[j]? = some x → Before os i (!sl) x)
            ⟨v3, rfl, rfl, fun j x hj => (by omega)⟩ (fun m σ H5 _ q => ?_) ?_ ?_
          · obtain ⟨_, _, rfl, _⟩ := q; exact SqL.of hD4
          · rintro m x σ H5 hx ⟨v, rfl, rfl, q⟩
            obtain ⟨x, hx2, rfl⟩ := map_at hx
            walk_at "xs"
            refine inI (.inl h4a) ?_
            walk_at "xs"
            refine ifN' (fun c => ?_) (fun c => ?_)
            · walk_at "xs"
              obtain ⟨kk, hk1, hk2⟩ := (mem x).mp (List.mem_of_getElem? hx2)
              refine k _ _ (f3.trans f5) (.inl ⟨i, l, hos, ⟨l, hos, .inr ⟨e, kk, x, hT1, hk1, hk2, fun z => ?_⟩⟩, hb, rfl⟩)
              rw [(ma x).mpr z] at c; cases c
            · refine ⟨_, rfl, rfl, fun j y hj hy => ?_⟩
              by_cases cj : j < m
              · exact q j y cj hy
              · have : j = m := by omega
                subst this
                rw [hx2] at hy
                cases hy
                exact (ma x).mp c
          · rintro σ H5 ⟨v, rfl, rfl, q⟩
            rw [List.length_map] at q
            refine ⟨ka, _, _, _, _, rfl, f3.trans f5, f4.trans (f5.weak fun _ h => by cases h), h4a, f5.get h2' nin0, by omega, by omega, ma', mw', fun j hj => ?_⟩
            by_cases cj : j < i
            · exact nb j cj
            · have : j = i := by omega
              subst this
              rintro ⟨l', e', z⟩
              rw [hos] at e'
              cases e'
              rcases z with z | ⟨e2, kk, x, z1, z2, z3, z4⟩
              · rw [hT1] at z; cases z
              · rw [hT1] at z1
                cases z1
                obtain ⟨m, hm, hmx⟩ := List.getElem_of_mem ((mem x).mpr ⟨kk, z2, z3⟩)
                exact z4 (q m x hm (by rw [List.getElem?_eq_getElem hm, hmx]))
    · rintro σ H' ⟨ka, kw, v1, v2, v3, rfl, f1, f2, h1, h2, l1, l2, ma, mw, nb⟩
      rw [List.length_map] at ma mw nb
      have nb' : ∀ j, ¬ Bad rs sd os (tget tab) j := fun j z => nb j (bad_lt z) z
      have hp1 := f1.get hp nin0
      have ht1 := f1.get ht nin0
      have ept : p ≠ t := ne_of hp ht (by intro z; cases z)
      have et2 : dw ≠ t := (ne1 hdw0 ht).symm
      walk_at "xs"
      refine x_lock ht1 trivial fun od => ?_
      have hp2 : upd H' t (.frz od (.dK (tabD tab))) p = _ := (upd_ne ept).trans hp1
      have h3 : upd H' t (.frz od (.dK (tabD tab))) dw = _ := (upd_ne et2).trans h2
      have fl := Fr.lock (S := []) (od := od) ht1 Fr.refl
      walk_at "xs"
      refine loopJ (jK (S := []) upd_same) (fun i σ H5 => ∃ v1 : Option V, σ = [some (.ref p), some (.ref o), some (.ref da), some (.ref dw), v1, v2, v3] ∧ Fr [] (upd H' t (.frz od (.dK (tabD tab)))) H5 ∧ ∀ j q, j < i → tab[j]? = some q → Before os os.length sd q.1) ⟨v1, rfl, Fr.refl, fun j q hj => (by omega)⟩ (fun i σ H5 q => ?_) (fun i x σ H5 H6 hi it f5 q => ?_) (fun σ H5 q => ?_)
      · obtain ⟨_, rfl, q, _⟩ := q; exact q
      · obtain ⟨v1, rfl, f4, q⟩ := q
        obtain ⟨kk, v, e2, rfl⟩ := it
        obtain ⟨y, hy, rfl, rfl⟩ := tab_at e2
        have f45 := f4.trans f5
        have h6 := f45.get h3 nin0
        have ht6 : H6 t = some (.frz od (.dK (tabD tab))) := f45.get upd_same nin0
        walk_at "xs"
        refine inI (.inl h6) ?_
        walk_at "xs"
        refine ifN' (fun c => ?_) (fun c => ?_)
        · walk_at "xs"
          refine ⟨ht6, k _ _ (f1.trans (Fr.lock ht1 f45)) (.inr (.inl ⟨nb', y.1, ?_, fun z => ?_, fun l' hlt hs => ?_, rfl⟩))⟩
          · exact tget_some.mpr (List.mem_map.mpr ⟨y, List.mem_of_getElem? hy, rfl⟩)
          · rw [(mw y.1).mpr z] at c; cases c
          · obtain ⟨y', hy', rfl⟩ := List.mem_map.mp (tget_some.mp hs)
            obtain ⟨j, hj, rfl⟩ := List.getElem_of_mem hy'
            refine q j _ ?_ (List.getElem?_eq_getElem hj)
            by_cases cj : j < i
            · exact cj
            · exfalso
              obtain ⟨hi', hie⟩ := List.getElem?_eq_some_iff.mp hy
              by_cases e : j = i
              · subst e; rw [hie] at hlt; omega
              · have := List.pairwise_iff_getElem.mp asc i j (by rw [List.length_map]; exact hi') (by rw [List.length_map]; exact hj) (by omega)
                rw [List.getElem_map, List.getElem_map, hie] at this
                omega
        · refine ⟨_, rfl, f45, fun j y' hj hy' => ?_⟩
          by_cases cj : j < i
          · exact q j y' cj hy'
          · have : j = i := by omega
            subst this
            rw [hy] at hy'
            cases hy'
            exact (mw y.1).mp c
      · obtain ⟨v1, rfl, f4, q⟩ := q
        refine ⟨f4.get upd_same nin0, ?_⟩
        walk_at "xs"
        refine k _ _ (f1.trans (Fr.lock ht1 f4)) (.inr (.inr ⟨nb', fun l hs => ?_, rfl⟩))
        obtain ⟨y, hy, rfl⟩ := List.mem_map.mp (tget_some.mp hs)
        obtain ⟨j, hj, rfl⟩ := List.getElem_of_mem hy
        exact q j _ (by rw [tab_len]; exact hj) (List.getElem?_eq_getElem hj)
end
end K

set_option maxRecDepth 100000
set_option maxHeartbeats 1000000
namespace K
open PySem L2 Z R

abbrev s__law_misfit : Stmt := top 23
abbrev n__law_misfit : List Str := ["rows", "order", "side", "table", "ahead", "own", "letter", "owner", "k", "key"]
theorem sc__law_misfit : FnScope n__law_misfit ["rows", "order", "side", "table"] (defScope s__law_misfit) := ⟨rfl, rfl, rfl, by decide +kernel, rfl, by decide +kernel, by decide +kernel⟩
section
variable {P : Program} {w : World} {K : PySem.W.Frag} {mg : Str → Option Value} {base : Heap} {CP CG f : Addr} {fd : FuncData}
def spLMisfit (K : PySem.W.Frag) : Sp := fun vs H Q _ => ∃ (l o t : Addr) (sd : Bool) (tab : List (Int × Nat)) (rs : List Row) (os : List (Int × Bool)), vs = [.ref l, .ref o, .str (sv sd), .ref t] ∧ LS K H l (rs.map rowD) ∧ 0 < rs.length ∧ WF rs ∧ rs.length < 1000000 ∧
  H t = some (.dK (tabD tab)) ∧ (tab.map (·.1)).Nodup ∧ tab.length < 1000 ∧ (∀ q ∈ tab, q.2 / 2 < rs.length) ∧
  LS K H o (os.map pairD) ∧ os.length < 1000 ∧ ∀ v H', Fr [] H H' → Res rs sd os (tget tab) v → Q v H'
theorem mem_snoc {ah : List Int} {l : Int} {B B' : Int → Prop} (h : ∀ x, x ∈ ah ↔ B x) (h' : ∀ x, B' x ↔ B x ∨ x = l) (x : Int) : x ∈ ah ++ [l] ↔ B' x := by
  rw [List.mem_append, List.mem_singleton, h, h']
theorem ok_lmisfit (b : Bi K mg CP CG) (h__law_reached : Has P w K mg base CX0 "_law_reached" ["rows", "edges"] 1 (spReached K)) (d : Df K mg "_law_misfit" s__law_misfit ["rows", "order", "side", "table"] f fd) : Has P w K mg base CX0 "_law_misfit" ["rows", "order", "side", "table"] 2 (spLMisfit K) := by
  refine d.has (d.F.ok sc__law_misfit (fun vs H Q E h => ?_) (fun cdv A outer s H vs Q E hr h => ?_))
  · obtain ⟨_, _, _, _, _, _, _, rfl, _⟩ := h; rfl
  · obtain ⟨l, o, t, sd, tab, rs, os, rfl, hL, hpos, wf, hrl, ht, nd, hl, hes, hO, hol, k⟩ := h
    have hu := hu_of hr
    obtain ⟨vo, hov, _⟩ := id hO
    refine ⟨_, (pss_cons (ps_set (i := 4) sc__law_misfit.nd rfl (Or.inl rfl) (pe_lst pa_nil))
 (pss_cons (ps_set (i := 5) sc__law_misfit.nd rfl (Or.inl rfl) (pe_lst pa_nil))
 (pss_cons (ps_for PassesOwn.never rfl (pi_listK K (pv 1)) (pg_tupK K (by rfl) (pgs_cons (pg_name (i := 6) sc__law_misfit.nd rfl (Or.inl rfl)) (pgs_cons (pg_name (i := 7) sc__law_misfit.nd rfl (Or.inl rfl)) pgs_nil)))
 (pss_one (ps_if (pt_cmpR op_ne (pv 7) (pv 2) (nomark _))
 (pss_one (ps_expr (pe_bmK K PySem.F.plainAttrs_list PySem.F.slot_list_append PySem.F.type_list_append mt_append (pv 4) (pa_cons (pv 6) pa_nil))))
 (pss_cons (ps_expr (pe_bmK K PySem.F.plainAttrs_list PySem.F.slot_list_append PySem.F.type_list_append mt_append (pv 5) (pa_cons (pv 6) pa_nil)))
 (pss_cons (ps_if (pt_cmp (pc_dnotin hu (pv 6) (pv 3)))
 (pss_one (ps_ret (pv 6)))
 pss_nil)
 (pss_one (ps_for PassesOwn.never rfl (pi_listK K (pe_callH h__law_reached hr (by decide) pass0 (pa_cons (pv 0) (pa_cons (pe_lst (pa_cons (pe_dget hu (pv 3) (pv 6) (fun _ _ => rfl)) pa_nil)) pa_nil)))) (pg_name (i := 8) sc__law_misfit.nd rfl (Or.inl rfl))
 (pss_one (ps_if (PW.pt (pw_and (pt_cmpR op_eq (pe_ix (ix_seqK K) (pe_ix (ix_seqK K) (pv 0) (pv 8) (fun _ _ => rfl)) pe_int (fun _ _ => rfl)) pe_str (nomark _)) (pw_and1 (pt_cmpR (op_notIn_seqK K) (pe_ix (ix_seqK K) (pe_ix (ix_seqK K) (pv 0) (pv 8) (fun _ _ => rfl)) pe_int (fun _ _ => rfl)) (pv 4) (by rfl)))))
 (pss_one (ps_ret (pv 6)))
 pss_nil)))))))))
 (pss_cons (ps_for PassesOwn.never rfl (pi_listK K (pe_callB (cSortedIK K) (by rfl) b.b_sorted (by decide +kernel) (pa_cons (pe_lock (pe_lc (own := [("key", 9)]) (g := gName 9) (by rfl) sc__law_misfit.nd (pi_keys (pv 3)) (blkOk_by (own := [("key", 9)]) (N := n__law_misfit) (sc := defScope s__law_misfit) (by decide +kernel)) (fun _ _ _ _ _ => (pg_name (i := 9) sc__law_misfit.nd rfl (Or.inl rfl))) (fun _ _ _ _ _ => by exact pts_nil) (fun _ _ _ _ _ => by exact (pv 9)))) pa_nil))) (pg_name (i := 6) sc__law_misfit.nd rfl (Or.inl rfl))
 (pss_one (ps_if (pt_cmpR (op_notIn_seqK K) (pv 6) (pv 5) (by rfl))
 (pss_one (ps_ret (pv 6)))
 pss_nil)))
 (pss_one (ps_ret pe_non)))))), ?_⟩
    walk_at "xs"
    refine lstN (by walk_at "sz") fun da hda => ?_
    have ea0 : da ≠ o := ne2 hda hov
    have et1 : da ≠ t := ne2 hda ht
    have el1 : da ≠ l := by obtain ⟨_, q, _⟩ := hL; exact ne2 hda q
    walk_at "xs"
    refine lstN (by walk_at "sz") fun dw hdw => ?_
    have e1 : dw ≠ da := ne2 hdw upd_same
    have hdw0 : H dw = none := un1 hdw
    have eo2 : dw ≠ o := ne2 hdw0 hov
    have et2 : dw ≠ t := ne2 hdw0 ht
    have f0 : Fr [] H (upd (upd H da (.lst [])) dw (.lst [])) := (Fr.new hda).mut hdw0
    clear hov
    walk_at "xs"
    refine forM (S := [da, dw]) (hO.mono f0 nin0) (nin1 ea0.symm (nin1 eo2.symm nin0)) (fun i σ H' => ∃ (ah ow : List Int) (v1 v2 v3 : Option V), σ = [some (.ref l), some (.ref o), some (.str (sv sd)), some (.ref t), some (.ref da), some (.ref dw), v1, v2, v3, none] ∧ Fr [] H H' ∧ Fr [da, dw] (upd (upd H da (.lst [])) dw (.lst [])) H' ∧ H' da = some (.lst (ah.map V.int)) ∧ H' dw = some (.lst (ow.map V.int)) ∧ ah.length ≤ i ∧ ow.length ≤ i ∧
      (∀ x, x ∈ ah ↔ Before os i (!sd) x) ∧ (∀ x, x ∈ ow ↔ Before os i sd x) ∧ ∀ j, j < i → ¬ Bad rs sd os (tget tab) j)
      ⟨[], [], none, none, none, rfl, f0, Fr.refl, by rw [upd_ne e1.symm, upd_same]; rfl, by rw [upd_same]; rfl, Nat.le_refl _, Nat.le_refl _, fun x => ⟨fun z => (by cases z), fun z => absurd z before_zero⟩, fun x => ⟨fun z => (by cases z), fun z => absurd z before_zero⟩, fun j hj => (by omega)⟩ (fun i σ' H' q => ?_) ?_ ?_
    · obtain ⟨_, _, _, _, _, rfl, _, q, _⟩ := q; exact q
    · rintro i dd x σ H' hdd hx ⟨ah, ow, v1, v2, v3, rfl, f1, f2, h1, h2, l1, l2, ma, mw, nb⟩
      obtain ⟨⟨y, sl⟩, hos, rfl⟩ : ∃ q, os[i]? = some q ∧ dd = pairD q := by
        rw [List.getElem?_map] at hdd
        cases e : os[i]? with
        | none => rw [e] at hdd; cases hdd
        | some q => rw [e] at hdd; exact ⟨q, rfl, (Option.some.inj hdd).symm⟩
      have hio := (List.getElem?_eq_some_iff.mp hos).1
      obtain ⟨T, rfl, hT⟩ := pair_at hx
      have ht1 := f1.get ht nin0
      refine x_gtup hT rfl ?_
      walk_at "xs"
      refine ifN (fun c => ?_) (fun c => ?_)
      · have c' : sl = !sd := by
          cases sl <;> cases sd
          · exact absurd rfl c
          · rfl
          · rfl
          · exact absurd rfl c
        subst c'
        walk_at "xs"
        refine s_append h1 (by rw [List.length_map]; omega) ?_
        refine ⟨ah ++ [y], ow, _, _, _, rfl, f1.mut hda, f2.mutS h1 not_fixed_lst (by simp), by rw [upd_same, List.map_append]; rfl, (upd_ne e1).trans h2, by rw [List.length_append, List.length_singleton]; omega, by omega, ?_, fun x => ?_, fun j hj => ?_⟩
        · exact mem_snoc ma fun x => by rw [before_succ hos]; exact or_congr_right ⟨fun z => z.2, fun z => ⟨rfl, z⟩⟩
        · rw [mw, before_succ hos]
          exact ⟨.inl, fun z => z.resolve_right fun z => by have := z.1; cases sd <;> cases this⟩
        · by_cases cj : j < i
          · exact nb j cj
          · have : j = i := by omega
            subst this
            rintro ⟨l', e, _⟩
            rw [hos] at e
            have := congrArg Prod.snd (Option.some.inj e)
            cases sd <;> cases this
      · have c' : sl = sd := sv_inj.mp c
        subst c'
        walk_at "xs"
        refine s_append h2 (by rw [List.length_map]; omega) ?_
        have f3 : Fr [] H (upd H' dw (.lst (ow.map V.int ++ [.int y]))) := f1.mut hdw0
        have f4 := f2.mutS (o := .lst (ow.map V.int ++ [.int y])) h2 not_fixed_lst (by simp)
        have h3 : upd H' dw (.lst (ow.map V.int ++ [.int y])) da = _ := (upd_ne e1.symm).trans h1
        have h2' : upd H' dw (.lst (ow.map V.int ++ [.int y])) dw = some (.lst ((ow ++ [y]).map V.int)) := by rw [upd_same, List.map_append]; rfl
        have mw' := mem_snoc (l := y) (B' := Before os (i + 1) sl) mw fun x => by rw [before_succ hos]; exact or_congr_right ⟨fun z => z.2, fun z => ⟨rfl, z⟩⟩
        have ma' : ∀ x, x ∈ ah ↔ Before os (i + 1) (!sl) x := fun x => by
          rw [ma, before_succ hos]
          exact ⟨.inl, fun z => z.resolve_right fun z => by have := z.1; cases sl <;> cases this⟩
        have ht3 := f3.get ht nin0
        have hL3 := hL.mono f3 nin0
        generalize upd H' dw (.lst (ow.map V.int ++ [.int y])) = H3 at *
        walk_at "xs"
        refine inI (.inl ht3) ?_
        rw [val_tab]
        cases hT1 : tget tab y with
        | none =>
          walk_at "xs"
          exact k _ _ f3 (.inl ⟨i, y, hos, ⟨y, hos, .inl hT1⟩, nb, rfl⟩)
        | some e =>
          walk_at "xs"
          refine getI (.inl ht3) (by rw [val_tab, hT1]; rfl) ?_
          walk_at "xs"
          refine lstN (by walk_at "sz") fun q hq => ?_
          have f5 : Fr [] H3 (upd H3 q (.lst [.int (e : Int)])) := Fr.new hq
          walk_at "xs"
          refine ⟨l, q, rs, [e], rfl, hL3.mono f5 nin0, hpos, wf, hrl, SqL.of upd_same, by simp, by simpa using hes _ (tget_mem hT1), fun D H4 hD f6 hD4 => ?_⟩
          have f56 := f5.trans f6
          have h4a := f56.get h3 nin0
          have hL4 := hL3.mono f56 nin0
          refine forL (xs := (cone rs [e]).map nV) (SqL.of hD4) (fun m σ H5 => ∃ v : Option V, σ = [some (.ref l), some (.ref o), some (.str (sv sl)), some (.ref t), some (.ref da), some (.ref dw), some (.int y), some (.str (sv sl)), v, none] ∧ H5 = H4 ∧ ∀ j kk x, j < m → (cone rs [e])[j]? = some kk → rs[kk]? = some (.letter x) → Before os i (!sl) x)
            ⟨v3, rfl, rfl, fun j kk x hj => (by omega)⟩ (fun m σ H5 _ q => ?_) ?_ ?_
          · obtain ⟨_, rfl, rfl, _⟩ := q; exact SqL.of hD4
          · rintro m x σ H5 hx ⟨v, rfl, rfl, q0⟩
            obtain ⟨kk, hkk, rfl⟩ : ∃ y, (cone rs [e])[m]? = some y ∧ x = nV y := by
              rw [List.getElem?_map] at hx
              cases hq : (cone rs [e])[m]? with
              | none => rw [hq] at hx; cases hx
              | some y => rw [hq] at hx; exact ⟨y, rfl, (Option.some.inj hx).symm⟩
            obtain ⟨hkl, hcn⟩ := mem_cone.mp (List.mem_of_getElem? hkk)
            have hri : rs[kk]? = some rs[kk] := List.getElem?_eq_getElem hkl
            have skip : (∀ x, rs[kk] ≠ .letter x) → ∀ j k2 x, j < m + 1 → (cone rs [e])[j]? = some k2 → rs[k2]? = some (.letter x) → Before os i (!sl) x := fun hn j k2 x hj h1 h2 => by
              by_cases cj : j < m
              · exact q0 j k2 x cj h1 h2
              · have : j = m := by omega
                subst this
                rw [hkk] at h1
                cases h1
                rw [hri] at h2
                exact absurd (Option.some.inj h2) (hn x)
            walk_at "xs"
            refine ixS hL4 (by omega) (d := rowD rs[kk]) (by rw [List.getElem?_map, Int.toNat_natCast, hri]; rfl) fun z hz => ?_
            obtain ⟨p, rfl, hp⟩ := row_at hz
            cases hq : rs[kk] with
            | no =>
              rw [hq] at hp
              have hp' : _ = some (HO.tup [V.str "no"]) := hp
              clear hp
              walk_at "xs"
              refine ifD (fun c => absurd c.symm s_ln) fun _ => ?_
              exact ⟨_, rfl, rfl, skip fun x z => by rw [hq] at z; cases z⟩
            | both a' b' =>
              rw [hq] at hp
              have hp' : _ = some (HO.tup [V.str "both", V.int (a' : Int), V.int (b' : Int)]) := hp
              clear hp
              walk_at "xs"
              refine ifD (fun c => absurd c.symm s_lb) fun _ => ?_
              exact ⟨_, rfl, rfl, skip fun x z => by rw [hq] at z; cases z⟩
            | letter x =>
              rw [hq] at hp
              have hp' : _ = some (HO.tup [V.str "letter", V.int x]) := hp
              clear hp
              walk_at "xs"
              refine ifD (fun _ => ?_) fun c => absurd rfl c
              walk_at "xs"
              refine ixS hL4 (by omega) (d := rowD rs[kk]) (by rw [List.getElem?_map, Int.toNat_natCast, hri]; rfl) fun z hz => ?_
              obtain ⟨p2, rfl, hp2⟩ := row_at hz
              rw [hq] at hp2
              have hp2' : _ = some (HO.tup [V.str "letter", V.int x]) := hp2
              clear hp2
              walk_at "xs"
              refine notIn h4a ?_
              walk_at "xs"
              refine ifN (fun c => ?_) (fun c => ?_)
              · walk_at "xs"
                refine k _ _ (f3.trans f56) (.inl ⟨i, y, hos, ⟨y, hos, .inr ⟨e, kk, x, hT1, hcn, by rw [hri, hq], fun z => c ((ma x).mpr z)⟩⟩, nb, rfl⟩)
              · refine ⟨_, rfl, rfl, fun j k2 x2 hj h1 h2 => ?_⟩
                by_cases cj : j < m
                · exact q0 j k2 x2 cj h1 h2
                · have : j = m := by omega
                  subst this
                  rw [hkk] at h1
                  cases h1
                  rw [hri, hq] at h2
                  cases h2
                  exact (ma x).mp c
          · rintro σ H5 ⟨v, rfl, rfl, q0⟩
            rw [List.length_map] at q0
            refine ⟨ah, ow ++ [y], _, _, _, rfl, f3.trans f56, f4.trans (f56.weak fun _ h => by cases h), h4a, f56.get h2' nin0, by omega, by rw [List.length_append, List.length_singleton]; omega, ma', mw', fun j hj => ?_⟩
            by_cases cj : j < i
            · exact nb j cj
            · have : j = i := by omega
              subst this
              rintro ⟨l', e', z⟩
              rw [hos] at e'
              cases e'
              rcases z with z | ⟨e2, kk, x, z1, z2, z3, z4⟩
              · rw [hT1] at z; cases z
              · rw [hT1] at z1
                cases z1
                obtain ⟨m, hm, hmx⟩ := List.getElem_of_mem (mem_cone.mpr ⟨(List.getElem?_eq_some_iff.mp z3).1, z2⟩)
                exact z4 (q0 m kk x hm (by rw [List.getElem?_eq_getElem hm, hmx]) z3)
    · rintro σ H' ⟨ah, ow, v1, v2, v3, rfl, f1, f2, h1, h2, l1, l2, ma, mw, nb⟩
      rw [List.length_map] at ma mw nb
      have nb' : ∀ j, ¬ Bad rs sd os (tget tab) j := fun j z => nb j (bad_lt z) z
      have ht1 := f1.get ht nin0
      walk_at "xs"
      refine x_lockE ht1 trivial fun od => ?_
      walk_at "xs"
      refine lcJ (K := K) (jK upd_same) (by rw [tab_len]; omega) (fun i => (tab[i]?).map fun q => PyData.int q.1) (fun i x H5 E E' hi it f5 k1 k2 => ?_) fun D H5 hD f5 ls => ?_
      · obtain ⟨kk, v, e2, rfl⟩ := it
        obtain ⟨q, hq, rfl, rfl⟩ := tab_at e2
        rw [hq] at k1
        walk_at "xs"
        exact k1 _ _ _ rfl (.int _) Fr.refl
      · have e2 : (List.range (tabD tab).length).filterMap (fun i => (tab[i]?).map fun q => PyData.int q.1) = (tab.map (·.1)).map PyData.int := by
          rw [tab_len]
          have := range_bind tab (fun q : Int × Nat => some (PyData.int q.1))
          rw [fm_map] at this
          rw [List.map_map]
          refine Eq.trans ?_ this
          congr 1
          funext i
          cases tab[i]? <;> rfl
        rw [e2] at ls
        have hD2 := ls_ints ls
        have ht3 : H5 t = some (.frz od (.dK (tabD tab))) := f5.get upd_same nin0
        have eD : D ≠ t := ne_of hD2 ht3 (by intro z; cases z)
        have f6 := Fr.lock (od := od) ht1 f5
        refine ⟨ht3, ?_⟩
        walk_at "xs"
        refine ⟨_, _, rfl, SqL.of ((upd_ne eD).trans hD2), fun ys p hp hs hn => ?_⟩
        have f7 := f6.trans (Fr.new (o := .lst (ys.map V.int)) hn)
        have h7 := f7.get h2 nin0
        have asc := lt_of_le_nodup hs (hp.nodup_iff.mpr nd)
        walk_at "xs"
        refine forL (xs := ys.map V.int) (SqL.of upd_same) (fun i σ H8 => ∃ v1 : Option V, σ = [some (.ref l), some (.ref o), some (.str (sv sd)), some (.ref t), some (.ref da), some (.ref dw), v1, v2, v3, none] ∧ H8 = upd (upd H5 t (.dK (tabD tab))) p (.lst (ys.map V.int)) ∧ ∀ j y, j < i → ys[j]? = some y → Before os os.length sd y) ⟨v1, rfl, rfl, fun j y hj => (by omega)⟩ (fun i σ H8 _ q => ?_) ?_ ?_
        · obtain ⟨_, rfl, rfl, _⟩ := q; exact SqL.of upd_same
        · rintro i x σ H8 hx ⟨v1, rfl, rfl, q⟩
          obtain ⟨y, hy, rfl⟩ := map_at hx
          walk_at "xs"
          refine notIn h7 ?_
          walk_at "xs"
          refine ifN (fun c => ?_) (fun c => ?_)
          · walk_at "xs"
            refine k _ _ (f1.trans f7) (.inr (.inl ⟨nb', y, tget_some.mpr (hp.mem_iff.mp (List.mem_of_getElem? hy)), fun z => c ((mw y).mpr z), fun l' hlt hs' => ?_, rfl⟩))
            obtain ⟨j, hj, rfl⟩ := List.getElem_of_mem (hp.mem_iff.mpr (tget_some.mp hs'))
            refine q j _ ?_ (List.getElem?_eq_getElem hj)
            by_cases cj : j < i
            · exact cj
            · exfalso
              obtain ⟨hi', hie⟩ := List.getElem?_eq_some_iff.mp hy
              by_cases e : j = i
              · subst e; rw [hie] at hlt; omega
              · have := List.pairwise_iff_getElem.mp asc i j hi' hj (by omega)
                rw [hie] at this
                omega
          · refine ⟨_, rfl, rfl, fun j y' hj hy' => ?_⟩
            by_cases cj : j < i
            · exact q j y' cj hy'
            · have : j = i := by omega
              subst this
              rw [hy] at hy'
              cases hy'
              exact (mw y).mp c
        · rintro σ H8 ⟨v1, rfl, rfl, q⟩
          rw [List.length_map] at q
          walk_at "xs"
          refine k _ _ (f1.trans f7) (.inr (.inr ⟨nb', fun y hs' => ?_, rfl⟩))
          obtain ⟨j, hj, rfl⟩ := List.getElem_of_mem (hp.mem_iff.mpr (tget_some.mp hs'))
          exact q j _ hj (List.getElem?_eq_getElem hj)
end
end K

set_option maxRecDepth 100000
set_option maxHeartbeats 1000000
namespace K
open PySem L2 Z R

abbrev s__law_fault : Stmt := top 21
abbrev n__law_fault : List Str := ["script", "source", "gates", "rows", "order", "side", "table", "own", "letter", "kind", "places", "behind", "wrong", "edge", "first", "pair", "k"]
theorem sc__law_fault : FnScope n__law_fault ["script", "source", "gates", "rows", "order", "side", "table"] (defScope s__law_fault) := ⟨rfl, rfl, rfl, by decide +kernel, rfl, by decide +kernel, by decide +kernel⟩
section
variable {P : Program} {w : World} {K : PySem.W.Frag} {mg : Str → Option Value} {base : Heap} {CP CG f : Addr} {fd : FuncData}
def spFault (CG : Addr) (K : PySem.W.Frag) : Sp := fun vs H Q _ => ∃ (a s g r kn l o t : Addr) (sd : Bool) (ns : List Int) (os : List (Int × Bool)) (rs : List Row) (tab : List (Int × Nat)), vs = [.ref a, .ref s, .ref g, .ref l, .ref o, .str (sv sd), .ref t] ∧
  SqF K H a (ns.map V.int) ∧ Src H s ∧ Two CG K H g r kn l rs ∧ WF rs ∧ rs.length < 100000 ∧ LS K H o (os.map pairD) ∧ os.length ≤ 19 ∧ H t = some (.dK (tabD tab)) ∧ (tab.map (·.1)).Nodup ∧ tab.length ≤ 100 ∧ (∀ q ∈ tab, q.2 / 2 < rs.length) ∧ (∀ x, (x, sd) ∈ os → (tget tab x).isSome = true) ∧
  s ≠ l ∧ s ≠ r ∧ s ≠ o ∧ o ≠ l ∧ o ≠ r ∧
  ∀ rs' tab' v H', Fr [s, l, r, kn, t] H H' → Src H' s → Two CG K H' g r kn l rs' → WF rs' → rs'.length ≤ rs.length + 10 → H' t = some (.dK (tabD tab')) → (tab'.map (·.1)).Nodup → tab'.length ≤ tab.length + 10 → (∀ q ∈ tab', q.2 / 2 < rs'.length) → Q v H'
theorem pair_lay (q : Int × Bool) : PyData.canLay0 (pairD q) = true ∧ PyData.depth (pairD q) ≤ 2 := by
  obtain ⟨i, b⟩ := q
  cases b <;> simp [pairD, sv, PyData.canLay0, PyData.canLayAll0, PyData.depth, PyData.depthAll] <;> decide +kernel
theorem shaped_os (os : List (Int × Bool)) : SeqAt.shaped (.list (os.map pairD)) = true := shaped_list (n := 2) (by omega) fun d hd => by
  obtain ⟨q, _, rfl⟩ := List.mem_map.mp hd
  exact pair_lay q
theorem lt_put {tab t' : List (Int × Nat)} {l : Int} {e n m : Nat} (nd : (t'.map (·.1)).Nodup) (h : ∀ x, tget t' x = if x = l then some e else tget tab x) (he : e / 2 < m) (hn : ∀ q ∈ tab, q.2 / 2 < n) (hm : n ≤ m) : ∀ q ∈ t', q.2 / 2 < m := by
  rintro ⟨x, y⟩ hq
  have h1 := mem_tget nd hq
  rw [h] at h1
  by_cases c : x = l
  · rw [if_pos c] at h1
    cases h1
    exact he
  · rw [if_neg c] at h1
    have := hn _ (tget_mem h1)
    omega
theorem ok_fault (b : Bi K mg CP CG) (h__law_take : Has P w K mg base CX0 "_law_take" ["script", "source", "size"] 1 (spTake K)) (h__law_opposite : Has P w K mg base CX0 "_law_opposite" ["edge"] 1 spOpp) (h__law_row : Has P w K mg base CX0 "_law_row" ["rows", "row"] 1 (spLRow K)) (h_Gates_leaf : HasM P w K mg base CX0 CG "leaf" ["self", "letter"] 2 (spLeaf CG K))
    (h__law_both_of : Has P w K mg base CX0 "_law_both_of" ["gates", "rows", "a", "b"] 3 (spBothOf CG K)) (d : Df K mg "_law_fault" s__law_fault ["script", "source", "gates", "rows", "order", "side", "table"] f fd) : Has P w K mg base CX0 "_law_fault" ["script", "source", "gates", "rows", "order", "side", "table"] 4 (spFault CG K) := by
  refine d.has (d.F.ok sc__law_fault (fun vs H Q E h => ?_) (fun cdv A outer s H vs Q E hr h => ?_))
  · obtain ⟨_, _, _, _, _, _, _, _, _, _, _, _, _, rfl, _⟩ := h; rfl
  · obtain ⟨a, s, g, r, kn, l, o, t, sd, ns, os, rs, tab, rfl, hs, hS, T, wf, hrl, hO, hol, ht, nd, htl, hes, hown, e1, e2, e3, e4, e5, k⟩ := h
    have hu := hu_of hr
    have cl := b.cl_Gates
    obtain ⟨a1, a2, a3, a4, a5⟩ := T.apart
    have a0 := T.ne
    obtain ⟨dx, hg⟩ := T.G.ins
    obtain ⟨kvs, hkn, _⟩ := T.G.known
    obtain ⟨xs0, hs0⟩ : ∃ xs, H s = some (.lst xs) := by obtain ⟨x, i, z, q, _⟩ := hS; exact ⟨_, q⟩
    obtain ⟨vo, hov, hoi⟩ := id hO
    have vol := hoi.len
    rw [List.length_map] at vol
    have b1 : s ≠ g := ne_of hs0 hg (by intro z; cases z)
    have b2 : s ≠ kn := ne_of hs0 hkn (by intro z; cases z)
    have b3 : s ≠ t := ne_of hs0 ht (by intro z; cases z)
    have b4 : o ≠ kn := ne_of hov hkn (by intro z; cases z)
    have b5 : o ≠ t := ne_of hov ht (by intro z; cases z)
    have b6 : t ≠ g := ne_of ht hg (by intro z; cases z)
    have b7 : t ≠ kn := ne_of ht hkn (by intro z; cases z)
    have b8 : t ≠ l := by obtain ⟨_, q, _⟩ := T.L; exact ne_of ht q (by intro z; cases z)
    have b9 : t ≠ r := by obtain ⟨_, q, _⟩ := T.G.rows; exact ne_of ht q (by intro z; cases z)
    have no : o ∉ [s, l, r, kn, t] := nin1 e3.symm (nin1 e4 (nin1 e5 (nin1 b4 (nin1 b5 nin0))))
    have item : ∀ {H' : Hp} {i : Nat} {x : V}, vo[i]? = some x → Fr [s, l, r, kn, t] H H' → ∃ q T, os[i]? = some q ∧ x = .ref T ∧ H' T = some (.tup [.int q.1, .str (sv q.2)]) := fun {H' i x} hx f => by
      obtain ⟨dd, h1, h2⟩ := hoi.get hx
      rw [List.getElem?_map] at h1
      cases hq : os[i]? with
      | none => rw [hq] at h1; cases h1
      | some q =>
        rw [hq] at h1
        cases h1
        obtain ⟨T, rfl, hT⟩ := pair_at (h2.mono f)
        exact ⟨q, T, rfl, rfl, hT⟩
    refine ⟨_, (pss_cons (ps_setLc (i := 7) (own := [("pair", 15)]) (g := gName 15) (by rfl) sc__law_fault.nd rfl rfl (sw_true rfl rfl rfl (by decide +kernel)) (pi_listK K (pv 4)) (blkOk_by (own := [("pair", 15)]) (N := n__law_fault) (sc := defScope s__law_fault) (by decide +kernel)) (fun _ _ _ _ _ => (pg_name (i := 15) sc__law_fault.nd rfl (Or.inl rfl))) (fun _ _ _ _ _ => by exact (pts_one (pt_cmpR op_eq (pe_ix (ix_seqK K) (pv 15) pe_int (fun _ _ => rfl)) (pv 5) (nomark _)))) (fun _ _ _ _ _ => by exact (pe_ix (ix_seqK K) (pv 15) pe_int (fun _ _ => rfl))))
 (pss_cut (ps_if (PW.pt (pw_and (pt_cmpR (op_neDK K hr) (pv 7) (pe_lst pa_nil) (nomark _)) (pw_and1 (pt_cmpR op_eq (pe_callH h__law_take hr (by decide) pass0 (pa_cons (pv 0) (pa_cons (pv 1) (pa_cons pe_int pa_nil)))) pe_int (nomark _)))))
 (pss_cons (ps_set (i := 8) sc__law_fault.nd rfl (Or.inr rfl) (pe_ix (ix_seqK K) (pv 7) (pe_callH h__law_take hr (by decide) pass0 (pa_cons (pv 0) (pa_cons (pv 1) (pa_cons (pe_callB (cLenK K) (by rfl) b.b_len (by decide +kernel) (pa_cons (pv 7) pa_nil)) pa_nil)))) (fun _ _ => rfl)))
 (pss_cons (ps_set (i := 9) sc__law_fault.nd rfl (Or.inl rfl) (pe_callH h__law_take hr (by decide) pass0 (pa_cons (pv 0) (pa_cons (pv 1) (pa_cons pe_int pa_nil)))))
 (pss_cons (ps_setLc (i := 10) (own := [("k", 16)]) (g := gName 16) (by rfl) sc__law_fault.nd rfl rfl (sw_true rfl rfl rfl (by decide +kernel)) (pi_range1 (by rfl) b.b_range (pa_cons (pe_callB (cLenK K) (by rfl) b.b_len (by decide +kernel) (pa_cons (pv 4) pa_nil)) pa_nil)) (blkOk_by (own := [("k", 16)]) (N := n__law_fault) (sc := defScope s__law_fault) (by decide +kernel)) (fun _ _ _ _ _ => (pg_name (i := 16) sc__law_fault.nd rfl (Or.inl rfl))) (fun _ _ _ _ _ => by exact (pts_one (pt_cmpR op_eq (pe_ix (ix_seqK K) (pe_ix (ix_seqK K) (pv 4) (pv 16) (fun _ _ => rfl)) pe_int (fun _ _ => rfl)) (pv 8) (nomark _)))) (fun _ _ _ _ _ => by exact (pv 16)))
 (pss_cons (ps_setLc (i := 11) (own := [("pair", 15)]) (g := gName 15) (by rfl) sc__law_fault.nd rfl rfl (sw_true rfl rfl rfl (by decide +kernel)) (pi_listK K (pe_slice (sl_listK K) (pv 4) (po_some (pe_op op_add (pe_ix (ix_seqK K) (pv 10) pe_int (fun _ _ => rfl)) pe_int)) po_none)) (blkOk_by (own := [("pair", 15)]) (N := n__law_fault) (sc := defScope s__law_fault) (by decide +kernel)) (fun _ _ _ _ _ => (pg_name (i := 15) sc__law_fault.nd rfl (Or.inl rfl))) (fun _ _ _ _ _ => by exact pts_nil) (fun _ _ _ _ _ => by exact (pe_ix (ix_seqK K) (pv 15) pe_int (fun _ _ => rfl))))
 (pss_cons (ps_set (i := 12) sc__law_fault.nd rfl (Or.inl rfl) (pv 8))
 (pss_cut (ps_if (pt_cmpR op_eq (pv 9) pe_int (nomark _))
 (pss_one (ps_set (i := 12) sc__law_fault.nd rfl (Or.inl rfl) (pe_ix (ix_seqK K) (pv 7) (pe_callH h__law_take hr (by decide) pass0 (pa_cons (pv 0) (pa_cons (pv 1) (pa_cons (pe_callB (cLenK K) (by rfl) b.b_len (by decide +kernel) (pa_cons (pv 7) pa_nil)) pa_nil)))) (fun _ _ => rfl))))
 pss_nil)
 (pss_cut (ps_if (PW.pt (pw_and (pt_cmpR op_eq (pv 9) pe_int (nomark _)) (pw_and1 (pt_cmpR (op_neDK K hr) (pv 11) (pe_lst pa_nil) (nomark _)))))
 (pss_one (ps_set (i := 12) sc__law_fault.nd rfl (Or.inl rfl) (pe_ix (ix_seqK K) (pv 11) (pe_callH h__law_take hr (by decide) pass0 (pa_cons (pv 0) (pa_cons (pv 1) (pa_cons (pe_callB (cLenK K) (by rfl) b.b_len (by decide +kernel) (pa_cons (pv 11) pa_nil)) pa_nil)))) (fun _ _ => rfl))))
 pss_nil)
 (pss_cut (ps_if (pt_cmpR op_eq (pv 9) pe_int (nomark _))
 (pss_one (ps_set (i := 12) sc__law_fault.nd rfl (Or.inl rfl) (pe_op op_add pe_int (pe_callH h__law_take hr (by decide) pass0 (pa_cons (pv 0) (pa_cons (pv 1) (pa_cons pe_int pa_nil)))))))
 pss_nil)
 (pss_one (ps_if (pt_cmpR op_eq (pv 9) pe_int (nomark _))
 (pss_one (ps_expr (pe_dpop1 (pv 6) (pv 8) ⟨by rfl, by rfl, by rfl, by rfl⟩)))
 (pss_cons (ps_set (i := 13) sc__law_fault.nd rfl (Or.inl rfl) (pe_callH h__law_row hr (by decide) pass0 (pa_cons (pv 3) (pa_cons (pe_tup (pa_cons pe_str (pa_cons (pv 12) pa_nil))) pa_nil))))
 (pss_cons (ps_expr (pe_methH (pv 2) b.cl_Gates h_Gates_leaf hr (by decide) pass0 (pa_cons (pv 12) pa_nil)))
 (pss_cons (ps_set (i := 14) sc__law_fault.nd rfl (Or.inl rfl) (pe_callH h__law_row hr (by decide) pass0 (pa_cons (pv 3) (pa_cons (pe_tup (pa_cons pe_str (pa_cons pe_int pa_nil))) pa_nil))))
 (pss_cons (ps_expr (pe_methH (pv 2) b.cl_Gates h_Gates_leaf hr (by decide) pass0 (pa_cons pe_int pa_nil)))
 (pss_cut (ps_if (pt_cmpR op_eq (pe_callH h__law_take hr (by decide) pass0 (pa_cons (pv 0) (pa_cons (pv 1) (pa_cons pe_int pa_nil)))) pe_int (nomark _))
 (pss_one (ps_set (i := 13) sc__law_fault.nd rfl (Or.inl rfl) (pe_callH h__law_both_of hr (by decide) pass0 (pa_cons (pv 2) (pa_cons (pv 3) (pa_cons (pe_callH h__law_opposite hr (by decide) pass0 (pa_cons (pv 13) pa_nil)) (pa_cons (pv 14) pa_nil)))))))
 pss_nil)
 (pss_one (ps_dput hu (pv 6) (pv 8) (pv 13) rfl)))))))))))))))))
 pss_nil)
 (pss_one (ps_if (pt_cmpR op_eq (pe_callH h__law_take hr (by decide) pass0 (pa_cons (pv 0) (pa_cons (pv 1) (pa_cons pe_int pa_nil)))) pe_int (nomark _))
 (pss_cons (ps_dput hu (pv 6) (pe_op op_sub pe_int (pe_callH h__law_take hr (by decide) pass0 (pa_cons (pv 0) (pa_cons (pv 1) (pa_cons pe_int pa_nil))))) pe_int rfl)
 (pss_one (ps_if (pt_cmpR (op_neDK K hr) (pv 4) (pe_lst pa_nil) (nomark _))
 (pss_one (ps_dput hu (pv 6) (pe_ix (ix_seqK K) (pe_ix (ix_seqK K) (pv 4) (pe_callH h__law_take hr (by decide) pass0 (pa_cons (pv 0) (pa_cons (pv 1) (pa_cons (pe_callB (cLenK K) (by rfl) b.b_len (by decide +kernel) (pa_cons (pv 4) pa_nil)) pa_nil)))) (fun _ _ => rfl)) pe_int (fun _ _ => rfl)) pe_int rfl))
 pss_nil)))
 pss_nil)))), ?_⟩
    walk_at "xs"
    refine lcL (SqL.of hov) (by omega) (fun i => (os[i]?).bind fun q => if decide (q.2 = sd) = true then some (PyData.int q.1) else none) (fun i x H' E E' hx f2 k1 k2 => ?_) fun ow H1 how f1 ls => ?_
    · obtain ⟨q, T, hq, rfl, hT⟩ := item hx f2.of0
      rw [hq] at k1 k2
      walk_at "xs"
      refine ifD (fun c => ?_) (fun c => ?_)
      · have c' := sv_inj.mp c
        walk_at "xs"
        exact k1 _ _ _ (by show (if decide (q.2 = sd) = true then _ else _) = _; rw [if_pos (by simpa using c')]) (.int _) Fr.refl
      · exact k2 _ (by show (if decide (q.2 = sd) = true then _ else _) = _; rw [if_neg (fun z => c (by rw [of_decide_eq_true z]))]) Fr.refl
    · rw [vol, range_bind os, fm_filter (fun q : Int × Bool => decide (q.2 = sd)) (fun q => PyData.int q.1)] at ls
      have e0 : (os.filter fun q => decide (q.2 = sd)).map (fun q => PyData.int q.1) = ((os.filter fun q => decide (q.2 = sd)).map (·.1)).map PyData.int := by rw [List.map_map]; rfl
      rw [e0] at ls
      have h1w := ls_ints ls
      have mow : ∀ x, x ∈ (os.filter fun q => decide (q.2 = sd)).map (·.1) → (x, sd) ∈ os := fun x hx => by
        obtain ⟨q, hq, rfl⟩ := List.mem_map.mp hx
        obtain ⟨h1, h2⟩ := List.mem_filter.mp hq
        have := of_decide_eq_true h2
        rw [← this]; exact h1
      have lowl : ((os.filter fun q => decide (q.2 = sd)).map (·.1)).length ≤ 19 := by rw [List.length_map]; have := List.length_filter_le (fun q => decide (q.2 = sd)) os; omega
      generalize hws : (os.filter fun q => decide (q.2 = sd)).map (·.1) = ws at h1w mow lowl
      clear ls e0
      have ns1 : ow ≠ s := ne2 how hs0
      have S1 := hS.mono f1 nin0
      have T1 := T.mono f1 nin0 nin0 nin0 nin0
      walk_at "xs"
      refine x_cut (fun σ H' => ∃ (rs' : List Row) (tab' : List (Int × Nat)) (v8 v9 v10 v11 v12 v13 v14 v15 v16 : Option V), σ = [some (.ref a), some (.ref s), some (.ref g), some (.ref l), some (.ref o), some (.str (sv sd)), some (.ref t), some (.ref ow), v8, v9, v10, v11, v12, v13, v14, v15, v16] ∧ Fr [s, l, r, kn, t] H H' ∧ Src H' s ∧ Two CG K H' g r kn l rs' ∧ WF rs' ∧ rs'.length ≤ rs.length + 5 ∧ H' t = some (.dK (tabD tab')) ∧ (tab'.map (·.1)).Nodup ∧ tab'.length ≤ tab.length + 5 ∧ (∀ q ∈ tab', q.2 / 2 < rs'.length)) ?_ ?_
      · walk_at "xs"
        refine lstN (by walk_at "sz") fun z hz => ?_
        have fz : Fr [] H1 (upd H1 z (.lst [])) := Fr.new hz
        refine neNil (ints_ls (fz.get h1w nin0)) upd_same (shaped_ints ws) ?_
        have f2 := f1.trans fz
        have h2w := fz.get h1w nin0
        have S2 := S1.mono fz nin0
        have T2 := T1.mono fz nin0 nin0 nin0 nin0
        have ht2 := f2.get ht nin0
        have fin0 : ∀ {H3 : Hp}, Fr [s] H H3 → Src H3 s → (∃ (rs' : List Row) (tab' : List (Int × Nat)) (v8 v9 v10 v11 v12 v13 v14 v15 v16 : Option V), [some (.ref a), some (.ref s), some (.ref g), some (.ref l), some (.ref o), some (.str (sv sd)), some (.ref t), some (.ref ow), none, none, none, none, none, none, none, none, none] = [some (.ref a), some (.ref s), some (.ref g), some (.ref l), some (.ref o), some (.str (sv sd)), some (.ref t), some (.ref ow), v8, v9, v10, v11, v12, v13, v14, v15, v16] ∧ Fr [s, l, r, kn, t] H H3 ∧ Src H3 s ∧ Two CG K H3 g r kn l rs' ∧ WF rs' ∧ rs'.length ≤ rs.length + 5 ∧ H3 t = some (.dK (tabD tab')) ∧ (tab'.map (·.1)).Nodup ∧ tab'.length ≤ tab.length + 5 ∧ (∀ q ∈ tab', q.2 / 2 < rs'.length)) := fun {H3} f S =>
          ⟨rs, tab, none, none, none, none, none, none, none, none, none, rfl, f.weak fun z h => by simp at h; simp [h], S, T.mono f (nin1 b1.symm nin0) (nin1 e2.symm nin0) (nin1 b2.symm nin0) (nin1 e1.symm nin0), wf, by omega, f.get ht (nin1 b3.symm nin0), nd, by omega, hes⟩
        have nz : z ≠ s := ne2 hz (f1.get hs0 nin0)
        generalize upd H1 z (.lst []) = H2 at *
        walk_at "xs"
        refine ifB (fun c0 => ?_) (fun _ => ?_)
        · have wp : 0 < ws.length := by cases ws with | nil => cases c0 | cons x l => simp
          walk_at "xs"
          refine ⟨a, s, 2, ns, rfl, hs.mono f2, S2, by omega, by omega, fun d1 H3 d10 d11 f3 S3 => ?_⟩
          have f23 : Fr [s] H H3 := f2.of0.trans f3
          walk_at "xs"
          refine ifD (fun _ => ?_) (fun _ => ?_)
          · have h3w := f3.get h2w (nin1 ns1 nin0)
            walk_at "xs"
            refine ⟨a, s, _, ns, rfl, hs.mono f23, S3, by rw [List.length_map]; omega, by rw [List.length_map]; omega, fun d2 H4 d20 d21 f4 S4 => ?_⟩
            rw [List.length_map] at d21
            have hi : d2.toNat < ws.length := by omega
            have f24 := f23.trans f4
            have h4w := f4.get h3w (nin1 ns1 nin0)
            walk_at "xs"
            refine ixM h4w (at_int d20 (by rw [List.getElem?_map, List.getElem?_eq_getElem hi]; rfl)) ?_
            have hxo := mow _ (List.getElem_mem hi)
            generalize ws[d2.toNat] = x at hxo
            walk_at "xs"
            refine ⟨a, s, 5, ns, rfl, hs.mono f24, S4, by omega, by omega, fun kd H5 kd0 kd1 f5 S5 => ?_⟩
            have f25 := f24.trans f5
            have h5w := f5.get h4w (nin1 ns1 nin0)
            have no5 : o ∉ [s] := nin1 e3.symm nin0
            have hov5 := f25.get hov no5
            walk_at "xs"
            refine ⟨_, rfl, by omega, by omega, lcJ (K := K) (n := vo.length) (jR 0 _) (by omega) (fun i => if (os[i]?).any (fun q => decide (q.1 = x)) = true then some (PyData.int (i : Int)) else none) (fun i y H' E E' hi hx f6 k1 k2 => ?_) fun pl H6 hpl f6 ls => ?_⟩
            · subst hx
              have hov' := f6.get hov5 nin0
              have hvi : vo[i]? = some vo[i] := List.getElem?_eq_getElem hi
              obtain ⟨q, T, hq, hT0, hT⟩ := item hvi ((f25.weak fun z h => by simp at h; simp [h]).trans f6.of0)
              rw [hq] at k1 k2
              rw [Int.zero_add]
              walk_at "xs"
              refine ixM hov' (at_int (by omega) (by rw [Int.toNat_natCast, hvi])) ?_
              rw [hT0]
              walk_at "xs"
              refine ifD (fun c => ?_) (fun c => ?_)
              · walk_at "xs"
                exact k1 _ _ _ (by show (if decide (q.1 = x) = true then _ else _) = _; rw [if_pos (by simpa using c)]) (.int _) Fr.refl
              · exact k2 _ (by show (if decide (q.1 = x) = true then _ else _) = _; rw [if_neg (fun z => c (of_decide_eq_true z))]) Fr.refl
            · rw [fm_filter (fun i : Nat => (os[i]?).any fun q => decide (q.1 = x)) (fun i : Nat => PyData.int (i : Int))] at ls
              obtain ⟨ps, hps⟩ : ∃ ps, ps = (List.range vo.length).filter fun i : Nat => (os[i]?).any fun q => decide (q.1 = x) := ⟨_, rfl⟩
              rw [← hps] at ls
              have e0 : ps.map (fun i : Nat => PyData.int (i : Int)) = (ps.map fun n : Nat => (n : Int)).map PyData.int := by rw [List.map_map]; rfl
              rw [e0] at ls
              have hps2 := ls_ints ls
              obtain ⟨j, hj, hje⟩ := List.getElem_of_mem hxo
              have hjm : j ∈ ps := by
                rw [hps, List.mem_filter, List.mem_range]
                refine ⟨by omega, ?_⟩
                rw [List.getElem?_eq_getElem hj, hje]
                simp
              obtain ⟨p0, pr, hpe⟩ : ∃ p0 pr, ps = p0 :: pr := by
                cases ps with
                | nil => cases hjm
                | cons p0 pr => exact ⟨p0, pr, rfl⟩
              have hp0 : p0 < vo.length := by
                have : p0 ∈ ps := by rw [hpe]; exact List.mem_cons_self
                rw [hps, List.mem_filter, List.mem_range] at this
                exact this.1
              have hps3 : H6 pl = some (.lst (V.int (p0 : Int) :: pr.map nV)) := by rw [hps2, hpe, List.map_cons, List.map_cons, List.map_map]; rfl
              clear hps2
              have f26 := f25.trans f6.of0
              have S6 := S5.mono f6 nin0
              have hov6 := f6.get hov5 nin0
              have h6w := f6.get h5w nin0
              walk_at "xs"
              refine slL (SqL.of hov6) (by omega) (by omega) fun sl hsl => ?_
              have f7 : Fr [] H6 (upd H6 sl (.lst (vo.drop ((p0 : Int) + 1).toNat))) := Fr.new hsl
              have f27 := f26.trans f7.of0
              have S7 := S6.mono f7 nin0
              have h7w := f7.get h6w nin0
              have h7s : upd H6 sl (.lst (vo.drop ((p0 : Int) + 1).toNat)) sl = _ := upd_same
              generalize upd H6 sl (.lst (vo.drop ((p0 : Int) + 1).toNat)) = H7 at *
              refine lcL (SqL.of h7s) (by rw [List.length_drop]; omega) (fun i => (os[((p0 : Int) + 1).toNat + i]?).map fun q => PyData.int q.1) (fun i y H' E E' hx f8 k1 k2 => ?_) fun bh H8 hbh f8 ls2 => ?_
              · rw [List.getElem?_drop] at hx
                obtain ⟨q, T, hq, rfl, hT⟩ := item hx ((f27.weak fun z h => by simp at h; simp [h]).trans f8.of0)
                rw [hq] at k1
                walk_at "xs"
                exact k1 _ _ _ rfl (.int _) Fr.refl
              · obtain ⟨bs, hbs⟩ : ∃ bs : List Int, (List.range (vo.drop ((p0 : Int) + 1).toNat).length).filterMap (fun i => (os[((p0 : Int) + 1).toNat + i]?).map fun q => PyData.int q.1) = bs.map PyData.int := by
                  refine ⟨(List.range (vo.drop ((p0 : Int) + 1).toNat).length).filterMap (fun i => (os[((p0 : Int) + 1).toNat + i]?).map fun q => q.1), ?_⟩
                  rw [List.map_filterMap]
                  congr 1
                  funext i
                  cases os[((p0 : Int) + 1).toNat + i]? <;> rfl
                have bsl : bs.length ≤ 19 := by
                  have e := congrArg List.length hbs
                  rw [List.length_map] at e
                  have := List.length_filterMap_le (fun i => (os[((p0 : Int) + 1).toNat + i]?).map fun q => PyData.int q.1) (List.range (vo.drop ((p0 : Int) + 1).toNat).length)
                  rw [List.length_range] at this
                  have h9 := List.length_drop (i := ((p0 : Int) + 1).toNat) (l := vo)
                  omega
                rw [hbs] at ls2
                have h8b := ls_ints ls2
                have f28 := f27.trans f8.of0
                have S8 := S7.mono f8 nin0
                have h8w := f8.get h7w nin0
                have h8s0 : ∃ xs, H8 s = some (.lst xs) := by obtain ⟨x, i, z, q, _⟩ := S8; exact ⟨_, q⟩
                have nb : bh ≠ s := by
                  obtain ⟨xs, h8s⟩ := h8s0
                  intro z
                  subst z
                  have S7' := S7
                  obtain ⟨x, i, z, q, _⟩ := S7'
                  rw [q] at hbh; cases hbh
                walk_at "xs"
                refine x_cut (fun σ H' => ∃ wr : Int, σ = [some (.ref a), some (.ref s), some (.ref g), some (.ref l), some (.ref o), some (.str (sv sd)), some (.ref t), some (.ref ow), some (.int x), some (.int kd), some (.ref pl), some (.ref bh), some (.int wr), none, none, none, none] ∧ Fr [s] H8 H' ∧ Src H' s) ?_ ?_
                · walk_at "xs"
                  refine ifD (fun _ => ?_) (fun _ => ?_)
                  · walk_at "xs"
                    refine ⟨a, s, _, ns, rfl, hs.mono f28, S8, by rw [List.length_map]; omega, by rw [List.length_map]; omega, fun d3 H9 d30 d31 f9 S9 => ?_⟩
                    rw [List.length_map] at d31
                    have hi3 : d3.toNat < ws.length := by omega
                    refine ixM (f9.get h8w (nin1 ns1 nin0)) (at_int d30 (by rw [List.getElem?_map, List.getElem?_eq_getElem hi3]; rfl)) ?_
                    walk_at "xs"
                    exact ⟨_, rfl, f9, S9⟩
                  · exact ⟨_, rfl, Fr.refl, S8⟩
                · rintro σ H9 ⟨wr, rfl, f9, S9⟩
                  walk_at "xs"
                  refine x_cut (fun σ H' => ∃ wr : Int, σ = [some (.ref a), some (.ref s), some (.ref g), some (.ref l), some (.ref o), some (.str (sv sd)), some (.ref t), some (.ref ow), some (.int x), some (.int kd), some (.ref pl), some (.ref bh), some (.int wr), none, none, none, none] ∧ Fr [s] H8 H' ∧ Src H' s) ?_ ?_
                  · walk_at "xs"
                    refine ifD (fun _ => ?_) (fun _ => ?_)
                    · walk_at "xs"
                      refine lstN (by walk_at "sz") fun z hz => ?_
                      have fz : Fr [] H9 (upd H9 z (.lst [])) := Fr.new hz
                      have h9b := f9.get h8b (nin1 nb nin0)
                      refine neNil (ints_ls (fz.get h9b nin0)) upd_same (shaped_ints bs) ?_
                      have f9z := f9.trans fz.of0
                      have S9z := S9.mono fz nin0
                      have hzb := fz.get h9b nin0
                      generalize upd H9 z (.lst []) = Hz at *
                      walk_at "xs"
                      refine ifB (fun c0 => ?_) (fun _ => ?_)
                      · have bp : 0 < bs.length := by cases bs with | nil => cases c0 | cons x l => simp
                        walk_at "xs"
                        refine ⟨a, s, _, ns, rfl, (hs.mono f28).mono f9z, S9z, by rw [List.length_map]; omega, by rw [List.length_map]; omega, fun d3 Hy d30 d31 fy Sy => ?_⟩
                        rw [List.length_map] at d31
                        have hi3 : d3.toNat < bs.length := by omega
                        refine ixM (fy.get hzb (nin1 nb nin0)) (at_int d30 (by rw [List.getElem?_map, List.getElem?_eq_getElem hi3]; rfl)) ?_
                        walk_at "xs"
                        exact ⟨_, rfl, f9z.trans fy, Sy⟩
                      · exact ⟨_, rfl, f9z, S9z⟩
                    · exact ⟨_, rfl, f9, S9⟩
                  · clear f9 S9
                    rintro σ H9 ⟨wr, rfl, f9, S9⟩
                    walk_at "xs"
                    refine x_cut (fun σ H' => ∃ wr : Int, σ = [some (.ref a), some (.ref s), some (.ref g), some (.ref l), some (.ref o), some (.str (sv sd)), some (.ref t), some (.ref ow), some (.int x), some (.int kd), some (.ref pl), some (.ref bh), some (.int wr), none, none, none, none] ∧ Fr [s] H8 H' ∧ Src H' s) ?_ ?_
                    · walk_at "xs"
                      refine ifD (fun _ => ?_) (fun _ => ?_)
                      · walk_at "xs"
                        refine ⟨a, s, 3, ns, rfl, (hs.mono f28).mono f9, S9, by omega, by omega, fun d3 Hy d30 d31 fy Sy => ?_⟩
                        walk_at "xs"
                        exact ⟨_, rfl, f9.trans fy, Sy⟩
                      · exact ⟨_, rfl, f9, S9⟩
                    · clear f9 S9
                      rintro σ H9 ⟨wr, rfl, f9, S9⟩
                      have f29 := f28.trans f9
                      have T9 := T.mono f29 (nin1 b1.symm nin0) (nin1 e2.symm nin0) (nin1 b2.symm nin0) (nin1 e1.symm nin0)
                      have ht9 := f29.get ht (nin1 b3.symm nin0)
                      have f29' : Fr [s, l, r, kn, t] H H9 := f29.weak fun z h => by simp at h; simp [h]
                      walk_at "xs"
                      refine ifD (fun _ => ?_) (fun _ => ?_)
                      · obtain ⟨e0, he0⟩ := Option.isSome_iff_exists.mp (hown x hxo)
                        obtain ⟨t', q1, q2, q3, q4⟩ := tab_drop nd x
                        walk_at "xs"
                        refine popI ht9 (by rw [val_tab, he0]; rfl) ?_
                        rw [q1]
                        have ft : Fr [t] H9 (upd H9 t (.dK (tabD t'))) := Fr.wr ht9 not_fixed_dK (by simp)
                        exact ⟨rs, t', _, _, _, _, _, _, _, _, _, rfl, f29'.trans (ft.weak fun z h => by simp at h; simp [h]), S9.mono ft (nin1 b3 nin0), T9.mono ft (nin1 b6.symm nin0) (nin1 b9.symm nin0) (nin1 b7.symm nin0) (nin1 b8.symm nin0), wf, by omega, upd_same, q2, by omega, fun q hq => hes q (q4 q.1 q.2 hq)⟩
                      · walk_at "xs"
                        refine tupN (by walk_at "sz") fun t1 ht1 => ?_
                        have ft1 : Fr [] H9 (upd H9 t1 (.tup [.str "letter", .int wr])) := Fr.new ht1
                        have T10 := T9.mono ft1 nin0 nin0 nin0 nin0
                        walk_at "xs"
                        refine ⟨l, _, rs, .letter wr, rfl, T10.L, at_row upd_same, by omega, fun H10 f10 L10 => ?_⟩
                        have G10 := T10.G.mono f10 (nin1 a1.symm nin0) (nin1 a0.symm nin0) (nin1 a2.symm nin0)
                        obtain ⟨dx2, hg2⟩ := G10.ins
                        walk_at "xs"
                        refine methA hg2 (by rfl) ?_
                        walk_at "xs"
                        refine ⟨g, r, kn, wr, rs, rfl, G10, by omega, fun H11 f11 G11 => ?_⟩
                        have T11 : Two CG K H11 g r kn l (addRow rs (.letter wr)) := ⟨G11, L10.mono f11 (nin1 a0 (nin1 a2 nin0)), a0⟩
                        have fA : Fr [l, r, kn] H9 H11 := ft1.of0.trans ((f10.weak fun z h => by simp at h; simp [h]).trans (f11.weak fun z h => List.mem_cons_of_mem _ h))
                        have lA := len_addRow rs (.letter wr)
                        have pA := pre_addRow rs (.letter wr)
                        have wfA := wf_letter wf wr
                        have okA : edgeOf rs (.letter wr) / 2 < (addRow rs (.letter wr)).length := by rw [edge_half]; exact lt_idx
                        generalize edgeOf rs (.letter wr) = eA at *
                        generalize addRow rs (.letter wr) = rsA at *
                        clear hg2 G10 G11 L10 T10
                        walk_at "xs"
                        refine tupN (by walk_at "sz") fun t2 ht2 => ?_
                        have ft2 : Fr [] H11 (upd H11 t2 (.tup [.str "letter", .int 600])) := Fr.new ht2
                        have T12 := T11.mono ft2 nin0 nin0 nin0 nin0
                        walk_at "xs"
                        refine ⟨l, _, rsA, .letter 600, rfl, T12.L, at_row upd_same, by omega, fun H12 f12 L12 => ?_⟩
                        have G12 := T12.G.mono f12 (nin1 a1.symm nin0) (nin1 a0.symm nin0) (nin1 a2.symm nin0)
                        obtain ⟨dx3, hg3⟩ := G12.ins
                        walk_at "xs"
                        refine methA hg3 (by rfl) ?_
                        walk_at "xs"
                        refine ⟨g, r, kn, 600, rsA, rfl, G12, by omega, fun H13 f13 G13 => ?_⟩
                        have T13 : Two CG K H13 g r kn l (addRow rsA (.letter 600)) := ⟨G13, L12.mono f13 (nin1 a0 (nin1 a2 nin0)), a0⟩
                        have fB : Fr [l, r, kn] H9 H13 := (fA.trans ft2.of0).trans ((f12.weak fun z h => by simp at h; simp [h]).trans (f13.weak fun z h => List.mem_cons_of_mem _ h))
                        have lB := len_addRow rsA (.letter 600)
                        have lB2 := le_addRow rsA (.letter 600)
                        have wfB := wf_letter wfA 600
                        have okB : edgeOf rsA (.letter 600) / 2 < (addRow rsA (.letter 600)).length := by rw [edge_half]; exact lt_idx
                        generalize edgeOf rsA (.letter 600) = eB at *
                        have lAr := pA.length_le
                        generalize addRow rsA (.letter 600) = rsB at *
                        clear hg3 G12 G13 L12 T12
                        have fC : Fr [s, l, r, kn, t] H H13 := f29'.trans (fB.weak fun z h => by simp at h; simp [h]; rcases h with h | h | h <;> simp [h])
                        have S13 := S9.mono fB (nin1 e1 (nin1 e2 (nin1 b2 nin0)))
                        have ht13 := fB.get ht9 (nin1 b8 (nin1 b9 (nin1 b7 nin0)))
                        walk_at "xs"
                        refine x_cut (fun σ H' => ∃ (e : Nat) (rs' : List Row), σ = [some (.ref a), some (.ref s), some (.ref g), some (.ref l), some (.ref o), some (.str (sv sd)), some (.ref t), some (.ref ow), some (.int x), some (.int kd), some (.ref pl), some (.ref bh), some (.int wr), some (.int (e : Int)), some (.int (eB : Int)), none, none] ∧ Fr [s, l, r, kn] H13 H' ∧ Src H' s ∧ Two CG K H' g r kn l rs' ∧ WF rs' ∧ rs'.length ≤ rsB.length + 1 ∧ rsB.length ≤ rs'.length ∧ e / 2 < rs'.length) ?_ ?_
                        · walk_at "xs"
                          refine ⟨a, s, 2, ns, rfl, hs.mono fC, S13, by omega, by omega, fun d4 H14 d40 d41 f14 S14 => ?_⟩
                          have T14 := T13.mono f14 (nin1 b1.symm nin0) (nin1 e2.symm nin0) (nin1 b2.symm nin0) (nin1 e1.symm nin0)
                          walk_at "xs"
                          refine ifD (fun _ => ?_) (fun _ => ?_)
                          · walk_at "xs"
                            refine ⟨_, rfl, ?_⟩
                            walk_at "xs"
                            refine ⟨g, r, kn, l, opp eA, eB, rsB, rfl, T14, by omega, fun H15 f15 T15 => ?_⟩
                            have ho : opp eA / 2 < rsB.length := by rw [opp_half]; omega
                            exact ⟨_, _, rfl, (f14.weak fun z h => by simp at h; simp [h]).trans (f15.weak fun z h => List.mem_cons_of_mem _ h), S14.mono f15 (nin1 e1 (nin1 e2 (nin1 b2 nin0))), T15, both_wf wfB ho okB, both_len _ _ _, (both_pre _ _ _).length_le, both_lt (by omega) ho okB⟩
                          · exact ⟨eA, rsB, rfl, f14.weak fun z h => by simp at h; simp [h], S14, T14, wfB, by omega, Nat.le_refl _, by omega⟩
                        · rintro σ H14 ⟨e, rs', rfl, f14, S14, T14, wf14, l14, l14', oke⟩
                          have ht14 := f14.get ht13 (nin1 b3.symm (nin1 b8 (nin1 b9 (nin1 b7 nin0))))
                          walk_at "xs"
                          obtain ⟨t', q1, q2, q3, q4⟩ := tab_put nd x e
                          refine putI ht14 (by rw [tab_len, sizeLine_eq]; omega) ?_
                          rw [q1]
                          have ft : Fr [t] H14 (upd H14 t (.dK (tabD t'))) := Fr.wr ht14 not_fixed_dK (by simp)
                          have f15 : Fr [s, l, r, kn, t] H H14 := fC.trans (f14.weak fun z h => by simp at h; rcases h with h | h | h | h <;> simp [h])
                          exact ⟨rs', t', _, _, _, _, _, _, _, _, _, rfl, f15.trans (ft.weak fun z h => by simp at h; simp [h]), S14.mono ft (nin1 b3 nin0), T14.mono ft (nin1 b6.symm nin0) (nin1 b9.symm nin0) (nin1 b7.symm nin0) (nin1 b8.symm nin0), wf14, by omega, upd_same, q2, by omega, lt_put q2 q4 oke hes (by omega)⟩
          · exact fin0 f23 S3
        · exact fin0 f2.of0 S2
      · rintro σ H2 ⟨rs', tab', v8, v9, v10, v11, v12, v13, v14, v15, v16, rfl, f2, S2, T2, wf2, l2, ht2, nd2, tl2, hes2⟩
        walk_at "xs"
        refine ⟨a, s, 4, ns, rfl, hs.mono f2, S2, by omega, by omega, fun d1 H3 d10 d11 f3 S3 => ?_⟩
        have f23 := f2.trans (f3.weak fun z h => by simp at h; simp [h])
        have T3 := T2.mono f3 (nin1 b1.symm nin0) (nin1 e2.symm nin0) (nin1 b2.symm nin0) (nin1 e1.symm nin0)
        have ht3 := f3.get ht2 (nin1 b3.symm nin0)
        walk_at "xs"
        refine ifD (fun _ => ?_) (fun _ => ?_)
        · walk_at "xs"
          refine ⟨a, s, 3, ns, rfl, hs.mono f23, S3, by omega, by omega, fun d2 H4 d20 d21 f4 S4 => ?_⟩
          have f24 := f23.trans (f4.weak fun z h => by simp at h; simp [h])
          have T4 := T3.mono f4 (nin1 b1.symm nin0) (nin1 e2.symm nin0) (nin1 b2.symm nin0) (nin1 e1.symm nin0)
          have ht4 := f4.get ht3 (nin1 b3.symm nin0)
          walk_at "xs"
          have put : ∀ (H : Hp) (l : Int) (e : Nat) (tab : List (Int × Nat)) (Pq : Hp → Prop), H t = some (.dK (tabD tab)) → (tab.map (·.1)).Nodup → tab.length ≤ 1000 → (∀ t', (t'.map (·.1)).Nodup → t'.length ≤ tab.length + 1 → (∀ x, tget t' x = if x = l then some e else tget tab x) → Pq (upd H t (.dK (tabD t')))) → putQ (.ref t) (.int l) (nV e) H Pq := fun H l e tab Pq h1 h2 h3 h4 => by
            obtain ⟨t', q1, q2, q3, q4⟩ := tab_put h2 l e
            refine putI h1 (by rw [tab_len, sizeLine_eq]; omega) ?_
            rw [q1]
            exact h4 t' q2 q3 q4
          refine put H4 _ 1 tab' _ ht4 nd2 (by omega) fun t1 q1 q2 q3 => ?_
          have hes1 := lt_put (e := 1) (m := rs'.length) q1 q3 (by have := T4.G.pos; omega) hes2 (Nat.le_refl _)
          have ft : Fr [t] H4 (upd H4 t (.dK (tabD t1))) := Fr.wr ht4 not_fixed_dK (by simp)
          have f25 := f24.trans (ft.weak fun z h => by simp at h; simp [h])
          have S5 := S4.mono ft (nin1 b3 nin0)
          have T5 := T4.mono ft (nin1 b6.symm nin0) (nin1 b9.symm nin0) (nin1 b7.symm nin0) (nin1 b8.symm nin0)
          have hO5 := hO.mono f25 no
          have ht5 : upd H4 t (.dK (tabD t1)) t = _ := upd_same
          generalize upd H4 t (.dK (tabD t1)) = H5 at *
          walk_at "xs"
          refine lstN (by walk_at "sz") fun z hz => ?_
          have fz : Fr [] H5 (upd H5 z (.lst [])) := Fr.new hz
          refine neNil (hO5.mono fz nin0) upd_same (shaped_os os) ?_
          have f26 := f25.trans fz.of0
          have S6 := S5.mono fz nin0
          have T6 := T5.mono fz nin0 nin0 nin0 nin0
          have ht6 := fz.get ht5 nin0
          have hO6 := hO5.mono fz nin0
          generalize upd H5 z (.lst []) = H6 at *
          walk_at "xs"
          refine ifB (fun c => ?_) (fun c => ?_)
          · have lp : 0 < os.length := by cases os with | nil => cases c | cons x l => simp
            walk_at "xs"
            refine ⟨a, s, _, ns, rfl, hs.mono f26, S6, by omega, by omega, fun d3 H7 d30 d31 f7 S7 => ?_⟩
            have f27 := f26.trans (f7.weak fun z h => by simp at h; simp [h])
            have T7 := T6.mono f7 (nin1 b1.symm nin0) (nin1 e2.symm nin0) (nin1 b2.symm nin0) (nin1 e1.symm nin0)
            have ht7 := f7.get ht6 (nin1 b3.symm nin0)
            have hO7 := hO6.mono f7 (nin1 e3.symm nin0)
            have hi : d3.toNat < os.length := by omega
            walk_at "xs"
            refine ixS hO7 d30 (d := pairD os[d3.toNat]) (by rw [List.getElem?_map, List.getElem?_eq_getElem hi]; rfl) fun y hy => ?_
            obtain ⟨Tp, rfl, hT⟩ := pair_at hy
            walk_at "xs"
            refine put H7 _ 0 t1 _ ht7 q1 (by omega) fun t2 q1 q2 q3 => ?_
            have ft : Fr [t] H7 (upd H7 t (.dK (tabD t2))) := Fr.wr ht7 not_fixed_dK (by simp)
            exact k rs' t2 _ _ (f27.trans (ft.weak fun z h => by simp at h; simp [h])) (S7.mono ft (nin1 b3 nin0)) (T7.mono ft (nin1 b6.symm nin0) (nin1 b9.symm nin0) (nin1 b7.symm nin0) (nin1 b8.symm nin0)) wf2 (by omega) upd_same q1 (by omega)
              (lt_put (e := 0) (m := rs'.length) q1 q3 (by have := T4.G.pos; omega) hes1 (Nat.le_refl _))
          · walk_at "xs"
            exact k rs' t1 _ _ f26 S6 T6 wf2 (by omega) ht6 q1 (by omega) hes1
        · walk_at "xs"
          exact k rs' tab' _ H3 f23 S3 T3 wf2 (by omega) ht3 nd2 (by omega) hes2
end
end K

set_option maxRecDepth 100000
set_option maxHeartbeats 1000000
namespace K
open PySem L2 Z R
section
variable {K : PySem.W.Frag} {CP CG : Addr}
/-! ### what is given, by letter -/
def gD (gs : List (Int × Bool)) : List (Key × V) := gs.map fun p => ((Sum.inl p.1 : Key), V.bl p.2)
def gget (gs : List (Int × Bool)) (l : Int) : Option Bool := (gs.find? fun p => decide (p.1 = l)).map (·.2)
theorem val_g (gs : List (Int × Bool)) (l : Int) : valV (gD gs) (Sum.inl l) = (gget gs l).map V.bl := by
  induction gs with
  | nil => rfl
  | cons p r ih =>
    by_cases h : p.1 = l
    · simp [gD, valV, gget, h]
    · have e1 : ¬ ((Sum.inl p.1 : Key) = Sum.inl l) := fun z => h (Sum.inl.inj z)
      have := ih
      simp only [gD, valV, gget] at this ⊢
      simp [List.find?_cons, h, e1] at this ⊢
      exact this
theorem g_len (gs : List (Int × Bool)) : (gD gs).length = gs.length := by unfold gD; rw [List.length_map]
theorem obl_inj {a b : Option Bool} (h : a.map V.bl = b.map V.bl) : a = b := by
  cases a with
  | none => cases b with
    | none => rfl
    | some y => cases h
  | some x => cases b with
    | none => cases h
    | some y => have := Option.some.inj h; cases this; rfl
theorem g_put (gs : List (Int × Bool)) (l : Int) (e : Bool) : ∃ t', putK (gD gs) (Sum.inl l) (V.bl e) = gD t' ∧ t'.length ≤ gs.length + 1 ∧ ∀ x, gget t' x = if x = l then some e else gget gs x := by
  have fin : ∀ t', putK (gD gs) (Sum.inl l) (V.bl e) = gD t' → ∀ x, gget t' x = if x = l then some e else gget gs x := fun t' h x => by
    apply obl_inj
    rw [← val_g, ← h, valV_put]
    by_cases c : x = l
    · subst c; rw [if_pos rfl, if_pos rfl]; rfl
    · rw [if_neg (fun z => c (Sum.inl.inj z)), if_neg c, val_g]
  by_cases c : (gget gs l).isSome = true
  · have e1 : putK (gD gs) (Sum.inl l) (V.bl e) = gD (gs.map fun p => if p.1 = l then (p.1, e) else p) := by
      unfold putK
      rw [if_pos (by rw [valV_any, val_g, Option.isSome_map]; exact c)]
      unfold gD
      rw [List.map_map, List.map_map]
      apply List.map_congr_left
      intro p _
      simp only [Function.comp]
      by_cases h : p.1 = l
      · rw [if_pos h, if_pos (by rw [h])]
      · rw [if_neg h, if_neg (fun z => h (Sum.inl.inj z))]
    exact ⟨_, e1, by rw [List.length_map]; omega, fin _ e1⟩
  · have e1 : putK (gD gs) (Sum.inl l) (V.bl e) = gD (gs ++ [(l, e)]) := by
      rw [putK_new _ (by rw [val_g]; cases h : gget gs l with | none => rfl | some y => rw [h] at c; exact absurd rfl c)]
      unfold gD
      rw [List.map_append]; rfl
    exact ⟨_, e1, by rw [List.length_append]; simp, fin _ e1⟩
/-! ### rows compared with themselves -/
theorem eqvAll_rows : ∀ rs : List Row, PyData.eqvAll (rs.map rowD) (rs.map rowD) = true
  | [] => by simp [PyData.eqvAll]
  | r :: rs => by
    rw [List.map_cons]
    simp only [PyData.eqvAll]
    rw [eqvAll_rows rs, eqv_row]
    simp
theorem shaped_rows (rs : List Row) : SeqAt.shaped (.list (rs.map rowD)) = true := shaped_list (n := 2) (by omega) fun d hd => by
  obtain ⟨q, _, rfl⟩ := List.mem_map.mp hd
  exact ⟨row_lay q, row_dep q⟩
theorem neRows {H : Hp} {x y : Addr} {rs : List Row} {Q : VK} (hx : LS K H x (rs.map rowD)) (hy : LS K H y (rs.map rowD)) (q : Q (.bl false) H) : rNeD K (.ref x) (.ref y) H Q := by
  obtain ⟨v1, h1, i1⟩ := hx
  obtain ⟨v2, h2, i2⟩ := hy
  refine ⟨.list (rs.map rowD), .list (rs.map rowD), .lst (SqL.of h1) i1.dp, .lst (SqL.of h2) i2.dp, shaped_rows rs, shaped_rows rs, ?_⟩
  have : PyData.eqv (.list (rs.map rowD)) (.list (rs.map rowD)) = true := by simp only [PyData.eqv]; exact eqvAll_rows rs
  rw [this]; exact q
/-! ### the things of the law, at a heap -/
structure Sit (CG : Addr) (K : PySem.W.Frag) (H : Hp) (a s o g r kn l t : Addr) (ns : List Int) (os : List (Int × Bool)) (rs : List Row) (tab : List (Int × Nat)) : Prop where
  hs : SqF K H a (ns.map V.int)
  S : Src H s
  LO : LS K H o (os.map pairD)
  T : Two CG K H g r kn l rs
  wf : WF rs
  ht : H t = some (.dK (tabD tab))
  nd : (tab.map (·.1)).Nodup
  hes : ∀ q ∈ tab, q.2 / 2 < rs.length
  n1 : s ≠ l
  n2 : s ≠ r
  n3 : s ≠ o
  n4 : o ≠ l
  n5 : o ≠ r
variable {H H' : Hp} {a s o g r kn l t : Addr} {ns : List Int} {os : List (Int × Bool)} {rs rs' : List Row} {tab tab' : List (Int × Nat)}
theorem Sit.types (i : Sit CG K H a s o g r kn l t ns os rs tab) : (s ≠ g ∧ s ≠ kn ∧ s ≠ t) ∧ (o ≠ g ∧ o ≠ kn ∧ o ≠ t) ∧ (t ≠ g ∧ t ≠ kn ∧ t ≠ l ∧ t ≠ r) := by
  obtain ⟨x, y, z, q, _⟩ := i.S
  obtain ⟨_, q2, _⟩ := i.LO
  obtain ⟨dx, hg⟩ := i.T.G.ins
  obtain ⟨kvs, hkn, _⟩ := i.T.G.known
  obtain ⟨_, q3, _⟩ := i.T.L
  obtain ⟨_, q4, _⟩ := i.T.G.rows
  have ht := i.ht
  refine ⟨⟨?_, ?_, ?_⟩, ⟨?_, ?_, ?_⟩, ?_, ?_, ?_, ?_⟩
  · exact ne_of q hg (by intro z; cases z)
  · exact ne_of q hkn (by intro z; cases z)
  · exact ne_of q ht (by intro z; cases z)
  · exact ne_of q2 hg (by intro z; cases z)
  · exact ne_of q2 hkn (by intro z; cases z)
  · exact ne_of q2 ht (by intro z; cases z)
  · exact ne_of ht hg (by intro z; cases z)
  · exact ne_of ht hkn (by intro z; cases z)
  · exact ne_of ht q3 (by intro z; cases z)
  · exact ne_of ht q4 (by intro z; cases z)
theorem Sit.mono (i : Sit CG K H a s o g r kn l t ns os rs tab) (f : Fr [] H H') : Sit CG K H' a s o g r kn l t ns os rs tab :=
  ⟨i.hs.mono f, i.S.mono f nin0, i.LO.mono f nin0, i.T.mono f nin0 nin0 nin0 nin0, i.wf, f.get i.ht nin0, i.nd, i.hes, i.n1, i.n2, i.n3, i.n4, i.n5⟩
theorem Sit.draw (i : Sit CG K H a s o g r kn l t ns os rs tab) (f : Fr [s] H H') (S' : Src H' s) : Sit CG K H' a s o g r kn l t ns os rs tab := by
  obtain ⟨⟨b1, b2, b3⟩, ⟨b4, b5, b6⟩, b7, b8, b9, b10⟩ := i.types
  exact ⟨i.hs.mono f, S', i.LO.mono f (nin1 i.n3.symm nin0), i.T.mono f (nin1 b1.symm nin0) (nin1 i.n2.symm nin0) (nin1 b2.symm nin0) (nin1 i.n1.symm nin0), i.wf, f.get i.ht (nin1 b3.symm nin0), i.nd, i.hes, i.n1, i.n2, i.n3, i.n4, i.n5⟩
theorem Sit.edge (i : Sit CG K H a s o g r kn l t ns os rs tab) (f : Fr [s, l, r, kn] H H') (S' : Src H' s) (T' : Two CG K H' g r kn l rs') (wf' : WF rs') (p : rs <+: rs') : Sit CG K H' a s o g r kn l t ns os rs' tab := by
  obtain ⟨⟨b1, b2, b3⟩, ⟨b4, b5, b6⟩, b7, b8, b9, b10⟩ := i.types
  exact ⟨i.hs.mono f, S', i.LO.mono f (nin1 i.n3.symm (nin1 i.n4 (nin1 i.n5 (nin1 b5 nin0)))), T', wf', f.get i.ht (nin1 b3.symm (nin1 b9 (nin1 b10 (nin1 b8 nin0)))), i.nd, fun q hq => Nat.lt_of_lt_of_le (i.hes q hq) p.length_le, i.n1, i.n2, i.n3, i.n4, i.n5⟩
theorem Sit.put (i : Sit CG K H a s o g r kn l t ns os rs tab) (nd' : (tab'.map (·.1)).Nodup) (hes' : ∀ q ∈ tab', q.2 / 2 < rs.length) : Sit CG K (upd H t (.dK (tabD tab'))) a s o g r kn l t ns os rs tab' := by
  obtain ⟨⟨b1, b2, b3⟩, ⟨b4, b5, b6⟩, b7, b8, b9, b10⟩ := i.types
  have f : Fr [t] H (upd H t (.dK (tabD tab'))) := Fr.wr i.ht not_fixed_dK (by simp)
  exact ⟨i.hs.mono f, i.S.mono f (nin1 b3 nin0), i.LO.mono f (nin1 b6 nin0), i.T.mono f (nin1 b7.symm nin0) (nin1 b10.symm nin0) (nin1 b8.symm nin0) (nin1 b9.symm nin0), i.wf, upd_same, nd', hes', i.n1, i.n2, i.n3, i.n4, i.n5⟩
theorem Sit.fault (i : Sit CG K H a s o g r kn l t ns os rs tab) (f : Fr [s, l, r, kn, t] H H') (S' : Src H' s) (T' : Two CG K H' g r kn l rs') (wf' : WF rs') (ht' : H' t = some (.dK (tabD tab'))) (nd' : (tab'.map (·.1)).Nodup) (hes' : ∀ q ∈ tab', q.2 / 2 < rs'.length) : Sit CG K H' a s o g r kn l t ns os rs' tab' := by
  obtain ⟨⟨b1, b2, b3⟩, ⟨b4, b5, b6⟩, b7, b8, b9, b10⟩ := i.types
  exact ⟨i.hs.mono f, S', i.LO.mono f (nin1 i.n3.symm (nin1 i.n4 (nin1 i.n5 (nin1 b5 (nin1 b6 nin0))))), T', wf', ht', nd', hes', i.n1, i.n2, i.n3, i.n4, i.n5⟩
structure Apart (x s o g r kn l t : Addr) : Prop where
  s : x ≠ s
  o : x ≠ o
  g : x ≠ g
  r : x ≠ r
  kn : x ≠ kn
  l : x ≠ l
  t : x ≠ t
theorem Sit.fresh (i : Sit CG K H a s o g r kn l t ns os rs tab) {x : Addr} (h : H x = none) : Apart x s o g r kn l t := by
  obtain ⟨_, _, _, q, _⟩ := i.S
  obtain ⟨_, q2, _⟩ := i.LO
  obtain ⟨dx, hg⟩ := i.T.G.ins
  obtain ⟨kvs, hkn, _⟩ := i.T.G.known
  obtain ⟨_, q3, _⟩ := i.T.L
  obtain ⟨_, q4, _⟩ := i.T.G.rows
  exact ⟨ne2 h q, ne2 h q2, ne2 h hg, ne2 h q4, ne2 h hkn, ne2 h q3, ne2 h i.ht⟩
theorem Sit.wr (i : Sit CG K H a s o g r kn l t ns os rs tab) {x : Addr} (p : Apart x s o g r kn l t) (f : Fr [x] H H') : Sit CG K H' a s o g r kn l t ns os rs tab :=
  ⟨i.hs.mono f, i.S.mono f (nin1 p.s.symm nin0), i.LO.mono f (nin1 p.o.symm nin0), i.T.mono f (nin1 p.g.symm nin0) (nin1 p.r.symm nin0) (nin1 p.kn.symm nin0) (nin1 p.l.symm nin0), i.wf, f.get i.ht (nin1 p.t.symm nin0), i.nd, i.hes, i.n1, i.n2, i.n3, i.n4, i.n5⟩
/-- an object that is made -/
theorem made {x dx : Addr} {C : Addr} (h1 : H x = none) (h2 : H dx = none) (f : Fr [x] (upd (upd H dx (.own x)) x (.ins C dx [])) H') : Fr [] H H' := by
  have f1 : Fr [] H (upd (upd H dx (.own x)) x (.ins C dx [])) := (Fr.new (o := .own x) h2).mut h1
  exact f1.transN f fun y hy => by simp at hy; subst hy; exact .inr h1
/-- no misfit where every own letter's edge hangs on letters ahead alone -/
theorem res_none {sd : Bool} (ndo : (os.map (·.1)).Nodup) (h1 : ∀ x e, tget tab x = some e → ∃ j bh, os[j]? = some (x, sd) ∧ Ok rs e bh ∧ ∀ y ∈ bh, Before os j (!sd) y) (h2 : ∀ (j : Nat) x, os[j]? = some (x, sd) → (tget tab x).isSome = true) : Res rs sd os (tget tab) .non := by
  refine .inr (.inr ⟨?_, fun x hx => ?_, rfl⟩)
  · rintro j ⟨x, e1, z | ⟨e, k, y, z1, z2, z3, z4⟩⟩
    · have := h2 j x e1
      rw [z] at this; cases this
    · obtain ⟨j', bh, q1, q2, q3⟩ := h1 x e z1
      have : j = j' := by
        have w1 : (os.map (·.1))[j]? = some x := by rw [List.getElem?_map, e1]; rfl
        have w2 : (os.map (·.1))[j']? = some x := by rw [List.getElem?_map, q1]; rfl
        exact nd_ix ndo w1 w2
      subst this
      obtain ⟨_, e', he', hr⟩ := z2
      simp at he'
      subst he'
      exact z4 (q3 y (q2.2 k y hr z3))
  · obtain ⟨e, he⟩ := Option.isSome_iff_exists.mp hx
    obtain ⟨j, bh, q1, _⟩ := h1 x e he
    exact ⟨j, (List.getElem?_eq_some_iff.mp q1).1, q1⟩
/-- where nothing misfits, the letters that the edges reach are ahead -/
theorem res_ahead {sd : Bool} (R0 : Res rs sd os (tget tab) .non) (nd : (tab.map (·.1)).Nodup) {k : Nat} {x : Int} (h : k ∈ cone rs (tab.map (·.2))) (hk : rs[k]? = some (.letter x)) : Before os os.length (!sd) x := by
  rcases R0 with ⟨_, _, _, _, _, z⟩ | ⟨_, _, _, _, _, z⟩ | ⟨h1, h2, _⟩
  · cases z
  · cases z
  · obtain ⟨_, hk0, e, he, hr⟩ := mem_cone.mp h
    obtain ⟨q, hq, rfl⟩ := List.mem_map.mp he
    have hT := mem_tget nd (l := q.1) (e := q.2) hq
    obtain ⟨j, hj, hj2⟩ := h2 q.1 (by rw [hT]; rfl)
    by_cases c : Before os j (!sd) x
    · obtain ⟨i, hi, hi2⟩ := c
      exact ⟨i, by omega, hi2⟩
    · exact absurd ⟨q.1, hj2, .inr ⟨q.2, k, x, hT, ⟨hk0, q.2, by simp, hr⟩, hk, c⟩⟩ (h1 j)
theorem cone_perm {es fs : List Nat} (h : ∀ x, x ∈ es ↔ x ∈ fs) : cone rs es = cone rs fs := by
  refine nat_sorted_unique (cone_sorted _ _) (cone_sorted _ _) fun k => ?_
  rw [mem_cone, mem_cone]
  refine and_congr_right fun _ => and_congr_right fun _ => ?_
  constructor
  · rintro ⟨e, he, hr⟩; exact ⟨e, (h e).mp he, hr⟩
  · rintro ⟨e, he, hr⟩; exact ⟨e, (h e).mpr he, hr⟩
theorem tab_same (nd : (tab.map (·.1)).Nodup) (nd' : (tab'.map (·.1)).Nodup) (h : ∀ x, tget tab' x = tget tab x) (q : Int × Nat) : q ∈ tab' ↔ q ∈ tab := by
  obtain ⟨x, e⟩ := q
  constructor
  · intro hq
    exact tget_mem (by rw [← h]; exact mem_tget nd' hq)
  · intro hq
    exact tget_mem (by rw [h]; exact mem_tget nd hq)
theorem decI (i : Int) : decide (V.int i = V.non) = false := decide_eq_false (by intro h; cases h)
theorem decN0 : decide (V.non = V.non) = true := decide_eq_true rfl
end
end K

set_option maxRecDepth 100000
set_option maxHeartbeats 1000000
namespace K
open PySem L2 Z R

abbrev s_law : Stmt := top 27
abbrev n_law : List Str := ["script", "source", "order", "side", "gates", "rows", "table", "ahead", "letter", "owner", "handed", "plan", "due", "got", "count", "both", "given", "k", "key"]
theorem sc_law : FnScope n_law ["script"] (defScope s_law) := ⟨rfl, rfl, rfl, by decide +kernel, rfl, by decide +kernel, by decide +kernel⟩
section
variable {P : Program} {w : World} {K : PySem.W.Frag} {mg : Str → Option Value} {base : Heap} {CP CG f : Addr} {fd : FuncData}
def spLaw (K : PySem.W.Frag) : Sp := fun vs H Q _ => ∃ (a : Addr) (ns : List Int), vs = [.ref a] ∧ SqF K H a (ns.map V.int) ∧ ∀ H', Q (.bl true) H'
theorem ok_law (b : Bi K mg CP CG) (h__law_seed : Has P w K mg base CX0 "_law_seed" ["script"] 1 (spSeed K)) (h__law_order : Has P w K mg base CX0 "_law_order" ["script", "source"] 2 (spOrder K)) (h__law_take : Has P w K mg base CX0 "_law_take" ["script", "source", "size"] 1 (spTake K))
    (h_Gates : HasI P w K mg base CX0 CG "Gates" ["self"] 1 (spGInit CG K)) (h_Plan : HasI P w K mg base CX0 CP "Plan" ["self", "side", "gates", "table"] 1 (spPInit CP K)) (h__law_edge : Has P w K mg base CX0 "_law_edge" ["script", "source", "gates", "rows", "ahead"] 4 (spLEdge CG K)) (h_Plan_misfit : HasM P w K mg base CX0 CP "misfit" ["self", "order"] 3 (spMisfit CP CG K))
    (h__law_fault : Has P w K mg base CX0 "_law_fault" ["script", "source", "gates", "rows", "order", "side", "table"] 4 (spFault CG K)) (h__law_misfit : Has P w K mg base CX0 "_law_misfit" ["rows", "order", "side", "table"] 2 (spLMisfit K)) (h_Plan_gate_count : HasM P w K mg base CX0 CP "gate_count" ["self"] 3 (spCount CP CG K)) (h__law_reached : Has P w K mg base CX0 "_law_reached" ["rows", "edges"] 1 (spReached K)) (h__law_answers : Has P w K mg base CX0 "_law_answers" ["plan", "rows", "table", "given"] 4 (spLAnswers CP CG K))
    (d : Df K mg "law" s_law ["script"] f fd) : FnOk P w K mg base CX0 5 f fd ["script"] (spLaw K) := by
  refine d.F.ok sc_law (fun vs H Q E h => ?_) (fun cdv A outer s0 H vs Q E hr h => ?_)
  · obtain ⟨_, _, rfl, _⟩ := h; rfl
  · obtain ⟨a, ns, rfl, hs, k⟩ := h
    have hu := hu_of hr
    have cl := b.cl_Plan
    have cl2 := b.cl_Gates
    have na1 := b.na_side
    have na2 := b.na_gates
    have na3 := b.na_table
    have na4 := b.na_rows
    refine ⟨_, (pss_cons (ps_set (i := 1) sc_law.nd rfl (Or.inl rfl) (pe_lst (pa_cons pe_int (pa_cons pe_int (pa_cons (pe_callH h__law_seed hr (by decide) pass0 (pa_cons (pv 0) pa_nil)) pa_nil)))))
 (pss_cons (ps_set (i := 2) sc_law.nd rfl (Or.inl rfl) (pe_callH h__law_order hr (by decide) pass0 (pa_cons (pv 0) (pa_cons (pv 1) pa_nil))))
 (pss_cons (ps_set (i := 3) sc_law.nd rfl (Or.inl rfl) (pe_ix (ix_seqK K) (pe_lst (pa_cons pe_str (pa_cons pe_str pa_nil))) (pe_callH h__law_take hr (by decide) pass0 (pa_cons (pv 0) (pa_cons (pv 1) (pa_cons pe_int pa_nil)))) (fun _ _ => rfl)))
 (pss_cons (ps_set (i := 4) sc_law.nd rfl (Or.inl rfl) (pe_makeH0 h_Gates hr (by decide) pass0))
 (pss_cons (ps_set (i := 5) sc_law.nd rfl (Or.inr rfl) (pe_lst (pa_cons (pe_tup (pa_cons pe_str pa_nil)) pa_nil)))
 (pss_cons (ps_set (i := 6) sc_law.nd rfl (Or.inr rfl) pe_dnewK)
 (pss_cons (ps_set (i := 7) sc_law.nd rfl (Or.inl rfl) (pe_lst pa_nil))
 (pss_cons (ps_for PassesOwn.never rfl (pi_listK K (pv 2)) (pg_tupK K (by rfl) (pgs_cons (pg_name (i := 8) sc_law.nd rfl (Or.inl rfl)) (pgs_cons (pg_name (i := 9) sc_law.nd rfl (Or.inl rfl)) pgs_nil)))
 (pss_one (ps_if (pt_cmpR op_eq (pv 9) (pv 3) (nomark _))
 (pss_one (ps_dput hu (pv 6) (pv 8) (pe_callH h__law_edge hr (by decide) pass0 (pa_cons (pv 0) (pa_cons (pv 1) (pa_cons (pv 4) (pa_cons (pv 5) (pa_cons (pv 7) pa_nil)))))) rfl))
 (pss_one (ps_expr (pe_bmK K PySem.F.plainAttrs_list PySem.F.slot_list_append PySem.F.type_list_append mt_append (pv 7) (pa_cons (pv 8) pa_nil)))))))
 (pss_cons (ps_if (pt_cmpR op_notN1 (pe_methH (pe_makeH h_Plan hr (by decide) pass0 (pa_cons (pv 3) (pa_cons (pv 4) (pa_cons (pv 6) pa_nil)))) b.cl_Plan h_Plan_misfit hr (by decide) pass0 (pa_cons (pe_callTy (cListOfK K) (by rfl) b.b_list (by decide +kernel) (pa_cons (pv 2) pa_nil)) pa_nil)) pe_non (nomark _))
 (pss_one (ps_ret pe_bl))
 pss_nil)
 (pss_cons (ps_expr (pe_callH h__law_fault hr (by decide) pass0 (pa_cons (pv 0) (pa_cons (pv 1) (pa_cons (pv 4) (pa_cons (pv 5) (pa_cons (pv 2) (pa_cons (pv 3) (pa_cons (pv 6) pa_nil)))))))))
 (pss_cons (ps_set (i := 10) sc_law.nd rfl (Or.inl rfl) (pe_callTy cDictD (by rfl) b.b_dict (by decide +kernel) (pa_cons (pv 6) pa_nil)))
 (pss_cons (ps_set (i := 11) sc_law.nd rfl (Or.inl rfl) (pe_makeH h_Plan hr (by decide) pass0 (pa_cons (pv 3) (pa_cons (pv 4) (pa_cons (pv 10) pa_nil)))))
 (pss_cons (ps_dput hu (pv 10) pe_int pe_int rfl)
 (pss_cons (ps_if (PW.pt (pw_or (pt_cmpR op_ne (pe_fldK K (pv 11) rfl) (pv 3) (nomark _)) (pw_or (pt_cmpR (op_ne_dictA hr.units0) (pe_fldK K (pv 11) rfl) (pv 6) (nomark _)) (pw_or (pt_cmpR (op_neDK K hr) (pe_fldK K (pv 4) rfl) (pv 5) (nomark _)) (pw_or1 (pt_cmpR (op_neDK K hr) (pe_fldK K (pe_fldK K (pv 11) rfl) rfl) (pv 5) (nomark _)))))))
 (pss_one (ps_ret pe_bl))
 pss_nil)
 (pss_cons (ps_set (i := 12) sc_law.nd rfl (Or.inl rfl) (pe_callH h__law_misfit hr (by decide) pass0 (pa_cons (pv 5) (pa_cons (pv 2) (pa_cons (pv 3) (pa_cons (pv 6) pa_nil))))))
 (pss_cons (ps_set (i := 13) sc_law.nd rfl (Or.inl rfl) (pe_methH (pv 11) b.cl_Plan h_Plan_misfit hr (by decide) pass0 (pa_cons (pe_callTy (cListOfK K) (by rfl) b.b_list (by decide +kernel) (pa_cons (pv 2) pa_nil)) pa_nil)))
 (pss_cut (ps_if (PW.pt (pw_and (pt_cmpR op_isN1 (pv 12) pe_non (nomark _)) (pw_and1 (pt_cmpR op_notN1 (pv 13) pe_non (nomark _)))))
 (pss_one (ps_ret pe_bl))
 pss_nil)
 (pss_cut (ps_if (PW.pt (pw_and (pt_cmpR op_notN1 (pv 12) pe_non (nomark _)) (pw_and1 (PW.pt (pw_or (pt_not (pt_trK K (pe_callB (cIsiK K) (by rfl) b.b_isinstance (by decide +kernel) (pa_cons (pv 13) (pa_cons (pe_bltn (v := .ty "int") (by rfl) b.b_int (by decide +kernel) rfl) pa_nil))))) (pw_or1 (pt_cmpR op_ne (pv 13) (pv 12) (nomark _))))))))
 (pss_one (ps_ret pe_bl))
 pss_nil)
 (pss_cons (ps_set (i := 14) sc_law.nd rfl (Or.inl rfl) (pe_methH0 (pv 11) b.cl_Plan h_Plan_gate_count hr (by decide) pass0))
 (pss_cons (ps_setLc (i := 15) (own := [("k", 17)]) (g := gName 17) (by rfl) sc_law.nd rfl rfl (sw_true rfl rfl rfl (by decide +kernel)) (pi_listK K (pe_callH h__law_reached hr (by decide) pass0 (pa_cons (pv 5) (pa_cons (pe_lock (pe_lc (own := [("key", 18)]) (g := gName 18) (by rfl) sc_law.nd (pi_keys (pv 6)) (blkOk_by (own := [("key", 18)]) (N := n_law) (sc := defScope s_law) (by decide +kernel)) (fun _ _ _ _ _ => (pg_name (i := 18) sc_law.nd rfl (Or.inl rfl))) (fun _ _ _ _ _ => by exact pts_nil) (fun _ _ _ _ _ => by exact (pe_dget hu (pv 6) (pv 18) (fun _ _ => rfl))))) pa_nil)))) (blkOk_by (own := [("k", 17)]) (N := n_law) (sc := defScope s_law) (by decide +kernel)) (fun _ _ _ _ _ => (pg_name (i := 17) sc_law.nd rfl (Or.inl rfl))) (fun _ _ _ _ _ => by exact (pts_one (pt_cmpR op_eq (pe_ix (ix_seqK K) (pe_ix (ix_seqK K) (pv 5) (pv 17) (fun _ _ => rfl)) pe_int (fun _ _ => rfl)) pe_str (nomark _)))) (fun _ _ _ _ _ => by exact (pv 17)))
 (pss_cons (ps_if (PW.pt (pw_or (pt_not (pt_trK K (pe_callB (cIsiK K) (by rfl) b.b_isinstance (by decide +kernel) (pa_cons (pv 14) (pa_cons (pe_bltn (v := .ty "int") (by rfl) b.b_int (by decide +kernel) rfl) pa_nil))))) (pw_or (pt_trK K (pe_callB (cIsiK K) (by rfl) b.b_isinstance (by decide +kernel) (pa_cons (pv 14) (pa_cons (pe_bltn (v := .ty "bool") (by rfl) b.b_bool (by decide +kernel) rfl) pa_nil)))) (pw_or1 (pt_cmpR op_ne (pv 14) (pe_callB (cLenK K) (by rfl) b.b_len (by decide +kernel) (pa_cons (pv 15) pa_nil)) (nomark _))))))
 (pss_one (ps_ret pe_bl))
 pss_nil)
 (pss_cons (ps_if (pt_cmpR op_notN1 (pv 12) pe_non (nomark _))
 (pss_one (ps_ret pe_bl))
 pss_nil)
 (pss_cons (ps_set (i := 16) sc_law.nd rfl (Or.inl rfl) pe_dnewK)
 (pss_cons (ps_for PassesOwn.never rfl (pi_listK K (pv 2)) (pg_tupK K (by rfl) (pgs_cons (pg_name (i := 8) sc_law.nd rfl (Or.inl rfl)) (pgs_cons (pg_name (i := 9) sc_law.nd rfl (Or.inl rfl)) pgs_nil)))
 (pss_one (ps_if (pt_cmpR op_ne (pv 9) (pv 3) (nomark _))
 (pss_one (ps_dput hu (pv 16) (pv 8) (pe_cmpR op_eq (pe_callH h__law_take hr (by decide) pass0 (pa_cons (pv 0) (pa_cons (pv 1) (pa_cons pe_int pa_nil)))) pe_int (nomark _)) rfl))
 pss_nil)))
 (pss_cons (ps_if (pt_not (pt_trK K (pe_callH h__law_answers hr (by decide) pass0 (pa_cons (pv 11) (pa_cons (pv 5) (pa_cons (pv 6) (pa_cons (pv 16) pa_nil)))))))
 (pss_one (ps_ret pe_bl))
 pss_nil)
 (pss_cons (ps_for PassesOwn.never rfl (pi_listK K (pe_callTy (call_list_dK rfl) (by rfl) b.b_list (by decide +kernel) (pa_cons (pv 16) pa_nil))) (pg_name (i := 8) sc_law.nd rfl (Or.inl rfl))
 (pss_one (ps_dput hu (pv 16) (pv 8) (pe_not (pe_dget hu (pv 16) (pv 8) (fun _ _ => rfl))) rfl)))
 (pss_one (ps_ret (pe_callH h__law_answers hr (by decide) pass0 (pa_cons (pv 11) (pa_cons (pv 5) (pa_cons (pv 6) (pa_cons (pv 16) pa_nil))))))))))))))))))))))))))))))))), ?_⟩
    walk_at "xs"
    refine ⟨a, ns, rfl, hs, fun z z0 z1 => ?_⟩
    walk_at "xs"
    refine lstN (by walk_at "sz") fun s hsn => ?_
    have f1 : Fr [] H (upd H s (.lst [.int 0, .int 0, .int z])) := Fr.new hsn
    have S1 : Src (upd H s (.lst [.int 0, .int 0, .int z])) s := ⟨0, 0, z, upd_same, by omega, by omega, z0, z1⟩
    have hs1 := hs.mono f1
    generalize upd H s (.lst [.int 0, .int 0, .int z]) = H1 at *
    walk_at "xs"
    refine ⟨a, s, ns, rfl, hs1, S1, fun o os H2 ho f2 S2 LO ndo ol olr => ?_⟩
    have hs2 := hs1.mono f2
    have n3 : s ≠ o := by obtain ⟨_, _, _, q, _⟩ := S1; exact ne1 ho q
    walk_at "xs"
    refine lstN (by walk_at "sz") fun sd0 hsd0 => ?_
    have f3 : Fr [] H2 (upd H2 sd0 (.lst [.str "some", .str "all"])) := Fr.new hsd0
    have e3 : sd0 ≠ s := by obtain ⟨_, _, _, q, _⟩ := S2; exact ne2 hsd0 q
    walk_at "xs"
    refine ⟨a, s, 2, ns, rfl, hs2.mono f3, S2.mono f3 nin0, by omega, by omega, fun d1 H3 d10 d11 f4 S4 => ?_⟩
    have hq3 := f4.get (upd_same : upd H2 sd0 (.lst [.str "some", .str "all"]) sd0 = _) (nin1 e3 nin0)
    refine ixM hq3 (at_int d10 (two_sides d10 d11)) ?_
    have hs4 := (hs2.mono f3).mono f4
    have LO4 := (LO.mono f3 nin0).mono f4 (nin1 n3.symm nin0)
    generalize decide (d1 = 1) = sd
    clear hq3 f3 f4 f2 LO S2 hs2
    walk_at "xs"
    intro g dg hg hdg hgne
    have fG : Fr [] H3 (upd (upd H3 dg (.own g)) g (.ins CG dg [])) := (Fr.new (o := .own g) hdg).mut hg
    refine ⟨g, dg, rfl, upd_same, fun r kn H5 f5 hr1 hkn1 r1 r2 r3 G => ⟨rfl, ?_⟩⟩
    have f35 := made hg hdg f5
    have hr3 : H3 r = none := fG.back hr1 nin0
    have hkn3 : H3 kn = none := fG.back hkn1 nin0
    have S5 := S4.mono f35 nin0
    have LO5 := LO4.mono f35 nin0
    have hs5 := hs4.mono f35
    have n2 : s ≠ r := by obtain ⟨_, _, _, q, _⟩ := S4; exact ne1 hr3 q
    have n5 : o ≠ r := by obtain ⟨_, q, _⟩ := LO4; exact ne1 hr3 q
    walk_at "xs"
    refine tupN (by walk_at "sz") fun tp htp => ?_
    have f6 : Fr [] H5 (upd H5 tp (.tup [.str "no"])) := Fr.new htp
    walk_at "xs"
    refine lstN (by walk_at "sz") fun l hl => ?_
    have f7 : Fr [] H5 (upd (upd H5 tp (.tup [.str "no"])) l (.lst [.ref tp])) := f6.trans (Fr.new hl)
    have hl5 : H5 l = none := un1 hl
    have LS7 : LS K (upd (upd H5 tp (.tup [.str "no"])) l (.lst [.ref tp])) l ([Row.no].map rowD) := ⟨[.ref tp], upd_same, .one (at_row (r := .no) ((upd_ne (ne2 hl upd_same).symm).trans upd_same))⟩
    have n1 : s ≠ l := by obtain ⟨_, _, _, q, _⟩ := S5; exact ne1 hl5 q
    have n4 : o ≠ l := by obtain ⟨_, q, _⟩ := LO5; exact ne1 hl5 q
    have nlr : l ≠ r := by obtain ⟨_, q, _⟩ := G.rows; exact ne2 hl5 q
    have T7 : Two CG K _ g r kn l [.no] := ⟨G.mono f7 nin0 nin0 nin0, LS7, nlr⟩
    have S7 := S5.mono f7 nin0
    have LO7 := LO5.mono f7 nin0
    have hs7 := hs5.mono f7
    generalize upd (upd H5 tp (.tup [.str "no"])) l (.lst [.ref tp]) = H7 at *
    walk_at "xs"
    refine x_newK fun t ht => ?_
    have f8 : Fr [] H7 (upd H7 t (.dK [])) := Fr.new ht
    have wf0 : WF [.no] := fun i x y e => by
      have hi := (List.getElem?_eq_some_iff.mp e).1
      have : i = 0 := by simp at hi; exact hi
      subst this
      cases e
    have I8 : Sit CG K (upd H7 t (.dK [])) a s o g r kn l t ns os [.no] [] := ⟨hs7.mono f8, S7.mono f8 nin0, LO7.mono f8 nin0, T7.mono f8 nin0 nin0 nin0 nin0, wf0, upd_same, by simp, fun q hq => (by cases hq), n1, n2, n3, n4, n5⟩
    generalize upd H7 t (.dK []) = H8 at *
    walk_at "xs"
    refine lstN (by walk_at "sz") fun h hh => ?_
    have f9 : Fr [] H8 (upd H8 h (.lst [])) := Fr.new hh
    have ph := I8.fresh hh
    have I9 := I8.mono f9
    have h9 : upd H8 h (.lst []) h = some (.lst []) := upd_same
    generalize upd H8 h (.lst []) = H9 at *
    clear I8 f9 f8 hs7 LO7 S7 T7 LS7 f7 f6 LO5 S5 hs5 G f5
    walk_at "xs"
    refine forM (S := [s, l, r, kn, t, h]) I9.LO (nin1 n3.symm (nin1 n4 (nin1 n5 (nin1 I9.types.2.1.2.1 (nin1 I9.types.2.1.2.2 (nin1 ph.o.symm nin0)))))) (fun i σ H' => ∃ (rs : List Row) (tab : List (Int × Nat)) (ah : List Int) (v1 v2 : Option V), σ = [some (.ref a), some (.ref s), some (.ref o), some (.str (sv sd)), some (.ref g), some (.ref l), some (.ref t), some (.ref h), v1, v2, none, none, none, none, none, none, none, none, none] ∧ Fr [s, l, r, kn, t, h] H9 H' ∧ Sit CG K H' a s o g r kn l t ns os rs tab ∧
      rs.length ≤ 1 + 30 * i ∧ tab.length ≤ i ∧ H' h = some (.lst (ah.map V.int)) ∧ ah.length ≤ i ∧ (∀ x, x ∈ ah ↔ Before os i (!sd) x) ∧ (∀ x e, tget tab x = some e → ∃ j bh, os[j]? = some (x, sd) ∧ Ok rs e bh ∧ ∀ y ∈ bh, Before os j (!sd) y) ∧ ∀ (j : Nat) x, j < i → os[j]? = some (x, sd) → (tget tab x).isSome = true)
      ⟨[.no], [], [], none, none, rfl, Fr.refl, I9, by simp, by simp, h9, by simp, fun x => ⟨fun z => (by cases z), fun z => absurd z before_zero⟩, fun x e z => (by cases z), fun j x hj => (by omega)⟩ (fun i σ' H' q => ?_) ?_ ?_
    · obtain ⟨_, _, _, _, _, rfl, q, _⟩ := q; exact q
    · rintro i dd x σ H' hdd hx ⟨rs, tab, ah, v1, v2, rfl, fA, IA, rl, tl, hA, al, ma, mt, mo⟩
      obtain ⟨⟨y, sl⟩, hos, rfl⟩ : ∃ q, os[i]? = some q ∧ dd = pairD q := by
        rw [List.getElem?_map] at hdd
        cases e : os[i]? with
        | none => rw [e] at hdd; cases hdd
        | some q => rw [e] at hdd; exact ⟨q, rfl, (Option.some.inj hdd).symm⟩
      have hio := (List.getElem?_eq_some_iff.mp hos).1
      obtain ⟨Tp, rfl, hT⟩ := pair_at hx
      refine x_gtup hT rfl ?_
      walk_at "xs"
      refine ifD (fun c => ?_) (fun c => ?_)
      · have c' := sv_inj.mp c
        subst c'
        walk_at "xs"
        refine ⟨a, s, g, r, kn, l, h, ns, ah, rs, rfl, IA.hs, IA.S, IA.T, IA.wf, by omega, hA, by omega, n1, n2, ph.s, ph.l, ph.r, fun e rs' H'' fB SB TB wfB pB lB okB => ?_⟩
        have IB := IA.edge fB SB TB wfB pB
        have hB := fB.get hA (nin1 ph.s (nin1 ph.l (nin1 ph.r (nin1 ph.kn nin0))))
        have fAB := fA.trans (fB.weak fun z hz => by simp at hz; rcases hz with hz | hz | hz | hz <;> simp [hz])
        obtain ⟨t', q1, q2, q3, q4⟩ := tab_put IB.nd y e
        walk_at "xs"
        refine putI IB.ht (by rw [tab_len, sizeLine_eq]; omega) ?_
        rw [q1]
        have hes' := lt_put q2 q4 okB.1 IB.hes (Nat.le_refl _)
        refine ⟨rs', t', ah, _, _, rfl, fAB.mutS IB.ht not_fixed_dK (by simp), IB.put q2 hes', by omega, by omega, (upd_ne ph.t).trans hB, by omega, fun x => ?_, fun x e' hx => ?_, fun j x hj hjx => ?_⟩
        · rw [ma, before_succ hos]
          exact ⟨.inl, fun z => z.resolve_right fun z => by have := z.1; cases sl <;> cases this⟩
        · rw [q4] at hx
          by_cases cx : x = y
          · rw [if_pos cx] at hx
            cases hx
            subst cx
            exact ⟨i, ah, hos, okB, fun y hy => (ma y).mp hy⟩
          · rw [if_neg cx] at hx
            obtain ⟨j, bh, w1, w2, w3⟩ := mt x e' hx
            exact ⟨j, bh, w1, w2.pre IA.wf pB, w3⟩
        · rw [q4]
          by_cases cx : x = y
          · rw [if_pos cx]; rfl
          · rw [if_neg cx]
            refine mo j x ?_ hjx
            by_cases cj : j < i
            · exact cj
            · have : j = i := by omega
              subst this
              rw [hos] at hjx
              cases hjx
              exact absurd rfl cx
      · have c' : sl = !sd := by
          cases sl <;> cases sd
          · exact absurd rfl c
          · rfl
          · rfl
          · exact absurd rfl c
        subst c'
        walk_at "xs"
        refine s_append hA (by rw [List.length_map]; omega) ?_
        have fB : Fr [h] H' (upd H' h (.lst (ah.map V.int ++ [.int y]))) := Fr.wr hA not_fixed_lst (by simp)
        refine ⟨rs, tab, ah ++ [y], _, _, rfl, fA.trans (fB.weak fun z hz => by simp at hz; simp [hz]), IA.wr ph fB, by omega, by omega, by rw [upd_same, List.map_append]; rfl, by rw [List.length_append, List.length_singleton]; omega, ?_, mt, fun j x hj hjx => ?_⟩
        · exact mem_snoc ma fun x => by rw [before_succ hos]; exact or_congr_right ⟨fun z => z.2, fun z => ⟨rfl, z⟩⟩
        · refine mo j x ?_ hjx
          by_cases cj : j < i
          · exact cj
          · have : j = i := by omega
            subst this
            rw [hos] at hjx
            have := congrArg Prod.snd (Option.some.inj hjx)
            cases sd <;> cases this
    · rintro σ H10 ⟨rs, tab, ah, v1, v2, rfl, _, I10, rl, tl, _, _, _, mt, mo⟩
      rw [List.length_map] at rl tl mo
      have R1 : Res rs sd os (tget tab) .non := res_none ndo mt fun j x hjx => mo j x (List.getElem?_eq_some_iff.mp hjx).1 hjx
      walk_at "xs"
      intro p0 dp hp0 hdp hpne
      have fp := (Fr.new (S := []) (o := .own p0) hdp).mut (o := .ins CP dp []) hp0
      have I11 := I10.mono fp
      refine ⟨p0, dp, g, t, sd, tab, rfl, upd_same, I11.ht, I11.nd, by omega, fun t1 tab1 H12 f12 ht1 P1 asc1 tg1 tl1 => ⟨rfl, ?_⟩⟩
      have f10 := made hp0 hdp f12
      have I12 := I10.mono f10
      obtain ⟨dxp, hP1⟩ := P1.1
      walk_at "xs"
      refine methA hP1 (by rfl) ?_
      walk_at "xs"
      obtain ⟨vo, hov, hoi⟩ := id I12.LO
      refine ⟨o, vo, rfl, .inl (SqL.of hov), fun lo hlo => ?_⟩
      have f13 : Fr [] H12 (upd H12 lo (.lst vo)) := Fr.new hlo
      have I13 := I12.mono f13
      have tm1 := tab_same I10.nd (nd_of_lt asc1) tg1
      walk_at "xs"
      refine ⟨p0, g, t1, r, kn, lo, sd, tab1, rs, os, rfl, P1.mono f13 nin0 nin0, asc1, by omega, I13.T.G, I13.wf, by omega, fun q hq => I13.hes q ((tm1 q).mp hq), ⟨vo, upd_same, hoi.mono f13⟩, by omega, fun v H14 f14 Rv => ?_⟩
      have ev0 : tget tab1 = tget tab := funext tg1
      rw [ev0] at Rv
      have := Rv.uniq R1
      subst this
      have I14 := I13.mono f14
      clear I11 I12 I13 hov hoi hP1 P1 fp f12 f13 f14 f10 Rv R1
      walk_at "xs"
      rw [decN0]
      walk_at "xs"
      refine ⟨a, s, g, r, kn, l, o, t, sd, ns, os, rs, tab, rfl, I14.hs, I14.S, I14.T, I14.wf, by omega, I14.LO, by omega, I14.ht, I14.nd, by omega, I14.hes, fun x hx => ?_, n1, n2, n3, n4, n5, fun rs tab' v H15 f15 S15 T15 wf15 l15 ht15 nd15 tl15 hes15 => ?_⟩
      · obtain ⟨j, hj, hje⟩ := List.getElem_of_mem hx
        exact mo j x hj (by rw [List.getElem?_eq_getElem hj, hje])
      · have I15 := I14.fault f15 S15 T15 wf15 ht15 nd15 hes15
        have tl' : tab'.length ≤ 29 := by omega
        have rl' : rs.length ≤ 600 := by omega
        clear I14 f15 S15 T15 wf15 ht15 nd15 hes15 mt mo tl rl tl15 l15 tm1
        walk_at "xs"
        refine ⟨t, tabD tab', rfl, .inl I15.ht, fun hd hhd => ?_⟩
        have f16 : Fr [] H15 (upd H15 hd (.dK (tabD tab'))) := Fr.new hhd
        have pd := I15.fresh hhd
        have I16 := I15.mono f16
        have h16 : upd H15 hd (.dK (tabD tab')) hd = some (.dK (tabD tab')) := upd_same
        generalize upd H15 hd (.dK (tabD tab')) = H16 at *
        walk_at "xs"
        intro p dp hp0 hdp hpne
        have fp := (Fr.new (S := []) (o := .own p) hdp).mut (o := .ins CP dp []) hp0
        have hd17 := fp.get h16 nin0
        refine ⟨p, dp, g, hd, sd, tab', rfl, upd_same, hd17, I16.nd, by omega, fun t1 tab1 H17 f17 ht1 P1 asc1 tg1 tl1 => ⟨rfl, ?_⟩⟩
        have nt1 : t1 ≠ hd := ne2 ht1 hd17
        have f10 := made hp0 hdp f17
        have I17 := I16.mono f10
        have h17 := f10.get h16 nin0
        have np : p ≠ hd := by obtain ⟨_, q⟩ := P1.1; exact ne_of q h17 (by intro z; cases z)
        walk_at "xs"
        refine putI h17 (by rw [tab_len, sizeLine_eq]; omega) ?_
        have f18 : Fr [hd] H17 (upd H17 hd (.dK (putK (tabD tab') (Sum.inl 901 : Key) (.int 0)))) := Fr.wr h17 not_fixed_dK (by simp)
        have I18 := I17.wr pd f18
        have P2 := P1.mono f18 (nin1 np nin0) (nin1 nt1 nin0)
        generalize upd H17 hd (.dK (putK (tabD tab') (Sum.inl 901 : Key) (.int 0))) = H18 at *
        have tm := tab_same I18.nd (nd_of_lt asc1) tg1
        have nd1 := nd_of_lt asc1
        have hes1 : ∀ q ∈ tab1, q.2 / 2 < rs.length := fun q hq => I18.hes q ((tm q).mp hq)
        clear I15 I16 I17 f16 f17 f18 f10 fp hd17 h16 h17 P1
        obtain ⟨dxp, hp⟩ := P2.1
        have ht1 := P2.2
        have htt := I18.ht
        obtain ⟨dxg, hg⟩ := I18.T.G.ins
        walk_at "xs"
        refine ifN (fun z => absurd rfl z) fun _ => ?_
        walk_at "xs"
        refine ⟨t1, t, tabD tab1, tabD tab', rfl, rfl, ht1, htt, by rw [tab_len, tab_len, tl1], fun q hq => ?_, ?_⟩
        · unfold tabD at hq
          obtain ⟨q, hq2, rfl⟩ := List.mem_map.mp hq
          refine ⟨?_, rfl⟩
          show valV (tabD tab') (Sum.inl q.1) = some (nV q.2)
          rw [val_tab, ← tg1, mem_tget nd1 (l := q.1) (e := q.2) hq2]; rfl
        · walk_at "xs"
          refine neRows I18.T.G.rows I18.T.L ?_
          walk_at "xs"
          refine neRows I18.T.G.rows I18.T.L ?_
          walk_at "xs"
          refine ⟨l, o, t, sd, tab', rs, os, rfl, I18.T.L, I18.T.G.pos, I18.wf, by omega, htt, I18.nd, by omega, I18.hes, I18.LO, by omega, fun vd H19 f19 Rv => ?_⟩
          have I19 := I18.mono f19
          have P3 := P2.mono f19 nin0 nin0
          clear hp ht1 htt hg dxp dxg
          obtain ⟨dxp, hp⟩ := P3.1
          obtain ⟨vo, hov, hoi⟩ := id I19.LO
          walk_at "xs"
          refine methA hp (by rfl) ?_
          walk_at "xs"
          refine ⟨o, vo, rfl, .inl (SqL.of hov), fun lo hlo => ?_⟩
          have f20 : Fr [] H19 (upd H19 lo (.lst vo)) := Fr.new hlo
          have I20 := I19.mono f20
          walk_at "xs"
          refine ⟨p, g, t1, r, kn, lo, sd, tab1, rs, os, rfl, P3.mono f20 nin0 nin0, asc1, by omega, I20.T.G, I20.wf, by omega, hes1, ⟨vo, upd_same, hoi.mono f20⟩, by omega, fun vg H21 f21 Rv2 => ?_⟩
          rw [show tget tab1 = tget tab' from funext tg1] at Rv2
          obtain rfl := Rv2.uniq Rv
          have I21 := I20.mono f21
          have P4 := P3.mono (f20.trans f21) nin0 nin0
          clear hp dxp hov hoi I18 I19 I20 P2 P3 f19 f20 f21 Rv2
          walk_at "xs"
          refine x_cut (fun σ H' => σ = [some (.ref a), some (.ref s), some (.ref o), some (.str (sv sd)), some (.ref g), some (.ref l), some (.ref t), some (.ref h), v1, v2, some (.ref hd), some (.ref p), some vg, some vg, none, none, none, none, none] ∧ H' = H21) ?_ ?_
          · rcases Rv.shape with ⟨vi, rfl⟩ | rfl
            · walk_at "xs"
              rw [decI]
              walk_at "xs"
              exact ⟨rfl, rfl⟩
            · walk_at "xs"
              rw [decN0]
              walk_at "xs"
              exact ⟨rfl, rfl⟩
          · rintro σ H' ⟨rfl, rfl⟩
            walk_at "xs"
            refine x_cut (fun σ H'' => σ = [some (.ref a), some (.ref s), some (.ref o), some (.str (sv sd)), some (.ref g), some (.ref l), some (.ref t), some (.ref h), v1, v2, some (.ref hd), some (.ref p), some vg, some vg, none, none, none, none, none] ∧ H'' = H') ?_ ?_
            · rcases Rv.shape with ⟨vi, rfl⟩ | rfl
              · walk_at "xs"
                rw [decI]
                walk_at "xs"
                refine ifN (fun z => absurd rfl z) fun _ => ?_
                exact ⟨rfl, rfl⟩
              · walk_at "xs"
                rw [decN0]
                walk_at "xs"
                exact ⟨rfl, rfl⟩
            · rintro σ H22 ⟨rfl, rfl⟩
              obtain ⟨dxp, hp⟩ := P4.1
              walk_at "xs"
              refine methA hp (by rfl) ?_
              walk_at "xs"
              refine ⟨p, g, t1, r, kn, sd, tab1, rs, rfl, P4, nd1, by omega, I21.T.G, I21.wf, by omega, hes1, fun H23 f23 => ?_⟩
              have I23 := I21.mono f23
              have P5 := P4.mono f23 nin0 nin0
              clear hp dxp
              have hcone : cone rs (tab1.map (·.2)) = cone rs (tab'.map (·.2)) := cone_perm fun x => by
                rw [List.mem_map, List.mem_map]
                exact ⟨fun ⟨q, h1, h2⟩ => ⟨q, (tm q).mp h1, h2⟩, fun ⟨q, h1, h2⟩ => ⟨q, (tm q).mpr h1, h2⟩⟩
              have htt := I23.ht
              walk_at "xs"
              refine x_lockE htt trivial fun od => ?_
              walk_at "xs"
              refine lcJ (K := K) (jK upd_same) (by rw [tab_len]; omega) (fun i => (tab'[i]?).map fun q => PyData.int (q.2 : Int)) (fun i x H' E E' hi it f2 k1 k2 => ?_) fun D H24 hD f24 ls => ?_
              · obtain ⟨kk, v, e2, rfl⟩ := it
                obtain ⟨q, hq, rfl, rfl⟩ := tab_at e2
                have ht3 : H' t = some (.frz od (.dK (tabD tab'))) := f2.get upd_same nin0
                rw [hq] at k1
                walk_at "xs"
                refine getI (.inr ⟨od, ht3⟩) (by rw [val_tab, mem_tget I23.nd (List.mem_of_getElem? hq)]; rfl) ?_
                exact k1 _ _ _ rfl (.int _) Fr.refl
              · have e2 : (List.range (tabD tab').length).filterMap (fun i => (tab'[i]?).map fun q => PyData.int (q.2 : Int)) = ((tab'.map (·.2)).map fun n : Nat => (n : Int)).map PyData.int := by
                  rw [tab_len]
                  have := range_bind tab' (fun q : Int × Nat => some (PyData.int (q.2 : Int)))
                  rw [fm_map] at this
                  rw [List.map_map, List.map_map]
                  refine Eq.trans ?_ this
                  congr 1
                  funext i
                  cases tab'[i]? <;> rfl
                rw [e2] at ls
                have hD2 := ls_ints ls
                rw [List.map_map] at hD2
                replace hD2 : H24 D = some (.lst ((tab'.map (·.2)).map nV)) := hD2
                have ht3 : H24 t = some (.frz od (.dK (tabD tab'))) := f24.get upd_same nin0
                have eD : D ≠ t := ne_of hD2 ht3 (by intro z; cases z)
                have f25 := Fr.lock htt f24
                have hD25 : upd H24 t (.dK (tabD tab')) D = _ := (upd_ne eD).trans hD2
                refine ⟨ht3, ?_⟩
                have I25 := I23.mono f25
                have P6 := P5.mono f25 nin0 nin0
                generalize upd H24 t (.dK (tabD tab')) = H25 at *
                clear ls hD2 ht3 f24 hD
                walk_at "xs"
                refine ⟨l, D, rs, tab'.map (·.2), rfl, I25.T.L, I25.T.G.pos, I25.wf, by omega, SqL.of hD25, by rw [List.length_map]; omega, fun x hx => ?_, fun D2 H26 hD2 f26 hc => ?_⟩
                · obtain ⟨q, hq, rfl⟩ := List.mem_map.mp hx
                  exact I25.hes q hq
                · have I26 := I25.mono f26
                  have P7 := P6.mono f26 nin0 nin0
                  have hcl := cone_len rs (tab'.map (·.2))
                  refine lcA (cone rs (tab'.map (·.2))) nV (SqL.of hc) (by omega) (fun k => if (rs[k]?).any isBoth then some (.int (k : Int)) else none) (fun x H' E E' hx f2 k1 k2 => ?_) fun D3 H27 hD3 f27 ls => ?_
                  · have L3 := I26.T.L.mono f2 nin0
                    have hxl := (mem_cone.mp hx).1
                    have hri : rs[x]? = some rs[x] := List.getElem?_eq_getElem hxl
                    rw [hri] at k1 k2
                    walk_at "xs"
                    refine ixS L3 (by omega) (d := rowD rs[x]) (by rw [List.getElem?_map, Int.toNat_natCast, hri]; rfl) fun y hy => ?_
                    obtain ⟨pq, rfl, hp⟩ := row_at hy
                    obtain ⟨s0, t0, e0, e1, _⟩ := row0 rs[x]
                    rw [e0] at hp
                    walk_at "xs"
                    refine ifD (fun c => ?_) (fun c => ?_)
                    · walk_at "xs"
                      exact k1 _ _ _ (by rw [Option.any_some, if_pos (e1.mp c)]) (.int _) Fr.refl
                    · exact k2 _ (by rw [Option.any_some, if_neg (fun z => c (e1.mpr z))]) Fr.refl
                  · rw [fm_filter (fun k => (rs[k]?).any isBoth) (fun k : Nat => PyData.int (k : Int))] at ls
                    obtain ⟨vs3, h27, i27⟩ := ls
                    have l27 := i27.len
                    rw [List.length_map] at l27
                    have I27 := I26.mono f27
                    have P8 := P7.mono f27 nin0 nin0
                    walk_at "xs"
                    rw [hcone, ← l27]
                    refine ifN (fun z => absurd rfl z) fun _ => ?_
                    walk_at "xs"
                    rcases Rv.shape with ⟨vi, rfl⟩ | rfl
                    · rw [decI]
                      walk_at "xs"
                      exact k _
                    · rw [decN0]
                      walk_at "xs"
                      refine x_newK fun gv hgv => ?_
                      have f28 : Fr [] H27 (upd H27 gv (.dK [])) := Fr.new hgv
                      have pg := I27.fresh hgv
                      have I28 := I27.mono f28
                      have P9 := P8.mono f28 nin0 nin0
                      have npg : p ≠ gv := by obtain ⟨q⟩ := P8.1; exact ne1 hgv (by assumption)
                      have ntg : t1 ≠ gv := ne1 hgv P8.2
                      have h28 : upd H27 gv (.dK []) gv = some (.dK (gD [])) := upd_same
                      generalize upd H27 gv (.dK []) = H28 at *
                      clear i27 h27 hc hD25 f28 I27 I26 I25 I23 I21 P8 P7 P6 P5 P4 f27 f26 f25 f23
                      walk_at "xs"
                      refine forM (S := [s, gv]) I28.LO (nin1 n3.symm (nin1 pg.o.symm nin0)) (fun i σ H' => ∃ (gs : List (Int × Bool)) (w1 w2 : Option V), σ = [some (.ref a), some (.ref s), some (.ref o), some (.str (sv sd)), some (.ref g), some (.ref l), some (.ref t), some (.ref h), w1, w2, some (.ref hd), some (.ref p), some .non, some .non, some (.int (vs3.length : Int)), some (.ref D3), some (.ref gv), none, none] ∧ Fr [s, gv] H28 H' ∧ Sit CG K H' a s o g r kn l t ns os rs tab' ∧ PlanAt CP H' p g t1 sd tab1 ∧ H' gv = some (.dK (gD gs)) ∧ gs.length ≤ i ∧ ∀ x, (gget gs x).isSome = true ↔ Before os i (!sd) x) 
                        ⟨[], _, _, rfl, Fr.refl, I28, P9, h28, Nat.le_refl _, fun x => ⟨fun z => (by cases z), fun z => absurd z before_zero⟩⟩ (fun i σ' H' q => ?_) ?_ ?_
                      · obtain ⟨_, _, _, rfl, q, _⟩ := q; exact q
                      · rintro i dd x σ H' hdd hx ⟨gs, w1, w2, rfl, fA, IA, PA, hA, gl, mg0⟩
                        obtain ⟨⟨y, sl⟩, hos, rfl⟩ : ∃ q, os[i]? = some q ∧ dd = pairD q := by
                          rw [List.getElem?_map] at hdd
                          cases e : os[i]? with
                          | none => rw [e] at hdd; cases hdd
                          | some q => rw [e] at hdd; exact ⟨q, rfl, (Option.some.inj hdd).symm⟩
                        have hio := (List.getElem?_eq_some_iff.mp hos).1
                        obtain ⟨Tp, rfl, hT⟩ := pair_at hx
                        refine x_gtup hT rfl ?_
                        walk_at "xs"
                        refine ifN (fun c => ?_) (fun c => ?_)
                        · have c' : sl = !sd := by
                            cases sl <;> cases sd
                            · exact absurd rfl c
                            · rfl
                            · rfl
                            · exact absurd rfl c
                          subst c'
                          walk_at "xs"
                          refine ⟨a, s, 2, ns, rfl, IA.hs, IA.S, by omega, by omega, fun d5 H30 d50 d51 f30 S30 => ?_⟩
                          have I30 := IA.draw f30 S30
                          have h30 := f30.get hA (nin1 pg.s nin0)
                          have nps : p ≠ s := by obtain ⟨⟨_, q⟩, _⟩ := PA; obtain ⟨_, _, _, q2, _⟩ := IA.S; exact ne_of q q2 (by intro z; cases z)
                          have nts : t1 ≠ s := by obtain ⟨_, q⟩ := PA; obtain ⟨_, _, _, q2, _⟩ := IA.S; exact ne_of q q2 (by intro z; cases z)
                          have P30 := PA.mono f30 (nin1 nps nin0) (nin1 nts nin0)
                          obtain ⟨gs', g1, g2, g3⟩ := g_put gs y (decide (d5 = 1))
                          walk_at "xs"
                          refine putI h30 (by rw [g_len, sizeLine_eq]; omega) ?_
                          rw [g1]
                          have fB : Fr [gv] H30 (upd H30 gv (.dK (gD gs'))) := Fr.wr h30 not_fixed_dK (by simp)
                          refine ⟨gs', _, _, rfl, (fA.trans (f30.weak fun z hz => by simp at hz; simp [hz])).trans (fB.weak fun z hz => by simp at hz; simp [hz]), I30.wr pg fB, P30.mono fB (nin1 npg nin0) (nin1 ntg nin0), upd_same, by omega, fun x => ?_⟩
                          rw [g3, before_succ hos]
                          by_cases cx : x = y
                          · rw [if_pos cx]; exact ⟨fun _ => .inr ⟨rfl, cx⟩, fun _ => rfl⟩
                          · rw [if_neg cx, mg0]; exact ⟨.inl, fun z => z.resolve_right fun z => cx z.2⟩
                        · have c' := sv_inj.mp c
                          subst c'
                          refine ⟨gs, _, _, rfl, fA, IA, PA, hA, by omega, fun x => ?_⟩
                          rw [mg0, before_succ hos]
                          exact ⟨.inl, fun z => z.resolve_right fun z => by have := z.1; cases sl <;> cases this⟩
                      · rintro σ H31 ⟨gs, w1, w2, rfl, _, I31, P31, h31, gl, mg0⟩
                        rw [List.length_map] at gl mg0
                        have chk : ∀ (gs' : List (Int × Bool)), (∀ x, (gget gs x).isSome = true → (gget gs' x).isSome = true) → (∀ x, (valV (gD gs') (Sum.inl x)).getD (.bl false) = .bl ((gget gs' x).getD false)) ∧ ∀ k x, k ∈ cone rs (tab1.map (·.2)) → rs[k]? = some (.letter x) → (valV (gD gs') (Sum.inl x)).isSome = true := fun gs' hg => by
                          refine ⟨fun x => ?_, fun k x h1 h2 => ?_⟩
                          · rw [val_g]; cases gget gs' x <;> rfl
                          · rw [val_g, Option.isSome_map]
                            rw [hcone] at h1
                            exact hg x ((mg0 x).mpr (res_ahead Rv I31.nd h1 h2))
                        obtain ⟨ch1, ch2⟩ := chk gs fun x h => h
                        walk_at "xs"
                        refine ⟨p, g, t1, r, kn, l, t, gv, sd, tab1, tab', rs, gD gs, fun x => (gget gs x).getD false, rfl, P31, nd1, by omega, I31.T, I31.wf, by omega, hes1, I31.ht, I31.nd, tg1, tl1, h31, ch1, ch2, fun H32 f32 => ?_⟩
                        have I32 := I31.mono f32
                        have P32 := P31.mono f32 nin0 nin0
                        have h32 := f32.get h31 nin0
                        walk_at "xs"
                        refine ⟨gv, gD gs, rfl, h32, fun lg hlg => ?_⟩
                        have f33 : Fr [] H32 (upd H32 lg (.lst ((gD gs).map fun kv => kV kv.1))) := Fr.new hlg
                        have elg : (gD gs).map (fun kv => kV kv.1) = (gs.map (·.1)).map V.int := by unfold gD; rw [List.map_map, List.map_map]; rfl
                        have h33 := f33.get h32 nin0
                        have I33 := I32.mono f33
                        have P33 := P32.mono f33 nin0 nin0
                        have hl33 : upd H32 lg (.lst ((gD gs).map fun kv => kV kv.1)) lg = some (.lst ((gs.map (·.1)).map V.int)) := by rw [upd_same, elg]
                        have nlg : lg ≠ gv := ne2 hlg h32
                        generalize upd H32 lg (.lst ((gD gs).map fun kv => kV kv.1)) = H33 at *
                        refine forL (SqL.of hl33) (fun i σ H' => ∃ (gs' : List (Int × Bool)) (w1 : Option V), σ = [some (.ref a), some (.ref s), some (.ref o), some (.str (sv sd)), some (.ref g), some (.ref l), some (.ref t), some (.ref h), w1, w2, some (.ref hd), some (.ref p), some .non, some .non, some (.int (vs3.length : Int)), some (.ref D3), some (.ref gv), none, none] ∧ Fr [gv] H33 H' ∧ H' gv = some (.dK (gD gs')) ∧ gs'.length ≤ gs.length + i ∧ ∀ x, (gget gs x).isSome = true → (gget gs' x).isSome = true)
                          ⟨gs, _, rfl, Fr.refl, h33, Nat.le_refl _, fun x h => h⟩ (fun i σ H' _ q => ?_) ?_ ?_
                        · obtain ⟨_, _, rfl, q, _⟩ := q
                          exact SqL.of (q.get hl33 (nin1 nlg nin0))
                        · rintro i x σ H' hx ⟨gs', w1, rfl, fA, hA, gl', mono⟩
                          obtain ⟨y, hy, rfl⟩ := map_at hx
                          have hil := (List.getElem?_eq_some_iff.mp hy).1
                          rw [List.length_map] at hil
                          have hys : (gget gs y).isSome = true := by
                            have hm := List.mem_of_getElem? hy
                            obtain ⟨q, hq, rfl⟩ := List.mem_map.mp hm
                            unfold gget
                            rw [Option.isSome_map, List.find?_isSome]
                            exact ⟨q, hq, by simp⟩
                          obtain ⟨bv, hbv⟩ := Option.isSome_iff_exists.mp (mono y hys)
                          obtain ⟨gs2, g1, g2, g3⟩ := g_put gs' y (!bv)
                          walk_at "xs"
                          refine getI (.inl hA) (by rw [val_g, hbv]; rfl) ?_
                          walk_at "xs"
                          refine putI hA (by rw [g_len, sizeLine_eq]; omega) ?_
                          rw [g1]
                          refine ⟨gs2, _, rfl, fA.mutS hA not_fixed_dK (by simp), upd_same, by omega, fun x hx => ?_⟩
                          rw [g3]
                          by_cases cx : x = y
                          · rw [if_pos cx]; rfl
                          · rw [if_neg cx]; exact mono x hx
                        · rintro σ H34 ⟨gs', w1, rfl, fA, hA, gl', mono⟩
                          have I34 := I33.wr pg fA
                          have P34 := P33.mono fA (nin1 npg nin0) (nin1 ntg nin0)
                          obtain ⟨ch1, ch2⟩ := chk gs' mono
                          walk_at "xs"
                          exact ⟨p, g, t1, r, kn, l, t, gv, sd, tab1, tab', rs, gD gs', fun x => (gget gs' x).getD false, rfl, P34, nd1, by omega, I34.T, I34.wf, by omega, hes1, I34.ht, I34.nd, tg1, tl1, hA, ch1, ch2, fun H35 f35 => k _⟩
theorem sp_law {H : Hp} {a : Addr} {ns : List Int} (hl : ns.length ≤ 63) (ho : Only H) (hS : SqL K H a (ns.map V.int)) : spLaw K [.ref a] H (fun v _ => v = .bl true) fun _ _ _ => False := ⟨a, ns, rfl, SqF.only hS ho, fun _ => rfl⟩
end
end K

set_option maxRecDepth 100000
set_option maxHeartbeats 1000000
namespace K
open PySem L2 Z
theorem all_mk {l : PySem.W.OpenLaw} {w : World} {K : PySem.W.Frag} {h : Heap} {mg : Str → Option Value} {fa : Addr} {CP CG : Addr} (X : K.In h) (G : h.Ns mainGlobals mg) (hfa : mg "law" = some (.ref fa))
    {tk_NO : Tok}
    {tk_YES : Tok}
    {tk_SOME : Tok}
    {tk_ALL : Tok}
    {f__law_seed : Addr} {od__law_seed an__law_seed : Option Addr} {sl__law_seed : Array (Option Value)} {oc__law_seed kV__law_seed dc__law_seed pm__law_seed cd__law_seed ct__law_seed : Value}
    {f__law_take : Addr} {od__law_take an__law_take : Option Addr} {sl__law_take : Array (Option Value)} {oc__law_take kV__law_take dc__law_take pm__law_take cd__law_take ct__law_take : Value}
    {f_opposite : Addr} {od_opposite an_opposite : Option Addr} {sl_opposite : Array (Option Value)} {oc_opposite kV_opposite dc_opposite pm_opposite cd_opposite ct_opposite : Value}
    {f__law_opposite : Addr} {od__law_opposite an__law_opposite : Option Addr} {sl__law_opposite : Array (Option Value)} {oc__law_opposite kV__law_opposite dc__law_opposite pm__law_opposite cd__law_opposite ct__law_opposite : Value}
    {f_Gates___init__ : Addr} {od_Gates___init__ an_Gates___init__ : Option Addr} {sl_Gates___init__ : Array (Option Value)} {oc_Gates___init__ kV_Gates___init__ dc_Gates___init__ pm_Gates___init__ cd_Gates___init__ ct_Gates___init__ : Value}
    {f_Gates__edge_of : Addr} {od_Gates__edge_of an_Gates__edge_of : Option Addr} {sl_Gates__edge_of : Array (Option Value)} {oc_Gates__edge_of kV_Gates__edge_of dc_Gates__edge_of pm_Gates__edge_of cd_Gates__edge_of ct_Gates__edge_of : Value}
    {f_Gates_leaf : Addr} {od_Gates_leaf an_Gates_leaf : Option Addr} {sl_Gates_leaf : Array (Option Value)} {oc_Gates_leaf kV_Gates_leaf dc_Gates_leaf pm_Gates_leaf cd_Gates_leaf ct_Gates_leaf : Value}
    {f_Gates_both : Addr} {od_Gates_both an_Gates_both : Option Addr} {sl_Gates_both : Array (Option Value)} {oc_Gates_both kV_Gates_both dc_Gates_both pm_Gates_both cd_Gates_both ct_Gates_both : Value}
    {f__law_row : Addr} {od__law_row an__law_row : Option Addr} {sl__law_row : Array (Option Value)} {oc__law_row kV__law_row dc__law_row pm__law_row cd__law_row ct__law_row : Value}
    {f__law_both : Addr} {od__law_both an__law_both : Option Addr} {sl__law_both : Array (Option Value)} {oc__law_both kV__law_both dc__law_both pm__law_both cd__law_both ct__law_both : Value}
    {f_Gates_cone : Addr} {od_Gates_cone an_Gates_cone : Option Addr} {sl_Gates_cone : Array (Option Value)} {oc_Gates_cone kV_Gates_cone dc_Gates_cone pm_Gates_cone cd_Gates_cone ct_Gates_cone : Value}
    {f_Gates_gate_rows : Addr} {od_Gates_gate_rows an_Gates_gate_rows : Option Addr} {sl_Gates_gate_rows : Array (Option Value)} {oc_Gates_gate_rows kV_Gates_gate_rows dc_Gates_gate_rows pm_Gates_gate_rows cd_Gates_gate_rows ct_Gates_gate_rows : Value}
    {f_Gates_hangs_on : Addr} {od_Gates_hangs_on an_Gates_hangs_on : Option Addr} {sl_Gates_hangs_on : Array (Option Value)} {oc_Gates_hangs_on kV_Gates_hangs_on dc_Gates_hangs_on pm_Gates_hangs_on cd_Gates_hangs_on ct_Gates_hangs_on : Value}
    {f__law_reached : Addr} {od__law_reached an__law_reached : Option Addr} {sl__law_reached : Array (Option Value)} {oc__law_reached kV__law_reached dc__law_reached pm__law_reached cd__law_reached ct__law_reached : Value}
    {f__law_value : Addr} {od__law_value an__law_value : Option Addr} {sl__law_value : Array (Option Value)} {oc__law_value kV__law_value dc__law_value pm__law_value cd__law_value ct__law_value : Value}
    {f__law_truths : Addr} {od__law_truths an__law_truths : Option Addr} {sl__law_truths : Array (Option Value)} {oc__law_truths kV__law_truths dc__law_truths pm__law_truths cd__law_truths ct__law_truths : Value}
    {f_Gates_worths : Addr} {od_Gates_worths an_Gates_worths : Option Addr} {sl_Gates_worths : Array (Option Value)} {oc_Gates_worths kV_Gates_worths dc_Gates_worths pm_Gates_worths cd_Gates_worths ct_Gates_worths : Value}
    {f__law_order : Addr} {od__law_order an__law_order : Option Addr} {sl__law_order : Array (Option Value)} {oc__law_order kV__law_order dc__law_order pm__law_order cd__law_order ct__law_order : Value}
    {f__law_both_of : Addr} {od__law_both_of an__law_both_of : Option Addr} {sl__law_both_of : Array (Option Value)} {oc__law_both_of kV__law_both_of dc__law_both_of pm__law_both_of cd__law_both_of ct__law_both_of : Value}
    {f__law_edge : Addr} {od__law_edge an__law_edge : Option Addr} {sl__law_edge : Array (Option Value)} {oc__law_edge kV__law_edge dc__law_edge pm__law_edge cd__law_edge ct__law_edge : Value}
    {f_other : Addr} {od_other an_other : Option Addr} {sl_other : Array (Option Value)} {oc_other kV_other dc_other pm_other cd_other ct_other : Value}
    {f_Plan___init__ : Addr} {od_Plan___init__ an_Plan___init__ : Option Addr} {sl_Plan___init__ : Array (Option Value)} {oc_Plan___init__ kV_Plan___init__ dc_Plan___init__ pm_Plan___init__ cd_Plan___init__ ct_Plan___init__ : Value}
    {f_Plan_edges : Addr} {od_Plan_edges an_Plan_edges : Option Addr} {sl_Plan_edges : Array (Option Value)} {oc_Plan_edges kV_Plan_edges dc_Plan_edges pm_Plan_edges cd_Plan_edges ct_Plan_edges : Value}
    {f_Plan_gate_count : Addr} {od_Plan_gate_count an_Plan_gate_count : Option Addr} {sl_Plan_gate_count : Array (Option Value)} {oc_Plan_gate_count kV_Plan_gate_count dc_Plan_gate_count pm_Plan_gate_count cd_Plan_gate_count ct_Plan_gate_count : Value}
    {f_Plan_answers : Addr} {od_Plan_answers an_Plan_answers : Option Addr} {sl_Plan_answers : Array (Option Value)} {oc_Plan_answers kV_Plan_answers dc_Plan_answers pm_Plan_answers cd_Plan_answers ct_Plan_answers : Value}
    {f__law_answers : Addr} {od__law_answers an__law_answers : Option Addr} {sl__law_answers : Array (Option Value)} {oc__law_answers kV__law_answers dc__law_answers pm__law_answers cd__law_answers ct__law_answers : Value}
    {f_Plan_misfit : Addr} {od_Plan_misfit an_Plan_misfit : Option Addr} {sl_Plan_misfit : Array (Option Value)} {oc_Plan_misfit kV_Plan_misfit dc_Plan_misfit pm_Plan_misfit cd_Plan_misfit ct_Plan_misfit : Value}
    {f__law_misfit : Addr} {od__law_misfit an__law_misfit : Option Addr} {sl__law_misfit : Array (Option Value)} {oc__law_misfit kV__law_misfit dc__law_misfit pm__law_misfit cd__law_misfit ct__law_misfit : Value}
    {f__law_fault : Addr} {od__law_fault an__law_fault : Option Addr} {sl__law_fault : Array (Option Value)} {oc__law_fault kV__law_fault dc__law_fault pm__law_fault cd__law_fault ct__law_fault : Value}
    {f_law : Addr} {od_law an_law : Option Addr} {sl_law : Array (Option Value)} {oc_law kV_law dc_law pm_law cd_law ct_law : Value}
    (ac_Plan : PySem.W.nsIn K mainGlobals "Plan" = some (some (.ref CP)))
    (mk_Plan : PySem.W.makesIn K CP = true)
    (kc_Plan : PySem.W.keepIn K (.ref CP) = true)
    (ac_Gates : PySem.W.nsIn K mainGlobals "Gates" = some (some (.ref CG)))
    (mk_Gates : PySem.W.makesIn K CG = true)
    (kc_Gates : PySem.W.keepIn K (.ref CG) = true)
    (z_len : PySem.W.nsIn K mainGlobals "len" = some none)
    (z_abs : PySem.W.nsIn K mainGlobals "abs" = some none)
    (z_int : PySem.W.nsIn K mainGlobals "int" = some none)
    (z_min : PySem.W.nsIn K mainGlobals "min" = some none)
    (z_max : PySem.W.nsIn K mainGlobals "max" = some none)
    (z_range : PySem.W.nsIn K mainGlobals "range" = some none)
    (z_list : PySem.W.nsIn K mainGlobals "list" = some none)
    (z_dict : PySem.W.nsIn K mainGlobals "dict" = some none)
    (z_sorted : PySem.W.nsIn K mainGlobals "sorted" = some none)
    (z_zip : PySem.W.nsIn K mainGlobals "zip" = some none)
    (z_isinstance : PySem.W.nsIn K mainGlobals "isinstance" = some none)
    (z_bool : PySem.W.nsIn K mainGlobals "bool" = some none)
    (q_NO : PySem.W.nsIn K mainGlobals "NO" = some (some (.int 0 tk_NO)))
    (q_YES : PySem.W.nsIn K mainGlobals "YES" = some (some (.int 1 tk_YES)))
    (q_SOME : PySem.W.nsIn K mainGlobals "SOME" = some (some (.str "some" tk_SOME)))
    (q_ALL : PySem.W.nsIn K mainGlobals "ALL" = some (some (.str "all" tk_ALL)))
    (pg_Plan : PySem.W.plainGet K CP Str.empty = true)
    (hd_Plan : PySem.W.hasDictIn K CP = true)
    (po_Plan : PySem.W.plainOver K CP = true)
    (sa_Plan : PySem.W.findIn K (.ref CP) "__setattr__" = some (some (.builtin "object.__setattr__")))
    (pg_Gates : PySem.W.plainGet K CG Str.empty = true)
    (hd_Gates : PySem.W.hasDictIn K CG = true)
    (po_Gates : PySem.W.plainOver K CG = true)
    (sa_Gates : PySem.W.findIn K (.ref CG) "__setattr__" = some (some (.builtin "object.__setattr__")))
    (na_rows : PySem.W.findIn K (.ref CG) "rows" = some none)
    (na_known : PySem.W.findIn K (.ref CG) "_known" = some none)
    (na_side : PySem.W.findIn K (.ref CP) "side" = some none)
    (na_gates : PySem.W.findIn K (.ref CP) "gates" = some none)
    (na_table : PySem.W.findIn K (.ref CP) "table" = some none)
    (a__law_seed : PySem.W.nsIn K mainGlobals "_law_seed" = some (some (.ref f__law_seed)))
    (l__law_seed : K.lookup f__law_seed = some ⟨oc__law_seed, od__law_seed, .func (PySem.W.fnOf "_law_seed" "_law_seed" (defArgs s__law_seed) (defBody s__law_seed) (defScope s__law_seed) .none kV__law_seed dc__law_seed pm__law_seed an__law_seed cd__law_seed ct__law_seed), sl__law_seed⟩)
    (c__law_seed : PySem.W.codeIn K cd__law_seed "_law_seed" = true)
    (k__law_seed : PySem.W.keepIn K (.ref f__law_seed) = true)
    (a__law_take : PySem.W.nsIn K mainGlobals "_law_take" = some (some (.ref f__law_take)))
    (l__law_take : K.lookup f__law_take = some ⟨oc__law_take, od__law_take, .func (PySem.W.fnOf "_law_take" "_law_take" (defArgs s__law_take) (defBody s__law_take) (defScope s__law_take) .none kV__law_take dc__law_take pm__law_take an__law_take cd__law_take ct__law_take), sl__law_take⟩)
    (c__law_take : PySem.W.codeIn K cd__law_take "_law_take" = true)
    (k__law_take : PySem.W.keepIn K (.ref f__law_take) = true)
    (a_opposite : PySem.W.nsIn K mainGlobals "opposite" = some (some (.ref f_opposite)))
    (l_opposite : K.lookup f_opposite = some ⟨oc_opposite, od_opposite, .func (PySem.W.fnOf "opposite" "opposite" (defArgs s_opposite) (defBody s_opposite) (defScope s_opposite) .none kV_opposite dc_opposite pm_opposite an_opposite cd_opposite ct_opposite), sl_opposite⟩)
    (c_opposite : PySem.W.codeIn K cd_opposite "opposite" = true)
    (k_opposite : PySem.W.keepIn K (.ref f_opposite) = true)
    (a__law_opposite : PySem.W.nsIn K mainGlobals "_law_opposite" = some (some (.ref f__law_opposite)))
    (l__law_opposite : K.lookup f__law_opposite = some ⟨oc__law_opposite, od__law_opposite, .func (PySem.W.fnOf "_law_opposite" "_law_opposite" (defArgs s__law_opposite) (defBody s__law_opposite) (defScope s__law_opposite) .none kV__law_opposite dc__law_opposite pm__law_opposite an__law_opposite cd__law_opposite ct__law_opposite), sl__law_opposite⟩)
    (c__law_opposite : PySem.W.codeIn K cd__law_opposite "_law_opposite" = true)
    (k__law_opposite : PySem.W.keepIn K (.ref f__law_opposite) = true)
    (a_Gates___init__ : PySem.W.findIn K (.ref CG) "__init__" = some (some (.ref f_Gates___init__)))
    (i_Gates___init__ : PySem.W.isFn K (.ref f_Gates___init__) = true)
    (l_Gates___init__ : K.lookup f_Gates___init__ = some ⟨oc_Gates___init__, od_Gates___init__, .func (PySem.W.fnOf "__init__" "Gates.__init__" (defArgs s_Gates___init__) (defBody s_Gates___init__) (defScope s_Gates___init__) .none kV_Gates___init__ dc_Gates___init__ pm_Gates___init__ an_Gates___init__ cd_Gates___init__ ct_Gates___init__), sl_Gates___init__⟩)
    (c_Gates___init__ : PySem.W.codeIn K cd_Gates___init__ "Gates.__init__" = true)
    (k_Gates___init__ : PySem.W.keepIn K (.ref f_Gates___init__) = true)
    (a_Gates__edge_of : PySem.W.findIn K (.ref CG) "_edge_of" = some (some (.ref f_Gates__edge_of)))
    (i_Gates__edge_of : PySem.W.isFn K (.ref f_Gates__edge_of) = true)
    (l_Gates__edge_of : K.lookup f_Gates__edge_of = some ⟨oc_Gates__edge_of, od_Gates__edge_of, .func (PySem.W.fnOf "_edge_of" "Gates._edge_of" (defArgs s_Gates__edge_of) (defBody s_Gates__edge_of) (defScope s_Gates__edge_of) .none kV_Gates__edge_of dc_Gates__edge_of pm_Gates__edge_of an_Gates__edge_of cd_Gates__edge_of ct_Gates__edge_of), sl_Gates__edge_of⟩)
    (c_Gates__edge_of : PySem.W.codeIn K cd_Gates__edge_of "Gates._edge_of" = true)
    (k_Gates__edge_of : PySem.W.keepIn K (.ref f_Gates__edge_of) = true)
    (a_Gates_leaf : PySem.W.findIn K (.ref CG) "leaf" = some (some (.ref f_Gates_leaf)))
    (i_Gates_leaf : PySem.W.isFn K (.ref f_Gates_leaf) = true)
    (l_Gates_leaf : K.lookup f_Gates_leaf = some ⟨oc_Gates_leaf, od_Gates_leaf, .func (PySem.W.fnOf "leaf" "Gates.leaf" (defArgs s_Gates_leaf) (defBody s_Gates_leaf) (defScope s_Gates_leaf) .none kV_Gates_leaf dc_Gates_leaf pm_Gates_leaf an_Gates_leaf cd_Gates_leaf ct_Gates_leaf), sl_Gates_leaf⟩)
    (c_Gates_leaf : PySem.W.codeIn K cd_Gates_leaf "Gates.leaf" = true)
    (k_Gates_leaf : PySem.W.keepIn K (.ref f_Gates_leaf) = true)
    (a_Gates_both : PySem.W.findIn K (.ref CG) "both" = some (some (.ref f_Gates_both)))
    (i_Gates_both : PySem.W.isFn K (.ref f_Gates_both) = true)
    (l_Gates_both : K.lookup f_Gates_both = some ⟨oc_Gates_both, od_Gates_both, .func (PySem.W.fnOf "both" "Gates.both" (defArgs s_Gates_both) (defBody s_Gates_both) (defScope s_Gates_both) .none kV_Gates_both dc_Gates_both pm_Gates_both an_Gates_both cd_Gates_both ct_Gates_both), sl_Gates_both⟩)
    (c_Gates_both : PySem.W.codeIn K cd_Gates_both "Gates.both" = true)
    (k_Gates_both : PySem.W.keepIn K (.ref f_Gates_both) = true)
    (a__law_row : PySem.W.nsIn K mainGlobals "_law_row" = some (some (.ref f__law_row)))
    (l__law_row : K.lookup f__law_row = some ⟨oc__law_row, od__law_row, .func (PySem.W.fnOf "_law_row" "_law_row" (defArgs s__law_row) (defBody s__law_row) (defScope s__law_row) .none kV__law_row dc__law_row pm__law_row an__law_row cd__law_row ct__law_row), sl__law_row⟩)
    (c__law_row : PySem.W.codeIn K cd__law_row "_law_row" = true)
    (k__law_row : PySem.W.keepIn K (.ref f__law_row) = true)
    (a__law_both : PySem.W.nsIn K mainGlobals "_law_both" = some (some (.ref f__law_both)))
    (l__law_both : K.lookup f__law_both = some ⟨oc__law_both, od__law_both, .func (PySem.W.fnOf "_law_both" "_law_both" (defArgs s__law_both) (defBody s__law_both) (defScope s__law_both) .none kV__law_both dc__law_both pm__law_both an__law_both cd__law_both ct__law_both), sl__law_both⟩)
    (c__law_both : PySem.W.codeIn K cd__law_both "_law_both" = true)
    (k__law_both : PySem.W.keepIn K (.ref f__law_both) = true)
    (a_Gates_cone : PySem.W.findIn K (.ref CG) "cone" = some (some (.ref f_Gates_cone)))
    (i_Gates_cone : PySem.W.isFn K (.ref f_Gates_cone) = true)
    (l_Gates_cone : K.lookup f_Gates_cone = some ⟨oc_Gates_cone, od_Gates_cone, .func (PySem.W.fnOf "cone" "Gates.cone" (defArgs s_Gates_cone) (defBody s_Gates_cone) (defScope s_Gates_cone) .none kV_Gates_cone dc_Gates_cone pm_Gates_cone an_Gates_cone cd_Gates_cone ct_Gates_cone), sl_Gates_cone⟩)
    (c_Gates_cone : PySem.W.codeIn K cd_Gates_cone "Gates.cone" = true)
    (k_Gates_cone : PySem.W.keepIn K (.ref f_Gates_cone) = true)
    (a_Gates_gate_rows : PySem.W.findIn K (.ref CG) "gate_rows" = some (some (.ref f_Gates_gate_rows)))
    (i_Gates_gate_rows : PySem.W.isFn K (.ref f_Gates_gate_rows) = true)
    (l_Gates_gate_rows : K.lookup f_Gates_gate_rows = some ⟨oc_Gates_gate_rows, od_Gates_gate_rows, .func (PySem.W.fnOf "gate_rows" "Gates.gate_rows" (defArgs s_Gates_gate_rows) (defBody s_Gates_gate_rows) (defScope s_Gates_gate_rows) .none kV_Gates_gate_rows dc_Gates_gate_rows pm_Gates_gate_rows an_Gates_gate_rows cd_Gates_gate_rows ct_Gates_gate_rows), sl_Gates_gate_rows⟩)
    (c_Gates_gate_rows : PySem.W.codeIn K cd_Gates_gate_rows "Gates.gate_rows" = true)
    (k_Gates_gate_rows : PySem.W.keepIn K (.ref f_Gates_gate_rows) = true)
    (a_Gates_hangs_on : PySem.W.findIn K (.ref CG) "hangs_on" = some (some (.ref f_Gates_hangs_on)))
    (i_Gates_hangs_on : PySem.W.isFn K (.ref f_Gates_hangs_on) = true)
    (l_Gates_hangs_on : K.lookup f_Gates_hangs_on = some ⟨oc_Gates_hangs_on, od_Gates_hangs_on, .func (PySem.W.fnOf "hangs_on" "Gates.hangs_on" (defArgs s_Gates_hangs_on) (defBody s_Gates_hangs_on) (defScope s_Gates_hangs_on) .none kV_Gates_hangs_on dc_Gates_hangs_on pm_Gates_hangs_on an_Gates_hangs_on cd_Gates_hangs_on ct_Gates_hangs_on), sl_Gates_hangs_on⟩)
    (c_Gates_hangs_on : PySem.W.codeIn K cd_Gates_hangs_on "Gates.hangs_on" = true)
    (k_Gates_hangs_on : PySem.W.keepIn K (.ref f_Gates_hangs_on) = true)
    (a__law_reached : PySem.W.nsIn K mainGlobals "_law_reached" = some (some (.ref f__law_reached)))
    (l__law_reached : K.lookup f__law_reached = some ⟨oc__law_reached, od__law_reached, .func (PySem.W.fnOf "_law_reached" "_law_reached" (defArgs s__law_reached) (defBody s__law_reached) (defScope s__law_reached) .none kV__law_reached dc__law_reached pm__law_reached an__law_reached cd__law_reached ct__law_reached), sl__law_reached⟩)
    (c__law_reached : PySem.W.codeIn K cd__law_reached "_law_reached" = true)
    (k__law_reached : PySem.W.keepIn K (.ref f__law_reached) = true)
    (a__law_value : PySem.W.nsIn K mainGlobals "_law_value" = some (some (.ref f__law_value)))
    (l__law_value : K.lookup f__law_value = some ⟨oc__law_value, od__law_value, .func (PySem.W.fnOf "_law_value" "_law_value" (defArgs s__law_value) (defBody s__law_value) (defScope s__law_value) .none kV__law_value dc__law_value pm__law_value an__law_value cd__law_value ct__law_value), sl__law_value⟩)
    (c__law_value : PySem.W.codeIn K cd__law_value "_law_value" = true)
    (k__law_value : PySem.W.keepIn K (.ref f__law_value) = true)
    (a__law_truths : PySem.W.nsIn K mainGlobals "_law_truths" = some (some (.ref f__law_truths)))
    (l__law_truths : K.lookup f__law_truths = some ⟨oc__law_truths, od__law_truths, .func (PySem.W.fnOf "_law_truths" "_law_truths" (defArgs s__law_truths) (defBody s__law_truths) (defScope s__law_truths) .none kV__law_truths dc__law_truths pm__law_truths an__law_truths cd__law_truths ct__law_truths), sl__law_truths⟩)
    (c__law_truths : PySem.W.codeIn K cd__law_truths "_law_truths" = true)
    (k__law_truths : PySem.W.keepIn K (.ref f__law_truths) = true)
    (a_Gates_worths : PySem.W.findIn K (.ref CG) "worths" = some (some (.ref f_Gates_worths)))
    (i_Gates_worths : PySem.W.isFn K (.ref f_Gates_worths) = true)
    (l_Gates_worths : K.lookup f_Gates_worths = some ⟨oc_Gates_worths, od_Gates_worths, .func (PySem.W.fnOf "worths" "Gates.worths" (defArgs s_Gates_worths) (defBody s_Gates_worths) (defScope s_Gates_worths) .none kV_Gates_worths dc_Gates_worths pm_Gates_worths an_Gates_worths cd_Gates_worths ct_Gates_worths), sl_Gates_worths⟩)
    (c_Gates_worths : PySem.W.codeIn K cd_Gates_worths "Gates.worths" = true)
    (k_Gates_worths : PySem.W.keepIn K (.ref f_Gates_worths) = true)
    (a__law_order : PySem.W.nsIn K mainGlobals "_law_order" = some (some (.ref f__law_order)))
    (l__law_order : K.lookup f__law_order = some ⟨oc__law_order, od__law_order, .func (PySem.W.fnOf "_law_order" "_law_order" (defArgs s__law_order) (defBody s__law_order) (defScope s__law_order) .none kV__law_order dc__law_order pm__law_order an__law_order cd__law_order ct__law_order), sl__law_order⟩)
    (c__law_order : PySem.W.codeIn K cd__law_order "_law_order" = true)
    (k__law_order : PySem.W.keepIn K (.ref f__law_order) = true)
    (a__law_both_of : PySem.W.nsIn K mainGlobals "_law_both_of" = some (some (.ref f__law_both_of)))
    (l__law_both_of : K.lookup f__law_both_of = some ⟨oc__law_both_of, od__law_both_of, .func (PySem.W.fnOf "_law_both_of" "_law_both_of" (defArgs s__law_both_of) (defBody s__law_both_of) (defScope s__law_both_of) .none kV__law_both_of dc__law_both_of pm__law_both_of an__law_both_of cd__law_both_of ct__law_both_of), sl__law_both_of⟩)
    (c__law_both_of : PySem.W.codeIn K cd__law_both_of "_law_both_of" = true)
    (k__law_both_of : PySem.W.keepIn K (.ref f__law_both_of) = true)
    (a__law_edge : PySem.W.nsIn K mainGlobals "_law_edge" = some (some (.ref f__law_edge)))
    (l__law_edge : K.lookup f__law_edge = some ⟨oc__law_edge, od__law_edge, .func (PySem.W.fnOf "_law_edge" "_law_edge" (defArgs s__law_edge) (defBody s__law_edge) (defScope s__law_edge) .none kV__law_edge dc__law_edge pm__law_edge an__law_edge cd__law_edge ct__law_edge), sl__law_edge⟩)
    (c__law_edge : PySem.W.codeIn K cd__law_edge "_law_edge" = true)
    (k__law_edge : PySem.W.keepIn K (.ref f__law_edge) = true)
    (a_other : PySem.W.nsIn K mainGlobals "other" = some (some (.ref f_other)))
    (l_other : K.lookup f_other = some ⟨oc_other, od_other, .func (PySem.W.fnOf "other" "other" (defArgs s_other) (defBody s_other) (defScope s_other) .none kV_other dc_other pm_other an_other cd_other ct_other), sl_other⟩)
    (c_other : PySem.W.codeIn K cd_other "other" = true)
    (k_other : PySem.W.keepIn K (.ref f_other) = true)
    (a_Plan___init__ : PySem.W.findIn K (.ref CP) "__init__" = some (some (.ref f_Plan___init__)))
    (i_Plan___init__ : PySem.W.isFn K (.ref f_Plan___init__) = true)
    (l_Plan___init__ : K.lookup f_Plan___init__ = some ⟨oc_Plan___init__, od_Plan___init__, .func (PySem.W.fnOf "__init__" "Plan.__init__" (defArgs s_Plan___init__) (defBody s_Plan___init__) (defScope s_Plan___init__) .none kV_Plan___init__ dc_Plan___init__ pm_Plan___init__ an_Plan___init__ cd_Plan___init__ ct_Plan___init__), sl_Plan___init__⟩)
    (c_Plan___init__ : PySem.W.codeIn K cd_Plan___init__ "Plan.__init__" = true)
    (k_Plan___init__ : PySem.W.keepIn K (.ref f_Plan___init__) = true)
    (a_Plan_edges : PySem.W.findIn K (.ref CP) "edges" = some (some (.ref f_Plan_edges)))
    (i_Plan_edges : PySem.W.isFn K (.ref f_Plan_edges) = true)
    (l_Plan_edges : K.lookup f_Plan_edges = some ⟨oc_Plan_edges, od_Plan_edges, .func (PySem.W.fnOf "edges" "Plan.edges" (defArgs s_Plan_edges) (defBody s_Plan_edges) (defScope s_Plan_edges) .none kV_Plan_edges dc_Plan_edges pm_Plan_edges an_Plan_edges cd_Plan_edges ct_Plan_edges), sl_Plan_edges⟩)
    (c_Plan_edges : PySem.W.codeIn K cd_Plan_edges "Plan.edges" = true)
    (k_Plan_edges : PySem.W.keepIn K (.ref f_Plan_edges) = true)
    (a_Plan_gate_count : PySem.W.findIn K (.ref CP) "gate_count" = some (some (.ref f_Plan_gate_count)))
    (i_Plan_gate_count : PySem.W.isFn K (.ref f_Plan_gate_count) = true)
    (l_Plan_gate_count : K.lookup f_Plan_gate_count = some ⟨oc_Plan_gate_count, od_Plan_gate_count, .func (PySem.W.fnOf "gate_count" "Plan.gate_count" (defArgs s_Plan_gate_count) (defBody s_Plan_gate_count) (defScope s_Plan_gate_count) .none kV_Plan_gate_count dc_Plan_gate_count pm_Plan_gate_count an_Plan_gate_count cd_Plan_gate_count ct_Plan_gate_count), sl_Plan_gate_count⟩)
    (c_Plan_gate_count : PySem.W.codeIn K cd_Plan_gate_count "Plan.gate_count" = true)
    (k_Plan_gate_count : PySem.W.keepIn K (.ref f_Plan_gate_count) = true)
    (a_Plan_answers : PySem.W.findIn K (.ref CP) "answers" = some (some (.ref f_Plan_answers)))
    (i_Plan_answers : PySem.W.isFn K (.ref f_Plan_answers) = true)
    (l_Plan_answers : K.lookup f_Plan_answers = some ⟨oc_Plan_answers, od_Plan_answers, .func (PySem.W.fnOf "answers" "Plan.answers" (defArgs s_Plan_answers) (defBody s_Plan_answers) (defScope s_Plan_answers) .none kV_Plan_answers dc_Plan_answers pm_Plan_answers an_Plan_answers cd_Plan_answers ct_Plan_answers), sl_Plan_answers⟩)
    (c_Plan_answers : PySem.W.codeIn K cd_Plan_answers "Plan.answers" = true)
    (k_Plan_answers : PySem.W.keepIn K (.ref f_Plan_answers) = true)
    (a__law_answers : PySem.W.nsIn K mainGlobals "_law_answers" = some (some (.ref f__law_answers)))
    (l__law_answers : K.lookup f__law_answers = some ⟨oc__law_answers, od__law_answers, .func (PySem.W.fnOf "_law_answers" "_law_answers" (defArgs s__law_answers) (defBody s__law_answers) (defScope s__law_answers) .none kV__law_answers dc__law_answers pm__law_answers an__law_answers cd__law_answers ct__law_answers), sl__law_answers⟩)
    (c__law_answers : PySem.W.codeIn K cd__law_answers "_law_answers" = true)
    (k__law_answers : PySem.W.keepIn K (.ref f__law_answers) = true)
    (a_Plan_misfit : PySem.W.findIn K (.ref CP) "misfit" = some (some (.ref f_Plan_misfit)))
    (i_Plan_misfit : PySem.W.isFn K (.ref f_Plan_misfit) = true)
    (l_Plan_misfit : K.lookup f_Plan_misfit = some ⟨oc_Plan_misfit, od_Plan_misfit, .func (PySem.W.fnOf "misfit" "Plan.misfit" (defArgs s_Plan_misfit) (defBody s_Plan_misfit) (defScope s_Plan_misfit) .none kV_Plan_misfit dc_Plan_misfit pm_Plan_misfit an_Plan_misfit cd_Plan_misfit ct_Plan_misfit), sl_Plan_misfit⟩)
    (c_Plan_misfit : PySem.W.codeIn K cd_Plan_misfit "Plan.misfit" = true)
    (k_Plan_misfit : PySem.W.keepIn K (.ref f_Plan_misfit) = true)
    (a__law_misfit : PySem.W.nsIn K mainGlobals "_law_misfit" = some (some (.ref f__law_misfit)))
    (l__law_misfit : K.lookup f__law_misfit = some ⟨oc__law_misfit, od__law_misfit, .func (PySem.W.fnOf "_law_misfit" "_law_misfit" (defArgs s__law_misfit) (defBody s__law_misfit) (defScope s__law_misfit) .none kV__law_misfit dc__law_misfit pm__law_misfit an__law_misfit cd__law_misfit ct__law_misfit), sl__law_misfit⟩)
    (c__law_misfit : PySem.W.codeIn K cd__law_misfit "_law_misfit" = true)
    (k__law_misfit : PySem.W.keepIn K (.ref f__law_misfit) = true)
    (a__law_fault : PySem.W.nsIn K mainGlobals "_law_fault" = some (some (.ref f__law_fault)))
    (l__law_fault : K.lookup f__law_fault = some ⟨oc__law_fault, od__law_fault, .func (PySem.W.fnOf "_law_fault" "_law_fault" (defArgs s__law_fault) (defBody s__law_fault) (defScope s__law_fault) .none kV__law_fault dc__law_fault pm__law_fault an__law_fault cd__law_fault ct__law_fault), sl__law_fault⟩)
    (c__law_fault : PySem.W.codeIn K cd__law_fault "_law_fault" = true)
    (k__law_fault : PySem.W.keepIn K (.ref f__law_fault) = true)
    (a_law : PySem.W.nsIn K mainGlobals "law" = some (some (.ref f_law)))
    (l_law : K.lookup f_law = some ⟨oc_law, od_law, .func (PySem.W.fnOf "law" "law" (defArgs s_law) (defBody s_law) (defScope s_law) .none kV_law dc_law pm_law an_law cd_law ct_law), sl_law⟩)
    (c_law : PySem.W.codeIn K cd_law "law" = true)
    (k_law : PySem.W.keepIn K (.ref f_law) = true)
    : ∃ fd : FuncData, (∀ (s : Shared) (v : Value), BindsTo s fd ⟨[v], []⟩ [("script", v)]) ∧ ∀ base : Heap, K.In base → base.Ns mainGlobals mg → FnOk l.prog w K mg base CX0 5 fa fd ["script"] (spLaw K) := by
  have e := hfa.symm.trans (PySem.W.mg_of X G a_law)
  cases e
  have B : Bi K mg CP CG := ⟨PySem.W.mg_none_of X G z_len, PySem.W.mg_none_of X G z_abs, PySem.W.mg_none_of X G z_int, PySem.W.mg_none_of X G z_min, PySem.W.mg_none_of X G z_max, PySem.W.mg_none_of X G z_range, PySem.W.mg_none_of X G z_list, PySem.W.mg_none_of X G z_dict, PySem.W.mg_none_of X G z_sorted, PySem.W.mg_none_of X G z_zip, PySem.W.mg_none_of X G z_isinstance, PySem.W.mg_none_of X G z_bool, ⟨_, PySem.W.mg_of X G q_NO⟩, ⟨_, PySem.W.mg_of X G q_YES⟩, ⟨_, PySem.W.mg_of X G q_SOME⟩, ⟨_, PySem.W.mg_of X G q_ALL⟩, ⟨pg_Plan, hd_Plan, po_Plan, sa_Plan⟩, ⟨pg_Gates, hd_Gates, po_Gates, sa_Gates⟩, na_rows, na_known, na_side, na_gates, na_table⟩
  have F__law_seed := fun_mk (st := s__law_seed) l__law_seed c__law_seed k__law_seed
  have h__law_seed := fun base : Heap => ok_seed (P := l.prog) (w := w) (base := base) B  ⟨F__law_seed, PySem.W.mg_of X G a__law_seed, F__law_seed.binds (ps := ["script"]) fun _ _ _ _ _ _ us hl => match us, hl with | [_], _ => rfl⟩
  have F__law_take := fun_mk (st := s__law_take) l__law_take c__law_take k__law_take
  have h__law_take := fun base : Heap => ok_take (P := l.prog) (w := w) (base := base) B  ⟨F__law_take, PySem.W.mg_of X G a__law_take, F__law_take.binds (ps := ["script", "source", "size"]) fun _ _ _ _ _ _ us hl => match us, hl with | [_, _, _], _ => rfl⟩
  have F_opposite := fun_mk (st := s_opposite) l_opposite c_opposite k_opposite
  have h_opposite := fun base : Heap => ok_opposite (P := l.prog) (w := w) (base := base) B  ⟨F_opposite, PySem.W.mg_of X G a_opposite, F_opposite.binds (ps := ["edge"]) fun _ _ _ _ _ _ us hl => match us, hl with | [_], _ => rfl⟩
  have F__law_opposite := fun_mk (st := s__law_opposite) l__law_opposite c__law_opposite k__law_opposite
  have h__law_opposite := fun base : Heap => ok_lopp (P := l.prog) (w := w) (base := base) B  ⟨F__law_opposite, PySem.W.mg_of X G a__law_opposite, F__law_opposite.binds (ps := ["edge"]) fun _ _ _ _ _ _ us hl => match us, hl with | [_], _ => rfl⟩
  have F_Gates___init__ := fun_mk (st := s_Gates___init__) l_Gates___init__ c_Gates___init__ k_Gates___init__
  have h_Gates := fun base : Heap => ok_ginit (P := l.prog) (w := w) (base := base) B  ⟨F_Gates___init__, ⟨mk_Gates, a_Gates___init__, i_Gates___init__, kc_Gates⟩, PySem.W.mg_of X G ac_Gates, F_Gates___init__.binds (ps := ["self"]) fun _ _ _ _ _ _ us hl => match us, hl with | [_], _ => rfl⟩
  have F_Gates__edge_of := fun_mk (st := s_Gates__edge_of) l_Gates__edge_of c_Gates__edge_of k_Gates__edge_of
  have h_Gates__edge_of := fun base : Heap => ok_edge (P := l.prog) (w := w) (base := base) B  ⟨F_Gates__edge_of, ⟨a_Gates__edge_of, i_Gates__edge_of, k_Gates__edge_of⟩, F_Gates__edge_of.binds (ps := ["self", "row"]) fun _ _ _ _ _ _ us hl => match us, hl with | [_, _], _ => rfl⟩
  have F_Gates_leaf := fun_mk (st := s_Gates_leaf) l_Gates_leaf c_Gates_leaf k_Gates_leaf
  have h_Gates_leaf := fun base : Heap => ok_leaf (P := l.prog) (w := w) (base := base) B (h_Gates__edge_of base) ⟨F_Gates_leaf, ⟨a_Gates_leaf, i_Gates_leaf, k_Gates_leaf⟩, F_Gates_leaf.binds (ps := ["self", "letter"]) fun _ _ _ _ _ _ us hl => match us, hl with | [_, _], _ => rfl⟩
  have F_Gates_both := fun_mk (st := s_Gates_both) l_Gates_both c_Gates_both k_Gates_both
  have h_Gates_both := fun base : Heap => ok_both (P := l.prog) (w := w) (base := base) B (h_opposite base) (h_Gates__edge_of base) ⟨F_Gates_both, ⟨a_Gates_both, i_Gates_both, k_Gates_both⟩, F_Gates_both.binds (ps := ["self", "a", "b"]) fun _ _ _ _ _ _ us hl => match us, hl with | [_, _, _], _ => rfl⟩
  have F__law_row := fun_mk (st := s__law_row) l__law_row c__law_row k__law_row
  have h__law_row := fun base : Heap => ok_lrow (P := l.prog) (w := w) (base := base) B  ⟨F__law_row, PySem.W.mg_of X G a__law_row, F__law_row.binds (ps := ["rows", "row"]) fun _ _ _ _ _ _ us hl => match us, hl with | [_, _], _ => rfl⟩
  have F__law_both := fun_mk (st := s__law_both) l__law_both c__law_both k__law_both
  have h__law_both := fun base : Heap => ok_lboth (P := l.prog) (w := w) (base := base) B (h__law_opposite base) (h__law_row base) ⟨F__law_both, PySem.W.mg_of X G a__law_both, F__law_both.binds (ps := ["rows", "a", "b"]) fun _ _ _ _ _ _ us hl => match us, hl with | [_, _, _], _ => rfl⟩
  have F_Gates_cone := fun_mk (st := s_Gates_cone) l_Gates_cone c_Gates_cone k_Gates_cone
  have h_Gates_cone := fun base : Heap => ok_cone (P := l.prog) (w := w) (base := base) B  ⟨F_Gates_cone, ⟨a_Gates_cone, i_Gates_cone, k_Gates_cone⟩, F_Gates_cone.binds (ps := ["self", "edges"]) fun _ _ _ _ _ _ us hl => match us, hl with | [_, _], _ => rfl⟩
  have F_Gates_gate_rows := fun_mk (st := s_Gates_gate_rows) l_Gates_gate_rows c_Gates_gate_rows k_Gates_gate_rows
  have h_Gates_gate_rows := fun base : Heap => ok_grows (P := l.prog) (w := w) (base := base) B (h_Gates_cone base) ⟨F_Gates_gate_rows, ⟨a_Gates_gate_rows, i_Gates_gate_rows, k_Gates_gate_rows⟩, F_Gates_gate_rows.binds (ps := ["self", "edges"]) fun _ _ _ _ _ _ us hl => match us, hl with | [_, _], _ => rfl⟩
  have F_Gates_hangs_on := fun_mk (st := s_Gates_hangs_on) l_Gates_hangs_on c_Gates_hangs_on k_Gates_hangs_on
  have h_Gates_hangs_on := fun base : Heap => ok_hangs (P := l.prog) (w := w) (base := base) B (h_Gates_cone base) ⟨F_Gates_hangs_on, ⟨a_Gates_hangs_on, i_Gates_hangs_on, k_Gates_hangs_on⟩, F_Gates_hangs_on.binds (ps := ["self", "edge"]) fun _ _ _ _ _ _ us hl => match us, hl with | [_, _], _ => rfl⟩
  have F__law_reached := fun_mk (st := s__law_reached) l__law_reached c__law_reached k__law_reached
  have h__law_reached := fun base : Heap => ok_reached (P := l.prog) (w := w) (base := base) B  ⟨F__law_reached, PySem.W.mg_of X G a__law_reached, F__law_reached.binds (ps := ["rows", "edges"]) fun _ _ _ _ _ _ us hl => match us, hl with | [_, _], _ => rfl⟩
  have F__law_value := fun_mk (st := s__law_value) l__law_value c__law_value k__law_value
  have h__law_value := fun base : Heap => ok_lvalue (P := l.prog) (w := w) (base := base) B  ⟨F__law_value, PySem.W.mg_of X G a__law_value, F__law_value.binds (ps := ["truths", "edge"]) fun _ _ _ _ _ _ us hl => match us, hl with | [_, _], _ => rfl⟩
  have F__law_truths := fun_mk (st := s__law_truths) l__law_truths c__law_truths k__law_truths
  have h__law_truths := fun base : Heap => ok_truths (P := l.prog) (w := w) (base := base) B (h__law_value base) ⟨F__law_truths, PySem.W.mg_of X G a__law_truths, F__law_truths.binds (ps := ["rows", "choices"]) fun _ _ _ _ _ _ us hl => match us, hl with | [_, _], _ => rfl⟩
  have F_Gates_worths := fun_mk (st := s_Gates_worths) l_Gates_worths c_Gates_worths k_Gates_worths
  have h_Gates_worths := fun base : Heap => ok_worths (P := l.prog) (w := w) (base := base) B (h_Gates_cone base) ⟨F_Gates_worths, ⟨a_Gates_worths, i_Gates_worths, k_Gates_worths⟩, F_Gates_worths.binds (ps := ["self", "edges", "choices"]) fun _ _ _ _ _ _ us hl => match us, hl with | [_, _, _], _ => rfl⟩
  have F__law_order := fun_mk (st := s__law_order) l__law_order c__law_order k__law_order
  have h__law_order := fun base : Heap => ok_order (P := l.prog) (w := w) (base := base) B (h__law_take base) ⟨F__law_order, PySem.W.mg_of X G a__law_order, F__law_order.binds (ps := ["script", "source"]) fun _ _ _ _ _ _ us hl => match us, hl with | [_, _], _ => rfl⟩
  have F__law_both_of := fun_mk (st := s__law_both_of) l__law_both_of c__law_both_of k__law_both_of
  have h__law_both_of := fun base : Heap => ok_bothof (P := l.prog) (w := w) (base := base) B (h__law_both base) (h_Gates_both base) ⟨F__law_both_of, PySem.W.mg_of X G a__law_both_of, F__law_both_of.binds (ps := ["gates", "rows", "a", "b"]) fun _ _ _ _ _ _ us hl => match us, hl with | [_, _, _, _], _ => rfl⟩
  have F__law_edge := fun_mk (st := s__law_edge) l__law_edge c__law_edge k__law_edge
  have h__law_edge := fun base : Heap => ok_ledge (P := l.prog) (w := w) (base := base) B (h__law_take base) (h__law_opposite base) (h__law_row base) (h_Gates_leaf base) (h__law_both_of base) ⟨F__law_edge, PySem.W.mg_of X G a__law_edge, F__law_edge.binds (ps := ["script", "source", "gates", "rows", "ahead"]) fun _ _ _ _ _ _ us hl => match us, hl with | [_, _, _, _, _], _ => rfl⟩
  have F_other := fun_mk (st := s_other) l_other c_other k_other
  have h_other := fun base : Heap => ok_other (P := l.prog) (w := w) (base := base) B  ⟨F_other, PySem.W.mg_of X G a_other, F_other.binds (ps := ["side"]) fun _ _ _ _ _ _ us hl => match us, hl with | [_], _ => rfl⟩
  have F_Plan___init__ := fun_mk (st := s_Plan___init__) l_Plan___init__ c_Plan___init__ k_Plan___init__
  have h_Plan := fun base : Heap => ok_pinit (P := l.prog) (w := w) (base := base) B  ⟨F_Plan___init__, ⟨mk_Plan, a_Plan___init__, i_Plan___init__, kc_Plan⟩, PySem.W.mg_of X G ac_Plan, F_Plan___init__.binds (ps := ["self", "side", "gates", "table"]) fun _ _ _ _ _ _ us hl => match us, hl with | [_, _, _, _], _ => rfl⟩
  have F_Plan_edges := fun_mk (st := s_Plan_edges) l_Plan_edges c_Plan_edges k_Plan_edges
  have h_Plan_edges := fun base : Heap => ok_edges (P := l.prog) (w := w) (base := base) B  ⟨F_Plan_edges, ⟨a_Plan_edges, i_Plan_edges, k_Plan_edges⟩, F_Plan_edges.binds (ps := ["self"]) fun _ _ _ _ _ _ us hl => match us, hl with | [_], _ => rfl⟩
  have F_Plan_gate_count := fun_mk (st := s_Plan_gate_count) l_Plan_gate_count c_Plan_gate_count k_Plan_gate_count
  have h_Plan_gate_count := fun base : Heap => ok_count (P := l.prog) (w := w) (base := base) B (h_Plan_edges base) (h_Gates_gate_rows base) ⟨F_Plan_gate_count, ⟨a_Plan_gate_count, i_Plan_gate_count, k_Plan_gate_count⟩, F_Plan_gate_count.binds (ps := ["self"]) fun _ _ _ _ _ _ us hl => match us, hl with | [_], _ => rfl⟩
  have F_Plan_answers := fun_mk (st := s_Plan_answers) l_Plan_answers c_Plan_answers k_Plan_answers
  have h_Plan_answers := fun base : Heap => ok_answers (P := l.prog) (w := w) (base := base) B (h_Plan_edges base) (h_Gates_worths base) ⟨F_Plan_answers, ⟨a_Plan_answers, i_Plan_answers, k_Plan_answers⟩, F_Plan_answers.binds (ps := ["self", "given"]) fun _ _ _ _ _ _ us hl => match us, hl with | [_, _], _ => rfl⟩
  have F__law_answers := fun_mk (st := s__law_answers) l__law_answers c__law_answers k__law_answers
  have h__law_answers := fun base : Heap => ok_lanswers (P := l.prog) (w := w) (base := base) B (h_Plan_answers base) (h__law_truths base) (h__law_value base) ⟨F__law_answers, PySem.W.mg_of X G a__law_answers, F__law_answers.binds (ps := ["plan", "rows", "table", "given"]) fun _ _ _ _ _ _ us hl => match us, hl with | [_, _, _, _], _ => rfl⟩
  have F_Plan_misfit := fun_mk (st := s_Plan_misfit) l_Plan_misfit c_Plan_misfit k_Plan_misfit
  have h_Plan_misfit := fun base : Heap => ok_misfit (P := l.prog) (w := w) (base := base) B (h_other base) (h_Gates_hangs_on base) ⟨F_Plan_misfit, ⟨a_Plan_misfit, i_Plan_misfit, k_Plan_misfit⟩, F_Plan_misfit.binds (ps := ["self", "order"]) fun _ _ _ _ _ _ us hl => match us, hl with | [_, _], _ => rfl⟩
  have F__law_misfit := fun_mk (st := s__law_misfit) l__law_misfit c__law_misfit k__law_misfit
  have h__law_misfit := fun base : Heap => ok_lmisfit (P := l.prog) (w := w) (base := base) B (h__law_reached base) ⟨F__law_misfit, PySem.W.mg_of X G a__law_misfit, F__law_misfit.binds (ps := ["rows", "order", "side", "table"]) fun _ _ _ _ _ _ us hl => match us, hl with | [_, _, _, _], _ => rfl⟩
  have F__law_fault := fun_mk (st := s__law_fault) l__law_fault c__law_fault k__law_fault
  have h__law_fault := fun base : Heap => ok_fault (P := l.prog) (w := w) (base := base) B (h__law_take base) (h__law_opposite base) (h__law_row base) (h_Gates_leaf base) (h__law_both_of base) ⟨F__law_fault, PySem.W.mg_of X G a__law_fault, F__law_fault.binds (ps := ["script", "source", "gates", "rows", "order", "side", "table"]) fun _ _ _ _ _ _ us hl => match us, hl with | [_, _, _, _, _, _, _], _ => rfl⟩
  have F_law := fun_mk (st := s_law) l_law c_law k_law
  exact ⟨PySem.W.fnOf "law" "law" (defArgs s_law) (defBody s_law) (defScope s_law) .none kV_law dc_law pm_law an_law cd_law ct_law, fun s v => .of_eq rfl, fun base _ _ => ok_law (P := l.prog) (w := w) (base := base) B (h__law_seed base) (h__law_order base) (h__law_take base) (h_Gates base) (h_Plan base) (h__law_edge base) (h_Plan_misfit base) (h__law_fault base) (h__law_misfit base) (h_Plan_gate_count base) (h__law_reached base) (h__law_answers base) ⟨F_law, PySem.W.mg_of X G a_law, F_law.binds (ps := ["script"]) fun _ _ _ _ _ _ us hl => match us, hl with | [_], _ => rfl⟩⟩
theorem walk {l : PySem.W.OpenLaw} {q : Program} {loose : List Str} {XP : (Str → Option Value) → Heap → Prop} {YP : World → Heap → Prop} {d : DefRec} {K : Params → PySem.W.Frag} (hn : l.most = some 63) (hdf : d.params.defaults = [])
    (hY : ∀ (w : World) (h : Heap), YP w h → (K w.params).In h)
    (F : ∀ (w : World) (mg : Str → Option Value) (fa : Addr) (h : Heap), (K w.params).In h → h.Ns mainGlobals mg → mg d.name = some (.ref fa) →
      ∃ fd : FuncData, (∀ (s : Shared) (u : Value), BindsTo s fd ⟨[u], []⟩ [("script", u)]) ∧ ∀ base : Heap, (K w.params).In base → base.Ns mainGlobals mg → FnOk l.prog w (K w.params) mg base CX0 5 fa fd ["script"] (spLaw (K w.params))) :
    PySem.W.WalkO q loose XP YP l.row.toRowW d [] (fun f vs => PySem.call f vs) :=
  L2.walk_of (n := 63) (k := 5) (x := "script") (CX := fun _ => CX0) (sp := fun w => spLaw (K w.params)) hn (by decide) hdf ⟨rfl, by decide, by decide⟩ hY F (fun _ H a ns hl ho hS => sp_law hl ho hS) fun _ _ _ _ _ z => z
end K
set_option maxRecDepth 100000
set_option maxHeartbeats 0
open PySem PySem.W PyProof.Rows in
theorem PySem.Challenge.cw_someandall_k89_plans_that_fit_holds : PySem.Challenge.rw_someandall_k89_plans_that_fit.Holds := by
  w_on; o_law; k_head; (case hw => w_witness2)
  k_fill
  refine K.walk (l := PySem.Challenge.rw_someandall_k89_plans_that_fit) rfl rfl (fun w h Y => PySem.W.kIn_of Y) ?F
  case F =>
    intro w mg fa h KX G hmg
    refine' K.all_mk KX G hmg ?ac_Plan ?mk_Plan ?kc_Plan ?ac_Gates ?mk_Gates ?kc_Gates ?z_len ?z_abs ?z_int ?z_min ?z_max ?z_range ?z_list ?z_dict ?z_sorted ?z_zip ?z_isinstance ?z_bool ?q_NO ?q_YES ?q_SOME ?q_ALL ?pg_Plan ?hd_Plan ?po_Plan ?sa_Plan ?pg_Gates ?hd_Gates ?po_Gates ?sa_Gates ?na_rows ?na_known ?na_side ?na_gates ?na_table ?a__law_seed ?l__law_seed ?c__law_seed ?k__law_seed ?a__law_take ?l__law_take ?c__law_take ?k__law_take ?a_opposite ?l_opposite ?c_opposite ?k_opposite ?a__law_opposite ?l__law_opposite ?c__law_opposite ?k__law_opposite ?a_Gates___init__ ?i_Gates___init__ ?l_Gates___init__ ?c_Gates___init__ ?k_Gates___init__ ?a_Gates__edge_of ?i_Gates__edge_of ?l_Gates__edge_of ?c_Gates__edge_of ?k_Gates__edge_of ?a_Gates_leaf ?i_Gates_leaf ?l_Gates_leaf ?c_Gates_leaf ?k_Gates_leaf ?a_Gates_both ?i_Gates_both ?l_Gates_both ?c_Gates_both ?k_Gates_both ?a__law_row ?l__law_row ?c__law_row ?k__law_row ?a__law_both ?l__law_both ?c__law_both ?k__law_both ?a_Gates_cone ?i_Gates_cone ?l_Gates_cone ?c_Gates_cone ?k_Gates_cone ?a_Gates_gate_rows ?i_Gates_gate_rows ?l_Gates_gate_rows ?c_Gates_gate_rows ?k_Gates_gate_rows ?a_Gates_hangs_on ?i_Gates_hangs_on ?l_Gates_hangs_on ?c_Gates_hangs_on ?k_Gates_hangs_on ?a__law_reached ?l__law_reached ?c__law_reached ?k__law_reached ?a__law_value ?l__law_value ?c__law_value ?k__law_value ?a__law_truths ?l__law_truths ?c__law_truths ?k__law_truths ?a_Gates_worths ?i_Gates_worths ?l_Gates_worths ?c_Gates_worths ?k_Gates_worths ?a__law_order ?l__law_order ?c__law_order ?k__law_order ?a__law_both_of ?l__law_both_of ?c__law_both_of ?k__law_both_of ?a__law_edge ?l__law_edge ?c__law_edge ?k__law_edge ?a_other ?l_other ?c_other ?k_other ?a_Plan___init__ ?i_Plan___init__ ?l_Plan___init__ ?c_Plan___init__ ?k_Plan___init__ ?a_Plan_edges ?i_Plan_edges ?l_Plan_edges ?c_Plan_edges ?k_Plan_edges ?a_Plan_gate_count ?i_Plan_gate_count ?l_Plan_gate_count ?c_Plan_gate_count ?k_Plan_gate_count ?a_Plan_answers ?i_Plan_answers ?l_Plan_answers ?c_Plan_answers ?k_Plan_answers ?a__law_answers ?l__law_answers ?c__law_answers ?k__law_answers ?a_Plan_misfit ?i_Plan_misfit ?l_Plan_misfit ?c_Plan_misfit ?k_Plan_misfit ?a__law_misfit ?l__law_misfit ?c__law_misfit ?k__law_misfit ?a__law_fault ?l__law_fault ?c__law_fault ?k__law_fault ?a_law ?l_law ?c_law ?k_law
    (case ac_Plan => k_is)
    (case mk_Plan => k_is)
    (case kc_Plan => k_is)
    (case ac_Gates => k_is)
    (case mk_Gates => k_is)
    (case kc_Gates => k_is)
    (case z_len => k_is)
    (case z_abs => k_is)
    (case z_int => k_is)
    (case z_min => k_is)
    (case z_max => k_is)
    (case z_range => k_is)
    (case z_list => k_is)
    (case z_dict => k_is)
    (case z_sorted => k_is)
    (case z_zip => k_is)
    (case z_isinstance => k_is)
    (case z_bool => k_is)
    (case q_NO => k_is)
    (case q_YES => k_is)
    (case q_SOME => k_is)
    (case q_ALL => k_is)
    (case pg_Plan => k_is)
    (case hd_Plan => k_is)
    (case po_Plan => k_is)
    (case sa_Plan => k_is)
    (case pg_Gates => k_is)
    (case hd_Gates => k_is)
    (case po_Gates => k_is)
    (case sa_Gates => k_is)
    (case na_rows => k_is)
    (case na_known => k_is)
    (case na_side => k_is)
    (case na_gates => k_is)
    (case na_table => k_is)
    (case a__law_seed => k_is)
    (case l__law_seed => k_is)
    (case c__law_seed => k_is)
    (case k__law_seed => k_is)
    (case a__law_take => k_is)
    (case l__law_take => k_is)
    (case c__law_take => k_is)
    (case k__law_take => k_is)
    (case a_opposite => k_is)
    (case l_opposite => k_is)
    (case c_opposite => k_is)
    (case k_opposite => k_is)
    (case a__law_opposite => k_is)
    (case l__law_opposite => k_is)
    (case c__law_opposite => k_is)
    (case k__law_opposite => k_is)
    (case a_Gates___init__ => k_is)
    (case i_Gates___init__ => k_is)
    (case l_Gates___init__ => k_is)
    (case c_Gates___init__ => k_is)
    (case k_Gates___init__ => k_is)
    (case a_Gates__edge_of => k_is)
    (case i_Gates__edge_of => k_is)
    (case l_Gates__edge_of => k_is)
    (case c_Gates__edge_of => k_is)
    (case k_Gates__edge_of => k_is)
    (case a_Gates_leaf => k_is)
    (case i_Gates_leaf => k_is)
    (case l_Gates_leaf => k_is)
    (case c_Gates_leaf => k_is)
    (case k_Gates_leaf => k_is)
    (case a_Gates_both => k_is)
    (case i_Gates_both => k_is)
    (case l_Gates_both => k_is)
    (case c_Gates_both => k_is)
    (case k_Gates_both => k_is)
    (case a__law_row => k_is)
    (case l__law_row => k_is)
    (case c__law_row => k_is)
    (case k__law_row => k_is)
    (case a__law_both => k_is)
    (case l__law_both => k_is)
    (case c__law_both => k_is)
    (case k__law_both => k_is)
    (case a_Gates_cone => k_is)
    (case i_Gates_cone => k_is)
    (case l_Gates_cone => k_is)
    (case c_Gates_cone => k_is)
    (case k_Gates_cone => k_is)
    (case a_Gates_gate_rows => k_is)
    (case i_Gates_gate_rows => k_is)
    (case l_Gates_gate_rows => k_is)
    (case c_Gates_gate_rows => k_is)
    (case k_Gates_gate_rows => k_is)
    (case a_Gates_hangs_on => k_is)
    (case i_Gates_hangs_on => k_is)
    (case l_Gates_hangs_on => k_is)
    (case c_Gates_hangs_on => k_is)
    (case k_Gates_hangs_on => k_is)
    (case a__law_reached => k_is)
    (case l__law_reached => k_is)
    (case c__law_reached => k_is)
    (case k__law_reached => k_is)
    (case a__law_value => k_is)
    (case l__law_value => k_is)
    (case c__law_value => k_is)
    (case k__law_value => k_is)
    (case a__law_truths => k_is)
    (case l__law_truths => k_is)
    (case c__law_truths => k_is)
    (case k__law_truths => k_is)
    (case a_Gates_worths => k_is)
    (case i_Gates_worths => k_is)
    (case l_Gates_worths => k_is)
    (case c_Gates_worths => k_is)
    (case k_Gates_worths => k_is)
    (case a__law_order => k_is)
    (case l__law_order => k_is)
    (case c__law_order => k_is)
    (case k__law_order => k_is)
    (case a__law_both_of => k_is)
    (case l__law_both_of => k_is)
    (case c__law_both_of => k_is)
    (case k__law_both_of => k_is)
    (case a__law_edge => k_is)
    (case l__law_edge => k_is)
    (case c__law_edge => k_is)
    (case k__law_edge => k_is)
    (case a_other => k_is)
    (case l_other => k_is)
    (case c_other => k_is)
    (case k_other => k_is)
    (case a_Plan___init__ => k_is)
    (case i_Plan___init__ => k_is)
    (case l_Plan___init__ => k_is)
    (case c_Plan___init__ => k_is)
    (case k_Plan___init__ => k_is)
    (case a_Plan_edges => k_is)
    (case i_Plan_edges => k_is)
    (case l_Plan_edges => k_is)
    (case c_Plan_edges => k_is)
    (case k_Plan_edges => k_is)
    (case a_Plan_gate_count => k_is)
    (case i_Plan_gate_count => k_is)
    (case l_Plan_gate_count => k_is)
    (case c_Plan_gate_count => k_is)
    (case k_Plan_gate_count => k_is)
    (case a_Plan_answers => k_is)
    (case i_Plan_answers => k_is)
    (case l_Plan_answers => k_is)
    (case c_Plan_answers => k_is)
    (case k_Plan_answers => k_is)
    (case a__law_answers => k_is)
    (case l__law_answers => k_is)
    (case c__law_answers => k_is)
    (case k__law_answers => k_is)
    (case a_Plan_misfit => k_is)
    (case i_Plan_misfit => k_is)
    (case l_Plan_misfit => k_is)
    (case c_Plan_misfit => k_is)
    (case k_Plan_misfit => k_is)
    (case a__law_misfit => k_is)
    (case l__law_misfit => k_is)
    (case c__law_misfit => k_is)
    (case k__law_misfit => k_is)
    (case a__law_fault => k_is)
    (case l__law_fault => k_is)
    (case c__law_fault => k_is)
    (case k__law_fault => k_is)
    (case a_law => k_is)
    (case l_law => k_is)
    (case c_law => k_is)
    (case k_law => k_is)

end
